import PyProof.Rows.All
import Wide.All
import OpenK.AllK
import Wide.FinOn
import HandS.ForMost
import HandS.SortOrd
import HandS.SortInts
import HandS.Deep
import HandS.Wide
import HandS.IsInst
import HandS.TupAny
import HandS.Conv
import HandS.TupMul
import HandS.SetFor
import HandS.Strs
import HandS.Iter
import HandS.Style
import HandS.Gcd
import HandS.More
import KE.SortData
import KE.DataMinMax
import HandS.TupSets
import KE.DataCmp
import PyProof.SumAny
import KE.DatumOrd
import PySem.Challenge.RW_heardbyall_k55_layers_for_hearers
-- V1
set_option Elab.async false
set_option linter.all false
set_option maxRecDepth 100000
set_option maxHeartbeats 4000000
namespace Vl
open PySem L2

abbrev PD := PyData
abbrev Fg := PySem.W.Frag

section
variable {K : Fg} {H H' G G' : Hp} {a : Addr}
theorem rdM {u : HO} (s : Same H H') (h : Rd H a u) : Rd H' a u := by
  rcases h with h | ⟨o, h⟩
  · exact Or.inl (s a _ h)
  · exact Or.inr ⟨o, s a _ h⟩
theorem sqlM {xs : List V} (s : Same H H') (h : SqL K H a xs) : SqL K H' a xs := s.seq h
theorem sqtM {xs : List V} (s : Same H H') (h : SqT K H a xs) : SqT K H' a xs := by
  rcases h with h | h
  · exact Or.inl (rdM s h)
  · exact Or.inr h
mutual
theorem dpM (s : Same H H') : ∀ (d : PD) (v : V), Dp K H v d → Dp K H' v d
  | .none, _, h => by cases h; exact Dp.non
  | .bool b, _, h => by cases h; exact Dp.bl b
  | .int i, _, h => by cases h; exact Dp.int i
  | .str x, _, h => by cases h; exact Dp.str x
  | .list ds, _, h => by
    cases h with
    | lst q r => exact Dp.lst (sqlM s q) (dpaM s ds _ r)
  | .tuple ds, _, h => by
    cases h with
    | tup q r => exact Dp.tup (sqtM s q) (dpaM s ds _ r)
  | .dict _, _, h => nomatch h
theorem dpaM (s : Same H H') : ∀ (ds : List PD) (vs : List V), DpAll K H vs ds → DpAll K H' vs ds
  | [], _, h => by cases h; exact DpAll.nil
  | d :: ds, _, h => by
    cases h with
    | cons q r => exact DpAll.cons (dpM s d _ q) (dpaM s ds _ r)
end

/-- the top in H, the items in G -/
def It (K : Fg) (H G : Hp) (v : V) : PD → Prop
  | .list ds => ∃ a xs, v = .ref a ∧ SqL K H a xs ∧ DpAll K G xs ds
  | d => Dp K G v d
theorem itM {v : V} {d : PD} (s : Same H H') (t : Same G G') (h : It K H G v d) : It K H' G' v d := by
  cases d with
  | list ds => obtain ⟨a, xs, e, q, r⟩ := h; exact ⟨a, xs, e, sqlM s q, dpaM t _ _ r⟩
  | tuple ds => exact dpM t _ _ h
  | none => exact dpM t _ _ h
  | bool b => exact dpM t _ _ h
  | int i => exact dpM t _ _ h
  | str x => exact dpM t _ _ h
  | dict z => exact dpM t _ _ h
theorem it_dp {v : V} {d : PD} : It K G G v d ↔ Dp K G v d := by
  cases d with
  | list ds =>
    constructor
    · rintro ⟨a, xs, rfl, q, r⟩; exact Dp.lst q r
    · intro h; cases h with | lst q r => exact ⟨_, _, rfl, q, r⟩
  | tuple ds => exact Iff.rfl
  | none => exact Iff.rfl
  | bool b => exact Iff.rfl
  | int i => exact Iff.rfl
  | str x => exact Iff.rfl
  | dict z => exact Iff.rfl
theorem it_up {v : V} {d : PD} (t : Same G H) (h : It K H G v d) : Dp K H v d := it_dp.mp (itM (Same.refl H) t h)
end

/-- an object that is changed: a list, a dict with int and text keys, one with tuples of such -/
inductive Obj where
  | ol (xs : List PD)
  | od (kvs : List (Key × PD))
  | ot (kvs : List (List Key × PD))
  | fk (kvs : List (Key × PD))
def ObjAt (K : Fg) (G H : Hp) (a : Addr) : Obj → Prop
  | .ol xs => ∃ vs, H a = some (.lst vs) ∧ DpAll K G vs xs
  | .od kvs => ∃ ps, H a = some (.dK ps) ∧ Paired (fun (p : Key × V) (q : Key × PD) => p.1 = q.1 ∧ Dp K G p.2 q.2) ps kvs
  | .ot kvs => ∃ ps, H a = some (.dT ps) ∧ Paired (fun (p : List Key × V) (q : List Key × PD) => p.1 = q.1 ∧ Dp K G p.2 q.2) ps kvs
  | .fk kvs => ∃ o ps, H a = some (.frz o (.dK ps)) ∧ Paired (fun (p : Key × V) (q : Key × PD) => p.1 = q.1 ∧ Dp K G p.2 q.2) ps kvs
theorem objM {K : Fg} {G G' H H' : Hp} {a : Addr} {o : Obj} (t : Same G G') (e : H' a = H a) (h : ObjAt K G H a o) : ObjAt K G' H' a o := by
  cases o with
  | ol xs => obtain ⟨vs, q, r⟩ := h; exact ⟨vs, e.trans q, dpaM t _ _ r⟩
  | od kvs => obtain ⟨vs, q, r⟩ := h; exact ⟨vs, e.trans q, Paired.mapP r fun p z ⟨x, y⟩ => ⟨x, dpM t _ _ y⟩⟩
  | ot kvs => obtain ⟨vs, q, r⟩ := h; exact ⟨vs, e.trans q, Paired.mapP r fun p z ⟨x, y⟩ => ⟨x, dpM t _ _ y⟩⟩
  | fk kvs => obtain ⟨o, vs, q, r⟩ := h; exact ⟨o, vs, e.trans q, Paired.mapP r fun p z ⟨x, y⟩ => ⟨x, dpM t _ _ y⟩⟩
theorem objS {K : Fg} {G H : Hp} {a : Addr} {o : Obj} (h : ObjAt K G H a o) : H a ≠ none := by
  cases o with
  | ol xs => obtain ⟨vs, q, r⟩ := h; rw [q]; exact nofun
  | od kvs => obtain ⟨vs, q, r⟩ := h; rw [q]; exact nofun
  | ot kvs => obtain ⟨vs, q, r⟩ := h; rw [q]; exact nofun
  | fk kvs => obtain ⟨o, vs, q, r⟩ := h; rw [q]; exact nofun

/-- what a name holds: nothing known; a lasting value; an object of its own; an object lent by the caller -/
inductive Slot where
  | un | dur (d : PD) | own (o : Obj) | io (o : Obj) | rw (xss : List (List PD))
abbrev AS := List Slot
abbrev Ow := Addr → Option (Option Nat)
def SlotR (K : Fg) (G H : Hp) (ow : Ow) (pin : Nat → Addr) (i : Nat) (z : Option (Option V)) : Slot → Prop
  | .un => True
  | .dur d => ∃ v, z = some (some v) ∧ Dp K G v d
  | .own o => ∃ a, z = some (some (.ref a)) ∧ ow a = some (some i) ∧ ObjAt K G H a o
  | .io o => ∃ a, z = some (some (.ref a)) ∧ ow a = some (some i) ∧ pin i = a ∧ ObjAt K G H a o
  | .rw xss => ∃ a bs, z = some (some (.ref a)) ∧ ow a = some (some i) ∧ H a = some (.lst (bs.map .ref)) ∧ (a :: bs).Nodup ∧ Paired (fun (b : Addr) (xs : List PD) => ow b = some (some i) ∧ ∃ vs, H b = some (.lst vs) ∧ DpAll K G vs xs) bs xss
/-- the lasting part of the heap -/
def Hd (ow : Ow) (G H0 H : Hp) : Hp := fun a => if ow a = none then (if H0 a = none then H a else G a) else none
structure SR (K : Fg) (G H0 : Hp) (pin : Nat → Addr) (ow : Ow) (σ : L2.St) (H : Hp) (as : AS) : Prop where
  len : as.length = σ.length
  own : ∀ a o, ow a = some o → H0 a = none ∧ H a ≠ none
  same : Same H0 H
  sub : Same G H0
  slot : ∀ i s, as[i]? = some s → SlotR K (Hd ow G H0 H) H ow pin i (σ[i]?) s
structure Stp (G H0 : Hp) (ow : Ow) (H : Hp) (ow' : Ow) (H' : Hp) : Prop where
  dur : Same (Hd ow G H0 H) (Hd ow' G H0 H')
  tmp : ∀ a, ow a = some none → ow' a = some none ∧ H' a = H a
  dom : ∀ a, H a ≠ none → H' a ≠ none
theorem Stp.refl {G H0 : Hp} {ow : Ow} {H : Hp} : Stp G H0 ow H ow H := ⟨Same.refl _, fun _ h => ⟨h, rfl⟩, fun _ h => h⟩
theorem Stp.trans {G H0 : Hp} {ow ow1 ow2 : Ow} {H H1 H2 : Hp} (a : Stp G H0 ow H ow1 H1) (b : Stp G H0 ow1 H1 ow2 H2) : Stp G H0 ow H ow2 H2 :=
  ⟨a.dur.trans b.dur, fun x h => ⟨(b.tmp x (a.tmp x h).1).1, (b.tmp x (a.tmp x h).1).2.trans (a.tmp x h).2⟩, fun x h => b.dom x (a.dom x h)⟩
section
variable {K : Fg} {G H0 H H' : Hp} {pin : Nat → Addr} {ow ow' : Ow} {σ : L2.St} {as : AS}
theorem SR.hd (S : SR K G H0 pin ow σ H as) : Same (Hd ow G H0 H) H := fun b o e => by
  unfold Hd at e
  split at e
  · split at e
    · exact e
    · exact S.same _ _ (S.sub _ _ e)
  · cases e
theorem hd_free {a : Addr} (h : ow a ≠ none) : Hd ow G H0 H a = none := by
  unfold Hd; rw [if_neg h]
theorem SR.free (S : SR K G H0 pin ow σ H as) {a : Addr} (h : H a = none) : ow a = none ∧ H0 a = none := by
  constructor
  · cases e : ow a with
    | none => rfl
    | some o => exact absurd h (S.own a o e).2
  · exact S.same.free h
/-- nothing that stands has changed -/
theorem SR.grow (S : SR K G H0 pin ow σ H as) (s : Same H H') : SR K G H0 pin ow σ H' as ∧ Stp G H0 ow H ow H' := by
  have hs : Same (Hd ow G H0 H) (Hd ow G H0 H') := fun b o e => by
    unfold Hd at e ⊢
    split at e
    · rename_i h1
      rw [if_pos h1]
      split at e
      · rename_i h2
        rw [if_pos h2]; exact s b o e
      · rename_i h2
        rw [if_neg h2]; exact e
    · cases e
  have hk : ∀ a, ow a ≠ none → H' a = H a := fun a h => by
    cases e : ow a with
    | none => exact absurd e h
    | some o =>
      cases q : H a with
      | none => exact absurd q (S.own a o e).2
      | some x => rw [s a x q]
  refine ⟨⟨S.len, fun a o e => ⟨(S.own a o e).1, ?_⟩, S.same.trans s, S.sub, fun i z h => ?_⟩, ⟨hs, fun a h => ⟨h, hk a (by rw [h]; exact nofun)⟩, fun a h => ?_⟩⟩
  · rw [hk a (by rw [e]; exact nofun)]; exact (S.own a o e).2
  · have q := S.slot i z h
    cases z with
    | un => trivial
    | dur d => obtain ⟨v, e, r⟩ := q; exact ⟨v, e, dpM hs _ _ r⟩
    | own o => obtain ⟨a, e, w, r⟩ := q; exact ⟨a, e, w, objM hs (hk a (by rw [w]; exact nofun)) r⟩
    | io o => obtain ⟨a, e, w, g, r⟩ := q; exact ⟨a, e, w, g, objM hs (hk a (by rw [w]; exact nofun)) r⟩
    | rw xss => obtain ⟨a, bs, e, w, l, nd, r⟩ := q; exact ⟨a, bs, e, w, (hk a (by rw [w]; exact nofun)).trans l, nd, Paired.mapP r fun b xs ⟨w2, vs, e2, r2⟩ => ⟨w2, vs, (hk b (by rw [w2]; exact nofun)).trans e2, dpaM hs _ _ r2⟩⟩
  · cases q : H a with
    | none => exact absurd q h
    | some x => rw [s a x q]; exact nofun
end

abbrev M (α : Type) := AS → Option (α × AS)
inductive Lv | B | I | D
def LvR (l : Lv) (K : Fg) (Hd H : Hp) (v : V) (d : PD) : Prop := match l with
  | .B => Dp K H v d
  | .I => It K H Hd v d
  | .D => Dp K Hd v d
theorem lvM {l : Lv} {K : Fg} {Hd Hd' H H' : Hp} {v : V} {d : PD} (s : Same Hd Hd') (t : l = .D ∨ Same H H') (h : LvR l K Hd H v d) : LvR l K Hd' H' v d := by
  cases l with
  | B => rcases t with t | t
         · cases t
         · exact dpM t _ _ h
  | I => rcases t with t | t
         · cases t
         · exact itM t s h
  | D => exact dpM s _ _ h
/-- an expression's value -/
structure EV (X : Cx) (p : Bool) (l : Lv) (e : Expr) (m : M PD) : Prop where
  pur : p = true → ∀ as r as', m as = some (r, as') → as' = as
  ok : ∃ t, PE X e t ∧ ∀ (G H0 : Hp) (pin : Nat → Addr) (ow : Ow) (σ : L2.St) (H : Hp) (as : AS) (r : PD) (as' : AS) (Q : VK), SR X.K G H0 pin ow σ H as → m as = some (r, as') →
    (∀ v H' ow', Stp G H0 ow H ow' H' → (p = true → Same H H') → SR X.K G H0 pin ow' σ H' as' → LvR l X.K (Hd ow' G H0 H') H' v r → Q v H') → t σ H Q
structure ET (X : Cx) (p : Bool) (e : Expr) (m : M Bool) : Prop where
  pur : p = true → ∀ as r as', m as = some (r, as') → as' = as
  ok : ∃ t, PT X e t ∧ ∀ (G H0 : Hp) (pin : Nat → Addr) (ow : Ow) (σ : L2.St) (H : Hp) (as : AS) (r : Bool) (as' : AS) (Q : Bool → Hp → Prop), SR X.K G H0 pin ow σ H as → m as = some (r, as') →
    (∀ H' ow', Stp G H0 ow H ow' H' → (p = true → Same H H') → SR X.K G H0 pin ow' σ H' as' → Q r H') → t σ H Q
inductive Res where
  | val (d : PD) | obj (o : Obj)
def FR (K : Fg) (G H0 : Hp) (ow : Ow) (H : Hp) (ow' : Ow) (H' : Hp) (v : V) : Res → Prop
  | .val d => Dp K (Hd ow' G H0 H') v d
  | .obj o => ∃ a, v = .ref a ∧ ow a ≠ some none ∧ ow' a = some none ∧ ObjAt K (Hd ow' G H0 H') H' a o
/-- an expression whose value may be a new object -/
structure EF (X : Cx) (p : Bool) (e : Expr) (m : M Res) : Prop where
  pur : p = true → ∀ as r as', m as = some (r, as') → as' = as
  ok : ∃ t, PE X e t ∧ ∀ (G H0 : Hp) (pin : Nat → Addr) (ow : Ow) (σ : L2.St) (H : Hp) (as : AS) (r : Res) (as' : AS) (Q : VK), SR X.K G H0 pin ow σ H as → m as = some (r, as') →
    (∀ v H' ow', Stp G H0 ow H ow' H' → (p = true → Same H H') → SR X.K G H0 pin ow' σ H' as' → FR X.K G H0 ow H ow' H' v r → Q v H') → t σ H Q
def LvRs (l : Lv) (K : Fg) (Hd H : Hp) : List V → List PD → Prop := Paired (LvR l K Hd H)
/-- arguments -/
structure EA (X : Cx) (p : Bool) (l : Lv) (es : List Expr) (m : M (List PD)) : Prop where
  pur : p = true → ∀ as r as', m as = some (r, as') → as' = as
  ok : ∃ t, PA X es t ∧ ∀ (G H0 : Hp) (pin : Nat → Addr) (ow : Ow) (σ : L2.St) (H : Hp) (as : AS) (r : List PD) (as' : AS) (Q : List V → Hp → Prop), SR X.K G H0 pin ow σ H as → m as = some (r, as') →
    (∀ vs H' ow', Stp G H0 ow H ow' H' → (p = true → Same H H') → SR X.K G H0 pin ow' σ H' as' → LvRs l X.K (Hd ow' G H0 H') H' vs r → Q vs H') → t σ H Q
end Vl

-- V2
set_option Elab.async false
set_option linter.all false
set_option maxRecDepth 100000
set_option maxHeartbeats 4000000
namespace Vl
open PySem L2

def mPure {α : Type} (a : α) : M α := fun as => some (a, as)
def mBind {α β : Type} (m : M α) (f : α → M β) : M β := fun as => match m as with
  | none => none
  | some (a, as1) => f a as1
def mOpt {α : Type} (o : Option α) : M α := fun as => match o with
  | none => none
  | some a => some (a, as)
theorem bind_some {α β : Type} {m : M α} {f : α → M β} {as : AS} {b : β} {as' : AS} (h : mBind m f as = some (b, as')) : ∃ a as1, m as = some (a, as1) ∧ f a as1 = some (b, as') := by
  unfold mBind at h
  split at h
  · cases h
  · rename_i a as1 e
    exact ⟨a, as1, e, h⟩
theorem opt_some {α : Type} {o : Option α} {as : AS} {b : α} {as' : AS} (h : mOpt o as = some (b, as')) : o = some b ∧ as' = as := by
  unfold mOpt at h
  split at h
  · cases h
  · cases h; exact ⟨rfl, rfl⟩
theorem pure_some {α : Type} {a : α} {as : AS} {b : α} {as' : AS} (h : mPure a as = some (b, as')) : b = a ∧ as' = as := by
  cases h; exact ⟨rfl, rfl⟩

/-! ### the heap grows: what is new lasts; a new object of one's own -/
def gr (G H H' : Hp) : Hp := fun a => if H a = none then H' a else G a
def put (ow : Ow) (a : Addr) (z : Option (Option Nat)) : Ow := fun b => if b = a then z else ow b
theorem put_same {ow : Ow} {a : Addr} {z : Option (Option Nat)} : put ow a z a = z := by unfold put; rw [if_pos rfl]
theorem put_ne {ow : Ow} {a b : Addr} {z : Option (Option Nat)} (h : b ≠ a) : put ow a z b = ow b := by unfold put; rw [if_neg h]
section
variable {K : Fg} {G H0 H H' : Hp} {pin : Nat → Addr} {ow ow' : Ow} {σ : L2.St} {as : AS} {a : Addr} {o : Obj}
theorem hd_own {b : Addr} (h : ow b = none) : Hd ow G H0 H b = if H0 b = none then H b else G b := by
  unfold Hd; rw [if_pos h]
theorem SR.gr (S : SR K G H0 pin ow σ H as) (s : Same H H') : Same (gr (Hd ow G H0 H) H H') (Hd ow G H0 H') := fun b x e => by
  unfold Vl.gr at e
  split at e
  · rename_i h
    obtain ⟨h1, h2⟩ := S.free h
    rw [hd_own h1, if_pos h2]; exact e
  · exact (S.grow s).2.dur b x e
theorem slotM {G' : Hp} {z : Option (Option V)} {i : Nat} {t : Slot} (s : Same G G') (hw : ∀ b, ow b = some (some i) → ow' b = some (some i) ∧ H' b = H b) (h : SlotR K G H ow pin i z t) : SlotR K G' H' ow' pin i z t := by
  cases t with
  | un => trivial
  | dur d => obtain ⟨v, e, r⟩ := h; exact ⟨v, e, dpM s _ _ r⟩
  | own o => obtain ⟨a, e, w, r⟩ := h; exact ⟨a, e, (hw a w).1, objM s (hw a w).2 r⟩
  | io o => obtain ⟨a, e, w, g, r⟩ := h; exact ⟨a, e, (hw a w).1, g, objM s (hw a w).2 r⟩
  | rw xss => obtain ⟨a, bs, e, w, l, nd, r⟩ := h; exact ⟨a, bs, e, (hw a w).1, (hw a w).2.trans l, nd, Paired.mapP r fun b xs ⟨w2, vs, e2, r2⟩ => ⟨(hw b w2).1, vs, (hw b w2).2.trans e2, dpaM s _ _ r2⟩⟩
/-- a new object, kept apart -/
theorem SR.lay (S : SR K G H0 pin ow σ H as) (s : Same H H') (h : H a = none) (h' : H' a ≠ none) :
    SR K G H0 pin (put ow a (some none)) σ H' as ∧ Stp G H0 ow H (put ow a (some none)) H' ∧ ow a = none := by
  obtain ⟨h1, h2⟩ := S.free h
  obtain ⟨S', st⟩ := S.grow s
  have hs : Same (Hd ow G H0 H) (Hd (put ow a (some none)) G H0 H') := fun b x e => by
    have hb : b ≠ a := fun q => by
      subst q
      rw [hd_own h1, if_pos h2, h] at e; cases e
    have q := st.dur b x e
    unfold Hd at q ⊢
    rw [put_ne hb]; exact q
  refine ⟨⟨S'.len, fun b x e => ?_, S'.same, S'.sub, fun i z hz => ?_⟩, ⟨hs, fun b e => ?_, st.dom⟩, h1⟩
  · by_cases q : b = a
    · subst q; exact ⟨h2, h'⟩
    · rw [put_ne q] at e; exact S'.own b x e
  · refine slotM hs (fun b w => ?_) (S.slot i z hz)
    have q : b ≠ a := fun q => by subst q; rw [h1] at w; cases w
    refine ⟨by rw [put_ne q]; exact w, ?_⟩
    cases e : H b with
    | none => exact absurd e (S.own b _ w).2
    | some x => rw [s b x e]
  · have q : b ≠ a := fun q => by subst q; rw [h1] at e; cases e
    rw [put_ne q]; exact st.tmp b e
/-- a kept object becomes a lasting one -/
theorem SR.fix (S : SR K G H0 pin ow σ H as) (h : ow a = some none) : SR K G H0 pin (put ow a none) σ H as ∧ Same (Hd ow G H0 H) (Hd (put ow a none) G H0 H) ∧ Hd (put ow a none) G H0 H a = H a := by
  have h2 := (S.own a _ h).1
  have hs : Same (Hd ow G H0 H) (Hd (put ow a none) G H0 H) := fun b x e => by
    have hb : b ≠ a := fun q => by
      subst q
      rw [hd_free (by rw [h]; exact nofun)] at e; cases e
    unfold Hd at e ⊢
    rw [put_ne hb]; exact e
  refine ⟨⟨S.len, fun b x e => ?_, S.same, S.sub, fun i z hz => ?_⟩, hs, ?_⟩
  · by_cases q : b = a
    · subst q; rw [put_same] at e; cases e
    · rw [put_ne q] at e; exact S.own b x e
  · refine slotM hs (fun b w => ?_) (S.slot i z hz)
    have q : b ≠ a := fun q => by subst q; rw [h] at w; cases w
    exact ⟨by rw [put_ne q]; exact w, rfl⟩
  · rw [hd_own put_same, if_pos h2]
end

/-! ### changes of level -/
def Res.v : Res → Option PD
  | .val d => some d
  | .obj (.ol xs) => some (.list xs)
  | _ => none
def mV (m : M Res) : M PD := mBind m fun r => mOpt r.v
def mF (m : M PD) : M Res := mBind m fun d => mPure (.val d)
section
variable {X : Cx} {e : Expr} {p : Bool} {l : Lv} {m : M PD}
theorem EV.up (h : EV X p .D e m) : EV X p l e m := by
  obtain ⟨t, h1, h2⟩ := h.ok
  refine ⟨h.pur, t, h1, fun G H0 pin ow σ H as r as' Q S hm k => ?_⟩
  refine h2 G H0 pin ow σ H as r as' Q S hm fun v H' ow' st sm S' lv => k v H' ow' st sm S' ?_
  cases l with
  | B => exact dpM S'.hd _ _ lv
  | I => exact itM S'.hd (Same.refl _) (it_dp.mpr lv)
  | D => exact lv
theorem EV.imp (h : EV X p l e m) : EV X false l e m := by
  obtain ⟨t, h1, h2⟩ := h.ok
  exact ⟨fun z => (by cases z), t, h1, fun G H0 pin ow σ H as r as' Q S hm k => h2 G H0 pin ow σ H as r as' Q S hm fun v H' ow' st sm S' lv => k v H' ow' st (fun z => by cases z) S' lv⟩
theorem EF.imp {m : M Res} (h : EF X p e m) : EF X false e m := by
  obtain ⟨t, h1, h2⟩ := h.ok
  exact ⟨fun z => (by cases z), t, h1, fun G H0 pin ow σ H as r as' Q S hm k => h2 G H0 pin ow σ H as r as' Q S hm fun v H' ow' st sm S' lv => k v H' ow' st (fun z => by cases z) S' lv⟩
theorem EV.f (h : EV X p .D e m) : EF X p e (mF m) := by
  obtain ⟨t, h1, h2⟩ := h.ok
  refine ⟨fun z as r as' hm => ?_, t, h1, fun G H0 pin ow σ H as r as' Q S hm k => ?_⟩
  · obtain ⟨d, as1, q1, q2⟩ := bind_some hm
    obtain ⟨_, rfl⟩ := pure_some q2
    exact h.pur z _ _ _ q1
  · obtain ⟨d, as1, q1, q2⟩ := bind_some hm
    obtain ⟨rfl, rfl⟩ := pure_some q2
    exact h2 G H0 pin ow σ H as d as' Q S q1 fun v H' ow' st sm S' lv => k v H' ow' st sm S' lv
theorem EF.v {m : M Res} (h : EF X p e m) : EV X p l e (mV m) := by
  refine EV.up ?_
  obtain ⟨t, h1, h2⟩ := h.ok
  refine ⟨fun z as r as' hm => ?_, t, h1, fun G H0 pin ow σ H as r as' Q S hm k => ?_⟩
  · obtain ⟨d, as1, q1, q2⟩ := bind_some hm
    obtain ⟨_, rfl⟩ := opt_some q2
    exact h.pur z _ _ _ q1
  · obtain ⟨d, as1, q1, q2⟩ := bind_some hm
    obtain ⟨q3, rfl⟩ := opt_some q2
    refine h2 G H0 pin ow σ H as d as' Q S q1 fun v H' ow' st sm S' fr => ?_
    cases d with
    | val d => cases q3; exact k v H' ow' st sm S' fr
    | obj o =>
      obtain ⟨a, rfl, w1, w2, ob⟩ := fr
      obtain ⟨S2, s2, ha⟩ := S'.fix w2
      cases o with
      | ol xs =>
        cases q3
        obtain ⟨vs, hv, hd⟩ := ob
        refine k _ H' (put ow' a none) ⟨st.dur.trans s2, fun b hb => ?_, st.dom⟩ sm S2 (Dp.lst (SqL.of (ha.trans hv)) (dpaM s2 _ _ hd))
        have q : b ≠ a := fun q => by subst q; exact w1 hb
        rw [put_ne q]; exact st.tmp b hb
      | od _ => cases q3
      | ot _ => cases q3
      | fk _ => cases q3
end

/-! ### operations on values -/
def rm (a : Addr) (G : Hp) : Hp := fun b => if b = a then none else G b
def OkRes (K : Fg) (G H H' : Hp) (v : V) : Res → Prop
  | .val d => Dp K (gr G H H') v d
  | .obj o => ∃ a, v = .ref a ∧ H a = none ∧ ObjAt K (rm a (gr G H H')) H' a o
theorem gr_sub {G H H' : Hp} (s : Same G H) : Same G (gr G H H') := fun b x e => by
  unfold gr
  rw [if_neg (by rw [s b x e]; exact nofun)]
  exact e
theorem rm_sub {G H H' : Hp} {a : Addr} (s : Same G H) (h : H a = none) : Same G (rm a (gr G H H')) := fun b x e => by
  unfold rm
  rw [if_neg (fun q => by subst q; rw [s b x e] at h; cases h)]
  exact gr_sub s b x e
/-- r does f: a new object or a lasting value, of what stands in G -/
def R2O (K : Fg) (r : R2) (f : PD → PD → Option Res) : Prop := ∀ (G H : Hp) (x y : V) (dx dy : PD) (res : Res), Same G H → It K H G x dx → It K H G y dy → f dx dy = some res →
  ∀ Q : VK, (∀ v H', Same H H' → OkRes K G H H' v res → Q v H') → r x y H Q
/-- r does f, a value without a place -/
def nil : Hp := fun _ => none
def R2S (K : Fg) (r : R2) (f : PD → PD → Option PD) : Prop := ∀ (H : Hp) (x y : V) (dx dy : PD) (d : PD), Dp K H x dx → Dp K H y dy → f dx dy = some d →
  ∀ Q : VK, (∀ v H', Same H H' → Dp K nil v d → Q v H') → r x y H Q
def R1O (K : Fg) (r : V → Hp → VK → Prop) (f : PD → Option Res) : Prop := ∀ (G H : Hp) (x : V) (dx : PD) (res : Res), Same G H → It K H G x dx → f dx = some res →
  ∀ Q : VK, (∀ v H', Same H H' → OkRes K G H H' v res → Q v H') → r x H Q
def R1S (K : Fg) (r : V → Hp → VK → Prop) (f : PD → Option PD) : Prop := ∀ (H : Hp) (x : V) (dx : PD) (d : PD), Dp K H x dx → f dx = some d →
  ∀ Q : VK, (∀ v H', Same H H' → Dp K nil v d → Q v H') → r x H Q
def RnO (K : Fg) (r : List V → Hp → VK → Prop) (f : List PD → Option Res) : Prop := ∀ (G H : Hp) (xs : List V) (ds : List PD) (res : Res), Same G H → Paired (It K H G) xs ds → f ds = some res →
  ∀ Q : VK, (∀ v H', Same H H' → OkRes K G H H' v res → Q v H') → r xs H Q
def RnS (K : Fg) (r : List V → Hp → VK → Prop) (f : List PD → Option PD) : Prop := ∀ (H : Hp) (xs : List V) (ds : List PD) (d : PD), Paired (Dp K H) xs ds → f ds = some d →
  ∀ Q : VK, (∀ v H', Same H H' → Dp K nil v d → Q v H') → r xs H Q
theorem same_nil {H : Hp} : Same nil H := fun _ _ e => by cases e
section
variable {X : Cx} {a b : Expr} {p p1 p2 : Bool} {l l1 : Lv} {ma mb : M PD} {pos : Pos}
theorem lv_it {l : Lv} {K : Fg} {Hd H : Hp} {v : V} {d : PD} (s : Same Hd H) (hl : l ≠ .B) (h : LvR l K Hd H v d) : It K H Hd v d := by
  cases l with
  | B => exact absurd rfl hl
  | I => exact h
  | D => exact itM s (Same.refl _) (it_dp.mpr h)
theorem lv_dp {l : Lv} {K : Fg} {Hd H : Hp} {v : V} {d : PD} (s : Same Hd H) (h : LvR l K Hd H v d) : Dp K H v d := by
  cases l with
  | B => exact h
  | I => exact it_up s h
  | D => exact dpM s _ _ h
/-- what an operation gives, to its end -/
theorem fin_o {K : Fg} {G H0 H H' : Hp} {pin : Nat → Addr} {ow0 ow : Ow} {Hs : Hp} {σ : L2.St} {as : AS} {v : V} {res : Res} {Q : VK} {pp : Prop} (S : SR K G H0 pin ow σ H as) (st0 : Stp G H0 ow0 Hs ow H) (sm0 : pp → Same Hs H) (s : Same H H')
    (h : OkRes K (Hd ow G H0 H) H H' v res)
    (k : ∀ v H' ow', Stp G H0 ow0 Hs ow' H' → (pp → Same Hs H') → SR K G H0 pin ow' σ H' as → FR K G H0 ow0 Hs ow' H' v res → Q v H') : Q v H' := by
  cases res with
  | val d =>
    obtain ⟨S', st⟩ := S.grow s
    exact k v H' ow (st0.trans st) (fun z => (sm0 z).trans s) S' (dpM (S.gr s) _ _ h)
  | obj o =>
    obtain ⟨c, rfl, hn, ob⟩ := h
    obtain ⟨S', st, w⟩ := S.lay s hn (objS ob)
    have hs : Same (rm c (gr (Hd ow G H0 H) H H')) (Hd (put ow c (some none)) G H0 H') := fun b x e => by
      unfold rm at e
      split at e
      · cases e
      · rename_i hb
        have q := S.gr s b x e
        unfold Hd at q ⊢
        rw [put_ne hb]; exact q
    refine k _ H' _ (st0.trans st) (fun z => (sm0 z).trans s) S' ⟨c, rfl, fun q => ?_, put_same, objM hs rfl ob⟩
    have := (st0.tmp c q).1
    rw [w] at this; cases this
theorem fin_s {K : Fg} {G H0 H H' : Hp} {pin : Nat → Addr} {ow0 ow : Ow} {Hs : Hp} {σ : L2.St} {as : AS} {v : V} {d : PD} {Q : VK} {pp : Prop} (S : SR K G H0 pin ow σ H as) (st0 : Stp G H0 ow0 Hs ow H) (sm0 : pp → Same Hs H) (s : Same H H')
    (h : Dp K nil v d)
    (k : ∀ v H' ow', Stp G H0 ow0 Hs ow' H' → (pp → Same Hs H') → SR K G H0 pin ow' σ H' as → LvR .D K (Hd ow' G H0 H') H' v d → Q v H') : Q v H' := by
  obtain ⟨S', st⟩ := S.grow s
  exact k v H' ow (st0.trans st) (fun z => (sm0 z).trans s) S' (dpM same_nil _ _ h)

/-- two values, one behind the other -/
theorem EV.two (ha : EV X p1 l a ma) (hb : EV X p2 l1 b mb) (hs : l = .D ∨ p2 = true) : ∃ ta tb, PE X a ta ∧ PE X b tb ∧
    ∀ (G H0 : Hp) (pin : Nat → Addr) (ow : Ow) (σ : L2.St) (H : Hp) (as : AS) (x y : PD) (as1 as2 : AS) (R : V → V → Hp → Prop), SR X.K G H0 pin ow σ H as → ma as = some (x, as1) → mb as1 = some (y, as2) →
      (∀ v w H' ow', Stp G H0 ow H ow' H' → ((p1 && p2) = true → Same H H') → SR X.K G H0 pin ow' σ H' as2 → LvR l X.K (Hd ow' G H0 H') H' v x → LvR l1 X.K (Hd ow' G H0 H') H' w y → R v w H') → ta σ H fun v H1 => tb σ H1 fun w H2 => R v w H2 := by
  obtain ⟨ta, a1, a2⟩ := ha.ok
  obtain ⟨tb, b1, b2⟩ := hb.ok
  refine ⟨ta, tb, a1, b1, fun G H0 pin ow σ H as x y as1 as2 R S h1 h2 k => ?_⟩
  refine a2 G H0 pin ow σ H as x as1 _ S h1 fun v H1 ow1 st1 sm1 S1 lv1 => ?_
  refine b2 G H0 pin ow1 σ H1 as1 y as2 _ S1 h2 fun w H2 ow2 st2 sm2 S2 lv2 => ?_
  refine k v w H2 ow2 (st1.trans st2) (fun z => ?_) S2 (lvM st2.dur (hs.imp id sm2) lv1) lv2
  have z' : p1 = true ∧ p2 = true := by simpa using z
  exact (sm1 z'.1).trans (sm2 z'.2)
theorem pur2 {α β γ : Type} {m : M α} {n : α → M β} {f : α → β → Option γ} {p1 p2 : Bool} (h1 : p1 = true → ∀ as r as', m as = some (r, as') → as' = as) (h2 : p2 = true → ∀ x as r as', n x as = some (r, as') → as' = as) (z : (p1 && p2) = true) :
    ∀ as r as', mBind m (fun x => mBind (n x) fun y => mOpt (f x y)) as = some (r, as') → as' = as := fun as r as' h => by
  have z' : p1 = true ∧ p2 = true := by simpa using z
  obtain ⟨x, as1, q1, q⟩ := bind_some h
  obtain ⟨y, as2, q2, q⟩ := bind_some q
  obtain ⟨_, rfl⟩ := opt_some q
  exact (h2 z'.2 _ _ _ _ q2).trans (h1 z'.1 _ _ _ q1)
def m2 {α : Type} (f : PD → PD → Option α) (m n : M PD) : M α := mBind m fun x => mBind n fun y => mOpt (f x y)
def m1 {α : Type} (f : PD → Option α) (m : M PD) : M α := mBind m fun x => mOpt (f x)
theorem pur1 {α : Type} {m : M PD} {f : PD → Option α} {p : Bool} (h1 : p = true → ∀ as r as', m as = some (r, as') → as' = as) (z : p = true) : ∀ as r as', m1 f m as = some (r, as') → as' = as := fun as r as' h => by
  obtain ⟨x, as1, q1, q⟩ := bind_some h
  obtain ⟨_, rfl⟩ := opt_some q
  exact h1 z _ _ _ q1
theorem ef_op {op : Operator} {r : R2} {f : PD → PD → Option Res} (ho : OpR X (binaryOp op) r) (hr : R2O X.K r f) (ha : EV X p1 l a ma) (hb : EV X p2 l1 b mb) (hs : l = .D ∨ p2 = true := by first | exact .inr rfl | exact .inl rfl) (hl : l ≠ .B := by nofun) (hl1 : l1 ≠ .B := by nofun) :
    EF X (p1 && p2) (.BinOp a op b pos) (m2 f ma mb) := by
  obtain ⟨ta, tb, e1, e2, q⟩ := ha.two hb hs
  refine ⟨fun z => pur2 ha.pur (fun z _ => hb.pur z) z, _, pe_op ho e1 e2, fun G H0 pin ow σ H as r as' Q S hm k => ?_⟩
  obtain ⟨x, as1, q1, hm⟩ := bind_some hm
  obtain ⟨y, as2, q2, hm⟩ := bind_some hm
  obtain ⟨q3, rfl⟩ := opt_some hm
  refine q G H0 pin ow σ H as x y as1 as' _ S q1 q2 fun v w H' ow' st sm S' lv lw => ?_
  exact hr _ _ _ _ _ _ _ S'.hd (lv_it S'.hd hl lv) (lv_it S'.hd hl1 lw) q3 _ fun z H2 s2 okr => fin_o S' st sm s2 okr k
theorem ev_op {op : Operator} {r : R2} {f : PD → PD → Option PD} (ho : OpR X (binaryOp op) r) (hr : R2S X.K r f) (ha : EV X p1 l a ma) (hb : EV X p2 l1 b mb) (hs : l = .D ∨ p2 = true := by first | exact .inr rfl | exact .inl rfl) :
    EV X (p1 && p2) .D (.BinOp a op b pos) (m2 f ma mb) := by
  obtain ⟨ta, tb, e1, e2, q⟩ := ha.two hb hs
  refine ⟨fun z => pur2 ha.pur (fun z _ => hb.pur z) z, _, pe_op ho e1 e2, fun G H0 pin ow σ H as r as' Q S hm k => ?_⟩
  obtain ⟨x, as1, q1, hm⟩ := bind_some hm
  obtain ⟨y, as2, q2, hm⟩ := bind_some hm
  obtain ⟨q3, rfl⟩ := opt_some hm
  refine q G H0 pin ow σ H as x y as1 as' _ S q1 q2 fun v w H' ow' st sm S' lv lw => ?_
  exact hr _ _ _ _ _ _ (lv_dp S'.hd lv) (lv_dp S'.hd lw) q3 _ fun z H2 s2 okr => fin_s S' st sm s2 okr k
theorem ev_cmp {op : CmpOp} {r : R2} {f : PD → PD → Option PD} (ho : OpR X (compareOp op) r) (hr : R2S X.K r f) (ha : EV X p1 l a ma) (hb : EV X p2 l1 b mb) (hmk : behindInMarks op b = false) (hs : l = .D ∨ p2 = true := by first | exact .inr rfl | exact .inl rfl) :
    EV X (p1 && p2) .D (.Compare a [op] [b] pos) (m2 f ma mb) := by
  obtain ⟨ta, tb, e1, e2, q⟩ := ha.two hb hs
  refine ⟨fun z => pur2 ha.pur (fun z _ => hb.pur z) z, _, pe_cmpR ho e1 e2 hmk, fun G H0 pin ow σ H as r as' Q S hm k => ?_⟩
  obtain ⟨x, as1, q1, hm⟩ := bind_some hm
  obtain ⟨y, as2, q2, hm⟩ := bind_some hm
  obtain ⟨q3, rfl⟩ := opt_some hm
  refine q G H0 pin ow σ H as x y as1 as' _ S q1 q2 fun v w H' ow' st sm S' lv lw => ?_
  exact hr _ _ _ _ _ _ (lv_dp S'.hd lv) (lv_dp S'.hd lw) q3 _ fun z H2 s2 okr => fin_s S' st sm s2 okr k
def asB : PD → Option Bool
  | .bool b => some b
  | _ => none
def m2b (f : PD → PD → Option PD) (m n : M PD) : M Bool := m2 (fun x y => (f x y).bind asB) m n
theorem et_cmp {op : CmpOp} {r : R2} {f : PD → PD → Option PD} (ho : OpR X (compareOp op) r) (hr : R2S X.K r f) (ha : EV X p1 l a ma) (hb : EV X p2 l1 b mb) (hmk : behindInMarks op b = false) (hs : l = .D ∨ p2 = true := by first | exact .inr rfl | exact .inl rfl) :
    ET X (p1 && p2) (.Compare a [op] [b] pos) (m2b f ma mb) := by
  obtain ⟨ta, tb, e1, e2, q⟩ := ha.two hb hs
  refine ⟨fun z => pur2 ha.pur (fun z _ => hb.pur z) z, _, pt_cmpR ho e1 e2 hmk, fun G H0 pin ow σ H as r as' Q S hm k => ?_⟩
  obtain ⟨x, as1, q1, hm⟩ := bind_some hm
  obtain ⟨y, as2, q2, hm⟩ := bind_some hm
  obtain ⟨q3, rfl⟩ := opt_some hm
  have q3 : (f x y).bind asB = some r := q3
  cases q4 : f x y with
  | none => rw [q4] at q3; cases q3
  | some d =>
    rw [q4] at q3
    cases d with
    | bool c =>
      cases q3
      refine q G H0 pin ow σ H as x y as1 as' _ S q1 q2 fun v w H' ow' st sm S' lv lw => ?_
      refine hr _ _ _ _ _ _ (lv_dp S'.hd lv) (lv_dp S'.hd lw) q4 _ fun z H2 s2 okr => ?_
      cases okr
      obtain ⟨S3, st3⟩ := S'.grow s2
      exact ⟨_, rfl, k H2 ow' (st.trans st3) (fun z => (sm z).trans s2) S3⟩
    | none => cases q3
    | int _ => cases q3
    | str _ => cases q3
    | list _ => cases q3
    | tuple _ => cases q3
    | dict _ => cases q3
end
end Vl

-- V3
set_option Elab.async false
set_option linter.all false
set_option maxRecDepth 100000
set_option maxHeartbeats 4000000
namespace Vl
open PySem L2

section
variable {X : Cx} {p p1 p2 p3 : Bool} {l l1 : Lv} {pos : Pos}

/-! ### names and constants -/
/-- a name's lasting value -/
def mD (i : Nat) : M PD := fun as => match as[i]? with
  | some (.dur d) => some (d, as)
  | _ => none
/-- a name's value, for looking at -/
def mI (i : Nat) : M PD := fun as => match as[i]? with
  | some (.dur d) => some (d, as)
  | some (.own (.ol xs)) => some (.list xs, as)
  | some (.io (.ol xs)) => some (.list xs, as)
  | _ => none
theorem ev_nD {i : Nat} {x : Str} (hN : X.N[i]? = some x := by rfl) (hv : Vis X.env.scope x := by first | exact Or.inl rfl | exact Or.inr (Or.inl rfl) | exact Or.inr (Or.inr rfl)) (hd : (x == ("__debug__" : Str)) = false := by decide)
    (hcd : (x == ("__classdict__" : Str)) = false := by decide) : EV X true .D (.Name x pos) (mD i) := by
  have inv : ∀ {as : AS} {r : PD} {as' : AS}, mD i as = some (r, as') → as[i]? = some (.dur r) ∧ as' = as := fun {as r as'} h => by
    unfold mD at h
    split at h
    · rename_i d e; cases h; exact ⟨e, rfl⟩
    · cases h
  refine ⟨fun _ as r as' h => (inv h).2, _, pe_var hN hv hd hcd, fun G H0 pin ow σ H as r as' Q S hm k => ?_⟩
  obtain ⟨e, rfl⟩ := inv hm
  obtain ⟨v, q, r⟩ := S.slot i _ e
  exact ⟨v, q, k v H ow Stp.refl (fun _ => Same.refl _) S r⟩
theorem ev_nI {i : Nat} {x : Str} (hN : X.N[i]? = some x := by rfl) (hv : Vis X.env.scope x := by first | exact Or.inl rfl | exact Or.inr (Or.inl rfl) | exact Or.inr (Or.inr rfl)) (hd : (x == ("__debug__" : Str)) = false := by decide)
    (hcd : (x == ("__classdict__" : Str)) = false := by decide) : EV X true .I (.Name x pos) (mI i) := by
  refine ⟨fun _ as r as' h => ?_, _, pe_var hN hv hd hcd, fun G H0 pin ow σ H as r as' Q S hm k => ?_⟩
  · unfold mI at h
    split at h <;> cases h <;> rfl
  · unfold mI at hm
    split at hm
    · rename_i d e
      cases hm
      obtain ⟨v, q, r⟩ := S.slot i _ e
      exact ⟨v, q, k v H ow Stp.refl (fun _ => Same.refl _) S (itM S.hd (Same.refl _) (it_dp.mpr r))⟩
    · rename_i xs e
      cases hm
      obtain ⟨a, q, w, vs, hv, hd⟩ := S.slot i _ e
      exact ⟨_, q, k _ H ow Stp.refl (fun _ => Same.refl _) S ⟨a, vs, rfl, SqL.of hv, hd⟩⟩
    · rename_i xs e
      cases hm
      obtain ⟨a, q, w, _, vs, hv, hd⟩ := S.slot i _ e
      exact ⟨_, q, k _ H ow Stp.refl (fun _ => Same.refl _) S ⟨a, vs, rfl, SqL.of hv, hd⟩⟩
    · cases hm
theorem EV.toB {e : Expr} {m : M PD} (h : EV X p .I e m) : EV X p .B e m := by
  obtain ⟨t, h1, h2⟩ := h.ok
  exact ⟨h.pur, t, h1, fun G H0 pin ow σ H as r as' Q S hm k => h2 G H0 pin ow σ H as r as' Q S hm fun v H' ow' st sm S' lv => k v H' ow' st sm S' (it_up S'.hd lv)⟩
/-- an own object's name given away: it lasts from now on; the slot forgets it (M), or keeps the lasting value (Z) -/
def mMv (i : Nat) : M Res := fun as => match as[i]? with
  | some (.own o) => some (.obj o, as.set i .un)
  | _ => none
def mZ (i : Nat) : M PD := fun as => match as[i]? with
  | some (.dur d) => some (d, as)
  | some (.own (.ol xs)) => some (.list xs, as.set i (.dur (.list xs)))
  | _ => none
/-- an object of slot i becomes a kept one -/
theorem SR.take {K : Fg} {G H0 H : Hp} {pin : Nat → Addr} {ow : Ow} {σ : L2.St} {as : AS} {i : Nat} {a : Addr} {o : Obj} (S : SR K G H0 pin ow σ H as) (e : as[i]? = some (.own o)) (w : ow a = some (some i)) (hz : σ[i]? = some (some (.ref a))) (s : Slot)
    (hs : ∀ G', SlotR K G' H (put ow a (some none)) pin i (some (some (.ref a))) s) : SR K G H0 pin (put ow a (some none)) σ H (as.set i s) := by
  have hd : Same (Hd ow G H0 H) (Hd (put ow a (some none)) G H0 H) := fun b x q => by
    have hb : b ≠ a := fun z => by
      subst z
      rw [hd_free (by rw [w]; exact nofun)] at q; cases q
    unfold Hd at q ⊢
    rw [put_ne hb]; exact q
  refine ⟨by rw [List.length_set]; exact S.len, fun b x q => ?_, S.same, S.sub, fun j z h => ?_⟩
  · by_cases hb : b = a
    · subst hb; exact S.own b _ w
    · rw [put_ne hb] at q; exact S.own b x q
  · by_cases hj : i = j
    · subst hj
      have hi : i < as.length := (List.getElem?_eq_some_iff.mp e).1
      rw [List.getElem?_set_self hi] at h
      cases h
      rw [hz]; exact hs _
    · rw [List.getElem?_set_ne hj] at h
      refine slotM hd (fun b wb => ?_) (S.slot j z h)
      have hb : b ≠ a := fun q => by
        subst q
        rw [w] at wb
        exact hj (Option.some.inj (Option.some.inj wb))
      exact ⟨by rw [put_ne hb]; exact wb, rfl⟩
theorem stp_take {G H0 H : Hp} {ow : Ow} {i : Nat} {a : Addr} (w : ow a = some (some i)) (z : Option (Option Nat)) (hz : z = some none ∨ (z = none ∧ H0 a = none)) : Stp G H0 ow H (put ow a z) H := by
  refine ⟨fun b x q => ?_, fun b q => ?_, fun _ h => h⟩
  · have hb : b ≠ a := fun z => by
      subst z
      rw [hd_free (by rw [w]; exact nofun)] at q; cases q
    unfold Hd at q ⊢
    rw [put_ne hb]; exact q
  · have hb : b ≠ a := fun z => by
      subst z
      rw [w] at q; cases q
    rw [put_ne hb]; exact ⟨q, rfl⟩
theorem ef_mv {i : Nat} {x : Str} (hN : X.N[i]? = some x := by rfl) (hv : Vis X.env.scope x := by first | exact Or.inl rfl | exact Or.inr (Or.inl rfl) | exact Or.inr (Or.inr rfl)) (hd : (x == ("__debug__" : Str)) = false := by decide)
    (hcd : (x == ("__classdict__" : Str)) = false := by decide) : EF X false (.Name x pos) (mMv i) := by
  refine ⟨fun z => (by cases z), _, pe_var hN hv hd hcd, fun G H0 pin ow σ H as r as' Q S hm k => ?_⟩
  unfold mMv at hm
  split at hm
  · rename_i o e
    cases hm
    obtain ⟨a, q, w, ob⟩ := S.slot i _ e
    have st : Stp G H0 ow H (put ow a (some none)) H := stp_take w _ (.inl rfl)
    exact ⟨_, q, k _ H (put ow a (some none)) st (fun z => by cases z) (S.take e w q .un fun _ => trivial) ⟨a, rfl, by rw [w]; exact nofun, put_same, objM st.dur rfl ob⟩⟩
  · cases hm
theorem ev_z {i : Nat} {x : Str} (hN : X.N[i]? = some x := by rfl) (hv : Vis X.env.scope x := by first | exact Or.inl rfl | exact Or.inr (Or.inl rfl) | exact Or.inr (Or.inr rfl)) (hd : (x == ("__debug__" : Str)) = false := by decide)
    (hcd : (x == ("__classdict__" : Str)) = false := by decide) : EV X false .D (.Name x pos) (mZ i) := by
  refine ⟨fun z => (by cases z), _, pe_var hN hv hd hcd, fun G H0 pin ow σ H as r as' Q S hm k => ?_⟩
  unfold mZ at hm
  split at hm
  · rename_i d e
    cases hm
    obtain ⟨v, q, r⟩ := S.slot i _ e
    exact ⟨v, q, k v H ow Stp.refl (fun z => by cases z) S r⟩
  · rename_i xs e
    cases hm
    obtain ⟨a, q, w, ob⟩ := S.slot i _ e
    have h0 := (S.own a _ w).1
    have st : Stp G H0 ow H (put ow a none) H := stp_take w _ (.inr ⟨rfl, h0⟩)
    have st1 : Stp G H0 ow H (put ow a (some none)) H := stp_take w _ (.inl rfl)
    obtain ⟨vs, hvs, hds⟩ := ob
    have hv : Dp X.K (Hd (put ow a none) G H0 H) (.ref a) (.list xs) := Dp.lst (SqL.of (by rw [hd_own put_same, if_pos h0]; exact hvs)) (dpaM st.dur _ _ hds)
    have S2 := S.take e w q .un fun _ => trivial
    obtain ⟨S3, hs3, _⟩ := S2.fix put_same
    have e3 : put (put ow a (some none)) a none = put ow a none := by
      funext b; unfold put; split <;> rfl
    rw [e3] at S3
    refine ⟨_, q, k _ H (put ow a none) st (fun z => by cases z) ⟨by rw [List.length_set]; exact S.len, S3.own, S3.same, S3.sub, fun j z h => ?_⟩ hv⟩
    by_cases hj : i = j
    · subst hj
      have hi : i < as.length := (List.getElem?_eq_some_iff.mp e).1
      rw [List.getElem?_set_self hi] at h
      cases h
      exact ⟨_, q, hv⟩
    · rw [List.getElem?_set_ne hj] at h
      exact S3.slot j z (by rw [List.getElem?_set_ne hj]; exact h)
  · cases hm
/-- a constant -/
theorem ev_c {e : Expr} {v : V} {d : PD} (h : PE X e (tC v)) (hd : ∀ K, Dp K nil v d) : EV X true .D e (mPure d) := by
  refine ⟨fun _ as r as' h => (pure_some h).2, _, h, fun G H0 pin ow σ H as r as' Q S hm k => ?_⟩
  obtain ⟨rfl, rfl⟩ := pure_some hm
  exact k v H ow Stp.refl (fun _ => Same.refl _) S (dpM same_nil _ _ (hd _))
theorem ev_int {i : Int} {j : Nat} : EV X true .D (.Constant (.int i) j pos) (mPure (.int i)) := ev_c pe_int fun _ => Dp.int i
theorem ev_bl {b : Bool} {j : Nat} : EV X true .D (.Constant (.bool b) j pos) (mPure (.bool b)) := ev_c pe_bl fun _ => Dp.bl b
theorem ev_non {j : Nat} : EV X true .D (.Constant .none j pos) (mPure .none) := ev_c pe_non fun _ => Dp.non
theorem ev_str {x : Str} {j : Nat} : EV X true .D (.Constant (.str x) j pos) (mPure (.str x)) := ev_c pe_str fun _ => Dp.str x

/-! ### arguments -/
theorem ea_nil : EA X true l [] (mPure []) := by
  refine ⟨fun _ as r as' h => (pure_some h).2, _, pa_nil, fun G H0 pin ow σ H as r as' Q S hm k => ?_⟩
  obtain ⟨rfl, rfl⟩ := pure_some hm
  exact k [] H ow Stp.refl (fun _ => Same.refl _) S .nil
def mCons (m : M PD) (ms : M (List PD)) : M (List PD) := mBind m fun x => mBind ms fun xs => mPure (x :: xs)
theorem ea_cons {e : Expr} {es : List Expr} {m : M PD} {ms : M (List PD)} (ha : EV X p1 l e m) (hr : EA X p2 l es ms) (hs : l = .D ∨ p2 = true := by first | exact .inr rfl | exact .inl rfl)
    (hst : starEach (e :: es) X.env = (false, eval e X.env) :: starEach es X.env := by rfl) : EA X (p1 && p2) l (e :: es) (mCons m ms) := by
  obtain ⟨ta, a1, a2⟩ := ha.ok
  obtain ⟨tb, b1, b2⟩ := hr.ok
  refine ⟨fun z as r as' h => ?_, _, pa_cons a1 b1 hst, fun G H0 pin ow σ H as r as' Q S hm k => ?_⟩
  · have z' : p1 = true ∧ p2 = true := by simpa using z
    obtain ⟨x, as1, q1, q⟩ := bind_some h
    obtain ⟨y, as2, q2, q⟩ := bind_some q
    obtain ⟨_, rfl⟩ := pure_some q
    exact (hr.pur z'.2 _ _ _ q2).trans (ha.pur z'.1 _ _ _ q1)
  · obtain ⟨x, as1, q1, q⟩ := bind_some hm
    obtain ⟨y, as2, q2, q⟩ := bind_some q
    obtain ⟨rfl, rfl⟩ := pure_some q
    refine a2 G H0 pin ow σ H as x as1 _ S q1 fun v H1 ow1 st1 sm1 S1 lv1 => ?_
    refine b2 G H0 pin ow1 σ H1 as1 y as' _ S1 q2 fun vs H2 ow2 st2 sm2 S2 lv2 => ?_
    refine k _ H2 ow2 (st1.trans st2) (fun z => ?_) S2 (.cons (lvM st2.dur (hs.imp id sm2) lv1) lv2)
    have z' : p1 = true ∧ p2 = true := by simpa using z
    exact (sm1 z'.1).trans (sm2 z'.2)
theorem dpa_of {K : Fg} {H : Hp} : ∀ {vs : List V} {ds : List PD}, Paired (Dp K H) vs ds → DpAll K H vs ds
  | _, _, .nil => .nil
  | _, _, .cons h t => .cons h (dpa_of t)
theorem of_dpa {K : Fg} {H : Hp} : ∀ {vs : List V} {ds : List PD}, DpAll K H vs ds → Paired (Dp K H) vs ds
  | [], [], _ => .nil
  | _ :: _, _ :: _, .cons h t => .cons h (of_dpa t)
theorem dpa_len {K : Fg} {H : Hp} {vs : List V} {ds : List PD} (h : DpAll K H vs ds) : vs.length = ds.length := (of_dpa h).length
def fTup (xs : List PD) : Option Res := if xs.length ≤ 1000 then some (.val (.tuple xs)) else none
def fLst (xs : List PD) : Option Res := if xs.length ≤ 1000 then some (.obj (.ol xs)) else none
def mN (f : List PD → Option Res) (ms : M (List PD)) : M Res := mBind ms fun xs => mOpt (f xs)
theorem pur_n {α : Type} {ms : M (List PD)} {f : List PD → Option α} (h : p = true → ∀ as r as', ms as = some (r, as') → as' = as) (z : p = true) (as : AS) (r : α) (as' : AS) (hm : mBind ms (fun xs => mOpt (f xs)) as = some (r, as')) : as' = as := by
  obtain ⟨x, as1, q1, q⟩ := bind_some hm
  obtain ⟨_, rfl⟩ := opt_some q
  exact h z _ _ _ q1
theorem ef_tup {es : List Expr} {x1 : Nat} {ms : M (List PD)} (h : EA X p .D es ms) : EF X p (.Tuple es x1 pos) (mN fTup ms) := by
  obtain ⟨t, a1, a2⟩ := h.ok
  refine ⟨fun z => pur_n h.pur z, _, pe_tup a1, fun G H0 pin ow σ H as r as' Q S hm k => ?_⟩
  obtain ⟨xs, as1, q1, q⟩ := bind_some hm
  obtain ⟨q2, rfl⟩ := opt_some q
  unfold fTup at q2
  split at q2
  · rename_i hz
    cases q2
    refine a2 G H0 pin ow σ H as xs as' _ S q1 fun vs H1 ow1 st sm S1 lv => ?_
    have lv' := dpa_of lv
    refine ⟨by rw [dpa_len lv']; exact Nat.le_trans hz (by decide), fun b hb => ?_⟩
    refine fin_o S1 st sm (fun c x e => by rw [upd_ne (ne_of_none e hb)]; exact e) (v := .ref b) (res := .val (.tuple xs)) ?_ k
    exact Dp.tup (SqT.of (by unfold gr; rw [if_pos hb]; exact upd_same)) (dpaM (gr_sub S1.hd) _ _ lv')
  · cases q2
theorem ef_lst {es : List Expr} {ms : M (List PD)} (h : EA X p .D es ms) : EF X p (.List es pos) (mN fLst ms) := by
  obtain ⟨t, a1, a2⟩ := h.ok
  refine ⟨fun z => pur_n h.pur z, _, pe_lst a1, fun G H0 pin ow σ H as r as' Q S hm k => ?_⟩
  obtain ⟨xs, as1, q1, q⟩ := bind_some hm
  obtain ⟨q2, rfl⟩ := opt_some q
  unfold fLst at q2
  split at q2
  · rename_i hz
    cases q2
    refine a2 G H0 pin ow σ H as xs as' _ S q1 fun vs H1 ow1 st sm S1 lv => ?_
    have lv' := dpa_of lv
    refine ⟨by rw [dpa_len lv']; exact Nat.le_trans hz (by decide), fun b hb => ?_⟩
    refine fin_o S1 st sm (fun c x e => by rw [upd_ne (ne_of_none e hb)]; exact e) (v := .ref b) (res := .obj (.ol xs)) ?_ k
    exact ⟨b, rfl, hb, vs, upd_same, dpaM (rm_sub S1.hd hb) _ _ lv'⟩
  · cases q2

/-! ### calls of what is built in -/
theorem paired_map {α β : Type} {F G : α → β → Prop} {l : List α} {m : List β} (h : Paired F l m) (k : ∀ a b, F a b → G a b) : Paired G l m := Paired.mapP h k
theorem ef_callB {id : String} {r : List V → Hp → VK → Prop} {f : List PD → Option Res} {x : Str} {q : Pos} {e : Expr} {es : List Expr} {ms : M (List PD)} (hc : CallR X (.builtin id) r) (hr : RnO X.K r f) (hm : X.mg x = none) (hv : bootBuiltins x = some (.builtin id)) (ha : EA X p l (e :: es) ms)
    (hg : Gl X x := by rfl) (hl : l ≠ .B := by nofun) (hn : x ≠ "__name__" := by decide) (hdb : (x == ("__debug__" : Str)) = false := by decide)
    (h3 : starEach (e :: es) X.env = (false, eval e X.env) :: starEach es X.env := by rfl) (h4 : (backTo pos (starEach es X.env)).any (·.1) = false := by rfl) : EF X p (.Call (.Name x q) (e :: es) [] pos) (mN f ms) := by
  obtain ⟨t, a1, a2⟩ := ha.ok
  refine ⟨fun z => pur_n ha.pur z, _, pe_callB hc hg hm hv a1 hn hdb h3 h4, fun G H0 pin ow σ H as r as' Q S hm k => ?_⟩
  obtain ⟨xs, as1, q1, q⟩ := bind_some hm
  obtain ⟨q2, rfl⟩ := opt_some q
  refine a2 G H0 pin ow σ H as xs as' _ S q1 fun vs H1 ow1 st sm S1 lv => ?_
  exact hr _ _ _ _ _ S1.hd (paired_map lv fun _ _ h => lv_it S1.hd hl h) q2 _ fun z H2 s2 okr => fin_o S1 st sm s2 okr k
theorem ef_callTy {id : String} {r : List V → Hp → VK → Prop} {f : List PD → Option Res} {x : Str} {q : Pos} {e : Expr} {es : List Expr} {ms : M (List PD)} (hc : CallR X (.type id) r) (hr : RnO X.K r f) (hm : X.mg x = none) (hv : bootBuiltins x = some (.type id)) (ha : EA X p l (e :: es) ms)
    (hg : Gl X x := by rfl) (hl : l ≠ .B := by nofun) (hn : x ≠ "__name__" := by decide) (hdb : (x == ("__debug__" : Str)) = false := by decide)
    (h3 : starEach (e :: es) X.env = (false, eval e X.env) :: starEach es X.env := by rfl) (h4 : (backTo pos (starEach es X.env)).any (·.1) = false := by rfl) : EF X p (.Call (.Name x q) (e :: es) [] pos) (mN f ms) := by
  obtain ⟨t, a1, a2⟩ := ha.ok
  refine ⟨fun z => pur_n ha.pur z, _, pe_callTy hc hg hm hv a1 hn hdb h3 h4, fun G H0 pin ow σ H as r as' Q S hm k => ?_⟩
  obtain ⟨xs, as1, q1, q⟩ := bind_some hm
  obtain ⟨q2, rfl⟩ := opt_some q
  refine a2 G H0 pin ow σ H as xs as' _ S q1 fun vs H1 ow1 st sm S1 lv => ?_
  exact hr _ _ _ _ _ S1.hd (paired_map lv fun _ _ h => lv_it S1.hd hl h) q2 _ fun z H2 s2 okr => fin_o S1 st sm s2 okr k
def mS (f : List PD → Option PD) (ms : M (List PD)) : M PD := mBind ms fun xs => mOpt (f xs)
theorem ev_callB {id : String} {r : List V → Hp → VK → Prop} {f : List PD → Option PD} {x : Str} {q : Pos} {e : Expr} {es : List Expr} {ms : M (List PD)} (hc : CallR X (.builtin id) r) (hr : RnS X.K r f) (hm : X.mg x = none) (hv : bootBuiltins x = some (.builtin id)) (ha : EA X p l (e :: es) ms)
    (hg : Gl X x := by rfl) (hn : x ≠ "__name__" := by decide) (hdb : (x == ("__debug__" : Str)) = false := by decide)
    (h3 : starEach (e :: es) X.env = (false, eval e X.env) :: starEach es X.env := by rfl) (h4 : (backTo pos (starEach es X.env)).any (·.1) = false := by rfl) : EV X p .D (.Call (.Name x q) (e :: es) [] pos) (mS f ms) := by
  obtain ⟨t, a1, a2⟩ := ha.ok
  refine ⟨fun z => pur_n ha.pur z, _, pe_callB hc hg hm hv a1 hn hdb h3 h4, fun G H0 pin ow σ H as r as' Q S hm k => ?_⟩
  obtain ⟨xs, as1, q1, q⟩ := bind_some hm
  obtain ⟨q2, rfl⟩ := opt_some q
  refine a2 G H0 pin ow σ H as xs as' _ S q1 fun vs H1 ow1 st sm S1 lv => ?_
  exact hr _ _ _ _ (paired_map lv fun _ _ h => lv_dp S1.hd h) q2 _ fun z H2 s2 okr => fin_s S1 st sm s2 okr k
theorem ev_callTy {id : String} {r : List V → Hp → VK → Prop} {f : List PD → Option PD} {x : Str} {q : Pos} {e : Expr} {es : List Expr} {ms : M (List PD)} (hc : CallR X (.type id) r) (hr : RnS X.K r f) (hm : X.mg x = none) (hv : bootBuiltins x = some (.type id)) (ha : EA X p l (e :: es) ms)
    (hg : Gl X x := by rfl) (hn : x ≠ "__name__" := by decide) (hdb : (x == ("__debug__" : Str)) = false := by decide)
    (h3 : starEach (e :: es) X.env = (false, eval e X.env) :: starEach es X.env := by rfl) (h4 : (backTo pos (starEach es X.env)).any (·.1) = false := by rfl) : EV X p .D (.Call (.Name x q) (e :: es) [] pos) (mS f ms) := by
  obtain ⟨t, a1, a2⟩ := ha.ok
  refine ⟨fun z => pur_n ha.pur z, _, pe_callTy hc hg hm hv a1 hn hdb h3 h4, fun G H0 pin ow σ H as r as' Q S hm k => ?_⟩
  obtain ⟨xs, as1, q1, q⟩ := bind_some hm
  obtain ⟨q2, rfl⟩ := opt_some q
  refine a2 G H0 pin ow σ H as xs as' _ S q1 fun vs H1 ow1 st sm S1 lv => ?_
  exact hr _ _ _ _ (paired_map lv fun _ _ h => lv_dp S1.hd h) q2 _ fun z H2 s2 okr => fin_s S1 st sm s2 okr k

/-! ### calls of defs -/
/-- the promise of a def that changes nothing: from lasting arguments F's answer -/
def SpP (K : Fg) (F : List PD → Option Res) : Sp := fun vs H Q _ => ∃ (G : Hp) (ds : List PD) (res : Res), Same G H ∧ DpAll K G vs ds ∧ F ds = some res ∧ ∀ v H', Same H H' → OkRes K G H H' v res → Q v H'
structure Fn (P : Program) (w : World) (K : Fg) (mg : Str → Option Value) (base : Heap) (k : Nat) (x : Str) (F : List PD → Option Res) : Prop where
  ex : ∃ f fd ps, FnOk P w K mg base CX0 k f fd ps (SpP K F) ∧ mg x = some (.ref f) ∧ PySem.W.keepIn K (.ref f) = true ∧ Binds K fd ps []
theorem ef_call {k : Nat} {F : List PD → Option Res} {x : Str} {q : Pos} {e : Expr} {es : List Expr} {ms : M (List PD)} (hf : Fn X.prog X.w X.K X.mg X.base k x F) (hr : Room k X.A) (ha : EA X p .D (e :: es) ms)
    (hg : Gl X x := by rfl) (hdb : (x == ("__debug__" : Str)) = false := by decide)
    (h3 : starEach (e :: es) X.env = (false, eval e X.env) :: starEach es X.env := by rfl) (h4 : (backTo pos (starEach es X.env)).any (·.1) = false := by rfl) : EF X p (.Call (.Name x q) (e :: es) [] pos) (mN F ms) := by
  obtain ⟨f, fd, ps, ok, hm, kp, b⟩ := hf.ex
  obtain ⟨t, a1, a2⟩ := ha.ok
  refine ⟨fun z => pur_n ha.pur z, _, pe_call ok hr hg hm kp b .nil pass0 a1 hdb h3 h4, fun G H0 pin ow σ H as r as' Q S hm k => ?_⟩
  obtain ⟨xs, as1, q1, q⟩ := bind_some hm
  obtain ⟨q2, rfl⟩ := opt_some q
  refine a2 G H0 pin ow σ H as xs as' _ S q1 fun vs H1 ow1 st sm S1 lv => ?_
  show SpP X.K F (vs ++ []) H1 Q E0
  rw [List.append_nil]
  exact ⟨_, xs, r, S1.hd, dpa_of lv, q2, fun v H2 s2 okr => fin_o S1 st sm s2 okr k⟩

/-! ### tests, and or not, a if t else b -/
theorem et_val {e : Expr} {m : M PD} (h : EV X p l e m) (he : ∀ whole, isTrue e X.env whole = (do let v ← whole; standAt e.pos; holding [v] (truthy v)) := by intro _; rfl) : ET X p e (m1 asB m) := by
  obtain ⟨t, a1, a2⟩ := h.ok
  refine ⟨fun z => pur1 h.pur z, _, pt_val a1 he, fun G H0 pin ow σ H as r as' Q S hm k => ?_⟩
  obtain ⟨x, as1, q1, q⟩ := bind_some hm
  obtain ⟨q2, rfl⟩ := opt_some q
  refine a2 G H0 pin ow σ H as x as' _ S q1 fun v H1 ow1 st sm S1 lv => ?_
  have lv := lv_dp S1.hd lv
  cases x with
  | bool c => cases q2; cases lv; exact ⟨_, rfl, k H1 ow1 st sm S1⟩
  | none => cases q2
  | int _ => cases q2
  | str _ => cases q2
  | list _ => cases q2
  | tuple _ => cases q2
  | dict _ => cases q2
structure EW (X : Cx) (p : Bool) (e : Expr) (m : M Bool) : Prop where
  pur : p = true → ∀ as r as', m as = some (r, as') → as' = as
  ok : ∃ t, PW X e t ∧ ∀ (G H0 : Hp) (pin : Nat → Addr) (ow : Ow) (σ : L2.St) (H : Hp) (as : AS) (r : Bool) (as' : AS) (Q : Bool → Hp → Prop), SR X.K G H0 pin ow σ H as → m as = some (r, as') →
    (∀ H' ow', Stp G H0 ow H ow' H' → (p = true → Same H H') → SR X.K G H0 pin ow' σ H' as' → Q r H') → t σ H Q
theorem EW.t {e : Expr} {m : M Bool} (h : EW X p e m) : ET X p e m := by
  obtain ⟨t, a1, a2⟩ := h.ok
  exact ⟨h.pur, t, a1.pt, a2⟩
def mAnd (m n : M Bool) : M Bool := mBind m fun c => if c = true then n else mPure false
def mOr (m n : M Bool) : M Bool := mBind m fun c => if c = true then mPure true else n
def mNot (m : M Bool) : M Bool := mBind m fun c => mPure !c
variable {a b : Expr} {rest : List Expr} {ma mb : M Bool}
theorem ew_and1 (h : ET X p a ma) : EW X p (.BoolOp .And [a] pos) ma := by
  obtain ⟨t, a1, a2⟩ := h.ok
  exact ⟨h.pur, t, pw_and1 a1, a2⟩
theorem ew_or1 (h : ET X p a ma) : EW X p (.BoolOp .Or [a] pos) ma := by
  obtain ⟨t, a1, a2⟩ := h.ok
  exact ⟨h.pur, t, pw_or1 a1, a2⟩
theorem pur_and (h1 : p1 = true → ∀ as r as', ma as = some (r, as') → as' = as) (h2 : p2 = true → ∀ as r as', mb as = some (r, as') → as' = as) (z : (p1 && p2) = true) (as : AS) (r : Bool) (as' : AS) (h : mAnd ma mb as = some (r, as')) : as' = as := by
  have z' : p1 = true ∧ p2 = true := by simpa using z
  obtain ⟨c, as1, q1, q⟩ := bind_some h
  cases c with
  | true => exact (h2 z'.2 _ _ _ q).trans (h1 z'.1 _ _ _ q1)
  | false => exact (pure_some q).2.trans (h1 z'.1 _ _ _ q1)
theorem pur_or (h1 : p1 = true → ∀ as r as', ma as = some (r, as') → as' = as) (h2 : p2 = true → ∀ as r as', mb as = some (r, as') → as' = as) (z : (p1 && p2) = true) (as : AS) (r : Bool) (as' : AS) (h : mOr ma mb as = some (r, as')) : as' = as := by
  have z' : p1 = true ∧ p2 = true := by simpa using z
  obtain ⟨c, as1, q1, q⟩ := bind_some h
  cases c with
  | false => exact (h2 z'.2 _ _ _ q).trans (h1 z'.1 _ _ _ q1)
  | true => exact (pure_some q).2.trans (h1 z'.1 _ _ _ q1)
theorem ew_and (ha : ET X p1 a ma) (hb : EW X p2 (.BoolOp .And (b :: rest) pos) mb) : EW X (p1 && p2) (.BoolOp .And (a :: b :: rest) pos) (mAnd ma mb) := by
  obtain ⟨ta, a1, a2⟩ := ha.ok
  obtain ⟨tb, b1, b2⟩ := hb.ok
  refine ⟨fun z => pur_and ha.pur hb.pur z, _, pw_and a1 b1, fun G H0 pin ow σ H as r as' Q S hm k => ?_⟩
  obtain ⟨c, as1, q1, q⟩ := bind_some hm
  refine a2 G H0 pin ow σ H as c as1 _ S q1 fun H1 ow1 st1 sm1 S1 => ?_
  cases c with
  | true =>
    refine iteT (b2 G H0 pin ow1 σ H1 as1 r as' Q S1 q fun H2 ow2 st2 sm2 S2 => k H2 ow2 (st1.trans st2) (fun z => ?_) S2)
    have z' : p1 = true ∧ p2 = true := by simpa using z
    exact (sm1 z'.1).trans (sm2 z'.2)
  | false =>
    obtain ⟨rfl, rfl⟩ := pure_some q
    refine iteF (k H1 ow1 st1 (fun z => ?_) S1)
    have z' : p1 = true ∧ p2 = true := by simpa using z
    exact sm1 z'.1
theorem ew_or (ha : ET X p1 a ma) (hb : EW X p2 (.BoolOp .Or (b :: rest) pos) mb) : EW X (p1 && p2) (.BoolOp .Or (a :: b :: rest) pos) (mOr ma mb) := by
  obtain ⟨ta, a1, a2⟩ := ha.ok
  obtain ⟨tb, b1, b2⟩ := hb.ok
  refine ⟨fun z => pur_or ha.pur hb.pur z, _, pw_or a1 b1, fun G H0 pin ow σ H as r as' Q S hm k => ?_⟩
  obtain ⟨c, as1, q1, q⟩ := bind_some hm
  refine a2 G H0 pin ow σ H as c as1 _ S q1 fun H1 ow1 st1 sm1 S1 => ?_
  cases c with
  | false =>
    refine iteF (b2 G H0 pin ow1 σ H1 as1 r as' Q S1 q fun H2 ow2 st2 sm2 S2 => k H2 ow2 (st1.trans st2) (fun z => ?_) S2)
    have z' : p1 = true ∧ p2 = true := by simpa using z
    exact (sm1 z'.1).trans (sm2 z'.2)
  | true =>
    obtain ⟨rfl, rfl⟩ := pure_some q
    refine iteT (k H1 ow1 st1 (fun z => ?_) S1)
    have z' : p1 = true ∧ p2 = true := by simpa using z
    exact sm1 z'.1
theorem et_not (ha : ET X p a ma) : ET X p (.UnaryOp .Not a pos) (mNot ma) := by
  obtain ⟨ta, a1, a2⟩ := ha.ok
  refine ⟨fun z as r as' h => ?_, _, pt_not a1, fun G H0 pin ow σ H as r as' Q S hm k => ?_⟩
  · obtain ⟨c, as1, q1, q⟩ := bind_some h
    exact (pure_some q).2.trans (ha.pur z _ _ _ q1)
  · obtain ⟨c, as1, q1, q⟩ := bind_some hm
    obtain ⟨rfl, rfl⟩ := pure_some q
    exact a2 G H0 pin ow σ H as c as' _ S q1 fun H1 ow1 st1 sm1 S1 => k H1 ow1 st1 sm1 S1
end
end Vl

-- V4
set_option Elab.async false
set_option linter.all false
set_option maxRecDepth 100000
set_option maxHeartbeats 4000000
namespace Vl
open PySem L2

theorem paired_at {α β : Type} {F : α → β → Prop} {l : List α} {m : List β} (h : Paired F l m) : ∀ (i : Nat) (h1 : i < l.length) (h2 : i < m.length), F l[i] m[i] := by
  induction h with
  | nil => intro i h1 h2; exact absurd h1 (by simp)
  | cons h t ih =>
    intro i h1 h2
    cases i with
    | zero => exact h
    | succ i => exact ih i (by simpa using h1) (by simpa using h2)
theorem paired_snoc {α β : Type} {F : α → β → Prop} {l : List α} {m : List β} {a : α} {b : β} (h : Paired F l m) (q : F a b) : Paired F (l ++ [a]) (m ++ [b]) := by
  induction h with
  | nil => exact .cons q .nil
  | cons h t ih => exact .cons h ih
/-! ### slots set anew -/
def drop (ow : Ow) (i : Nat) : Ow := fun b => if ow b = some (some i) then none else ow b
theorem drop_none {ow : Ow} {i : Nat} {b : Addr} (h : ow b = none) : drop ow i b = none := by
  unfold drop; rw [h]; simp
theorem drop_ne {ow : Ow} {i : Nat} {b : Addr} (h : ow b ≠ some (some i)) : drop ow i b = ow b := by
  unfold drop; rw [if_neg h]
theorem drop_eq {ow : Ow} {i : Nat} {b : Addr} (h : ow b = some (some i)) : drop ow i b = none := by
  unfold drop; rw [if_pos h]
section
variable {K : Fg} {G H0 H H' : Hp} {pin : Nat → Addr} {ow ow' : Ow} {σ : L2.St} {as : AS} {i : Nat}
theorem SR.drop (S : SR K G H0 pin ow σ H as) (z : Option V) : SR K G H0 pin (drop ow i) (σ.set i z) H (as.set i .un) ∧ Stp G H0 ow H (Vl.drop ow i) H := by
  have hs : Same (Hd ow G H0 H) (Hd (Vl.drop ow i) G H0 H) := fun b x e => by
    have hb : ow b = none := by
      cases q : ow b with
      | none => rfl
      | some o => rw [hd_free (by rw [q]; exact nofun)] at e; cases e
    rw [hd_own hb] at e
    rw [hd_own (drop_none hb)]; exact e
  refine ⟨⟨by rw [List.length_set, List.length_set]; exact S.len, fun b x e => ?_, S.same, S.sub, fun j t h => ?_⟩, hs, fun b e => ?_, fun _ h => h⟩
  · by_cases q : ow b = some (some i)
    · rw [drop_eq q] at e; cases e
    · rw [drop_ne q] at e; exact S.own b x e
  · by_cases hj : i = j
    · subst hj
      by_cases hl : i < as.length
      · rw [List.getElem?_set_self hl] at h
        cases h; trivial
      · rw [List.getElem?_eq_none (by rw [List.length_set]; omega)] at h; cases h
    · rw [List.getElem?_set_ne hj] at h
      rw [List.getElem?_set_ne hj]
      refine slotM hs (fun b w => ⟨?_, rfl⟩) (S.slot j t h)
      rw [drop_ne (fun q => hj (Option.some.inj (Option.some.inj (q.symm.trans w))))]; exact w
  · refine ⟨?_, rfl⟩
    rw [drop_ne (by rw [e]; intro q; cases q)]; exact e
/-- only slot i is told anew -/
theorem SR.tell (S : SR K G H0 pin ow σ H as) {s : Slot} (hs : i < as.length → SlotR K (Hd ow G H0 H) H ow pin i (σ[i]?) s) : SR K G H0 pin ow σ H (as.set i s) := by
  refine ⟨by rw [List.length_set]; exact S.len, S.own, S.same, S.sub, fun j t h => ?_⟩
  by_cases hj : i = j
  · subst hj
    by_cases hl : i < as.length
    · rw [List.getElem?_set_self hl] at h
      cases h; exact hs hl
    · rw [List.getElem?_eq_none (by rw [List.length_set]; omega)] at h; cases h
  · rw [List.getElem?_set_ne hj] at h
    exact S.slot j t h
theorem SR.setD (S : SR K G H0 pin ow σ H as) {v : V} {d : PD} (h : Dp K (Hd ow G H0 H) v d) : SR K G H0 pin (Vl.drop ow i) (σ.set i (some v)) H (as.set i (.dur d)) ∧ Stp G H0 ow H (Vl.drop ow i) H := by
  obtain ⟨S1, st⟩ := S.drop (i := i) (some v)
  refine ⟨?_, st⟩
  have S2 := S1.tell (i := i) (s := .dur d) fun hl => ⟨v, List.getElem?_set_self (by rw [List.length_set, S.len] at hl; exact hl), dpM st.dur _ _ h⟩
  rw [List.set_set] at S2; exact S2
theorem SR.setO (S : SR K G H0 pin ow σ H as) {a : Addr} {o : Obj} (w : ow a = some none) (h : ObjAt K (Hd ow G H0 H) H a o) : SR K G H0 pin (put (Vl.drop ow i) a (some (some i))) (σ.set i (some (.ref a))) H (as.set i (.own o)) ∧ Same (Hd ow G H0 H) (Hd (put (Vl.drop ow i) a (some (some i))) G H0 H) := by
  obtain ⟨S1, st⟩ := S.drop (i := i) (some (.ref a))
  have w1 : Vl.drop ow i a = some none := by rw [drop_ne (by rw [w]; intro q; cases q)]; exact w
  have hs : Same (Hd (Vl.drop ow i) G H0 H) (Hd (put (Vl.drop ow i) a (some (some i))) G H0 H) := fun b x e => by
    have hb : b ≠ a := fun q => by
      subst q
      rw [hd_free (by rw [w1]; exact nofun)] at e; cases e
    unfold Hd at e ⊢
    rw [put_ne hb]; exact e
  refine ⟨⟨by rw [List.length_set, List.length_set]; exact S.len, fun b x e => ?_, S.same, S.sub, fun j t h2 => ?_⟩, st.dur.trans hs⟩
  · by_cases q : b = a
    · subst q; exact S.own b _ w
    · rw [put_ne q] at e; exact S1.own b x e
  · by_cases hj : i = j
    · subst hj
      by_cases hl : i < as.length
      · rw [List.getElem?_set_self hl] at h2
        cases h2
        exact ⟨a, List.getElem?_set_self (by rw [← S.len]; exact hl), put_same, objM (st.dur.trans hs) rfl h⟩
      · rw [List.getElem?_eq_none (by rw [List.length_set]; omega)] at h2; cases h2
    · have h3 := S1.slot j t (by rw [List.getElem?_set_ne hj] at h2 ⊢; exact h2)
      refine slotM hs (fun b wb => ⟨?_, rfl⟩) h3
      have hb : b ≠ a := fun q => by subst q; rw [w1] at wb; cases wb
      rw [put_ne hb]; exact wb
/-- an object that is owned is changed in its place -/
theorem SR.write (S : SR K G H0 pin ow σ H as) {a : Addr} {u : HO} (w : ow a ≠ none) (s : ∀ j t, as[j]? = some t → (ow a = some (some j) → SlotR K (Hd ow G H0 H) (upd H a u) ow pin j (σ[j]?) t)) :
    SR K G H0 pin ow σ (upd H a u) as ∧ Same (Hd ow G H0 H) (Hd ow G H0 (upd H a u)) := by
  have h0 : H0 a = none := by
    cases q : ow a with
    | none => exact absurd q w
    | some o => exact (S.own a o q).1
  have hs : Same (Hd ow G H0 H) (Hd ow G H0 (upd H a u)) := fun b x e => by
    have hb : b ≠ a := fun q => by subst q; rw [hd_free w] at e; cases e
    unfold Hd at e ⊢
    rw [upd_ne hb]; exact e
  refine ⟨⟨S.len, fun b x e => ⟨(S.own b x e).1, ?_⟩, fun b x e => ?_, S.sub, fun j t h => ?_⟩, hs⟩
  · by_cases q : b = a
    · subst q; rw [upd_same]; exact nofun
    · rw [upd_ne q]; exact (S.own b x e).2
  · rw [upd_ne (ne_of_none e h0)]; exact S.same b x e
  · by_cases q : ow a = some (some j)
    · exact slotM hs (fun b wb => ⟨wb, rfl⟩) (s j t h q)
    · refine slotM hs (fun b wb => ⟨wb, upd_ne fun e => ?_⟩) (S.slot j t h)
      subst e; exact q wb
end

/-! ### targets -/
/-- a target of names alone: the slots is, from a lasting value -/
structure EG (X : Cx) (tg : Expr) (is : List Nat) (g : PD → AS → Option AS) : Prop where
  ok : ∃ t, PG X tg t ∧ ∀ (G H0 : Hp) (pin : Nat → Addr) (ow : Ow) (σ : L2.St) (H : Hp) (as : AS) (v : V) (d : PD) (as' : AS) (Q : L2.St → Hp → Prop), SR X.K G H0 pin ow σ H as → Dp X.K (Hd ow G H0 H) v d → g d as = some as' →
    (∀ σ' ow', Stp G H0 ow H ow' H → SR X.K G H0 pin ow' σ' H as' → σ'.length = σ.length → (∀ j, j ∉ is → σ'[j]? = σ[j]?) → Q σ' H) → t v σ H Q
  loc : ∀ d as as', g d as = some as' → as'.length = as.length ∧ ∀ j, j ∉ is → as'[j]? = as[j]?
def gN (i : Nat) : PD → AS → Option AS := fun d as => match as[i]? with
  | some (.io _) => none
  | none => none
  | _ => some (as.set i (.dur d))
theorem gN_some {i : Nat} {d : PD} {as as' : AS} (h : gN i d as = some as') : as' = as.set i (.dur d) := by
  unfold gN at h
  split at h
  · cases h
  · cases h
  · cases h; rfl
section
variable {X : Cx} {pos : Pos} {p p1 p2 : Bool} {l : Lv}
theorem eg_n {i : Nat} {x : Str} (hN : X.N.Nodup) (hi : X.N[i]? = some x := by rfl) (hx : L2.Loc X.env.scope x := by first | exact Or.inl rfl | exact Or.inr rfl) (hf : X.fn x = true ∨ X.env.scope.names.lookup x = some .local := by first | exact .inl rfl | exact .inr rfl) : EG X (.Name x pos) [i] (gN i) := by
  refine ⟨⟨_, pg_name hN hi hx hf, fun G H0 pin ow σ H as v d as' Q S hd hg k => ?_⟩, fun d as as' h => ?_⟩
  · have e := gN_some hg
    subst e
    obtain ⟨S', st⟩ := S.setD (i := i) hd
    refine k _ _ st S' (by rw [List.length_set]) fun j hj => ?_
    rw [List.getElem?_set_ne (fun e => hj (by rw [e]; exact List.mem_singleton.mpr rfl))]
  · have e := gN_some h
    subst e
    refine ⟨by rw [List.length_set], fun j hj => ?_⟩
    rw [List.getElem?_set_ne (fun e => hj (by rw [e]; exact List.mem_singleton.mpr rfl))]
structure EGs (X : Cx) (ts : List Expr) (is : List Nat) (n : Nat) (g : List PD → AS → Option AS) : Prop where
  ok : ∃ t, PGs X ts t ∧ ∀ (G H0 : Hp) (pin : Nat → Addr) (ow : Ow) (σ : L2.St) (H : Hp) (as : AS) (vs : List V) (ds : List PD) (as' : AS) (Q : L2.St → Hp → Prop), SR X.K G H0 pin ow σ H as → DpAll X.K (Hd ow G H0 H) vs ds → g ds as = some as' →
    (∀ σ' ow', Stp G H0 ow H ow' H → SR X.K G H0 pin ow' σ' H as' → σ'.length = σ.length → (∀ j, j ∉ is → σ'[j]? = σ[j]?) → Q σ' H) → t vs σ H Q
  len : ∀ ds as as', g ds as = some as' → ds.length = n
  loc : ∀ ds as as', g ds as = some as' → as'.length = as.length ∧ ∀ j, j ∉ is → as'[j]? = as[j]?
def gNil : List PD → AS → Option AS := fun ds as => match ds with
  | [] => some as
  | _ :: _ => none
def gCons (g : PD → AS → Option AS) (gs : List PD → AS → Option AS) : List PD → AS → Option AS := fun ds as => match ds with
  | [] => none
  | d :: r => match g d as with
    | none => none
    | some as1 => gs r as1
theorem egs_nil : EGs X [] [] 0 gNil := by
  refine ⟨⟨_, pgs_nil, fun G H0 pin ow σ H as vs ds as' Q S hd hg k => ?_⟩, fun ds as as' h => ?_, fun ds as as' h => ?_⟩
  · cases ds with
    | nil =>
      cases hg
      cases hd
      exact ⟨rfl, k σ ow Stp.refl S rfl fun _ _ => rfl⟩
    | cons _ _ => cases hg
  · cases ds with
    | nil => rfl
    | cons _ _ => cases h
  · cases ds with
    | nil => cases h; exact ⟨rfl, fun _ _ => rfl⟩
    | cons _ _ => cases h
theorem egs_cons {e : Expr} {es : List Expr} {is js : List Nat} {n : Nat} {g : PD → AS → Option AS} {gs : List PD → AS → Option AS} (h1 : EG X e is g) (h2 : EGs X es js n gs)
    (hs : List.map (fun x => x.2) (assignEach (e :: es) X.env) = assign e X.env :: List.map (fun x => x.2) (assignEach es X.env) := by rfl) : EGs X (e :: es) (is ++ js) (n + 1) (gCons g gs) := by
  obtain ⟨t, a1, a2⟩ := h1.ok
  obtain ⟨u, b1, b2⟩ := h2.ok
  refine ⟨⟨_, pgs_cons a1 b1 hs, fun G H0 pin ow σ H as vs ds as' Q S hd hg k => ?_⟩, fun ds as as' h => ?_, fun ds as as' h => ?_⟩
  · cases hd with
    | nil => cases hg
    | @cons v vs d ds q r =>
      cases hg1 : g d as with
      | none => unfold gCons at hg; simp only [hg1] at hg; cases hg
      | some as1 =>
        have hg : gs ds as1 = some as' := by unfold gCons at hg; simp only [hg1] at hg; exact hg
        refine ⟨v, vs, rfl, ?_⟩
        refine a2 G H0 pin ow σ H as v d as1 _ S q hg1 fun σ1 ow1 st1 S1 l1 o1 => ?_
        refine b2 G H0 pin ow1 σ1 H as1 vs ds as' _ S1 (dpaM st1.dur _ _ r) hg fun σ2 ow2 st2 S2 l2 o2 => ?_
        refine k σ2 ow2 (st1.trans st2) S2 (l2.trans l1) fun j hj => ?_
        rw [o2 j (fun z => hj (List.mem_append_right _ z)), o1 j (fun z => hj (List.mem_append_left _ z))]
  · cases ds with
    | nil => cases h
    | cons d r =>
      cases hg1 : g d as with
      | none => unfold gCons at h; simp only [hg1] at h; cases h
      | some as1 =>
        have h : gs r as1 = some as' := by unfold gCons at h; simp only [hg1] at h; exact h
        rw [List.length_cons, h2.len _ _ _ h]
  · cases ds with
    | nil => cases h
    | cons d r =>
      cases hg1 : g d as with
      | none => unfold gCons at h; simp only [hg1] at h; cases h
      | some as1 =>
        have h : gs r as1 = some as' := by unfold gCons at h; simp only [hg1] at h; exact h
        obtain ⟨l1, o1⟩ := h1.loc _ _ _ hg1
        obtain ⟨l2, o2⟩ := h2.loc _ _ _ h
        refine ⟨l2.trans l1, fun j hj => ?_⟩
        rw [o2 j (fun z => hj (List.mem_append_right _ z)), o1 j (fun z => hj (List.mem_append_left _ z))]
def gT (gs : List PD → AS → Option AS) : PD → AS → Option AS := fun d as => match d with
  | .tuple ds => gs ds as
  | _ => none
theorem eg_tup {es : List Expr} {k : Nat} {is : List Nat} {n : Nat} {gs : List PD → AS → Option AS} (hc : X.calm = true) (h : EGs X es is n gs) (h1 : (assignEach es X.env).length = n := by rfl) (h2 : List.findIdx? (fun x => x.1) (assignEach es X.env) = none := by rfl) : EG X (.Tuple es k pos) is (gT gs) := by
  obtain ⟨t, a1, a2⟩ := h.ok
  refine ⟨⟨_, pg_tup hc a1 h1 h2, fun G H0 pin ow σ H as v d as' Q S hd hg k => ?_⟩, fun d as as' hg => ?_⟩
  · cases d with
    | tuple ds =>
      cases hd with
      | @tup a xs _ q r =>
        refine ⟨a, xs, rfl, sqtM S.hd q, ?_, a2 G H0 pin ow σ H as xs ds as' Q S r hg k⟩
        rw [dpa_len r]; exact h.len _ _ _ hg
    | none => cases hg
    | bool _ => cases hg
    | int _ => cases hg
    | str _ => cases hg
    | list _ => cases hg
    | dict _ => cases hg
  · cases d with
    | tuple ds => exact h.loc ds as as' hg
    | none => cases hg
    | bool _ => cases hg
    | int _ => cases hg
    | str _ => cases hg
    | list _ => cases hg
    | dict _ => cases hg

/-! ### statements -/
inductive Ctl where
  | nx | bk | ct | rt (r : Res)
abbrev MS := AS → Option (Ctl × AS)
def RtR (K : Fg) (G H0 : Hp) (ow : Ow) (H : Hp) (v : V) : Res → Prop
  | .val d => Dp K (Hd ow G H0 H) v d
  | .obj o => ∃ a, v = .ref a ∧ ow a = some none ∧ ObjAt K (Hd ow G H0 H) H a o
def DR (K : Fg) (G H0 : Hp) (pin : Nat → Addr) (ow : Ow) (H : Hp) (D : Ends) (c : Ctl) (as' : AS) : Prop := match c with
  | .nx => ∀ σ' H' ow', Same (Hd ow G H0 H) (Hd ow' G H0 H') → SR K G H0 pin ow' σ' H' as' → D.nx σ' H'
  | .bk => ∀ σ' H' ow', Same (Hd ow G H0 H) (Hd ow' G H0 H') → SR K G H0 pin ow' σ' H' as' → D.bk σ' H'
  | .ct => ∀ σ' H' ow', Same (Hd ow G H0 H) (Hd ow' G H0 H') → SR K G H0 pin ow' σ' H' as' → D.ct σ' H'
  | .rt r => ∀ v σ' H' ow', Same (Hd ow G H0 H) (Hd ow' G H0 H') → SR K G H0 pin ow' σ' H' as' → RtR K G H0 ow' H' v r → D.rt v H'
theorem DR.mono {K : Fg} {G H0 : Hp} {pin : Nat → Addr} {ow ow1 : Ow} {H H1 : Hp} {D : Ends} {c : Ctl} {as' : AS} (s : Same (Hd ow G H0 H) (Hd ow1 G H0 H1)) (h : DR K G H0 pin ow H D c as') : DR K G H0 pin ow1 H1 D c as' := by
  cases c with
  | nx => exact fun σ' H' ow' s' S' => h σ' H' ow' (s.trans s') S'
  | bk => exact fun σ' H' ow' s' S' => h σ' H' ow' (s.trans s') S'
  | ct => exact fun σ' H' ow' s' S' => h σ' H' ow' (s.trans s') S'
  | rt r => exact fun v σ' H' ow' s' S' => h v σ' H' ow' (s.trans s') S'
structure ES (X : Cx) (st : Stmt) (m : MS) : Prop where
  ok : ∃ t, PS X st t ∧ ∀ (G H0 : Hp) (pin : Nat → Addr) (ow : Ow) (σ : L2.St) (H : Hp) (as : AS) (c : Ctl) (as' : AS) (D : Ends), SR X.K G H0 pin ow σ H as → m as = some (c, as') → DR X.K G H0 pin ow H D c as' → t D σ H
structure ESs (X : Cx) (st : List Stmt) (m : MS) : Prop where
  ok : ∃ t, PSs X st t ∧ ∀ (G H0 : Hp) (pin : Nat → Addr) (ow : Ow) (σ : L2.St) (H : Hp) (as : AS) (c : Ctl) (as' : AS) (D : Ends), SR X.K G H0 pin ow σ H as → m as = some (c, as') → DR X.K G H0 pin ow H D c as' → t D σ H
def sNx : MS := fun as => some (.nx, as)
def sThen (m n : MS) : MS := fun as => match m as with
  | none => none
  | some (.nx, as1) => n as1
  | some (c, as1) => some (c, as1)
theorem ess_nil : ESs X [] sNx := by
  refine ⟨_, pss_nil, fun G H0 pin ow σ H as c as' D S hm k => ?_⟩
  cases hm
  exact k σ H ow (Same.refl _) S
theorem ess_one {st : Stmt} {m : MS} (h : ES X st m) : ESs X [st] m := by
  obtain ⟨t, a1, a2⟩ := h.ok
  exact ⟨t, pss_one a1, a2⟩
theorem ess_cons {st : Stmt} {rest : List Stmt} {m n : MS} (h1 : ES X st m) (h2 : ESs X rest n) : ESs X (st :: rest) (sThen m n) := by
  obtain ⟨t, a1, a2⟩ := h1.ok
  obtain ⟨u, b1, b2⟩ := h2.ok
  refine ⟨_, pss_cons a1 b1, fun G H0 pin ow σ H as c as' D S hm k => ?_⟩
  cases e : m as with
  | none => unfold sThen at hm; simp only [e] at hm; cases hm
  | some z =>
    obtain ⟨c1, as1⟩ := z
    have hd : DR X.K G H0 pin ow H { D with nx := u D } c1 as1 := by
      cases c1 with
      | nx =>
        have hm : n as1 = some (c, as') := by unfold sThen at hm; simp only [e] at hm; exact hm
        exact fun σ' H' ow' s' S' => b2 G H0 pin ow' σ' H' as1 c as' D S' hm (k.mono s')
      | bk =>
        have hm : some (Ctl.bk, as1) = some (c, as') := by unfold sThen at hm; simp only [e] at hm; exact hm
        cases hm; exact k
      | ct =>
        have hm : some (Ctl.ct, as1) = some (c, as') := by unfold sThen at hm; simp only [e] at hm; exact hm
        cases hm; exact k
      | rt r =>
        have hm : some (Ctl.rt r, as1) = some (c, as') := by unfold sThen at hm; simp only [e] at hm; exact hm
        cases hm; exact k
    exact a2 G H0 pin ow σ H as c1 as1 { D with nx := u D } S e hd
theorem es_pass : ES X (.Pass pos) sNx := by
  refine ⟨_, ps_pass, fun G H0 pin ow σ H as c as' D S hm k => ?_⟩
  cases hm
  exact k σ H ow (Same.refl _) S
def sBk : MS := fun as => some (.bk, as)
def sCt : MS := fun as => some (.ct, as)
theorem es_break : ES X (.Break pos) sBk := by
  refine ⟨_, ps_break, fun G H0 pin ow σ H as c as' D S hm k => ?_⟩
  cases hm
  exact k σ H ow (Same.refl _) S
theorem es_continue : ES X (.Continue pos) sCt := by
  refine ⟨_, ps_continue, fun G H0 pin ow σ H as c as' D S hm k => ?_⟩
  cases hm
  exact k σ H ow (Same.refl _) S
/-- x = e -/
def sSet (i : Nat) (m : M Res) : MS := fun as => match m as with
  | none => none
  | some (r, as1) => match as1[i]? with
    | some (.io _) => none
    | none => none
    | _ => some (.nx, as1.set i (match r with | .val d => .dur d | .obj o => .own o))
theorem es_set {i : Nat} {x : Str} {e : Expr} {m : M Res} {pos' : Pos} (hN : X.N.Nodup) (he : EF X p e m) (hi : X.N[i]? = some x := by rfl) (hx : L2.Loc X.env.scope x := by first | exact Or.inl rfl | exact Or.inr rfl)
    (hs : swapsWith e (some (.Name x pos')) pos.line X.env = pure false := by rfl) (hf : X.fn x = true ∨ X.env.scope.names.lookup x = some .local := by first | exact .inl rfl | exact .inr rfl) : ES X (.Assign [.Name x pos'] e pos) (sSet i m) := by
  obtain ⟨t, a1, a2⟩ := he.ok
  refine ⟨_, ps_set hN hi hx a1 hs hf, fun G H0 pin ow σ H as c as' D S hm k => ?_⟩
  unfold sSet at hm
  split at hm
  · cases hm
  · rename_i r as1 q
    refine a2 G H0 pin ow σ H as r as1 _ S q fun v H1 ow1 st sm S1 fr => ?_
    split at hm
    · cases hm
    · cases hm
    · cases hm
      cases r with
      | val d =>
        obtain ⟨S2, st2⟩ := S1.setD (i := i) fr
        exact k _ _ _ (st.dur.trans st2.dur) S2
      | obj o =>
        obtain ⟨a, rfl, w, w1, ob⟩ := fr
        obtain ⟨S2, s2⟩ := S1.setO (i := i) w1 ob
        exact k _ _ _ (st.dur.trans s2) S2
/-- x, y = e; a target of names -/
def sAsg (g : PD → AS → Option AS) (m : M PD) : MS := fun as => match m as with
  | none => none
  | some (d, as1) => match g d as1 with
    | none => none
    | some as2 => some (.nx, as2)
theorem es_asg {tg e : Expr} {is : List Nat} {g : PD → AS → Option AS} {m : M PD} (he : EV X p .D e m) (hg : EG X tg is g) (hs : swapsWithSole [tg] e pos.line X.env = pure false := by rfl) (hw : swappedStores [tg] e X.env = pure none := by rfl)
    (h3 : List.map (fun x => x.2) (assignEach [tg] X.env) = [assign tg X.env] := by rfl) : ES X (.Assign [tg] e pos) (sAsg g m) := by
  obtain ⟨t, a1, a2⟩ := he.ok
  obtain ⟨u, b1, b2⟩ := hg.ok
  refine ⟨_, ps_asg a1 b1 hs hw h3, fun G H0 pin ow σ H as c as' D S hm k => ?_⟩
  unfold sAsg at hm
  split at hm
  · cases hm
  · rename_i d as1 q
    refine a2 G H0 pin ow σ H as d as1 _ S q fun v H1 ow1 st sm S1 lv => ?_
    split at hm
    · cases hm
    · rename_i as2 q2
      cases hm
      exact b2 G H0 pin ow1 σ H1 as1 v d _ _ S1 lv q2 fun σ2 ow2 st2 S2 _ _ => k _ _ _ (st.dur.trans st2.dur) S2
/-- e alone; return e -/
def sDrop {α : Type} (m : M α) : MS := fun as => match m as with
  | none => none
  | some (_, as1) => some (.nx, as1)
theorem es_expr {e : Expr} {m : M PD} (he : EV X p l e m) (hs : swapsWith e none pos.line X.env = pure false := by rfl) : ES X (.Expr e pos) (sDrop m) := by
  obtain ⟨t, a1, a2⟩ := he.ok
  refine ⟨_, ps_expr a1 hs, fun G H0 pin ow σ H as c as' D S hm k => ?_⟩
  unfold sDrop at hm
  split at hm
  · cases hm
  · rename_i d as1 q
    cases hm
    exact a2 G H0 pin ow σ H as d _ _ S q fun v H1 ow1 st sm S1 lv => k _ _ _ st.dur S1
def sRet (m : M Res) : MS := fun as => match m as with
  | none => none
  | some (r, as1) => some (.rt r, as1)
theorem es_ret {e : Expr} {m : M Res} (he : EF X p e m) : ES X (.Return (some e) pos) (sRet m) := by
  obtain ⟨t, a1, a2⟩ := he.ok
  refine ⟨_, ps_ret a1, fun G H0 pin ow σ H as c as' D S hm k => ?_⟩
  unfold sRet at hm
  split at hm
  · cases hm
  · rename_i d as1 q
    cases hm
    refine a2 G H0 pin ow σ H as d _ _ S q fun v H1 ow1 st sm S1 fr => k v σ H1 ow1 st.dur S1 ?_
    cases d with
    | val d => exact fr
    | obj o => obtain ⟨a, e, _, w, ob⟩ := fr; exact ⟨a, e, w, ob⟩
def sRetN : MS := fun as => some (.rt (.val .none), as)
theorem es_retN : ES X (.Return none pos) sRetN := by
  refine ⟨_, ps_retN, fun G H0 pin ow σ H as c as' D S hm k => ?_⟩
  cases hm
  exact k .non σ H ow (Same.refl _) S Dp.non
def sIf (c : M Bool) (m n : MS) : MS := fun as => match c as with
  | none => none
  | some (b, as1) => if b = true then m as1 else n as1
theorem es_if {c : Expr} {a b : List Stmt} {mc : M Bool} {m n : MS} (hc : ET X p c mc) (ha : ESs X a m) (hb : ESs X b n) : ES X (.If c a b pos) (sIf mc m n) := by
  obtain ⟨t, a1, a2⟩ := hc.ok
  obtain ⟨u, b1, b2⟩ := ha.ok
  obtain ⟨v, c1, c2⟩ := hb.ok
  refine ⟨_, ps_if a1 b1 c1, fun G H0 pin ow σ H as c as' D S hm k => ?_⟩
  unfold sIf at hm
  split at hm
  · cases hm
  · rename_i b as1 q
    refine a2 G H0 pin ow σ H as b as1 _ S q fun H1 ow1 st sm S1 => ?_
    cases b with
    | true =>
      rw [if_pos rfl] at hm
      exact iteT (b2 G H0 pin ow1 σ H1 as1 c as' D S1 hm (k.mono st.dur))
    | false =>
      rw [if_neg Bool.false_ne_true] at hm
      exact iteF (c2 G H0 pin ow1 σ H1 as1 c as' D S1 hm (k.mono st.dur))

/-! ### loops -/
/-- J yields xs, while ok holds -/
def Gives (J : L2.It) (xs : List V) (ok : Hp → Prop) : Prop := ∀ H, ok H → (∀ i x, xs[i]? = some x → J.go i H ∧ ∀ y H', J.yld i H y H' → H' = H ∧ y = x) ∧ (∀ i, xs.length ≤ i → J.stop i H)
/-- what is walked -/
structure EI (X : Cx) (p : Bool) (l : Lv) (tg e : Expr) (m : M (List PD)) : Prop where
  pur : p = true → ∀ as r as', m as = some (r, as') → as' = as
  ok : ∃ t, PI X tg e t ∧ ∀ (G H0 : Hp) (pin : Nat → Addr) (ow : Ow) (σ : L2.St) (H : Hp) (as : AS) (ds : List PD) (as' : AS) (R : L2.It → Hp → Prop), SR X.K G H0 pin ow σ H as → m as = some (ds, as') →
    (∀ J H' ow' xs ok, Stp G H0 ow H ow' H' → (p = true → Same H H') → SR X.K G H0 pin ow' σ H' as' → Gives J xs ok → DpAll X.K (Hd ow' G H0 H') xs ds → (∀ H2, (l = .D → Same (Hd ow' G H0 H') H2) → (l ≠ .D → Same H' H2) → ok H2) → R J H') → t σ H R
def forL (g : PD → AS → Option AS) (b : MS) : List PD → MS
  | [], as => some (.nx, as)
  | d :: ds, as => match g d as with
    | none => none
    | some as1 => match b as1 with
      | none => none
      | some (.nx, as2) => forL g b ds as2
      | some (.ct, as2) => forL g b ds as2
      | some (.bk, as2) => some (.nx, as2)
      | some (.rt r, as2) => some (.rt r, as2)
def sFor (mi : M (List PD)) (g : PD → AS → Option AS) (b : MS) : MS := fun as => match mi as with
  | none => none
  | some (ds, as1) => forL g b ds as1
theorem es_for {tg e : Expr} {is : List Nat} {body : List Stmt} {mi : M (List PD)} {g : PD → AS → Option AS} {b : MS} (hc : X.calm = true) (hi : EI X p .D tg e mi) (hg : EG X tg is g) (hb : ESs X body b)
    (hs : ∀ x, foldedSetIterable e X.env x = pure x := by intro _; rfl) (hx : X.xe = fun _ _ => False := by rfl) : ES X (.For tg e body [] pos) (sFor mi g b) := by
  obtain ⟨t, a1, a2⟩ := hi.ok
  obtain ⟨u, b1, b2⟩ := hg.ok
  obtain ⟨v, c1, c2⟩ := hb.ok
  have hp : PassesOwn (model X.prog X.w) X.A X.env X.xe := by rw [hx]; exact PassesOwn.never
  refine ⟨_, ps_for hp hc a1 b1 c1 hs, fun G H0 pin ow σ H as c as' D S hm k => ?_⟩
  unfold sFor at hm
  split at hm
  · cases hm
  rename_i ds as1 q
  refine a2 G H0 pin ow σ H as ds as1 _ S q fun J H1 ow1 xs ok st sm S1 gv hd hok => ?_
  refine ⟨fun i m σ2 H2 => i + m = xs.length ∧ ∃ as2 ow2, SR X.K G H0 pin ow2 σ2 H2 as2 ∧ Same (Hd ow1 G H0 H1) (Hd ow2 G H0 H2) ∧ forL g b (ds.drop i) as2 = some (c, as'), ⟨xs.length, by omega, as1, ow1, S1, Same.refl _, hm⟩, ?_⟩
  rintro i m σ2 H2 ⟨hl, as2, ow2, S2, s2, hf⟩
  have hlen := dpa_len hd
  have ok2 := hok H2 (fun _ => s2.trans S2.hd) (fun z => absurd rfl z)
  obtain ⟨g1, g2⟩ := gv H2 ok2
  by_cases hz : xs.length ≤ i
  · left
    refine ⟨g2 i hz, ?_⟩
    rw [List.drop_eq_nil_of_le (by omega)] at hf
    cases hf
    exact k σ2 H2 ow2 (st.dur.trans s2) S2
  · right
    have hi1 : i < xs.length := by omega
    have hi2 : i < ds.length := by omega
    rw [List.drop_eq_getElem_cons hi2] at hf
    obtain ⟨y1, y2⟩ := g1 i xs[i] (List.getElem?_eq_getElem hi1)
    have hdi : Dp X.K (Hd ow1 G H0 H1) xs[i] ds[i] := by
      exact paired_at (of_dpa hd) i hi1 hi2
    refine ⟨y1, fun σ3 H3 => ∃ as3 ow3, SR X.K G H0 pin ow3 σ3 H3 as3 ∧ Same (Hd ow1 G H0 H1) (Hd ow3 G H0 H3) ∧ forL g b (ds.drop (i + 1)) as3 = some (c, as'), fun σ3 H3 ⟨as3, ow3, S3, s3, f3⟩ => ⟨m - 1, by omega, by omega, as3, ow3, S3, s3, f3⟩, fun x H' hy => ?_⟩
    obtain ⟨rfl, rfl⟩ := y2 x H' hy
    unfold forL at hf
    split at hf
    · cases hf
    rename_i as3 q3
    refine b2 G H0 pin ow2 σ2 H' as2 _ _ as3 _ S2 (dpM s2 _ _ hdi) q3 fun σ3 ow3 st3 S3 _ _ => ?_
    split at hf
    · cases hf
    · rename_i as4 q4
      exact c2 G H0 pin ow3 σ3 H' as3 .nx as4 _ S3 q4 fun σ5 H5 ow5 s5 S5 => ⟨as4, ow5, S5, (s2.trans st3.dur).trans s5, hf⟩
    · rename_i as4 q4
      exact c2 G H0 pin ow3 σ3 H' as3 .ct as4 _ S3 q4 fun σ5 H5 ow5 s5 S5 => ⟨as4, ow5, S5, (s2.trans st3.dur).trans s5, hf⟩
    · rename_i as4 q4
      cases hf
      exact c2 G H0 pin ow3 σ3 H' as3 .bk _ _ S3 q4 fun σ5 H5 ow5 s5 S5 => k σ5 H5 ow5 ((st.dur.trans (s2.trans st3.dur)).trans s5) S5
    · rename_i r as4 q4
      cases hf
      exact c2 G H0 pin ow3 σ3 H' as3 (.rt r) _ _ S3 q4 fun v5 σ5 H5 ow5 s5 S5 rr => k v5 σ5 H5 ow5 ((st.dur.trans (s2.trans st3.dur)).trans s5) S5 rr
def whileL (c : M Bool) (b : MS) : Nat → MS
  | 0, _ => none
  | n + 1, as => match c as with
    | none => none
    | some (false, as1) => some (.nx, as1)
    | some (true, as1) => match b as1 with
      | none => none
      | some (.nx, as2) => whileL c b n as2
      | some (.ct, as2) => whileL c b n as2
      | some (.bk, as2) => some (.nx, as2)
      | some (.rt r, as2) => some (.rt r, as2)
def sWhile (c : M Bool) (b : MS) : MS := whileL c b 1000000000
theorem es_while {c : Expr} {body : List Stmt} {mc : M Bool} {b : MS} (hc : ET X p c mc) (hb : ESs X body b) (hx : X.xe = fun _ _ => False := by rfl) : ES X (.While c body [] pos) (sWhile mc b) := by
  obtain ⟨t, a1, a2⟩ := hc.ok
  obtain ⟨v, c1, c2⟩ := hb.ok
  have hp : PassesOwn (model X.prog X.w) X.A X.env X.xe := by rw [hx]; exact PassesOwn.never
  refine ⟨_, ps_while hp a1 c1, fun G H0 pin ow σ H as c as' D S hm k => ?_⟩
  refine ⟨fun m σ2 H2 => ∃ as2 ow2, SR X.K G H0 pin ow2 σ2 H2 as2 ∧ Same (Hd ow G H0 H) (Hd ow2 G H0 H2) ∧ whileL mc b m as2 = some (c, as'), ⟨_, as, ow, S, Same.refl _, hm⟩, ?_⟩
  rintro m σ2 H2 ⟨as2, ow2, S2, s2, hf⟩
  cases m with
  | zero => cases hf
  | succ m =>
    unfold whileL at hf
    split at hf
    · cases hf
    · rename_i as3 q
      cases hf
      exact a2 G H0 pin ow2 σ2 H2 as2 false _ _ S2 q fun H3 ow3 st3 sm3 S3 => iteF (k σ2 H3 ow3 (s2.trans st3.dur) S3)
    · rename_i as3 q
      refine a2 G H0 pin ow2 σ2 H2 as2 true as3 _ S2 q fun H3 ow3 st3 sm3 S3 => iteT ?_
      refine ⟨fun σ4 H4 => ∃ as4 ow4, SR X.K G H0 pin ow4 σ4 H4 as4 ∧ Same (Hd ow G H0 H) (Hd ow4 G H0 H4) ∧ whileL mc b m as4 = some (c, as'), fun σ4 H4 h => ⟨m, by omega, h⟩, ?_⟩
      split at hf
      · cases hf
      · rename_i as4 q4
        exact c2 G H0 pin ow3 σ2 H3 as3 .nx as4 _ S3 q4 fun σ5 H5 ow5 s5 S5 => ⟨as4, ow5, S5, (s2.trans st3.dur).trans s5, hf⟩
      · rename_i as4 q4
        exact c2 G H0 pin ow3 σ2 H3 as3 .ct as4 _ S3 q4 fun σ5 H5 ow5 s5 S5 => ⟨as4, ow5, S5, (s2.trans st3.dur).trans s5, hf⟩
      · rename_i as4 q4
        cases hf
        exact c2 G H0 pin ow3 σ2 H3 as3 .bk _ _ S3 q4 fun σ5 H5 ow5 s5 S5 => k σ5 H5 ow5 ((s2.trans st3.dur).trans s5) S5
      · rename_i r as4 q4
        cases hf
        exact c2 G H0 pin ow3 σ2 H3 as3 (.rt r) _ _ S3 q4 fun v5 σ5 H5 ow5 s5 S5 rr => k v5 σ5 H5 ow5 ((s2.trans st3.dur).trans s5) S5 rr
end
end Vl

-- V5
set_option Elab.async false
set_option linter.all false
set_option maxRecDepth 100000
set_option maxHeartbeats 4000000
namespace Vl
open PySem L2

/-! ### the readings that m itself tells -/
def rdV (K : Fg) (p : Bool) (l : Lv) (m : M PD) : TE := fun σ H Q => ∃ (G H0 : Hp) (pin : Nat → Addr) (ow : Ow) (as : AS) (r : PD) (as' : AS), SR K G H0 pin ow σ H as ∧ m as = some (r, as') ∧
  ∀ v H' ow', Stp G H0 ow H ow' H' → (p = true → Same H H') → SR K G H0 pin ow' σ H' as' → LvR l K (Hd ow' G H0 H') H' v r → Q v H'
def rdT (K : Fg) (p : Bool) (m : M Bool) : TT := fun σ H Q => ∃ (G H0 : Hp) (pin : Nat → Addr) (ow : Ow) (as : AS) (r : Bool) (as' : AS), SR K G H0 pin ow σ H as ∧ m as = some (r, as') ∧
  ∀ H' ow', Stp G H0 ow H ow' H' → (p = true → Same H H') → SR K G H0 pin ow' σ H' as' → Q r H'
def rdG (K : Fg) (is : List Nat) (g : PD → AS → Option AS) : TG := fun v σ H Q => ∃ (G H0 : Hp) (pin : Nat → Addr) (ow : Ow) (as : AS) (d : PD) (as' : AS), SR K G H0 pin ow σ H as ∧ Dp K (Hd ow G H0 H) v d ∧ g d as = some as' ∧
  ∀ σ' ow', Stp G H0 ow H ow' H → SR K G H0 pin ow' σ' H as' → σ'.length = σ.length → (∀ j, j ∉ is → σ'[j]? = σ[j]?) → Q σ' H
section
variable {X : Cx} {p p1 p2 p3 : Bool} {l l1 : Lv} {pos : Pos}
theorem EV.can {e : Expr} {m : M PD} (h : EV X p l e m) : PE X e (rdV X.K p l m) := by
  obtain ⟨t, a1, a2⟩ := h.ok
  exact ⟨fun pins s σ H Q I ⟨G, H0, pin, ow, as, r, as', S, e, k⟩ => a1.run pins s σ H Q I (a2 G H0 pin ow σ H as r as' Q S e k)⟩
theorem ET.can {e : Expr} {m : M Bool} (h : ET X p e m) : PT X e (rdT X.K p m) := by
  obtain ⟨t, a1, a2⟩ := h.ok
  exact ⟨fun pins s σ H Q I ⟨G, H0, pin, ow, as, r, as', S, e, k⟩ => a1.run pins s σ H Q I (a2 G H0 pin ow σ H as r as' Q S e k)⟩
theorem EG.can {e : Expr} {is : List Nat} {g : PD → AS → Option AS} (h : EG X e is g) : PG X e (rdG X.K is g) := by
  obtain ⟨t, a1, a2⟩ := h.ok
  refine ⟨fun pins s σ H v u Q I r ⟨G, H0, pin, ow, as, d, as', S, hd, e, k⟩ => a1.run pins s σ H v u Q I r (a2 G H0 pin ow σ H as v d as' Q S hd e k)⟩
structure ETs (X : Cx) (p : Bool) (ifs : List Expr) (m : M Bool) : Prop where
  pur : p = true → ∀ as r as', m as = some (r, as') → as' = as
  ok : PTs X ifs (rdT X.K p m)
theorem ets_nil : ETs X true [] (mPure true) := by
  refine ⟨fun _ as r as' h => (pure_some h).2, ⟨fun pins s σ H Q I ⟨G, H0, pin, ow, as, r, as', S, e, k⟩ => pts_nil.run pins s σ H Q I ?_⟩⟩
  obtain ⟨rfl, rfl⟩ := pure_some e
  exact k H ow Stp.refl (fun _ => Same.refl _) S
theorem ets_one {c : Expr} {m : M Bool} (h : ET X p c m) : ETs X p [c] m := ⟨h.pur, pts_one h.can⟩

/-! ### list comprehensions -/
def clr : List Nat → AS → AS
  | [], as => as
  | i :: is, as => (clr is as).set i .un
def back : List Nat → AS → AS → AS
  | [], _, as2 => as2
  | i :: is, as1, as2 => (back is as1 as2).set i (as1.getD i .un)
def free (is : List Nat) (as : AS) : Bool := is.all fun i => match as.getD i .un with
  | .un => true
  | .dur _ => true
  | _ => false
def lcL (vs : List Nat) (g : PD → AS → Option AS) (c : M Bool) (el : M PD) : List PD → AS → Option (List PD × AS)
  | [], as => some ([], as)
  | d :: ds, as => match g d as with
    | none => none
    | some as1 => match c as1 with
      | none => none
      | some (false, as2) => lcL vs g c el ds (clr vs as2)
      | some (true, as2) => match el as2 with
        | none => none
        | some (y, as3) => match lcL vs g c el ds (clr vs as3) with
          | none => none
          | some (ys, as4) => some (y :: ys, as4)
def mLc (vs : List Nat) (mi : M (List PD)) (g : PD → AS → Option AS) (c : M Bool) (el : M PD) : M Res := fun as => match mi as with
  | none => none
  | some (ds, as1) => match lcL vs g c el ds (clr vs as1) with
    | none => none
    | some (ys, as2) => if free vs as1 = true ∧ ys.length ≤ sizeLine then some (.obj (.ol ys), back vs as1 as2) else none
section
variable {K : Fg} {G H0 H H' : Hp} {pin : Nat → Addr} {ow ow' : Ow} {σ : L2.St} {as : AS}
theorem SR.wipe (S : SR K G H0 pin ow σ H as) : ∀ vs : List Nat, ∃ ow', SR K G H0 pin ow' (wipe σ vs) H (clr vs as) ∧ Stp G H0 ow H ow' H
  | [] => ⟨ow, S, Stp.refl⟩
  | v :: vs => by
    obtain ⟨ow', S', st⟩ := SR.wipe S vs
    obtain ⟨S2, st2⟩ := S'.drop (i := v) none
    exact ⟨_, S2, st.trans st2⟩
theorem clr_len : ∀ (vs : List Nat) (as : AS), (clr vs as).length = as.length
  | [], _ => rfl
  | v :: vs, as => by unfold clr; rw [List.length_set, clr_len vs as]
theorem back_len : ∀ (vs : List Nat) (as as2 : AS), (back vs as as2).length = as2.length
  | [], _, _ => rfl
  | v :: vs, as, as2 => by unfold back; rw [List.length_set, back_len vs as as2]
theorem back_get : ∀ (vs : List Nat) (as as2 : AS) (j : Nat), (back vs as as2)[j]? = if j ∈ vs ∧ j < as2.length then some (as.getD j .un) else as2[j]?
  | [], as, as2, j => by rw [if_neg (by simp)]; rfl
  | v :: vs, as, as2, j => by
    unfold back
    by_cases hv : v = j
    · subst hv
      by_cases hl : v < as2.length
      · rw [List.getElem?_set_self (by rw [back_len]; exact hl), if_pos ⟨List.mem_cons_self, hl⟩]
      · rw [List.getElem?_eq_none (by rw [List.length_set, back_len]; omega), if_neg (fun z => hl z.2), List.getElem?_eq_none (by omega)]
    · rw [List.getElem?_set_ne hv, back_get vs as as2 j]
      have : (j ∈ v :: vs) ↔ j ∈ vs := by
        rw [List.mem_cons]
        exact ⟨fun z => z.resolve_left (fun e => hv e.symm), .inr⟩
      simp only [this]
theorem wipe_get : ∀ (vs : List Nat) (σ : L2.St) (j : Nat), j ∉ vs → (L2.wipe σ vs)[j]? = σ[j]?
  | [], _, _, _ => rfl
  | v :: vs, σ, j, h => by
    unfold L2.wipe
    rw [List.getElem?_set_ne (fun e => h (by rw [e]; exact List.mem_cons_self)), wipe_get vs σ j (fun z => h (List.mem_cons_of_mem _ z))]
theorem wipe_ext {σ σ' : L2.St} (hl : σ'.length = σ.length) : ∀ (vs : List Nat), (∀ j, j ∉ vs → σ'[j]? = σ[j]?) → L2.wipe σ' vs = L2.wipe σ vs := fun vs h => by
  refine List.ext_getElem? fun j => ?_
  have key : ∀ (vs : List Nat) (σ : L2.St), j ∈ vs → (L2.wipe σ vs)[j]? = if j < σ.length then some none else none := fun vs => by
    induction vs with
    | nil => intro σ h; cases h
    | cons v vs ih =>
      intro σ h
      show ((L2.wipe σ vs).set v none)[j]? = _
      by_cases hv : v = j
      · subst hv
        by_cases hl : v < σ.length
        · rw [List.getElem?_set_self (by rw [wipe_length]; exact hl), if_pos hl]
        · rw [List.getElem?_eq_none (by rw [List.length_set, wipe_length]; omega), if_neg hl]
      · rw [List.getElem?_set_ne hv]
        exact ih σ ((List.mem_cons.mp h).resolve_left (fun e => hv e.symm))
  by_cases hj : j ∈ vs
  · rw [key vs σ' hj, key vs σ hj, hl]
  · rw [wipe_get vs σ' j hj, wipe_get vs σ j hj, h j hj]
theorem wipe_idem (σ : L2.St) (vs : List Nat) : L2.wipe (L2.wipe σ vs) vs = L2.wipe σ vs := wipe_ext (wipe_length σ vs) vs fun j hj => wipe_get vs σ j hj
theorem SR.back (S : SR K G H0 pin ow' (L2.wipe σ vs) H' as') {as1 : AS} (hl : as1.length = as'.length) (h : ∀ j s, j ∈ vs → as1[j]? = some s → SlotR K (Hd ow' G H0 H') H' ow' pin j (σ[j]?) s) : SR K G H0 pin ow' σ H' (Vl.back vs as1 as') := by
  refine ⟨by rw [back_len, S.len, wipe_length], S.own, S.same, S.sub, fun j t e => ?_⟩
  rw [back_get] at e
  by_cases hj : j ∈ vs
  · by_cases hlt : j < as'.length
    · rw [if_pos ⟨hj, hlt⟩] at e
      refine h j t hj ?_
      rw [← e, List.getD_eq_getElem?_getD, List.getElem?_eq_getElem (by omega)]
      rfl
    · rw [if_neg (fun z => hlt z.2), List.getElem?_eq_none (by omega)] at e; cases e
  · rw [if_neg (fun z => hj z.1)] at e
    have := S.slot j t e
    rw [wipe_get vs σ j hj] at this
    exact this
end
theorem free_at {is : List Nat} {as : AS} (h : free is as = true) {j : Nat} {s : Slot} (hj : j ∈ is) (e : as[j]? = some s) : s = .un ∨ ∃ d, s = .dur d := by
  have q := List.all_eq_true.mp h j hj
  rw [List.getD_eq_getElem?_getD, e] at q
  cases s with
  | un => exact .inl rfl
  | dur d => exact .inr ⟨d, rfl⟩
  | own o => cases q
  | io o => cases q
  | rw _ => cases q
/-- what a comprehension's reading asks -/
theorem lc_sound {tg it : Expr} {vs : List Nat} {mi : M (List PD)} {g : PD → AS → Option AS} {mc : M Bool} {el : M PD} (hi : EI X p l tg it mi) (hl : l = .D ∨ (p2 = true ∧ p3 = true))
    (pc : p2 = true → ∀ as r as', mc as = some (r, as') → as' = as) (pe : p3 = true → ∀ as r as', el as = some (r, as') → as' = as) :
    ∃ t, PI X tg it t ∧ ∀ (G H0 : Hp) (pin : Nat → Addr) (ow : Ow) (σ : L2.St) (H : Hp) (as : AS) (r : Res) (as' : AS) (Q : VK), SR X.K G H0 pin ow σ H as → mLc vs mi g mc el as = some (r, as') →
    (∀ v H' ow', Stp G H0 ow H ow' H' → ((p && (p2 && p3)) = true → Same H H') → SR X.K G H0 pin ow' σ H' as' → FR X.K G H0 ow H ow' H' v r → Q v H') → tLc t (rdG X.K vs g) (rdT X.K p2 mc) (rdV X.K p3 .D el) vs σ H Q := by
  obtain ⟨t, a1, a2⟩ := hi.ok
  refine ⟨t, a1, fun G H0 pin ow σ H as r as' Q S hm k => ?_⟩
  unfold mLc at hm
  split at hm
  · cases hm
  rename_i ds as1 q
  split at hm
  · cases hm
  rename_i ys as2 q2
  split at hm
  · rename_i hz
    cases hm
    refine a2 G H0 pin ow σ H as ds as1 _ S q fun J H1 ow1 xs ok st sm S1 gv hd hok D hD => ?_
    -- the new list D is kept apart
    have s1 : Same H1 (upd H1 D (.lst [])) := fun b x e => by rw [upd_ne (ne_of_none e hD)]; exact e
    obtain ⟨S2, st2, w2⟩ := S1.lay (a := D) s1 hD (by rw [upd_same]; exact nofun)
    obtain ⟨ow3, S3, st3⟩ := S2.wipe vs
    have hlen := dpa_len hd
    -- the invariant
    refine ⟨fun i m H2 => i + m = xs.length ∧ ∃ as3 ow4 acc done todo, SR X.K G H0 pin ow4 (L2.wipe σ vs) H2 as3 ∧ Stp G H0 ow1 H1 ow4 H2 ∧ ((p2 && p3) = true → Same H1 H2) ∧ ow4 D = some none ∧ H2 D = some (.lst acc) ∧ DpAll X.K (Hd ow4 G H0 H2) acc done ∧
      ys = done ++ todo ∧ lcL vs g mc el (ds.drop i) as3 = some (todo, as2), ⟨xs.length, by omega, clr vs as1, ow3, [], [], ys, S3, st2.trans st3, fun _ => s1, (st3.tmp D put_same).1, ((st3.tmp D put_same).2).trans upd_same, .nil, rfl, q2⟩, ?_⟩
    rintro i m H2 ⟨hlm, as3, ow4, acc, done, todo, S4, st4, sm4, w4, hD4, hacc, hys, hf⟩
    have ok2 : ok H2 := by
      refine hok H2 (fun _ => st4.dur.trans S4.hd) (fun hne => sm4 ?_)
      rcases hl with hl | ⟨h2, h3⟩
      · exact absurd hl hne
      · rw [h2, h3]; rfl
    obtain ⟨g1, g2⟩ := gv H2 ok2
    by_cases hzi : xs.length ≤ i
    · left
      refine ⟨g2 i hzi, ?_⟩
      rw [List.drop_eq_nil_of_le (by omega)] at hf
      cases hf
      rw [List.append_nil] at hys
      subst hys
      refine k _ H2 ow4 (st.trans st4) (fun z => ?_) (S4.back ?_ fun j s hj e => ?_) ⟨D, rfl, ?_, w4, acc, hD4, hacc⟩
      · have z' : p = true ∧ (p2 && p3) = true := by simpa using z
        exact (sm z'.1).trans (sm4 z'.2)
      · rw [S1.len, S4.len, wipe_length]
      · rcases free_at hz.1 hj e with rfl | ⟨d, rfl⟩
        · trivial
        · obtain ⟨v, e1, e2⟩ := S1.slot j _ e
          exact ⟨v, e1, dpM st4.dur _ _ e2⟩
      · intro e
        have := (st.tmp D e).1
        rw [w2] at this; cases this
    · right
      have hi1 : i < xs.length := by omega
      have hi2 : i < ds.length := by omega
      rw [List.drop_eq_getElem_cons hi2] at hf
      obtain ⟨y1, y2⟩ := g1 i xs[i] (List.getElem?_eq_getElem hi1)
      have hdi : Dp X.K (Hd ow1 G H0 H1) xs[i] ds[i] := by
        exact paired_at (of_dpa hd) i hi1 hi2
      refine ⟨y1, fun H5 => ∃ as3 ow4 acc done todo, SR X.K G H0 pin ow4 (L2.wipe σ vs) H5 as3 ∧ Stp G H0 ow1 H1 ow4 H5 ∧ ((p2 && p3) = true → Same H1 H5) ∧ ow4 D = some none ∧ H5 D = some (.lst acc) ∧ DpAll X.K (Hd ow4 G H0 H5) acc done ∧
        ys = done ++ todo ∧ lcL vs g mc el (ds.drop (i + 1)) as3 = some (todo, as2), fun H5 h => ⟨m - 1, by omega, by omega, h⟩, fun x H' hy => ?_⟩
      obtain ⟨rfl, rfl⟩ := y2 x H' hy
      unfold lcL at hf
      split at hf
      · cases hf
      rename_i as5 q5
      refine ⟨G, H0, pin, ow4, as3, ds[i], as5, S4, dpM st4.dur _ _ hdi, q5, fun σ5 ow5 st5 S5 hl5 ho5 => ?_⟩
      have hw5 : L2.wipe σ5 vs = L2.wipe (L2.wipe σ vs) vs := wipe_ext hl5 vs ho5
      rw [wipe_idem] at hw5
      refine ⟨hw5, ?_⟩
      obtain ⟨w5, e5⟩ := st5.tmp D w4
      split at hf
      · cases hf
      · rename_i as6 q6
        refine ⟨G, H0, pin, ow5, as5, false, as6, S5, q6, fun H6 ow6 st6 sm6 S6 => iteF ?_⟩
        obtain ⟨w6, e6⟩ := st6.tmp D w5
        obtain ⟨ow7, S7, st7⟩ := S6.wipe vs
        rw [hw5] at S7
        obtain ⟨w7, e7⟩ := st7.tmp D w6
        refine ⟨clr vs as6, ow7, acc, done, todo, S7, st4.trans (st5.trans (st6.trans st7)), fun z => ?_, w7, by rw [e6]; exact hD4, dpaM (st5.dur.trans (st6.dur.trans st7.dur)) _ _ hacc, hys, hf⟩
        have z' : p2 = true ∧ p3 = true := by simpa using z
        exact (sm4 z).trans (sm6 z'.1)
      · rename_i as6 q6
        refine ⟨G, H0, pin, ow5, as5, true, as6, S5, q6, fun H6 ow6 st6 sm6 S6 => iteT ?_⟩
        obtain ⟨w6, e6⟩ := st6.tmp D w5
        split at hf
        · cases hf
        rename_i y as7 q7
        split at hf
        · cases hf
        rename_i ys8 as8 q8
        cases hf
        refine ⟨G, H0, pin, ow6, as6, y, as7, S6, q7, fun v7 H7 ow7 st7 sm7 S7 lv7 => ?_⟩
        obtain ⟨w7, e7⟩ := st7.tmp D w6
        have hacc7 : DpAll X.K (Hd ow7 G H0 H7) acc done := dpaM (st5.dur.trans (st6.dur.trans st7.dur)) _ _ hacc
        have hal := dpa_len hacc
        refine ⟨acc, by rw [e7, e6]; exact hD4, ?_, ?_⟩
        · have := hz.2
          rw [hys, List.length_append, List.length_cons] at this
          omega
        · obtain ⟨S8, s8⟩ := S7.write (a := D) (u := .lst (acc ++ [v7])) (by rw [w7]; exact nofun) fun j t _ e => by rw [w7] at e; cases e
          obtain ⟨ow9, S9, st9⟩ := S8.wipe vs
          rw [hw5] at S9
          have st8 : Stp G H0 ow1 H1 ow7 (upd H7 D (.lst (acc ++ [v7]))) := by
            have st17 := st4.trans (st5.trans (st6.trans st7))
            refine ⟨st17.dur.trans s8, fun b hb => ?_, fun b hb => ?_⟩
            · have hbD : b ≠ D := fun z => by
                subst z
                exact absurd hb (by rw [w2]; exact nofun)
              rw [upd_ne hbD]; exact st17.tmp b hb
            · by_cases hbD : b = D
              · subst hbD; rw [upd_same]; exact nofun
              · rw [upd_ne hbD]; exact st17.dom b hb
          obtain ⟨w9, e9⟩ := st9.tmp D w7
          refine ⟨clr vs as7, ow9, acc ++ [v7], done ++ [y], ys8, S9, st8.trans st9, fun z => ?_, w9, upd_same, ?_, by rw [hys]; simp, q8⟩
          · have z' : p2 = true ∧ p3 = true := by simpa using z
            have := ((sm4 z).trans (sm6 z'.1)).trans (sm7 z'.2)
            exact fun b x e => by rw [upd_ne (ne_of_none e hD)]; exact this b x e
          · have h9 := s8.trans st9.dur
            exact dpa_of (paired_snoc (of_dpa (dpaM h9 _ _ hacc7)) (dpM h9 _ _ lv7))
  · cases hm
end
end Vl

-- V6
set_option Elab.async false
set_option linter.all false
set_option maxRecDepth 100000
set_option maxHeartbeats 4000000
namespace Vl
open PySem L2
theorem clr_get : ∀ (vs : List Nat) (as : AS) (j : Nat), (clr vs as)[j]? = if j ∈ vs ∧ j < as.length then some .un else as[j]?
  | [], as, j => by rw [if_neg (by simp)]; rfl
  | v :: vs, as, j => by
    unfold clr
    by_cases hv : v = j
    · subst hv
      by_cases hl : v < as.length
      · rw [List.getElem?_set_self (by rw [clr_len]; exact hl), if_pos ⟨List.mem_cons_self, hl⟩]
      · rw [List.getElem?_eq_none (by rw [List.length_set, clr_len]; omega), if_neg (fun z => hl z.2), List.getElem?_eq_none (by omega)]
    · rw [List.getElem?_set_ne hv, clr_get vs as j]
      have : (j ∈ v :: vs) ↔ j ∈ vs := by
        rw [List.mem_cons]
        exact ⟨fun z => z.resolve_left (fun e => hv e.symm), .inr⟩
      simp only [this]
theorem clr_ext {vs : List Nat} {as as' : AS} (hl : as'.length = as.length) (h : ∀ j, j ∉ vs → as'[j]? = as[j]?) : clr vs as' = clr vs as := by
  refine List.ext_getElem? fun j => ?_
  rw [clr_get, clr_get, hl]
  split
  · rfl
  · rename_i z
    by_cases hj : j ∈ vs
    · have : ¬ j < as.length := fun q => z ⟨hj, q⟩
      rw [List.getElem?_eq_none (by omega), List.getElem?_eq_none (by omega)]
    · exact h j hj
theorem clr_idem (vs : List Nat) (as : AS) : clr vs (clr vs as) = clr vs as := clr_ext (clr_len vs as) fun j hj => by
  rw [clr_get, if_neg (fun z => hj z.1)]
theorem back_clr (vs : List Nat) (as : AS) : back vs as (clr vs as) = as := by
  refine List.ext_getElem? fun j => ?_
  rw [back_get, clr_get, clr_len]
  split
  · rename_i z
    rw [List.getD_eq_getElem?_getD, List.getElem?_eq_getElem z.2]; rfl
  · rename_i z
    rfl
theorem lcL_pure {vs : List Nat} {g : PD → AS → Option AS} {c : M Bool} {el : M PD} (hg : ∀ d as as', g d as = some as' → as'.length = as.length ∧ ∀ j, j ∉ vs → as'[j]? = as[j]?)
    (hc : ∀ as r as', c as = some (r, as') → as' = as) (he : ∀ as r as', el as = some (r, as') → as' = as) : ∀ (ds : List PD) (as : AS) (ys : List PD) (as' : AS), lcL vs g c el ds (clr vs as) = some (ys, as') → as' = clr vs as
  | [], as, ys, as', h => by cases h; rfl
  | d :: ds, as, ys, as', h => by
    unfold lcL at h
    split at h
    · cases h
    rename_i as1 q1
    obtain ⟨l1, o1⟩ := hg _ _ _ q1
    have e1 : clr vs as1 = clr vs as := by rw [clr_ext l1 o1, clr_idem]
    split at h
    · cases h
    · rename_i as2 q2
      have := hc _ _ _ q2
      subst this
      rw [e1] at h
      exact lcL_pure hg hc he ds as ys as' h
    · rename_i as2 q2
      have := hc _ _ _ q2
      subst this
      split at h
      · cases h
      rename_i y as3 q3
      have := he _ _ _ q3
      subst this
      split at h
      · cases h
      rename_i ys4 as4 q4
      cases h
      rw [e1] at q4
      exact lcL_pure hg hc he ds as _ _ q4
section
variable {X : Cx} {p p1 p2 p3 : Bool} {l l1 : Lv} {pos : Pos}

/-! ### comprehensions, as a value and stored -/
theorem ef_lc {elt tg it : Expr} {ifs : List Expr} {scope : Scope} {mi : M (List PD)} {g : PD → AS → Option AS} {mc : M Bool} {el : M PD} (own : List (Str × Nat)) (hc : X.calm = true) (hN : X.N.Nodup) (hi : EI X p l tg it mi) (hb : blkC X.N X.env.scope scope own = true)
    (hg : ∀ (s : Shared) (H : Hp) (C : Addr) (cl : List (Str × Addr)) (fp : List Addr), EG (X.blk s H scope (compEnvC scope cl C X.env) fp) tg (own.map (·.2)) g)
    (ht : ∀ (s : Shared) (H : Hp) (C : Addr) (cl : List (Str × Addr)) (fp : List Addr), ETs (X.blk s H scope (compEnvC scope cl C X.env) fp) p2 ifs mc)
    (he : ∀ (s : Shared) (H : Hp) (C : Addr) (cl : List (Str × Addr)) (fp : List Addr), EV (X.blk s H scope (compEnvC scope cl C X.env) fp) p3 .D elt el)
    (hl : l = .D ∨ (p2 = true ∧ p3 = true) := by first | exact .inr ⟨rfl, rfl⟩ | exact .inl rfl)
    (hs : ∀ x, foldedSetIterable it X.env x = pure x := by intro _; rfl) : EF X (p && (p2 && p3)) (.ListComp elt [{ target := tg, iter := it, ifs := ifs, is_async := 0 }] scope pos) (mLc (own.map (·.2)) mi g mc el) := by
  have pg := (hg X.s_0 X.H_0 0 [] []).loc
  have pt := (ht X.s_0 X.H_0 0 [] []).pur
  have pv := (he X.s_0 X.H_0 0 [] []).pur
  obtain ⟨t, a1, a2⟩ := lc_sound (vs := own.map (·.2)) (g := g) hi hl pt pv
  refine ⟨fun z as r as' h => ?_, _, pe_lc (own := own) hc hN a1 (blkOk_by hb) (fun s H C cl fp => (hg s H C cl fp).can) (fun s H C cl fp => (ht s H C cl fp).ok) (fun s H C cl fp => (he s H C cl fp).can) hs, a2⟩
  have z' : p = true ∧ p2 = true ∧ p3 = true := by simpa using z
  unfold mLc at h
  split at h
  · cases h
  rename_i ds as1 q
  have := hi.pur z'.1 _ _ _ q
  subst this
  split at h
  · cases h
  rename_i ys as2 q2
  have := lcL_pure pg (pt z'.2.1) (pv z'.2.2) ds as1 ys as2 q2
  subst this
  split at h
  · cases h
    exact back_clr _ _
  · cases h

/-- y = [..] where the block stores y itself -/
theorem es_setLc {i : Nat} {y : Str} {py spos : Pos} {elt tg it : Expr} {ifs : List Expr} {scope : Scope} {mi : M (List PD)} {g : PD → AS → Option AS} {mc : M Bool} {el : M PD} (own : List (Str × Nat)) (hc : X.calm = true) (hN : X.N.Nodup) (hi : EI X p l tg it mi)
    (hb : blkC X.N X.env.scope scope own = true)
    (hg : ∀ (s : Shared) (H : Hp) (C : Addr) (cl : List (Str × Addr)) (fp : List Addr), EG (X.blk s H scope (compEnvC scope cl C X.env) fp) tg (own.map (·.2)) g)
    (ht : ∀ (s : Shared) (H : Hp) (C : Addr) (cl : List (Str × Addr)) (fp : List Addr), ETs (X.blk s H scope (compEnvC scope cl C X.env) fp) p2 ifs mc)
    (he : ∀ (s : Shared) (H : Hp) (C : Addr) (cl : List (Str × Addr)) (fp : List Addr), EV (X.blk s H scope (compEnvC scope cl C X.env) fp) p3 .D elt el)
    (hsw : swapsWith (.ListComp elt [{ target := tg, iter := it, ifs := ifs, is_async := 0 }] scope pos) (some (.Name y py)) spos.line X.env = pure true)
    (hx : X.N[i]? = some y := by rfl) (hloc : X.env.scope.names.lookup y = some .local := by rfl)
    (hl : l = .D ∨ (p2 = true ∧ p3 = true) := by first | exact .inr ⟨rfl, rfl⟩ | exact .inl rfl)
    (hs : ∀ x, foldedSetIterable it X.env x = pure x := by intro _; rfl) : ES X (.Assign [.Name y py] (.ListComp elt [{ target := tg, iter := it, ifs := ifs, is_async := 0 }] scope pos) spos) (sSet i (mLc (own.map (·.2)) mi g mc el)) := by
  have pt := (ht X.s_0 X.H_0 0 [] []).pur
  have pv := (he X.s_0 X.H_0 0 [] []).pur
  obtain ⟨t, a1, a2⟩ := lc_sound (vs := own.map (·.2)) (g := g) hi hl pt pv
  refine ⟨_, ps_setLc (i := i) (own := own) (g := rdG X.K (own.map (·.2)) g) (tt := rdT X.K p2 mc) (te := rdV X.K p3 .D el) hc hN hx hloc hsw a1 (blkOk_by hb) (fun s H C cl fp => (hg s H C cl fp).can) (fun s H C cl fp => (ht s H C cl fp).ok) (fun s H C cl fp => (he s H C cl fp).can) hs, fun G H0 pin ow σ H as c as' D S hm k => ?_⟩
  unfold sSet at hm
  split at hm
  · cases hm
  · rename_i r as1 q
    refine a2 G H0 pin ow σ H as r as1 _ S q fun v H1 ow1 st sm S1 fr => ?_
    split at hm
    · cases hm
    · cases hm
    · cases hm
      cases r with
      | val d =>
        obtain ⟨S2, st2⟩ := S1.setD (i := i) fr
        exact k _ _ _ (st.dur.trans st2.dur) S2
      | obj o =>
        obtain ⟨a, rfl, w, w1, ob⟩ := fr
        obtain ⟨S2, s2⟩ := S1.setO (i := i) w1 ob
        exact k _ _ _ (st.dur.trans s2) S2

/-! ### what is walked -/
def rng (lo : Int) (n : Nat) : List PD := (List.range n).map fun (i : Nat) => .int (lo + (i : Int))
def fR1 : List PD → Option (List PD)
  | [.int j] => if -(2 ^ 62) ≤ j ∧ j < 2 ^ 62 then some (rng 0 j.toNat) else none
  | _ => none
def fR2 : List PD → Option (List PD)
  | [.int i, .int j] => if -(2 ^ 62) ≤ i ∧ i < 2 ^ 62 ∧ -(2 ^ 62) ≤ j ∧ j < 2 ^ 62 then some (rng i (j - i).toNat) else none
  | _ => none
def mR (f : List PD → Option (List PD)) (ms : M (List PD)) : M (List PD) := mBind ms fun xs => mOpt (f xs)
theorem dpa_rng {K : Fg} {H : Hp} (lo : Int) (n : Nat) : DpAll K H ((List.range n).map fun (i : Nat) => V.int (lo + (i : Int))) (rng lo n) := by
  unfold rng
  generalize List.range n = r
  induction r with
  | nil => exact .nil
  | cons a t ih => exact .cons (.int _) ih
theorem gives_rng (lo : Int) (n : Nat) (ok : Hp → Prop) : Gives (Itr lo n) ((List.range n).map fun (i : Nat) => V.int (lo + (i : Int))) ok := fun H _ => by
  refine ⟨fun i x h => ?_, fun i h => by rw [List.length_map, List.length_range] at h; exact h⟩
  rw [List.getElem?_map] at h
  have hi : i < n := by
    cases e : (List.range n)[i]? with
    | none => rw [e] at h; cases h
    | some j => simpa using (List.getElem?_eq_some_iff.mp e).1
  rw [List.getElem?_range hi] at h
  cases h
  exact ⟨hi, fun y H' h => h⟩
theorem one_of {F : V → PD → Prop} {vs : List V} {d : PD} (h : Paired F vs [d]) : ∃ v, vs = [v] ∧ F v d := by
  cases h with
  | cons a t => cases t; exact ⟨_, rfl, a⟩
theorem two_of {F : V → PD → Prop} {vs : List V} {d e : PD} (h : Paired F vs [d, e]) : ∃ v w, vs = [v, w] ∧ F v d ∧ F w e := by
  cases h with
  | cons a t =>
    obtain ⟨w, rfl, b⟩ := one_of t
    exact ⟨_, _, rfl, a, b⟩
theorem ei_r1 {tg a : Expr} {q : Pos} {ms : M (List PD)} (hm : X.mg "range" = none) (ha : EA X p l [a] ms) (hg : Gl X "range" := by rfl) (hs : starEach [a] X.env = [(false, eval a X.env)] := by rfl) : EI X p l1 tg (.Call (.Name "range" q) [a] [] pos) (mR fR1 ms) := by
  obtain ⟨t, a1, a2⟩ := ha.ok
  refine ⟨fun z => pur_n ha.pur z, _, pi_range1 hg hm a1 hs, fun G H0 pin ow σ H as ds as' R S hm k => ?_⟩
  obtain ⟨xs, as1, q1, q⟩ := bind_some hm
  obtain ⟨q2, rfl⟩ := opt_some q
  unfold fR1 at q2
  split at q2
  · rename_i j
    split at q2
    · rename_i hj
      cases q2
      refine a2 G H0 pin ow σ H as _ as' _ S q1 fun vs H1 ow1 st sm S1 lv => ?_
      obtain ⟨v, rfl, l1⟩ := one_of (paired_map lv fun _ _ h => lv_dp S1.hd h)
      cases l1
      exact ⟨j, rfl, hj.1, hj.2, k _ H1 ow1 _ (fun _ => True) st sm S1 (gives_rng 0 j.toNat _) (dpa_rng 0 j.toNat) fun _ _ _ => trivial⟩
    · cases q2
  · cases q2
theorem ei_r2 {tg a b : Expr} {q : Pos} {ms : M (List PD)} (hm : X.mg "range" = none) (ha : EA X p l [a, b] ms) (hg : Gl X "range" := by rfl) (hs : starEach [a, b] X.env = [(false, eval a X.env), (false, eval b X.env)] := by rfl)
    (hs2 : starEach [b] X.env = [(false, eval b X.env)] := by rfl) : EI X p l1 tg (.Call (.Name "range" q) [a, b] [] pos) (mR fR2 ms) := by
  obtain ⟨t, a1, a2⟩ := ha.ok
  refine ⟨fun z => pur_n ha.pur z, _, pi_range2 hg hm a1 hs hs2, fun G H0 pin ow σ H as ds as' R S hm k => ?_⟩
  obtain ⟨xs, as1, q1, q⟩ := bind_some hm
  obtain ⟨q2, rfl⟩ := opt_some q
  unfold fR2 at q2
  split at q2
  · rename_i i j
    split at q2
    · rename_i hj
      cases q2
      refine a2 G H0 pin ow σ H as _ as' _ S q1 fun vs H1 ow1 st sm S1 lv => ?_
      obtain ⟨v, w, rfl, l1, l2⟩ := two_of (paired_map lv fun _ _ h => lv_dp S1.hd h)
      cases l1
      cases l2
      exact ⟨i, j, rfl, hj, k _ H1 ow1 _ (fun _ => True) st sm S1 (gives_rng i (j - i).toNat _) (dpa_rng i (j - i).toNat) fun _ _ _ => trivial⟩
    · cases q2
  · cases q2
/-- a list or a tuple -/
def iSeq (K : Fg) (tl : TE) : TI := fun σ H R => tl σ H fun x H1 => ∃ a, x = .ref a ∧ ((∃ xs, SqL K H1 a xs ∧ R (Itl K a) H1) ∨ (∃ xs, SqT K H1 a xs ∧ R (Itt K a) H1))
theorem pi_seq {tg e : Expr} {tl : TE} (he : PE X e tl) : PI X tg e (iSeq X.K tl) := by
  constructor
  intro pins s σ H R I h
  refine thn (he.run pins s σ H _ I h) ?_
  rintro v s1 ⟨x, H1, I1, r1, a, rfl, (⟨xs, hq, q⟩ | ⟨xs, hq, q⟩)⟩
  · cases r1
    obtain ⟨its, rv, pl, hz⟩ := I1.list hq
    apply wpAny_pyIter_list pl.isList
    refine ⟨s1.heap.objs.size, [s1.heap.objs.size], _, _, H1, rfl, I1.kept (t' := s1.toks) (fun _ _ w => Heap.get?_push_of_some _ w), turn_list a _, ⟨_, Heap.get?_push_size _ rfl, rfl, rfl⟩, ?_, q⟩
    intro b hb
    cases List.mem_singleton.mp hb
    exact I1.fpOk (Nat.le_refl _) (I1.hok.fresh (Nat.le_refl _))
  · cases r1
    obtain ⟨its, rv, pl, hz⟩ := I1.tuple hq
    have pl' : s1.heap.IsTuple a its.toArray := pl
    apply wpAny_pyIter_tuple pl'
    refine ⟨s1.heap.objs.size, [s1.heap.objs.size], _, _, H1, rfl, I1.kept (t' := s1.toks) (fun _ _ w => Heap.get?_push_of_some _ w), turn_tuple a _, ⟨_, Heap.get?_push_size _ rfl, rfl, rfl⟩, ?_, q⟩
    intro b hb
    cases List.mem_singleton.mp hb
    exact I1.fpOk (Nat.le_refl _) (I1.hok.fresh (Nat.le_refl _))
def fSeq : PD → Option (List PD)
  | .list ds => some ds
  | .tuple ds => some ds
  | _ => none

theorem gives_l {K : Fg} {a : Addr} {xs : List V} {ok : Hp → Prop} (h : ∀ H, ok H → SqL K H a xs) : Gives (Itl K a) xs ok := fun H o => by
  refine ⟨fun i x e => ⟨⟨xs, x, h H o, e⟩, fun y H' z => ⟨z.1, ?_⟩⟩, fun i hi => ⟨xs, h H o, hi⟩⟩
  have := z.2 xs (h H o)
  rw [e] at this
  exact (Option.some.inj this).symm
theorem gives_t {K : Fg} {a : Addr} {xs : List V} {ok : Hp → Prop} (h : ∀ H, ok H → SqT K H a xs) : Gives (Itt K a) xs ok := fun H o => by
  refine ⟨fun i x e => ⟨⟨xs, x, h H o, e⟩, fun y H' z => ⟨z.1, ?_⟩⟩, fun i hi => ⟨xs, h H o, hi⟩⟩
  have := z.2 xs (h H o)
  rw [e] at this
  exact (Option.some.inj this).symm
theorem ei_seq {tg e : Expr} {m : M PD} (h : EV X p l e m) (hl : l ≠ .B := by nofun) : EI X p l tg e (m1 fSeq m) := by
  obtain ⟨t, a1, a2⟩ := h.ok
  refine ⟨fun z => pur1 h.pur z, _, pi_seq a1, fun G H0 pin ow σ H as ds as' R S hm k => ?_⟩
  obtain ⟨x, as1, q1, q⟩ := bind_some hm
  obtain ⟨q2, rfl⟩ := opt_some q
  refine a2 G H0 pin ow σ H as x as' _ S q1 fun v H1 ow1 st sm S1 lv => ?_
  cases x with
  | list ds =>
    cases q2
    cases l with
    | B => exact absurd rfl hl
    | I =>
      obtain ⟨a, xs, rfl, r1, r2⟩ := lv
      exact ⟨a, rfl, .inl ⟨xs, r1, k _ H1 ow1 xs (fun H => SqL X.K H a xs) st sm S1 (gives_l fun _ h => h) r2 fun H2 _ h => sqlM (h nofun) r1⟩⟩
    | D =>
      obtain ⟨a, xs, rfl, r1, r2⟩ := it_dp.mpr lv
      exact ⟨a, rfl, .inl ⟨xs, sqlM S1.hd r1, k _ H1 ow1 xs (fun H => SqL X.K H a xs) st sm S1 (gives_l fun _ h => h) r2 fun H2 h _ => sqlM (h rfl) r1⟩⟩
  | tuple ds =>
    cases q2
    have lv : Dp X.K (Hd ow1 G H0 H1) v (.tuple ds) := by
      cases l with
      | B => exact absurd rfl hl
      | I => exact lv
      | D => exact lv
    cases lv with
    | @tup a xs _ r1 r2 =>
      exact ⟨a, rfl, .inr ⟨xs, sqtM S1.hd r1, k _ H1 ow1 xs (fun H => SqT X.K H a xs) st sm S1 (gives_t fun _ h => h) r2 fun H2 h h' => by
        cases l with
        | B => exact absurd rfl hl
        | I => exact sqtM (S1.hd.trans (h' nofun)) r1
        | D => exact sqtM (h rfl) r1⟩⟩
  | none => cases q2
  | bool _ => cases q2
  | int _ => cases q2
  | str _ => cases q2
  | dict _ => cases q2

/-! ### items and slices -/
def fIx : PD → PD → Option Res
  | .list ds, .int i => (atI ds i).map .val
  | .tuple ds, .int i => (atI ds i).map .val
  | .str z, .int i => if z.length ≤ sizeLine then (atI z.cps.toList i).map fun c => .val (.str ⟨#[c]⟩) else none
  | _, _ => none
theorem atI_paired {α β : Type} {F : α → β → Prop} {xs : List α} {ds : List β} {i : Int} {d : β} (h : Paired F xs ds) (e : atI ds i = some d) : ∃ v, atI xs i = some v ∧ F v d := by
  unfold atI at e ⊢
  rw [h.length]
  cases q : ixN ds.length i with
  | none => rw [q] at e; cases e
  | some j =>
    rw [q] at e
    have e : ds[j]? = some d := e
    obtain ⟨h2, e2⟩ := List.getElem?_eq_some_iff.mp e
    have h1 : j < xs.length := by rw [h.length]; exact h2
    refine ⟨xs[j], List.getElem?_eq_getElem h1, ?_⟩
    rw [← e2]
    exact paired_at h j h1 h2
theorem r2o_ix {K : Fg} : R2O K (rIx K) fIx := by
  intro G H x y dx dy res s hx hy hf Q k
  have hy := it_up s hy
  have key : ∀ (v : V) (d : PD), Dp K G v d → OkRes K G H H v (.val d) := fun v d h => by
    show Dp K (gr G H H) v d
    exact dpM (gr_sub s) _ _ h
  cases dy with
  | int i =>
    cases hy
    cases dx with
    | list ds =>
      obtain ⟨a, xs, rfl, r1, r2⟩ := hx
      cases e : atI ds i with
      | none => simp only [fIx, e] at hf; cases hf
      | some d =>
        simp only [fIx, e] at hf
        cases hf
        obtain ⟨v, e2, h2⟩ := atI_paired (of_dpa r2) e
        exact .inl ⟨a, xs, i, v, rfl, rfl, r1, e2, k v H (Same.refl H) (key v d h2)⟩
    | tuple ds =>
      obtain ⟨a, xs, rfl, r1, r2⟩ : ∃ a xs, x = .ref a ∧ SqT K H a xs ∧ DpAll K G xs ds := by
        cases hx with
        | tup r1 r2 => exact ⟨_, _, rfl, sqtM s r1, r2⟩
      cases e : atI ds i with
      | none => simp only [fIx, e] at hf; cases hf
      | some d =>
        simp only [fIx, e] at hf
        cases hf
        obtain ⟨v, e2, h2⟩ := atI_paired (of_dpa r2) e
        exact .inr (.inl ⟨a, xs, i, v, rfl, rfl, r1, e2, k v H (Same.refl H) (key v d h2)⟩)
    | str z =>
      cases hx
      unfold fIx at hf
      simp only at hf
      split at hf
      · rename_i hz
        cases e : atI z.cps.toList i with
        | none => rw [e] at hf; cases hf
        | some c =>
          rw [e] at hf
          cases hf
          exact .inr (.inr ⟨z, i, c, rfl, rfl, hz, e, k _ H (Same.refl H) (key _ _ (Dp.str _))⟩)
      · cases hf
    | none => cases hf
    | bool _ => cases hf
    | int _ => cases hf
    | dict _ => cases hf
  | none => cases dx <;> cases hf
  | bool _ => cases dx <;> cases hf
  | str _ => cases dx <;> cases hf
  | list _ => cases dx <;> cases hf
  | tuple _ => cases dx <;> cases hf
  | dict _ => cases dx <;> cases hf
theorem ef_ix {a b : Expr} {ma mb : M PD} (ha : EV X p1 l a ma) (hb : EV X p2 l1 b mb) (hs : l = .D ∨ p2 = true := by first | exact .inr rfl | exact .inl rfl) (hl : l ≠ .B := by nofun) (hl1 : l1 ≠ .B := by nofun)
    (hp : PlainIx b := by exact fun _ _ => rfl) : EF X (p1 && p2) (.Subscript a b pos) (m2 fIx ma mb) := by
  obtain ⟨ta, tb, e1, e2, q⟩ := ha.two hb hs
  refine ⟨fun z => pur2 ha.pur (fun z _ => hb.pur z) z, _, pe_ix ix_seq e1 e2 hp, fun G H0 pin ow σ H as r as' Q S hm k => ?_⟩
  obtain ⟨x, as1, q1, hm⟩ := bind_some hm
  obtain ⟨y, as2, q2, hm⟩ := bind_some hm
  obtain ⟨q3, rfl⟩ := opt_some hm
  refine q G H0 pin ow σ H as x y as1 as' _ S q1 q2 fun v w H' ow' st sm S' lv lw => ?_
  exact r2o_ix _ _ _ _ _ _ _ S'.hd (lv_it S'.hd hl lv) (lv_it S'.hd hl1 lw) q3 _ fun z H2 s2 okr => fin_o S' st sm s2 okr k
end
end Vl

-- V7
set_option Elab.async false
set_option linter.all false
set_option maxRecDepth 100000
set_option maxHeartbeats 4000000
namespace Vl
open PySem L2
section
variable {X : Cx} {p p1 p2 p3 : Bool} {l l1 : Lv} {pos : Pos}

/-! ### slices -/
def mPart (m : M PD) : M (Option Int) := mBind m fun d => mOpt (match d with | .int i => some (some i) | _ => none)
structure EO (X : Cx) (p : Bool) (e : Option Expr) (m : M (Option Int)) : Prop where
  pur : p = true → ∀ as r as', m as = some (r, as') → as' = as
  ok : ∃ t, PO X e t ∧ ∀ (G H0 : Hp) (pin : Nat → Addr) (ow : Ow) (σ : L2.St) (H : Hp) (as : AS) (r : Option Int) (as' : AS) (Q : Option Int → Hp → Prop), SR X.K G H0 pin ow σ H as → m as = some (r, as') →
    (∀ H' ow', Stp G H0 ow H ow' H' → (p = true → Same H H') → SR X.K G H0 pin ow' σ H' as' → Q r H') → t σ H Q
theorem eo_n : EO X true none (mPure none) := by
  refine ⟨fun _ as r as' h => (pure_some h).2, _, po_none, fun G H0 pin ow σ H as r as' Q S hm k => ?_⟩
  obtain ⟨rfl, rfl⟩ := pure_some hm
  exact k H ow Stp.refl (fun _ => Same.refl _) S
theorem eo_s {e : Expr} {m : M PD} (h : EV X p l e m) : EO X p (some e) (mPart m) := by
  obtain ⟨t, a1, a2⟩ := h.ok
  refine ⟨fun z => pur1 h.pur z, _, po_some a1, fun G H0 pin ow σ H as r as' Q S hm k => ?_⟩
  obtain ⟨x, as1, q1, q⟩ := bind_some hm
  obtain ⟨q2, rfl⟩ := opt_some q
  refine a2 G H0 pin ow σ H as x as' _ S q1 fun v H1 ow1 st sm S1 lv => ?_
  have lv := lv_dp S1.hd lv
  cases x with
  | int i => cases q2; cases lv; exact ⟨i, rfl, k H1 ow1 st sm S1⟩
  | none => cases q2
  | bool _ => cases q2
  | str _ => cases q2
  | list _ => cases q2
  | tuple _ => cases q2
  | dict _ => cases q2
def cutD {α : Type} (xs : List α) (lo hi : Option Int) : List α := (xs.drop (HT.sIx xs.length 0 lo)).take (HT.sIx xs.length xs.length hi - HT.sIx xs.length 0 lo)
def fSl (d : PD) (lo hi : Option Int) : Option Res := match d with
  | .list ds => some (.obj (.ol (cutD ds lo hi)))
  | .tuple ds => some (.val (.tuple (cutD ds lo hi)))
  | _ => none
theorem dpa_take {K : Fg} {H : Hp} : ∀ {vs : List V} {ds : List PD} (n : Nat), DpAll K H vs ds → DpAll K H (vs.take n) (ds.take n)
  | _, _, 0, _ => .nil
  | _, _, _ + 1, .nil => .nil
  | _, _, n + 1, .cons h t => .cons h (dpa_take n t)
theorem dpa_drop {K : Fg} {H : Hp} : ∀ {vs : List V} {ds : List PD} (n : Nat), DpAll K H vs ds → DpAll K H (vs.drop n) (ds.drop n)
  | _, _, 0, h => h
  | _, _, _ + 1, .nil => .nil
  | _, _, n + 1, .cons _ t => dpa_drop n t
theorem dpa_cut {K : Fg} {H : Hp} {vs : List V} {ds : List PD} (lo hi : Option Int) (h : DpAll K H vs ds) : DpAll K H (cutV vs lo hi) (cutD ds lo hi) := by
  unfold cutV cutD
  rw [dpa_len h]
  exact dpa_take _ (dpa_drop _ h)
theorem cut_whole {α : Type} {xs : List α} {lo hi : Option Int} (h : HT.sIx xs.length 0 lo = 0 ∧ HT.sIx xs.length xs.length hi = xs.length) : cutD xs lo hi = xs := by
  unfold cutD
  rw [h.1, h.2]
  simp
def mSl (m : M PD) (ml mh : M (Option Int)) : M Res := mBind m fun d => mBind ml fun lo => mBind mh fun hi => mOpt (fSl d lo hi)
theorem ef_sl {e : Expr} {lo hi : Option Expr} {p2' : Pos} {m : M PD} {ml mh : M (Option Int)} (ha : EV X p1 l e m) (hb : EO X p2 lo ml) (hc : EO X p3 hi mh) (hs : l = .D ∨ (p2 = true ∧ p3 = true) := by first | exact .inr ⟨rfl, rfl⟩ | exact .inl rfl) (hl : l ≠ .B := by nofun) :
    EF X (p1 && (p2 && p3)) (.Subscript e (.Slice lo hi none p2') pos) (mSl m ml mh) := by
  obtain ⟨ta, a1, a2⟩ := ha.ok
  obtain ⟨tb, b1, b2⟩ := hb.ok
  obtain ⟨tc, c1, c2⟩ := hc.ok
  refine ⟨fun z as r as' h => ?_, _, pe_slice (sl_list.or sl_tupA) a1 b1 c1, fun G H0 pin ow σ H as r as' Q S hm k => ?_⟩
  · have z' : p1 = true ∧ p2 = true ∧ p3 = true := by simpa using z
    obtain ⟨d, as1, q1, h⟩ := bind_some h
    obtain ⟨i, as2, q2, h⟩ := bind_some h
    obtain ⟨j, as3, q3, h⟩ := bind_some h
    obtain ⟨_, rfl⟩ := opt_some h
    exact ((hc.pur z'.2.2 _ _ _ q3).trans (hb.pur z'.2.1 _ _ _ q2)).trans (ha.pur z'.1 _ _ _ q1)
  · obtain ⟨d, as1, q1, h⟩ := bind_some hm
    obtain ⟨i, as2, q2, h⟩ := bind_some h
    obtain ⟨j, as3, q3, h⟩ := bind_some h
    obtain ⟨q4, rfl⟩ := opt_some h
    refine a2 G H0 pin ow σ H as d as1 _ S q1 fun v H1 ow1 st1 sm1 S1 lv1 => ?_
    refine b2 G H0 pin ow1 σ H1 as1 i as2 _ S1 q2 fun H2 ow2 st2 sm2 S2 => ?_
    refine c2 G H0 pin ow2 σ H2 as2 j as' _ S2 q3 fun H3 ow3 st3 sm3 S3 => ?_
    have lv := lv_it S3.hd hl (lvM (st2.trans st3).dur (hs.imp id fun z => (sm2 z.1).trans (sm3 z.2)) lv1)
    have st := st1.trans (st2.trans st3)
    have sm : (p1 && (p2 && p3)) = true → Same H H3 := fun z => by
      have z' : p1 = true ∧ p2 = true ∧ p3 = true := by simpa using z
      exact (sm1 z'.1).trans ((sm2 z'.2.1).trans (sm3 z'.2.2))
    cases d with
    | list ds =>
      cases q4
      obtain ⟨a, xs, rfl, r1, r2⟩ := lv
      refine .inl ⟨a, xs, rfl, r1, fun b hb => ?_⟩
      refine fin_o S3 st sm (fun c x e => by rw [upd_ne (ne_of_none e hb)]; exact e) (v := .ref b) (res := .obj (.ol (cutD ds i j))) ?_ k
      exact ⟨b, rfl, hb, _, upd_same, dpaM (rm_sub S3.hd hb) _ _ (dpa_cut i j r2)⟩
    | tuple ds =>
      cases q4
      cases lv with
      | @tup a xs _ r1 r2 =>
      refine .inr ⟨a, xs, rfl, sqtM S3.hd r1, fun hw => ?_, fun hw b hb => ?_⟩
      · have hw' := hw
        rw [dpa_len r2] at hw'
        rw [cut_whole hw'] at k
        exact k _ H3 ow3 st sm S3 (Dp.tup r1 r2)
      · refine fin_o S3 st sm (fun c x e => by rw [upd_ne (ne_of_none e hb)]; exact e) (v := .ref b) (res := .val (.tuple (cutD ds i j))) ?_ k
        exact Dp.tup (SqT.of (by unfold gr; rw [if_pos hb]; exact upd_same)) (dpaM (gr_sub S3.hd) _ _ (dpa_cut i j r2))
    | none => cases q4
    | bool _ => cases q4
    | int _ => cases q4
    | str _ => cases q4
    | dict _ => cases q4

/-! ### methods that change a list of one's own -/
def slotL (as : AS) (i : Nat) : Option (List PD) := match as[i]? with
  | some (.own (.ol xs)) => some xs
  | some (.io (.ol xs)) => some xs
  | _ => none
def setL (as : AS) (i : Nat) (xs : List PD) : AS := match as[i]? with
  | some (.io _) => as.set i (.io (.ol xs))
  | _ => as.set i (.own (.ol xs))
section
variable {K : Fg} {G H0 H H' : Hp} {pin : Nat → Addr} {ow ow' : Ow} {σ : L2.St} {as : AS} {i : Nat} {xs xs' : List PD}
theorem SR.atL (S : SR K G H0 pin ow σ H as) (e : slotL as i = some xs) : ∃ a vs, σ[i]? = some (some (.ref a)) ∧ ow a = some (some i) ∧ H a = some (.lst vs) ∧ DpAll K (Hd ow G H0 H) vs xs := by
  unfold slotL at e
  split at e
  · rename_i q
    cases e
    obtain ⟨a, q1, w, vs, hv, hd⟩ := S.slot i _ q
    exact ⟨a, vs, q1, w, hv, hd⟩
  · rename_i q
    cases e
    obtain ⟨a, q1, w, _, vs, hv, hd⟩ := S.slot i _ q
    exact ⟨a, vs, q1, w, hv, hd⟩
  · cases e
theorem SR.newL (S : SR K G H0 pin ow σ H as) (e : slotL as i = some xs) {a : Addr} {vs' : List V} (hz : σ[i]? = some (some (.ref a))) (w : ow a = some (some i)) (h : DpAll K (Hd ow G H0 H) vs' xs') :
    SR K G H0 pin ow σ (upd H a (.lst vs')) (setL as i xs') ∧ Stp G H0 ow H ow (upd H a (.lst vs')) := by
  have S1 := S.tell (i := i) (s := .un) fun _ => trivial
  obtain ⟨S2, s2⟩ := S1.write (a := a) (u := .lst vs') (by rw [w]; exact nofun) fun j t ht q => by
    rw [w] at q
    cases q
    by_cases hl : i < as.length
    · rw [List.getElem?_set_self hl] at ht
      cases ht
      trivial
    · rw [List.getElem?_eq_none (by rw [List.length_set]; omega)] at ht; cases ht
  have ob : ObjAt K (Hd ow G H0 (upd H a (.lst vs'))) (upd H a (.lst vs')) a (.ol xs') := ⟨vs', upd_same, dpaM s2 _ _ h⟩
  refine ⟨?_, s2, fun b hb => ⟨hb, upd_ne fun q => ?_⟩, fun b hb => ?_⟩
  · unfold slotL at e
    unfold setL
    split at e
    · rename_i q
      simp only [q]
      have S3 := S2.tell (i := i) (s := .own (.ol xs')) fun _ => ⟨a, hz, w, ob⟩
      rw [List.set_set] at S3; exact S3
    · rename_i q
      simp only [q]
      obtain ⟨b, q1, w1, hp, _⟩ := S.slot i _ q
      rw [hz] at q1
      cases q1
      have S3 := S2.tell (i := i) (s := .io (.ol xs')) fun _ => ⟨a, hz, w, hp, ob⟩
      rw [List.set_set] at S3; exact S3
    · cases e
  · subst q; rw [w] at hb; cases hb
  · by_cases q : b = a
    · subst q; rw [upd_same]; exact nofun
    · rw [upd_ne q]; exact hb
end
def RmL (K : Fg) (r : V → List V → Hp → VK → Prop) (f : List PD → List PD → Option (PD × List PD)) : Prop := ∀ (G H : Hp) (a : Addr) (vs ws : List V) (xs ds : List PD) (d : PD) (xs' : List PD), Same G H → H a = some (.lst vs) → DpAll K G vs xs → DpAll K G ws ds → f xs ds = some (d, xs') →
  ∀ Q : VK, (∀ v vs', DpAll K G vs' xs' → Dp K G v d → Q v (upd H a (.lst vs'))) → r (.ref a) ws H Q
def mMth (i : Nat) (f : List PD → List PD → Option (PD × List PD)) (ms : M (List PD)) : M PD := fun as => match slotL as i with
  | none => none
  | some _ => match ms as with
    | none => none
    | some (ds, as1) => match slotL as1 i with
      | none => none
      | some xs => match f xs ds with
        | none => none
        | some (d, xs') => some (d, setL as1 i xs')
variable {name : Str} {apos cpos npos : Pos} {id : String} {r : V → List V → Hp → VK → Prop} {f : List PD → List PD → Option (PD × List PD)}
theorem ev_mth {i : Nat} {x : Str} {e : Expr} {es : List Expr} {ms : M (List PD)} (slot : PySem.Slot "list" name id) (hty : typeOf (.builtin id) = pure (.type "method_descriptor")) (hm : MtR X id r) (hr : RmL X.K r f) (ha : EA X p .D (e :: es) ms)
    (hN : X.N[i]? = some x := by rfl) (hv : Vis X.env.scope x := by first | exact Or.inl rfl | exact Or.inr (Or.inl rfl) | exact Or.inr (Or.inr rfl)) (hd : (x == ("__debug__" : Str)) = false := by decide)
    (hcd : (x == ("__classdict__" : Str)) = false := by decide)
    (hbase : attributeBase (.Name x npos) name X.env (eval (.Name x npos) X.env) = eval (.Name x npos) X.env := by rfl)
    (hfew : ((backTo cpos (starEach (e :: es) X.env)).all (fun x => !x.1) && (backToKw cpos (keywordEach [] X.env)).all (fun x => x.1.isSome)
      && decide ((e :: es).length + ([] : List Keyword).length + (if ([] : List Keyword).isEmpty then 0 else 1) < 30)) = true := by rfl)
    (hline : (apos.endLine == cpos.line) = true := by rfl) (hs : starEach (e :: es) X.env = (false, eval e X.env) :: starEach es X.env := by rfl) (hplain : (backTo cpos (starEach es X.env)).any (·.1) = false := by rfl) :
    EV X false .D (.Call (.Attribute (.Name x npos) name apos) (e :: es) [] cpos) (mMth i f ms) := by
  obtain ⟨t, a1, a2⟩ := ha.ok
  refine ⟨fun z => (by cases z), _, pe_bm PySem.F.plainAttrs_list slot hty hm (pe_var hN hv hd hcd) a1 hbase hfew hline hs hplain, fun G H0 pin ow σ H as d as' Q S hm k => ?_⟩
  unfold mMth at hm
  split at hm
  · cases hm
  rename_i xs0 q0
  obtain ⟨a, vs0, hz, w0, hv0, _⟩ := S.atL q0
  refine ⟨_, hz, .inl ⟨rfl, _, SqL.of hv0⟩, ?_⟩
  split at hm
  · cases hm
  rename_i ds as1 q1
  refine a2 G H0 pin ow σ H as ds as1 _ S q1 fun ws H1 ow1 st sm S1 lv => ?_
  split at hm
  · cases hm
  rename_i xs q2
  split at hm
  · cases hm
  rename_i d' xs' q3
  cases hm
  obtain ⟨b, vs, hz1, w1, hv1, hd1⟩ := S1.atL q2
  rw [hz] at hz1
  cases hz1
  refine hr _ H1 a vs ws xs ds d xs' S1.hd hv1 hd1 (dpa_of lv) q3 _ fun v vs' h1 h2 => ?_
  obtain ⟨S2, st2⟩ := S1.newL q2 hz w1 h1
  exact k v _ ow1 (st.trans st2) (fun z => by cases z) S2 (dpM st2.dur _ _ h2)
theorem ev_mth0 {i : Nat} {x : Str} (slot : PySem.Slot "list" name id) (hty : typeOf (.builtin id) = pure (.type "method_descriptor")) (hm : MtR X id r) (hr : RmL X.K r f)
    (hN : X.N[i]? = some x := by rfl) (hv : Vis X.env.scope x := by first | exact Or.inl rfl | exact Or.inr (Or.inl rfl) | exact Or.inr (Or.inr rfl)) (hd : (x == ("__debug__" : Str)) = false := by decide)
    (hcd : (x == ("__classdict__" : Str)) = false := by decide)
    (hbase : attributeBase (.Name x npos) name X.env (eval (.Name x npos) X.env) = eval (.Name x npos) X.env := by rfl) (hline : (apos.endLine == cpos.line) = true := by rfl) :
    EV X false .D (.Call (.Attribute (.Name x npos) name apos) [] [] cpos) (mMth i f (mPure [])) := by
  refine ⟨fun z => (by cases z), _, pe_bm0 PySem.F.plainAttrs_list slot hty hm (pe_var hN hv hd hcd) hbase hline, fun G H0 pin ow σ H as d as' Q S hm k => ?_⟩
  unfold mMth at hm
  split at hm
  · cases hm
  rename_i xs0 q0
  obtain ⟨a, vs0, hz, w0, hv0, hd0⟩ := S.atL q0
  refine ⟨_, hz, .inl ⟨rfl, _, SqL.of hv0⟩, ?_⟩
  simp only [mPure, q0] at hm
  split at hm
  · cases hm
  rename_i d' xs' q3
  cases hm
  refine hr _ H a vs0 [] xs0 [] d xs' S.hd hv0 hd0 .nil q3 _ fun v vs' h1 h2 => ?_
  obtain ⟨S2, st2⟩ := S.newL q0 hz w0 h1
  exact k v _ ow st2 (fun z => by cases z) S2 (dpM st2.dur _ _ h2)
def fAppend : List PD → List PD → Option (PD × List PD) := fun xs ds => match ds with
  | [d] => if xs.length < sizeLine then some (.none, xs ++ [d]) else none
  | _ => none
theorem rm_append {K : Fg} : RmL K rAppend fAppend := by
  intro G H a vs ws xs ds d xs' s ha hv hw hf Q k
  unfold fAppend at hf
  split at hf
  · split at hf
    · rename_i hz
      cases hf
      obtain ⟨w, rfl, q⟩ := one_of (of_dpa hw)
      exact ⟨a, vs, w, rfl, rfl, ha, by rw [dpa_len hv]; exact hz, k .non _ (dpa_of (paired_snoc (of_dpa hv) q)) Dp.non⟩
    · cases hf
  · cases hf
def fPop : List PD → List PD → Option (PD × List PD) := fun xs ds => match ds with
  | [] => (xs[xs.length - 1]?).map fun d => (d, xs.dropLast)
  | _ => none
theorem dpa_at {K : Fg} {H : Hp} {vs : List V} {ds : List PD} (h : DpAll K H vs ds) {j : Nat} {d : PD} (e : ds[j]? = some d) : ∃ v, vs[j]? = some v ∧ Dp K H v d := by
  obtain ⟨h2, e2⟩ := List.getElem?_eq_some_iff.mp e
  have h1 : j < vs.length := by rw [dpa_len h]; exact h2
  refine ⟨vs[j], List.getElem?_eq_getElem h1, ?_⟩
  rw [← e2]
  exact paired_at (of_dpa h) j h1 h2
theorem rm_pop {K : Fg} : RmL K rPop fPop := by
  intro G H a vs ws xs ds d xs' s ha hv hw hf Q k
  unfold fPop at hf
  split at hf
  · cases e : xs[xs.length - 1]? with
    | none => rw [e] at hf; cases hf
    | some y =>
      rw [e] at hf
      cases hf
      cases hw
      obtain ⟨v, e2, q⟩ := dpa_at hv e
      refine ⟨a, vs, v, rfl, rfl, ha, by rw [dpa_len hv]; exact e2, k v _ ?_ q⟩
      rw [List.dropLast_eq_take, List.dropLast_eq_take, dpa_len hv]
      exact dpa_take _ hv
  · cases hf
def fRev : List PD → List PD → Option (PD × List PD) := fun xs ds => match ds with
  | [] => some (.none, xs.reverse)
  | _ => none
theorem dpa_rev {K : Fg} {H : Hp} : ∀ {vs : List V} {ds : List PD}, DpAll K H vs ds → DpAll K H vs.reverse ds.reverse
  | _, _, .nil => .nil
  | _, _, .cons h t => by
    rw [List.reverse_cons, List.reverse_cons]
    exact dpa_of (paired_snoc (of_dpa (dpa_rev t)) h)
theorem rm_rev {K : Fg} : RmL K rReverse fRev := by
  intro G H a vs ws xs ds d xs' s ha hv hw hf Q k
  unfold fRev at hf
  split at hf
  · cases hf
    cases hw
    exact ⟨a, vs, rfl, rfl, ha, k .non _ (dpa_rev hv) Dp.non⟩
  · cases hf

/-! ### targets that change an object: x[i] = e -/
structure EH (X : Cx) (tg : Expr) (g : PD → AS → Option AS) : Prop where
  ok : ∃ t, PG X tg t ∧ ∀ (G H0 : Hp) (pin : Nat → Addr) (ow : Ow) (σ : L2.St) (H : Hp) (as : AS) (v : V) (d : PD) (as' : AS) (Q : L2.St → Hp → Prop), SR X.K G H0 pin ow σ H as → Dp X.K (Hd ow G H0 H) v d → g d as = some as' →
    (∀ σ' H' ow', Same (Hd ow G H0 H) (Hd ow' G H0 H') → SR X.K G H0 pin ow' σ' H' as' → Q σ' H') → t v σ H Q
theorem EG.h {tg : Expr} {is : List Nat} {g : PD → AS → Option AS} (h : EG X tg is g) : EH X tg g := by
  obtain ⟨t, a1, a2⟩ := h.ok
  exact ⟨t, a1, fun G H0 pin ow σ H as v d as' Q S hd hg k => a2 G H0 pin ow σ H as v d as' Q S hd hg fun σ' ow' st S' _ _ => k σ' H ow' st.dur S'⟩
def gSet (i : Nat) (m : M PD) : PD → AS → Option AS := fun d as => match slotL as i with
  | none => none
  | some _ => match m as with
    | some (.int k, as1) => match slotL as1 i with
      | none => none
      | some xs => match ixN xs.length k with
        | none => none
        | some j => some (setL as1 i (xs.set j d))
    | _ => none
theorem dpa_set {K : Fg} {H : Hp} {v : V} {d : PD} (q : Dp K H v d) : ∀ {vs : List V} {ds : List PD} (j : Nat), DpAll K H vs ds → DpAll K H (vs.set j v) (ds.set j d)
  | _, _, _, .nil => .nil
  | _, _, 0, .cons _ t => .cons q t
  | _, _, j + 1, .cons h t => .cons h (dpa_set q j t)
theorem eh_set {i : Nat} {x : Str} {npos : Pos} {idx : Expr} {m : M PD} (h : EV X p l idx m)
    (hN : X.N[i]? = some x := by rfl) (hv : Vis X.env.scope x := by first | exact Or.inl rfl | exact Or.inr (Or.inl rfl) | exact Or.inr (Or.inr rfl)) (hd : (x == ("__debug__" : Str)) = false := by decide)
    (hcd : (x == ("__classdict__" : Str)) = false := by decide)
    (hasg : ∀ v, assign (.Subscript (.Name x npos) idx pos) X.env v = (do
      let c ← holding [v] (eval (.Name x npos) X.env)
      let b ← holding [v, c] (eval idx X.env)
      standAt pos
      holding [v, c, b] (setItem c b v)
      release [v, c, b] []) := by intro _; rfl) : EH X (.Subscript (.Name x npos) idx pos) (gSet i m) := by
  obtain ⟨t, a1, a2⟩ := h.ok
  refine ⟨_, pg_sub (pe_var hN hv hd hcd) a1 set_list hasg, fun G H0 pin ow σ H as v d as' Q S hd hg k => ?_⟩
  unfold gSet at hg
  split at hg
  · cases hg
  rename_i xs0 q0
  obtain ⟨a, vs0, hz, w0, hv0, hd0⟩ := S.atL q0
  split at hg
  · rename_i n as1 q1
    split at hg
    · cases hg
    rename_i xs q2
    split at hg
    · cases hg
    rename_i j q3
    cases hg
    refine ⟨_, hz, ?_⟩
    refine a2 G H0 pin ow σ H as _ as1 _ S q1 fun w H1 ow1 st sm S1 lv => ?_
    have lv := lv_dp S1.hd lv
    cases lv
    obtain ⟨b, vs, hz1, w1, hv1, hd1⟩ := S1.atL q2
    rw [hz] at hz1
    cases hz1
    have hdv := dpM st.dur _ _ hd
    obtain ⟨S2, st2⟩ := S1.newL q2 hz w1 (dpa_set hdv j hd1)
    exact ⟨a, vs, n, j, rfl, rfl, hv1, by rw [dpa_len hd1]; exact q3, k σ _ ow1 (st.dur.trans st2.dur) S2⟩
  · cases hg
end
end Vl

-- V8
set_option Elab.async false
set_option linter.all false
set_option maxRecDepth 100000
set_option maxHeartbeats 4000000
namespace Vl
open PySem L2
section
variable {X : Cx} {p p1 p2 p3 : Bool} {l l1 : Lv} {pos : Pos}
structure EHs (X : Cx) (ts : List Expr) (n : Nat) (g : List PD → AS → Option AS) : Prop where
  ok : ∃ t, PGs X ts t ∧ ∀ (G H0 : Hp) (pin : Nat → Addr) (ow : Ow) (σ : L2.St) (H : Hp) (as : AS) (vs : List V) (ds : List PD) (as' : AS) (Q : L2.St → Hp → Prop), SR X.K G H0 pin ow σ H as → DpAll X.K (Hd ow G H0 H) vs ds → g ds as = some as' →
    (∀ σ' H' ow', Same (Hd ow G H0 H) (Hd ow' G H0 H') → SR X.K G H0 pin ow' σ' H' as' → Q σ' H') → t vs σ H Q
  len : ∀ ds as as', g ds as = some as' → ds.length = n
theorem ehs_nil : EHs X [] 0 gNil := by
  refine ⟨⟨_, pgs_nil, fun G H0 pin ow σ H as vs ds as' Q S hd hg k => ?_⟩, fun ds as as' h => ?_⟩
  · cases ds with
    | nil =>
      cases hg
      cases hd
      exact ⟨rfl, k σ H ow (Same.refl _) S⟩
    | cons _ _ => cases hg
  · cases ds with
    | nil => rfl
    | cons _ _ => cases h
theorem ehs_cons {e : Expr} {es : List Expr} {n : Nat} {g : PD → AS → Option AS} {gs : List PD → AS → Option AS} (h1 : EH X e g) (h2 : EHs X es n gs)
    (hs : List.map (fun x => x.2) (assignEach (e :: es) X.env) = assign e X.env :: List.map (fun x => x.2) (assignEach es X.env) := by rfl) : EHs X (e :: es) (n + 1) (gCons g gs) := by
  obtain ⟨t, a1, a2⟩ := h1.ok
  obtain ⟨u, b1, b2⟩ := h2.ok
  refine ⟨⟨_, pgs_cons a1 b1 hs, fun G H0 pin ow σ H as vs ds as' Q S hd hg k => ?_⟩, fun ds as as' h => ?_⟩
  · cases hd with
    | nil => cases hg
    | @cons v vs d ds q r =>
      cases hg1 : g d as with
      | none => unfold gCons at hg; simp only [hg1] at hg; cases hg
      | some as1 =>
        have hg : gs ds as1 = some as' := by unfold gCons at hg; simp only [hg1] at hg; exact hg
        refine ⟨v, vs, rfl, ?_⟩
        refine a2 G H0 pin ow σ H as v d as1 _ S q hg1 fun σ1 H1 ow1 s1 S1 => ?_
        exact b2 G H0 pin ow1 σ1 H1 as1 vs ds as' _ S1 (dpaM s1 _ _ r) hg fun σ2 H2 ow2 s2 S2 => k σ2 H2 ow2 (s1.trans s2) S2
  · cases ds with
    | nil => cases h
    | cons d r =>
      cases hg1 : g d as with
      | none => unfold gCons at h; simp only [hg1] at h; cases h
      | some as1 =>
        have h : gs r as1 = some as' := by unfold gCons at h; simp only [hg1] at h; exact h
        rw [List.length_cons, h2.len _ _ _ h]
theorem eh_tup {es : List Expr} {k : Nat} {n : Nat} {gs : List PD → AS → Option AS} (hc : X.calm = true) (h : EHs X es n gs) (h1 : (assignEach es X.env).length = n := by rfl) (h2 : List.findIdx? (fun x => x.1) (assignEach es X.env) = none := by rfl) : EH X (.Tuple es k pos) (gT gs) := by
  obtain ⟨t, a1, a2⟩ := h.ok
  refine ⟨_, pg_tup hc a1 h1 h2, fun G H0 pin ow σ H as v d as' Q S hd hg k => ?_⟩
  cases d with
  | tuple ds =>
    cases hd with
    | @tup a xs _ q r =>
      refine ⟨a, xs, rfl, sqtM S.hd q, ?_, a2 G H0 pin ow σ H as xs ds as' Q S r hg k⟩
      rw [dpa_len r]; exact h.len _ _ _ hg
  | none => cases hg
  | bool _ => cases hg
  | int _ => cases hg
  | str _ => cases hg
  | list _ => cases hg
  | dict _ => cases hg
theorem es_asgH {tg e : Expr} {g : PD → AS → Option AS} {m : M PD} (he : EV X p .D e m) (hg : EH X tg g) (hs : swapsWithSole [tg] e pos.line X.env = pure false := by rfl) (hw : swappedStores [tg] e X.env = pure none := by rfl)
    (h3 : List.map (fun x => x.2) (assignEach [tg] X.env) = [assign tg X.env] := by rfl) : ES X (.Assign [tg] e pos) (sAsg g m) := by
  obtain ⟨t, a1, a2⟩ := he.ok
  obtain ⟨u, b1, b2⟩ := hg.ok
  refine ⟨_, ps_asg a1 b1 hs hw h3, fun G H0 pin ow σ H as c as' D S hm k => ?_⟩
  unfold sAsg at hm
  split at hm
  · cases hm
  · rename_i d as1 q
    refine a2 G H0 pin ow σ H as d as1 _ S q fun v H1 ow1 st sm S1 lv => ?_
    split at hm
    · cases hm
    · rename_i as2 q2
      cases hm
      exact b2 G H0 pin ow1 σ H1 as1 v d _ _ S1 lv q2 fun σ2 H2 ow2 s2 S2 => k _ _ _ (st.dur.trans s2) S2

/-! ### and, or as values; a if t else b -/
theorem ev_one {op : BoolOp} {a : Expr} {m : M PD} (h : EV X p l a m) : EV X p l (.BoolOp op [a] pos) m := by
  obtain ⟨t, a1, a2⟩ := h.ok
  exact ⟨h.pur, t, pe_one a1, a2⟩
def mAndV (m n : M PD) : M PD := mBind m fun d => match d with
  | .bool c => if c = true then n else mPure (.bool false)
  | _ => fun _ => none
def mOrV (m n : M PD) : M PD := mBind m fun d => match d with
  | .bool c => if c = true then mPure (.bool true) else n
  | _ => fun _ => none
variable {a b c : Expr} {rest : List Expr} {ma mb : M PD}
theorem ev_and (ha : EV X p1 l a ma) (hb : EV X p2 .D (.BoolOp .And (b :: rest) pos) mb) : EV X (p1 && p2) .D (.BoolOp .And (a :: b :: rest) pos) (mAndV ma mb) := by
  obtain ⟨ta, a1, a2⟩ := ha.ok
  obtain ⟨tb, b1, b2⟩ := hb.ok
  refine ⟨fun z as r as' h => ?_, _, pe_and a1 b1, fun G H0 pin ow σ H as r as' Q S hm k => ?_⟩
  · have z' : p1 = true ∧ p2 = true := by simpa using z
    obtain ⟨d, as1, q1, q⟩ := bind_some h
    cases d with
    | bool c =>
      cases c with
      | true => exact (hb.pur z'.2 _ _ _ q).trans (ha.pur z'.1 _ _ _ q1)
      | false => exact (pure_some q).2.trans (ha.pur z'.1 _ _ _ q1)
    | none => cases q
    | int _ => cases q
    | str _ => cases q
    | list _ => cases q
    | tuple _ => cases q
    | dict _ => cases q
  · obtain ⟨d, as1, q1, q⟩ := bind_some hm
    refine a2 G H0 pin ow σ H as d as1 _ S q1 fun v H1 ow1 st1 sm1 S1 lv => ?_
    have lv := lv_dp S1.hd lv
    cases d with
    | bool c =>
      cases lv
      refine ⟨c, rfl, ?_⟩
      cases c with
      | true =>
        refine iteT (b2 G H0 pin ow1 σ H1 as1 r as' Q S1 q fun v H2 ow2 st2 sm2 S2 => k v H2 ow2 (st1.trans st2) (fun z => ?_) S2)
        have z' : p1 = true ∧ p2 = true := by simpa using z
        exact (sm1 z'.1).trans (sm2 z'.2)
      | false =>
        obtain ⟨rfl, rfl⟩ := pure_some q
        refine iteF (k _ H1 ow1 st1 (fun z => ?_) S1 (Dp.bl false))
        have z' : p1 = true ∧ p2 = true := by simpa using z
        exact sm1 z'.1
    | none => cases q
    | int _ => cases q
    | str _ => cases q
    | list _ => cases q
    | tuple _ => cases q
    | dict _ => cases q
theorem ev_or (ha : EV X p1 l a ma) (hb : EV X p2 .D (.BoolOp .Or (b :: rest) pos) mb) : EV X (p1 && p2) .D (.BoolOp .Or (a :: b :: rest) pos) (mOrV ma mb) := by
  obtain ⟨ta, a1, a2⟩ := ha.ok
  obtain ⟨tb, b1, b2⟩ := hb.ok
  refine ⟨fun z as r as' h => ?_, _, pe_or a1 b1, fun G H0 pin ow σ H as r as' Q S hm k => ?_⟩
  · have z' : p1 = true ∧ p2 = true := by simpa using z
    obtain ⟨d, as1, q1, q⟩ := bind_some h
    cases d with
    | bool c =>
      cases c with
      | false => exact (hb.pur z'.2 _ _ _ q).trans (ha.pur z'.1 _ _ _ q1)
      | true => exact (pure_some q).2.trans (ha.pur z'.1 _ _ _ q1)
    | none => cases q
    | int _ => cases q
    | str _ => cases q
    | list _ => cases q
    | tuple _ => cases q
    | dict _ => cases q
  · obtain ⟨d, as1, q1, q⟩ := bind_some hm
    refine a2 G H0 pin ow σ H as d as1 _ S q1 fun v H1 ow1 st1 sm1 S1 lv => ?_
    have lv := lv_dp S1.hd lv
    cases d with
    | bool c =>
      cases lv
      refine ⟨c, rfl, ?_⟩
      cases c with
      | false =>
        refine iteF (b2 G H0 pin ow1 σ H1 as1 r as' Q S1 q fun v H2 ow2 st2 sm2 S2 => k v H2 ow2 (st1.trans st2) (fun z => ?_) S2)
        have z' : p1 = true ∧ p2 = true := by simpa using z
        exact (sm1 z'.1).trans (sm2 z'.2)
      | true =>
        obtain ⟨rfl, rfl⟩ := pure_some q
        refine iteT (k _ H1 ow1 st1 (fun z => ?_) S1 (Dp.bl true))
        have z' : p1 = true ∧ p2 = true := by simpa using z
        exact sm1 z'.1
    | none => cases q
    | int _ => cases q
    | str _ => cases q
    | list _ => cases q
    | tuple _ => cases q
    | dict _ => cases q
/-- not e, as a value -/
theorem ev_not (ha : EV X p l a ma) : EV X p .D (.UnaryOp .Not a pos) (mBind (m1 asB ma) fun c => mPure (.bool !c)) := by
  obtain ⟨ta, a1, a2⟩ := ha.ok
  refine ⟨fun z as r as' h => ?_, _, pe_not a1, fun G H0 pin ow σ H as r as' Q S hm k => ?_⟩
  · obtain ⟨d, as1, q1, q⟩ := bind_some h
    obtain ⟨_, rfl⟩ := pure_some q
    exact pur1 ha.pur z _ _ _ q1
  · obtain ⟨d, as1, q1, q⟩ := bind_some hm
    obtain ⟨rfl, rfl⟩ := pure_some q
    obtain ⟨x, as2, q2, q⟩ := bind_some q1
    obtain ⟨q3, rfl⟩ := opt_some q
    refine a2 G H0 pin ow σ H as x as' _ S q2 fun v H1 ow1 st1 sm1 S1 lv => ?_
    have lv := lv_dp S1.hd lv
    cases x with
    | bool c => cases q3; cases lv; exact ⟨_, rfl, k _ H1 ow1 st1 sm1 S1 (Dp.bl _)⟩
    | none => cases q3
    | int _ => cases q3
    | str _ => cases q3
    | list _ => cases q3
    | tuple _ => cases q3
    | dict _ => cases q3
def mIte {α : Type} (c : M Bool) (m n : M α) : M α := mBind c fun z => if z = true then m else n
theorem ev_if {mc : M Bool} (hc : ET X p1 c mc) (ha : EV X p2 l a ma) (hb : EV X p3 l b mb) : EV X (p1 && (p2 && p3)) l (.IfExp c a b pos) (mIte mc ma mb) := by
  obtain ⟨tc, c1, c2⟩ := hc.ok
  obtain ⟨ta, a1, a2⟩ := ha.ok
  obtain ⟨tb, b1, b2⟩ := hb.ok
  refine ⟨fun z as r as' h => ?_, _, pe_ifExp c1 a1 b1, fun G H0 pin ow σ H as r as' Q S hm k => ?_⟩
  · have z' : p1 = true ∧ p2 = true ∧ p3 = true := by simpa using z
    obtain ⟨d, as1, q1, q⟩ := bind_some h
    cases d with
    | true => exact (ha.pur z'.2.1 _ _ _ q).trans (hc.pur z'.1 _ _ _ q1)
    | false => exact (hb.pur z'.2.2 _ _ _ q).trans (hc.pur z'.1 _ _ _ q1)
  · obtain ⟨d, as1, q1, q⟩ := bind_some hm
    refine c2 G H0 pin ow σ H as d as1 _ S q1 fun H1 ow1 st1 sm1 S1 => ?_
    cases d with
    | true =>
      refine iteT (a2 G H0 pin ow1 σ H1 as1 r as' Q S1 q fun v H2 ow2 st2 sm2 S2 => k v H2 ow2 (st1.trans st2) (fun z => ?_) S2)
      have z' : p1 = true ∧ p2 = true ∧ p3 = true := by simpa using z
      exact (sm1 z'.1).trans (sm2 z'.2.1)
    | false =>
      refine iteF (b2 G H0 pin ow1 σ H1 as1 r as' Q S1 q fun v H2 ow2 st2 sm2 S2 => k v H2 ow2 (st1.trans st2) (fun z => ?_) S2)
      have z' : p1 = true ∧ p2 = true ∧ p3 = true := by simpa using z
      exact (sm1 z'.1).trans (sm2 z'.2.2)
end

/-! ### a def's body keeps its promise -/
def startA (n : Nat) (ds : List PD) : AS := ds.map .dur ++ List.replicate (n - ds.length) .un
def runP (n k : Nat) (m : MS) : List PD → Option Res := fun ds => if ds.length = k then
    match m (startA n ds) with
    | some (.rt r, _) => some r
    | some (.nx, _) => some (.val .none)
    | _ => none
  else none
theorem hd_gr {G H H' : Hp} {ow' : Ow} : Same (Hd ow' G H H') (gr G H H') := fun b x e => by
  unfold Hd at e
  unfold gr
  split at e
  · exact e
  · cases e
theorem hd_rm {G H H' : Hp} {ow' : Ow} {a : Addr} (w : ow' a ≠ none) : Same (Hd ow' G H H') (rm a (gr G H H')) := fun b x e => by
  have hb : b ≠ a := fun q => by subst q; rw [hd_free w] at e; cases e
  unfold rm
  rw [if_neg hb]
  exact hd_gr b x e
theorem ok_of_rt {K : Fg} {G H H' : Hp} {pin : Nat → Addr} {ow' : Ow} {σ' : L2.St} {as' : AS} {v : V} {r : Res} (S : SR K G H pin ow' σ' H' as') (h : RtR K G H ow' H' v r) : OkRes K G H H' v r := by
  cases r with
  | val d => exact dpM hd_gr _ _ h
  | obj o =>
    obtain ⟨a, e, w, ob⟩ := h
    exact ⟨a, e, (S.own a _ w).1, objM (hd_rm (by rw [w]; exact nofun)) rfl ob⟩
theorem start_sr {K : Fg} {G H : Hp} {vs : List V} {ds : List PD} (N : List Str) (pin : Nat → Addr) (s : Same G H) (h : DpAll K G vs ds) (hN : ds.length ≤ N.length) : SR K G H pin (fun _ => none) (L2.start N vs) H (startA N.length ds) := by
  have hl := dpa_len h
  have hd : Same G (Hd (fun _ => none) G H H) := fun b x e => by
    rw [hd_own rfl, if_neg (by rw [s b x e]; exact nofun)]; exact e
  refine ⟨?_, fun a o e => (by cases e), Same.refl _, s, fun i t e => ?_⟩
  · unfold startA L2.start
    simp [hl]
  · unfold startA at e
    unfold L2.start
    by_cases hi : i < ds.length
    · rw [List.getElem?_append_left (by simpa using hi), List.getElem?_map] at e
      cases q : ds[i]? with
      | none => rw [q] at e; cases e
      | some d =>
        rw [q] at e
        cases e
        obtain ⟨v, e2, q2⟩ := dpa_at h q
        refine ⟨v, ?_, dpM hd _ _ q2⟩
        rw [List.getElem?_append_left (by simpa [hl] using hi), List.getElem?_map, e2]
        rfl
    · rw [List.getElem?_append_right (by simpa using hi), List.getElem?_replicate] at e
      split at e
      · cases e; trivial
      · cases e
section
variable {P : Program} {w : World} {K : Fg} {mg : Str → Option Value} {base : Heap}
theorem fn_raw {x qual : Str} {st : Stmt} {f : Addr} {fd : FuncData} {N ps : List Str} {k : Nat} {m : MS} (Fu : Fun K x qual st f fd) (S : FnScope N ps (defScope st)) (hl : ps.length ≤ N.length)
    (body : ∀ (cdv : Value) (A : Around) (outer : List Env) (s : Shared) (H : Hp) (E : XK), Room k (A.deeper (PyProof.Rows.envOfC qual (defScope st) s.heap.objs.size f cdv)) →
      ESs (cxOf CX0 P w K mg base N qual (defScope st) f cdv A outer s H E).nox (defBody st) m) : FnOk P w K mg base CX0 (k + 1) f fd ps (SpP K (runP N.length ps.length m)) := by
  refine Fu.ok S (fun vs H Q E h => ?_) (fun cdv A outer s H vs Q E hr h => ?_)
  · obtain ⟨G, ds, res, _, hd, hf, _⟩ := h
    unfold runP at hf
    split at hf
    · rename_i e
      rw [dpa_len hd]; exact e
    · cases hf
  · obtain ⟨G, ds, res, sg, hd, hf, k⟩ := h
    unfold runP at hf
    split at hf
    · rename_i e
      obtain ⟨t, a1, a2⟩ := (body cdv A outer s H E hr).ok
      have SS := start_sr N (fun _ => 0) sg hd (by rw [e]; exact hl)
      refine ⟨t, a1, ?_⟩
      split at hf
      · rename_i r as' q
        cases hf
        exact a2 G H (fun _ => 0) _ _ H _ _ as' _ SS q fun v σ' H' ow' s' S' rr => k v H' S'.same (ok_of_rt S' rr)
      · rename_i as' q
        cases hf
        exact a2 G H (fun _ => 0) _ _ H _ _ as' _ SS q fun σ' H' ow' s' S' => k .non H' S'.same Dp.non
      · cases hf
    · cases hf
theorem fn_pure {x qual : Str} {st : Stmt} {f : Addr} {fd : FuncData} {N ps : List Str} {k : Nat} {m : MS} (Fu : Fun K x qual st f fd) (hm : mg x = some (.ref f)) (S : FnScope N ps (defScope st)) (hb : Binds K fd ps []) (hl : ps.length ≤ N.length)
    (body : ∀ (cdv : Value) (A : Around) (outer : List Env) (s : Shared) (H : Hp) (E : XK), Room k (A.deeper (PyProof.Rows.envOfC qual (defScope st) s.heap.objs.size f cdv)) →
      ESs (cxOf CX0 P w K mg base N qual (defScope st) f cdv A outer s H E).nox (defBody st) m) : Fn P w K mg base (k + 1) x (runP N.length ps.length m) :=
  ⟨f, fd, ps, fn_raw Fu S hl body, hm, Fu.kp, hb⟩
/-- the def of which nothing is promised -/
theorem fn_zero {x qual : Str} {st : Stmt} {f : Addr} {fd : FuncData} {N ps : List Str} {k : Nat} (Fu : Fun K x qual st f fd) (hm : mg x = some (.ref f)) (S : FnScope N ps (defScope st)) (hb : Binds K fd ps []) : Fn P w K mg base (k + 1) x (fun _ => none) := by
  refine ⟨f, fd, ps, Fu.ok S (fun vs H Q E h => ?_) (fun cdv A outer s H vs Q E hr h => ?_), hm, Fu.kp, hb⟩
  · obtain ⟨_, _, _, _, _, hf, _⟩ := h
    cases hf
  · obtain ⟨_, _, _, _, _, hf, _⟩ := h
    cases hf
/-- the law's own promise -/
def spLaw (K : Fg) : Sp := fun vs H Q _ => ∃ (a : Addr) (ns : List Int), vs = [.ref a] ∧ SqL K H a (ns.map V.int) ∧ ns.length ≤ 63 ∧ ∀ H1, Q (.bl true) H1
theorem dpa_int {K : Fg} {H : Hp} : ∀ ns : List Int, DpAll K H (ns.map V.int) (ns.map .int)
  | [] => .nil
  | n :: ns => .cons (Dp.int n) (dpa_int ns)
theorem law_end {k : Nat} {f : Addr} {fd : FuncData} {F : List PD → Option Res} (h : FnOk P w K mg base CX0 k f fd ["script"] (SpP K F)) (t : ∀ ns : List Int, ns.length ≤ 63 → F [.list (ns.map .int)] = some (.val (.bool true))) : FnOk P w K mg base CX0 k f fd ["script"] (spLaw K) := by
  have key : ∀ vs H Q E, spLaw K vs H Q E → SpP K F vs H Q E := fun vs H Q E ⟨a, ns, hv, hs, hl, q⟩ => by
    subst hv
    refine ⟨H, [.list (ns.map .int)], _, Same.refl H, .cons (Dp.lst hs (dpa_int ns)) .nil, t ns hl, fun v H' _ ok => ?_⟩
    cases ok
    exact q H'
  exact ⟨fun vs H Q E hv => h.len vs H Q E (key vs H Q E hv), fun A outer s H args us vs Q E hr h0 hb hv hs => h.run A outer s H args us vs Q E hr h0 hb hv (key vs H Q E hs)⟩
theorem room65 {k : Nat} {A : Around} (h : Room k A) : A.units + 65 < cLine := by
  have := h.un
  omega
end

/-! ### defs that change a list that is lent to them -/
/-- the promise of a def that changes its j-th argument -/
def SpI (K : Fg) (j : Nat) (F : Obj → List PD → Option (PD × Obj)) : Sp := fun vs H Q _ => ∃ (G : Hp) (v1 v2 : List V) (a : Addr) (o : Obj) (d1 d2 : List PD) (res : PD) (o' : Obj), vs = v1 ++ .ref a :: v2 ∧ v1.length = j ∧ Same G H ∧ G a = none ∧ ObjAt K G H a o ∧ DpAll K G v1 d1 ∧ DpAll K G v2 d2 ∧
  F o (d1 ++ d2) = some (res, o') ∧ ∀ v H', (∀ b x, b ≠ a → H b = some x → H' b = some x) → ObjAt K (gr G H H') H' a o' → Dp K (gr G H H') v res → Q v H'
structure Fi (P : Program) (w : World) (K : Fg) (mg : Str → Option Value) (base : Heap) (k : Nat) (x : Str) (j : Nat) (F : Obj → List PD → Option (PD × Obj)) : Prop where
  ex : ∃ f fd ps, FnOk P w K mg base CX0 k f fd ps (SpI K j F) ∧ mg x = some (.ref f) ∧ PySem.W.keepIn K (.ref f) = true ∧ Binds K fd ps []
/-- arguments, the j-th one the name of slot i, lent -/
structure EC (X : Cx) (p : Bool) (j i : Nat) (es : List Expr) (m : M (List PD)) : Prop where
  pur : p = true → ∀ as r as', m as = some (r, as') → as' = as
  ok : ∃ t, PA X es t ∧ ∀ (G H0 : Hp) (pin : Nat → Addr) (ow : Ow) (σ : L2.St) (H : Hp) (as : AS) (r : List PD) (as' : AS) (a : Addr) (Q : List V → Hp → Prop), SR X.K G H0 pin ow σ H as → σ[i]? = some (some (.ref a)) → m as = some (r, as') →
    (∀ v1 v2 d1 d2 H' ow', Stp G H0 ow H ow' H' → (p = true → Same H H') → SR X.K G H0 pin ow' σ H' as' → v1.length = j → r = d1 ++ d2 → DpAll X.K (Hd ow' G H0 H') v1 d1 → DpAll X.K (Hd ow' G H0 H') v2 d2 → Q (v1 ++ .ref a :: v2) H') → t σ H Q
section
variable {X : Cx} {p p1 p2 p3 : Bool} {l l1 : Lv} {pos : Pos}
theorem ec_here {i : Nat} {x : Str} {npos : Pos} {es : List Expr} {ms : M (List PD)} (ha : EA X p .D es ms)
    (hN : X.N[i]? = some x := by rfl) (hv : Vis X.env.scope x := by first | exact Or.inl rfl | exact Or.inr (Or.inl rfl) | exact Or.inr (Or.inr rfl)) (hd : (x == ("__debug__" : Str)) = false := by decide)
    (hcd : (x == ("__classdict__" : Str)) = false := by decide) (hst : starEach (.Name x npos :: es) X.env = (false, eval (.Name x npos) X.env) :: starEach es X.env := by rfl) : EC X p 0 i (.Name x npos :: es) ms := by
  obtain ⟨t, a1, a2⟩ := ha.ok
  refine ⟨ha.pur, _, pa_cons (pe_var hN hv hd hcd) a1 hst, fun G H0 pin ow σ H as r as' a Q S hz hm k => ?_⟩
  refine ⟨_, hz, ?_⟩
  exact a2 G H0 pin ow σ H as r as' _ S hm fun vs H1 ow1 st sm S1 lv => k [] vs [] r H1 ow1 st sm S1 rfl rfl .nil (dpa_of lv)
theorem ec_there {i j : Nat} {e : Expr} {es : List Expr} {m : M PD} {ms : M (List PD)} (ha : EV X p1 .D e m) (hr : EC X p2 j i es ms)
    (hst : starEach (e :: es) X.env = (false, eval e X.env) :: starEach es X.env := by rfl) : EC X (p1 && p2) (j + 1) i (e :: es) (mCons m ms) := by
  obtain ⟨ta, a1, a2⟩ := ha.ok
  obtain ⟨tb, b1, b2⟩ := hr.ok
  refine ⟨fun z as r as' h => ?_, _, pa_cons a1 b1 hst, fun G H0 pin ow σ H as r as' a Q S hz hm k => ?_⟩
  · have z' : p1 = true ∧ p2 = true := by simpa using z
    obtain ⟨x, as1, q1, q⟩ := bind_some h
    obtain ⟨y, as2, q2, q⟩ := bind_some q
    obtain ⟨_, rfl⟩ := pure_some q
    exact (hr.pur z'.2 _ _ _ q2).trans (ha.pur z'.1 _ _ _ q1)
  · obtain ⟨x, as1, q1, q⟩ := bind_some hm
    obtain ⟨y, as2, q2, q⟩ := bind_some q
    obtain ⟨rfl, rfl⟩ := pure_some q
    refine a2 G H0 pin ow σ H as x as1 _ S q1 fun v H1 ow1 st1 sm1 S1 lv1 => ?_
    refine b2 G H0 pin ow1 σ H1 as1 y as' a _ S1 hz q2 fun v1 v2 d1 d2 H2 ow2 st2 sm2 S2 e1 e2 r1 r2 => ?_
    refine k (v :: v1) v2 (x :: d1) d2 H2 ow2 (st1.trans st2) (fun z => ?_) S2 (by rw [List.length_cons, e1]) (by rw [e2]; rfl) (.cons (dpM st2.dur _ _ lv1) r1) r2
    have z' : p1 = true ∧ p2 = true := by simpa using z
    exact (sm1 z'.1).trans (sm2 z'.2)
def slotO (as : AS) (i : Nat) : Option Obj := match as[i]? with
  | some (.own o) => some o
  | some (.io o) => some o
  | _ => none
def setO (as : AS) (i : Nat) (o : Obj) : AS := match as[i]? with
  | some (.io _) => as.set i (.io o)
  | _ => as.set i (.own o)
def mCallI (i : Nat) (F : Obj → List PD → Option (PD × Obj)) (ms : M (List PD)) : M PD := fun as => match slotO as i with
  | none => none
  | some _ => match ms as with
    | none => none
    | some (ds, as1) => match slotO as1 i with
      | none => none
      | some o => match F o ds with
        | none => none
        | some (r, o') => some (r, setO as1 i o')
theorem SR.atO {K : Fg} {G H0 H : Hp} {pin : Nat → Addr} {ow : Ow} {σ : L2.St} {as : AS} {i : Nat} {o : Obj} (S : SR K G H0 pin ow σ H as) (e : slotO as i = some o) : ∃ a, σ[i]? = some (some (.ref a)) ∧ ow a = some (some i) ∧ ObjAt K (Hd ow G H0 H) H a o := by
  unfold slotO at e
  split at e
  · rename_i q
    cases e
    exact S.slot i _ q
  · rename_i q
    cases e
    obtain ⟨a, q1, w, _, ob⟩ := S.slot i _ q
    exact ⟨a, q1, w, ob⟩
  · cases e
/-- behind a call that may have changed the object of slot i -/
theorem SR.lent {K : Fg} {G H0 H H' : Hp} {pin : Nat → Addr} {ow : Ow} {σ : L2.St} {as : AS} {i : Nat} {o o' : Obj} {a : Addr} (S : SR K G H0 pin ow σ H as) (e : slotO as i = some o) (hz : σ[i]? = some (some (.ref a))) (w : ow a = some (some i))
    (s : ∀ b x, b ≠ a → H b = some x → H' b = some x) (ob : ObjAt K (Vl.gr (Hd ow G H0 H) H H') H' a o') :
    SR K G H0 pin ow σ H' (Vl.setO as i o') ∧ Stp G H0 ow H ow H' ∧ Same (Vl.gr (Hd ow G H0 H) H H') (Hd ow G H0 H') := by
  have h0 := (S.own a _ w).1
  have hs : Same (Hd ow G H0 H) (Hd ow G H0 H') := fun b x q => by
    have hb : b ≠ a := fun z => by subst z; rw [hd_free (by rw [w]; exact nofun)] at q; cases q
    unfold Hd at q ⊢
    split at q
    · rename_i h1
      rw [if_pos h1]
      split at q
      · rename_i h2
        rw [if_pos h2]; exact s b x hb q
      · rename_i h2
        rw [if_neg h2]; exact q
    · cases q
  have hg : Same (Vl.gr (Hd ow G H0 H) H H') (Hd ow G H0 H') := fun b x q => by
    unfold Vl.gr at q
    split at q
    · rename_i h
      obtain ⟨h1, h2⟩ := S.free h
      rw [hd_own h1, if_pos h2]; exact q
    · exact hs b x q
  have hk : ∀ b, b ≠ a → ow b ≠ none → H' b = H b := fun b hb h => by
    cases q1 : ow b with
    | none => exact absurd q1 h
    | some z =>
      cases q : H b with
      | none => exact absurd q (S.own b z q1).2
      | some x => rw [s b x hb q]
  have ob' := objM hg rfl ob
  have S1 : SR K G H0 pin ow σ H' (as.set i .un) := by
    refine ⟨by rw [List.length_set]; exact S.len, fun b x q => ⟨(S.own b x q).1, ?_⟩, fun b x q => s b x (ne_of_none q h0) (S.same b x q), S.sub, fun j t h => ?_⟩
    · by_cases hb : b = a
      · subst hb; exact objS ob'
      · rw [hk b hb (by rw [q]; exact nofun)]; exact (S.own b x q).2
    · by_cases hj : i = j
      · subst hj
        by_cases hl : i < as.length
        · rw [List.getElem?_set_self hl] at h
          cases h; trivial
        · rw [List.getElem?_eq_none (by rw [List.length_set]; omega)] at h; cases h
      · rw [List.getElem?_set_ne hj] at h
        refine slotM hs (fun b wb => ⟨wb, hk b (fun q => ?_) (by rw [wb]; exact nofun)⟩) (S.slot j t h)
        subst q
        rw [w] at wb
        exact hj (Option.some.inj (Option.some.inj wb))
  refine ⟨?_, ⟨hs, fun b hb => ⟨hb, hk b (fun q => ?_) (by rw [hb]; exact nofun)⟩, fun b hb => ?_⟩, hg⟩
  · unfold slotO at e
    unfold Vl.setO
    split at e
    · rename_i q
      simp only [q]
      have S3 := S1.tell (i := i) (s := .own o') fun _ => ⟨a, hz, w, ob'⟩
      rw [List.set_set] at S3; exact S3
    · rename_i q
      simp only [q]
      obtain ⟨b, q1, w1, hp, _⟩ := S.slot i _ q
      rw [hz] at q1
      cases q1
      have S3 := S1.tell (i := i) (s := .io o') fun _ => ⟨a, hz, w, hp, ob'⟩
      rw [List.set_set] at S3; exact S3
    · cases e
  · subst q; rw [w] at hb; cases hb
  · by_cases q : b = a
    · subst q; exact objS ob'
    · cases q2 : H b with
      | none => exact absurd q2 hb
      | some x => rw [s b x q q2]; exact nofun
theorem ev_callI {k i j : Nat} {F : Obj → List PD → Option (PD × Obj)} {x : Str} {q : Pos} {e : Expr} {es : List Expr} {ms : M (List PD)} (hf : Fi X.prog X.w X.K X.mg X.base k x j F) (hr : Room k X.A) (ha : EC X p j i (e :: es) ms)
    (hg : Gl X x := by rfl) (hdb : (x == ("__debug__" : Str)) = false := by decide)
    (h3 : starEach (e :: es) X.env = (false, eval e X.env) :: starEach es X.env := by rfl) (h4 : (backTo pos (starEach es X.env)).any (·.1) = false := by rfl) : EV X false .D (.Call (.Name x q) (e :: es) [] pos) (mCallI i F ms) := by
  obtain ⟨f, fd, ps, ok, hm, kp, b⟩ := hf.ex
  obtain ⟨t, a1, a2⟩ := ha.ok
  refine ⟨fun z => (by cases z), _, pe_call ok hr hg hm kp b .nil pass0 a1 hdb h3 h4, fun G H0 pin ow σ H as r as' Q S hm k => ?_⟩
  unfold mCallI at hm
  split at hm
  · cases hm
  rename_i o0 q0
  obtain ⟨a, hz, w0, ob0⟩ := S.atO q0
  split at hm
  · cases hm
  rename_i ds as1 q1
  split at hm
  · cases hm
  rename_i o q2
  split at hm
  · cases hm
  rename_i r' o' q3
  cases hm
  refine a2 G H0 pin ow σ H as ds as1 a _ S hz q1 fun v1 v2 d1 d2 H1 ow1 st sm S1 e1 e2 r1 r2 => ?_
  obtain ⟨a', hz', w1, ob1⟩ := S1.atO q2
  rw [hz] at hz'
  cases hz'
  show SpI X.K j F ((v1 ++ .ref a :: v2) ++ []) H1 Q E0
  rw [List.append_nil]
  refine ⟨Hd ow1 G H0 H1, v1, v2, a, o, d1, d2, r, o', rfl, e1, S1.hd, hd_free (by rw [w1]; exact nofun), ob1, r1, r2, by rw [← e2]; exact q3, fun v H2 s2 ob2 okr => ?_⟩
  obtain ⟨S2, st2, g2⟩ := S1.lent q2 hz w1 s2 ob2
  exact k v H2 ow1 (st.trans st2) (fun z => by cases z) S2 (dpM g2 _ _ okr)

end
def startI (n j : Nat) (o : Obj) (ds : List PD) : AS := (ds.take j).map .dur ++ .io o :: (ds.drop j).map .dur ++ List.replicate (n - (ds.length + 1)) .un
def runI (n k j : Nat) (m : MS) : Obj → List PD → Option (PD × Obj) := fun o ds => if ds.length + 1 = k ∧ j ≤ ds.length then
    match m (startI n j o ds) with
    | some (.rt (.val d), as') => (match as'[j]? with
      | some (.io o') => some (d, o')
      | _ => none)
    | some (.nx, as') => (match as'[j]? with
      | some (.io o') => some (.none, o')
      | _ => none)
    | _ => none
  else none
theorem start_io {K : Fg} {G H : Hp} {v1 v2 : List V} {d1 d2 : List PD} {a : Addr} {o : Obj} (N : List Str) (s : Same G H) (hG : G a = none) (ob : ObjAt K G H a o) (h1 : DpAll K G v1 d1) (h2 : DpAll K G v2 d2) (hN : d1.length + d2.length + 1 ≤ N.length) :
    SR K G (rm a H) (fun _ => a) (fun b => if b = a then some (some d1.length) else none) (L2.start N (v1 ++ .ref a :: v2)) H (startI N.length d1.length o (d1 ++ d2)) := by
  have l1 := dpa_len h1
  have l2 := dpa_len h2
  have sG : Same G (rm a H) := fun b x e => by
    unfold rm
    rw [if_neg (fun q => by subst q; rw [hG] at e; cases e)]
    exact s b x e
  have hd : Same G (Hd (fun b => if b = a then some (some d1.length) else none) G (rm a H) H) := fun b x e => by
    have hb : b ≠ a := fun q => by subst q; rw [hG] at e; cases e
    rw [hd_own (if_neg hb), if_neg (by rw [sG b x e]; exact nofun)]; exact e
  have e1 : (d1 ++ d2).take d1.length = d1 := by rw [List.take_left']; rfl
  have e2 : (d1 ++ d2).drop d1.length = d2 := by rw [List.drop_left']; rfl
  refine ⟨?_, fun b x e => ?_, fun b x e => ?_, sG, fun i t e => ?_⟩
  · unfold startI L2.start
    rw [e1, e2]
    simp [l1, l2]
    omega
  · by_cases hb : b = a
    · subst hb
      exact ⟨by unfold rm; rw [if_pos rfl], objS ob⟩
    · rw [if_neg hb] at e; cases e
  · unfold rm at e
    split at e
    · cases e
    · exact e
  · unfold startI at e
    unfold L2.start
    rw [e1, e2] at e
    have e' : (d1.map Slot.dur ++ (.io o :: (d2.map Slot.dur ++ List.replicate (N.length - ((d1 ++ d2).length + 1)) .un)))[i]? = some t := by
      rw [← e]; simp
    have g' : ((v1 ++ V.ref a :: v2).map some ++ List.replicate (N.length - (v1 ++ V.ref a :: v2).length) (none : Option V))[i]? = (v1.map some ++ (some (V.ref a) :: (v2.map some ++ List.replicate (N.length - (v1 ++ V.ref a :: v2).length) (none : Option V))))[i]? := by simp
    rw [g']
    by_cases hi : i < d1.length
    · rw [List.getElem?_append_left (by simpa using hi), List.getElem?_map] at e'
      rw [List.getElem?_append_left (by simpa [l1] using hi), List.getElem?_map]
      cases q : d1[i]? with
      | none => rw [q] at e'; cases e'
      | some d =>
        rw [q] at e'
        cases e'
        obtain ⟨v, e2, q2⟩ := dpa_at h1 q
        exact ⟨v, by rw [e2]; rfl, dpM hd _ _ q2⟩
    · rw [List.getElem?_append_right (by simpa using hi)] at e'
      rw [List.getElem?_append_right (by simpa [l1] using hi)]
      simp only [List.length_map, l1] at e' ⊢
      cases hk : i - d1.length with
      | zero =>
        rw [hk] at e'
        cases e'
        have : i = d1.length := by omega
        subst this
        exact ⟨a, rfl, by simp, rfl, objM hd rfl ob⟩
      | succ j =>
        rw [hk] at e'
        rw [List.getElem?_cons_succ] at e' ⊢
        by_cases hj : j < d2.length
        · rw [List.getElem?_append_left (by simpa using hj), List.getElem?_map] at e'
          rw [List.getElem?_append_left (by simpa [l2] using hj), List.getElem?_map]
          cases q : d2[j]? with
          | none => rw [q] at e'; cases e'
          | some d =>
            rw [q] at e'
            cases e'
            obtain ⟨v, e2, q2⟩ := dpa_at h2 q
            exact ⟨v, by rw [e2]; rfl, dpM hd _ _ q2⟩
        · rw [List.getElem?_append_right (by simpa using hj), List.getElem?_replicate] at e'
          split at e'
          · cases e'; trivial
          · cases e'
section
variable {P : Program} {w : World} {K : Fg} {mg : Str → Option Value} {base : Heap}
theorem fn_io {x qual : Str} {st : Stmt} {f : Addr} {fd : FuncData} {N ps : List Str} {k j : Nat} {m : MS} (Fu : Fun K x qual st f fd) (hm : mg x = some (.ref f)) (S : FnScope N ps (defScope st)) (hb : Binds K fd ps []) (hl : ps.length ≤ N.length)
    (body : ∀ (cdv : Value) (A : Around) (outer : List Env) (s : Shared) (H : Hp) (E : XK), Room k (A.deeper (PyProof.Rows.envOfC qual (defScope st) s.heap.objs.size f cdv)) →
      ESs (cxOf CX0 P w K mg base N qual (defScope st) f cdv A outer s H E).nox (defBody st) m) : Fi P w K mg base (k + 1) x j (runI N.length ps.length j m) := by
  refine ⟨f, fd, ps, Fu.ok S (fun vs H Q E h => ?_) (fun cdv A outer s H vs Q E hr h => ?_), hm, Fu.kp, hb⟩
  · obtain ⟨G, v1, v2, a, o, d1, d2, res, o', rfl, h1, _, _, _, h2, h3, hf, _⟩ := h
    unfold runI at hf
    split at hf
    · rename_i e
      have := dpa_len h2
      have := dpa_len h3
      have e1 := e.1
      rw [List.length_append] at e1
      rw [List.length_append, List.length_cons]
      omega
    · cases hf
  · obtain ⟨G, v1, v2, a, o, d1, d2, res, o', rfl, h1, sG, hG, ob, h2, h3, hf, k⟩ := h
    unfold runI at hf
    split at hf
    · rename_i e
      obtain ⟨t, a1, a2⟩ := (body cdv A outer s H E hr).ok
      have l1 := dpa_len h2
      have l2 := dpa_len h3
      have e1 := e.1
      rw [List.length_append] at e1
      have hj : j = d1.length := by omega
      subst hj
      have SS := start_io N sG hG ob h2 h3 (by omega)
      have fin : ∀ {σ' : L2.St} {H' : Hp} {ow' : Ow} {as' : AS}, SR K G (rm a H) (fun _ => a) ow' σ' H' as' → as'[d1.length]? = some (.io o') → (∀ b x, b ≠ a → H b = some x → H' b = some x) ∧ ObjAt K (gr G H H') H' a o' ∧ Same (Hd ow' G (rm a H) H') (gr G H H') := fun {σ' H' ow' as'} S' q => by
        obtain ⟨a', _, w', rfl, ob'⟩ := S'.slot _ _ q
        have hs : Same (Hd ow' G (rm a H) H') (gr G H H') := fun b x e => by
          have hb : b ≠ a := fun q => by subst q; rw [hd_free (by rw [w']; exact nofun)] at e; cases e
          unfold Hd rm at e
          rw [if_neg hb] at e
          unfold gr
          split at e
          · exact e
          · cases e
        refine ⟨fun b x hb e => S'.same b x ?_, objM hs rfl ob', hs⟩
        unfold rm
        rw [if_neg hb]; exact e
      refine ⟨t, a1, ?_⟩
      split at hf
      · rename_i d as' q
        split at hf
        · rename_i oz qz
          cases hf
          refine a2 G (rm a H) _ _ _ H _ _ as' _ SS q fun v σ' H' ow' s' S' rr => ?_
          obtain ⟨f1, f2, f3⟩ := fin S' qz
          exact k v H' f1 f2 (dpM f3 _ _ rr)
        · cases hf
      · rename_i as' q
        split at hf
        · rename_i oz qz
          cases hf
          refine a2 G (rm a H) _ _ _ H _ _ as' _ SS q fun σ' H' ow' s' S' => ?_
          obtain ⟨f1, f2, f3⟩ := fin S' qz
          exact k .non H' f1 f2 Dp.non
        · cases hf
      · cases hf
    · cases hf
end
end Vl

-- V9
set_option Elab.async false
set_option linter.all false
set_option maxRecDepth 100000
set_option maxHeartbeats 4000000
namespace Vl
open PySem L2

/-! ### arithmetic -/
def fAdd : PD → PD → Option Res
  | .int i, .int j => some (.val (.int (i + j)))
  | .str x, .str y => if x.length + y.length ≤ sizeLine then some (.val (.str (x ++ y))) else none
  | .tuple a, .tuple b => if a.length + b.length ≤ sizeLine then some (.val (.tuple (a ++ b))) else none
  | .list a, .list b => if a.length + b.length ≤ sizeLine then some (.obj (.ol (a ++ b))) else none
  | _, _ => none
def rCatL (K : Fg) : R2 := fun x y H Q => ∃ l b xs zs, x = .ref l ∧ y = .ref b ∧ SqL K H l xs ∧ SqL K H b zs ∧ xs.length + zs.length ≤ sizeLine ∧ ∀ q, H q = none → Q (.ref q) (upd H q (.lst (xs ++ zs)))
theorem op_catL {X : Cx} : OpR X (binaryOp .Add) (rCatL X.K) := by
  intro pins s σ H x y v u Q I rx ry ⟨l, b, xs, zs, hx, hy, h1, h2, hz, q⟩
  subst hx hy
  cases rx
  cases ry
  obtain ⟨i1, r1, p1, _⟩ := I.list h1
  obtain ⟨i2, r2, p2, _⟩ := I.list h2
  obtain ⟨⟨c1, d1, t1, s1⟩, g1, hc1, n1, ht1⟩ := p1.isList
  obtain ⟨⟨c2, d2, t2, s2⟩, g2, hc2, n2, ht2⟩ := p2.isList
  simp only at hc1 ht1 hc2 ht2
  subst hc1 ht1 hc2 ht2
  have hlen : i1.toArray.size + i2.toArray.size ≤ sizeLine := by rw [List.size_toArray, List.size_toArray, ← r1.length, ← r2.length]; exact hz
  refine concat_meets ⟨_, g1, rfl⟩ ⟨_, g2, rfl⟩ noFill_list_add seq_list_add PySem.F.slot_list_add PySem.F.entry_list_add (PySem.F.args_list_add_2 _ _) (PyProof.Rows.list_addW l b i1.toArray i2.toArray n1 n2 d1 d2 s1 s2 hlen) ⟨g1, g2, ?_⟩
  rw [show i1.toArray ++ i2.toArray = (i1 ++ i2).toArray by simp]
  exact ⟨.ref _, _, I.lnew (t' := s.toks) (r1.append r2) (by rw [List.length_append]; omega), rfl, q _ I.fresh⟩
theorem dpa_app {K : Fg} {H : Hp} : ∀ {vs ws : List V} {ds es : List PD}, DpAll K H vs ds → DpAll K H ws es → DpAll K H (vs ++ ws) (ds ++ es)
  | _, _, _, _, .nil, h => h
  | _, _, _, _, .cons h t, k => .cons h (dpa_app t k)
theorem upd_grow {H : Hp} {q : Addr} {o : HO} (h : H q = none) : Same H (upd H q o) := fun b x e => by
  rw [upd_ne (ne_of_none e h)]; exact e
theorem ok_tup {K : Fg} {G H : Hp} {q : Addr} {vs : List V} {ds : List PD} (s : Same G H) (hq : H q = none) (h : DpAll K G vs ds) : OkRes K G H (upd H q (.tup vs)) (.ref q) (.val (.tuple ds)) :=
  Dp.tup (SqT.of (by unfold gr; rw [if_pos hq]; exact upd_same)) (dpaM (gr_sub s) _ _ h)
theorem ok_lst {K : Fg} {G H : Hp} {q : Addr} {vs : List V} {ds : List PD} (s : Same G H) (hq : H q = none) (h : DpAll K G vs ds) : OkRes K G H (upd H q (.lst vs)) (.ref q) (.obj (.ol ds)) :=
  ⟨q, rfl, hq, vs, upd_same, dpaM (rm_sub s hq) _ _ h⟩
theorem ok_val {K : Fg} {G H H' : Hp} {v : V} {d : PD} (s : Same G H) (h : Dp K G v d) : OkRes K G H H' v (.val d) := dpM (gr_sub s) _ _ h
theorem ok_nil {K : Fg} {G H H' : Hp} {v : V} {d : PD} (h : Dp K nil v d) : OkRes K G H H' v (.val d) := dpM same_nil _ _ h
theorem r2o_add {K : Fg} : R2O K (fun x y H Q => (rI0 fun i j => .int (i + j)) x y H Q ∨ (∃ i j, x = .str i ∧ y = .str j ∧ i.length + j.length ≤ sizeLine ∧ Q (.str (i ++ j)) H) ∨ rCatA K x y H Q ∨ rCatL K x y H Q) fAdd := by
  intro G H x y dx dy res s hx hy hf Q k
  unfold fAdd at hf
  split at hf
  · cases hf
    cases hx
    cases hy
    exact .inl ⟨_, _, rfl, rfl, k _ H (Same.refl H) (ok_nil (Dp.int _))⟩
  · split at hf
    · rename_i hz
      cases hf
      cases hx
      cases hy
      exact .inr (.inl ⟨_, _, rfl, rfl, hz, k _ H (Same.refl H) (ok_nil (Dp.str _))⟩)
    · cases hf
  · split at hf
    · rename_i a b hz
      cases hf
      cases hx with
      | @tup l xs _ q1 r1 =>
      cases hy with
      | @tup l2 ys _ q2 r2 =>
      have e1 := dpa_len r1
      have e2 := dpa_len r2
      refine .inr (.inr (.inl ⟨l, l2, xs, ys, rfl, rfl, sqtM s q1, sqtM s q2, by omega, fun h => ?_, fun _ h => ?_, fun _ _ q hq => k _ _ (upd_grow hq) (ok_tup s hq (dpa_app r1 r2))⟩))
      · subst h
        cases r1
        exact k _ H (Same.refl H) (ok_val s (Dp.tup q2 r2))
      · subst h
        cases r2
        rw [List.append_nil] at k
        exact k _ H (Same.refl H) (ok_val s (Dp.tup q1 r1))
    · cases hf
  · split at hf
    · rename_i a b hz
      cases hf
      obtain ⟨l, xs, rfl, q1, r1⟩ := hx
      obtain ⟨l2, ys, rfl, q2, r2⟩ := hy
      have e1 := dpa_len r1
      have e2 := dpa_len r2
      exact .inr (.inr (.inr ⟨l, l2, xs, ys, rfl, rfl, q1, q2, by omega, fun q hq => k _ _ (upd_grow hq) (ok_lst s hq (dpa_app r1 r2))⟩))
    · cases hf
  · cases hf
theorem or_add {X : Cx} : OpR X (binaryOp .Add) (fun x y H Q => (rI0 fun i j => .int (i + j)) x y H Q ∨ (∃ i j, x = .str i ∧ y = .str j ∧ i.length + j.length ≤ sizeLine ∧ Q (.str (i ++ j)) H) ∨ rCatA X.K x y H Q ∨ rCatL X.K x y H Q) :=
  op_add.or (op_add_str.or (op_catA.or op_catL))
section
variable {X : Cx} {a b : Expr} {p p1 p2 : Bool} {l l1 : Lv} {ma mb : M PD} {pos : Pos}
theorem ef_add (ha : EV X p1 l a ma) (hb : EV X p2 l1 b mb) (hs : l = .D ∨ p2 = true := by first | exact .inr rfl | exact .inl rfl) (hl : l ≠ .B := by nofun) (hl1 : l1 ≠ .B := by nofun) : EF X (p1 && p2) (.BinOp a .Add b pos) (m2 fAdd ma mb) := ef_op or_add r2o_add ha hb hs hl hl1
def fInt (g : Int → Int → Option PD) : PD → PD → Option PD
  | .int i, .int j => g i j
  | _, _ => none
theorem r2s_int {K : Fg} {C : Int → Int → Prop} {g : Int → Int → V} {f : Int → Int → Option PD} (h : ∀ i j d, f i j = some d → C i j ∧ Dp K nil (g i j) d) : R2S K (rI C g) (fInt f) := by
  intro H x y dx dy d hx hy hf Q k
  unfold fInt at hf
  split at hf
  · cases hx
    cases hy
    obtain ⟨h1, h2⟩ := h _ _ _ hf
    exact ⟨_, _, rfl, rfl, h1, k _ H (Same.refl H) h2⟩
  · cases hf
theorem r2s_int0 {K : Fg} {g : Int → Int → V} {f : Int → Int → Option PD} (h : ∀ i j d, f i j = some d → Dp K nil (g i j) d) : R2S K (rI0 g) (fInt f) := by
  intro H x y dx dy d hx hy hf Q k
  unfold fInt at hf
  split at hf
  · cases hx
    cases hy
    exact ⟨_, _, rfl, rfl, k _ H (Same.refl H) (h _ _ _ hf)⟩
  · cases hf
def iSub (i j : Int) : Option PD := some (.int (i - j))
def iDiv (i j : Int) : Option PD := if 0 < j ∧ j.natAbs < 18446744073709551616 then some (.int (i / j)) else none
def iMod (i j : Int) : Option PD := if 0 < j then some (.int (i % j)) else none
def iPow (i j : Int) : Option PD := if 0 ≤ j ∧ j ≤ 1000000 ∧ i.natAbs < 18446744073709551616 then some (.int (i ^ j.toNat)) else none
def mulOk (i j : Int) : Bool := decide (i.natAbs < 18446744073709551616) || decide (j.natAbs < 18446744073709551616) || decide (i.natAbs.log2 + j.natAbs.log2 < 1000000)
def iMul (i j : Int) : Option PD := if mulOk i j = true then some (.int (i * j)) else none
theorem ev_sub (ha : EV X p1 l a ma) (hb : EV X p2 l1 b mb) (hs : l = .D ∨ p2 = true := by first | exact .inr rfl | exact .inl rfl) : EV X (p1 && p2) .D (.BinOp a .Sub b pos) (m2 (fInt iSub) ma mb) := ev_op op_sub (r2s_int0 fun i j d h => by cases h; exact Dp.int _) ha hb hs
theorem ev_div (ha : EV X p1 l a ma) (hb : EV X p2 l1 b mb) (hs : l = .D ∨ p2 = true := by first | exact .inr rfl | exact .inl rfl) : EV X (p1 && p2) .D (.BinOp a .FloorDiv b pos) (m2 (fInt iDiv) ma mb) := ev_op op_fdivW (r2s_int fun i j d h => by
  unfold iDiv at h
  split at h
  · rename_i hc
    cases h
    exact ⟨wide_div hc.1 (b := 64) (by have := hc.2; omega) (by decide) (by decide), Dp.int _⟩
  · cases h) ha hb hs
theorem ev_mod (ha : EV X p1 l a ma) (hb : EV X p2 l1 b mb) (hs : l = .D ∨ p2 = true := by first | exact .inr rfl | exact .inl rfl) : EV X (p1 && p2) .D (.BinOp a .Mod b pos) (m2 (fInt iMod) ma mb) := ev_op op_mod (r2s_int fun i j d h => by
  unfold iMod at h
  split at h
  · rename_i hc
    cases h
    exact ⟨hc, Dp.int _⟩
  · cases h) ha hb hs
theorem ev_pow (ha : EV X p1 l a ma) (hb : EV X p2 l1 b mb) (hs : l = .D ∨ p2 = true := by first | exact .inr rfl | exact .inl rfl) : EV X (p1 && p2) .D (.BinOp a .Pow b pos) (m2 (fInt iPow) ma mb) := ev_op op_pow (r2s_int fun i j d h => by
  unfold iPow at h
  split at h
  · rename_i hc
    cases h
    exact ⟨⟨hc.1, hc.2.1, by have := hc.2.2; omega⟩, Dp.int _⟩
  · cases h) ha hb hs
/-- a product: of ints; of a list or tuple and an int -/
def fMul : PD → PD → Option Res
  | .int i, .int j => (iMul i j).map .val
  | .list ds, .int k => if -(2 ^ 63) ≤ k ∧ k < 2 ^ 63 ∧ ds.length * k.toNat ≤ sizeLine then some (.obj (.ol (List.replicate k.toNat ds).flatten)) else none
  | .tuple ds, .int k => if ds ≠ [] ∧ 2 ≤ k ∧ k ≤ 1000 ∧ ds.length ≤ 1000 then some (.val (.tuple (List.replicate k.toNat ds).flatten)) else none
  | _, _ => none
theorem dpa_rep {K : Fg} {H : Hp} {vs : List V} {ds : List PD} (h : DpAll K H vs ds) : ∀ n : Nat, DpAll K H (List.replicate n vs).flatten (List.replicate n ds).flatten
  | 0 => .nil
  | n + 1 => by
    rw [List.replicate_succ, List.replicate_succ, List.flatten_cons, List.flatten_cons]
    exact dpa_app h (dpa_rep h n)
/-- list * int, a list that is read -/
def rRepL (K : Fg) : R2 := fun x y H Q => ∃ l k xs, x = .ref l ∧ y = .int k ∧ H l = some (.lst xs) ∧ -(2 ^ 63) ≤ k ∧ k < 2 ^ 63 ∧ xs.length * k.toNat ≤ sizeLine ∧ ∀ q, H q = none → Q (.ref q) (upd H q (.lst (List.replicate k.toNat xs).flatten))
def fMulN (x y : PD) : Option Res := match x with
  | .list _ => none
  | _ => fMul x y
theorem r2o_mul {K : Fg} : R2O K (fun x y H Q => (rI CMul fun i j => .int (i * j)) x y H Q ∨ (rI CMulW fun i j => .int (i * j)) x y H Q ∨ rRepT K x y H Q) fMulN := by
  intro G H x y dx dy res s hx hy hf Q k
  cases dx with
  | list ds => cases hf
  | int i =>
    cases dy with
    | int j =>
      simp only [fMulN, fMul, iMul] at hf
      split at hf
      · rename_i hc
        cases hf
        cases hx
        cases hy
        unfold mulOk at hc
        simp only [Bool.or_eq_true, decide_eq_true_eq] at hc
        rcases hc with (hc | hc) | hc
        · exact .inl ⟨_, _, rfl, rfl, .inl (by omega), k _ H (Same.refl H) (ok_nil (Dp.int _))⟩
        · exact .inl ⟨_, _, rfl, rfl, .inr (by omega), k _ H (Same.refl H) (ok_nil (Dp.int _))⟩
        · exact .inr (.inl ⟨_, _, rfl, rfl, hc, k _ H (Same.refl H) (ok_nil (Dp.int _))⟩)
      · cases hf
    | none => cases hf
    | bool _ => cases hf
    | str _ => cases hf
    | list _ => cases hf
    | tuple _ => cases hf
    | dict _ => cases hf
  | tuple ds =>
    cases dy with
    | int j =>
      simp only [fMulN, fMul] at hf
      split at hf
      · rename_i hc
        cases hf
        cases hx with
        | @tup l xs _ q1 r1 =>
        cases hy
        have e1 := dpa_len r1
        refine .inr (.inr ⟨l, j, xs, rfl, rfl, sqtM s q1, fun h => ?_, hc.2.1, hc.2.2.1, by omega, fun q hq => k _ _ (upd_grow hq) (ok_tup s hq (dpa_rep r1 _))⟩)
        subst h
        cases r1
        exact hc.1 rfl
      · cases hf
    | none => cases hf
    | bool _ => cases hf
    | str _ => cases hf
    | list _ => cases hf
    | tuple _ => cases hf
    | dict _ => cases hf
  | none => cases hf
  | bool _ => cases hf
  | str _ => cases hf
  | dict _ => cases hf
theorem ef_mul (ha : EV X p1 l a ma) (hb : EV X p2 l1 b mb) (hs : l = .D ∨ p2 = true := by first | exact .inr rfl | exact .inl rfl) (hl : l ≠ .B := by nofun) (hl1 : l1 ≠ .B := by nofun) : EF X (p1 && p2) (.BinOp a .Mult b pos) (m2 fMulN ma mb) := ef_op (op_mul.or (op_mulW.or op_repT)) r2o_mul ha hb hs hl hl1
def fNeg : PD → Option PD
  | .int i => some (.int (-i))
  | _ => none
theorem ev_neg (ha : EV X p l a ma) : EV X p .D (.UnaryOp .USub a pos) (m1 fNeg ma) := by
  obtain ⟨ta, a1, a2⟩ := ha.ok
  refine ⟨fun z => pur1 ha.pur z, _, pe_un un_neg a1, fun G H0 pin ow σ H as r as' Q S hm k => ?_⟩
  obtain ⟨x, as1, q1, q⟩ := bind_some hm
  obtain ⟨q2, rfl⟩ := opt_some q
  refine a2 G H0 pin ow σ H as x as' _ S q1 fun v H1 ow1 st sm S1 lv => ?_
  have lv := lv_dp S1.hd lv
  cases x with
  | int i => cases q2; cases lv; exact ⟨i, rfl, k _ H1 ow1 st sm S1 (Dp.int _)⟩
  | none => cases q2
  | bool _ => cases q2
  | str _ => cases q2
  | list _ => cases q2
  | tuple _ => cases q2
  | dict _ => cases q2

/-! ### comparisons -/
def cLt (i j : Int) : Option PD := some (.bool (decide (i < j)))
def cLe (i j : Int) : Option PD := some (.bool (decide (i ≤ j)))
def cGt (i j : Int) : Option PD := some (.bool (decide (j < i)))
def cGe (i j : Int) : Option PD := some (.bool (decide (j ≤ i)))
theorem r2s_lt {K : Fg} : R2S K (rI0 fun i j => .bl (decide (i < j))) (fInt cLt) := r2s_int0 fun i j d h => by cases h; exact Dp.bl _
theorem r2s_le {K : Fg} : R2S K (rI0 fun i j => .bl (decide (i ≤ j))) (fInt cLe) := r2s_int0 fun i j d h => by cases h; exact Dp.bl _
theorem r2s_gt {K : Fg} : R2S K (rI0 fun i j => .bl (decide (j < i))) (fInt cGt) := r2s_int0 fun i j d h => by cases h; exact Dp.bl _
theorem r2s_ge {K : Fg} : R2S K (rI0 fun i j => .bl (decide (j ≤ i))) (fInt cGe) := r2s_int0 fun i j d h => by cases h; exact Dp.bl _
def fEq (x y : PD) : Option PD := if SeqAt.shaped x = true ∧ SeqAt.shaped y = true then some (.bool (PyData.eqv x y)) else none
def fNe (x y : PD) : Option PD := if SeqAt.shaped x = true ∧ SeqAt.shaped y = true then some (.bool (!PyData.eqv x y)) else none
theorem r2s_eq {K : Fg} : R2S K (rEqD K) fEq := by
  intro H x y dx dy d hx hy hf Q k
  unfold fEq at hf
  split at hf
  · rename_i hc
    cases hf
    exact ⟨dx, dy, hx, hy, hc.1, hc.2, k _ H (Same.refl H) (Dp.bl _)⟩
  · cases hf
theorem r2s_ne {K : Fg} : R2S K (rNeD K) fNe := by
  intro H x y dx dy d hx hy hf Q k
  unfold fNe at hf
  split at hf
  · rename_i hc
    cases hf
    exact ⟨dx, dy, hx, hy, hc.1, hc.2, k _ H (Same.refl H) (Dp.bl _)⟩
  · cases hf
def isN : PD → Bool
  | .none => true
  | _ => false
def fIs (x y : PD) : Option PD := if isN y = true then some (.bool (isN x)) else none
def fIsNot (x y : PD) : Option PD := if isN y = true then some (.bool (!isN x)) else none
theorem isN_dp {K : Fg} {H : Hp} {v : V} {d : PD} (h : Dp K H v d) : decide (v = .non) = isN d := by
  cases h <;> simp [isN]
theorem r2s_is {K : Fg} : R2S K (fun x y H Q => y = .non ∧ Q (.bl (decide (x = .non))) H) fIs := by
  intro H x y dx dy d hx hy hf Q k
  unfold fIs at hf
  split at hf
  · rename_i hc
    cases hf
    have := isN_dp hy
    rw [hc] at this
    refine ⟨by simpa using this, ?_⟩
    rw [isN_dp hx]
    exact k _ H (Same.refl H) (Dp.bl _)
  · cases hf
theorem r2s_isnot {K : Fg} : R2S K (fun x y H Q => y = .non ∧ Q (.bl (!decide (x = .non))) H) fIsNot := by
  intro H x y dx dy d hx hy hf Q k
  unfold fIsNot at hf
  split at hf
  · rename_i hc
    cases hf
    have := isN_dp hy
    rw [hc] at this
    refine ⟨by simpa using this, ?_⟩
    rw [isN_dp hx]
    exact k _ H (Same.refl H) (Dp.bl _)
  · cases hf
/-- x in a list, a tuple -/
def fIn (x y : PD) : Option PD := match y with
  | .list ds => if SeqAt.shaped x = true ∧ SeqAt.shaped (.list ds) = true then some (.bool (ds.any fun z => PyData.eqv z x)) else none
  | .tuple ds => if SeqAt.shaped x = true ∧ SeqAt.shaped (.tuple ds) = true then some (.bool (ds.any fun z => PyData.eqv z x)) else none
  | _ => none
def fNotIn (x y : PD) : Option PD := (fIn x y).bind fun d => match d with
  | .bool b => some (.bool !b)
  | _ => none
def rInT (K : Fg) (neg : Bool) : R2 := fun x y H Q => ∃ d ds, Dp K H x d ∧ Dp K H y (.tuple ds) ∧ SeqAt.shaped d = true ∧ SeqAt.shaped (.tuple ds) = true ∧ Q (.bl (if neg then !(ds.any fun z => PyData.eqv z d) else ds.any fun z => PyData.eqv z d)) H
theorem op_inT (hu : X.A.units + 65 < cLine) : OpR X (compareOp .In) (rInT X.K false) := by
  intro pins s σ H x y v u Q I rx ry ⟨d, ds, hd, he, sd, se, q⟩
  obtain ⟨as, r1⟩ := Dp.reads I d x v hd rx
  obtain ⟨bs, r2⟩ := Dp.reads I (.tuple ds) y u he ry
  exact SeqAt.in_tuple_reads r2 r1 (by simpa [PyData.canLay0] using SeqAt.canLay_of_shaped se) (SeqAt.canLay_of_shaped sd) (PyProof.Rows.room_in_shaped sd hu) ⟨.bl _, H, I, rfl, q⟩
theorem op_notInT (hu : X.A.units + 65 < cLine) : OpR X (compareOp .NotIn) (rInT X.K true) := by
  intro pins s σ H x y v u Q I rx ry ⟨d, ds, hd, he, sd, se, q⟩
  obtain ⟨as, r1⟩ := Dp.reads I d x v hd rx
  obtain ⟨bs, r2⟩ := Dp.reads I (.tuple ds) y u he ry
  exact SeqAt.notIn_tuple_reads r2 r1 (by simpa [PyData.canLay0] using SeqAt.canLay_of_shaped se) (SeqAt.canLay_of_shaped sd) (PyProof.Rows.room_in_shaped sd hu) ⟨.bl _, H, I, rfl, q⟩
theorem r2s_in {K : Fg} : R2S K (fun x y H Q => rInD K x y H Q ∨ rInT K false x y H Q) fIn := by
  intro H x y dx dy d hx hy hf Q k
  unfold fIn at hf
  split at hf
  · split at hf
    · rename_i hc
      cases hf
      exact .inl ⟨dx, _, hx, hy, hc.1, hc.2, k _ H (Same.refl H) (Dp.bl _)⟩
    · cases hf
  · split at hf
    · rename_i hc
      cases hf
      exact .inr ⟨dx, _, hx, hy, hc.1, hc.2, k _ H (Same.refl H) (Dp.bl _)⟩
    · cases hf
  · cases hf
theorem r2s_notin {K : Fg} : R2S K (fun x y H Q => rNotInD K x y H Q ∨ rInT K true x y H Q) fNotIn := by
  intro H x y dx dy d hx hy hf Q k
  unfold fNotIn fIn at hf
  split at hf
  · split at hf
    · rename_i hc
      cases hf
      exact .inl ⟨dx, _, hx, hy, hc.1, hc.2, k _ H (Same.refl H) (Dp.bl _)⟩
    · cases hf
  · split at hf
    · rename_i hc
      cases hf
      exact .inr ⟨dx, _, hx, hy, hc.1, hc.2, k _ H (Same.refl H) (Dp.bl _)⟩
    · cases hf
  · cases hf
end
end Vl

-- V10
set_option Elab.async false
set_option linter.all false
set_option maxRecDepth 100000
set_option maxHeartbeats 4000000
namespace Vl
open PySem L2

/-! ### calls of what is built in, one by one -/
def fLen : List PD → Option PD
  | [.list ds] => some (.int (ds.length : Int))
  | [.tuple ds] => some (.int (ds.length : Int))
  | [.str z] => if z.length ≤ sizeLine then some (.int (z.length : Int)) else none
  | _ => none
theorem rns_len {K : Fg} : RnS K (fun xs H Q => ∃ x n, xs = [x] ∧ LenV K x H n ∧ Q (.int (n : Nat)) H) fLen := by
  intro H xs ds d hx hf Q k
  unfold fLen at hf
  split at hf
  · cases hf
    obtain ⟨v, rfl, h⟩ := one_of hx
    cases h with
    | @lst a vs _ q r => exact ⟨_, vs.length, rfl, .inl ⟨vs, q, rfl⟩, by rw [dpa_len r]; exact k _ H (Same.refl H) (Dp.int _)⟩
  · cases hf
    obtain ⟨v, rfl, h⟩ := one_of hx
    cases h with
    | @tup a vs _ q r => exact ⟨_, vs.length, rfl, .inr ⟨vs, q, rfl⟩, by rw [dpa_len r]; exact k _ H (Same.refl H) (Dp.int _)⟩
  · split at hf
    · rename_i hz
      cases hf
      obtain ⟨v, rfl, h⟩ := one_of hx
      cases h
      exact ⟨_, _, rfl, ⟨hz, rfl⟩, k _ H (Same.refl H) (Dp.int _)⟩
    · cases hf
  · cases hf
def fInt1 : List PD → Option PD
  | [.int i] => some (.int i)
  | [.bool b] => some (.int (if b then 1 else 0))
  | _ => none
theorem rns_int {K : Fg} : RnS K (fun xs H Q => (∃ i, xs = [.int i] ∧ Q (.int i) H) ∨ ∃ k, xs = [.bl k] ∧ Q (.int (if k then 1 else 0)) H) fInt1 := by
  intro H xs ds d hx hf Q k
  unfold fInt1 at hf
  split at hf
  · cases hf
    obtain ⟨v, rfl, h⟩ := one_of hx
    cases h
    exact .inl ⟨_, rfl, k _ H (Same.refl H) (Dp.int _)⟩
  · cases hf
    obtain ⟨v, rfl, h⟩ := one_of hx
    cases h
    exact .inr ⟨_, rfl, k _ H (Same.refl H) (Dp.int _)⟩
  · cases hf
def fAbs : List PD → Option PD
  | [.int i] => some (.int (if i < 0 then -i else i))
  | _ => none
theorem rns_abs {K : Fg} : RnS K (fun xs H Q => ∃ i, xs = [.int i] ∧ Q (.int (if i < 0 then -i else i)) H) fAbs := by
  intro H xs ds d hx hf Q k
  unfold fAbs at hf
  split at hf
  · cases hf
    obtain ⟨v, rfl, h⟩ := one_of hx
    cases h
    exact ⟨_, rfl, k _ H (Same.refl H) (Dp.int _)⟩
  · cases hf
def fMax2 : List PD → Option PD
  | [.int i, .int j] => some (.int (if j > i then j else i))
  | _ => none
def fMin2 : List PD → Option PD
  | [.int i, .int j] => some (.int (if j < i then j else i))
  | _ => none
theorem rns_max2 {K : Fg} : RnS K (fun xs H Q => ∃ i j, xs = [.int i, .int j] ∧ Q (.int (if j > i then j else i)) H) fMax2 := by
  intro H xs ds d hx hf Q k
  unfold fMax2 at hf
  split at hf
  · cases hf
    obtain ⟨v, w, rfl, h1, h2⟩ := two_of hx
    cases h1
    cases h2
    exact ⟨_, _, rfl, k _ H (Same.refl H) (Dp.int _)⟩
  · cases hf
theorem rns_min2 {K : Fg} : RnS K (fun xs H Q => ∃ i j, xs = [.int i, .int j] ∧ Q (.int (if j < i then j else i)) H) fMin2 := by
  intro H xs ds d hx hf Q k
  unfold fMin2 at hf
  split at hf
  · cases hf
    obtain ⟨v, w, rfl, h1, h2⟩ := two_of hx
    cases h1
    cases h2
    exact ⟨_, _, rfl, k _ H (Same.refl H) (Dp.int _)⟩
  · cases hf
/-- tuple(x), list(x) -/
def fTuple : List PD → Option Res
  | [.list ds] => some (.val (.tuple ds))
  | [.tuple ds] => some (.val (.tuple ds))
  | _ => none
theorem rno_tuple {K : Fg} : RnO K (fun xs H Q => ∃ p ys, xs = [.ref p] ∧ ((SqL K H p ys ∧ ∀ l, H l = none → Q (.ref l) (upd H l (.tup ys))) ∨ (SqT K H p ys ∧ Q (.ref p) H))) fTuple := by
  intro G H xs ds res s hx hf Q k
  unfold fTuple at hf
  split at hf
  · cases hf
    obtain ⟨v, rfl, a, vs, rfl, q, r⟩ := one_of hx
    exact ⟨a, vs, rfl, .inl ⟨q, fun l hl => k _ _ (upd_grow hl) (ok_tup s hl r)⟩⟩
  · cases hf
    obtain ⟨v, rfl, h⟩ := one_of hx
    cases h with
    | @tup a vs _ q r => exact ⟨a, vs, rfl, .inr ⟨sqtM s q, k _ H (Same.refl H) (ok_val s (Dp.tup q r))⟩⟩
  · cases hf
def fList : List PD → Option Res
  | [.list ds] => some (.obj (.ol ds))
  | [.tuple ds] => some (.obj (.ol ds))
  | _ => none
theorem rno_list {K : Fg} : RnO K (fun xs H Q => ∃ p ys, xs = [.ref p] ∧ (SqL K H p ys ∨ SqT K H p ys) ∧ ∀ l, H l = none → Q (.ref l) (upd H l (.lst ys))) fList := by
  intro G H xs ds res s hx hf Q k
  unfold fList at hf
  split at hf
  · cases hf
    obtain ⟨v, rfl, a, vs, rfl, q, r⟩ := one_of hx
    exact ⟨a, vs, rfl, .inl q, fun l hl => k _ _ (upd_grow hl) (ok_lst s hl r)⟩
  · cases hf
    obtain ⟨v, rfl, h⟩ := one_of hx
    cases h with
    | @tup a vs _ q r => exact ⟨a, vs, rfl, .inr (sqtM s q), fun l hl => k _ _ (upd_grow hl) (ok_lst s hl r)⟩
  · cases hf
def asInts : List PD → Option (List Int)
  | [] => some []
  | .int i :: ds => (asInts ds).map (i :: ·)
  | _ :: _ => none
def asBools : List PD → Option (List Bool)
  | [] => some []
  | .bool b :: ds => (asBools ds).map (b :: ·)
  | _ :: _ => none
theorem asInts_map : ∀ {ds : List PD} {ns : List Int}, asInts ds = some ns → ds = ns.map .int
  | [], _, h => by cases h; rfl
  | .int i :: ds, ns, h => by
    cases e : asInts ds with
    | none => simp only [asInts, e] at h; cases h
    | some ms =>
      simp only [asInts, e] at h
      cases h
      rw [asInts_map e]; rfl
theorem asInts_of : ∀ ns : List Int, asInts (ns.map .int) = some ns
  | [] => rfl
  | i :: ns => by simp [asInts, asInts_of ns]
theorem asBools_map : ∀ {ds : List PD} {ns : List Bool}, asBools ds = some ns → ds = ns.map .bool
  | [], _, h => by cases h; rfl
  | .bool i :: ds, ns, h => by
    cases e : asBools ds with
    | none => simp only [asBools, e] at h; cases h
    | some ms =>
      simp only [asBools, e] at h
      cases h
      rw [asBools_map e]; rfl
theorem asBools_of : ∀ ns : List Bool, asBools (ns.map .bool) = some ns
  | [] => rfl
  | i :: ns => by simp [asBools, asBools_of ns]
theorem dpa_ints {K : Fg} {H : Hp} : ∀ {vs : List V} {ns : List Int}, DpAll K H vs (ns.map .int) → vs = ns.map V.int
  | [], [], _ => rfl
  | v :: vs, n :: ns, .cons h t => by
    cases h
    rw [dpa_ints t]; rfl
theorem dpa_bools {K : Fg} {H : Hp} : ∀ {vs : List V} {ns : List Bool}, DpAll K H vs (ns.map .bool) → vs = ns.map V.bl
  | [], [], _ => rfl
  | v :: vs, n :: ns, .cons h t => by
    cases h
    rw [dpa_bools t]; rfl
theorem ints_dpa {K : Fg} {H : Hp} : ∀ ns : List Int, DpAll K H (ns.map V.int) (ns.map .int)
  | [] => .nil
  | n :: ns => .cons (Dp.int n) (ints_dpa ns)
def fAll : List PD → Option PD
  | [.list ds] => (asBools ds).map fun bs => .bool (bs.all id)
  | _ => none
def fAny : List PD → Option PD
  | [.list ds] => (asBools ds).map fun bs => .bool (bs.any id)
  | _ => none
theorem rns_all {K : Fg} : RnS K (rAll K) fAll := by
  intro H xs ds d hx hf Q k
  unfold fAll at hf
  split at hf
  · rename_i es
    obtain ⟨v, rfl, h⟩ := one_of hx
    cases e : asBools es with
    | none => rw [e] at hf; cases hf
    | some bs =>
      rw [e] at hf
      cases hf
      rw [asBools_map e] at h
      cases h with
      | @lst a vs _ q r =>
        rw [dpa_bools r] at q
        exact ⟨a, bs, rfl, q, k _ H (Same.refl H) (Dp.bl _)⟩
  · cases hf
theorem rns_any {K : Fg} : RnS K (rAny K) fAny := by
  intro H xs ds d hx hf Q k
  unfold fAny at hf
  split at hf
  · rename_i es
    obtain ⟨v, rfl, h⟩ := one_of hx
    cases e : asBools es with
    | none => rw [e] at hf; cases hf
    | some bs =>
      rw [e] at hf
      cases hf
      rw [asBools_map e] at h
      cases h with
      | @lst a vs _ q r =>
        rw [dpa_bools r] at q
        exact ⟨a, bs, rfl, q, k _ H (Same.refl H) (Dp.bl _)⟩
  · cases hf
def fSum : List PD → Option PD
  | [.list ds] => (asInts ds).map fun ns => .int ns.sum
  | _ => none
theorem rns_sum {K : Fg} : RnS K (rSum K) fSum := by
  intro H xs ds d hx hf Q k
  unfold fSum at hf
  split at hf
  · rename_i es
    obtain ⟨v, rfl, h⟩ := one_of hx
    cases e : asInts es with
    | none => rw [e] at hf; cases hf
    | some bs =>
      rw [e] at hf
      cases hf
      rw [asInts_map e] at h
      cases h with
      | @lst a vs _ q r =>
        rw [dpa_ints r] at q
        exact ⟨a, bs, rfl, q, k _ H (Same.refl H) (Dp.int _)⟩
  · cases hf
def maxL : List Int → Int
  | [] => 0
  | [i] => i
  | i :: j :: l => max i (maxL (j :: l))
def minL : List Int → Int
  | [] => 0
  | [i] => i
  | i :: j :: l => min i (minL (j :: l))
theorem maxL_spec : ∀ (l : List Int), l ≠ [] → maxL l ∈ l ∧ ∀ y ∈ l, y ≤ maxL l
  | [i], _ => by simp [maxL]
  | i :: j :: l, _ => by
    obtain ⟨h1, h2⟩ := maxL_spec (j :: l) (by simp)
    constructor
    · show max i (maxL (j :: l)) ∈ _
      by_cases h : i ≤ maxL (j :: l)
      · rw [Int.max_eq_right h]; exact List.mem_cons_of_mem _ h1
      · rw [Int.max_eq_left (by omega)]; exact List.mem_cons_self
    · intro y hy
      show y ≤ max i (maxL (j :: l))
      rcases List.mem_cons.mp hy with rfl | hy
      · omega
      · have := h2 y hy; omega
theorem minL_spec : ∀ (l : List Int), l ≠ [] → minL l ∈ l ∧ ∀ y ∈ l, minL l ≤ y
  | [i], _ => by simp [minL]
  | i :: j :: l, _ => by
    obtain ⟨h1, h2⟩ := minL_spec (j :: l) (by simp)
    constructor
    · show min i (minL (j :: l)) ∈ _
      by_cases h : i ≤ minL (j :: l)
      · rw [Int.min_eq_left h]; exact List.mem_cons_self
      · rw [Int.min_eq_right (by omega)]; exact List.mem_cons_of_mem _ h1
    · intro y hy
      show min i (minL (j :: l)) ≤ y
      rcases List.mem_cons.mp hy with rfl | hy
      · omega
      · have := h2 y hy; omega
def fMaxI : List PD → Option PD
  | [.list ds] => (asInts ds).bind fun ns => if ns = [] then none else some (.int (maxL ns))
  | _ => none
def fMinI : List PD → Option PD
  | [.list ds] => (asInts ds).bind fun ns => if ns = [] then none else some (.int (minL ns))
  | _ => none
theorem rns_max {K : Fg} : RnS K (rMax K) fMaxI := by
  intro H xs ds d hx hf Q k
  unfold fMaxI at hf
  split at hf
  · rename_i es
    obtain ⟨v, rfl, h⟩ := one_of hx
    cases e : asInts es with
    | none => rw [e] at hf; cases hf
    | some bs =>
      rw [e] at hf
      have hf : (if bs = [] then none else some (PyData.int (maxL bs))) = some d := hf
      split at hf
      · cases hf
      rename_i hne
      cases hf
      rw [asInts_map e] at h
      cases h with
      | @lst a vs _ q r =>
        rw [dpa_ints r] at q
        refine ⟨a, bs, rfl, q, List.length_pos_iff.mpr hne, fun m h1 h2 => ?_⟩
        obtain ⟨m1, m2⟩ := maxL_spec bs hne
        rw [show m = maxL bs from Int.le_antisymm (m2 m h1) (h2 _ m1)]
        exact k _ H (Same.refl H) (Dp.int _)
  · cases hf
theorem rns_min {K : Fg} : RnS K (rMin K) fMinI := by
  intro H xs ds d hx hf Q k
  unfold fMinI at hf
  split at hf
  · rename_i es
    obtain ⟨v, rfl, h⟩ := one_of hx
    cases e : asInts es with
    | none => rw [e] at hf; cases hf
    | some bs =>
      rw [e] at hf
      have hf : (if bs = [] then none else some (PyData.int (minL bs))) = some d := hf
      split at hf
      · cases hf
      rename_i hne
      cases hf
      rw [asInts_map e] at h
      cases h with
      | @lst a vs _ q r =>
        rw [dpa_ints r] at q
        refine ⟨a, bs, rfl, q, List.length_pos_iff.mpr hne, fun m h1 h2 => ?_⟩
        obtain ⟨m1, m2⟩ := minL_spec bs hne
        rw [show m = minL bs from Int.le_antisymm (h2 _ m1) (m2 m h1)]
        exact k _ H (Same.refl H) (Dp.int _)
  · cases hf
/-- sorted(xs), ints -/
def isort (l : List Int) : List Int := l.mergeSort (fun a b => decide (a ≤ b))
theorem isort_perm (l : List Int) : (isort l).Perm l := List.mergeSort_perm l _
theorem isort_sorted (l : List Int) : (isort l).Pairwise (· ≤ ·) := by
  have := List.pairwise_mergeSort (le := fun a b : Int => decide (a ≤ b)) (fun a b c h1 h2 => by simp at *; omega) (fun a b => by simp; omega) l
  exact this.imp fun h => by simpa using h
theorem sorted_uniq {l m : List Int} (p : l.Perm m) (hl : l.Pairwise (· ≤ ·)) (hm : m.Pairwise (· ≤ ·)) : l = m :=
  p.eq_of_pairwise (fun a b _ _ h1 h2 => Int.le_antisymm h1 h2) hl hm
def fSortI : List PD → Option Res
  | [.list ds] => (asInts ds).map fun ns => .obj (.ol ((isort ns).map .int))
  | _ => none
theorem rno_sortI {K : Fg} : RnO K (rSortedI K) fSortI := by
  intro G H xs ds res s hx hf Q k
  unfold fSortI at hf
  split at hf
  · rename_i es
    obtain ⟨v, rfl, h⟩ := one_of hx
    cases e : asInts es with
    | none => rw [e] at hf; cases hf
    | some ns =>
      rw [e] at hf
      cases hf
      rw [asInts_map e] at h
      obtain ⟨a, vs, rfl, q, r⟩ := h
      rw [dpa_ints r] at q
      refine ⟨a, ns, rfl, q, fun ns' b hp hs hb => ?_⟩
      rw [sorted_uniq (hp.trans (isort_perm ns).symm) hs (isort_sorted ns)]
      exact k _ _ (upd_grow hb) (ok_lst s hb (ints_dpa _))
  · cases hf
end Vl

-- V11
set_option Elab.async false
set_option linter.all false
set_option maxRecDepth 100000
set_option maxHeartbeats 4000000
namespace Vl
open PySem L2

/-! ### isinstance -/
def tyN : PD → String
  | .none => "NoneType"
  | .bool _ => "bool"
  | .int _ => "int"
  | .str _ => "str"
  | .list _ => "list"
  | .tuple _ => "tuple"
  | .dict _ => "dict"
def isT (T : String) (d : PD) : Bool := match d with
  | .none => T == "NoneType"
  | .bool _ => T == "bool" || T == "int"
  | .int _ => T == "int"
  | .str _ => T == "str"
  | .list _ => T == "list"
  | .tuple _ => T == "tuple"
  | .dict _ => T == "dict"
def TOk (T : String) : Prop := kitB "NoneType" T = some (T == "NoneType") ∧ kitB "bool" T = some (T == "bool" || T == "int") ∧ kitB "int" T = some (T == "int") ∧ kitB "str" T = some (T == "str") ∧ kitB "list" T = some (T == "list") ∧ kitB "tuple" T = some (T == "tuple")
theorem tok_bool : TOk "bool" := by unfold TOk; decide +kernel
theorem tok_int : TOk "int" := by unfold TOk; decide +kernel
theorem tok_str : TOk "str" := by unfold TOk; decide +kernel
theorem tok_tuple : TOk "tuple" := by unfold TOk; decide +kernel
theorem tok_list : TOk "list" := by unfold TOk; decide +kernel
theorem tyx_of {K : Fg} {H : Hp} {v : V} {d : PD} (h : Dp K H v d) : TyX K H v (.type (tyN d)) := by
  cases h with
  | non => exact .base .non
  | bl b => exact .base (.bl b)
  | int i => exact .base (.int i)
  | str x => exact .base (.str x)
  | lst q r =>
    rcases q with (q | ⟨o, q⟩) | ⟨o, its, n, e, c, _⟩
    · exact .base (.lst q)
    · exact .base (.frz q)
    · exact .kList e c
  | tup q r =>
    rcases q with (q | ⟨o, q⟩) | ⟨o, its, n, e, c, _⟩
    · exact .base (.tup q)
    · exact .fTuple q
    · exact .kTuple e c
theorem kit_of_ok {T : String} (h : TOk T) {d : PD} (hd : ∀ z, d ≠ .dict z) : kitB (tyN d) T = some (isT T d) := by
  obtain ⟨h1, h2, h3, h4, h5, h6⟩ := h
  cases d with
  | none => exact h1
  | bool _ => exact h2
  | int _ => exact h3
  | str _ => exact h4
  | list _ => exact h5
  | tuple _ => exact h6
  | dict z => exact absurd rfl (hd z)
section
variable {X : Cx} {a b : Expr} {p p1 p2 : Bool} {l l1 : Lv} {ma mb : M PD} {pos : Pos}
def mIsi (T : String) (m : M PD) : M PD := m1 (fun d => some (.bool (isT T d))) m
theorem ev_isi {T : String} {x : Str} {q q2 : Pos} (hT : TOk T) (hm : X.mg "isinstance" = none) (hmT : X.mg x = none) (hvT : bootBuiltins x = some (.type T)) (ha : EV X p l a ma)
    (hg : Gl X "isinstance" := by rfl) (hgT : Gl X x := by rfl) (hn : x ≠ "__name__" := by decide) (hd : (x == ("__debug__" : Str)) = false := by decide)
    (h3 : starEach [a, .Name x q2] X.env = (false, eval a X.env) :: starEach [.Name x q2] X.env := by rfl) (h4 : (backTo pos (starEach [.Name x q2] X.env)).any (·.1) = false := by rfl)
    (h5 : starEach [.Name x q2] X.env = (false, eval (.Name x q2) X.env) :: starEach [] X.env := by rfl) :
    EV X p .D (.Call (.Name "isinstance" q) [a, .Name x q2] [] pos) (mIsi T ma) := by
  obtain ⟨ta, a1, a2⟩ := ha.ok
  refine ⟨fun z => pur1 ha.pur z, _, pe_callB call_isi hg hm (by decide +kernel) (pa_cons a1 (pa_cons (pe_bltn (v := .ty T) hgT hmT hvT rfl hn hd) pa_nil h5) h3) (by decide) (by decide) h3 h4, fun G H0 pin ow σ H as r as' Q S hm k => ?_⟩
  obtain ⟨d, as1, q1, h⟩ := bind_some hm
  obtain ⟨q2, rfl⟩ := opt_some h
  cases q2
  refine a2 G H0 pin ow σ H as d as' _ S q1 fun v H1 ow1 st sm S1 lv => ?_
  have lv := lv_dp S1.hd lv
  refine ⟨v, .ty T, .type (tyN d), .type T, isT T d, rfl, .ty T, tyx_of lv, kit_ty (kit_of_ok hT fun z e => ?_), k _ H1 ow1 st sm S1 (Dp.bl _)⟩
  subst e
  cases lv

/-! ### tuple(range(..)), list(range(..)) -/
def rgOk (a b : Int) : Bool := decide (-(2 ^ 62) ≤ a) && decide (a < 2 ^ 62) && decide (-(2 ^ 62) ≤ b) && decide (b < 2 ^ 62) && decide ((b - a).toNat ≤ 16777216)
theorem rgOk_ok {a b : Int} (h : rgOk a b = true) : RgOk a b := by
  unfold rgOk at h
  simp only [Bool.and_eq_true, decide_eq_true_eq] at h
  unfold RgOk
  omega
theorem dpa_rgV {K : Fg} {H : Hp} (a b : Int) : DpAll K H (rgV a b) (rng a (b - a).toNat) := dpa_rng a (b - a).toNat
def fTR1 : PD → Option Res
  | .int n => if rgOk 0 n = true then some (.val (.tuple (rng 0 (n - 0).toNat))) else none
  | _ => none
def fTR2 : PD → PD → Option Res
  | .int i, .int j => if rgOk i j = true then some (.val (.tuple (rng i (j - i).toNat))) else none
  | _, _ => none
def fLR1 : PD → Option Res
  | .int n => if rgOk 0 n = true then some (.obj (.ol (rng 0 (n - 0).toNat))) else none
  | _ => none
def fLR2 : PD → PD → Option Res
  | .int i, .int j => if rgOk i j = true then some (.obj (.ol (rng i (j - i).toNat))) else none
  | _, _ => none
theorem ef_tupR1 {q q2 q3 : Pos} (hc : X.calm = true) (hm : X.mg "tuple" = none) (hmr : X.mg "range" = none) (ha : EV X p l a ma) (hg : Gl X "tuple" := by rfl) (hgr : Gl X "range" := by rfl)
    (na : starEach [.Call (.Name "range" q2) [a] [] q3] X.env = (false, eval (.Call (.Name "range" q2) [a] [] q3) X.env) :: starEach [] X.env := by rfl)
    (nb : starEach [a] X.env = (false, eval a X.env) :: starEach [] X.env := by rfl) : EF X p (.Call (.Name "tuple" q) [.Call (.Name "range" q2) [a] [] q3] [] pos) (m1 fTR1 ma) := by
  obtain ⟨ta, a1, a2⟩ := ha.ok
  refine ⟨fun z => pur1 ha.pur z, _, pe_tupRg hc hg hm (prg_1 hgr hmr a1 nb) na, fun G H0 pin ow σ H as r as' Q S hm k => ?_⟩
  obtain ⟨d, as1, q1, h⟩ := bind_some hm
  obtain ⟨q2, rfl⟩ := opt_some h
  refine a2 G H0 pin ow σ H as d as' _ S q1 fun v H1 ow1 st sm S1 lv => ?_
  have lv := lv_dp S1.hd lv
  unfold fTR1 at q2
  split at q2
  · split at q2
    · rename_i hn
      cases q2
      cases lv
      refine ⟨_, rfl, rgOk_ok hn, fun c hc => ?_⟩
      exact fin_o S1 st sm (upd_grow hc) (ok_tup S1.hd hc (dpa_rgV 0 _)) k
    · cases q2
  · cases q2
theorem ef_lstR1 {q q2 q3 : Pos} (hc : X.calm = true) (hm : X.mg "list" = none) (hmr : X.mg "range" = none) (ha : EV X p l a ma) (hg : Gl X "list" := by rfl) (hgr : Gl X "range" := by rfl)
    (na : starEach [.Call (.Name "range" q2) [a] [] q3] X.env = (false, eval (.Call (.Name "range" q2) [a] [] q3) X.env) :: starEach [] X.env := by rfl)
    (nb : starEach [a] X.env = (false, eval a X.env) :: starEach [] X.env := by rfl) : EF X p (.Call (.Name "list" q) [.Call (.Name "range" q2) [a] [] q3] [] pos) (m1 fLR1 ma) := by
  obtain ⟨ta, a1, a2⟩ := ha.ok
  refine ⟨fun z => pur1 ha.pur z, _, pe_listRg hc hg hm (prg_1 hgr hmr a1 nb) na, fun G H0 pin ow σ H as r as' Q S hm k => ?_⟩
  obtain ⟨d, as1, q1, h⟩ := bind_some hm
  obtain ⟨q2, rfl⟩ := opt_some h
  refine a2 G H0 pin ow σ H as d as' _ S q1 fun v H1 ow1 st sm S1 lv => ?_
  have lv := lv_dp S1.hd lv
  unfold fLR1 at q2
  split at q2
  · split at q2
    · rename_i hn
      cases q2
      cases lv
      refine ⟨_, rfl, rgOk_ok hn, fun c hc => ?_⟩
      exact fin_o S1 st sm (upd_grow hc) (ok_lst S1.hd hc (dpa_rgV 0 _)) k
    · cases q2
  · cases q2
theorem ef_tupR2 {q q2 q3 : Pos} (hc : X.calm = true) (hm : X.mg "tuple" = none) (hmr : X.mg "range" = none) (ha : EV X p1 l a ma) (hb : EV X p2 l1 b mb) (hs : l = .D ∨ p2 = true := by first | exact .inr rfl | exact .inl rfl) (hg : Gl X "tuple" := by rfl) (hgr : Gl X "range" := by rfl)
    (na : starEach [.Call (.Name "range" q2) [a, b] [] q3] X.env = (false, eval (.Call (.Name "range" q2) [a, b] [] q3) X.env) :: starEach [] X.env := by rfl)
    (nb : starEach [a, b] X.env = (false, eval a X.env) :: starEach [b] X.env := by rfl) (nc : starEach [b] X.env = (false, eval b X.env) :: starEach [] X.env := by rfl) (nd : (backTo q3 (starEach [b] X.env)).any (·.1) = false := by rfl) :
    EF X (p1 && p2) (.Call (.Name "tuple" q) [.Call (.Name "range" q2) [a, b] [] q3] [] pos) (m2 fTR2 ma mb) := by
  obtain ⟨ta, tb, e1, e2, qq⟩ := ha.two hb hs
  refine ⟨fun z => pur2 ha.pur (fun z _ => hb.pur z) z, _, pe_tupRg hc hg hm (prg_2 hgr hmr e1 e2 nb nc nd) na, fun G H0 pin ow σ H as r as' Q S hm k => ?_⟩
  obtain ⟨x, as1, q1, h⟩ := bind_some hm
  obtain ⟨y, as2, q2, h⟩ := bind_some h
  obtain ⟨q3, rfl⟩ := opt_some h
  refine qq G H0 pin ow σ H as x y as1 as' _ S q1 q2 fun v w H1 ow1 st sm S1 lv lw => ?_
  have lv := lv_dp S1.hd lv
  have lw := lv_dp S1.hd lw
  unfold fTR2 at q3
  split at q3
  · split at q3
    · rename_i hn
      cases q3
      cases lv
      cases lw
      refine ⟨_, _, rfl, rfl, rgOk_ok hn, fun c hc => ?_⟩
      exact fin_o S1 st sm (upd_grow hc) (ok_tup S1.hd hc (dpa_rgV _ _)) k
    · cases q3
  · cases q3
end
end Vl

-- V12
set_option Elab.async false
set_option linter.all false
set_option maxRecDepth 100000
set_option maxHeartbeats 4000000
/-! set(xs) of a list of ints: as the library's own rule for a tuple of ints, over a list's walk -/
namespace L2
open PySem PySem.Spec PyProof.Rows
section
variable {P : Program} {w : World} {A : Around} {E : Value → Shared → Prop} {s : Shared}
def emptySet (w : World) : Obj := { cls := .type "set", dict := none, data := .set #[] 0 (.fresh 0 0 (!w.params.followText "set-order")) }
theorem emptySetR {h : Heap} {a : Addr} {ns : List Int} (ho : h.get? a = some (emptySet w)) : SetR w h a (fun j => decide (j ∈ ns.take 0)) 0 := setR_new_at ho
/-- the set that stands at the place L, all else as in h -/
def SetDone (w : World) (ns : List Int) (L : Addr) (h h' : Heap) (c : Nat) : Prop := SetR w h' L (fun j => decide (j ∈ ns)) c ∧ c ≤ ns.length ∧ ∀ b o, h.get? b = some o → h'.get? b = some o
set_option maxHeartbeats 3200000 in
theorem setOfInts {l : Addr} {items : Array Value} (ns : List Int) {Q : Value → Shared → Prop} (hh : A.handled = none) (hl : s.heap.IsList l items) (hit : IntsAre items.toList ns) (hb : ns.length + 1 < scanBound)
    (h : ∀ (h' : Heap) (tk c : Nat), SetDone w ns s.heap.objs.size s.heap h' c → Q (.ref s.heap.objs.size) { s with heap := h', toks := tk }) :
    wpAny (model P w) A (call (.type "set") [.ref l]) Q E s := by
  have hisz : items.size = ns.length := (Array.length_toList (xs := items)).symm.trans (IntsAre.length hit)
  obtain ⟨c, tl, hmro⟩ := F.called_set.mro
  have m1 := F.called_set.made; have m2 := F.called_set.sub
  apply wpAny_call; apply codeAny_of_tree
  change wpAny _ _ (callAny (.type "set") _) _ _ _
  apply wpAny_pure
  refine And.intro (Code.quiet_builtin _ (by decide +kernel)) (codeAny_builtin F.entry_type_call ?_)
  rw [Around.under_plain (weight_type_call_type "set" [.ref l] []) rfl]
  have m3 := F.called_set.notType; have m4 := F.called_set.canCreate; have m5 := F.typeCall_set_1 (.ref l)
  repeat (any_goals (first | assumption | wp_step))
  apply codeAny_mono (code_set_led1 (.ref l) (E := E) (Q₁ := fun obj s₁ => obj = .ref s.heap.objs.size ∧ s₁ = { s with heap := s.heap.push (emptySet w) }) (And.intro rfl rfl))
  intro r s₁ hr
  match r, hr with
  | .error e, hr => exact hr
  | .ok (.ret obj), hr =>
    obtain ⟨rfl, rfl⟩ := hr
    have hS : (s.heap.push (emptySet w)).get? s.heap.objs.size = some (emptySet w) := Heap.get?_push_size _ rfl
    have hT : Shared.TypeIs { s with heap := s.heap.push (emptySet w) } (.ref s.heap.objs.size) "set" := Exists.intro _ (And.intro hS rfl)
    have m6 := F.called_set.init.lookup; have m7 := F.called_set.init.bind (.ref s.heap.objs.size)
    repeat (any_goals (first | assumption | wp_step))
    apply codeAny_mono (codeAny_call_builtin (R := wants (fun r s₂ => r = .none ∧ ∃ h' tk c, s₂ = { s with heap := h', toks := tk } ∧ SetDone w ns s.heap.objs.size s.heap h' c) E) F.called_set.init.plain F.entry_set_init (check_set_init_1 hT ?_))
    · intro r₂ s₂ hr₂
      match r₂, hr₂ with
      | .error e, hr₂ => exact hr₂
      | .ok (.ret r), hr₂ =>
        obtain ⟨rfl, h', tk, c', rfl, hd⟩ := hr₂
        repeat (any_goals (first | assumption | wp_step))
        exact h _ _ _ hd
      | .ok .next, hr₂ => exact hr₂.elim
      | .ok .brk, hr₂ => exact hr₂.elim
      | .ok .cont, hr₂ => exact hr₂.elim
    · obtain ⟨⟨ocls, odict, odata, oslots⟩, hol, hcl, nl, hdl⟩ := hl
      cases hcl; cases hdl
      have hol' : (s.heap.push (emptySet w)).get? l = some ⟨.type "list", odict, .seq items nl, oslots⟩ := Heap.get?_push_of_some _ hol
      have m8 := F.sub_list_set; have m9 := F.sub_list_frozenset
      have m10 : (Value.type "list" == Value.type "dict") = false := by decide
      have hl1 : (s.heap.push (emptySet w)).IsList l items := Exists.intro _ (And.intro hol' (And.intro rfl (Exists.intro nl rfl)))
      unfold Builtin.«set.__init__» noKeywords Builtin.Frozenset.updateFrom
      generalize hPI : pyIter = PI
      wp_walk
      subst hPI
      apply wpAny_pyIter_list hl1
      apply wpAny_bind; apply wpAny_runValue
      have hlS : l < s.heap.objs.size := Heap.lt_size hol
      have hsz : (s.heap.push (emptySet w)).objs.size = s.heap.objs.size + 1 := Heap.size_push ..
      have hneI : l ≠ (s.heap.push (emptySet w)).objs.size := by rw [hsz]; exact Nat.ne_of_lt (Nat.lt_succ_of_lt hlS)
      have hSf : s.heap.objs.size ∉ [(s.heap.push (emptySet w)).objs.size, l] := by
        rw [hsz]; intro hm
        rcases List.mem_cons.mp hm with e | hm
        · exact absurd e (Nat.ne_of_lt (Nat.lt_succ_self _))
        · exact absurd (List.mem_singleton.mp hm) (Nat.ne_of_gt hlS)
      have hval : ∀ (i : Nat) (v : Value), items[i]? = some v → ∃ k t, ns[i]? = some k ∧ v = .int k t := by
        intro i v hv
        have hi : i < ns.length := hisz ▸ (Array.getElem?_eq_some_iff.mp hv).1
        obtain ⟨t, e⟩ := PyProof.Rows.IntsAre.int_at hit i v ((Array.getElem?_toList (xs := items)).trans hv)
        rw [List.getD_eq_getElem?_getD, List.getElem?_eq_getElem hi] at e
        exact ⟨ns[i], t, List.getElem?_eq_getElem hi, e⟩
      refine set_update_ints ((Walks.list (show A.in1.in1.in1.handled = none by simp [hh]) _ l hneI items).toS) s.heap.objs.size hSf ns hisz hb hval (items.size - 0) 0 _ (by omega) (Nat.zero_le _) (And.intro ⟨_, Heap.get?_push_size _ rfl, rfl, rfl⟩ (hl1.push _)) ?first ?last
      case first => exact ⟨0, Nat.le_refl 0, emptySetR (Heap.get?_push_of_some _ hS)⟩
      case last =>
        rintro ⟨h', g2, d', tk', os'⟩ c' hm hc' hS'
        cases (hm.gens : g2 = s.gens); cases (hm.drawn : d' = s.drawn); cases (hm.os : os' = s.os)
        change wpAny _ _ _ _ _ _
        apply wpAny_pure
        change wpAny _ _ (ret Value.none) _ _ _
        apply wpAny_pure
        refine And.intro rfl ⟨h', tk', c', rfl, hS', hisz ▸ hc', fun b o e => ?_⟩
        have hb0 : b < s.heap.objs.size := Heap.lt_size e
        refine hm.heap b o (fun hm2 => ?_) (Heap.get?_push_of_some _ (Heap.get?_push_of_some _ e))
        rcases List.mem_cons.mp hm2 with z | hm2
        · exact absurd z (Nat.ne_of_lt hb0)
        · have z := List.mem_singleton.mp hm2
          rw [hsz] at z
          exact absurd z (Nat.ne_of_lt (Nat.lt_succ_of_lt hb0))
  | .ok .next, hr => exact hr.elim
  | .ok .brk, hr => exact hr.elim
  | .ok .cont, hr => exact hr.elim
end
end L2

-- V13
set_option Elab.async false
set_option linter.all false
set_option maxRecDepth 100000
set_option maxHeartbeats 4000000
namespace Vl
open PySem L2

/-! ### sets of ints: made of a list or tuple; sorted, counted -/
def insU (x : Int) : List Int → List Int
  | [] => [x]
  | y :: l => if x < y then x :: y :: l else if x = y then y :: l else y :: insU x l
def usort (l : List Int) : List Int := l.foldr insU []
theorem mem_insU {x z : Int} : ∀ {l : List Int}, z ∈ insU x l ↔ z = x ∨ z ∈ l
  | [] => by simp [insU]
  | y :: l => by
    unfold insU
    split
    · simp
    · split
      · rename_i h; subst h; simp
      · rw [List.mem_cons, mem_insU, List.mem_cons]
        constructor
        · rintro (h | h | h)
          · exact .inr (.inl h)
          · exact .inl h
          · exact .inr (.inr h)
        · rintro (h | h | h)
          · exact .inr (.inl h)
          · exact .inl h
          · exact .inr (.inr h)
theorem sorted_insU {x : Int} : ∀ {l : List Int}, l.Pairwise (· < ·) → (insU x l).Pairwise (· < ·)
  | [], _ => by simp [insU]
  | y :: l, h => by
    obtain ⟨h1, h2⟩ := List.pairwise_cons.mp h
    unfold insU
    split
    · rename_i hx
      refine List.pairwise_cons.mpr ⟨fun z hz => ?_, h⟩
      rcases List.mem_cons.mp hz with rfl | hz
      · exact hx
      · exact Int.lt_trans hx (h1 z hz)
    · split
      · exact h
      · rename_i h3 h4
        refine List.pairwise_cons.mpr ⟨fun z hz => ?_, sorted_insU h2⟩
        rcases mem_insU.mp hz with rfl | hz
        · omega
        · exact h1 z hz
theorem mem_usort {z : Int} : ∀ {l : List Int}, z ∈ usort l ↔ z ∈ l
  | [] => by simp [usort]
  | y :: l => by
    show z ∈ insU y (usort l) ↔ _
    rw [mem_insU, mem_usort, List.mem_cons]
theorem sorted_usort : ∀ (l : List Int), (usort l).Pairwise (· < ·)
  | [] => List.Pairwise.nil
  | y :: l => sorted_insU (sorted_usort l)
theorem nodup_usort (l : List Int) : (usort l).Nodup := (sorted_usort l).imp fun h e => by omega
theorem perm_of_mem {l m : List Int} (hl : l.Nodup) (hm : m.Nodup) (h : ∀ z, z ∈ l ↔ z ∈ m) : l.Perm m := (List.perm_ext_iff_of_nodup hl hm).mpr h
theorem strict_uniq {l m : List Int} (hl : l.Pairwise (· < ·)) (hm : m.Pairwise (· < ·)) (h : ∀ z, z ∈ l ↔ z ∈ m) : l = m :=
  sorted_uniq (perm_of_mem (hl.imp fun h e => by omega) (hm.imp fun h e => by omega) h) (hl.imp fun h => by omega) (hm.imp fun h => by omega)
def rSetI (w : World) (K : Fg) : List V → Hp → VK → Prop := fun vs H Q => ∃ (a : Addr) (ns : List Int), vs = [.ref a] ∧ (SqL K H a (ns.map V.int) ∨ SqT K H a (ns.map V.int)) ∧ ns.length + 1 < scanBound ∧
  ∀ p c, H p = none → c = (usort ns).length → Q (.ref p) (upd H p (SetO w p (fun j => decide (j ∈ ns)) c))
theorem setR_count {w : World} {h : Heap} {a : Addr} {ns : List Int} {c : Nat} (R : SetR w h a (fun j => decide (j ∈ ns)) c) : c = (usort ns).length := by
  obtain ⟨o, es, ep, t, _, _, _, _, nd, hm, _, _, hn, _⟩ := R
  have := (perm_of_mem nd (nodup_usort ns) fun z => by rw [← hm z, mem_usort]; simp).length_eq
  rw [List.length_map, Array.length_toList, hn] at this
  exact this
section
variable {X : Cx}
theorem cr_set (hc : X.calm = true) : CallR X (.type "set") (rSetI X.w X.K) := by
  intro pins s σ H vs us Q I r ⟨a, ns, hvs, hq, hb, q⟩
  subst hvs
  have e1 : us = [Value.ref a] := Vals.ref1 r
  subst e1
  have fin : ∀ (h' : Heap) (tk c : Nat), SetDone X.w ns s.heap.objs.size s.heap h' c → EP X pins σ Q (.ref s.heap.objs.size) { s with heap := h', toks := tk } := fun h' tk c ⟨hS, _, hk⟩ =>
    ⟨.ref s.heap.objs.size, _, I.laid (t' := tk) hk (Nat.le_refl _) (setO_new hS), rfl, q _ c (I.hok.fresh (Nat.le_refl _)) (setR_count hS)⟩
  rcases hq with hq | hq
  · obtain ⟨its, rv, pl, _⟩ := I.list hq
    exact setOfInts ns (I.ok.hd hc) pl.isList (by simpa using rv.ints) hb fin
  · obtain ⟨its, rv, pl, _⟩ := I.tuple hq
    have pl' : s.heap.IsTuple a its.toArray := pl
    exact call_set_tupI ns (I.ok.hd hc) pl' (by simpa using rv.ints) hb fun h' tk c hS hcl hk => fin h' tk c ⟨hS, hcl, hk⟩
theorem cr_lenSet : CallR X (.builtin "len") (fun vs H Q => ∃ a S n, vs = [.ref a] ∧ H a = some (SetO X.w a S n) ∧ Q (.int (n : Nat)) H) := by
  intro pins s σ H vs us Q I r ⟨a, S, n, hvs, ha, q⟩
  subst hvs
  have e1 : us = [Value.ref a] := Vals.ref1 r
  subst e1
  obtain ⟨o, es, ep, t, ho, hex, hd, _, _, _, hsz, hf, hn, _⟩ := setO_get I ha
  refine call_len_set ho hex hd hf (by unfold scanBound at hsz; omega) ⟨.int n, H, I.tok _, ⟨_, by rw [hn]⟩, q⟩
end
theorem insU_leq (y : Int) : ∀ l : List Int, (insU y l).length ≤ l.length + 1
  | [] => by simp [insU]
  | x :: l => by
    unfold insU
    have := insU_leq y l
    repeat' split
    all_goals simp only [List.length_cons]
    all_goals omega
theorem usort_leq : ∀ l : List Int, (usort l).length ≤ l.length
  | [] => by simp [usort]
  | y :: l => by
    have h1 := insU_leq y (usort l)
    have h2 := usort_leq l
    show (insU y (usort l)).length ≤ _
    rw [List.length_cons]
    omega
/-! ### sorted(found), any number of members -/
section
open PySem.Spec PyProof.Rows
variable {P : Program} {w : World} {A : Around} {E : Value → Shared → Prop} {s : Shared}
theorem sorted_setB {a : Addr} {S : Int → Bool} {n : Nat} {Q : Value → Shared → Prop} (R : SetR w s.heap a S n) (hh : A.handled = none)
    (hQ : ∀ s' p (out : Array Value) (c : Nat) (ns : List Int), (∀ b o, s.heap.get? b = some o → s'.heap.get? b = some o) → s'.gens = s.gens → s'.os = s.os → s.heap.objs.size ≤ p →
      s'.heap.get? p = some (seqObj "list" out c) → IntsAre out.toList ns → ns.Pairwise (· < ·) → (∀ k, k ∈ ns ↔ S k = true) → ns.length = n → Q (.ref p) s') :
    wpAny (model P w) A (call (.builtin "sorted") [.ref a]) Q E s := by
  obtain ⟨o, es, ep, t, ho, hex, hd, g, nd, hm, hb, hf, hn, hr, hl⟩ := R
  refine Calls.call_function_entry kind_sorted plain_sorted entry_sorted (args_sorted1 _) ?_
  unfold Builtin.«sorted»
  refine wpAny_bind (m := checkCount "sorted" 1 1 _) (wpAny_pure ?_)
  refine wpAny_bind (collect_set (A := A.in1) hh ⟨o, ho, hex.1, hd⟩ hf hb hr hl fun s1 vs k1 hz g1 o1 pm => ?_)
  have hvl : vs.length = n := by rw [pm.length_eq, List.length_map, Array.length_toList]; exact hn
  have hI : IntsAre vs (vs.map Builtin.Re.reRawOf) := ints_of vs fun v hv => by
    obtain ⟨e, he, q⟩ := List.mem_map.mp (pm.mem_iff.mp hv)
    obtain ⟨k, tk, h1, _⟩ := g e he
    exact ⟨k, tk, by rw [← q]; exact h1⟩
  have pk : (vs.map Builtin.Re.reRawOf).Perm (es.toList.map keyOf) := by
    have q := pm.map Builtin.Re.reRawOf
    rw [List.map_map] at q
    exact q
  have hz2 : vs.length ≤ sizeLine := by
    have q := fits_of_scanBound hb
    rw [pm.length_eq, List.length_map, Array.length_toList]; exact q
  refine wpAny_bind (wpAny_newList ?_ hz2)
  have hoL : (s1.heap.push (seqObj "list" vs.toArray 0)).get? s1.heap.objs.size = some (seqObj "list" vs.toArray 0) := Heap.get?_push_size _ rfl
  refine wpAny_bind (wpAny_holding (wpAny_call_entry slot_list_sort ⟨_, hoL, rfl⟩ entry_list_sort (SrtO.list_sort_ord SrtO.swo_int hoL hz2 (fun h2 => SrtO.ints_sortable hI h2) fun out b1 b2 => ⟨_, rfl, ?_⟩) (args_list_sort _)))
  obtain ⟨a1, a2, a3⟩ := SrtO.ints_out hI b1 b2
  obtain ⟨c, hc⟩ := sortedHeap_at (vs := vs) (out := out.toArray) hoL
  have pn : (out.map SrtO.iv).Perm (es.toList.map keyOf) := a2.trans pk
  refine wpAny_pure ⟨_, rfl, hQ _ s1.heap.objs.size out.toArray c (out.map SrtO.iv) (fun b u e => ?_) g1 o1 hz hc a1 (lt_of_le_nodup (out.map SrtO.iv) a3 (pn.nodup_iff.mpr nd)) (fun k => by rw [pn.mem_iff, ← hm k]) ?_⟩
  · have q := k1 b u e
    have hlt := Heap.lt_size q
    show (sortedHeap (s1.heap.push (seqObj "list" vs.toArray 0)) s1.heap.objs.size vs out.toArray).get? b = some u
    rw [sortedHeap_old (Nat.ne_of_lt hlt) (by rw [size_push']; exact Nat.lt_succ_of_lt hlt)]
    exact Heap.get?_push_of_some _ q
  · rw [pn.length_eq, List.length_map, Array.length_toList]; exact hn
end
def rSortedSetB (w : World) : List V → Hp → VK → Prop := fun vs H Q => ∃ (a : Addr) (S : Int → Bool) (n : Nat), vs = [V.ref a] ∧ H a = some (SetO w a S n) ∧ n < 4096 ∧
  ∀ (ns : List Int) (p : Addr), ns.Pairwise (· < ·) → (∀ k : Int, k ∈ ns ↔ S k = true) → ns.length = n → H p = none → Q (.ref p) (upd H p (.lst (ns.map V.int)))
theorem cr_sortedSetB {X : Cx} (hc : X.calm = true) : CallR X (.builtin "sorted") (rSortedSetB X.w) := by
  intro pins s σ H vs us Q I r h
  obtain ⟨a, S, n, rfl, ha, h64, q⟩ := h
  have R := setO_get I ha
  rw [Vals.ref1 r]
  refine sorted_setB R (I.ok.hd hc) fun s' p out c ns k g o hp hg hi hs hm hl => ?_
  have hlen : (ns.map V.int).length ≤ sizeLine := by rw [List.length_map, hl, sizeLine_eq]; omega
  have hn : H p = none := I.hok.fresh hp
  have J : Inv X pins σ (upd H p (.lst (ns.map V.int))) { s with heap := s'.heap, gens := s'.gens, drawn := s'.drawn, toks := s'.toks } :=
    I.call (ch := []) (Un.laid k hp hn) (I.hok.laid k hp ⟨hlen, out.toList, c, vals_of_ints hi, hg⟩) (by rw [g]; exact I.bare) (fun _ z => nomatch z)
  have e : s' = { s with heap := s'.heap, gens := s'.gens, drawn := s'.drawn, toks := s'.toks } := by
    cases s'
    cases s
    cases o
    rfl
  rw [e]
  exact ⟨.ref p, _, J, rfl, q ns p hs hm hl hn⟩
def asIntsOf : PD → Option (List Int)
  | .list ds => asInts ds
  | .tuple ds => asInts ds
  | _ => none
def fSSet (d : PD) : Option Res := (asIntsOf d).bind fun ns => if ns.length + 1 < 4096 then some (.obj (.ol ((usort ns).map .int))) else none
def fLSet (d : PD) : Option PD := (asIntsOf d).bind fun ns => if ns.length + 1 < 4096 then some (.int ((usort ns).length : Int)) else none
theorem seq_ints {K : Fg} {H : Hp} {v : V} {d : PD} {ns : List Int} (h : Dp K H v d) (e : asIntsOf d = some ns) : ∃ a, v = .ref a ∧ (SqL K H a (ns.map V.int) ∨ SqT K H a (ns.map V.int)) := by
  cases h with
  | @lst a vs ds q r =>
    rw [asInts_map e] at r
    rw [dpa_ints r] at q
    exact ⟨a, rfl, .inl q⟩
  | @tup a vs ds q r =>
    rw [asInts_map e] at r
    rw [dpa_ints r] at q
    exact ⟨a, rfl, .inr q⟩
  | non => cases e
  | bl _ => cases e
  | int _ => cases e
  | str _ => cases e
section
variable {X : Cx} {a : Expr} {p : Bool} {l : Lv} {ma : M PD} {pos : Pos}
theorem ef_sortedSet {q q2 q3 : Pos} (hc : X.calm = true) (hm : X.mg "sorted" = none) (hms : X.mg "set" = none) (ha : EV X p l a ma) (hg : Gl X "sorted" := by rfl) (hgs : Gl X "set" := by rfl)
    (h1 : starEach [.Call (.Name "set" q2) [a] [] q3] X.env = (false, eval (.Call (.Name "set" q2) [a] [] q3) X.env) :: starEach [] X.env := by rfl) (h2 : (backTo pos (starEach [] X.env)).any (·.1) = false := by rfl)
    (h3 : starEach [a] X.env = (false, eval a X.env) :: starEach [] X.env := by rfl) (h4 : (backTo q3 (starEach [] X.env)).any (·.1) = false := by rfl) :
    EF X p (.Call (.Name "sorted" q) [.Call (.Name "set" q2) [a] [] q3] [] pos) (m1 fSSet ma) := by
  obtain ⟨ta, a1, a2⟩ := ha.ok
  refine ⟨fun z => pur1 ha.pur z, _, pe_callB (cr_sortedSetB hc) hg hm (by decide +kernel) (pa_cons (pe_callTy (cr_set hc) hgs hms (by decide +kernel) (pa_cons a1 pa_nil h3) (by decide) (by decide) h3 h4) pa_nil h1) (by decide) (by decide) h1 h2, fun G H0 pin ow σ H as r as' Q S hm k => ?_⟩
  obtain ⟨d, as1, q1, h⟩ := bind_some hm
  obtain ⟨q2, rfl⟩ := opt_some h
  unfold fSSet at q2
  cases e : asIntsOf d with
  | none => rw [e] at q2; cases q2
  | some ns =>
    rw [e] at q2
    have q2 : (if ns.length + 1 < 4096 then some (Res.obj (.ol ((usort ns).map .int))) else none) = some r := q2
    split at q2
    · rename_i hz
      cases q2
      refine a2 G H0 pin ow σ H as d as' _ S q1 fun v H1 ow1 st sm S1 lv => ?_
      obtain ⟨b, rfl, hq⟩ := seq_ints (lv_dp S1.hd lv) e
      refine ⟨b, ns, rfl, hq, hz, fun c n hc hn => ?_⟩
      refine ⟨c, _, n, rfl, upd_same, (by have := usort_leq ns; omega), fun ms c2 h1 h2 h3 h4 => ?_⟩
      have hms : ms = usort ns := strict_uniq h1 (sorted_usort ns) fun z => by rw [h2 z, mem_usort]; simp
      subst hms
      have hc2 : H1 c2 = none := by
        by_cases z : c2 = c
        · subst z; rw [upd_same] at h4; cases h4
        · rw [upd_ne z] at h4; exact h4
      refine fin_o S1 st sm (v := .ref c2) (res := .obj (.ol ((usort ns).map .int))) (fun b x e => ?_) ⟨c2, rfl, hc2, _, upd_same, ints_dpa _⟩ k
      rw [upd_ne (ne_of_none e hc2), upd_ne (ne_of_none e hc)]; exact e
    · cases q2
theorem ev_lenSet {q q2 q3 : Pos} (hc : X.calm = true) (hm : X.mg "len" = none) (hms : X.mg "set" = none) (ha : EV X p l a ma) (hg : Gl X "len" := by rfl) (hgs : Gl X "set" := by rfl)
    (h1 : starEach [.Call (.Name "set" q2) [a] [] q3] X.env = (false, eval (.Call (.Name "set" q2) [a] [] q3) X.env) :: starEach [] X.env := by rfl) (h2 : (backTo pos (starEach [] X.env)).any (·.1) = false := by rfl)
    (h3 : starEach [a] X.env = (false, eval a X.env) :: starEach [] X.env := by rfl) (h4 : (backTo q3 (starEach [] X.env)).any (·.1) = false := by rfl) :
    EV X p .D (.Call (.Name "len" q) [.Call (.Name "set" q2) [a] [] q3] [] pos) (m1 fLSet ma) := by
  obtain ⟨ta, a1, a2⟩ := ha.ok
  refine ⟨fun z => pur1 ha.pur z, _, pe_callB cr_lenSet hg hm (by decide +kernel) (pa_cons (pe_callTy (cr_set hc) hgs hms (by decide +kernel) (pa_cons a1 pa_nil h3) (by decide) (by decide) h3 h4) pa_nil h1) (by decide) (by decide) h1 h2, fun G H0 pin ow σ H as r as' Q S hm k => ?_⟩
  obtain ⟨d, as1, q1, h⟩ := bind_some hm
  obtain ⟨q2, rfl⟩ := opt_some h
  unfold fLSet at q2
  cases e : asIntsOf d with
  | none => rw [e] at q2; cases q2
  | some ns =>
    rw [e] at q2
    have q2 : (if ns.length + 1 < 4096 then some (PyData.int ((usort ns).length : Int)) else none) = some r := q2
    split at q2
    · rename_i hz
      cases q2
      refine a2 G H0 pin ow σ H as d as' _ S q1 fun v H1 ow1 st sm S1 lv => ?_
      obtain ⟨b, rfl, hq⟩ := seq_ints (lv_dp S1.hd lv) e
      refine ⟨b, ns, rfl, hq, hz, fun c n hc hn => ⟨c, _, n, rfl, upd_same, ?_⟩⟩
      subst hn
      exact fin_s S1 st sm (upd_grow hc) (Dp.int _) k
    · cases q2
end
end Vl

-- V14
set_option Elab.async false
set_option linter.all false
set_option maxRecDepth 100000
set_option maxHeartbeats 4000000
namespace Vl
open PySem L2

/-! ### dicts of one's own, keys ints and texts -/
section
variable {κ : Type} [DecidableEq κ]
def valP (kvs : List (κ × PD)) (k : κ) : Option PD := (kvs.find? fun kv => decide (kv.1 = k)).map (·.2)
def putP (kvs : List (κ × PD)) (k : κ) (d : PD) : List (κ × PD) := if (kvs.any fun kv => decide (kv.1 = k)) then kvs.map fun kv => if kv.1 = k then (kv.1, d) else kv else kvs ++ [(k, d)]
abbrev PR (K : Fg) (G : Hp) : κ × V → κ × PD → Prop := fun p q => p.1 = q.1 ∧ Dp K G p.2 q.2
theorem val_pair {K : Fg} {G : Hp} {ps : List (κ × V)} {kvs : List (κ × PD)} (h : Paired (PR K G) ps kvs) (k : κ) : (valV ps k = none ∧ valP kvs k = none) ∨ ∃ v d, valV ps k = some v ∧ valP kvs k = some d ∧ Dp K G v d := by
  induction h with
  | nil => exact .inl ⟨rfl, rfl⟩
  | @cons a b l m h t ih =>
    obtain ⟨h1, h2⟩ := h
    by_cases e : a.1 = k
    · refine .inr ⟨a.2, b.2, valV_pos e, ?_, h2⟩
      unfold valP
      rw [List.find?_cons_of_pos (by simpa using h1.symm.trans e)]
      rfl
    · have e2 : ¬ b.1 = k := fun z => e (h1.trans z)
      rw [valV_neg e]
      have : valP (b :: m) k = valP m k := by
        unfold valP
        rw [List.find?_cons_of_neg (by simpa using e2)]
      rw [this]
      exact ih
theorem any_pair {K : Fg} {G : Hp} {ps : List (κ × V)} {kvs : List (κ × PD)} (h : Paired (PR K G) ps kvs) (k : κ) : (ps.any fun kv => decide (kv.1 = k)) = kvs.any fun kv => decide (kv.1 = k) := by
  induction h with
  | nil => rfl
  | cons h t ih => rw [List.any_cons, List.any_cons, ih, h.1]
theorem map_pair {K : Fg} {G : Hp} {ps : List (κ × V)} {kvs : List (κ × PD)} (h : Paired (PR K G) ps kvs) {k : κ} {v : V} {d : PD} (q : Dp K G v d) : Paired (PR K G) (ps.map fun kv => if kv.1 = k then (kv.1, v) else kv) (kvs.map fun kv => if kv.1 = k then (kv.1, d) else kv) := by
  induction h with
  | nil => exact .nil
  | @cons a b l m h t ih =>
    rw [List.map_cons, List.map_cons]
    refine .cons ?_ ih
    rw [h.1]
    split
    · exact ⟨rfl, q⟩
    · exact h
theorem put_pair {K : Fg} {G : Hp} {ps : List (κ × V)} {kvs : List (κ × PD)} (h : Paired (PR K G) ps kvs) {k : κ} {v : V} {d : PD} (q : Dp K G v d) : Paired (PR K G) (putK ps k v) (putP kvs k d) := by
  unfold putK putP
  rw [any_pair h k]
  split
  · exact map_pair h q
  · exact paired_snoc h ⟨rfl, q⟩
end
def kOf : PD → Option Key
  | .int i => some (.inl i)
  | .str x => some (.inr x)
  | _ => none
def ofK : Key → PD
  | .inl i => .int i
  | .inr x => .str x
theorem kOf_dp {K : Fg} {H : Hp} {v : V} {d : PD} {k : Key} (h : Dp K H v d) (e : kOf d = some k) : v = kV k := by
  cases h <;> cases e <;> rfl
theorem ofK_dp {K : Fg} {H : Hp} (k : Key) : Dp K H (kV k) (ofK k) := by
  cases k with
  | inl i => exact Dp.int i
  | inr x => exact Dp.str x
/-- the pairs of slot i's dict -/
def slotD (as : AS) (i : Nat) : Option (List (Key × PD)) := match as[i]? with
  | some (.own (.od kvs)) => some kvs
  | some (.io (.od kvs)) => some kvs
  | some (.own (.fk kvs)) => some kvs
  | _ => none
theorem SR.atD {K : Fg} {G H0 H : Hp} {pin : Nat → Addr} {ow : Ow} {σ : L2.St} {as : AS} {i : Nat} {kvs : List (Key × PD)} (S : SR K G H0 pin ow σ H as) (e : slotD as i = some kvs) : ∃ a ps, σ[i]? = some (some (.ref a)) ∧ ow a = some (some i) ∧ Rd H a (.dK ps) ∧ Paired (PR K (Hd ow G H0 H)) ps kvs := by
  unfold slotD at e
  split at e
  · rename_i q
    cases e
    obtain ⟨a, q1, w, ps, hv, hd⟩ := S.slot i _ q
    exact ⟨a, ps, q1, w, .inl hv, hd⟩
  · rename_i q
    cases e
    obtain ⟨a, q1, w, _, ps, hv, hd⟩ := S.slot i _ q
    exact ⟨a, ps, q1, w, .inl hv, hd⟩
  · rename_i q
    cases e
    obtain ⟨a, q1, w, o, ps, hv, hd⟩ := S.slot i _ q
    exact ⟨a, ps, q1, w, .inr ⟨o, hv⟩, hd⟩
  · cases e
section
variable {X : Cx} {p p1 p2 p3 : Bool} {l l1 : Lv} {pos : Pos}
theorem ef_dict : EF X true (.Dict [] [] pos) (mPure (.obj (.od []))) := by
  refine ⟨fun _ as r as' h => (pure_some h).2, _, pe_dnewK, fun G H0 pin ow σ H as r as' Q S hm k => ?_⟩
  obtain ⟨rfl, rfl⟩ := pure_some hm
  intro q hq
  exact fin_o S Stp.refl (fun _ => Same.refl _) (upd_grow hq) (v := .ref q) (res := .obj (.od [])) ⟨q, rfl, hq, [], upd_same, .nil⟩ k
/-- d.get(k, x); d.get(k) -/
def mGet2 (i : Nat) (mk mx : M PD) : M PD := fun as => match slotD as i with
  | none => none
  | some _ => match mk as with
    | none => none
    | some (kd, as1) => match mx as1 with
      | none => none
      | some (x, as2) => match slotD as2 i with
        | none => none
        | some kvs => match kOf kd with
          | none => none
          | some k => some ((valP kvs k).getD x, as2)
def mGet1 (i : Nat) (mk : M PD) : M PD := mGet2 i mk (mPure .none)
def mIx (i : Nat) (mk : M PD) : M PD := fun as => match slotD as i with
  | none => none
  | some _ => match mk as with
    | none => none
    | some (kd, as1) => match slotD as1 i with
      | none => none
      | some kvs => match kOf kd with
        | none => none
        | some k => match valP kvs k with
          | none => none
          | some d => some (d, as1)
variable {i : Nat} {x : Str} {npos apos : Pos} {e f : Expr} {me mf : M PD}
theorem ev_get2 (hu : X.A.units + 1 < cLine) (he : EV X p1 .D e me) (hf : EV X p2 .D f mf)
    (hN : X.N[i]? = some x := by rfl) (hv : Vis X.env.scope x := by first | exact Or.inl rfl | exact Or.inr (Or.inl rfl) | exact Or.inr (Or.inr rfl)) (hd : (x == ("__debug__" : Str)) = false := by decide)
    (hcd : (x == ("__classdict__" : Str)) = false := by decide) (m : M2 X (.Name x npos) "get" apos e f pos := by exact ⟨rfl, rfl, rfl, rfl⟩) :
    EV X (p1 && p2) .D (.Call (.Attribute (.Name x npos) "get" apos) [e, f] [] pos) (mGet2 i me mf) := by
  obtain ⟨te, a1, a2⟩ := he.ok
  obtain ⟨tf, b1, b2⟩ := hf.ok
  refine ⟨fun z as r as' h => ?_, _, pe_dget2 hu (pe_var hN hv hd hcd) a1 b1 m, fun G H0 pin ow σ H as r as' Q S hm k => ?_⟩
  · have z' : p1 = true ∧ p2 = true := by simpa using z
    unfold mGet2 at h
    split at h
    · cases h
    split at h
    · cases h
    rename_i q1
    split at h
    · cases h
    rename_i q2
    split at h
    · cases h
    split at h
    · cases h
    cases h
    exact (hf.pur z'.2 _ _ _ q2).trans (he.pur z'.1 _ _ _ q1)
  · unfold mGet2 at hm
    split at hm
    · cases hm
    rename_i kv0 q0
    obtain ⟨a, ps0, hz, w0, hr0, _⟩ := S.atD q0
    split at hm
    · cases hm
    rename_i kd as1 q1
    split at hm
    · cases hm
    rename_i xd as2 q2
    split at hm
    · cases hm
    rename_i kvs q3
    split at hm
    · cases hm
    rename_i kk q4
    cases hm
    refine ⟨_, hz, a, rfl, .inl ⟨ps0, hr0⟩, ?_⟩
    refine a2 G H0 pin ow σ H as kd as1 _ S q1 fun v H1 ow1 st1 sm1 S1 lv1 => ?_
    refine b2 G H0 pin ow1 σ H1 as1 xd _ _ S1 q2 fun w H2 ow2 st2 sm2 S2 lv2 => ?_
    obtain ⟨b, ps, hz1, w1, hr, hp⟩ := S2.atD q3
    rw [hz] at hz1
    cases hz1
    have ek := kOf_dp lv1 q4
    refine ⟨valV ps kk, .inl ⟨ps, kk, hr, ek, rfl⟩, k _ H2 ow2 (st1.trans st2) (fun z => ?_) S2 ?_⟩
    · have z' : p1 = true ∧ p2 = true := by simpa using z
      exact (sm1 z'.1).trans (sm2 z'.2)
    · rcases val_pair hp kk with ⟨e1, e2⟩ | ⟨v', d', e1, e2, q⟩
      · rw [e1, e2]; exact lv2
      · rw [e1, e2]; exact q
theorem ev_get1 (hu : X.A.units + 1 < cLine) (he : EV X p .D e me)
    (hN : X.N[i]? = some x := by rfl) (hv : Vis X.env.scope x := by first | exact Or.inl rfl | exact Or.inr (Or.inl rfl) | exact Or.inr (Or.inr rfl)) (hd : (x == ("__debug__" : Str)) = false := by decide)
    (hcd : (x == ("__classdict__" : Str)) = false := by decide) (m : M1 X (.Name x npos) "get" apos e pos := by exact ⟨rfl, rfl, rfl, rfl⟩) :
    EV X p .D (.Call (.Attribute (.Name x npos) "get" apos) [e] [] pos) (mGet1 i me) := by
  obtain ⟨te, a1, a2⟩ := he.ok
  refine ⟨fun z as r as' h => ?_, _, pe_dget1 hu (pe_var hN hv hd hcd) a1 m, fun G H0 pin ow σ H as r as' Q S hm k => ?_⟩
  · unfold mGet1 mGet2 at h
    split at h
    · cases h
    split at h
    · cases h
    rename_i q1
    simp only [mPure] at h
    split at h
    · cases h
    split at h
    · cases h
    cases h
    exact he.pur z _ _ _ q1
  · unfold mGet1 mGet2 at hm
    split at hm
    · cases hm
    rename_i kv0 q0
    obtain ⟨a, ps0, hz, w0, hr0, _⟩ := S.atD q0
    split at hm
    · cases hm
    rename_i kd as1 q1
    simp only [mPure] at hm
    split at hm
    · cases hm
    rename_i kvs q3
    split at hm
    · cases hm
    rename_i kk q4
    cases hm
    refine ⟨_, hz, a, rfl, .inl ⟨ps0, hr0⟩, ?_⟩
    refine a2 G H0 pin ow σ H as kd _ _ S q1 fun v H1 ow1 st1 sm1 S1 lv1 => ?_
    obtain ⟨b, ps, hz1, w1, hr, hp⟩ := S1.atD q3
    rw [hz] at hz1
    cases hz1
    have ek := kOf_dp lv1 q4
    refine ⟨valV ps kk, .inl ⟨ps, kk, hr, ek, rfl⟩, k _ H1 ow1 st1 sm1 S1 ?_⟩
    rcases val_pair hp kk with ⟨e1, e2⟩ | ⟨v', d', e1, e2, q⟩
    · rw [e1, e2]; exact Dp.non
    · rw [e1, e2]; exact q
theorem ev_dix (hu : X.A.units + 1 < cLine) (he : EV X p .D e me)
    (hN : X.N[i]? = some x := by rfl) (hv : Vis X.env.scope x := by first | exact Or.inl rfl | exact Or.inr (Or.inl rfl) | exact Or.inr (Or.inr rfl)) (hd : (x == ("__debug__" : Str)) = false := by decide)
    (hcd : (x == ("__classdict__" : Str)) = false := by decide) (hs : NoSl e := by exact fun _ _ => rfl) :
    EV X p .D (.Subscript (.Name x npos) e pos) (mIx i me) := by
  obtain ⟨te, a1, a2⟩ := he.ok
  refine ⟨fun z as r as' h => ?_, _, pe_dget hu (pe_var hN hv hd hcd) a1 hs, fun G H0 pin ow σ H as r as' Q S hm k => ?_⟩
  · unfold mIx at h
    split at h
    · cases h
    split at h
    · cases h
    rename_i q1
    split at h
    · cases h
    split at h
    · cases h
    split at h
    · cases h
    cases h
    exact he.pur z _ _ _ q1
  · unfold mIx at hm
    split at hm
    · cases hm
    rename_i kv0 q0
    obtain ⟨a, ps0, hz, w0, hr0, _⟩ := S.atD q0
    split at hm
    · cases hm
    rename_i kd as1 q1
    split at hm
    · cases hm
    rename_i kvs q3
    split at hm
    · cases hm
    rename_i kk q4
    split at hm
    · cases hm
    rename_i d q5
    cases hm
    refine ⟨_, hz, ?_⟩
    refine a2 G H0 pin ow σ H as kd _ _ S q1 fun v H1 ow1 st1 sm1 S1 lv1 => ?_
    obtain ⟨b, ps, hz1, w1, hr, hp⟩ := S1.atD q3
    rw [hz] at hz1
    cases hz1
    have ek := kOf_dp lv1 q4
    rcases val_pair hp kk with ⟨e1, e2⟩ | ⟨v', d', e1, e2, q⟩
    · rw [e2] at q5; cases q5
    · rw [e2] at q5
      cases q5
      exact ⟨a, v', rfl, .inl ⟨ps, kk, hr, ek, e1.symm⟩, k _ H1 ow1 st1 sm1 S1 q⟩

/-! ### d[k] = v, as a target -/
def rSetD : V → V → V → Hp → (Hp → Prop) → Prop := fun o y v H Q => ∃ a H', o = .ref a ∧ DPut H a y v H' ∧ Q H'
theorem set_dict (hu : X.A.units + 1 < cLine) : PSet X rSetD := by
  intro pins s σ H o y v ov iv u Q I ro ri rv ⟨a, H', ho, g, q⟩
  subst ho
  cases ro
  exact d_setItem hu I g ri rv fun s' I' => ⟨H', I', q⟩
theorem SR.newO {K : Fg} {G H0 H : Hp} {pin : Nat → Addr} {ow : Ow} {σ : L2.St} {as : AS} {o o' : Obj} {a : Addr} {u : HO} (S : SR K G H0 pin ow σ H as) (e : slotO as i = some o) (hz : σ[i]? = some (some (.ref a))) (w : ow a = some (some i)) (h : ObjAt K (Hd ow G H0 H) (upd H a u) a o') :
    SR K G H0 pin ow σ (upd H a u) (Vl.setO as i o') ∧ Stp G H0 ow H ow (upd H a u) := by
  have S1 := S.tell (i := i) (s := .un) fun _ => trivial
  obtain ⟨S2, s2⟩ := S1.write (a := a) (u := u) (by rw [w]; exact nofun) fun j t ht q => by
    rw [w] at q
    cases q
    by_cases hl : i < as.length
    · rw [List.getElem?_set_self hl] at ht
      cases ht
      trivial
    · rw [List.getElem?_eq_none (by rw [List.length_set]; omega)] at ht; cases ht
  have ob := objM s2 rfl h
  refine ⟨?_, s2, fun b hb => ⟨hb, upd_ne fun q => ?_⟩, fun b hb => ?_⟩
  · unfold slotO at e
    unfold Vl.setO
    split at e
    · rename_i q
      simp only [q]
      have S3 := S2.tell (i := i) (s := .own o') fun _ => ⟨a, hz, w, ob⟩
      rw [List.set_set] at S3; exact S3
    · rename_i q
      simp only [q]
      obtain ⟨b, q1, w1, hp, _⟩ := S.slot i _ q
      rw [hz] at q1
      cases q1
      have S3 := S2.tell (i := i) (s := .io o') fun _ => ⟨a, hz, w, hp, ob⟩
      rw [List.set_set] at S3; exact S3
    · cases e
  · subst q; rw [w] at hb; cases hb
  · by_cases q : b = a
    · subst q; rw [upd_same]; exact nofun
    · rw [upd_ne q]; exact hb
def gDSet (i : Nat) (m : M PD) : PD → AS → Option AS := fun d as => match slotO as i with
  | none => none
  | some _ => match m as with
    | none => none
    | some (kd, as1) => match slotO as1 i with
      | some (.od kvs) => (match kOf kd with
        | none => none
        | some k => if kvs.length < sizeLine then some (setO as1 i (.od (putP kvs k d))) else none)
      | _ => none
theorem eh_dset (hu : X.A.units + 1 < cLine) (h : EV X p .D e me)
    (hN : X.N[i]? = some x := by rfl) (hv : Vis X.env.scope x := by first | exact Or.inl rfl | exact Or.inr (Or.inl rfl) | exact Or.inr (Or.inr rfl)) (hd : (x == ("__debug__" : Str)) = false := by decide)
    (hcd : (x == ("__classdict__" : Str)) = false := by decide)
    (hasg : ∀ v, assign (.Subscript (.Name x npos) e pos) X.env v = (do
      let c ← holding [v] (eval (.Name x npos) X.env)
      let b ← holding [v, c] (eval e X.env)
      standAt pos
      holding [v, c, b] (setItem c b v)
      release [v, c, b] []) := by intro _; rfl) : EH X (.Subscript (.Name x npos) e pos) (gDSet i me) := by
  obtain ⟨t, a1, a2⟩ := h.ok
  refine ⟨_, pg_sub (pe_var hN hv hd hcd) a1 (set_dict hu) hasg, fun G H0 pin ow σ H as v d as' Q S hd hg k => ?_⟩
  unfold gDSet at hg
  split at hg
  · cases hg
  rename_i o0 q0
  obtain ⟨a, hz, w0, _⟩ := S.atO q0
  split at hg
  · cases hg
  rename_i kd as1 q1
  split at hg
  · rename_i kvs q2
    split at hg
    · cases hg
    rename_i kk q3
    split at hg
    · rename_i hlen
      cases hg
      refine ⟨_, hz, ?_⟩
      refine a2 G H0 pin ow σ H as _ _ _ S q1 fun w H1 ow1 st sm S1 lv => ?_
      obtain ⟨b, hz1, w1, ps, hp, hpp⟩ := S1.atO q2
      rw [hz] at hz1
      cases hz1
      have ek := kOf_dp lv q3
      obtain ⟨S2, st2⟩ := S1.newO (u := .dK (putK ps kk v)) q2 hz w1 (o' := .od (putP kvs kk d)) ⟨_, upd_same, put_pair hpp (dpM st.dur _ _ hd)⟩
      exact ⟨a, _, rfl, .inl ⟨ps, kk, hp, ek, by rw [hpp.length]; exact hlen, rfl⟩, k σ _ ow1 (st.dur.trans st2.dur) S2⟩
    · cases hg
  · cases hg

/-! ### a comprehension over the keys of a dict of one's own -/
def mKeys (i : Nat) : M (List PD) := fun as => match as[i]? with
  | some (.own (.fk kvs)) => some (kvs.map fun q => ofK q.1, as)
  | _ => none
theorem dpa_keys {K : Fg} {G G' : Hp} : ∀ {ps : List (Key × V)} {kvs : List (Key × PD)}, Paired (PR K G) ps kvs → DpAll K G' (ps.map fun q => kV q.1) (kvs.map fun q => ofK q.1)
  | _, _, .nil => .nil
  | _, _, .cons h t => by
    refine .cons ?_ (dpa_keys t)
    show Dp K G' (kV _) (ofK _)
    rw [h.1]
    exact ofK_dp _
theorem ei_keys {tg : Expr} (hN : X.N[i]? = some x := by rfl) (hv : Vis X.env.scope x := by first | exact Or.inl rfl | exact Or.inr (Or.inl rfl) | exact Or.inr (Or.inr rfl)) (hd : (x == ("__debug__" : Str)) = false := by decide)
    (hcd : (x == ("__classdict__" : Str)) = false := by decide) : EI X true .I tg (.Name x npos) (mKeys i) := by
  refine ⟨fun _ as r as' h => ?_, _, pi_keys (pe_var hN hv hd hcd), fun G H0 pin ow σ H as ds as' R S hm k => ?_⟩
  · unfold mKeys at h
    split at h <;> cases h
    rfl
  · unfold mKeys at hm
    split at hm
    · rename_i kvs q
      cases hm
      obtain ⟨a, hz, w, o, ps, hp, hpp⟩ := S.slot i _ q
      refine ⟨_, hz, a, o, rfl, .inl ⟨ps, hp, ?_⟩⟩
      refine k _ H ow (ps.map fun q => kV q.1) (fun H2 => H2 a = some (.frz o (.dK ps))) Stp.refl (fun _ => Same.refl _) S (fun H2 h2 => ⟨fun j y e => ?_, fun j hj => ⟨h2, by simpa using hj⟩⟩) (dpa_keys hpp) fun H2 _ h2 => h2 nofun a _ hp
      have hj : j < ps.length := by
        have := (List.getElem?_eq_some_iff.mp e).1
        simpa using this
      refine ⟨⟨h2, hj⟩, fun z H' hy => ⟨hy.1, ?_⟩⟩
      obtain ⟨kk, vv, e2, rfl⟩ := hy.2
      rw [List.getElem?_map, e2] at e
      exact (Option.some.inj e)
    · cases hm
def mLcD (i : Nat) (vs : List Nat) (g : PD → AS → Option AS) (c : M Bool) (el : M PD) : M Res := fun as => match as[i]? with
  | some (.own (.od kvs)) => match mLc vs (mKeys i) g c el (as.set i (.own (.fk kvs))) with
    | none => none
    | some (r, _) => some (r, as)
  | _ => none
theorem mLc_pur {vs : List Nat} {mi : M (List PD)} {g : PD → AS → Option AS} {mc : M Bool} {el : M PD} (hi : ∀ as r as', mi as = some (r, as') → as' = as) (pg : ∀ d as as', g d as = some as' → as'.length = as.length ∧ ∀ j, j ∉ vs → as'[j]? = as[j]?)
    (pt : ∀ as r as', mc as = some (r, as') → as' = as) (pv : ∀ as r as', el as = some (r, as') → as' = as) {as : AS} {r : Res} {as' : AS} (h : mLc vs mi g mc el as = some (r, as')) : as' = as ∧ ∃ ys, r = .obj (.ol ys) := by
  unfold mLc at h
  split at h
  · cases h
  rename_i ds as1 q
  have := hi _ _ _ q
  subst this
  split at h
  · cases h
  rename_i ys as2 q2
  have := lcL_pure pg pt pv ds as1 ys as2 q2
  subst this
  split at h
  · cases h
    exact ⟨back_clr _ _, _, rfl⟩
  · cases h
theorem ef_lcD {elt tg : Expr} {ifs : List Expr} {scope : Scope} {g : PD → AS → Option AS} {mc : M Bool} {el : M PD} (own : List (Str × Nat)) (hc : X.calm = true) (hNd : X.N.Nodup) (hb : blkC X.N X.env.scope scope own = true)
    (hg : ∀ (s : Shared) (H : Hp) (C : Addr) (cl : List (Str × Addr)) (fp : List Addr), EG (X.blk s H scope (compEnvC scope cl C X.env) fp) tg (own.map (·.2)) g)
    (ht : ∀ (s : Shared) (H : Hp) (C : Addr) (cl : List (Str × Addr)) (fp : List Addr), ETs (X.blk s H scope (compEnvC scope cl C X.env) fp) true ifs mc)
    (he : ∀ (s : Shared) (H : Hp) (C : Addr) (cl : List (Str × Addr)) (fp : List Addr), EV (X.blk s H scope (compEnvC scope cl C X.env) fp) true .D elt el)
    (hN : X.N[i]? = some x := by rfl) (hv : Vis X.env.scope x := by first | exact Or.inl rfl | exact Or.inr (Or.inl rfl) | exact Or.inr (Or.inr rfl)) (hd : (x == ("__debug__" : Str)) = false := by decide)
    (hcd : (x == ("__classdict__" : Str)) = false := by decide)
    (hs : ∀ z, foldedSetIterable (.Name x npos) X.env z = pure z := by intro _; rfl) : EF X true (.ListComp elt [{ target := tg, iter := .Name x npos, ifs := ifs, is_async := 0 }] scope pos) (mLcD i (own.map (·.2)) g mc el) := by
  have pg := (hg X.s_0 X.H_0 0 [] []).loc
  have pt := (ht X.s_0 X.H_0 0 [] []).pur
  have pv := (he X.s_0 X.H_0 0 [] []).pur
  have hi : EI X true .I tg (.Name x npos) (mKeys i) := ei_keys hN hv hd hcd
  obtain ⟨t, a1, a2⟩ := lc_sound (vs := own.map (·.2)) (g := g) hi (.inr ⟨rfl, rfl⟩) pt pv
  refine ⟨fun _ as r as' h => ?_, _, pe_lock (pe_lc (own := own) (g := rdG X.K (own.map (·.2)) g) (tt := rdT X.K true mc) (te := rdV X.K true .D el) hc hNd a1 (blkOk_by hb) (fun s H C cl fp => (hg s H C cl fp).can) (fun s H C cl fp => (ht s H C cl fp).ok) (fun s H C cl fp => (he s H C cl fp).can) hs), fun G H0 pin ow σ H as r as' Q S hm k => ?_⟩
  · unfold mLcD at h
    split at h
    · split at h
      · cases h
      · cases h; rfl
    · cases h
  · unfold mLcD at hm
    split at hm
    · rename_i kvs q
      split at hm
      · cases hm
      rename_i r' as2 q2
      cases hm
      obtain ⟨a, hz, w, ps, hp, hpp⟩ := S.slot i _ q
      refine ⟨a, .dK ps, hp, trivial, fun od => ?_⟩
      have so : slotO as i = some (.od kvs) := by unfold slotO; rw [q]
      obtain ⟨S1, st1⟩ := S.newO (u := .frz od (.dK ps)) so hz w (o' := .fk kvs) ⟨od, ps, upd_same, hpp⟩
      have e1 : setO as i (.fk kvs) = as.set i (.own (.fk kvs)) := by unfold setO; rw [q]
      rw [e1] at S1
      refine a2 G H0 pin ow σ _ _ _ as2 _ S1 q2 fun v H2 ow2 st2 sm2 S2 fr => ?_
      have sm := sm2 rfl
      have ha : H2 a = some (.frz od (.dK ps)) := sm a _ upd_same
      refine ⟨ha, ?_⟩
      have sb : Same H (upd H2 a (.dK ps)) := fun b z e => by
        by_cases hb : b = a
        · subst hb; rw [upd_same, ← hp, e]
        · rw [upd_ne hb]; exact sm b z (by rw [upd_ne hb]; exact e)
      obtain ⟨e2, ys, er⟩ := mLc_pur (hi.pur rfl) pg (pt rfl) (pv rfl) q2
      subst er
      subst e2
      have hil : i < as.length := (List.getElem?_eq_some_iff.mp q).1
      have so2 : slotO (as.set i (.own (.fk kvs))) i = some (.fk kvs) := by
        unfold slotO
        rw [List.getElem?_set_self hil]
      obtain ⟨a', hz2, w2, _⟩ := S2.atO so2
      rw [hz] at hz2
      cases hz2
      obtain ⟨S3, st3⟩ := S2.newO (u := .dK ps) so2 hz w2 (o' := .od kvs) ⟨ps, upd_same, Paired.mapP hpp fun _ _ z => ⟨z.1, dpM (st1.dur.trans st2.dur) _ _ z.2⟩⟩
      have e3 : setO (as.set i (.own (.fk kvs))) i (.od kvs) = as := by
        unfold setO
        rw [List.getElem?_set_self hil]
        show (as.set i _).set i _ = as
        rw [List.set_set]
        refine List.ext_getElem? fun j => ?_
        by_cases hj : i = j
        · subst hj; rw [List.getElem?_set_self hil, q]
        · rw [List.getElem?_set_ne hj]
      rw [e3] at S3
      obtain ⟨c, rfl, c1, c2, vs', hv', hd'⟩ := fr
      have hca : c ≠ a := fun z => by subst z; rw [w2] at c2; cases c2
      exact k _ _ ow2 (st1.trans (st2.trans st3)) (fun _ => sb) S3 ⟨c, rfl, c1, c2, vs', by rw [upd_ne hca]; exact hv', dpaM st3.dur _ _ hd'⟩
    · cases hm
end
end Vl

-- V15
set_option Elab.async false
set_option linter.all false
set_option maxRecDepth 100000
set_option maxHeartbeats 4000000
namespace Vl
open PySem L2
section
variable {X : Cx} {e : Expr} {p : Bool} {m : M PD} {n : M Res}
theorem EV.uI (h : EV X p .D e m) : EV X p .I e m := h.up
theorem EV.uB (h : EV X p .D e m) : EV X p .B e m := h.up
theorem EF.vD (h : EF X p e n) : EV X p .D e (mV n) := h.v
theorem EF.vI (h : EF X p e n) : EV X p .I e (mV n) := h.v
theorem EF.vB (h : EF X p e n) : EV X p .B e (mV n) := h.v
end
end Vl

-- V16
set_option Elab.async false
set_option linter.all false
set_option maxRecDepth 100000
set_option maxHeartbeats 4000000
/-! products of lists and tuples, any count -/
namespace L2
open PySem PySem.Spec PyProof.Rows
theorem list_mulWd (l : Addr) (items : Array Value) (n : Nat) (dd : Option Addr) (sl : Array (Option Value)) (x : Int) (u : Tok) (hc0 : ¬(!Builtin.List.listFitsIndex x) = true) (hc1 : ¬items.size * x.toNat > (2 ^ 63 - 1) / 8) (hc2 : ¬Builtin.List.listTooLong (items.size * x.toNat) = true) :
    Meets (Builtin.«list.__mul__» ⟨[.ref l, .int x u], []⟩) (fun _ R s => s.heap.get? l = some { cls := .type "list", dict := dd, data := .seq items n, slots := sl } ∧ R (.ok (.ret (Value.ref s.heap.objs.size))) { s with heap := s.heap.push { cls := Value.type "list", data := Data.seq (List.foldl (fun x1 x2 => x1 ++ x2) #[] (List.replicate (if items.isEmpty = true then 0 else x.toNat) items)) }, toks := s.toks }) :=
  .of_wp fun prog w A R s h => by
    obtain ⟨hp, g, d, tk, os⟩ := s; obtain ⟨hl, h⟩ := h
    have hsz := PySem.AutoListH.joined_fits hc2
    have f1 := AutoSeq1.idx_int
    wp_walk using wpAny_loadPart' hl; refine wpAny_ite_false (decide_eq_false (Nat.not_lt.mpr hsz)) ?_; wp_walk using wpAny_loadPart' hl; exact ⟨_, rfl, h⟩
theorem int_rmul_listd (a : Int) (t : Tok) (l : Addr) (items : Array Value) (n : Nat) (dd : Option Addr) (sl : Array (Option Value)) :
    Meets (Builtin.«int.__rmul__» ⟨[.int a t, .ref l], []⟩) (fun _ R s => s.heap.get? l = some { cls := .type "list", dict := dd, data := .seq items n, slots := sl } ∧ R (.ok (.ret Value.notImplemented)) s) :=
  .of_wp fun prog w A R s h => by obtain ⟨hp, g, d, tk, os⟩ := s; obtain ⟨hl, h⟩ := h; wp_walk using wpAny_loadPart' hl; exact ⟨_, rfl, h⟩
theorem tuple_mulSame (l : Addr) (items : Array Value) (n : Nat) (dd : Option Addr) (sl : Array (Option Value)) (x : Int) (u : Tok) (c0 : (decide (x < -(2 ^ 63)) || decide (x ≥ 2 ^ 63)) = false) (c1 : (items.isEmpty || x == 1) = true) :
    Meets (Builtin.«tuple.__mul__» ⟨[.ref l, .int x u], []⟩) (fun _ R s => s.heap.get? l = some { cls := .type "tuple", dict := dd, data := .seq items n, slots := sl } ∧
      R (.ok (.ret (Value.ref l))) { s with heap := s.heap, toks := s.toks }) :=
  .of_wp fun prog w A R s h => by
    obtain ⟨hp, g, d, tk, os⟩ := s
    obtain ⟨hl, h⟩ := h
    have f1 := AutoSeq1.idx_int
    wp_walk using wpAny_loadPart' hl
    repeat (first
      | (refine wpAny_ite_false (decide_eq_false (by rw [c0]; exact Bool.false_ne_true)) ?_; wp_walk using wpAny_loadPart' hl)
      | (refine wpAny_ite_true (decide_eq_true (by rw [c1])) ?_; wp_walk using wpAny_loadPart' hl))
    exact ⟨_, rfl, h⟩
theorem tuple_mulNil (l : Addr) (items : Array Value) (n : Nat) (dd : Option Addr) (sl : Array (Option Value)) (x : Int) (u : Tok) (c0 : (decide (x < -(2 ^ 63)) || decide (x ≥ 2 ^ 63)) = false) (c1 : (items.isEmpty || x == 1) = false) (c2 : (decide (x ≤ 0) || items.isEmpty) = true) :
    Meets (Builtin.«tuple.__mul__» ⟨[.ref l, .int x u], []⟩) (fun _ R s => s.heap.get? l = some { cls := .type "tuple", dict := dd, data := .seq items n, slots := sl } ∧
      R (.ok (.ret (Value.ref s.heap.objs.size))) { s with heap := s.heap.push { cls := Value.type "tuple", data := Data.seq #[] }, toks := s.toks }) :=
  .of_wp fun prog w A R s h => by
    obtain ⟨hp, g, d, tk, os⟩ := s
    obtain ⟨hl, h⟩ := h
    have f1 := AutoSeq1.idx_int
    wp_walk using wpAny_loadPart' hl
    repeat (first
      | (refine wpAny_ite_false (decide_eq_false (by rw [c0]; exact Bool.false_ne_true)) ?_; wp_walk using wpAny_loadPart' hl)
      | (refine wpAny_ite_false (decide_eq_false (by rw [c1]; exact Bool.false_ne_true)) ?_; wp_walk using wpAny_loadPart' hl)
      | (refine wpAny_ite_true (decide_eq_true (by rw [c2])) ?_; wp_walk using wpAny_loadPart' hl))
    exact ⟨_, rfl, h⟩
end L2
namespace Vl
open PySem L2 PyProof.Rows
def rRepLL (K : Fg) : R2 := fun x y H Q => ∃ l k xs, x = .ref l ∧ y = .int k ∧ SqL K H l xs ∧ -(2 ^ 63) ≤ k ∧ k < 2 ^ 63 ∧ xs.length * k.toNat ≤ sizeLine ∧ ∀ p, H p = none → Q (.ref p) (upd H p (.lst (List.replicate k.toNat xs).flatten))
theorem op_repLL {X : Cx} : OpR X (binaryOp .Mult) (rRepLL X.K) := by
  intro pins s σ H x y v u Q I rx ry h
  obtain ⟨l, k, xs, rfl, rfl, hH, h1, h2, hz, q⟩ := h
  cases rx
  obtain ⟨t, rfl⟩ := ry
  obtain ⟨its, r, p1, _⟩ := I.list hH
  obtain ⟨⟨c1, d1, t1, s1⟩, e, hc1, n, ht1⟩ := p1.isList
  simp only at hc1 ht1
  subst hc1 ht1
  have hlen : its.toArray.size * k.toNat ≤ sizeLine := by rw [List.size_toArray, ← r.length]; exact hz
  have hcap : ¬ its.toArray.size * k.toNat > (2 ^ 63 - 1) / 8 := by
    have : (sizeLine : Nat) ≤ (2 ^ 63 - 1) / 8 := by decide
    omega
  have hfit : ¬ (!Builtin.List.listFitsIndex k) = true := by
    rw [fitsIndex_both h1 h2]
    exact Bool.false_ne_true
  have hlong : ¬ Builtin.List.listTooLong (its.toArray.size * k.toNat) = true := by
    rw [notLongL hlen]
    exact Bool.false_ne_true
  have hnew : List.foldl (fun x1 x2 => x1 ++ x2) #[] (List.replicate (if its.toArray.isEmpty = true then 0 else k.toNat) its.toArray) = (List.replicate k.toNat its).flatten.toArray := by
    have f0 : ∀ m : Nat, List.foldl (fun x1 x2 => x1 ++ x2) #[] (List.replicate m its.toArray) = (List.replicate m its).flatten.toArray := fun m => by
      have := foldl_rep its m []
      rw [List.nil_append] at this
      exact this
    rw [f0]
    cases its with
    | nil => simp
    | cons a r' => rw [if_neg (by simp)]
  refine wpAny_binaryOp_repeat_ref (T := "list") (U := "int") (by decide) ⟨_, e, rfl⟩ (fun s' => typeIs_int s' k t) noFill_list_mul PySem.F.fills_int_mul PySem.F.slot_int_rmul repeat_list PySem.F.slot_int_index.lookup
    (call_meets PySem.F.slot_int_rmul (typeIs_int s k t) PySem.F.entry_int_rmul (PySem.F.args_int_rmul_2 _ _) (int_rmul_listd k t l its.toArray n d1 s1)
      ⟨e, rfl, ⟨_, e, rfl⟩, call_meets PySem.F.slot_list_mul ⟨_, e, rfl⟩ PySem.F.entry_list_mul (PySem.F.args_list_mul_2 _ _) (list_mulWd l its.toArray n d1 s1 k t hfit hcap hlong) ⟨e, ?_⟩⟩)
  rw [hnew]
  exact ⟨.ref _, _, I.lnew (t' := s.toks) (r.rep k.toNat) (by rw [PyProof.Rows.lm_len_rep_flat, Nat.mul_comm]; exact hz), rfl, q _ I.fresh⟩
/-- tuple * int, any int -/
def rRepTT (K : Fg) : R2 := fun x y H Q => ∃ l k xs, x = .ref l ∧ y = .int k ∧ SqT K H l xs ∧ -(2 ^ 63) ≤ k ∧ k < 2 ^ 63 ∧ xs.length * k.toNat ≤ 1000000 ∧ xs.length ≤ 1000 ∧ k ≤ 1000 ∧ ((xs = [] ∨ k = 1) → Q (.ref l) H) ∧ (xs ≠ [] → k ≠ 1 → ∀ p, H p = none → Q (.ref p) (upd H p (.tup (List.replicate k.toNat xs).flatten)))
theorem op_repTT {X : Cx} : OpR X (binaryOp .Mult) (rRepTT X.K) := by
  intro pins s σ H x y v u Q I rx ry h
  obtain ⟨l, k, xs, rfl, rfl, hT, h1, h2, hz, hz1, hz2, q1, q2⟩ := h
  by_cases h3 : xs ≠ [] ∧ 2 ≤ k
  · exact op_repT pins s σ H _ _ v u Q I rx ry ⟨l, k, xs, rfl, rfl, hT, h3.1, h3.2, hz2, hz1, q2 h3.1 (by omega)⟩
  cases rx
  obtain ⟨t, rfl⟩ := ry
  obtain ⟨its, r, ⟨⟨cls, dd, data, sl⟩, ho, hc, n, hd⟩, hs⟩ := I.tuple hT
  simp only at hc hd
  subst hc hd
  have hle : its.length = xs.length := r.length.symm
  have c0 : (decide (k < -(2 ^ 63)) || decide (k ≥ 2 ^ 63)) = false := by
    rw [decide_eq_false (by omega), decide_eq_false (by omega)] <;> rfl
  by_cases h4 : xs = [] ∨ k = 1
  · have c1 : (its.toArray.isEmpty || k == 1) = true := by
      rcases h4 with h4 | h4
      · subst h4; cases r; rfl
      · subst h4; simp
    exact wpAny_binaryOp_repeat_ref (T := "tuple") (U := "int") (by decide) ⟨_, ho, rfl⟩ (fun s' => typeIs_int s' k t) noFill_tuple_mul PySem.F.fills_int_mul PySem.F.slot_int_rmul repeat_tuple PySem.F.slot_int_index.lookup
      (call_meets PySem.F.slot_int_rmul (typeIs_int s k t) PySem.F.entry_int_rmul (PySem.F.args_int_rmul_2 _ _) (int_rmul_tuple k t l its.toArray n dd sl)
        ⟨ho, rfl, ⟨_, ho, rfl⟩, call_meets PySem.F.slot_tuple_mul ⟨_, ho, rfl⟩ PySem.F.entry_tuple_mul (PySem.F.args_tuple_mul_2 _ _) (tuple_mulSame l its.toArray n dd sl k t c0 c1) ⟨ho, .ref l, H, I, rfl, q1 h4⟩⟩)
  · have hx : xs ≠ [] := fun e => h4 (.inl e)
    have hk1 : k ≠ 1 := fun e => h4 (.inr e)
    have hk : k ≤ 0 := by
      have : ¬ 2 ≤ k := fun e => h3 ⟨hx, e⟩
      omega
    have hn : its ≠ [] := fun e => hx (by
      rw [e] at hle
      exact List.eq_nil_of_length_eq_zero hle.symm)
    have hi : its.toArray.isEmpty = false := by
      cases its with
      | nil => exact absurd rfl hn
      | cons a b => rfl
    have c1 : (its.toArray.isEmpty || k == 1) = false := by
      rw [hi, Bool.false_or]
      exact beq_eq_false_iff_ne.mpr hk1
    have c2 : (decide (k ≤ 0) || its.toArray.isEmpty) = true := by
      rw [hi, Bool.or_false]
      exact decide_eq_true hk
    refine wpAny_binaryOp_repeat_ref (T := "tuple") (U := "int") (by decide) ⟨_, ho, rfl⟩ (fun s' => typeIs_int s' k t) noFill_tuple_mul PySem.F.fills_int_mul PySem.F.slot_int_rmul repeat_tuple PySem.F.slot_int_index.lookup
      (call_meets PySem.F.slot_int_rmul (typeIs_int s k t) PySem.F.entry_int_rmul (PySem.F.args_int_rmul_2 _ _) (int_rmul_tuple k t l its.toArray n dd sl)
        ⟨ho, rfl, ⟨_, ho, rfl⟩, call_meets PySem.F.slot_tuple_mul ⟨_, ho, rfl⟩ PySem.F.entry_tuple_mul (PySem.F.args_tuple_mul_2 _ _) (tuple_mulNil l its.toArray n dd sl k t c0 c1 c2) ⟨ho, ?_⟩⟩)
    have q3 := q2 hx hk1
    rw [show k.toNat = 0 by omega] at q3
    refine ⟨.ref s.heap.objs.size, _, I.laid (t' := s.toks) (o := .tup []) (fun b ob q => Heap.get?_push_of_some _ q) (Nat.le_refl _) ?_, rfl, q3 _ (I.hok.fresh (Nat.le_refl _))⟩
    exact ⟨Nat.zero_le _, [], .nil, IsTup.new _ _⟩
/-- a product: of ints; of a list or a tuple and an int -/
def fMulA : PD → PD → Option Res
  | .int i, .int j => (iMul i j).map .val
  | .list ds, .int k => if -(2 ^ 63) ≤ k ∧ k < 2 ^ 63 ∧ ds.length * k.toNat ≤ sizeLine then some (.obj (.ol (List.replicate k.toNat ds).flatten)) else none
  | .tuple ds, .int k => if -(2 ^ 63) ≤ k ∧ k ≤ 1000 ∧ ds.length ≤ 1000 then some (.val (.tuple (List.replicate k.toNat ds).flatten)) else none
  | _, _ => none
theorem rep_nil {α : Type} : ∀ n : Nat, (List.replicate n ([] : List α)).flatten = []
  | 0 => rfl
  | n + 1 => by rw [List.replicate_succ, List.flatten_cons, rep_nil n]; rfl
theorem r2o_mulA {K : Fg} : R2O K (fun x y H Q => (rI CMul fun i j => .int (i * j)) x y H Q ∨ (rI CMulW fun i j => .int (i * j)) x y H Q ∨ rRepTT K x y H Q ∨ rRepLL K x y H Q) fMulA := by
  intro G H x y dx dy res s hx hy hf Q k
  unfold fMulA at hf
  split at hf
  · rename_i i j
    unfold iMul at hf
    split at hf
    · rename_i hc
      cases hf
      cases hx
      cases hy
      unfold mulOk at hc
      simp only [Bool.or_eq_true, decide_eq_true_eq] at hc
      rcases hc with (hc | hc) | hc
      · exact .inl ⟨_, _, rfl, rfl, .inl (by omega), k _ H (Same.refl H) (ok_nil (Dp.int _))⟩
      · exact .inl ⟨_, _, rfl, rfl, .inr (by omega), k _ H (Same.refl H) (ok_nil (Dp.int _))⟩
      · exact .inr (.inl ⟨_, _, rfl, rfl, hc, k _ H (Same.refl H) (ok_nil (Dp.int _))⟩)
    · cases hf
  · rename_i ds j
    split at hf
    · rename_i hc
      cases hf
      obtain ⟨l, xs, rfl, q1, r1⟩ := hx
      cases hy
      have e1 := dpa_len r1
      exact .inr (.inr (.inr ⟨l, j, xs, rfl, rfl, q1, hc.1, hc.2.1, by rw [e1]; exact hc.2.2, fun q hq => k _ _ (upd_grow hq) (ok_lst s hq (dpa_rep r1 _))⟩))
    · cases hf
  · rename_i ds j
    split at hf
    · rename_i hc
      cases hf
      cases hx with
      | @tup l xs _ q1 r1 =>
      cases hy
      have e1 := dpa_len r1
      refine .inr (.inr (.inl ⟨l, j, xs, rfl, rfl, sqtM s q1, hc.1, by omega, ?_, by omega, hc.2.1, fun h => ?_, fun _ _ q hq => k _ _ (upd_grow hq) (ok_tup s hq (dpa_rep r1 _))⟩))
      · have a1 : xs.length * j.toNat ≤ 1000 * 1000 := Nat.mul_le_mul (by omega) (by omega)
        omega
      · have e : (List.replicate j.toNat ds).flatten = ds := by
          rcases h with h | h
          · subst h
            cases r1
            exact rep_nil _
          · subst h
            show (List.replicate 1 ds).flatten = ds
            simp
        rw [e] at k
        exact k _ H (Same.refl H) (ok_val s (Dp.tup q1 r1))
    · cases hf
  · cases hf
section
variable {X : Cx} {a b : Expr} {p p1 p2 : Bool} {l l1 : Lv} {ma mb : M PD} {pos : Pos}
theorem ef_mulA (ha : EV X p1 l a ma) (hb : EV X p2 l1 b mb) (hs : l = .D ∨ p2 = true := by first | exact .inr rfl | exact .inl rfl) (hl : l ≠ .B := by nofun) (hl1 : l1 ≠ .B := by nofun) : EF X (p1 && p2) (.BinOp a .Mult b pos) (m2 fMulA ma mb) := ef_op (op_mul.or (op_mulW.or (op_repTT.or op_repLL))) r2o_mulA ha hb hs hl hl1
end
end Vl

-- V17
set_option Elab.async false
set_option linter.all false
set_option maxRecDepth 100000
set_option maxHeartbeats 4000000
/-! x op= e on a name; chained comparisons; exclusive or -/
namespace Vl
open PySem L2 PyProof.Rows
/-! ### x op= e, x a lasting value -/
def sAug (i : Nat) (f : PD → PD → Option Res) (m : M PD) : MS := fun as => match as[i]? with
  | some (.dur d) => match m as with
    | none => none
    | some (y, as1) => match f d y with
      | none => none
      | some (.val z) => some (.nx, as1.set i (.dur z))
      | some (.obj o) => some (.nx, as1.set i (.own o))
  | _ => none
section
variable {X : Cx}
theorem es_aug {i : Nat} {x : Str} {e : Expr} {op : Operator} {r : R2} {f : PD → PD → Option Res} {m : M PD} {pos pos' : Pos} {p : Bool} {l : Lv} (ho : OpR X (inplaceOp op) r) (hr : R2O X.K r f) (hN : X.N.Nodup) (he : EV X p l e m) (hl : l ≠ .B := by nofun) (hi : X.N[i]? = some x := by rfl) (hx : L2.Loc X.env.scope x := by first | exact Or.inl rfl | exact Or.inr rfl)
    (hf : X.fn x = true ∨ X.env.scope.names.lookup x = some .local := by first | exact .inl rfl | exact .inr rfl) : ES X (.AugAssign (.Name x pos') op e pos) (sAug i f m) := by
  obtain ⟨t, a1, a2⟩ := he.ok
  refine ⟨_, ps_aug hN hi hx a1 (ti := r) (fun pins s σ H v y u w Q I r1 r2 h => ho pins s σ H v y u w Q I r1 r2 h) hf, fun G H0 pin ow σ H as c as' D S hm k => ?_⟩
  unfold sAug at hm
  split at hm
  · rename_i d e0
    split at hm
    · cases hm
    · rename_i y as1 q
      have hz := S.slot i _ e0
      obtain ⟨v, ev, dv⟩ := hz
      refine ⟨v, ev, a2 G H0 pin ow σ H as y as1 _ S q fun w H1 ow1 st sm S1 lv => ?_⟩
      have dv1 : It X.K H1 (Hd ow1 G H0 H1) v d := itM S1.hd (Same.refl _) (it_dp.mpr (dpM st.dur _ _ dv))
      split at hm
      · cases hm
      · rename_i z q3
        cases hm
        refine hr _ _ _ _ _ _ _ S1.hd dv1 (lv_it S1.hd hl lv) q3 _ fun z' H2 s2 okr => ?_
        refine fin_o (Q := fun z H => D.nx (σ.set i (some z)) H) S1 st sm s2 okr fun v3 H3 ow3 st3 sm3 S3 fr => ?_
        obtain ⟨S4, st4⟩ := S3.setD (i := i) fr
        exact k _ _ _ (st3.dur.trans st4.dur) S4
      · rename_i o q3
        cases hm
        refine hr _ _ _ _ _ _ _ S1.hd dv1 (lv_it S1.hd hl lv) q3 _ fun z' H2 s2 okr => ?_
        refine fin_o (Q := fun z H => D.nx (σ.set i (some z)) H) S1 st sm s2 okr fun v3 H3 ow3 st3 sm3 S3 fr => ?_
        obtain ⟨a, rfl, w', w1, ob⟩ := fr
        obtain ⟨S4, s4⟩ := S3.setO (i := i) w1 ob
        exact k _ _ _ (st3.dur.trans s4) S4
  · cases hm
/-! the sums: ints, texts, tuples -/
theorem noI_tuple_add : typeLookup (.type "tuple") (dunderI "add") = pure none := by rw [typeLookup_type, builtinLookup_eq_fast]; kernel_rfl
theorem iop_catA : OpR X (inplaceOp .Add) (rCatA X.K) := by
  intro pins s σ H x y v u Q I rx ry h
  obtain ⟨a, b, xs, ys, rfl, rfl, ha, hb, hz, q0, q1, q2⟩ := h
  cases rx
  cases ry
  obtain ⟨its, r1, p1, _⟩ := I.tuple ha
  obtain ⟨its2, r2, p2, _⟩ := I.tuple hb
  obtain ⟨⟨cls, dd, data, sl⟩, ho, hc, n, hd⟩ := id p1
  obtain ⟨⟨cls2, dd2, data2, sl2⟩, ho2, hc2, n2, hd2⟩ := id p2
  simp only at hc hd hc2 hd2
  subst hc hd hc2 hd2
  have go : wpAny (model X.prog X.w) X.A (call (.builtin "tuple.__add__") [.ref a, .ref b]) (EP X pins σ Q) X.xe s → wpAny (model X.prog X.w) X.A (inplaceOp .Add (.ref a) (.ref b)) (EP X pins σ Q) X.xe s :=
    fun hc => inplaceOp_concat ⟨_, ho, rfl⟩ ⟨_, ho2, rfl⟩ noI_tuple_add noFill_tuple_add seq_tuple_add hc
  have e1 : its.length = xs.length := r1.length.symm
  have e2 : its2.length = ys.length := r2.length.symm
  by_cases hx : xs = []
  · subst hx
    cases r1
    exact go (call_meets PySem.F.slot_tuple_add ⟨_, ho, rfl⟩ PySem.F.entry_tuple_add (PySem.F.args_tuple_add_2 _ _) (tuple_addW0 a b ([] : List Value).toArray its2.toArray n n2 dd dd2 sl sl2 (by simp)) ⟨ho, ho2, .ref b, H, I, rfl, q0 rfl⟩)
  · have hi : ¬ its.toArray.isEmpty = true := by
      intro e
      cases its with
      | nil => exact hx (List.eq_nil_of_length_eq_zero e1.symm)
      | cons _ _ => simp at e
    by_cases hy : ys = []
    · subst hy
      cases r2
      exact go (call_meets PySem.F.slot_tuple_add ⟨_, ho, rfl⟩ PySem.F.entry_tuple_add (PySem.F.args_tuple_add_2 _ _) (tuple_addW1 a b its.toArray ([] : List Value).toArray n n2 dd dd2 sl sl2 hi (by simp)) ⟨ho, ho2, .ref a, H, I, rfl, q1 hx rfl⟩)
    · have hi2 : ¬ its2.toArray.isEmpty = true := by
        intro e
        cases its2 with
        | nil => exact hy (List.eq_nil_of_length_eq_zero e2.symm)
        | cons _ _ => simp at e
      refine go (call_meets PySem.F.slot_tuple_add ⟨_, ho, rfl⟩ PySem.F.entry_tuple_add (PySem.F.args_tuple_add_2 _ _) (tuple_addW2 a b its.toArray its2.toArray n n2 dd dd2 sl sl2 hi hi2 (by rw [List.size_toArray, List.size_toArray]; omega)) ⟨ho, ho2, ?_⟩)
      rw [show its.toArray ++ its2.toArray = (its ++ its2).toArray by simp]
      refine ⟨.ref s.heap.objs.size, _, I.laid (t' := s.toks) (o := .tup (xs ++ ys)) (fun b ob q => Heap.get?_push_of_some _ q) (Nat.le_refl _) ?_, rfl, q2 hx hy _ (I.hok.fresh (Nat.le_refl _))⟩
      exact ⟨by rw [List.length_append]; exact hz, _, r1.append r2, IsTup.new _ _⟩
def fAugAdd : PD → PD → Option Res
  | .int i, .int j => some (.val (.int (i + j)))
  | .str x, .str y => if x.length + y.length ≤ sizeLine then some (.val (.str (x ++ y))) else none
  | .tuple a, .tuple b => if a.length + b.length ≤ sizeLine then some (.val (.tuple (a ++ b))) else none
  | _, _ => none
theorem r2o_augAdd {K : Fg} : R2O K (fun x y H Q => (rI0 fun i j => .int (i + j)) x y H Q ∨ (∃ i j, x = .str i ∧ y = .str j ∧ i.length + j.length ≤ sizeLine ∧ Q (.str (i ++ j)) H) ∨ rCatA K x y H Q) fAugAdd := by
  intro G H x y dx dy res s hx hy hf Q k
  unfold fAugAdd at hf
  split at hf
  · cases hf
    cases hx
    cases hy
    exact .inl ⟨_, _, rfl, rfl, k _ H (Same.refl H) (ok_nil (Dp.int _))⟩
  · split at hf
    · rename_i hz
      cases hf
      cases hx
      cases hy
      exact .inr (.inl ⟨_, _, rfl, rfl, hz, k _ H (Same.refl H) (ok_nil (Dp.str _))⟩)
    · cases hf
  · split at hf
    · rename_i a b hz
      cases hf
      cases hx with
      | @tup l xs _ q1 r1 =>
      cases hy with
      | @tup l2 ys _ q2 r2 =>
      have e1 := dpa_len r1
      have e2 := dpa_len r2
      refine .inr (.inr ⟨l, l2, xs, ys, rfl, rfl, sqtM s q1, sqtM s q2, by omega, fun h => ?_, fun _ h => ?_, fun _ _ q hq => k _ _ (upd_grow hq) (ok_tup s hq (dpa_app r1 r2))⟩)
      · subst h
        cases r1
        exact k _ H (Same.refl H) (ok_val s (Dp.tup q2 r2))
      · subst h
        cases r2
        rw [List.append_nil] at k
        exact k _ H (Same.refl H) (ok_val s (Dp.tup q1 r1))
    · cases hf
  · cases hf
theorem es_augAdd {i : Nat} {x : Str} {e : Expr} {m : M PD} {pos pos' : Pos} {p : Bool} {l : Lv} (hN : X.N.Nodup) (he : EV X p l e m) (hl : l ≠ .B := by nofun) (hi : X.N[i]? = some x := by rfl) (hx : L2.Loc X.env.scope x := by first | exact Or.inl rfl | exact Or.inr rfl)
    (hf : X.fn x = true ∨ X.env.scope.names.lookup x = some .local := by first | exact .inl rfl | exact .inr rfl) : ES X (.AugAssign (.Name x pos') .Add e pos) (sAug i fAugAdd m) := es_aug (iop_add.or (iop_add_str.or iop_catA)) r2o_augAdd hN he hl hi hx hf
/-- an operation of ints, as a thing made -/
def fAugI (g : Int → Int → Option PD) (x y : PD) : Option Res := match fInt g x y with
  | none => none
  | some d => some (.val d)
theorem r2o_augI {K : Fg} {r : R2} {f : PD → PD → Option PD} {F : PD → PD → Option Res} (h : R2S K r f) (hF : ∀ x y res, F x y = some res → ∃ d, f x y = some d ∧ res = .val d) (hup : ∀ x y d, f x y = some d → (∃ i, x = .int i) ∧ ∃ j, y = .int j) : R2O K r F := by
  intro G H x y dx dy res s hx hy hf Q k
  obtain ⟨d, e, rfl⟩ := hF _ _ _ hf
  obtain ⟨⟨i, rfl⟩, j, rfl⟩ := hup _ _ _ e
  exact h H x y _ _ d (dpM s _ _ hx) (dpM s _ _ hy) e Q fun z H2 s2 q => k z H2 s2 (ok_nil q)
theorem augI_of {g : Int → Int → Option PD} : ∀ x y res, fAugI g x y = some res → ∃ d, fInt g x y = some d ∧ res = .val d := fun x y res h => by
  unfold fAugI at h
  cases e : fInt g x y with
  | none => rw [e] at h; cases h
  | some d => rw [e] at h; cases h; exact ⟨d, rfl, rfl⟩
theorem augI_up {g : Int → Int → Option PD} : ∀ x y d, fInt g x y = some d → (∃ i, x = .int i) ∧ ∃ j, y = .int j := fun x y d h => by
  unfold fInt at h
  split at h
  · exact ⟨⟨_, rfl⟩, _, rfl⟩
  · cases h
variable {i : Nat} {x : Str} {e : Expr} {m : M PD} {pos pos' : Pos} {p : Bool} {l : Lv}
theorem es_augSub (hN : X.N.Nodup) (he : EV X p l e m) (hl : l ≠ .B := by nofun) (hi : X.N[i]? = some x := by rfl) (hx : L2.Loc X.env.scope x := by first | exact Or.inl rfl | exact Or.inr rfl)
    (hf : X.fn x = true ∨ X.env.scope.names.lookup x = some .local := by first | exact .inl rfl | exact .inr rfl) : ES X (.AugAssign (.Name x pos') .Sub e pos) (sAug i (fAugI iSub) m) := es_aug iop_sub (r2o_augI (r2s_int0 fun i j d h => by cases h; exact Dp.int _) augI_of augI_up) hN he hl hi hx hf
def iMulS (i j : Int) : Option PD := if i.natAbs < 18446744073709551616 ∨ j.natAbs < 18446744073709551616 then some (.int (i * j)) else none
theorem es_augMul (hN : X.N.Nodup) (he : EV X p l e m) (hl : l ≠ .B := by nofun) (hi : X.N[i]? = some x := by rfl) (hx : L2.Loc X.env.scope x := by first | exact Or.inl rfl | exact Or.inr rfl)
    (hf : X.fn x = true ∨ X.env.scope.names.lookup x = some .local := by first | exact .inl rfl | exact .inr rfl) : ES X (.AugAssign (.Name x pos') .Mult e pos) (sAug i (fAugI iMulS) m) := es_aug iop_mul (r2o_augI (r2s_int fun i j d h => by
      unfold iMulS at h
      split at h
      · rename_i hc
        cases h
        exact ⟨hc.elim (fun h => .inl (by omega)) (fun h => .inr (by omega)), Dp.int _⟩
      · cases h) augI_of augI_up) hN he hl hi hx hf
def iDivS (i j : Int) : Option PD := if 0 < j ∧ j < 1073741824 then some (.int (i / j)) else none
theorem es_augDiv (hN : X.N.Nodup) (he : EV X p l e m) (hl : l ≠ .B := by nofun) (hi : X.N[i]? = some x := by rfl) (hx : L2.Loc X.env.scope x := by first | exact Or.inl rfl | exact Or.inr rfl)
    (hf : X.fn x = true ∨ X.env.scope.names.lookup x = some .local := by first | exact .inl rfl | exact .inr rfl) : ES X (.AugAssign (.Name x pos') .FloorDiv e pos) (sAug i (fAugI iDivS) m) := es_aug iop_fdiv (r2o_augI (r2s_int fun i j d h => by
      unfold iDivS at h
      split at h
      · rename_i hc
        cases h
        exact ⟨hc, Dp.int _⟩
      · cases h) augI_of augI_up) hN he hl hi hx hf
theorem ev_xor {a b : Expr} {p1 p2 : Bool} {l1 : Lv} {ma mb : M PD} (ha : EV X p1 l a ma) (hb : EV X p2 l1 b mb) (hs : l = .D ∨ p2 = true := by first | exact .inr rfl | exact .inl rfl) : EV X (p1 && p2) .D (.BinOp a .BitXor b pos) (m2 (fInt fun i j => some (.int (Builtin.bitXor i j))) ma mb) := ev_op op_xor (r2s_int0 fun i j d h => by cases h; exact Dp.int _) ha hb hs
end
end Vl

-- V18
set_option Elab.async false
set_option linter.all false
set_option maxRecDepth 100000
set_option maxHeartbeats 4000000
/-! chained comparisons -/
namespace Vl
open PySem L2 PyProof.Rows
def mChain (f g : PD → PD → Option PD) (ma mb mc : M PD) : M PD := mBind ma fun x => mBind mb fun y => mBind (mOpt (f x y)) fun z => match z with
  | .bool true => mBind mc fun w => mOpt (g y w)
  | .bool false => mPure (.bool false)
  | _ => mOpt none
section
variable {X : Cx} {a b c : Expr} {p1 p2 p3 : Bool} {l l1 l2 : Lv} {ma mb mc : M PD} {pos : Pos} {op op' : CmpOp} {r r' : R2} {f g : PD → PD → Option PD}
theorem chain_some {as : AS} {d : PD} {as' : AS} (h : mChain f g ma mb mc as = some (d, as')) : ∃ x y as1 as2, ma as = some (x, as1) ∧ mb as1 = some (y, as2) ∧
    ((f x y = some (.bool false) ∧ d = .bool false ∧ as' = as2) ∨ (f x y = some (.bool true) ∧ ∃ w, mc as2 = some (w, as') ∧ g y w = some d)) := by
  obtain ⟨x, as1, q1, h⟩ := bind_some h
  obtain ⟨y, as2, q2, h⟩ := bind_some h
  obtain ⟨z, as3, q3, h⟩ := bind_some h
  obtain ⟨q3', rfl⟩ := opt_some q3
  clear q3
  have q3 := q3'
  refine ⟨x, y, as1, as3, q1, q2, ?_⟩
  cases z with
  | bool k =>
    cases k with
    | false =>
      obtain ⟨rfl, rfl⟩ := pure_some h
      exact .inl ⟨q3, rfl, rfl⟩
    | true =>
      obtain ⟨w, as4, q4, h⟩ := bind_some h
      obtain ⟨q5, rfl⟩ := opt_some h
      exact .inr ⟨q3, w, q4, q5⟩
  | _ => cases h
theorem chain_ok (hr : R2S X.K r f) (hr' : R2S X.K r' g) (ha : EV X p1 l a ma) (hb : EV X p2 l1 b mb) (hc : EV X p3 l2 c mc) (hs : l = .D ∨ p2 = true) (hs1 : l1 = .D ∨ p3 = true) :
    ∃ ta tb tc, PE X a ta ∧ PE X b tb ∧ PE X c tc ∧ ((p1 && (p2 && p3)) = true → ∀ as r as', mChain f g ma mb mc as = some (r, as') → as' = as) ∧
      (∀ (G H0 : Hp) (pin : Nat → Addr) (ow : Ow) (σ : L2.St) (H : Hp) (as : AS) (d : PD) (as' : AS) (Q : VK), SR X.K G H0 pin ow σ H as → mChain f g ma mb mc as = some (d, as') →
        (∀ v H' ow', Stp G H0 ow H ow' H' → ((p1 && (p2 && p3)) = true → Same H H') → SR X.K G H0 pin ow' σ H' as' → Dp X.K nil v d → Q v H') → tChain r r' ta tb tc σ H Q) := by
  obtain ⟨ta, tb, e1, e2, q⟩ := ha.two hb hs
  obtain ⟨tc, c1, c2⟩ := hc.ok
  refine ⟨ta, tb, tc, e1, e2, c1, fun z as rr as' h => ?_, fun G H0 pin ow σ H as d as' Q S hm k => ?_⟩
  · simp only [Bool.and_eq_true] at z
    obtain ⟨x, y, as1, as2, q1, q2, h⟩ := chain_some h
    have u1 := ha.pur z.1 _ _ _ q1
    have u2 := hb.pur z.2.1 _ _ _ q2
    rcases h with ⟨_, _, u3⟩ | ⟨_, w, q4, _⟩
    · rw [u3, u2, u1]
    · rw [hc.pur z.2.2 _ _ _ q4, u2, u1]
  · obtain ⟨x, y, as1, as2, q1, q2, h⟩ := chain_some hm
    refine q G H0 pin ow σ H as x y as1 as2 _ S q1 q2 fun v w H' ow' st sm S' lv lw => ?_
    rcases h with ⟨q3, rfl, rfl⟩ | ⟨q3, z, q4, q5⟩
    · refine hr _ _ _ _ _ _ (lv_dp S'.hd lv) (lv_dp S'.hd lw) q3 _ fun z' H2 s2 okr => ?_
      cases okr
      obtain ⟨S3, st3⟩ := S'.grow s2
      refine ⟨false, rfl, ?_⟩
      rw [if_neg Bool.false_ne_true]
      exact k _ H2 ow' (st.trans st3) (fun z => (sm (by simp only [Bool.and_eq_true] at z ⊢; exact ⟨z.1, z.2.1⟩)).trans s2) S3 (Dp.bl _)
    · refine hr _ _ _ _ _ _ (lv_dp S'.hd lv) (lv_dp S'.hd lw) q3 _ fun z' H2 s2 okr => ?_
      cases okr
      obtain ⟨S3, st3⟩ := S'.grow s2
      refine ⟨true, rfl, ?_⟩
      rw [if_pos rfl]
      have lw2 := lvM st3.dur (.inr s2) lw
      refine c2 G H0 pin ow' σ H2 as2 z as' _ S3 q4 fun u H4 ow4 st4 sm4 S4 lu => ?_
      have lw4 : LvR l1 X.K (Hd ow4 G H0 H4) H4 w y := lvM st4.dur (hs1.imp id fun h => sm4 h) lw2
      refine hr' _ _ _ _ _ _ (lv_dp S4.hd lw4) (lv_dp S4.hd lu) q5 _ fun z'' H5 s5 okr => ?_
      obtain ⟨S5, st5⟩ := S4.grow s5
      exact k _ H5 ow4 (((st.trans st3).trans st4).trans st5) (fun z => by
        simp only [Bool.and_eq_true] at z
        exact (((sm (by simp only [Bool.and_eq_true]; exact ⟨z.1, z.2.1⟩)).trans s2).trans (sm4 z.2.2)).trans s5) S5 okr
theorem ev_chain (ho : OpR X (compareOp op) r) (hr : R2S X.K r f) (ho' : OpR X (compareOp op') r') (hr' : R2S X.K r' g) (ha : EV X p1 l a ma) (hb : EV X p2 l1 b mb) (hc : EV X p3 l2 c mc)
    (hs : l = .D ∨ p2 = true := by first | exact .inr rfl | exact .inl rfl) (hs1 : l1 = .D ∨ p3 = true := by first | exact .inr rfl | exact .inl rfl) (hm : lastMarks [op, op'] [b, c] = false := by with_unfolding_all rfl) :
    EV X (p1 && (p2 && p3)) .D (.Compare a [op, op'] [b, c] pos) (mChain f g ma mb mc) := by
  obtain ⟨ta, tb, tc, e1, e2, e3, pu, q⟩ := chain_ok hr hr' ha hb hc hs hs1
  exact ⟨pu, _, pe_chain ho ho' e1 e2 e3 hm, fun G H0 pin ow σ H as d as' Q S hm k => q G H0 pin ow σ H as d as' Q S hm fun v H' ow' st sm S' dv => k v H' ow' st sm S' (dpM same_nil _ _ dv)⟩
def mChainB (f g : PD → PD → Option PD) (ma mb mc : M PD) : M Bool := m1 asB (mChain f g ma mb mc)
theorem et_chain (ho : OpR X (compareOp op) r) (hr : R2S X.K r f) (ho' : OpR X (compareOp op') r') (hr' : R2S X.K r' g) (ha : EV X p1 l a ma) (hb : EV X p2 l1 b mb) (hc : EV X p3 l2 c mc)
    (hs : l = .D ∨ p2 = true := by first | exact .inr rfl | exact .inl rfl) (hs1 : l1 = .D ∨ p3 = true := by first | exact .inr rfl | exact .inl rfl) (hm : lastMarks [op, op'] [b, c] = false := by with_unfolding_all rfl) :
    ET X (p1 && (p2 && p3)) (.Compare a [op, op'] [b, c] pos) (mChainB f g ma mb mc) := by
  obtain ⟨ta, tb, tc, e1, e2, e3, pu, q⟩ := chain_ok hr hr' ha hb hc hs hs1
  refine ⟨fun z as rr as' h => by
    obtain ⟨x, as1, q1, h⟩ := bind_some h
    obtain ⟨_, rfl⟩ := opt_some h
    exact pu z _ _ _ q1, _, pt_chain ho ho' e1 e2 e3 hm, fun G H0 pin ow σ H as d as' Q S hm k => ?_⟩
  obtain ⟨x, as1, q1, hm⟩ := bind_some hm
  obtain ⟨q3, rfl⟩ := opt_some hm
  cases x with
  | bool c0 =>
    cases q3
    refine q G H0 pin ow σ H as _ _ _ S q1 fun v H' ow' st sm S' dv => ?_
    cases dv
    exact ⟨_, rfl, k H' ow' st sm S'⟩
  | _ => cases q3
end
end Vl

-- V19
set_option Elab.async false
set_option linter.all false
set_option maxRecDepth 100000
set_option maxHeartbeats 4000000
/-! range with a step -/
namespace Vl
open PySem L2 PyProof.Rows
def rngC (lo c : Int) (n : Nat) : List PD := (List.range n).map fun (i : Nat) => .int (lo + (i : Int) * c)
theorem dpa_rngC {K : Fg} {H : Hp} (lo c : Int) (n : Nat) : DpAll K H ((List.range n).map fun (i : Nat) => V.int (lo + (i : Int) * c)) (rngC lo c n) := by
  unfold rngC
  generalize List.range n = r
  induction r with
  | nil => exact .nil
  | cons a t ih => exact .cons (.int _) ih
theorem gives_rngC (lo c : Int) (n : Nat) (ok : Hp → Prop) : Gives (Itc lo c n) ((List.range n).map fun (i : Nat) => V.int (lo + (i : Int) * c)) ok := fun H _ => by
  refine ⟨fun i x h => ?_, fun i h => by rw [List.length_map, List.length_range] at h; exact h⟩
  rw [List.getElem?_map] at h
  have hi : i < n := by
    cases e : (List.range n)[i]? with
    | none => rw [e] at h; cases h
    | some j => simpa using (List.getElem?_eq_some_iff.mp e).1
  rw [List.getElem?_range hi] at h
  cases h
  exact ⟨hi, fun y H' h => h⟩
def rg3Ok (i j c : Int) (n : Nat) : Bool := decide (c ≠ 0) && decide (c.natAbs < 1073741824) && Builtin.Range.small i j c && decide (Builtin.Range.rangeSize i j c = n)
def fR3 : List PD → Option (List PD)
  | [.int i, .int j, .int c] => if rg3Ok i j c (Builtin.Range.rangeSize i j c).toNat = true then some (rngC i c (Builtin.Range.rangeSize i j c).toNat) else none
  | _ => none
theorem three_of {F : V → PD → Prop} {vs : List V} {d e f : PD} (h : Paired F vs [d, e, f]) : ∃ v w u, vs = [v, w, u] ∧ F v d ∧ F w e ∧ F u f := by
  cases h with
  | cons a t =>
    obtain ⟨w, u, rfl, b, c⟩ := two_of t
    exact ⟨_, _, _, rfl, a, b, c⟩
section
variable {X : Cx} {l l1 : Lv} {p : Bool} {pos : Pos}
theorem ei_r3 {tg a b c : Expr} {q : Pos} {ms : M (List PD)} (hm : X.mg "range" = none) (ha : EA X p l [a, b, c] ms) (hg : Gl X "range" := by rfl) (hs : starEach [a, b, c] X.env = (false, eval a X.env) :: starEach [b, c] X.env := by rfl)
    (hpl : (backTo pos (starEach [b, c] X.env)).any (·.1) = false := by rfl) : EI X p l1 tg (.Call (.Name "range" q) [a, b, c] [] pos) (mR fR3 ms) := by
  obtain ⟨t, a1, a2⟩ := ha.ok
  refine ⟨fun z => pur_n ha.pur z, _, pi_range3 hg hm a1 hs hpl, fun G H0 pin ow σ H as ds as' R S hm k => ?_⟩
  obtain ⟨xs, as1, q1, q⟩ := bind_some hm
  obtain ⟨q2, rfl⟩ := opt_some q
  unfold fR3 at q2
  split at q2
  · rename_i i j c
    split at q2
    · rename_i hj
      cases q2
      refine a2 G H0 pin ow σ H as _ as' _ S q1 fun vs H1 ow1 st sm S1 lv => ?_
      obtain ⟨v, w, u, rfl, l1, l2, l3⟩ := three_of (paired_map lv fun _ _ h => lv_dp S1.hd h)
      cases l1
      cases l2
      cases l3
      unfold rg3Ok at hj
      simp only [Bool.and_eq_true, decide_eq_true_eq] at hj
      exact ⟨i, j, c, _, rfl, ⟨hj.1.1.1, hj.1.1.2, hj.1.2, hj.2⟩, k _ H1 ow1 _ (fun _ => True) st sm S1 (gives_rngC i c _ _) (dpa_rngC i c _) fun _ _ _ => trivial⟩
    · cases q2
  · cases q2
end
end Vl

-- V20
set_option Elab.async false
set_option linter.all false
set_option maxRecDepth 100000
set_option maxHeartbeats 4000000
/-! comprehensions with two fors -/
namespace Vl
open PySem L2
def rdI (K : Fg) (p : Bool) (l : Lv) (m : M (List PD)) : TI := fun σ H R => ∃ (G H0 : Hp) (pin : Nat → Addr) (ow : Ow) (as : AS) (ds : List PD) (as' : AS), SR K G H0 pin ow σ H as ∧ m as = some (ds, as') ∧
  ∀ J H' ow' xs ok, Stp G H0 ow H ow' H' → (p = true → Same H H') → SR K G H0 pin ow' σ H' as' → Gives J xs ok → DpAll K (Hd ow' G H0 H') xs ds → (∀ H2, (l = .D → Same (Hd ow' G H0 H') H2) → (l ≠ .D → Same H' H2) → ok H2) → R J H'
def lc2L (vs vs1 : List Nat) (g : PD → AS → Option AS) (c : M Bool) (mi1 : M (List PD)) (g1 : PD → AS → Option AS) (c1 : M Bool) (el : M PD) : List PD → AS → Option (List PD × AS)
  | [], as => some ([], as)
  | d :: ds, as => match g d as with
    | none => none
    | some as1 => match c as1 with
      | none => none
      | some (false, as2) => lc2L vs vs1 g c mi1 g1 c1 el ds (clr vs as2)
      | some (true, as2) => match mi1 as2 with
        | none => none
        | some (ds1, as3) => match lcL vs1 g1 c1 el ds1 (clr vs1 as3) with
          | none => none
          | some (ys, as4) => match lc2L vs vs1 g c mi1 g1 c1 el ds (clr vs as4) with
            | none => none
            | some (zs, as5) => some (ys ++ zs, as5)
def mLc2 (vs vs1 : List Nat) (mi : M (List PD)) (g : PD → AS → Option AS) (c : M Bool) (mi1 : M (List PD)) (g1 : PD → AS → Option AS) (c1 : M Bool) (el : M PD) : M Res := fun as => match mi as with
  | none => none
  | some (ds, as1) => match lc2L vs vs1 g c mi1 g1 c1 el ds (clr vs as1) with
    | none => none
    | some (ys, as2) => if free vs as1 = true ∧ ys.length ≤ sizeLine then some (.obj (.ol ys), back vs as1 as2) else none
section
variable {X : Cx} {p p1 p2 p3 p4 p5 : Bool} {l l1 : Lv} {pos : Pos}
theorem EI.can {tg e : Expr} {m : M (List PD)} (h : EI X p l tg e m) : PI X tg e (rdI X.K p l m) := by
  obtain ⟨t, a1, a2⟩ := h.ok
  exact ⟨fun pins s σ H R I ⟨G, H0, pin, ow, as, ds, as', S, e, k⟩ => a1.run pins s σ H R I (a2 G H0 pin ow σ H as ds as' R S e k)⟩
theorem lc2_sound {tg it : Expr} {vs vs1 : List Nat} {mi mi1 : M (List PD)} {g g1 : PD → AS → Option AS} {mc mc1 : M Bool} {el : M PD} (hv : ∀ i ∈ vs1, i ∈ vs) (hi : EI X p l tg it mi) (hl : l = .D ∨ (p2 = true ∧ p3 = true ∧ p4 = true ∧ p5 = true)) :
    ∃ t, PI X tg it t ∧ ∀ (G H0 : Hp) (pin : Nat → Addr) (ow : Ow) (σ : L2.St) (H : Hp) (as : AS) (r : Res) (as' : AS) (Q : VK), SR X.K G H0 pin ow σ H as → mLc2 vs vs1 mi g mc mi1 g1 mc1 el as = some (r, as') →
    (∀ v H' ow', Stp G H0 ow H ow' H' → ((p && (p2 && (p3 && (p4 && p5)))) = true → Same H H') → SR X.K G H0 pin ow' σ H' as' → FR X.K G H0 ow H ow' H' v r → Q v H') → tLc2 t (rdG X.K vs g) (rdT X.K p2 mc) (rdI X.K p3 .D mi1) (rdG X.K vs1 g1) (rdT X.K p4 mc1) (rdV X.K p5 .D el) vs vs1 σ H Q := by
  obtain ⟨t, a1, a2⟩ := hi.ok
  refine ⟨t, a1, fun G H0 pin ow σ H as r as' Q S hm k => ?_⟩
  unfold mLc2 at hm
  split at hm
  · cases hm
  rename_i ds as1 q
  split at hm
  · cases hm
  rename_i ys as2 q2
  split at hm
  · rename_i hz
    cases hm
    refine a2 G H0 pin ow σ H as ds as1 _ S q fun J H1 ow1 xs ok st sm S1 gv hd hok D hD => ?_
    have s1 : Same H1 (upd H1 D (.lst [])) := fun b x e => by rw [upd_ne (ne_of_none e hD)]; exact e
    obtain ⟨S2, st2, w2⟩ := S1.lay (a := D) s1 hD (by rw [upd_same]; exact nofun)
    obtain ⟨ow3, S3, st3⟩ := S2.wipe vs
    have hlen := dpa_len hd
    refine ⟨fun i m H2 => i + m = xs.length ∧ ∃ as3 ow4 acc done todo, SR X.K G H0 pin ow4 (L2.wipe σ vs) H2 as3 ∧ Stp G H0 ow1 H1 ow4 H2 ∧ ((p2 && (p3 && (p4 && p5))) = true → Same H1 H2) ∧ ow4 D = some none ∧ H2 D = some (.lst acc) ∧ DpAll X.K (Hd ow4 G H0 H2) acc done ∧
      ys = done ++ todo ∧ lc2L vs vs1 g mc mi1 g1 mc1 el (ds.drop i) as3 = some (todo, as2), ⟨xs.length, by omega, clr vs as1, ow3, [], [], ys, S3, st2.trans st3, fun _ => s1, (st3.tmp D put_same).1, ((st3.tmp D put_same).2).trans upd_same, .nil, rfl, q2⟩, ?_⟩
    rintro i m H2 ⟨hlm, as3, ow4, acc, done, todo, S4, st4, sm4, w4, hD4, hacc, hys, hf⟩
    have ok2 : ok H2 := by
      refine hok H2 (fun _ => st4.dur.trans S4.hd) (fun hne => sm4 ?_)
      rcases hl with hl | ⟨h2, h3, h4, h5⟩
      · exact absurd hl hne
      · rw [h2, h3, h4, h5]; rfl
    obtain ⟨g1', g2⟩ := gv H2 ok2
    by_cases hzi : xs.length ≤ i
    · left
      refine ⟨g2 i hzi, ?_⟩
      rw [List.drop_eq_nil_of_le (by omega)] at hf
      cases hf
      rw [List.append_nil] at hys
      subst hys
      refine k _ H2 ow4 (st.trans st4) (fun z => ?_) (S4.back ?_ fun j s hj e => ?_) ⟨D, rfl, ?_, w4, acc, hD4, hacc⟩
      · have z' : p = true ∧ (p2 && (p3 && (p4 && p5))) = true := by simpa using z
        exact (sm z'.1).trans (sm4 z'.2)
      · rw [S1.len, S4.len, wipe_length]
      · rcases free_at hz.1 hj e with rfl | ⟨d, rfl⟩
        · trivial
        · obtain ⟨v, e1, e2⟩ := S1.slot j _ e
          exact ⟨v, e1, dpM st4.dur _ _ e2⟩
      · intro e
        have := (st.tmp D e).1
        rw [w2] at this; cases this
    · right
      have hi1 : i < xs.length := by omega
      have hi2 : i < ds.length := by omega
      rw [List.drop_eq_getElem_cons hi2] at hf
      obtain ⟨y1, y2⟩ := g1' i xs[i] (List.getElem?_eq_getElem hi1)
      have hdi : Dp X.K (Hd ow1 G H0 H1) xs[i] ds[i] := by
        exact paired_at (of_dpa hd) i hi1 hi2
      refine ⟨y1, fun H5 => ∃ as3 ow4 acc done todo, SR X.K G H0 pin ow4 (L2.wipe σ vs) H5 as3 ∧ Stp G H0 ow1 H1 ow4 H5 ∧ ((p2 && (p3 && (p4 && p5))) = true → Same H1 H5) ∧ ow4 D = some none ∧ H5 D = some (.lst acc) ∧ DpAll X.K (Hd ow4 G H0 H5) acc done ∧
        ys = done ++ todo ∧ lc2L vs vs1 g mc mi1 g1 mc1 el (ds.drop (i + 1)) as3 = some (todo, as2), fun H5 h => ⟨m - 1, by omega, by omega, h⟩, fun x H' hy => ?_⟩
      obtain ⟨rfl, rfl⟩ := y2 x H' hy
      unfold lc2L at hf
      split at hf
      · cases hf
      rename_i as5 q5
      refine ⟨G, H0, pin, ow4, as3, ds[i], as5, S4, dpM st4.dur _ _ hdi, q5, fun σ5 ow5 st5 S5 hl5 ho5 => ?_⟩
      have hw5 : L2.wipe σ5 vs = L2.wipe (L2.wipe σ vs) vs := wipe_ext hl5 vs ho5
      rw [wipe_idem] at hw5
      refine ⟨hw5, ?_⟩
      obtain ⟨w5, e5⟩ := st5.tmp D w4
      split at hf
      · cases hf
      · rename_i as6 q6
        refine ⟨G, H0, pin, ow5, as5, false, as6, S5, q6, fun H6 ow6 st6 sm6 S6 => iteF ?_⟩
        obtain ⟨w6, e6⟩ := st6.tmp D w5
        obtain ⟨ow7, S7, st7⟩ := S6.wipe vs
        rw [hw5] at S7
        obtain ⟨w7, e7⟩ := st7.tmp D w6
        refine ⟨clr vs as6, ow7, acc, done, todo, S7, st4.trans (st5.trans (st6.trans st7)), fun z => ?_, w7, by rw [e6]; exact hD4, dpaM (st5.dur.trans (st6.dur.trans st7.dur)) _ _ hacc, hys, hf⟩
        have z' : p2 = true ∧ (p3 && (p4 && p5)) = true := by simpa using z
        exact (sm4 z).trans (sm6 z'.1)
      · rename_i as6 q6
        refine ⟨G, H0, pin, ow5, as5, true, as6, S5, q6, fun H6 ow6 st6 sm6 S6 => iteT ?_⟩
        obtain ⟨w6, e6⟩ := st6.tmp D w5
        split at hf
        · cases hf
        rename_i ds1 as7 q7
        split at hf
        · cases hf
        rename_i ys1 as8 q8
        split at hf
        · cases hf
        rename_i zs as9 q9
        cases hf
        -- the inner loop
        refine ⟨G, H0, pin, ow6, as6, ds1, as7, S6, q7, fun J1 H7 ow7 xs1 ok1 st7 sm7 S7 gv1 hd1 hok1 => ?_⟩
        obtain ⟨w7, e7⟩ := st7.tmp D w6
        obtain ⟨ow8, S8, st8⟩ := S7.wipe vs1
        obtain ⟨w8, e8⟩ := st8.tmp D w7
        have hlen1 := dpa_len hd1
        have st17 := st4.trans (st5.trans (st6.trans st7))
        refine ⟨fun j n H2 => j + n = xs1.length ∧ ∃ as10 ow10 acc1 done1 todo1, SR X.K G H0 pin ow10 (L2.wipe σ5 vs1) H2 as10 ∧ Stp G H0 ow1 H1 ow10 H2 ∧ Same (Hd ow7 G H0 H7) (Hd ow10 G H0 H2) ∧ ((p4 && p5) = true → ∀ b x, b ≠ D → H7 b = some x → H2 b = some x) ∧ ow10 D = some none ∧ H2 D = some (.lst acc1) ∧ DpAll X.K (Hd ow10 G H0 H2) acc1 (done ++ done1) ∧
          ys1 = done1 ++ todo1 ∧ lcL vs1 g1 mc1 el (ds1.drop j) as10 = some (todo1, as8), ⟨xs1.length, by omega, clr vs1 as7, ow8, acc, [], ys1, S8, st17.trans st8, st8.dur, fun _ b x _ e => e, w8, by rw [e8, e7, e6]; exact hD4, by rw [List.append_nil]; exact dpaM (st5.dur.trans (st6.dur.trans (st7.dur.trans st8.dur))) _ _ hacc, rfl, q8⟩, ?_⟩
        rintro j n H10 ⟨hjn, as10, ow10, acc1, done1, todo1, S10, st10, s10, sm10, w10, hD10, hacc1, hys1, hf1⟩
        have ok10 : ok1 H10 := hok1 H10 (fun _ => s10.trans S10.hd) (fun h => absurd rfl h)
        obtain ⟨f1, f2⟩ := gv1 H10 ok10
        by_cases hzj : xs1.length ≤ j
        · left
          refine ⟨f2 j hzj, ?_⟩
          rw [List.drop_eq_nil_of_le (by omega)] at hf1
          cases hf1
          rw [List.append_nil] at hys1
          subst hys1
          obtain ⟨ow11, S11, st11⟩ := S10.wipe vs
          have hwv : L2.wipe (L2.wipe σ5 vs1) vs = L2.wipe σ vs := by
            rw [← hw5]
            exact wipe_ext (wipe_length σ5 vs1) vs fun b hb => wipe_get vs1 σ5 b fun h => hb (hv b h)
          rw [hwv] at S11
          obtain ⟨w11, e11⟩ := st11.tmp D w10
          refine ⟨clr vs as8, ow11, acc1, done ++ ys1, zs, S11, st10.trans st11, fun z => ?_, w11, hD10, dpaM st11.dur _ _ hacc1, by rw [hys, List.append_assoc], q9⟩
          have z' : p2 = true ∧ p3 = true ∧ (p4 && p5) = true := by simpa using z
          have h17 := ((sm4 z).trans (sm6 z'.1)).trans (sm7 z'.2.1)
          exact fun b x e => sm10 z'.2.2 b x (ne_of_none e hD) (h17 b x e)
        · right
          have hj1 : j < xs1.length := by omega
          have hj2 : j < ds1.length := by omega
          rw [List.drop_eq_getElem_cons hj2] at hf1
          obtain ⟨z1, z2⟩ := f1 j xs1[j] (List.getElem?_eq_getElem hj1)
          have hdj : Dp X.K (Hd ow7 G H0 H7) xs1[j] ds1[j] := paired_at (of_dpa hd1) j hj1 hj2
          refine ⟨z1, fun H12 => ∃ as10 ow10 acc1 done1 todo1, SR X.K G H0 pin ow10 (L2.wipe σ5 vs1) H12 as10 ∧ Stp G H0 ow1 H1 ow10 H12 ∧ Same (Hd ow7 G H0 H7) (Hd ow10 G H0 H12) ∧ ((p4 && p5) = true → ∀ b x, b ≠ D → H7 b = some x → H12 b = some x) ∧ ow10 D = some none ∧ H12 D = some (.lst acc1) ∧ DpAll X.K (Hd ow10 G H0 H12) acc1 (done ++ done1) ∧
            ys1 = done1 ++ todo1 ∧ lcL vs1 g1 mc1 el (ds1.drop (j + 1)) as10 = some (todo1, as8), fun H12 h => ⟨n - 1, by omega, by omega, h⟩, fun x1 H'1 hy1 => ?_⟩
          obtain ⟨rfl, rfl⟩ := z2 x1 H'1 hy1
          unfold lcL at hf1
          split at hf1
          · cases hf1
          rename_i as12 q12
          refine ⟨G, H0, pin, ow10, as10, ds1[j], as12, S10, dpM s10 _ _ hdj, q12, fun σ13 ow13 st13 S13 hl13 ho13 => ?_⟩
          have hw13 : L2.wipe σ13 vs1 = L2.wipe (L2.wipe σ5 vs1) vs1 := wipe_ext hl13 vs1 ho13
          rw [wipe_idem] at hw13
          refine ⟨hw13.trans rfl, ?_⟩
          obtain ⟨w13, e13⟩ := st13.tmp D w10
          split at hf1
          · cases hf1
          · rename_i as14 q14
            refine ⟨G, H0, pin, ow13, as12, false, as14, S13, q14, fun H14 ow14 st14 sm14 S14 => iteF ?_⟩
            obtain ⟨w14, e14⟩ := st14.tmp D w13
            obtain ⟨ow15, S15, st15⟩ := S14.wipe vs1
            rw [hw13] at S15
            obtain ⟨w15, e15⟩ := st15.tmp D w14
            have sA := st13.trans (st14.trans st15)
            refine ⟨clr vs1 as14, ow15, acc1, done1, todo1, S15, st10.trans sA, s10.trans sA.dur, fun z => ?_, w15, by rw [e14]; exact hD10, dpaM sA.dur _ _ hacc1, hys1, hf1⟩
            have z' : p4 = true ∧ p5 = true := by simpa using z
            exact fun b x hb e => sm14 z'.1 b x (sm10 z b x hb e)
          · rename_i as14 q14
            refine ⟨G, H0, pin, ow13, as12, true, as14, S13, q14, fun H14 ow14 st14 sm14 S14 => iteT ?_⟩
            obtain ⟨w14, e14⟩ := st14.tmp D w13
            split at hf1
            · cases hf1
            rename_i y as15 q15
            split at hf1
            · cases hf1
            rename_i ys16 as16 q16
            cases hf1
            refine ⟨G, H0, pin, ow14, as14, y, as15, S14, q15, fun v15 H15 ow15 st15 sm15 S15 lv15 => ?_⟩
            obtain ⟨w15, e15⟩ := st15.tmp D w14
            have sA := st13.trans (st14.trans st15)
            have hacc15 : DpAll X.K (Hd ow15 G H0 H15) acc1 (done ++ done1) := dpaM sA.dur _ _ hacc1
            have hal := dpa_len hacc1
            refine ⟨acc1, by rw [e15, e14]; exact hD10, ?_, ?_⟩
            · have := hz.2
              rw [hys, hys1] at this
              simp only [List.length_append, List.length_cons] at this hal
              omega
            · obtain ⟨S17, s17⟩ := S15.write (a := D) (u := .lst (acc1 ++ [v15])) (by rw [w15]; exact nofun) fun j t _ e => by rw [w15] at e; cases e
              obtain ⟨ow18, S18, st18⟩ := S17.wipe vs1
              rw [hw13] at S18
              have stT := st10.trans sA
              have st17' : Stp G H0 ow1 H1 ow15 (upd H15 D (.lst (acc1 ++ [v15]))) := by
                refine ⟨stT.dur.trans s17, fun b hb => ?_, fun b hb => ?_⟩
                · have hbD : b ≠ D := fun z => by
                    subst z
                    exact absurd hb (by rw [w2]; exact nofun)
                  rw [upd_ne hbD]; exact stT.tmp b hb
                · by_cases hbD : b = D
                  · subst hbD; rw [upd_same]; exact nofun
                  · rw [upd_ne hbD]; exact stT.dom b hb
              obtain ⟨w18, e18⟩ := st18.tmp D w15
              refine ⟨clr vs1 as15, ow18, acc1 ++ [v15], done1 ++ [y], ys16, S18, st17'.trans st18, (s10.trans sA.dur).trans (s17.trans st18.dur), fun z => ?_, w18, upd_same, ?_, by rw [hys1]; simp, q16⟩
              · have z' : p4 = true ∧ p5 = true := by simpa using z
                exact fun b x hb e => by
                  rw [upd_ne hb]
                  exact sm15 z'.2 b x (sm14 z'.1 b x (sm10 z b x hb e))
              · have h9 := s17.trans st18.dur
                rw [← List.append_assoc]
                exact dpa_of (paired_snoc (of_dpa (dpaM h9 _ _ hacc15)) (dpM h9 _ _ lv15))
  · cases hm
end
end Vl

-- V21
set_option Elab.async false
set_option linter.all false
set_option maxRecDepth 100000
set_option maxHeartbeats 4000000
/-! comprehensions with two fors: the rules -/
namespace Vl
open PySem L2
theorem lc2L_pure {vs vs1 : List Nat} {g : PD → AS → Option AS} {c : M Bool} {mi1 : M (List PD)} {g1 : PD → AS → Option AS} {c1 : M Bool} {el : M PD} (hv : ∀ i ∈ vs1, i ∈ vs) (hg : ∀ d as as', g d as = some as' → as'.length = as.length ∧ ∀ j, j ∉ vs → as'[j]? = as[j]?)
    (hg1 : ∀ d as as', g1 d as = some as' → as'.length = as.length ∧ ∀ j, j ∉ vs1 → as'[j]? = as[j]?)
    (hc : ∀ as r as', c as = some (r, as') → as' = as) (hi : ∀ as r as', mi1 as = some (r, as') → as' = as) (hc1 : ∀ as r as', c1 as = some (r, as') → as' = as) (he : ∀ as r as', el as = some (r, as') → as' = as) : ∀ (ds : List PD) (as : AS) (ys : List PD) (as' : AS), lc2L vs vs1 g c mi1 g1 c1 el ds (clr vs as) = some (ys, as') → as' = clr vs as
  | [], as, ys, as', h => by cases h; rfl
  | d :: ds, as, ys, as', h => by
    unfold lc2L at h
    split at h
    · cases h
    rename_i as1 q1
    obtain ⟨l1, o1⟩ := hg _ _ _ q1
    have e1 : clr vs as1 = clr vs as := by rw [clr_ext l1 o1, clr_idem]
    split at h
    · cases h
    · rename_i as2 q2
      have := hc _ _ _ q2
      subst this
      rw [e1] at h
      exact lc2L_pure hv hg hg1 hc hi hc1 he ds as ys as' h
    · rename_i as2 q2
      have := hc _ _ _ q2
      subst this
      split at h
      · cases h
      rename_i ds1 as3 q3
      have := hi _ _ _ q3
      subst this
      split at h
      · cases h
      rename_i ys4 as4 q4
      have e4 := lcL_pure hg1 hc1 he _ _ _ _ q4
      split at h
      · cases h
      rename_i zs as5 q5
      cases h
      have e5 : clr vs as4 = clr vs as := by
        rw [e4]
        refine (clr_ext (clr_len _ _) fun j hj => ?_).trans e1
        rw [clr_get, if_neg fun h => hj (hv j h.1)]
      rw [e5] at q5
      exact lc2L_pure hv hg hg1 hc hi hc1 he ds as _ _ q5
section
variable {X : Cx} {p p1 p2 p3 p4 p5 : Bool} {l l1 : Lv} {pos : Pos}
variable {elt tg it tg1 it1 : Expr} {ifs ifs1 : List Expr} {scope : Scope} {mi mi1 : M (List PD)} {g g1 : PD → AS → Option AS} {mc mc1 : M Bool} {el : M PD} {vs1 : List Nat}
theorem ef_lc2 (own : List (Str × Nat)) (vs1 : List Nat) (hv : ∀ i ∈ vs1, i ∈ own.map (·.2)) (hc : X.calm = true) (hN : X.N.Nodup) (hi : EI X p l tg it mi) (hb : blkC X.N X.env.scope scope own = true)
    (hg : ∀ (s : Shared) (H : Hp) (C : Addr) (cl : List (Str × Addr)) (fp : List Addr), EG (X.blk s H scope (compEnvC scope cl C X.env) fp) tg (own.map (·.2)) g)
    (ht : ∀ (s : Shared) (H : Hp) (C : Addr) (cl : List (Str × Addr)) (fp : List Addr), ETs (X.blk s H scope (compEnvC scope cl C X.env) fp) p2 ifs mc)
    (hi1 : ∀ (s : Shared) (H : Hp) (C : Addr) (cl : List (Str × Addr)) (fp : List Addr), EI (X.blk s H scope (compEnvC scope cl C X.env) fp) p3 .D tg1 it1 mi1)
    (hg1 : ∀ (s : Shared) (H : Hp) (C : Addr) (cl : List (Str × Addr)) (fp : List Addr), EG (X.blk s H scope (compEnvC scope cl C X.env) fp) tg1 vs1 g1)
    (ht1 : ∀ (s : Shared) (H : Hp) (C : Addr) (cl : List (Str × Addr)) (fp : List Addr), ETs (X.blk s H scope (compEnvC scope cl C X.env) fp) p4 ifs1 mc1)
    (he : ∀ (s : Shared) (H : Hp) (C : Addr) (cl : List (Str × Addr)) (fp : List Addr), EV (X.blk s H scope (compEnvC scope cl C X.env) fp) p5 .D elt el)
    (hl : l = .D ∨ (p2 = true ∧ p3 = true ∧ p4 = true ∧ p5 = true) := by first | exact .inr ⟨rfl, rfl, rfl, rfl⟩ | exact .inl rfl)
    (hs : ∀ x, foldedSetIterable it X.env x = pure x := by intro _; rfl) (hs1 : ∀ env x, foldedSetIterable it1 env x = pure x := by intro _ _; rfl) :
    EF X (p && (p2 && (p3 && (p4 && p5)))) (.ListComp elt [{ target := tg, iter := it, ifs := ifs, is_async := 0 }, { target := tg1, iter := it1, ifs := ifs1, is_async := 0 }] scope pos) (mLc2 (own.map (·.2)) vs1 mi g mc mi1 g1 mc1 el) := by
  have pg := (hg X.s_0 X.H_0 0 [] []).loc
  have pg1 := (hg1 X.s_0 X.H_0 0 [] []).loc
  have pt := (ht X.s_0 X.H_0 0 [] []).pur
  have pi1 := (hi1 X.s_0 X.H_0 0 [] []).pur
  have pt1 := (ht1 X.s_0 X.H_0 0 [] []).pur
  have pv := (he X.s_0 X.H_0 0 [] []).pur
  obtain ⟨t, a1, a2⟩ := lc2_sound (p2 := p2) (p3 := p3) (p4 := p4) (p5 := p5) (vs := own.map (·.2)) (vs1 := vs1) (mi1 := mi1) (g := g) (g1 := g1) (mc := mc) (mc1 := mc1) (el := el) hv hi hl
  refine ⟨fun z as r as' h => ?_, _, pe_lc2 (own := own) (vs1 := vs1) hc hN a1 (blkOk_by hb) hv (fun s H C cl fp => (hg s H C cl fp).can) (fun s H C cl fp => (ht s H C cl fp).ok) (fun s H C cl fp => (hi1 s H C cl fp).can) (fun s H C cl fp => (hg1 s H C cl fp).can) (fun s H C cl fp => (ht1 s H C cl fp).ok) (fun s H C cl fp => (he s H C cl fp).can) hs hs1, a2⟩
  have z' : p = true ∧ p2 = true ∧ p3 = true ∧ p4 = true ∧ p5 = true := by simpa using z
  unfold mLc2 at h
  split at h
  · cases h
  rename_i ds as1 q
  have := hi.pur z'.1 _ _ _ q
  subst this
  split at h
  · cases h
  rename_i ys as2 q2
  have := lc2L_pure hv pg pg1 (pt z'.2.1) (pi1 z'.2.2.1) (pt1 z'.2.2.2.1) (pv z'.2.2.2.2) ds as1 ys as2 q2
  subst this
  split at h
  · cases h
    exact back_clr _ _
  · cases h
theorem es_setLc2 {i : Nat} {y : Str} {py spos : Pos} (own : List (Str × Nat)) (vs1 : List Nat) (hv : ∀ i ∈ vs1, i ∈ own.map (·.2)) (hc : X.calm = true) (hN : X.N.Nodup) (hi : EI X p l tg it mi) (hb : blkC X.N X.env.scope scope own = true)
    (hg : ∀ (s : Shared) (H : Hp) (C : Addr) (cl : List (Str × Addr)) (fp : List Addr), EG (X.blk s H scope (compEnvC scope cl C X.env) fp) tg (own.map (·.2)) g)
    (ht : ∀ (s : Shared) (H : Hp) (C : Addr) (cl : List (Str × Addr)) (fp : List Addr), ETs (X.blk s H scope (compEnvC scope cl C X.env) fp) p2 ifs mc)
    (hi1 : ∀ (s : Shared) (H : Hp) (C : Addr) (cl : List (Str × Addr)) (fp : List Addr), EI (X.blk s H scope (compEnvC scope cl C X.env) fp) p3 .D tg1 it1 mi1)
    (hg1 : ∀ (s : Shared) (H : Hp) (C : Addr) (cl : List (Str × Addr)) (fp : List Addr), EG (X.blk s H scope (compEnvC scope cl C X.env) fp) tg1 vs1 g1)
    (ht1 : ∀ (s : Shared) (H : Hp) (C : Addr) (cl : List (Str × Addr)) (fp : List Addr), ETs (X.blk s H scope (compEnvC scope cl C X.env) fp) p4 ifs1 mc1)
    (he : ∀ (s : Shared) (H : Hp) (C : Addr) (cl : List (Str × Addr)) (fp : List Addr), EV (X.blk s H scope (compEnvC scope cl C X.env) fp) p5 .D elt el)
    (hsw : swapsWith (.ListComp elt [{ target := tg, iter := it, ifs := ifs, is_async := 0 }, { target := tg1, iter := it1, ifs := ifs1, is_async := 0 }] scope pos) (some (.Name y py)) spos.line X.env = pure true)
    (hx : X.N[i]? = some y := by rfl) (hloc : X.env.scope.names.lookup y = some .local := by rfl)
    (hl : l = .D ∨ (p2 = true ∧ p3 = true ∧ p4 = true ∧ p5 = true) := by first | exact .inr ⟨rfl, rfl, rfl, rfl⟩ | exact .inl rfl)
    (hs : ∀ x, foldedSetIterable it X.env x = pure x := by intro _; rfl) (hs1 : ∀ env x, foldedSetIterable it1 env x = pure x := by intro _ _; rfl) :
    ES X (.Assign [.Name y py] (.ListComp elt [{ target := tg, iter := it, ifs := ifs, is_async := 0 }, { target := tg1, iter := it1, ifs := ifs1, is_async := 0 }] scope pos) spos) (sSet i (mLc2 (own.map (·.2)) vs1 mi g mc mi1 g1 mc1 el)) := by
  obtain ⟨t, a1, a2⟩ := lc2_sound (p2 := p2) (p3 := p3) (p4 := p4) (p5 := p5) (vs := own.map (·.2)) (vs1 := vs1) (mi1 := mi1) (g := g) (g1 := g1) (mc := mc) (mc1 := mc1) (el := el) hv hi hl
  refine ⟨_, ps_setLc2 (i := i) (own := own) (vs1 := vs1) (g := rdG X.K (own.map (·.2)) g) (tt := rdT X.K p2 mc) (wi1 := rdI X.K p3 .D mi1) (g1 := rdG X.K vs1 g1) (tt1 := rdT X.K p4 mc1) (te := rdV X.K p5 .D el) hc hN hx hloc hsw a1 (blkOk_by hb) hv (fun s H C cl fp => (hg s H C cl fp).can) (fun s H C cl fp => (ht s H C cl fp).ok) (fun s H C cl fp => (hi1 s H C cl fp).can) (fun s H C cl fp => (hg1 s H C cl fp).can) (fun s H C cl fp => (ht1 s H C cl fp).ok) (fun s H C cl fp => (he s H C cl fp).can) hs hs1, fun G H0 pin ow σ H as c as' D S hm k => ?_⟩
  unfold sSet at hm
  split at hm
  · cases hm
  · rename_i r as1 q
    refine a2 G H0 pin ow σ H as r as1 _ S q fun v H1 ow1 st sm S1 fr => ?_
    split at hm
    · cases hm
    · cases hm
    · cases hm
      cases r with
      | val d =>
        obtain ⟨S2, st2⟩ := S1.setD (i := i) fr
        exact k _ _ _ (st.dur.trans st2.dur) S2
      | obj o =>
        obtain ⟨a, rfl, w, w1, ob⟩ := fr
        obtain ⟨S2, s2⟩ := S1.setO (i := i) w1 ob
        exact k _ _ _ (st.dur.trans s2) S2
end
end Vl

-- V22
set_option Elab.async false
set_option linter.all false
set_option maxRecDepth 100000
set_option maxHeartbeats 4000000
/-! targets, wider; xs += ys -/
namespace L2
open PySem PySem.Spec PyProof.Rows
theorem list_iaddW (l : Addr) (items : Array Value) (n : Nat) (b : Addr) (items2 : Array Value) (n2 : Nat) (dd2 : Option Addr) (sl2 : Array (Option Value)) (hs0 : ¬(!items.isEmpty && Builtin.List.listTooLong (items.size + items2.size)) = true) (hs1 : items.size ≤ sizeLine) (hs2 : items.size + items2.size ≤ sizeLine + 1) :
    Meets (Builtin.«list.__iadd__» ⟨[.ref l, .ref b], []⟩) (fun _ R s => s.heap.get? l = some { cls := .type "list", dict := none, data := .seq items n, slots := #[] } ∧ s.heap.get? b = some { cls := .type "list", dict := dd2, data := .seq items2 n2, slots := sl2 } ∧ R (.ok (.ret (Value.ref l))) { s with heap := s.heap.update l (Obj.mapSeq fun x => x ++ items2), toks := s.toks }) :=
  .of_wp fun prog w A R s h => by
    obtain ⟨hp, g, d, tk, os⟩ := s; obtain ⟨hl, hb, h⟩ := h; have f1 := AutoSeq1.idx_int; have f2 := AutoSeq1.sub_tuple_tuple; have f3 := AutoSeq1.sub_list_list; have f4 := AutoSeq1.sub_tuple_list; have f5 := AutoSeq1.sub_list_tuple;
    have hz' : (items ++ items2).size ≤ sizeLine + 1 := by rw [Array.size_append]; exact hs2
    wp_walk using (wpAny_updateSeq hl rfl (hz := hs1) (_hz' := hz')), wpAny_loadPart' hl, wpAny_loadPart' hb; exact ⟨_, rfl, h⟩
end L2
namespace Vl
open PySem L2 PyProof.Rows
theorem EG.wide {X : Cx} {tg : Expr} {is js : List Nat} {g : PD → AS → Option AS} (h : EG X tg is g) (hj : ∀ i ∈ is, i ∈ js) : EG X tg js g := by
  obtain ⟨t, a1, a2⟩ := h.ok
  refine ⟨⟨t, a1, fun G H0 pin ow σ H as v d as' Q S hd hg k => a2 G H0 pin ow σ H as v d as' Q S hd hg fun σ' ow' st S' hl ho => k σ' ow' st S' hl fun j hn => ho j fun h => hn (hj j h)⟩, fun d as as' e => ?_⟩
  obtain ⟨h1, h2⟩ := h.loc d as as' e
  exact ⟨h1, fun j hn => h2 j fun h => hn (hj j h)⟩
def rExtL (K : Fg) : R2 := fun x y H Q => ∃ l b xs zs, x = .ref l ∧ y = .ref b ∧ H l = some (.lst xs) ∧ SqL K H b zs ∧ xs.length + zs.length ≤ sizeLine ∧ Q (.ref l) (upd H l (.lst (xs ++ zs)))
theorem iop_extL {X : Cx} : OpR X (inplaceOp .Add) (rExtL X.K) := by
  intro pins s σ H x y v u Q I rx ry h
  obtain ⟨l, b, xs, zs, rfl, rfl, hH, hB, hz, q⟩ := h
  cases rx
  cases ry
  obtain ⟨z, its, n, r, hl, e⟩ := I.lstM hH
  obtain ⟨its2, r2, p2, _⟩ := I.list hB
  obtain ⟨⟨c2, d2, t2, s2⟩, g2, hc2, n2, ht2⟩ := p2.isList
  simp only at hc2 ht2
  subst hc2 ht2
  have hl2 := r2.length
  have hsz : its.toArray.size + its2.toArray.size ≤ sizeLine := by rw [List.size_toArray, List.size_toArray]; omega
  have hlong : ¬ (!its.toArray.isEmpty && Builtin.List.listTooLong (its.toArray.size + its2.toArray.size)) = true := by
    rw [notLongL hsz, Bool.and_false]
    exact Bool.false_ne_true
  refine iadd_road ⟨_, e, rfl⟩ ⟨_, g2, rfl⟩ (call_meets PySem.F.slot_list_iadd ⟨_, e, rfl⟩ PySem.F.entry_list_iadd (PySem.F.args_list_iadd_2 _ _)
    (list_iaddW l its.toArray n b its2.toArray n2 d2 s2 hlong (by rw [List.size_toArray]; omega) (by omega)) ⟨e, g2, ?_⟩)
  refine ⟨.ref l, _, I.lset (its' := its ++ its2) (t' := s.toks) hH e (by simp) (r.append r2) ?_, rfl, q⟩
  rw [List.length_append]
  omega
def sAugL (i : Nat) (m : M PD) : MS := fun as => match slotL as i with
  | none => none
  | some _ => match m as with
    | some (.list ys, as1) => (match slotL as1 i with
      | none => none
      | some xs => if xs.length + ys.length ≤ sizeLine then some (.nx, setL as1 i (xs ++ ys)) else none)
    | _ => none
theorem es_augL {X : Cx} {i : Nat} {x : Str} {e : Expr} {m : M PD} {pos pos' : Pos} {p : Bool} (hN : X.N.Nodup) (he : EV X p .D e m) (hi : X.N[i]? = some x := by rfl) (hx : L2.Loc X.env.scope x := by first | exact Or.inl rfl | exact Or.inr rfl)
    (hf : X.fn x = true ∨ X.env.scope.names.lookup x = some .local := by first | exact .inl rfl | exact .inr rfl) : ES X (.AugAssign (.Name x pos') .Add e pos) (sAugL i m) := by
  obtain ⟨t, a1, a2⟩ := he.ok
  refine ⟨_, ps_aug hN hi hx a1 (ti := rExtL X.K) (fun pins s σ H v y u w Q I r1 r2 h => iop_extL pins s σ H v y u w Q I r1 r2 h) hf, fun G H0 pin ow σ H as c as' D S hm k => ?_⟩
  unfold sAugL at hm
  split at hm
  · cases hm
  rename_i xs0 q0
  obtain ⟨a, vs0, hz, w0, hv0, _⟩ := S.atL q0
  split at hm
  · rename_i ys as1 q1
    split at hm
    · cases hm
    rename_i xs q2
    split at hm
    · rename_i hlen
      cases hm
      refine ⟨_, hz, a2 G H0 pin ow σ H as _ as1 _ S q1 fun w H1 ow1 st sm S1 lv => ?_⟩
      obtain ⟨b, vs, hz1, w1, hv1, hd1⟩ := S1.atL q2
      rw [hz] at hz1
      cases hz1
      have lv : Dp X.K (Hd ow1 G H0 H1) w (.list ys) := lv
      obtain ⟨b, zs, rfl, hb, hd2⟩ := it_dp.mpr lv
      have e1 := dpa_len hd1
      have e2 := dpa_len hd2
      refine ⟨a, b, vs, zs, rfl, rfl, hv1, sqlM S1.hd hb, by omega, ?_⟩
      obtain ⟨S2, st2⟩ := S1.newL q2 hz w1 (dpa_app hd1 hd2)
      have hs : σ.set i (some (V.ref a)) = σ := by
        refine List.ext_getElem? fun j => ?_
        by_cases hj : i = j
        · subst hj
          rw [List.getElem?_set_self (List.getElem?_eq_some_iff.mp hz).1, hz]
        · rw [List.getElem?_set_ne hj]
      rw [hs]
      exact k _ _ _ (st.dur.trans st2.dur) S2
    · cases hm
  · cases hm
end Vl

-- V23
set_option Elab.async false
set_option linter.all false
set_option maxRecDepth 100000
set_option maxHeartbeats 4000000
/-! xs.pop(i); xs.index(x) -/
namespace Vl
open PySem L2 PyProof.Rows
def fPopAt : List PD → List PD → Option (PD × List PD) := fun xs ds => match ds with
  | [.int i] => if -(2 ^ 63) ≤ i ∧ i < 2 ^ 63 then (seqIndex? i xs.length).bind fun k => (xs[k]?).map fun d => (d, xs.eraseIdx k) else none
  | _ => none
theorem dpa_erase {K : Fg} {H : Hp} : ∀ {vs : List V} {ds : List PD} (k : Nat), DpAll K H vs ds → DpAll K H (vs.eraseIdx k) (ds.eraseIdx k)
  | _, _, _, .nil => .nil
  | _, _, 0, .cons _ t => t
  | _, _, k + 1, .cons h t => .cons h (dpa_erase k t)
theorem rm_popAt {K : Fg} : RmL K rPopAt fPopAt := by
  intro G H a vs ws xs ds d xs' s ha hv hw hf Q k
  unfold fPopAt at hf
  split at hf
  · rename_i i
    split at hf
    · rename_i hb
      cases e : seqIndex? i xs.length with
      | none => rw [e] at hf; cases hf
      | some j =>
        rw [e] at hf
        have hf : (xs[j]?).map (fun d => (d, xs.eraseIdx j)) = some (d, xs') := hf
        cases e2 : xs[j]? with
        | none => rw [e2] at hf; cases hf
        | some y =>
          rw [e2] at hf
          cases hf
          obtain ⟨w, rfl, q⟩ := one_of (of_dpa hw)
          cases q
          obtain ⟨v, e3, q⟩ := dpa_at hv e2
          exact ⟨a, vs, i, j, v, rfl, rfl, ha, hb.1, hb.2, by rw [dpa_len hv]; exact e, e3, k v _ (dpa_erase j hv) q⟩
    · cases hf
  · cases hf
def fRemI : List PD → List PD → Option (PD × List PD) := fun xs ds => match ds with
  | [.int k] => (asInts xs).bind fun ns => (ns.findIdx? fun z => decide (z = k)).map fun j => (.none, (ns.eraseIdx j).map .int)
  | _ => none
theorem rm_remI {K : Fg} : RmL K rRemI fRemI := by
  intro G H a vs ws xs ds d xs' s ha hv hw hf Q k
  unfold fRemI at hf
  split at hf
  · rename_i i
    cases e : asInts xs with
    | none => rw [e] at hf; cases hf
    | some ns =>
      rw [e] at hf
      have hf : (ns.findIdx? fun z => decide (z = i)).map (fun j => (PyData.none, (ns.eraseIdx j).map .int)) = some (d, xs') := hf
      cases e2 : ns.findIdx? (fun z => decide (z = i)) with
      | none => rw [e2] at hf; cases hf
      | some j =>
        rw [e2] at hf
        cases hf
        obtain ⟨w, rfl, q⟩ := one_of (of_dpa hw)
        cases q
        obtain ⟨h1, h2, h3⟩ := List.findIdx?_eq_some_iff_getElem.mp e2
        have hvs := dpa_ints (by rw [asInts_map e] at hv; exact hv)
        subst hvs
        refine ⟨a, ns, i, j, rfl, rfl, ha, by rw [List.getElem?_eq_getElem h1]; exact congrArg some (of_decide_eq_true h2), fun m hm hz => ?_, k .non _ (ints_dpa _) Dp.non⟩
        have hm2 : m < ns.length := by omega
        rw [List.getElem?_eq_getElem hm2] at hz
        have h4 := h3 m hm
        rw [Option.some.inj hz] at h4
        simp at h4
  · cases hf
/-! ### methods of a list that is read -/
def RbL (K : Fg) (r : V → List V → Hp → VK → Prop) (f : List PD → List PD → Option PD) : Prop := ∀ (H : Hp) (a : Addr) (vs : List V) (xs ds : List PD) (d : PD), Dp K H (.ref a) (.list xs) → DpAll K H vs ds → f xs ds = some d →
  ∀ Q : VK, (∀ z, Dp K nil z d → Q z H) → r (.ref a) vs H Q
def mBm (f : List PD → List PD → Option PD) (m : M PD) (ms : M (List PD)) : M PD := mBind m fun x => mBind ms fun ds => match x with
  | .list xs => mOpt (f xs ds)
  | _ => mOpt none
def fIndex : List PD → List PD → Option PD := fun xs ds => match ds with
  | [d] => if SeqAt.shaped (.list xs) = true ∧ SeqAt.shaped d = true then (xs.findIdx? fun z => PyData.eqv z d).map fun (j : Nat) => .int (j : Int) else none
  | _ => none
theorem rb_index {K : Fg} : RbL K (rIndexD K) fIndex := by
  intro H a vs xs ds d hl hv hf Q k
  unfold fIndex at hf
  split at hf
  · rename_i y
    split at hf
    · rename_i hc
      cases e : xs.findIdx? (fun z => PyData.eqv z y) with
      | none => rw [e] at hf; cases hf
      | some j =>
        rw [e] at hf
        cases hf
        obtain ⟨w, rfl, q⟩ := one_of (of_dpa hv)
        obtain ⟨h1, h2, h3⟩ := List.findIdx?_eq_some_iff_getElem.mp e
        refine ⟨a, w, y, xs, j, xs[j], rfl, rfl, hl, q, hc.1, hc.2, List.getElem?_eq_getElem h1, h2, fun m z' hm hz => ?_, k _ (Dp.int _)⟩
        have hm2 : m < xs.length := by omega
        rw [List.getElem?_eq_getElem hm2] at hz
        cases hz
        simpa using h3 m hm
    · cases hf
  · cases hf
def fCntI : List PD → List PD → Option PD := fun xs ds => match ds with
  | [.int k] => (asInts xs).map fun ns => .int (ns.count k : Nat)
  | _ => none
theorem rb_cntI {K : Fg} : RbL K (rCntI K) fCntI := by
  intro H a vs xs ds d hl hv hf Q k
  unfold fCntI at hf
  split at hf
  · rename_i i
    cases e : asInts xs with
    | none => rw [e] at hf; cases hf
    | some ns =>
      rw [e] at hf
      cases hf
      obtain ⟨w, rfl, q⟩ := one_of (of_dpa hv)
      cases q
      cases hl with
      | @lst _ vs _ h1 h2 =>
      have hvs := dpa_ints (by rw [asInts_map e] at h2; exact h2)
      subst hvs
      exact ⟨a, ns, i, rfl, rfl, h1, k _ (Dp.int _)⟩
  · cases hf
section
variable {X : Cx} {p1 p2 : Bool} {l l2 : Lv} {name : Str} {id : String} {r : V → List V → Hp → VK → Prop} {f : List PD → List PD → Option PD} {apos cpos : Pos}
theorem ev_bm {o e : Expr} {es : List Expr} {mo : M PD} {ms : M (List PD)} (slot : PySem.Slot "list" name id) (hty : typeOf (.builtin id) = pure (.type "method_descriptor")) (hm : MtR X id r) (hr : RbL X.K r f) (ho : EV X p1 l o mo) (ha : EA X p2 l2 (e :: es) ms)
    (hs0 : l = .D ∨ p2 = true := by first | exact .inr rfl | exact .inl rfl)
    (hbase : attributeBase o name X.env (eval o X.env) = eval o X.env := by rfl)
    (hfew : ((backTo cpos (starEach (e :: es) X.env)).all (fun x => !x.1) && (backToKw cpos (keywordEach [] X.env)).all (fun x => x.1.isSome)
      && decide ((e :: es).length + ([] : List Keyword).length + (if ([] : List Keyword).isEmpty then 0 else 1) < 30)) = true := by rfl)
    (hline : (apos.endLine == cpos.line) = true := by rfl) (hs : starEach (e :: es) X.env = (false, eval e X.env) :: starEach es X.env := by rfl) (hplain : (backTo cpos (starEach es X.env)).any (·.1) = false := by rfl) :
    EV X (p1 && p2) .D (.Call (.Attribute o name apos) (e :: es) [] cpos) (mBm f mo ms) := by
  obtain ⟨t, a1, a2⟩ := ho.ok
  obtain ⟨u, b1, b2⟩ := ha.ok
  have inv : ∀ {as : AS} {d : PD} {as' : AS}, mBm f mo ms as = some (d, as') → ∃ xs ds as1, mo as = some (.list xs, as1) ∧ ms as1 = some (ds, as') ∧ f xs ds = some d := fun {as d as'} h => by
    obtain ⟨x, as1, q1, h⟩ := bind_some h
    obtain ⟨ds, as2, q2, h⟩ := bind_some h
    cases x with
    | list xs =>
      obtain ⟨q3, rfl⟩ := opt_some h
      exact ⟨xs, ds, as1, q1, q2, q3⟩
    | _ => cases h
  refine ⟨fun z as d as' h => ?_, _, pe_bm PySem.F.plainAttrs_list slot hty hm a1 b1 hbase hfew hline hs hplain, fun G H0 pin ow σ H as d as' Q S hm k => ?_⟩
  · have z' : p1 = true ∧ p2 = true := by simpa using z
    obtain ⟨xs, ds, as1, q1, q2, _⟩ := inv h
    exact (ha.pur z'.2 _ _ _ q2).trans (ho.pur z'.1 _ _ _ q1)
  · obtain ⟨xs, ds, as1, q1, q2, q3⟩ := inv hm
    refine a2 G H0 pin ow σ H as _ as1 _ S q1 fun v H1 ow1 st1 sm1 S1 lv1 => ?_
    have dv1 := lv_dp S1.hd lv1
    cases dv1 with
    | @lst a vs _ h1 h2 =>
    refine ⟨.inl ⟨rfl, _, h1⟩, b2 G H0 pin ow1 σ H1 as1 ds as' _ S1 q2 fun ws H2 ow2 st2 sm2 S2 lv2 => ?_⟩
    have lv1' := lvM st2.dur (hs0.imp (fun h => h) sm2) lv1
    have hds : DpAll X.K H2 ws ds := dpa_of (paired_map lv2 fun _ _ h => lv_dp S2.hd h)
    refine hr H2 a ws xs ds d (lv_dp S2.hd lv1') hds q3 _ fun z dz => k z H2 ow2 (st1.trans st2) (fun z => ?_) S2 (dpM same_nil _ _ dz)
    have z' : p1 = true ∧ p2 = true := by simpa using z
    exact (sm1 z'.1).trans (sm2 z'.2)
end
end Vl

-- V24
set_option Elab.async false
set_option linter.all false
set_option maxRecDepth 100000
set_option maxHeartbeats 4000000
/-! k in d, d a dict of one's own -/
namespace Vl
open PySem L2 PyProof.Rows
def rInDict (neg : Bool) : R2 := fun x y H Q => ∃ a o, y = .ref a ∧ DGet H a x o ∧ Q (.bl (if neg = true then !o.isSome else o.isSome)) H
section
variable {X : Cx}
theorem op_inDict (hu : X.A.units + 1 < cLine) : OpR X (compareOp .In) (rInDict false) := by
  intro pins s σ H x y v u Q I rx ry h
  obtain ⟨a, o, rfl, g, q⟩ := h
  cases ry
  exact d_in hu I g rx fun s' I' => ⟨.bl o.isSome, H, I', rfl, q⟩
theorem op_notInDict (hu : X.A.units + 1 < cLine) : OpR X (compareOp .NotIn) (rInDict true) := by
  intro pins s σ H x y v u Q I rx ry h
  obtain ⟨a, o, rfl, g, q⟩ := h
  cases ry
  exact d_notIn hu I g rx fun s' I' => ⟨.bl (!o.isSome), H, I', rfl, q⟩
def mInD (i : Nat) (neg : Bool) (mk : M PD) : M PD := fun as => match mk as with
  | none => none
  | some (kd, as1) => match slotD as1 i with
    | none => none
    | some kvs => match kOf kd with
      | none => none
      | some k => some (.bool (if neg = true then !(valP kvs k).isSome else (valP kvs k).isSome), as1)
def mInDB (i : Nat) (neg : Bool) (mk : M PD) : M Bool := m1 asB (mInD i neg mk)
variable {i : Nat} {x : Str} {npos pos : Pos} {e : Expr} {me : M PD} {p : Bool} {op : CmpOp} {neg : Bool}
theorem inD_some {as : AS} {d : PD} {as' : AS} (h : mInD i neg me as = some (d, as')) : ∃ kd kvs k, me as = some (kd, as') ∧ slotD as' i = some kvs ∧ kOf kd = some k ∧ d = .bool (if neg = true then !(valP kvs k).isSome else (valP kvs k).isSome) := by
  unfold mInD at h
  split at h
  · cases h
  rename_i kd as1 q1
  split at h
  · cases h
  rename_i kvs q2
  split at h
  · cases h
  rename_i k q3
  cases h
  exact ⟨kd, kvs, k, q1, q2, q3, rfl⟩
theorem inD_ok (he : EV X p .D e me) (hN : X.N[i]? = some x) (hv : Vis X.env.scope x) (hd : (x == ("__debug__" : Str)) = false) (hcd : (x == ("__classdict__" : Str)) = false) :
    ∃ ta tb, PE X e ta ∧ PE X (.Name x npos) tb ∧ ∀ (G H0 : Hp) (pin : Nat → Addr) (ow : Ow) (σ : L2.St) (H : Hp) (as : AS) (d : PD) (as' : AS) (Q : VK), SR X.K G H0 pin ow σ H as → mInD i neg me as = some (d, as') →
      (∀ b H' ow', d = .bool b → Stp G H0 ow H ow' H' → (p = true → Same H H') → SR X.K G H0 pin ow' σ H' as' → Q (.bl b) H') → tOp (rInDict neg) ta tb σ H Q := by
  obtain ⟨ta, a1, a2⟩ := he.ok
  refine ⟨ta, _, a1, pe_var hN hv hd hcd, fun G H0 pin ow σ H as d as' Q S hm k => ?_⟩
  obtain ⟨kd, kvs, kk, q1, q2, q3, rfl⟩ := inD_some hm
  refine a2 G H0 pin ow σ H as kd as' _ S q1 fun v H1 ow1 st sm S1 lv => ?_
  obtain ⟨b, ps, hz, w, hr, hp⟩ := S1.atD q2
  have ek := kOf_dp lv q3
  refine ⟨_, hz, b, valV ps kk, rfl, .inl ⟨ps, kk, hr, ek, rfl⟩, ?_⟩
  have e1 : (valV ps kk).isSome = (valP kvs kk).isSome := by
    rcases val_pair hp kk with ⟨e1, e2⟩ | ⟨v', d', e1, e2, _⟩
    · rw [e1, e2] <;> rfl
    · rw [e1, e2] <;> rfl
  rw [e1]
  exact k _ H1 ow1 rfl st sm S1
theorem ev_inD (hop : OpR X (compareOp op) (rInDict neg)) (he : EV X p .D e me) (hN : X.N[i]? = some x := by rfl) (hv : Vis X.env.scope x := by first | exact Or.inl rfl | exact Or.inr (Or.inl rfl) | exact Or.inr (Or.inr rfl)) (hd : (x == ("__debug__" : Str)) = false := by decide)
    (hcd : (x == ("__classdict__" : Str)) = false := by decide) (hm : behindInMarks op (.Name x npos) = false := by rfl) : EV X p .D (.Compare e [op] [.Name x npos] pos) (mInD i neg me) := by
  obtain ⟨ta, tb, a1, b1, q⟩ := inD_ok (npos := npos) (neg := neg) he hN hv hd hcd
  refine ⟨fun z as d as' h => ?_, _, pe_cmpR hop a1 b1 hm, fun G H0 pin ow σ H as d as' Q S hm k => q G H0 pin ow σ H as d as' Q S hm fun b H' ow' hb st sm S' => ?_⟩
  · obtain ⟨kd, kvs, kk, q1, _⟩ := inD_some h
    exact he.pur z _ _ _ q1
  · subst hb
    exact k _ H' ow' st sm S' (Dp.bl b)
theorem et_inD (hop : OpR X (compareOp op) (rInDict neg)) (he : EV X p .D e me) (hN : X.N[i]? = some x := by rfl) (hv : Vis X.env.scope x := by first | exact Or.inl rfl | exact Or.inr (Or.inl rfl) | exact Or.inr (Or.inr rfl)) (hd : (x == ("__debug__" : Str)) = false := by decide)
    (hcd : (x == ("__classdict__" : Str)) = false := by decide) (hm : behindInMarks op (.Name x npos) = false := by rfl) : ET X p (.Compare e [op] [.Name x npos] pos) (mInDB i neg me) := by
  obtain ⟨ta, tb, a1, b1, q⟩ := inD_ok (npos := npos) (neg := neg) he hN hv hd hcd
  have inv : ∀ {as : AS} {b : Bool} {as' : AS}, mInDB i neg me as = some (b, as') → mInD i neg me as = some (.bool b, as') := fun {as b as'} h => by
    obtain ⟨d, as1, q1, h⟩ := bind_some h
    obtain ⟨q2, rfl⟩ := opt_some h
    cases d <;> cases q2
    exact q1
  refine ⟨fun z as d as' h => ?_, _, pt_cmpR hop a1 b1 hm, fun G H0 pin ow σ H as d as' Q S hm k => q G H0 pin ow σ H as _ as' _ S (inv hm) fun b H' ow' hb st sm S' => ?_⟩
  · obtain ⟨kd, kvs, kk, q1, _⟩ := inD_some (inv h)
    exact he.pur z _ _ _ q1
  · cases hb
    exact ⟨_, rfl, k H' ow' st sm S'⟩
end
end Vl

-- V25
set_option Elab.async false
set_option linter.all false
set_option maxRecDepth 100000
set_option maxHeartbeats 4000000
/-! xs[::-1], a list or a tuple -/
namespace L2
open PySem PySem.Spec PyProof.Rows HT
section
variable {prog : Program} {w : World} {A : Around} {E : Value → Shared → Prop} {s : Shared}
theorem sliceApplied_rev {sl : Addr} {vl vu vs : Value} {n : Nat} {Q : Int × Int × Nat → Shared → Prop} (hs : s.heap.IsSliceOf sl vl vu vs) (pl : IsPart vl none) (pu : IsPart vu none) (ps : IsPart vs (some (-1)))
    (h : Q ((n : Int) - 1, -1, n) s) : wpAny (model prog w) A (Builtin.Slice.sliceApplied (.ref sl) (pure (n : Int))) Q E s := by
  obtain ⟨os, hos, hcs, hds⟩ := id hs
  unfold Builtin.Slice.sliceApplied Builtin.Slice.sliceFields
  refine wpAny_bind (wpAny_bind (wpAny_field hos hds (x := vl) rfl (wpAny_bind (wpAny_field hos hds (x := vu) rfl (wpAny_bind (wpAny_field hos hds (x := vs) rfl (wpAny_pure ?_)))))))
  refine wpAny_bind (slicePart_ ps ?_)
  show wpAny _ _ (if ((-1 : Int) == 0) = true then _ else _) _ _ s
  rw [if_neg (by decide)]
  refine wpAny_bind (slicePart_ pl (wpAny_bind (slicePart_ pu (wpAny_bind (wpAny_pure ?_)))))
  have e1 : Builtin.Slice.sliceAdjust none none (-1) (n : Int) = ((n : Int) - 1, -1) := by simp [Builtin.Slice.sliceAdjust]
  have e2 : Builtin.Slice.slicePlaces ((n : Int) - 1) (-1) (-1) = n := by
    unfold Builtin.Slice.slicePlaces
    rw [if_neg (by decide)]
    by_cases hn : (n : Int) - 1 > -1
    · rw [if_pos hn, show (-(-1) : Int) = 1 by decide, Int.ediv_one]; omega
    · rw [if_neg hn]; omega
  show wpAny _ _ (match Builtin.Slice.sliceAdjust none none (-1) (n : Int) with | (lo, hi) => pure (lo, (-1 : Int), Builtin.Slice.slicePlaces lo hi (-1))) _ _ s
  rw [e1]
  show wpAny _ _ (pure ((n : Int) - 1, (-1 : Int), Builtin.Slice.slicePlaces ((n : Int) - 1) (-1) (-1))) _ _ s
  rw [e2]
  exact wpAny_pure h
theorem fm_congr {α β : Type} {f g : α → Option β} : ∀ {l : List α}, (∀ x ∈ l, f x = g x) → l.filterMap f = l.filterMap g
  | [], _ => rfl
  | x :: l, h => by rw [List.filterMap_cons, List.filterMap_cons, h x List.mem_cons_self, fm_congr fun y hy => h y (List.mem_cons_of_mem _ hy)]
theorem pick_rev (xs : Array Value) : ((List.range xs.size).filterMap fun (m : Nat) => xs[((xs.size : Int) - 1 + (m : Int) * -1).toNat]?).toArray = xs.toList.reverse.toArray := by
  have e : (List.range xs.size).filterMap (fun (m : Nat) => xs[((xs.size : Int) - 1 + (m : Int) * -1).toNat]?) = ((List.range xs.size).map fun k => xs.size - 1 - k).filterMap (xs[·]?) := by
    rw [List.filterMap_map]
    refine fm_congr fun m hm => ?_
    rw [List.mem_range] at hm
    show _ = xs[xs.size - 1 - m]?
    congr 1
    omega
  rw [e, PySem.W.krv_range, List.filterMap_reverse, PySem.W.krv_all]
theorem getItem_tuple_rev {t sl : Addr} {items : Array Value} {vl vu vs : Value} {Q : Value → Shared → Prop} (ht : IsTup s.heap t items) (hs : s.heap.IsSliceOf sl vl vu vs) (pl : IsPart vl none) (pu : IsPart vu none) (ps : IsPart vs (some (-1)))
    (h : Q (.ref s.heap.objs.size) { s with heap := s.heap.push { cls := .type "tuple", data := .seq items.toList.reverse.toArray } }) (hsz : items.size ≤ sizeLine) : wpAny (model prog w) A (getItem (.ref t) (.ref sl)) Q E s := by
  obtain ⟨os, hos, hcs, hds⟩ := id hs
  have hTs : s.TypeIs (.ref sl) "slice" := ⟨os, hos, hcs⟩
  unfold getItem
  try with_reducible refine wpAny_holding ?_
  first | refine wpAny_bind (wpAny_pure ?_) | skip
  refine wpAny_bind (wpAny_sequenceKey ht.typeIs (by decide) ?_)
  refine wpAny_bind (wpAny_callSpecial?_slot (name := Str.ofString "__getitem__") ht.typeIs PyProof.Rows.slot_tuple_getitem
    (wpAny_call_entry PyProof.Rows.slot_tuple_getitem ht.typeIs entry_tuple_getitem ?_ (args_tuple_getitem _ _)))
  show wpAny _ _ (Builtin.Tuple.tupleItemsOf (.ref t) >>= _) _ _ s
  refine wpAny_bind (tupleItemsOf_ ht ?_)
  refine wpAny_bind (wpAny_typeOf hTs ?_)
  rw [if_pos (by decide)]
  refine wpAny_bind (sliceApplied_rev hs pl pu ps ?_)
  have hno : ((((items.size : Int) - 1) == 0 && (-1 : Int) == 1 && items.size == items.size)) = false := by simp
  show wpAny _ _ (if (((items.size : Int) - 1) == 0 && (-1 : Int) == 1 && items.size == items.size) = true then _ else _) _ _ s
  rw [if_neg (by rw [hno]; exact Bool.false_ne_true)]
  show wpAny _ _ (Builtin.Tuple.tupleExact ((List.range items.size).filterMap fun (m : Nat) => items[((items.size : Int) - 1 + (m : Int) * -1).toNat]?).toArray >>= _) _ _ s
  rw [pick_rev]
  exact wpAny_bind (wpAny_newObj_type (wpAny_pure ⟨_, rfl, wpAny_pure h⟩) (by show items.toList.reverse.toArray.size ≤ sizeLine; simpa using hsz))
end
section
variable {X : Cx}
def tRevT (K : PySem.W.Frag) (te : TE) : TE := fun σ H Q => te σ H fun x H1 => ∃ a xs, x = .ref a ∧ ((SqL K H1 a xs ∧ ∀ p, H1 p = none → Q (.ref p) (upd H1 p (.lst xs.reverse))) ∨ (SqT K H1 a xs ∧ ∀ p, H1 p = none → Q (.ref p) (upd H1 p (.tup xs.reverse))))
theorem pe_revT {e : Expr} {te : TE} {k : Nat} {p1 p2 p3 pos : Pos} (he : PE X e te) : PE X (.Subscript e (.Slice none none (some (.UnaryOp .USub (.Constant (.int 1) k p1) p2)) p3) pos) (tRevT X.K te) := by
  refine ⟨fun pins s σ H Q I h => ?_⟩
  refine Subscript_ (thn (he.run pins s σ H _ I h) fun v s1 ⟨x, H1, I1, r1, q1⟩ => ?_)
  obtain ⟨a, xs, ex, q⟩ := q1
  subst ex
  cases r1
  have hst : PO X (some (.UnaryOp .USub (.Constant (.int 1) k p1) p2)) (tPart (tUn (rU fun i => .int (-i)) (tC (.int 1)))) := po_some (pe_un un_neg pe_int)
  refine wpAny_Slice (thn (po_none.run pins s1 σ H1 (fun o H2 => o = none ∧ H2 = H1) I1 ⟨rfl, rfl⟩) fun vl s2 ⟨l, H2, I2, pl, el, e2⟩ => ?_)
  subst el e2
  refine thn (po_none.run pins s2 σ H2 (fun o H3 => o = none ∧ H3 = H2) I2 ⟨rfl, rfl⟩) fun vu s3 ⟨u, H3, I3, pu, eu, e3⟩ => ?_
  subst eu e3
  refine thn (hst.run pins s3 σ H3 (fun o H4 => o = some (-1) ∧ H4 = H3) I3 ⟨1, rfl, -1, rfl, rfl, rfl⟩) fun vs s4 ⟨o, H4, I4, ps, eo, e4⟩ => ?_
  subst eo e4
  have I5 : Inv X pins σ H4 { s4 with heap := s4.heap.push { cls := .type "slice", data := .fields #[vl, vu, vs] } } := I4.kept (t' := s4.toks) fun b ob q => Heap.get?_push_of_some _ q
  rcases q with ⟨hx, q⟩ | ⟨hx, q⟩
  · obtain ⟨its, r, ht, hz⟩ := I5.list hx
    have hlen := r.length
    show wpAny (model X.prog X.w) X.A (subscriptTail e (.Slice none none (some (.UnaryOp .USub (.Constant (.int 1) k p1) p2)) p3) (.ref a) (.ref s4.heap.objs.size)) (EP X pins σ Q) X.xe { s4 with heap := s4.heap.push { cls := .type "slice", data := .fields #[vl, vu, vs] } }
    refine tail_any (ops := [.ref a, .ref s4.heap.objs.size]) ht.isList.typeIs (PySem.slot_list_getitem.lookup) ?_ (by with_unfolding_all rfl)
    refine wpAny_getItem_list_slice ht.isList (Heap.IsSliceOf.new _ vl vu vs) pl pu ps (by decide) ?_ (by rw [List.size_toArray]; omega)
    rw [PySem.W.krv_pick]
    refine ⟨.ref _, _, I5.laid (t' := s4.toks) (o := .lst xs.reverse) (fun b ob q => Heap.get?_push_of_some _ q) (Nat.le_refl _) ?_, rfl, q _ (I5.hok.fresh (Nat.le_refl _))⟩
    exact ⟨by rw [List.length_reverse]; exact hz, _, 0, r.reverse, Heap.get?_push_size _ rfl⟩
  · obtain ⟨its, r, ht, hz⟩ := I5.tuple hx
    have hlen := r.length
    show wpAny (model X.prog X.w) X.A (subscriptTail e (.Slice none none (some (.UnaryOp .USub (.Constant (.int 1) k p1) p2)) p3) (.ref a) (.ref s4.heap.objs.size)) (EP X pins σ Q) X.xe { s4 with heap := s4.heap.push { cls := .type "slice", data := .fields #[vl, vu, vs] } }
    refine tail_any (ops := [.ref a, .ref s4.heap.objs.size]) ht.typeIs (PyProof.Rows.slot_tuple_getitem.lookup) ?_ (by with_unfolding_all rfl)
    refine getItem_tuple_rev ht (Heap.IsSliceOf.new _ vl vu vs) pl pu ps ?_ (by rw [List.size_toArray]; omega)
    refine ⟨.ref _, _, I5.laid (t' := s4.toks) (o := .tup xs.reverse) (fun b ob q => Heap.get?_push_of_some _ q) (Nat.le_refl _) ?_, rfl, q _ (I5.hok.fresh (Nat.le_refl _))⟩
    exact ⟨by rw [List.length_reverse]; exact hz, _, r.reverse, IsTup.new _ _⟩
end
end L2
namespace Vl
open PySem L2 PyProof.Rows
def fRevS : PD → Option Res
  | .list ds => some (.obj (.ol ds.reverse))
  | .tuple ds => some (.val (.tuple ds.reverse))
  | _ => none
theorem ef_revS {X : Cx} {e : Expr} {m : M PD} {p : Bool} {l : Lv} {k : Nat} {p1 p2 p3 pos : Pos} (he : EV X p l e m) (hl : l ≠ .B := by nofun) : EF X p (.Subscript e (.Slice none none (some (.UnaryOp .USub (.Constant (.int 1) k p1) p2)) p3) pos) (m1 fRevS m) := by
  obtain ⟨t, a1, a2⟩ := he.ok
  refine ⟨fun z => pur1 he.pur z, _, pe_revT a1, fun G H0 pin ow σ H as r as' Q S hm k' => ?_⟩
  obtain ⟨d, as1, q1, h⟩ := bind_some hm
  obtain ⟨q2, rfl⟩ := opt_some h
  refine a2 G H0 pin ow σ H as d as' _ S q1 fun v H1 ow1 st sm S1 lv => ?_
  have lv := lv_it S1.hd hl lv
  unfold fRevS at q2
  split at q2
  · cases q2
    obtain ⟨a, xs, rfl, h1, h2⟩ := lv
    exact ⟨a, xs, rfl, .inl ⟨h1, fun q hq => fin_o S1 st sm (upd_grow hq) (ok_lst S1.hd hq (dpa_rev h2)) k'⟩⟩
  · cases q2
    cases lv with
    | @tup a xs _ h1 h2 =>
    exact ⟨a, xs, rfl, .inr ⟨sqtM S1.hd h1, fun q hq => fin_o S1 st sm (upd_grow hq) (ok_tup S1.hd hq (dpa_rev h2)) k'⟩⟩
  · cases q2
end Vl

-- V26
set_option Elab.async false
set_option linter.all false
set_option maxRecDepth 100000
set_option maxHeartbeats 4000000
/-! xs[i] op= e, xs a list of one's own -/
namespace Vl
open PySem L2 PyProof.Rows
theorem get_list {X : Cx} : PGet X (rIxL X.K) := by
  intro pins s σ H x y v u Q I rx ry h
  obtain ⟨p, xs, i, z, rfl, rfl, hq, he, q⟩ := h
  cases rx
  obtain ⟨t, rfl⟩ := ry
  obtain ⟨its, r, pl, hz⟩ := I.list hq
  obtain ⟨j, h1, h2, h3, h4, h5⟩ := atI_get he
  obtain ⟨w, ew, rw'⟩ := r.get h2
  have hl := r.length
  have hn := line63
  have fin : EP X pins σ Q w s := ⟨z, H, I, rw', q⟩
  by_cases h0 : 0 ≤ i
  · have hj : i.toNat = j := by
      rw [seqIndex_of h0 h5] at h1
      exact Option.some.inj h1
    exact wpAny_getItem_list pl.isList h0 (by omega) (by rw [hj]; simpa using ew) fin
  · have hj : (i + (its.toArray.size : Int)).toNat = j := by
      rw [seqIndex_neg (by omega) h4] at h1
      rw [List.size_toArray, ← hl]
      exact Option.some.inj h1
    exact wpAny_getItem_list_neg pl.isList (by omega) (by rw [List.size_toArray] <;> omega) (by omega) (by rw [hj]; simpa using ew) fin
def sAugS (i : Nat) (mk : M PD) (f : PD → PD → Option PD) (me : M PD) : MS := fun as => match slotL as i with
  | none => none
  | some _ => match mk as with
    | some (.int k, as1) => match slotL as1 i with
      | none => none
      | some xs => match atI xs k with
        | none => none
        | some d => match me as1 with
          | none => none
          | some (y, as2) => match f d y with
            | none => none
            | some z => match slotL as2 i with
              | none => none
              | some xs2 => match ixN xs2.length k with
                | none => none
                | some j => some (.nx, setL as2 i (xs2.set j z))
    | _ => none
theorem atI_dpa {K : Fg} {H : Hp} {vs : List V} {ds : List PD} {k : Int} {d : PD} (h : DpAll K H vs ds) (e : atI ds k = some d) : ∃ v, atI vs k = some v ∧ Dp K H v d := atI_paired (of_dpa h) e
theorem es_augS {X : Cx} {i : Nat} {x : Str} {npos pos tpos : Pos} {idx e : Expr} {mk me : M PD} {p1 p2 : Bool} {l l2 : Lv} {op : Operator} {r : R2} {f : PD → PD → Option PD} (ho : OpR X (inplaceOp op) r) (hr : R2S X.K r f) (hk : EV X p1 l idx mk) (he : EV X p2 l2 e me)
    (hN : X.N[i]? = some x := by rfl) (hv : Vis X.env.scope x := by first | exact Or.inl rfl | exact Or.inr (Or.inl rfl) | exact Or.inr (Or.inr rfl)) (hd : (x == ("__debug__" : Str)) = false := by decide)
    (hcd : (x == ("__classdict__" : Str)) = false := by decide)
    (ha : ∀ ov iv new, augStore idx ov iv new = (do holding [new, ov, iv] (setItem ov iv new); release [new, ov, iv] []; pure .next) := by intros; rfl) : ES X (.AugAssign (.Subscript (.Name x npos) idx tpos) op e pos) (sAugS i mk f me) := by
  obtain ⟨t, a1, a2⟩ := hk.ok
  obtain ⟨u, b1, b2⟩ := he.ok
  refine ⟨_, ps_augS (tget := rIxL X.K) (tip := r) (tset := rSetL) (pe_var hN hv hd hcd) a1 get_list b1 (fun pins s σ H v y u w Q I r1 r2 h => ho pins s σ H v y u w Q I r1 r2 h) set_list ha, fun G H0 pin ow σ H as c as' D S hm k => ?_⟩
  unfold sAugS at hm
  split at hm
  · cases hm
  rename_i xs0 q0
  obtain ⟨a, vs0, hz, w0, hv0, hd0⟩ := S.atL q0
  split at hm
  · rename_i n as1 q1
    split at hm
    · cases hm
    rename_i xs q2
    split at hm
    · cases hm
    rename_i d q3
    split at hm
    · cases hm
    rename_i y as2 q4
    split at hm
    · cases hm
    rename_i z q5
    split at hm
    · cases hm
    rename_i xs2 q6
    split at hm
    · cases hm
    rename_i j q7
    cases hm
    refine ⟨_, hz, a2 G H0 pin ow σ H as _ as1 _ S q1 fun w H1 ow1 st sm S1 lv => ?_⟩
    have lv := lv_dp S1.hd lv
    cases lv
    obtain ⟨b, vs, hz1, w1, hv1, hd1⟩ := S1.atL q2
    rw [hz] at hz1
    cases hz1
    obtain ⟨v, e1, dv⟩ := atI_dpa hd1 q3
    refine ⟨a, vs, n, v, rfl, rfl, SqL.of hv1, e1, ?_⟩
    refine b2 G H0 pin ow1 σ H1 as1 y as2 _ S1 q4 fun v2 H2 ow2 st2 sm2 S2 lv2 => ?_
    have dv2 := dpM S2.hd _ _ (dpM st2.dur _ _ dv)
    refine hr _ _ _ _ _ _ dv2 (lv_dp S2.hd lv2) q5 _ fun z' H3 s3 dz => ?_
    obtain ⟨S3, st3⟩ := S2.grow s3
    obtain ⟨b, vs2, hz2, w2, hv2, hd2⟩ := S3.atL q6
    rw [hz] at hz2
    cases hz2
    obtain ⟨S4, st4⟩ := S3.newL q6 hz w2 (dpa_set (dpM same_nil _ _ dz) j hd2)
    exact ⟨a, vs2, n, j, rfl, rfl, hv2, by rw [dpa_len hd2]; exact q7, k _ _ _ (st.dur.trans (st2.dur.trans (st3.dur.trans st4.dur))) S4⟩
  · cases hm
theorem es_augSAdd {X : Cx} {i : Nat} {x : Str} {npos pos tpos : Pos} {idx e : Expr} {mk me : M PD} {p1 p2 : Bool} {l l2 : Lv} (hk : EV X p1 l idx mk) (he : EV X p2 l2 e me)
    (hN : X.N[i]? = some x := by rfl) (hv : Vis X.env.scope x := by first | exact Or.inl rfl | exact Or.inr (Or.inl rfl) | exact Or.inr (Or.inr rfl)) (hd : (x == ("__debug__" : Str)) = false := by decide)
    (hcd : (x == ("__classdict__" : Str)) = false := by decide)
    (ha : ∀ ov iv new, augStore idx ov iv new = (do holding [new, ov, iv] (setItem ov iv new); release [new, ov, iv] []; pure .next) := by intros; rfl) : ES X (.AugAssign (.Subscript (.Name x npos) idx tpos) .Add e pos) (sAugS i mk (fInt fun a b => some (.int (a + b))) me) := es_augS iop_add (r2s_int0 fun i j d h => by cases h; exact Dp.int _) hk he hN hv hd hcd ha
theorem es_augSSub {X : Cx} {i : Nat} {x : Str} {npos pos tpos : Pos} {idx e : Expr} {mk me : M PD} {p1 p2 : Bool} {l l2 : Lv} (hk : EV X p1 l idx mk) (he : EV X p2 l2 e me)
    (hN : X.N[i]? = some x := by rfl) (hv : Vis X.env.scope x := by first | exact Or.inl rfl | exact Or.inr (Or.inl rfl) | exact Or.inr (Or.inr rfl)) (hd : (x == ("__debug__" : Str)) = false := by decide)
    (hcd : (x == ("__classdict__" : Str)) = false := by decide)
    (ha : ∀ ov iv new, augStore idx ov iv new = (do holding [new, ov, iv] (setItem ov iv new); release [new, ov, iv] []; pure .next) := by intros; rfl) : ES X (.AugAssign (.Subscript (.Name x npos) idx tpos) .Sub e pos) (sAugS i mk (fInt iSub) me) := es_augS iop_sub (r2s_int0 fun i j d h => by cases h; exact Dp.int _) hk he hN hv hd hcd ha
end Vl

-- V27
set_option Elab.async false
set_option linter.all false
set_option maxRecDepth 100000
set_option maxHeartbeats 4000000
/-! math.gcd -/
namespace Vl
open PySem L2
def fGcd : List PD → Option PD
  | [.int a, .int b] => some (.int ((Nat.gcd a.natAbs b.natAbs : Nat) : Int))
  | _ => none
theorem rns_gcd {K : Fg} : RnS K rGcd fGcd := by
  intro H xs ds d h hf Q k
  unfold fGcd at hf
  split at hf
  · rename_i a b
    cases hf
    obtain ⟨v, w, rfl, h1, h2⟩ := two_of h
    cases h1
    cases h2
    exact ⟨a, b, rfl, k _ H (Same.refl H) (Dp.int _)⟩
  · cases hf
section
variable {X : Cx} {p : Bool} {l : Lv} {pos : Pos}
theorem ev_callBf {id : String} {r : List V → Hp → VK → Prop} {f : List PD → Option PD} {x : Str} {q : Pos} {e : Expr} {es : List Expr} {ms : M (List PD)} (hc : CallR X (.builtin id) r) (hr : RnS X.K r f) (hm : X.mg x = some (.builtin id)) (ha : EA X p l (e :: es) ms)
    (hg : Gl X x := by rfl) (hdb : (x == ("__debug__" : Str)) = false := by decide)
    (h3 : starEach (e :: es) X.env = (false, eval e X.env) :: starEach es X.env := by rfl) (h4 : (backTo pos (starEach es X.env)).any (·.1) = false := by rfl) : EV X p .D (.Call (.Name x q) (e :: es) [] pos) (mS f ms) := by
  obtain ⟨t, a1, a2⟩ := ha.ok
  refine ⟨fun z => pur_n ha.pur z, _, pe_callBfun hc hg hm a1 hdb h3 h4, fun G H0 pin ow σ H as r as' Q S hm k => ?_⟩
  obtain ⟨xs, as1, q1, q⟩ := bind_some hm
  obtain ⟨q2, rfl⟩ := opt_some q
  refine a2 G H0 pin ow σ H as xs as' _ S q1 fun vs H1 ow1 st sm S1 lv => ?_
  exact hr _ _ _ _ (paired_map lv fun _ _ h => lv_dp S1.hd h) q2 _ fun z H2 s2 okr => fin_s S1 st sm s2 okr k
end
end Vl

-- V28
set_option Elab.async false
set_option linter.all false
set_option maxRecDepth 100000
set_option maxHeartbeats 4000000
/-! {k: v} -/
namespace Vl
open PySem L2
def mDict1 (mk mv : M PD) : M Res := mBind mk fun x => mBind mv fun y => mOpt ((kOf x).map fun k => .obj (.od [(k, y)]))
theorem dict1_some {mk mv : M PD} {as : AS} {r : Res} {as' : AS} (h : mDict1 mk mv as = some (r, as')) : ∃ x as1 y k, mk as = some (x, as1) ∧ mv as1 = some (y, as') ∧ kOf x = some k ∧ r = .obj (.od [(k, y)]) := by
  obtain ⟨x, as1, q1, h⟩ := bind_some h
  obtain ⟨y, as2, q2, h⟩ := bind_some h
  obtain ⟨q3, rfl⟩ := opt_some h
  cases e : kOf x with
  | none => rw [e] at q3; cases q3
  | some k => rw [e] at q3; cases q3; exact ⟨x, as1, y, k, q1, q2, e, rfl⟩
section
variable {X : Cx} {p1 p2 : Bool} {pos : Pos}
theorem ef_dict1 {ke ve : Expr} {mk mv : M PD} (hk : EV X p1 .D ke mk) (hv : EV X p2 .D ve mv) : EF X (p1 && p2) (.Dict [some ke] [ve] pos) (mDict1 mk mv) := by
  obtain ⟨tk, a1, a2⟩ := hk.ok
  obtain ⟨tv, b1, b2⟩ := hv.ok
  refine ⟨fun z as r as' h => ?_, _, pe_disp (pps_cons a1 b1 pps_nil) rfl rfl (by simp) (by simp), fun G H0 pin ow σ H as r as' Q S hm k => ?_⟩
  · have z' : p1 = true ∧ p2 = true := by simpa using z
    obtain ⟨x, as1, y, _, q1, q2, _⟩ := dict1_some h
    exact (hv.pur z'.2 _ _ _ q2).trans (hk.pur z'.1 _ _ _ q1)
  · obtain ⟨x, as1, y, kk, q1, q2, q3, rfl⟩ := dict1_some hm
    intro q hq
    obtain ⟨S2, st2, w2⟩ := S.lay (a := q) (upd_grow (o := .dK []) hq) hq (by rw [upd_same]; exact nofun)
    refine a2 G H0 pin _ σ _ as x as1 _ S2 q1 fun v H1 ow1 st1 sm1 S1 lv1 => ?_
    refine b2 G H0 pin ow1 σ H1 as1 y as' _ S1 q2 fun w H3 ow3 st3 sm3 S3 lv3 => ?_
    obtain ⟨w4, e4⟩ := (st1.trans st3).tmp q put_same
    have hD : H3 q = some (.dK []) := e4.trans upd_same
    have ek := kOf_dp (lvM (H' := H3) st3.dur (.inl rfl) lv1) q3
    refine ⟨hD, [(kk, w)], by rw [ek]; rfl, by simp, ?_⟩
    obtain ⟨S5, s5⟩ := S3.write (a := q) (u := .dK (mergeK [] [(kk, w)])) (by rw [w4]; exact nofun) fun j t _ e => by rw [w4] at e; cases e
    have hne : ow q ≠ some none := fun e => by rw [w2] at e; cases e
    have stA := st2.trans (st1.trans st3)
    refine k _ _ ow3 ⟨stA.dur.trans s5, fun b hb => ?_, fun b hb => ?_⟩ (fun z => ?_) S5 ⟨q, rfl, hne, w4, [(kk, w)], upd_same, .cons ⟨rfl, dpM s5 _ _ lv3⟩ .nil⟩
    · have hbD : b ≠ q := fun z => hne (by rw [← z]; exact hb)
      rw [upd_ne hbD]; exact stA.tmp b hb
    · by_cases hbD : b = q
      · subst hbD; rw [upd_same]; exact nofun
      · rw [upd_ne hbD]; exact stA.dom b hb
    · have z' : p1 = true ∧ p2 = true := by simpa using z
      have := (upd_grow (o := .dK []) hq).trans ((sm1 z'.1).trans (sm3 z'.2))
      exact fun b x e => by rw [upd_ne (ne_of_none e hq)]; exact this b x e
end
end Vl

-- V29
set_option Elab.async false
set_option linter.all false
set_option maxRecDepth 100000
set_option maxHeartbeats 4000000
/-! list(range(a, b)); xs.insert(i, y) -/
namespace Vl
open PySem L2
section
variable {X : Cx} {a b : Expr} {p p1 p2 : Bool} {l l1 : Lv} {ma mb : M PD} {pos : Pos}
theorem ef_lstR2 {q q2 q3 : Pos} (hc : X.calm = true) (hm : X.mg "list" = none) (hmr : X.mg "range" = none) (ha : EV X p1 l a ma) (hb : EV X p2 l1 b mb) (hs : l = .D ∨ p2 = true := by first | exact .inr rfl | exact .inl rfl) (hg : Gl X "list" := by rfl) (hgr : Gl X "range" := by rfl)
    (na : starEach [.Call (.Name "range" q2) [a, b] [] q3] X.env = (false, eval (.Call (.Name "range" q2) [a, b] [] q3) X.env) :: starEach [] X.env := by rfl)
    (nb : starEach [a, b] X.env = (false, eval a X.env) :: starEach [b] X.env := by rfl) (nc : starEach [b] X.env = (false, eval b X.env) :: starEach [] X.env := by rfl) (nd : (backTo q3 (starEach [b] X.env)).any (·.1) = false := by rfl) :
    EF X (p1 && p2) (.Call (.Name "list" q) [.Call (.Name "range" q2) [a, b] [] q3] [] pos) (m2 fLR2 ma mb) := by
  obtain ⟨ta, tb, e1, e2, qq⟩ := ha.two hb hs
  refine ⟨fun z => pur2 ha.pur (fun z _ => hb.pur z) z, _, pe_listRg hc hg hm (prg_2 hgr hmr e1 e2 nb nc nd) na, fun G H0 pin ow σ H as r as' Q S hm k => ?_⟩
  obtain ⟨x, as1, q1, h⟩ := bind_some hm
  obtain ⟨y, as2, q2, h⟩ := bind_some h
  obtain ⟨q3, rfl⟩ := opt_some h
  refine qq G H0 pin ow σ H as x y as1 as' _ S q1 q2 fun v w H1 ow1 st sm S1 lv lw => ?_
  have lv := lv_dp S1.hd lv
  have lw := lv_dp S1.hd lw
  unfold fLR2 at q3
  split at q3
  · split at q3
    · rename_i hn
      cases q3
      cases lv
      cases lw
      refine ⟨_, _, rfl, rfl, rgOk_ok hn, fun c hc => ?_⟩
      exact fin_o S1 st sm (upd_grow hc) (ok_lst S1.hd hc (dpa_rgV _ _)) k
    · cases q3
  · cases q3
end
def fInsert : List PD → List PD → Option (PD × List PD) := fun xs ds => match ds with
  | [.int i, y] => if xs.length < sizeLine ∧ 0 ≤ i ∧ i < 2 ^ 63 then some (.none, xs.take i.toNat ++ [y] ++ xs.drop i.toNat) else none
  | _ => none
theorem rm_insert {K : Fg} : RmL K (fun x vs H Q => ∃ (l : Addr) (xs : List V) (i : Int) (y : V), x = .ref l ∧ vs = [.int i, y] ∧ H l = some (.lst xs) ∧ xs.length < sizeLine ∧ 0 ≤ i ∧ i < 2 ^ 63 ∧
    Q .non (upd H l (.lst (xs.take i.toNat ++ [y] ++ xs.drop i.toNat)))) fInsert := by
  intro G H a vs ws xs ds d xs' s ha hv hw hf Q k
  unfold fInsert at hf
  split at hf
  · rename_i i y
    split at hf
    · rename_i hb
      cases hf
      obtain ⟨w, w2, rfl, q, q2⟩ := two_of (of_dpa hw)
      cases q
      exact ⟨a, vs, i, w2, rfl, rfl, ha, by rw [dpa_len hv]; exact hb.1, hb.2.1, hb.2.2, k .non _ (dpa_app (dpa_app (dpa_take _ hv) (.cons q2 .nil)) (dpa_drop _ hv)) Dp.non⟩
    · cases hf
  · cases hf
end Vl

-- V30
set_option Elab.async false
set_option linter.all false
set_option maxRecDepth 100000
set_option maxHeartbeats 4000000
/-! sorted, data of any kind that is alike -/
namespace Vl
open PySem L2 PyProof.Rows PySem.W
def Sortable1 (ds : List PD) : Prop := Sortable ds ∨ (ds.length ≤ 1 ∧ ∀ d ∈ ds, d ≠ .none)
def okSort (ds : List PD) : Prop := AllAlike ds ∧ Sortable1 ds ∧ ∀ d ∈ ds, d.depth ≤ 60
section
open PyProof.Rows
/-- one item alone is sorted of any kind -/
theorem sortsAt1 {prog : Program} {w : World} {A : Around} {s : Shared} {vs : List Value} {ds : List PD} (e : EachIs (fun v d => ∃ as, Reads s.heap v d as) vs ds) (hal : AllAlike ds) (hk : Sortable1 ds) (hu : ∀ d, d ∈ ds → A.units + d.depth < cLine) : SortsAt prog w A s (dataKind s.heap ds) vs := by
  rcases hk with hk | ⟨hl, hn⟩
  · exact SortsAt.data e hal hk hu
  · refine ⟨fun v hv => ?_, general', fun E x y a b Q ha hb hq => ?_, fun h2 => ?_⟩
    · obtain ⟨d, hd, as, r⟩ := e.left v hv
      exact ⟨_, dataKind_some hal hd r⟩
    · obtain ⟨d, as, hd, ra, rfl⟩ := dataKind_inv ha
      obtain ⟨d', as', hd', rb, rfl⟩ := dataKind_inv hb
      show wpAny (model prog w) A (oneLt' false x y) Q E s
      exact oneLt_alike (fun h => absurd h (by simp)) ra rb (hal d hd d' hd') (hn d hd) (Nat.lt_of_le_of_lt (Nat.add_le_add_left (Nat.min_le_left _ _) _) (hu d hd)) hq
    · have := e.length; omega
theorem sorted_data1 {β : Type} {prog : Program} {w : World} {A : Around} {s : Shared} {E : Value → Shared → Prop} {R : Value → β → Prop} {enc : β → PyData} {vs : List Value} {bs : List β} {l : Addr} {Q : Value → Shared → Prop} (hl : s.heap.IsList l vs.toArray) (e : EachIs R vs bs) (er : EachIs (fun v b => ∃ as, Reads s.heap v (enc b) as) vs bs) (hal : AllAlike (bs.map enc)) (hk : Sortable1 (bs.map enc)) (hL : bs.length ≤ sizeLine)
    (hu : ∀ b, b ∈ bs → A.units + 2 + (enc b).depth < cLine) (h : ∀ out, out.length = bs.length → EachIs R out (bs.mergeSort (dataLe false enc)) → Q (.ref (s.heap.objs.size + 1)) { s with heap := sortedAll s.heap vs (List.toArray out) }) :
    wpAny (model prog w) A (call (.builtin "sorted") [.ref l]) Q E s := by
  have er' : EachIs (fun v b => ∃ as, Reads (sortingHeap (copyHeap s.heap vs) (s.heap.objs.size + 1) vs) v (enc b) as) vs bs := er.mono fun _ _ ⟨as, r⟩ => ⟨as, PyProof.Rows.Reads.keeps (fun _ _ => sorting_copy_old) r⟩
  exact sorted_vals hl (sortsAt1 (s := { s with heap := sortingHeap (copyHeap s.heap vs) (s.heap.objs.size + 1) vs }) (each_map (R := fun v d => ∃ as, Reads (sortingHeap (copyHeap s.heap vs) (s.heap.objs.size + 1) vs) v d as) enc er') hal hk (bound_map hu)) (by rw [e.length]; exact hL)
    (h _ (by rw [sortVals_length false rfl]; exact e.length) (sortVals_data false e er' hal))
end
def sPair (xs : List V) (ds : List PD) : List (V × PD) := (xs.zip ds).mergeSort (dataLe false (fun b => b.2))
def rSortedD (K : Fg) : List V → Hp → VK → Prop := fun vs H Q => ∃ (a : Addr) (xs : List V) (ds : List PD), vs = [V.ref a] ∧ SqL K H a xs ∧ DpAll K H xs ds ∧ okSort ds ∧
  ∀ p : Addr, H p = none → Q (.ref p) (upd H p (.lst ((sPair xs ds).map (·.1))))
theorem each_rel : ∀ {xs : List V} {us : List Value} {ds : List PD}, Vals xs us → xs.length = ds.length → EachIs (fun (u : Value) (b : V × PD) => RelV b.1 u) us (xs.zip ds)
  | _, _, [], .nil, _ => .nil
  | _, _, _ :: _, .nil, h => by cases h
  | _, _, [], .cons _ _, h => by cases h
  | _, _, d :: ds, .cons r t, h => .cons r (each_rel t (by simpa using h))
theorem rel_each : ∀ {us : List Value} {bs : List (V × PD)}, EachIs (fun (u : Value) (b : V × PD) => RelV b.1 u) us bs → Vals (bs.map (·.1)) us
  | _, _, .nil => .nil
  | _, _, .cons r t => .cons r (rel_each t)
section
variable {X : Cx}
theorem each_reads {pins : List (Addr × PySem.Obj)} {s : Shared} {σ : L2.St} {H : Hp} (I : L2.Inv X pins σ H s) : ∀ {xs : List V} {us : List Value} {ds : List PD}, Vals xs us → DpAll X.K H xs ds → EachIs (fun (u : Value) (b : V × PD) => ∃ as, Reads s.heap u b.2 as) us (xs.zip ds)
  | _, _, _, .nil, .nil => .nil
  | _, _, _, .cons r t, .cons h g => .cons (Dp.reads I _ _ _ h r) (each_reads I t g)
theorem zip_snd : ∀ {xs : List V} {ds : List PD}, xs.length = ds.length → (xs.zip ds).map (·.2) = ds
  | [], [], _ => rfl
  | x :: xs, d :: ds, h => by
    rw [List.zip_cons_cons, List.map_cons, zip_snd (by simpa using h)]
theorem cr_sortedD (hu : X.A.units + 65 < cLine) : CallR X (.builtin "sorted") (rSortedD X.K) := by
  intro pins s σ H vs us Q I r h
  obtain ⟨a, xs, ds, rfl, hs, hd, ⟨o1, o2, o3⟩, q⟩ := h
  obtain ⟨its, rv, hl, hz⟩ := I.list hs
  rw [Vals.ref1 r]
  have hlen := dpa_len hd
  have hsnd := zip_snd hlen
  have hzl : (xs.zip ds).length = xs.length := by rw [List.length_zip]; omega
  refine sorted_data1 (R := fun (u : Value) (b : V × PD) => RelV b.1 u) (bs := xs.zip ds) (enc := fun b => b.2) hl.isList (each_rel rv hlen) (each_reads I rv hd) (by rw [hsnd]; exact o1) (by rw [hsnd]; exact o2) (by rw [hzl]; exact hz) (fun b hb => ?_) fun out ho eo => ?_
  · have : b.2 ∈ ds := by rw [← hsnd]; exact List.mem_map.mpr ⟨b, hb, rfl⟩
    have := o3 _ this
    omega
  · obtain ⟨ep, he'⟩ := PyProof.Rows.sortedAll_at s.heap its out.toArray
    have hl2 : ((sPair xs ds).map (·.1)).length ≤ sizeLine := by
      unfold sPair
      rw [List.length_map, List.length_mergeSort, hzl]; exact hz
    exact ⟨.ref _, upd H (s.heap.objs.size + 1) (.lst ((sPair xs ds).map (·.1))), I.laid (t' := s.toks) (fun _ _ => PyProof.Rows.sortedAll_old) (Nat.le_succ _) ⟨hl2, out, ep, rel_each eo, he'⟩, rfl, q _ (I.hok.fresh (Nat.le_succ _))⟩
end
def isTup1 : PD → Bool
  | .tuple (_ :: _) => true
  | _ => false
def noTup : PD → Bool
  | .tuple _ => false
  | .none => false
  | _ => true
def notNone : PD → Bool
  | .none => false
  | _ => true
def okSortB (ds : List PD) : Bool := ds.all (fun d => ds.all fun e => alike d e) && (ds.all isTup1 || ds.all noTup || (decide (ds.length ≤ 1) && ds.all notNone)) && ds.all fun d => decide (d.depth ≤ 60)
theorem okSort_of {ds : List PD} (h : okSortB ds = true) : okSort ds := by
  unfold okSortB at h
  simp only [Bool.and_eq_true, Bool.or_eq_true, List.all_eq_true, decide_eq_true_eq] at h
  obtain ⟨⟨h1, h2⟩, h3⟩ := h
  refine ⟨fun d hd e he => h1 d hd e he, ?_, h3⟩
  rcases h2 with (h2 | h2) | h2
  · refine .inl (.inl ?_)
    intro d hd
    have := h2 d hd
    unfold isTup1 at this
    split at this
    · exact ⟨_, _, rfl⟩
    · cases this
  · refine .inl (.inr ?_)
    intro d hd
    have := h2 d hd
    unfold noTup at this
    split at this
    · cases this
    · cases this
    · rename_i a b
      exact ⟨b, a⟩
  · refine .inr ⟨h2.1, fun d hd e => ?_⟩
    have := h2.2 d hd
    rw [e] at this
    cases this
def dle (a b : PD) : Bool := dataLe false (fun d : PD => d) a b
def dsort (ds : List PD) : List PD := ds.mergeSort dle
theorem pair_snd {xs : List V} {ds : List PD} (h : xs.length = ds.length) : (sPair xs ds).map (·.2) = dsort ds := by
  unfold sPair dsort
  have e := List.map_mergeSort (r := dataLe false fun b : V × PD => b.2) (s := dle) (f := fun b : V × PD => b.2) (l := xs.zip ds) fun a _ b _ => rfl
  rw [zip_snd h] at e
  exact e
theorem zip_dp {K : Fg} {H : Hp} : ∀ {xs : List V} {ds : List PD}, DpAll K H xs ds → ∀ b ∈ xs.zip ds, Dp K H b.1 b.2
  | _, _, .nil, b, hb => by cases hb
  | _, _, .cons h g, b, hb => by
    rw [List.zip_cons_cons] at hb
    rcases List.mem_cons.mp hb with rfl | hb
    · exact h
    · exact zip_dp g b hb
theorem dpa_pairs {K : Fg} {H : Hp} : ∀ {bs : List (V × PD)}, (∀ b ∈ bs, Dp K H b.1 b.2) → DpAll K H (bs.map (·.1)) (bs.map (·.2))
  | [], _ => .nil
  | b :: bs, h => .cons (h b List.mem_cons_self) (dpa_pairs fun c hc => h c (List.mem_cons_of_mem _ hc))
def fSortD : List PD → Option Res
  | [.list ds] => if okSortB ds = true then some (.obj (.ol (dsort ds))) else none
  | _ => none
theorem rno_sortD {K : Fg} : RnO K (rSortedD K) fSortD := by
  intro G H xs ds res s hx hf Q k
  unfold fSortD at hf
  split at hf
  · rename_i es
    obtain ⟨v, rfl, h⟩ := one_of hx
    split at hf
    · rename_i hc
      cases hf
      obtain ⟨a, vs, rfl, q, r⟩ := h
      refine ⟨a, vs, es, rfl, q, dpaM s _ _ r, okSort_of hc, fun p hp => ?_⟩
      have hl := dpa_len r
      refine k _ _ (upd_grow hp) (ok_lst s hp ?_)
      rw [← pair_snd hl]
      refine dpa_pairs fun b hb => zip_dp r b ?_
      unfold sPair at hb
      exact (List.mergeSort_perm _ _).mem_iff.mp hb
    · cases hf
  · cases hf
/-- ints as before, other data by dsort -/
def fSortA (xs : List PD) : Option Res := match fSortI xs with
  | some r => some r
  | none => fSortD xs
theorem rno_sortA {K : Fg} : RnO K (fun xs H Q => rSortedI K xs H Q ∨ rSortedD K xs H Q) fSortA := by
  intro G H xs ds res s hx hf Q k
  unfold fSortA at hf
  cases e : fSortI ds with
  | some r =>
    rw [e] at hf
    cases hf
    exact .inl (rno_sortI G H xs ds res s hx e Q k)
  | none =>
    rw [e] at hf
    exact .inr (rno_sortD G H xs ds res s hx hf Q k)
end Vl

-- V31
set_option Elab.async false
set_option linter.all false
set_option maxRecDepth 100000
set_option maxHeartbeats 4000000
/-! min, max of a list of alike data -/
namespace Vl
open PySem L2 PyProof.Rows PySem.W
def rBestD (mD : PD → List PD → PD) (K : Fg) : List V → Hp → VK → Prop := fun vs H Q => ∃ (a : Addr) (xs : List V) (d : PD) (ds : List PD), vs = [V.ref a] ∧ SqL K H a xs ∧ DpAll K H xs (d :: ds) ∧ AlikeAll (d :: ds) ∧ PyData.depthAll (d :: ds) ≤ 60 ∧
  ∀ (i : Nat) (v : V), xs[i]? = some v → (d :: ds)[i]? = some (mD d ds) → Q v H
section
variable {X : Cx}
theorem place_of {pins : List (Addr × PySem.Obj)} {s : Shared} {σ : L2.St} {H : Hp} (I : L2.Inv X pins σ H s) : ∀ {xs : List V} {us : List Value} {ds : List PD} {i : Nat} {u : Value}, Vals xs us → DpAll X.K H xs ds → us[i]? = some u → ∃ v d as, xs[i]? = some v ∧ ds[i]? = some d ∧ RelV v u ∧ Reads s.heap u d as
  | _, _, _, _, _, .nil, .nil, h => by cases h
  | _, _, _, 0, u, .cons r t, .cons h g, e => by
    cases e
    obtain ⟨as, q⟩ := Dp.reads I _ _ _ h r
    exact ⟨_, _, as, rfl, rfl, r, q⟩
  | _, _, _, i + 1, u, .cons r t, .cons h g, e => by
    obtain ⟨v, d, as, e1, e2, e3, e4⟩ := place_of I (i := i) t g (by simpa using e)
    exact ⟨v, d, as, by simpa using e1, by simpa using e2, e3, e4⟩
theorem minD_mem : ∀ (ds : List PD) (d : PD), minD d ds ∈ d :: ds
  | [], d => List.mem_cons_self
  | y :: ds, d => by
    show minD (if dataLt y d then y else d) ds ∈ _
    have := minD_mem ds (if dataLt y d then y else d)
    rcases List.mem_cons.mp this with h | h
    · rw [h]
      split
      · exact List.mem_cons_of_mem _ List.mem_cons_self
      · exact List.mem_cons_self
    · exact List.mem_cons_of_mem _ (List.mem_cons_of_mem _ h)
theorem maxD_mem : ∀ (ds : List PD) (d : PD), maxD d ds ∈ d :: ds
  | [], d => List.mem_cons_self
  | y :: ds, d => by
    show maxD (if dataLt d y then y else d) ds ∈ _
    have := maxD_mem ds (if dataLt d y then y else d)
    rcases List.mem_cons.mp this with h | h
    · rw [h]
      split
      · exact List.mem_cons_of_mem _ List.mem_cons_self
      · exact List.mem_cons_self
    · exact List.mem_cons_of_mem _ (List.mem_cons_of_mem _ h)
theorem cr_minD (hc : X.calm = true) (hu : X.A.units + 65 < cLine) : CallR X (.builtin "min") (rBestD minD X.K) := by
  intro pins s σ H vs us Q I r h
  obtain ⟨a, xs, d, ds, rfl, hs, hd, ha, hdp, q⟩ := h
  obtain ⟨its, rv, hl, hz⟩ := I.list hs
  rw [Vals.ref1 r]
  obtain ⟨as, hra⟩ := Dp.readsAll I _ _ _ hd rv
  refine min_list_data (I.ok.hd hc) hl.isList (by simpa using hra) ha (by omega) fun i v h' tk bs hv hr hk => ?_
  obtain ⟨w, d', as', e1, e2, rw', rd⟩ := place_of (i := i) I rv hd (by simpa using hv)
  have hm : d' ∈ d :: ds := List.mem_of_getElem? e2
  have e := alike_unique d' (minD d ds) v _ _ (ha.1 d' hm _ (minD_mem ds d)) (PyProof.Rows.Reads.keeps hk rd) hr
  exact ⟨w, H, I.kept hk, rw', q i w e1 (by rw [e2, e])⟩
theorem cr_maxD (hc : X.calm = true) (hu : X.A.units + 65 < cLine) : CallR X (.builtin "max") (rBestD maxD X.K) := by
  intro pins s σ H vs us Q I r h
  obtain ⟨a, xs, d, ds, rfl, hs, hd, ha, hdp, q⟩ := h
  obtain ⟨its, rv, hl, hz⟩ := I.list hs
  rw [Vals.ref1 r]
  obtain ⟨as, hra⟩ := Dp.readsAll I _ _ _ hd rv
  refine max_list_data (I.ok.hd hc) hl.isList (by simpa using hra) ha (by omega) fun i v h' tk bs hv hr hk => ?_
  obtain ⟨w, d', as', e1, e2, rw', rd⟩ := place_of (i := i) I rv hd (by simpa using hv)
  have hm : d' ∈ d :: ds := List.mem_of_getElem? e2
  have e := alike_unique d' (maxD d ds) v _ _ (ha.1 d' hm _ (maxD_mem ds d)) (PyProof.Rows.Reads.keeps hk rd) hr
  exact ⟨w, H, I.kept hk, rw', q i w e1 (by rw [e2, e])⟩
end
def okBest (ds : List PD) : Bool := ds.all (fun d => ds.all fun e => alike d e) && ds.all (fun d => !isN d) && decide (PyData.depthAll ds ≤ 60)
theorem okBest_of {ds : List PD} (h : okBest ds = true) : AlikeAll ds ∧ PyData.depthAll ds ≤ 60 := by
  unfold okBest at h
  simp only [Bool.and_eq_true, List.all_eq_true, decide_eq_true_eq] at h
  refine ⟨⟨fun d hd e he => h.1.1 d hd e he, fun d hd e => ?_⟩, h.2⟩
  have := h.1.2 d hd
  rw [e] at this
  cases this
def fBest (mD : PD → List PD → PD) : List PD → Option Res
  | [.list (d :: ds)] => if okBest (d :: ds) = true then some (.val (mD d ds)) else none
  | _ => none
theorem rno_best {K : Fg} {mD : PD → List PD → PD} : RnO K (rBestD mD K) (fBest mD) := by
  intro G H xs ds res s hx hf Q k
  unfold fBest at hf
  split at hf
  · rename_i d es
    obtain ⟨v, rfl, h⟩ := one_of hx
    split at hf
    · rename_i hc
      cases hf
      obtain ⟨a, vs, rfl, q, r⟩ := h
      obtain ⟨h1, h2⟩ := okBest_of hc
      refine ⟨a, vs, d, es, rfl, q, dpaM s _ _ r, h1, h2, fun i w e1 e2 => ?_⟩
      obtain ⟨w2, e3, dw⟩ := dpa_at r e2
      rw [e1] at e3
      cases e3
      exact k _ H (Same.refl H) (ok_val s dw)
    · cases hf
  · cases hf
end Vl

-- V32
set_option Elab.async false
set_option linter.all false
set_option maxRecDepth 100000
set_option maxHeartbeats 4000000
/-! min, max: ints as before, other data by their order -/
namespace Vl
open PySem L2 PySem.W
theorem rno_of_rns {K : Fg} {r : List V → Hp → VK → Prop} {f : List PD → Option PD} (h : RnS K r f) : RnO K r (fun xs => match f xs with | some d => some (.val d) | none => none) := by
  intro G H xs ds res s hx hf Q k
  cases e : f ds with
  | none => simp only [e] at hf; cases hf
  | some d =>
    simp only [e] at hf
    cases hf
    exact h H xs ds d (paired_map hx fun _ _ q => it_up s q) e Q fun z H2 s2 q => k z H2 s2 (ok_nil q)
def fMinA (xs : List PD) : Option Res := match fMinI xs with
  | some d => some (.val d)
  | none => fBest minD xs
def fMaxA (xs : List PD) : Option Res := match fMaxI xs with
  | some d => some (.val d)
  | none => fBest maxD xs
theorem rno_minA {K : Fg} : RnO K (fun xs H Q => rMin K xs H Q ∨ rBestD minD K xs H Q) fMinA := by
  intro G H xs ds res s hx hf Q k
  unfold fMinA at hf
  cases e : fMinI ds with
  | some d =>
    rw [e] at hf
    cases hf
    exact .inl (rno_of_rns rns_min G H xs ds (.val d) s hx (by simp only [e]) Q k)
  | none =>
    rw [e] at hf
    exact .inr (rno_best G H xs ds res s hx hf Q k)
theorem rno_maxA {K : Fg} : RnO K (fun xs H Q => rMax K xs H Q ∨ rBestD maxD K xs H Q) fMaxA := by
  intro G H xs ds res s hx hf Q k
  unfold fMaxA at hf
  cases e : fMaxI ds with
  | some d =>
    rw [e] at hf
    cases hf
    exact .inl (rno_of_rns rns_max G H xs ds (.val d) s hx (by simp only [e]) Q k)
  | none =>
    rw [e] at hf
    exact .inr (rno_best G H xs ds res s hx hf Q k)
theorem fMinA_int {xs : List PD} {d : PD} (h : fMinI xs = some d) : fMinA xs = some (.val d) := by
  unfold fMinA; rw [h]
theorem fMaxA_int {xs : List PD} {d : PD} (h : fMaxI xs = some d) : fMaxA xs = some (.val d) := by
  unfold fMaxA; rw [h]
end Vl

-- V33
set_option Elab.async false
set_option linter.all false
set_option maxRecDepth 100000
set_option maxHeartbeats 4000000
/-! sorted(set(xs)), xs a list of tuples of ints -/
namespace Vl
open PySem L2 PyProof.Rows PySem.W
/-- rows, strictly ascending -/
def rowIns (x : List Int) : List (List Int) → List (List Int)
  | [] => [x]
  | y :: l => if x < y then x :: y :: l else if x = y then y :: l else y :: rowIns x l
def rsort (l : List (List Int)) : List (List Int) := l.foldr rowIns []
theorem row_tri (x y : List Int) : x < y ∨ x = y ∨ y < x := by
  by_cases h : x < y
  · exact .inl h
  · have h1 := List.not_lt.mp h
    by_cases h2 : y < x
    · exact .inr (.inr h2)
    · exact .inr (.inl (List.le_antisymm (List.not_lt.mp h2) h1))
theorem mem_rowIns {x z : List Int} : ∀ {l : List (List Int)}, z ∈ rowIns x l ↔ z = x ∨ z ∈ l
  | [] => by simp [rowIns]
  | y :: l => by
    unfold rowIns
    split
    · simp
    · split
      · rename_i h; subst h; simp
      · rw [List.mem_cons, mem_rowIns, List.mem_cons]
        constructor
        · rintro (h | h | h)
          · exact .inr (.inl h)
          · exact .inl h
          · exact .inr (.inr h)
        · rintro (h | h | h)
          · exact .inr (.inl h)
          · exact .inl h
          · exact .inr (.inr h)
theorem sorted_rowIns {x : List Int} : ∀ {l : List (List Int)}, l.Pairwise (· < ·) → (rowIns x l).Pairwise (· < ·)
  | [], _ => by simp [rowIns]
  | y :: l, h => by
    unfold rowIns
    have h' := List.pairwise_cons.mp h
    split
    · rename_i hx
      exact List.pairwise_cons.mpr ⟨fun z hz => by
        rcases List.mem_cons.mp hz with rfl | hz
        · exact hx
        · exact List.lt_trans hx (h'.1 z hz), h⟩
    · rename_i hx
      split
      · exact h
      · rename_i hne
        refine List.pairwise_cons.mpr ⟨fun z hz => ?_, sorted_rowIns h'.2⟩
        rcases mem_rowIns.mp hz with rfl | hz
        · rcases row_tri z y with q | q | q
          · exact absurd q hx
          · exact absurd q hne
          · exact q
        · exact h'.1 z hz
theorem mem_rsort {z : List Int} : ∀ {l : List (List Int)}, z ∈ rsort l ↔ z ∈ l
  | [] => by simp [rsort]
  | y :: l => by
    show z ∈ rowIns y (rsort l) ↔ _
    rw [mem_rowIns, mem_rsort, List.mem_cons]
theorem sorted_rsort : ∀ (l : List (List Int)), (rsort l).Pairwise (· < ·)
  | [] => List.Pairwise.nil
  | y :: l => sorted_rowIns (sorted_rsort l)
theorem row_uniq : ∀ {l m : List (List Int)}, l.Pairwise (· < ·) → m.Pairwise (· < ·) → (∀ z, z ∈ l ↔ z ∈ m) → l = m
  | [], [], _, _, _ => rfl
  | [], y :: m, _, _, h => absurd ((h y).mpr List.mem_cons_self) List.not_mem_nil
  | x :: l, [], _, _, h => absurd ((h x).mp List.mem_cons_self) List.not_mem_nil
  | x :: l, y :: m, hl, hm, h => by
    have hl' := List.pairwise_cons.mp hl
    have hm' := List.pairwise_cons.mp hm
    have e : x = y := by
      rcases List.mem_cons.mp ((h x).mp List.mem_cons_self) with e | e
      · exact e
      · rcases List.mem_cons.mp ((h y).mpr List.mem_cons_self) with e2 | e2
        · exact e2.symm
        · exact absurd (List.lt_trans (hm'.1 x e) (hl'.1 y e2)) (List.lt_irrefl _)
    subst e
    rw [row_uniq hl'.2 hm'.2 fun z => ?_]
    have q := h z
    rw [List.mem_cons, List.mem_cons] at q
    constructor
    · intro hz
      rcases q.mp (.inr hz) with e | e
      · subst e; exact absurd (hl'.1 _ hz) (List.lt_irrefl _)
      · exact e
    · intro hz
      rcases q.mpr (.inr hz) with e | e
      · subst e; exact absurd (hm'.1 _ hz) (List.lt_irrefl _)
      · exact e
theorem dle_rows (x y : List Int) : dle (.tuple (x.map .int)) (.tuple (y.map .int)) = decide (x ≤ y) := by
  show (!dataLt (.tuple (y.map .int)) (.tuple (x.map .int))) = _
  rw [dataLt_tuple]
  show (!rowLt (y.map .int) (x.map .int)) = _
  rw [dataLt_ints]
  by_cases h : y < x
  · have h' : ¬ x ≤ y := fun r => List.not_lt.mpr r h
    simp [h, h']
  · have h' : x ≤ y := List.not_lt.mp h
    simp [h, h']
section
variable {P : Program} {w : World} {A : Around} {E : Value → Shared → Prop} {s : Shared}
theorem items_reads {h : Heap} : ∀ {k : List Int} {vs : List Value}, ItemsAre (intKind P w) k vs → ReadsAll h vs (k.map .int) []
  | _, _, .nil => .nil
  | _, _, .cons h1 t => by
    obtain ⟨tk, rfl⟩ := Value.isInt_shape h1
    exact ReadsAll.cons (as := []) (.int _ _) (items_reads t)
theorem isT_reads {h : Heap} {k : List Int} {b : Addr} (x : L2.IsT P w h k b) : Reads h (.ref b) (.tuple (k.map .int)) [] := by
  obtain ⟨o, items, n, ho, hc, hd, hi⟩ := x
  exact .tuple ho hc hd (items_reads hi)
theorem each_refs (h : Heap) : ∀ (L : List (Addr × List Int)), EachIs (fun (v : Value) (q : Addr × List Int) => v = Value.ref q.1) (L.map fun q => Value.ref q.1) L
  | [] => .nil
  | q :: L => .cons rfl (each_refs h L)
theorem each_isT {h : Heap} : ∀ {L : List (Addr × List Int)}, (∀ q ∈ L, L2.IsT P w h q.2 q.1) → ∀ a : Addr, EachIs (fun (v : Value) (q : Addr × List Int) => ∃ as, Reads h v (PyData.tuple (q.2.map .int)) as ∧ a ∉ as) (L.map fun q => Value.ref q.1) L
  | [], _, _ => .nil
  | q :: L, h, a => .cons ⟨[], isT_reads (h q List.mem_cons_self), List.not_mem_nil⟩ (each_isT (fun r hr => h r (List.mem_cons_of_mem _ hr)) a)
theorem refs_each : ∀ {out : List Value} {L : List (Addr × List Int)}, EachIs (fun (v : Value) (q : Addr × List Int) => v = Value.ref q.1) out L → out = L.map fun q => Value.ref q.1
  | _, _, .nil => rfl
  | _, _, .cons e t => by rw [e, refs_each t]; rfl
theorem sorted_setTD {a : Addr} {L : List (Addr × List Int)} {es : Array (Int × Value)} {ep : Nat} {t : SetTable} {Q : Value → Shared → Prop} (R : SetTR P w s.heap a L es ep t) (hh : A.handled = none) (hu : A.units + 60 < cLine)
    (hB : ∀ p ∈ L, p.2 ≠ [])
    (hQ : ∀ s' p (out : Array Value) (c : Nat) (L' : List (Addr × List Int)), (∀ b o, s.heap.get? b = some o → s'.heap.get? b = some o) → s'.gens = s.gens → s'.os = s.os → s.heap.objs.size ≤ p →
      s'.heap.get? p = some (seqObj "list" out c) → out.toList = L'.map (fun q => Value.ref q.1) → L'.Perm L → (L'.map (·.2)).Pairwise (· ≤ ·) → Q (.ref p) s') :
    wpAny (model P w) A (call (.builtin "sorted") [.ref a]) Q E s := by
  obtain ⟨o, ho, hex, hd⟩ := R.ob
  have hsz := R.size
  have hfew := R.few
  refine Calls.call_function_entry kind_sorted plain_sorted entry_sorted (args_sorted1 _) ?_
  unfold Builtin.«sorted»
  refine wpAny_bind (m := checkCount "sorted" 1 1 _) (wpAny_pure ?_)
  refine wpAny_bind (collect_set (A := A.in1) hh ⟨o, ho, hex.1, hd⟩ R.fits (by unfold scanBound; omega) R.tab.ris R.led fun s1 vs k1 hz g1 o1 pm => ?_)
  have hes : es.toList.map (·.2) = L.map fun q => Value.ref q.1 := by
    rw [R.rows]
    unfold L2.rowsOf
    rw [List.map_map] <;> rfl
  rw [hes] at pm
  have ord : ∀ vs : List Value, (∀ v ∈ vs, ∃ q ∈ L, v = Value.ref q.1) → ∃ L1 : List (Addr × List Int), vs = L1.map (fun q => Value.ref q.1) ∧ ∀ q ∈ L1, q ∈ L := by
    intro vs
    induction vs with
    | nil => intro _; exact ⟨[], rfl, fun q hq => (by cases hq)⟩
    | cons v vs ih =>
      intro hv
      obtain ⟨q, hq, e⟩ := hv v List.mem_cons_self
      obtain ⟨L1, e1, hs⟩ := ih fun u hu => hv u (List.mem_cons_of_mem _ hu)
      refine ⟨q :: L1, by rw [List.map_cons, e, e1], fun r hr => ?_⟩
      rcases List.mem_cons.mp hr with z | z
      · rw [z]; exact hq
      · exact hs r z
  have one : ∀ q ∈ L, ∀ r ∈ L, q.1 = r.1 → q = r := fun q hq r hr e => by
    have a1 := R.tup q hq
    have a2 := R.tup r hr
    rw [e] at a1
    have e2 : q.2 = r.2 := a1.inj a2
    exact Prod.ext e e2
  have perm_of : ∀ L1 : List (Addr × List Int), (∀ q ∈ L1, q ∈ L) → (L1.map (fun q => Value.ref q.1)).Perm (L.map fun q => Value.ref q.1) → L1.Perm L := by
    intro L1 hs pm1
    have nL : L.Nodup := nodup_of_map R.nd
    have nref : (L.map fun q => Value.ref q.1).Nodup := by
      refine List.pairwise_map.mpr (List.Pairwise.imp_of_mem (fun {q r} hq hr hne e => ?_) nL)
      injection e with e
      exact hne (one q hq r hr e)
    have n1 : L1.Nodup := nodup_of_map (pm1.nodup_iff.mpr nref)
    refine (List.perm_ext_iff_of_nodup n1 nL).mpr fun q => ⟨hs q, fun hq => ?_⟩
    have hm : Value.ref q.1 ∈ L1.map (fun q => Value.ref q.1) := pm1.mem_iff.mpr (List.mem_map.mpr ⟨q, hq, rfl⟩)
    obtain ⟨r, hr, e⟩ := List.mem_map.mp hm
    injection e with e
    rw [← one r (hs r hr) q hq e]
    exact hr
  have hvl : vs.length < 64 := by rw [pm.length_eq, List.length_map]; exact hfew
  refine wpAny_bind (wpAny_newList ?_ (by rw [sizeLine_eq]; omega))
  have hoL : (s1.heap.push (seqObj "list" vs.toArray 0)).get? s1.heap.objs.size = some (seqObj "list" vs.toArray 0) := Heap.get?_push_size _ rfl
  have tk : ∀ q ∈ L, L2.IsT P w (s1.heap.push (seqObj "list" vs.toArray 0)) q.2 q.1 := fun q hq => isT_keep (R.tup q hq) fun b u e => Heap.get?_push_of_some _ (k1 b u e)
  obtain ⟨L1, e1, hs1⟩ := ord vs fun v hv => by
    obtain ⟨q, hq, e⟩ := List.mem_map.mp (pm.mem_iff.mp hv)
    exact ⟨q, hq, e.symm⟩
  have pL1 : L1.Perm L := perm_of L1 hs1 (by rw [← e1]; exact pm)
  have hL1 : L1.length ≤ sizeLine := by rw [pL1.length_eq, sizeLine_eq]; omega
  refine wpAny_bind (wpAny_holding (list_sort_data (s := { s1 with heap := s1.heap.push (seqObj "list" vs.toArray 0) }) (R := fun (v : Value) (q : Addr × List Int) => v = Value.ref q.1) (enc := fun q : Addr × List Int => PyData.tuple (q.2.map .int)) (bs := L1) hoL (by rw [e1]; exact each_refs s1.heap L1)
    (by
      have := each_isT (P := P) (w := w) (L := L1) (h := s1.heap.push (seqObj "list" vs.toArray 0)) (fun q hq => tk q (hs1 q hq)) s1.heap.objs.size
      rw [e1] at this ⊢
      exact this) (AllAlike.of fun b b' => by unfold alike; exact alike_ints _ _) (.inl fun d hd => by
      obtain ⟨q, hq, rfl⟩ := List.mem_map.mp hd
      have := hB q (hs1 q hq)
      obtain ⟨_, r⟩ := q
      cases r with
      | nil => exact absurd rfl this
      | cons x r => exact ⟨_, _, rfl⟩) hL1 (fun b hb => by
      have e : (PyData.tuple (b.2.map .int)).depth = 1 := by rw [PyData.depth, depth_ints]
      rw [e]
      rw [Around.in1_units]; omega) fun out ho eo => ?_))
  have eo' := refs_each eo
  obtain ⟨c, hc⟩ := sortedHeap_at (vs := vs) (out := out.toArray) hoL
  have pL : (L1.mergeSort (dataLe false fun q : Addr × List Int => PyData.tuple (q.2.map .int))).Perm L := (List.mergeSort_perm _ _).trans pL1
  refine wpAny_pure ⟨_, rfl, hQ _ s1.heap.objs.size out.toArray c _ (fun b u e => ?_) g1 o1 hz hc (by rw [List.toList_toArray]; exact eo') pL ?_⟩
  · have q := k1 b u e
    have hlt := Heap.lt_size q
    show (sortedHeap (s1.heap.push (seqObj "list" vs.toArray 0)) s1.heap.objs.size vs out.toArray).get? b = some u
    rw [sortedHeap_old (Nat.ne_of_lt hlt) (by rw [size_push']; exact Nat.lt_succ_of_lt hlt)]
    exact Heap.get?_push_of_some _ q
  · have ed : (dataLe false fun q : Addr × List Int => PyData.tuple (q.2.map .int)) = fun p q => decide (p.2 ≤ q.2) := by
      funext p q
      exact dle_rows p.2 q.2
    rw [ed, List.pairwise_map]
    refine (List.pairwise_mergeSort (le := fun p q : Addr × List Int => decide (p.2 ≤ q.2)) (fun x y z h1 h2 => ?_) (fun x y => ?_) L1).imp fun h => of_decide_eq_true h
    · exact decide_eq_true (List.le_trans (of_decide_eq_true h1) (of_decide_eq_true h2))
    · rcases List.le_total x.2 y.2 with h | h
      · rw [decide_eq_true h]; rfl
      · rw [decide_eq_true h, Bool.or_true]
end
/-- sorted(set), tuples of ints -/
def rSortedTD (K : Fg) (P : Program) (w : World) : List V → Hp → VK → Prop := fun vs H Q => ∃ (a : Addr) (L : List (Addr × List Int)), vs = [V.ref a] ∧ H a = some (SetTO P w a L) ∧ (∀ p ∈ L, SqT K H p.1 (p.2.map V.int)) ∧ (∀ p ∈ L, p.2 ≠ []) ∧
  ∀ (L' : List (Addr × List Int)) (p : Addr), L'.Perm L → (L'.map (·.2)).Pairwise (· < ·) → H p = none → Q (.ref p) (upd H p (.lst (L'.map fun q => V.ref q.1)))
theorem lt_of_le_nodupR : ∀ l : List (List Int), l.Pairwise (· ≤ ·) → l.Nodup → l.Pairwise (· < ·)
  | [], _, _ => List.Pairwise.nil
  | x :: l, h, d => by
    obtain ⟨h1, h2⟩ := List.pairwise_cons.mp h
    obtain ⟨d1, d2⟩ := List.nodup_cons.mp d
    refine List.pairwise_cons.mpr ⟨fun y hy => ?_, lt_of_le_nodupR l h2 d2⟩
    have a := h1 y hy
    have b : x ≠ y := fun z => d1 (z ▸ hy)
    rcases row_tri x y with q | q | q
    · exact q
    · exact absurd q b
    · exact absurd q (List.not_lt.mpr a)
theorem cr_sortedTD {X : Cx} (hc : X.calm = true) (hu : X.A.units + 65 < cLine) : CallR X (.builtin "sorted") (rSortedTD X.K X.prog X.w) := by
  intro pins s σ H vs us Q I r h
  obtain ⟨a, L, rfl, ha, hk, hB, q⟩ := h
  have R0 : SetT0 X.prog X.w s.heap a L := (I.hok a _ ha).1
  obtain ⟨es, ep, t, R⟩ := R0.full fun p hp => I.isT (hk p hp)
  rw [Vals.ref1 r]
  refine sorted_setTD R (I.ok.hd hc) (by omega) hB fun s' p out c L' k g o hp hg hout pm pw => ?_
  have hfew : L'.length < 64 := by rw [pm.length_eq]; exact R.few
  have hlen : (L'.map fun q => V.ref q.1).length ≤ sizeLine := by rw [List.length_map, sizeLine_eq]; omega
  have hn : H p = none := I.hok.fresh hp
  have hv : Vals (L'.map fun q => V.ref q.1) out.toList := by rw [hout]; exact vals_of_refs L'
  have J : Inv X pins σ (upd H p (.lst (L'.map fun q => V.ref q.1))) { s with heap := s'.heap, gens := s'.gens, drawn := s'.drawn, toks := s'.toks } :=
    I.call (ch := []) (Un.laid k hp hn) (I.hok.laid k hp ⟨hlen, out.toList, c, hv, hg⟩) (by rw [g]; exact I.bare) (fun _ z => nomatch z)
  have e : s' = { s with heap := s'.heap, gens := s'.gens, drawn := s'.drawn, toks := s'.toks } := by
    cases s'
    cases s
    cases o
    rfl
  rw [e]
  exact ⟨.ref p, _, J, rfl, q L' p pm (lt_of_le_nodupR _ pw ((pm.map (·.2)).nodup_iff.mpr R.nd)) hn⟩
/-- rows: tuples of ints, none empty -/
def asRow : PD → Option (List Int)
  | .tuple ds => (asInts ds).bind fun ns => if ns = [] then none else some ns
  | _ => none
def asRows : List PD → Option (List (List Int))
  | [] => some []
  | d :: ds => (asRow d).bind fun r => (asRows ds).map (r :: ·)
def fSSetT (d : PD) : Option Res := match d with
  | .list ds => (asRows ds).bind fun rs => if rs.length < 64 then some (.obj (.ol ((rsort rs).map fun r => .tuple (r.map .int)))) else none
  | _ => none
def fSSetA (d : PD) : Option Res := match fSSet d with
  | some r => some r
  | none => fSSetT d
theorem rows_dp {K : Fg} {H : Hp} : ∀ {ds : List PD} {vs : List V} {rs : List (List Int)}, DpAll K H vs ds → asRows ds = some rs → ∃ ks : List (Addr × List Int), vs = ks.map (fun p => V.ref p.1) ∧ ks.map (·.2) = rs ∧ (∀ p ∈ ks, SqT K H p.1 (p.2.map V.int) ∧ p.2 ≠ [])
  | [], _, rs, h, e => by cases h; cases e; exact ⟨[], rfl, rfl, fun p hp => absurd hp List.not_mem_nil⟩
  | d :: ds, _, rs, h, e => by
    cases h with
    | cons hd ht =>
      rename_i v vs
      unfold asRows at e
      cases e1 : asRow d with
      | none => rw [e1] at e; cases e
      | some r =>
        rw [e1] at e
        cases e2 : asRows ds with
        | none => rw [e2] at e; cases e
        | some rs' =>
          rw [e2] at e
          cases e
          obtain ⟨ks, q1, q2, q3⟩ := rows_dp ht e2
          unfold asRow at e1
          split at e1
          · rename_i es
            cases e3 : asInts es with
            | none => rw [e3] at e1; cases e1
            | some ns =>
              rw [e3] at e1
              have e1 : (if ns = [] then none else some ns) = some r := e1
              split at e1
              · cases e1
              · rename_i hne
                cases e1
                cases hd with
                | @tup a xs _ q5 r5 =>
                  rw [asInts_map e3] at r5
                  rw [dpa_ints r5] at q5
                  refine ⟨(a, r) :: ks, by rw [q1]; rfl, by rw [← q2]; rfl, fun p hp => ?_⟩
                  rcases List.mem_cons.mp hp with rfl | hp
                  · exact ⟨q5, hne⟩
                  · exact q3 p hp
          · cases e1
theorem rows_back {K : Fg} {H : Hp} : ∀ L : List (Addr × List Int), (∀ p ∈ L, SqT K H p.1 (p.2.map V.int)) → DpAll K H (L.map fun q => V.ref q.1) ((L.map (·.2)).map fun r => PyData.tuple (r.map .int))
  | [], _ => .nil
  | p :: L, h => .cons (Dp.tup (h p List.mem_cons_self) (ints_dpa _)) (rows_back L fun q hq => h q (List.mem_cons_of_mem _ hq))
section
variable {X : Cx} {a : Expr} {p : Bool} {ma : M PD} {pos : Pos}
theorem ef_sortedSetA {q q2 q3 : Pos} (hc : X.calm = true) (hm : X.mg "sorted" = none) (hms : X.mg "set" = none) (hu65 : X.A.units + 65 < cLine) (ha : EV X p .I a ma) (hg : Gl X "sorted" := by rfl) (hgs : Gl X "set" := by rfl)
    (h1 : starEach [.Call (.Name "set" q2) [a] [] q3] X.env = (false, eval (.Call (.Name "set" q2) [a] [] q3) X.env) :: starEach [] X.env := by rfl) (h2 : (backTo pos (starEach [] X.env)).any (·.1) = false := by rfl)
    (h3 : starEach [a] X.env = (false, eval a X.env) :: starEach [] X.env := by rfl) (h4 : (backTo q3 (starEach [] X.env)).any (·.1) = false := by rfl) :
    EF X p (.Call (.Name "sorted" q) [.Call (.Name "set" q2) [a] [] q3] [] pos) (m1 fSSetA ma) := by
  obtain ⟨ta, a1, a2⟩ := ha.ok
  refine ⟨fun z => pur1 ha.pur z, _, pe_callB ((cr_sortedSetB hc).or (cr_sortedTD hc hu65)) hg hm (by decide +kernel) (pa_cons (pe_callTy ((cr_set hc).or (cr_setOfT hc (by omega))) hgs hms (by decide +kernel) (pa_cons a1 pa_nil h3) (by decide) (by decide) h3 h4) pa_nil h1) (by decide) (by decide) h1 h2, fun G H0 pin ow σ H as r as' Q S hm k => ?_⟩
  obtain ⟨d, as1, q1, h⟩ := bind_some hm
  obtain ⟨q2, rfl⟩ := opt_some h
  unfold fSSetA at q2
  cases e0 : fSSet d with
  | some r0 =>
    rw [e0] at q2
    cases q2
    unfold fSSet at e0
    cases e : asIntsOf d with
    | none => rw [e] at e0; cases e0
    | some ns =>
      rw [e] at e0
      have q2 : (if ns.length + 1 < 4096 then some (Res.obj (.ol ((usort ns).map .int))) else none) = some r := e0
      split at q2
      · rename_i hz
        cases q2
        refine a2 G H0 pin ow σ H as d as' _ S q1 fun v H1 ow1 st sm S1 lv => ?_
        obtain ⟨b, rfl, hq⟩ := seq_ints (lv_dp S1.hd lv) e
        refine .inl ⟨b, ns, rfl, hq, hz, fun c n hc hn => ?_⟩
        refine .inl ⟨c, _, n, rfl, upd_same, (by have := usort_leq ns; omega), fun ms c2 h1 h2 h3 h4 => ?_⟩
        have hms : ms = usort ns := strict_uniq h1 (sorted_usort ns) fun z => by rw [h2 z, mem_usort]; simp
        subst hms
        have hc2 : H1 c2 = none := by
          by_cases z : c2 = c
          · subst z; rw [upd_same] at h4; cases h4
          · rw [upd_ne z] at h4; exact h4
        refine fin_o S1 st sm (v := .ref c2) (res := .obj (.ol ((usort ns).map .int))) (fun b x e => ?_) ⟨c2, rfl, hc2, _, upd_same, ints_dpa _⟩ k
        rw [upd_ne (ne_of_none e hc2), upd_ne (ne_of_none e hc)]; exact e
      · cases q2
  | none =>
    rw [e0] at q2
    replace q2 : fSSetT d = some r := q2
    unfold fSSetT at q2
    split at q2
    · rename_i ds
      cases e : asRows ds with
      | none => rw [e] at q2; cases q2
      | some rs =>
        rw [e] at q2
        have q2 : (if rs.length < 64 then some (Res.obj (.ol ((rsort rs).map fun r => .tuple (r.map .int)))) else none) = some r := q2
        split at q2
        · rename_i hz
          cases q2
          refine a2 G H0 pin ow σ H as _ as' _ S q1 fun v H1 ow1 st sm S1 lv => ?_
          obtain ⟨b, xs, rfl, hsq, hda⟩ := lv
          obtain ⟨ks, rfl, rfl, hks⟩ := rows_dp hda e
          refine .inr ⟨b, ks, rfl, hsq, fun p hp => sqtM S1.hd (hks p hp).1, by simpa using hz, fun c L hc hL1 hL2 => ?_⟩
          have sc : Same H1 (upd H1 c (SetTO X.prog X.w c L)) := upd_grow hc
          refine .inr ⟨c, L, rfl, upd_same, fun p hp => sqtM sc (sqtM S1.hd (hks p (hL1 p hp)).1), fun p hp => (hks p (hL1 p hp)).2, fun L' c2 pm pw h4 => ?_⟩
          have hms : L'.map (·.2) = rsort (ks.map (·.2)) := row_uniq pw (sorted_rsort _) fun z => by
            rw [mem_rsort]
            constructor
            · intro hz
              obtain ⟨p, hp, rfl⟩ := List.mem_map.mp hz
              exact List.mem_map.mpr ⟨p, hL1 p (pm.mem_iff.mp hp), rfl⟩
            · intro hz
              obtain ⟨p, hp, rfl⟩ := List.mem_map.mp hz
              obtain ⟨p2, hp2, e2⟩ := List.mem_map.mp (hL2 p hp)
              exact List.mem_map.mpr ⟨p2, pm.mem_iff.mpr hp2, e2⟩
          have hc2 : H1 c2 = none := by
            by_cases z : c2 = c
            · subst z; rw [upd_same] at h4; cases h4
            · rw [upd_ne z] at h4; exact h4
          have sm2 : Same H1 (upd (upd H1 c (SetTO X.prog X.w c L)) c2 (.lst (L'.map fun q => V.ref q.1))) := fun b x e => by
            rw [upd_ne (ne_of_none e hc2), upd_ne (ne_of_none e hc)]; exact e
          refine fin_o S1 st sm (v := .ref c2) (res := .obj (.ol ((rsort (ks.map (·.2))).map fun r => PyData.tuple (r.map .int)))) sm2 ⟨c2, rfl, hc2, _, upd_same, ?_⟩ k
          rw [← hms]
          exact dpaM (rm_sub S1.hd hc2) _ _ (rows_back L' fun p hp => (hks p (hL1 p (pm.mem_iff.mp hp))).1)
        · cases q2
    · cases q2
end
end Vl

-- V34
set_option Elab.async false
set_option linter.all false
set_option maxRecDepth 100000
set_option maxHeartbeats 4000000
/-! sorted(t), t a tuple -/
namespace Vl
open PySem L2 PyProof.Rows PySem.W
section
variable {prog : Program} {w : World} {A : Around} {E : Value → Shared → Prop} {s : Shared}
theorem collect_tup {l : Addr} {vs : List Value} {Q : List Value → Shared → Prop} (hl : IsTup s.heap l vs.toArray)
    (h : Q vs { s with heap := (s.heap.push (seqObj "list" #[] 0)).update s.heap.objs.size (Obj.mapSeq (· ++ vs.toArray)) }) (hsz : vs.length ≤ sizeLine) :
    wpAny (model prog w) A (collect (.ref l)) Q E s := by
  obtain ⟨o, ho, hc, n, hd⟩ := id hl
  have hlS : s.heap.objs.size ≠ l := Nat.ne_of_gt (Heap.lt_size ho)
  unfold collect
  refine wpAny_bind (wpAny_runValue (codeAny_builtin entry_proto_collect' ?_))
  show wpAny _ _ (do again (.builtin "list.__iadd__" ⟨[← newList [], .ref l], []⟩)) _ _ s
  refine wpAny_bind (wpAny_newList (wpAny_pure ⟨Code.quiet_builtin _ (by decide +kernel), codeAny_builtin entry_list_iadd' ?_⟩))
  show wpAny _ _ (Builtin.List.listExtendWith (.ref s.heap.objs.size) (.ref l) (.ref s.heap.objs.size)) _ _ { s with heap := s.heap.push (seqObj "list" #[] 0) }
  unfold Builtin.List.listExtendWith
  have ho' : (s.heap.push (seqObj "list" #[] 0)).get? l = some o := Heap.get?_push_of_some _ ho
  refine wpAny_bind (wpAny_typeOf (T := "tuple") ⟨o, ho', hc⟩ ?_)
  have ht : (Value.type "tuple" == Value.type "tuple") = true := by rfl
  rw [if_pos (by rw [ht]; simp)]
  refine wpAny_bind (listItems_at ho' hd ?_)
  refine wpAny_bind (listItems_at (xs := #[]) (n := 0) (Heap.get?_push_size _ rfl) rfl ?_)
  rw [if_neg (by simp)]
  refine wpAny_bind (listUpdate_at (xs := #[]) (n := 0) (Heap.get?_push_size _ rfl) rfl ?_ (Nat.zero_le _) (by show (#[] ++ vs.toArray).size ≤ sizeLine + 1; simp only [Array.size_append, List.size_toArray, List.length_nil]; omega))
  refine wpAny_pure ?_
  show wpAny (model prog w) A (do
      let o ← load s.heap.objs.size
      match o.data with
      | .seq xs _ => pure xs.toList
      | _ => unsupported "internal:collect") Q E { s with heap := (s.heap.push (seqObj "list" #[] 0)).update s.heap.objs.size (Obj.mapSeq (· ++ vs.toArray)) }
  refine wpAny_bind (wpAny_load (get?_update_seq (Heap.get?_push_size _ rfl) _) ?_)
  show wpAny _ _ (pure ((#[] : Array Value) ++ vs.toArray).toList) Q E _
  rw [show ((#[] : Array Value) ++ vs.toArray).toList = vs by simp]
  exact wpAny_pure h
theorem sorted_of_sortT {l : Addr} {vs : List Value} {kw : List (Str × Value)} {Q : Value → Shared → Prop} (hl : IsTup s.heap l vs.toArray) (hL : vs.length ≤ sizeLine) (ha1 : argsOk "sorted" ⟨[.ref l], kw⟩) (ha2 : ∀ x, argsOk "list.sort" ⟨[.ref x], kw⟩)
    (body : ∀ E' : Value → Shared → Prop, wpAny (model prog w) A.in1.in1 (Builtin.«list.sort» ⟨[.ref (s.heap.objs.size + 1)], kw⟩) (fun f s' => f = .done (.ret .none) ∧ Q (.ref (s.heap.objs.size + 1)) s') E' { s with heap := copyHeap s.heap vs }) :
    wpAny (model prog w) A (call (.builtin "sorted") [.ref l] kw) Q E s := by
  refine PyProof.Rows.call_function_entry_kw kind_sorted plain_sorted entry_sorted ha1 ?_
  unfold Builtin.«sorted»
  refine wpAny_bind (m := checkCount "sorted" 1 1 _) (wpAny_pure ?_)
  refine wpAny_bind (collect_tup hl ?_ hL)
  refine wpAny_bind (wpAny_newList ?_ hL)
  have hsz : ((s.heap.push (seqObj "list" #[] 0)).update s.heap.objs.size (Obj.mapSeq (· ++ vs.toArray))).objs.size = s.heap.objs.size + 1 := by
    rw [Heap.size_update, size_push']
  show wpAny _ _ _ _ _ { s with heap := copyHeap s.heap vs }
  rw [hsz]
  refine wpAny_bind (wpAny_holding (wpAny_call_entry_kw slot_list_sort ⟨_, copyHeap_at s.heap vs, rfl⟩ entry_list_sort ?body (ha2 _)))
  case body =>
    show wpAny (model prog w) A.in1.in1 (Builtin.«list.sort» ⟨[.ref (s.heap.objs.size + 1)], kw⟩) _ _ _
    refine wpAny_mono (body _) (fun f s' hf => ?_) fun _ _ e => e
    obtain ⟨rfl, hq⟩ := hf
    exact ⟨_, rfl, wpAny_pure ⟨_, rfl, hq⟩⟩
theorem sorted_dataT {β : Type} {R : Value → β → Prop} {enc : β → PyData} {vs : List Value} {bs : List β} {l : Addr} {Q : Value → Shared → Prop} (hl : IsTup s.heap l vs.toArray) (e : EachIs R vs bs) (er : EachIs (fun v b => ∃ as, Reads s.heap v (enc b) as) vs bs) (hal : AllAlike (bs.map enc)) (hk : Sortable1 (bs.map enc)) (hL : bs.length ≤ sizeLine)
    (hu : ∀ b, b ∈ bs → A.units + 2 + (enc b).depth < cLine) (h : ∀ out, out.length = bs.length → EachIs R out (bs.mergeSort (dataLe false enc)) → Q (.ref (s.heap.objs.size + 1)) { s with heap := sortedAll s.heap vs (List.toArray out) }) :
    wpAny (model prog w) A (call (.builtin "sorted") [.ref l]) Q E s := by
  have er' : EachIs (fun v b => ∃ as, Reads (sortingHeap (copyHeap s.heap vs) (s.heap.objs.size + 1) vs) v (enc b) as) vs bs := er.mono fun _ _ ⟨as, r⟩ => ⟨as, PyProof.Rows.Reads.keeps (fun _ _ => sorting_copy_old) r⟩
  have S : SortsAt prog w A.in1.in1 { s with heap := sortingHeap (copyHeap s.heap vs) (s.heap.objs.size + 1) vs } (dataKind (sortingHeap (copyHeap s.heap vs) (s.heap.objs.size + 1) vs) (bs.map enc)) vs := sortsAt1 (s := { s with heap := sortingHeap (copyHeap s.heap vs) (s.heap.objs.size + 1) vs }) (each_map (R := fun v d => ∃ as, Reads (sortingHeap (copyHeap s.heap vs) (s.heap.objs.size + 1) vs) v d as) enc er') hal hk (bound_map hu)
  have hL' : vs.length ≤ sizeLine := by rw [e.length]; exact hL
  exact sorted_of_sortT hl hL' (args_sorted1 _) (fun _ => args_list_sort _) fun _ => list_sort_vals (s := { s with heap := copyHeap s.heap vs }) (copyHeap_at s.heap vs) S hL' ⟨rfl, h _ (by rw [sortVals_length false rfl]; exact e.length) (sortVals_data false e er' hal)⟩
end
def rSortedDT (K : Fg) : List V → Hp → VK → Prop := fun vs H Q => ∃ (a : Addr) (xs : List V) (ds : List PD), vs = [V.ref a] ∧ SqT K H a xs ∧ DpAll K H xs ds ∧ okSort ds ∧
  ∀ p : Addr, H p = none → Q (.ref p) (upd H p (.lst ((sPair xs ds).map (·.1))))
theorem cr_sortedDT {X : Cx} (hu : X.A.units + 65 < cLine) : CallR X (.builtin "sorted") (rSortedDT X.K) := by
  intro pins s σ H vs us Q I r h
  obtain ⟨a, xs, ds, rfl, hs, hd, ⟨o1, o2, o3⟩, q⟩ := h
  obtain ⟨its, rv, hl, hz⟩ := I.tuple hs
  rw [Vals.ref1 r]
  have hlen := dpa_len hd
  have hsnd := zip_snd hlen
  have hzl : (xs.zip ds).length = xs.length := by rw [List.length_zip]; omega
  refine sorted_dataT (R := fun (u : Value) (b : V × PD) => RelV b.1 u) (bs := xs.zip ds) (enc := fun b => b.2) hl (each_rel rv hlen) (each_reads I rv hd) (by rw [hsnd]; exact o1) (by rw [hsnd]; exact o2) (by rw [hzl]; exact hz) (fun b hb => ?_) fun out ho eo => ?_
  · have : b.2 ∈ ds := by rw [← hsnd]; exact List.mem_map.mpr ⟨b, hb, rfl⟩
    have := o3 _ this
    omega
  · obtain ⟨ep, he'⟩ := PyProof.Rows.sortedAll_at s.heap its out.toArray
    have hl2 : ((sPair xs ds).map (·.1)).length ≤ sizeLine := by
      unfold sPair
      rw [List.length_map, List.length_mergeSort, hzl]; exact hz
    exact ⟨.ref _, upd H (s.heap.objs.size + 1) (.lst ((sPair xs ds).map (·.1))), I.laid (t' := s.toks) (fun _ _ => PyProof.Rows.sortedAll_old) (Nat.le_succ _) ⟨hl2, out, ep, rel_each eo, he'⟩, rfl, q _ (I.hok.fresh (Nat.le_succ _))⟩
def fSortDT : List PD → Option Res
  | [.tuple ds] => if okSortB ds = true then some (.obj (.ol (dsort ds))) else none
  | _ => none
theorem rno_sortDT {K : Fg} : RnO K (rSortedDT K) fSortDT := by
  intro G H xs ds res s hx hf Q k
  unfold fSortDT at hf
  split at hf
  · rename_i es
    obtain ⟨v, rfl, h⟩ := one_of hx
    split at hf
    · rename_i hc
      cases hf
      cases h with
      | @tup a vs _ q r =>
      refine ⟨a, vs, es, rfl, sqtM s q, dpaM s _ _ r, okSort_of hc, fun p hp => ?_⟩
      have hl := dpa_len r
      refine k _ _ (upd_grow hp) (ok_lst s hp ?_)
      rw [← pair_snd hl]
      refine dpa_pairs fun b hb => zip_dp r b ?_
      unfold sPair at hb
      exact (List.mergeSort_perm _ _).mem_iff.mp hb
    · cases hf
  · cases hf
def fSortB (xs : List PD) : Option Res := match fSortA xs with
  | some r => some r
  | none => fSortDT xs
theorem rno_sortB {K : Fg} : RnO K (fun xs H Q => (rSortedI K xs H Q ∨ rSortedD K xs H Q) ∨ rSortedDT K xs H Q) fSortB := by
  intro G H xs ds res s hx hf Q k
  unfold fSortB at hf
  cases e : fSortA ds with
  | some r =>
    rw [e] at hf
    cases hf
    exact .inl (rno_sortA G H xs ds res s hx e Q k)
  | none =>
    rw [e] at hf
    exact .inr (rno_sortDT G H xs ds res s hx hf Q k)
/-! what is sorted -/
theorem dle_int (x y : Int) : dle (.int x) (.int y) = decide (x ≤ y) := by
  show (!dataLt (.int y) (.int x)) = _
  rw [dataLt_int, not_lt_int]
theorem dsort_ints (l : List Int) : dsort (l.map .int) = (isort l).map .int := by
  unfold dsort isort
  rw [← List.map_mergeSort (f := PyData.int) (r := fun a b => decide (a ≤ b)) (s := dle) fun a _ b _ => (dle_int a b).symm]
theorem okSort_ints (l : List Int) : okSortB (l.map .int) = true := by
  unfold okSortB
  simp [List.all_map, noTup, alike, PyData.depth]
end Vl

-- V35
set_option Elab.async false
set_option linter.all false
set_option maxRecDepth 100000
set_option maxHeartbeats 4000000
/-! is of bools; min, max, sum of tuples; order of data -/
namespace Vl
open PySem L2 PyProof.Rows PySem.W
/-! ### is True, is not False -/
def fIsA (x y : PD) : Option PD := match x, y with
  | .bool a, .bool b => some (.bool (decide (a = b)))
  | _, _ => fIs x y
def fIsNotA (x y : PD) : Option PD := match x, y with
  | .bool a, .bool b => some (.bool (!decide (a = b)))
  | _, _ => fIsNot x y
theorem r2s_isA {K : Fg} : R2S K (fun x y H Q => (y = .non ∧ Q (.bl (decide (x = .non))) H) ∨ rIsB x y H Q) fIsA := by
  intro H x y dx dy d hx hy hf Q k
  unfold fIsA at hf
  split at hf
  · cases hf
    cases hx
    cases hy
    exact .inr ⟨_, _, rfl, rfl, k _ H (Same.refl H) (Dp.bl _)⟩
  · exact .inl (r2s_is H x y dx dy d hx hy hf Q k)
theorem r2s_isnotA {K : Fg} : R2S K (fun x y H Q => (y = .non ∧ Q (.bl (!decide (x = .non))) H) ∨ rNotB x y H Q) fIsNotA := by
  intro H x y dx dy d hx hy hf Q k
  unfold fIsNotA at hf
  split at hf
  · cases hf
    cases hx
    cases hy
    exact .inr ⟨_, _, rfl, rfl, k _ H (Same.refl H) (Dp.bl _)⟩
  · exact .inl (r2s_isnot H x y dx dy d hx hy hf Q k)
/-! ### min, max of a tuple -/
def rBestDT (mD : PD → List PD → PD) (K : Fg) : List V → Hp → VK → Prop := fun vs H Q => ∃ (a : Addr) (xs : List V) (d : PD) (ds : List PD), vs = [V.ref a] ∧ SqT K H a xs ∧ DpAll K H xs (d :: ds) ∧ AlikeAll (d :: ds) ∧ PyData.depthAll (d :: ds) ≤ 60 ∧
  ∀ (i : Nat) (v : V), xs[i]? = some v → (d :: ds)[i]? = some (mD d ds) → Q v H
section
variable {X : Cx}
theorem cr_minDT (hc : X.calm = true) (hu : X.A.units + 65 < cLine) : CallR X (.builtin "min") (rBestDT minD X.K) := by
  intro pins s σ H vs us Q I r h
  obtain ⟨a, xs, d, ds, rfl, hs, hd, ha, hdp, q⟩ := h
  obtain ⟨its, rv, hl, hz⟩ := I.tuple hs
  rw [Vals.ref1 r]
  obtain ⟨as, hra⟩ := Dp.readsAll I _ _ _ hd rv
  refine min_tuple_data (I.ok.hd hc) hl (by simpa using hra) ha (by omega) fun i v h' tk bs hv hr hk => ?_
  obtain ⟨w, d', as', e1, e2, rw', rd⟩ := place_of (i := i) I rv hd (by simpa using hv)
  have hm : d' ∈ d :: ds := List.mem_of_getElem? e2
  have e := alike_unique d' (minD d ds) v _ _ (ha.1 d' hm _ (minD_mem ds d)) (PyProof.Rows.Reads.keeps hk rd) hr
  exact ⟨w, H, I.kept hk, rw', q i w e1 (by rw [e2, e])⟩
theorem cr_maxDT (hc : X.calm = true) (hu : X.A.units + 65 < cLine) : CallR X (.builtin "max") (rBestDT maxD X.K) := by
  intro pins s σ H vs us Q I r h
  obtain ⟨a, xs, d, ds, rfl, hs, hd, ha, hdp, q⟩ := h
  obtain ⟨its, rv, hl, hz⟩ := I.tuple hs
  rw [Vals.ref1 r]
  obtain ⟨as, hra⟩ := Dp.readsAll I _ _ _ hd rv
  refine max_tuple_data (I.ok.hd hc) hl (by simpa using hra) ha (by omega) fun i v h' tk bs hv hr hk => ?_
  obtain ⟨w, d', as', e1, e2, rw', rd⟩ := place_of (i := i) I rv hd (by simpa using hv)
  have hm : d' ∈ d :: ds := List.mem_of_getElem? e2
  have e := alike_unique d' (maxD d ds) v _ _ (ha.1 d' hm _ (maxD_mem ds d)) (PyProof.Rows.Reads.keeps hk rd) hr
  exact ⟨w, H, I.kept hk, rw', q i w e1 (by rw [e2, e])⟩
end
def fBestT (mD : PD → List PD → PD) : List PD → Option Res
  | [.tuple (d :: ds)] => if okBest (d :: ds) = true then some (.val (mD d ds)) else none
  | _ => none
theorem rno_bestT {K : Fg} {mD : PD → List PD → PD} : RnO K (rBestDT mD K) (fBestT mD) := by
  intro G H xs ds res s hx hf Q k
  unfold fBestT at hf
  split at hf
  · rename_i d es
    obtain ⟨v, rfl, h⟩ := one_of hx
    split at hf
    · rename_i hc
      cases hf
      cases h with
      | @tup a vs _ q r =>
      obtain ⟨h1, h2⟩ := okBest_of hc
      refine ⟨a, vs, d, es, rfl, sqtM s q, dpaM s _ _ r, h1, h2, fun i w e1 e2 => ?_⟩
      obtain ⟨w2, e3, dw⟩ := dpa_at r e2
      rw [e1] at e3
      cases e3
      exact k _ H (Same.refl H) (ok_val s dw)
    · cases hf
  · cases hf
def fMinB (xs : List PD) : Option Res := match fMinA xs with
  | some r => some r
  | none => fBestT minD xs
def fMaxB (xs : List PD) : Option Res := match fMaxA xs with
  | some r => some r
  | none => fBestT maxD xs
theorem rno_minB {K : Fg} : RnO K (fun xs H Q => (rMin K xs H Q ∨ rBestD minD K xs H Q) ∨ rBestDT minD K xs H Q) fMinB := by
  intro G H xs ds res s hx hf Q k
  unfold fMinB at hf
  cases e : fMinA ds with
  | some r =>
    rw [e] at hf
    cases hf
    exact .inl (rno_minA G H xs ds _ s hx e Q k)
  | none =>
    rw [e] at hf
    exact .inr (rno_bestT G H xs ds res s hx hf Q k)
theorem rno_maxB {K : Fg} : RnO K (fun xs H Q => (rMax K xs H Q ∨ rBestD maxD K xs H Q) ∨ rBestDT maxD K xs H Q) fMaxB := by
  intro G H xs ds res s hx hf Q k
  unfold fMaxB at hf
  cases e : fMaxA ds with
  | some r =>
    rw [e] at hf
    cases hf
    exact .inl (rno_maxA G H xs ds _ s hx e Q k)
  | none =>
    rw [e] at hf
    exact .inr (rno_bestT G H xs ds res s hx hf Q k)
/-! ### sum of a tuple -/
section
variable {prog : Program} {w : World} {A : Around} {E : Value → Shared → Prop} {s : Shared}
theorem preSum_list (ns : List Int) : ∀ j, j ≤ ns.length → preSum (fun i => ns.getD i 0) j = (ns.take j).sum
  | 0, _ => by simp [preSum]
  | j + 1, h => by
    rw [preSum, preSum_list ns j (by omega), List.take_add_one, List.getElem?_eq_getElem (by omega), List.sum_append]
    simp [List.getD_eq_getElem?_getD, List.getElem?_eq_getElem (show j < ns.length by omega)]
theorem ints_at2 : ∀ {its : List Value} {ns : List Int}, IntsAre its ns → ∀ (i : Nat) (v : Value), its[i]? = some v → ∃ t, v = .int (ns.getD i 0) t
  | _, _, .nil, i, v, h => by simp at h
  | _, _, .cons n t r, 0, v, h => ⟨t, by simp at h; rw [← h]; rfl⟩
  | _, _, .cons n t r, i + 1, v, h => by
    obtain ⟨t', e'⟩ := ints_at2 r i v (by simpa using h)
    exact ⟨t', by simpa using e'⟩
theorem sum_tupI {l : Addr} {its : List Value} {ns : List Int} {Q : Value → Shared → Prop} (hh : A.handled = none) (hl : IsTup s.heap l its.toArray) (hi : IntsAre its ns)
    (h : ∀ h' tk t', (∀ b o, s.heap.get? b = some o → h'.get? b = some o) → Q (.int ns.sum t') { s with heap := h', toks := tk }) : wpAny (model prog w) A (call (.builtin "sum") [.ref l]) Q E s := by
  refine call_sum_walkAnyS (iter_tupleW (A := A.in1) hh hl fun s₂ e W st hfp hw hk => ?_)
  refine ⟨_, _, _, _, _, _, _, fun i => ns.getD i 0, rfl, W, st, hfp, fun i v hv => ?_, fun s' t' m => ?_⟩
  · exact ints_at2 hi i v (by simpa using hv)
  · obtain ⟨h', tk, rfl, hk'⟩ := moved_old e rfl m
    have e1 : preSum (fun i => ns.getD i 0) its.toArray.size = ns.sum := by
      have hlen := hi.length
      rw [List.size_toArray, hlen, preSum_list ns _ (Nat.le_refl _), List.take_length]
    rw [e1]
    exact h h' tk t' hk'
end
def rSumT (K : Fg) : List V → Hp → VK → Prop := fun vs H Q => ∃ (a : Addr) (ns : List Int), vs = [V.ref a] ∧ SqT K H a (ns.map V.int) ∧ Q (.int ns.sum) H
theorem cr_sumT {X : Cx} (hc : X.calm = true) : CallR X (.builtin "sum") (rSumT X.K) := by
  intro pins s σ H vs us Q I r h
  obtain ⟨a, ns, rfl, hs, q⟩ := h
  obtain ⟨its, rv, hl, _⟩ := I.tuple hs
  rw [Vals.ref1 r]
  exact sum_tupI (I.ok.hd hc) hl rv.ints fun h' tk t' hk => ⟨.int _, H, I.kept hk, ⟨_, rfl⟩, q⟩
def fSumB (xs : List PD) : Option PD := match xs with
  | [.tuple ds] => (asInts ds).map fun ns => .int ns.sum
  | _ => fSum xs
theorem rns_sumB {K : Fg} : RnS K (fun xs H Q => rSum K xs H Q ∨ rSumT K xs H Q) fSumB := by
  intro H xs ds d hx hf Q k
  unfold fSumB at hf
  split at hf
  · rename_i es
    cases e : asInts es with
    | none => rw [e] at hf; cases hf
    | some ns =>
      rw [e] at hf
      cases hf
      cases hx with
      | cons hv ht =>
      cases ht
      cases hv with
      | @tup a vs _ q r =>
      rw [asInts_map e] at r
      rw [dpa_ints r] at q
      exact .inr ⟨a, ns, rfl, q, k _ H (Same.refl H) (Dp.int _)⟩
  · exact .inl (rns_sum H xs ds d hx hf Q k)
/-! ### order of data -/
def okCmp (x y : PD) : Bool := alike x y && !isN x && decide (x.depth ≤ 60)
def rCmpD (K : Fg) (f : PD → PD → Bool) : R2 := fun x y H Q => ∃ dx dy, Dp K H x dx ∧ Dp K H y dy ∧ alike dx dy = true ∧ dx ≠ .none ∧ dx.depth ≤ 60 ∧ Q (.bl (f dx dy)) H
section
variable {X : Cx}
theorem op_ltD (hu : X.A.units + 65 < cLine) : OpR X (compareOp .Lt) (rCmpD X.K fun x y => dataLt x y) := by
  intro pins s σ H x y v u Q I rx ry ⟨d, e, hd, he, ha, hn, hp, q⟩
  obtain ⟨as, r1⟩ := Dp.reads I d x v hd rx
  obtain ⟨bs, r2⟩ := Dp.reads I e y u he ry
  exact lt_data r1 r2 ha hn (by omega) ⟨.bl _, H, I, rfl, q⟩
theorem op_gtD (hu : X.A.units + 65 < cLine) : OpR X (compareOp .Gt) (rCmpD X.K fun x y => dataLt y x) := by
  intro pins s σ H x y v u Q I rx ry ⟨d, e, hd, he, ha, hn, hp, q⟩
  obtain ⟨as, r1⟩ := Dp.reads I d x v hd rx
  obtain ⟨bs, r2⟩ := Dp.reads I e y u he ry
  exact gt_data r1 r2 ha hn (by omega) ⟨.bl _, H, I, rfl, q⟩
theorem op_leD (hu : X.A.units + 65 < cLine) : OpR X (compareOp .LtE) (rCmpD X.K fun x y => !dataLt y x) := by
  intro pins s σ H x y v u Q I rx ry ⟨d, e, hd, he, ha, hn, hp, q⟩
  obtain ⟨as, r1⟩ := Dp.reads I d x v hd rx
  obtain ⟨bs, r2⟩ := Dp.reads I e y u he ry
  exact le_data r1 r2 ha hn (by omega) ⟨.bl _, H, I, rfl, q⟩
theorem op_geD (hu : X.A.units + 65 < cLine) : OpR X (compareOp .GtE) (rCmpD X.K fun x y => !dataLt x y) := by
  intro pins s σ H x y v u Q I rx ry ⟨d, e, hd, he, ha, hn, hp, q⟩
  obtain ⟨as, r1⟩ := Dp.reads I d x v hd rx
  obtain ⟨bs, r2⟩ := Dp.reads I e y u he ry
  exact ge_data r1 r2 ha hn (by omega) ⟨.bl _, H, I, rfl, q⟩
end
def fCmp (g : Int → Int → Option PD) (f : PD → PD → Bool) (x y : PD) : Option PD := match fInt g x y with
  | some d => some d
  | none => if okCmp x y = true then some (.bool (f x y)) else none
theorem r2s_cmpD {K : Fg} {g : Int → Int → Option PD} {f : PD → PD → Bool} {r : R2} (h : R2S K r (fInt g)) : R2S K (fun x y H Q => r x y H Q ∨ rCmpD K f x y H Q) (fCmp g f) := by
  intro H x y dx dy d hx hy hf Q k
  unfold fCmp at hf
  cases e : fInt g dx dy with
  | some z =>
    rw [e] at hf
    cases hf
    exact .inl (h H x y dx dy _ hx hy e Q k)
  | none =>
    rw [e] at hf
    have hf : (if okCmp dx dy = true then some (PyData.bool (f dx dy)) else none) = some d := hf
    split at hf
    · rename_i hc
      cases hf
      unfold okCmp at hc
      simp only [Bool.and_eq_true, decide_eq_true_eq] at hc
      refine .inr ⟨dx, dy, hx, hy, hc.1.1, fun z => ?_, hc.2, k _ H (Same.refl H) (Dp.bl _)⟩
      have := hc.1.2
      rw [z] at this
      cases this
    · cases hf
def fLtA : PD → PD → Option PD := fCmp cLt fun x y => dataLt x y
def fGtA : PD → PD → Option PD := fCmp cGt fun x y => dataLt y x
def fLeA : PD → PD → Option PD := fCmp cLe fun x y => !dataLt y x
def fGeA : PD → PD → Option PD := fCmp cGe fun x y => !dataLt x y
end Vl

-- V36
set_option Elab.async false
set_option linter.all false
set_option maxRecDepth 100000
set_option maxHeartbeats 4000000
/-! a, b = x, y where the pair itself is never kept -/
namespace Vl
open PySem L2
section
variable {X : Cx} {pos : Pos} {p : Bool}
theorem es_par {i j : Nat} {x y : Str} {a b : Expr} {ms : M (List PD)} {px py pt : Pos} {kt k2 : Nat} {pt2 : Pos} (hc : X.calm = true) (hN : X.N.Nodup) (ha : EA X p .D [a, b] ms) (hi : X.N[i]? = some x := by rfl) (hj : X.N[j]? = some y := by rfl) (hij : i ≠ j := by decide)
    (hx : X.env.scope.names.lookup x = some .local := by rfl) (hy : X.env.scope.names.lookup y = some .local := by rfl)
    (hw : swappedStores [.Tuple [.Name x px, .Name y py] kt pt] (.Tuple [a, b] k2 pt2) X.env = pure (some [x, y]) := by rfl)
    (hs : swapsWithSole [.Tuple [.Name x px, .Name y py] kt pt] (.Tuple [a, b] k2 pt2) pos.line X.env = pure false := by rfl) :
    ES X (.Assign [.Tuple [.Name x px, .Name y py] kt pt] (.Tuple [a, b] k2 pt2) pos) (sAsg (gT (gCons (gN i) (gCons (gN j) gNil))) (mV (mN fTup ms))) := by
  obtain ⟨t, a1, a2⟩ := ha.ok
  refine ⟨_, ps_par hc hN hi hj hij hx hy a1 hw hs, fun G H0 pin ow σ H as c as' D S hm k => ?_⟩
  unfold sAsg at hm
  split at hm
  · cases hm
  · rename_i d as1 q
    have q' : ∃ ds, ms as = some (ds, as1) ∧ d = .tuple ds := by
      obtain ⟨r, asx, h1, h2⟩ := bind_some q
      obtain ⟨ds, asy, h3, h4⟩ := bind_some h1
      obtain ⟨h5, rfl⟩ := opt_some h4
      unfold fTup at h5
      split at h5
      · cases h5
        obtain ⟨h6, rfl⟩ := opt_some h2
        cases h6
        exact ⟨ds, h3, rfl⟩
      · cases h5
    obtain ⟨ds, q1, rfl⟩ := q'
    split at hm
    · cases hm
    · rename_i as2 q2
      cases hm
      refine a2 G H0 pin ow σ H as ds as1 _ S q1 fun vs H1 ow1 st sm S1 lv => ?_
      have lv' := dpa_of lv
      simp only [gT, gCons] at q2
      split at q2
      · cases q2
      · rename_i d1 r
        split at q2
        · cases q2
        · rename_i as3 g1
          split at q2
          · cases q2
          · rename_i d2 r2
            split at q2
            · cases q2
            · rename_i as4 g2
              have e1 := gN_some g1
              have e2 := gN_some g2
              unfold gNil at q2
              split at q2
              · cases q2
                subst e1 e2
                cases lv' with
                | cons h1 t1 =>
                  cases t1 with
                  | cons h2 t2 =>
                    cases t2
                    obtain ⟨S2, st2⟩ := S1.setD (i := i) h1
                    obtain ⟨S3, st3⟩ := S2.setD (i := j) (dpM st2.dur _ _ h2)
                    exact ⟨_, _, rfl, k _ _ _ (st.dur.trans (st2.dur.trans st3.dur)) S3⟩
              · cases q2
end
end Vl

-- V37
set_option Elab.async false
set_option linter.all false
set_option maxRecDepth 100000
set_option maxHeartbeats 4000000
/-! sorted(set(xs)), xs a tuple of tuples of ints -/
namespace L2
open PySem PySem.Spec PyProof.Rows
section
variable {P : Program} {w : World} {A : Around} {E : Value → Shared → Prop} {s : Shared}
theorem call_set_tupsT {l : Addr} {items : Array Value} (ks : List (Addr × List Int)) {Q : Value → Shared → Prop} (hh : A.handled = none) (hl : s.heap.IsTuple l items) (hit : items.toList = ks.map fun p => Value.ref p.1)
    (hk : ∀ p ∈ ks, IsT P w s.heap p.2 p.1) (hfew : ks.length < 64) (hu : A.units + 3 < cLine)
    (h : ∀ (h' : Heap) (tk : Nat) L es ep t, SetTR P w h' s.heap.objs.size L es ep t → Got ks ks.length L → (∀ b o, s.heap.get? b = some o → h'.get? b = some o) → Q (.ref s.heap.objs.size) { s with heap := h', toks := tk }) :
    wpAny (model P w) A (call (.type "set") [.ref l]) Q E s := by
  have hisz : items.size = ks.length := by
    have q := congrArg List.length hit
    rw [Array.length_toList, List.length_map] at q
    exact q
  obtain ⟨c, tl, hmro⟩ := F.called_set.mro
  have hmade := F.called_set.made
  have hsub := F.called_set.sub
  refine wpAny_call (codeAny_of_tree ?_)
  show wpAny _ _ (callAny (.type "set") _) _ _ _
  refine wpAny_pure ⟨Code.quiet_builtin _ (by decide +kernel), codeAny_builtin F.entry_type_call ?_⟩
  rw [Around.under_plain (weight_type_call_type "set" [.ref l] []) rfl]
  have h1 := F.called_set.notType
  have h2 := F.called_set.canCreate
  have hct := F.typeCall_set_1 (.ref l)
  repeat (any_goals (first | assumption | wp_step))

  refine codeAny_mono (code_set_led1 (.ref l) (E := E) (Q₁ := fun obj s₁ => obj = .ref s.heap.objs.size ∧ s₁ = { s with heap := s.heap.push { cls := .type "set", dict := none, data := .set #[] 0 (.fresh 0 0 (!w.params.followText "set-order")) } }) ⟨rfl, rfl⟩) fun r s₁ hr => ?_
  cases r with
  | error e => exact hr
  | ok fl =>
    cases fl with
    | ret obj =>
      obtain ⟨rfl, rfl⟩ := hr
      have hS : (s.heap.push { cls := .type "set", dict := none, data := .set #[] 0 (.fresh 0 0 (!w.params.followText "set-order")) }).get? s.heap.objs.size = some { cls := .type "set", dict := none, data := .set #[] 0 (.fresh 0 0 (!w.params.followText "set-order")) } := Heap.get?_push_size _ rfl
      have hT : Shared.TypeIs { s with heap := s.heap.push { cls := .type "set", dict := none, data := .set #[] 0 (.fresh 0 0 (!w.params.followText "set-order")) } } (.ref s.heap.objs.size) "set" := ⟨_, hS, rfl⟩
      have hli := F.called_set.init.lookup
      have hbi := F.called_set.init.bind (.ref s.heap.objs.size)
      repeat (any_goals (first | assumption | wp_step))

      refine codeAny_mono (codeAny_call_builtin (R := wants (fun r s₂ => r = .none ∧ ∃ h' tk L es ep t, s₂ = { s with heap := h', toks := tk } ∧ SetTR P w h' s.heap.objs.size L es ep t ∧ Got ks ks.length L ∧
          (∀ b o, s.heap.get? b = some o → h'.get? b = some o)) E) F.called_set.init.plain F.entry_set_init (check_set_init_1 hT ?_)) fun r₂ s₂ hr₂ => ?_
      · obtain ⟨ol, hol, hcl, nl, hdl⟩ := hl
        obtain ⟨ocls, odict, odata, oslots⟩ := ol
        simp only at hcl hdl
        subst hcl; subst hdl
        have hol' : (s.heap.push { cls := .type "set", dict := none, data := .set #[] 0 (.fresh 0 0 (!w.params.followText "set-order")) }).get? l = some { cls := .type "tuple", dict := odict, data := .seq items nl, slots := oslots } := Heap.get?_push_of_some _ hol
        have hsls := F.sub_tuple_set
        have hslf := F.sub_tuple_frozenset
        have hne : (Value.type "tuple" == Value.type "dict") = false := by decide
        have hl1 : (s.heap.push { cls := .type "set", dict := none, data := .set #[] 0 (.fresh 0 0 (!w.params.followText "set-order")) }).IsTuple l items := ⟨_, hol', rfl, nl, rfl⟩
        unfold Builtin.«set.__init__» noKeywords Builtin.Frozenset.updateFrom
        generalize hPI : pyIter = PI
        wp_walk
        subst hPI

        refine wpAny_pyIter_tuple hl1 ?_
        refine wpAny_bind (wpAny_runValue ?_)
        have hlS : l < s.heap.objs.size := Heap.lt_size hol
        have hh3 : A.in1.in1.in1.handled = none := by simp [hh]
        have hz1 : (s.heap.push { cls := .type "set", dict := none, data := .set #[] 0 (.fresh 0 0 (!w.params.followText "set-order")) }).objs.size = s.heap.objs.size + 1 := Heap.size_push ..
        have hneI : l ≠ (s.heap.push { cls := .type "set", dict := none, data := .set #[] 0 (.fresh 0 0 (!w.params.followText "set-order")) }).objs.size := by
          rw [Heap.size_push]; exact Nat.ne_of_lt (Nat.lt_succ_of_lt hlS)
        have hSf : s.heap.objs.size ∉ [(s.heap.push { cls := .type "set", dict := none, data := .set #[] 0 (.fresh 0 0 (!w.params.followText "set-order")) }).objs.size, l] := by
          rw [Heap.size_push]; simp only [List.mem_cons, List.mem_singleton, List.not_mem_nil, or_false, not_or]
          exact ⟨Nat.ne_of_lt (Nat.lt_succ_self _), Nat.ne_of_gt hlS⟩
        have hval : ∀ (i : Nat) (v : Value), items[i]? = some v → ∃ p, ks[i]? = some p ∧ v = .ref p.1 := fun i v hv => by
          have q : items.toList[i]? = some v := by rw [Array.getElem?_toList]; exact hv
          rw [hit, List.getElem?_map] at q
          cases hq : ks[i]? with
          | none => rw [hq] at q; cases q
          | some p =>
            rw [hq] at q
            exact ⟨p, rfl, (Option.some.inj q).symm⟩
        have none_of : ∀ b, s.heap.objs.size ≤ b → s.heap.get? b = none := fun b hb => by
          cases q : s.heap.get? b with
          | none => rfl
          | some o => exact absurd (Nat.lt_of_lt_of_le (Heap.lt_size q) hb) (Nat.lt_irrefl _)
        refine set_update_tups ((Walks.tuple hh3 _ l hneI items).toS) s.heap.objs.size
          hSf ks hisz hfew hval s.heap hk (none_of _ (Nat.le_refl _)) (fun b hb => none_of b (by
            rw [List.mem_singleton.mp hb, Heap.size_push]
            exact Nat.le_succ _)) hu (items.size - 0) 0 _ (by omega) (Nat.zero_le _)
          ⟨⟨_, Heap.get?_push_size _ rfl, rfl, rfl⟩, (hl1.push _)⟩ (fun b o e => Heap.get?_push_of_some _ (Heap.get?_push_of_some _ e)) ?hS0 ?hR
        case hS0 =>
          have hget : ((s.heap.push { cls := .type "set", dict := none, data := .set #[] 0 (.fresh 0 0 (!w.params.followText "set-order")) }).push { cls := .type "tuple_iterator", data := .fields #[.ref l, .int 0 0] }).get? s.heap.objs.size
              = some { cls := .type "set", dict := none, data := .set #[] 0 (.fresh 0 0 (!w.params.followText "set-order")) } := Heap.get?_push_of_some _ hS
          exact ⟨[], #[], 0, _, setTR_fresh hget, Got.zero ks⟩
        case hR =>
          intro s' L es ep t hm hS' g' hkp
          obtain ⟨h', g2, d', tk', os'⟩ := s'
          have eg : g2 = s.gens := hm.gens
          have ed : d' = s.drawn := hm.drawn
          have eo : os' = s.os := hm.os
          subst eg; subst ed; subst eo
          show wpAny _ _ _ _ _ _
          refine wpAny_pure ?_
          show wpAny _ _ (ret Value.none) _ _ _
          rw [hisz] at g'
          exact wpAny_pure ⟨rfl, h', tk', L, es, ep, t, rfl, hS', g', hkp⟩

      · cases r₂ with
        | error e => exact hr₂
        | ok fl₂ =>
          cases fl₂ with
          | ret r =>
            obtain ⟨rfl, h', tk, L, es, ep, t, rfl, hS', g', hk'⟩ := hr₂
            repeat (any_goals (first | assumption | wp_step))
            exact h _ _ _ _ _ _ hS' g' hk'
          | _ => exact hr₂.elim
    | _ => exact hr.elim
end
end L2

-- V38
set_option Elab.async false
set_option linter.all false
set_option maxRecDepth 100000
set_option maxHeartbeats 4000000
/-! sorted(set(xs)), xs a tuple of tuples too -/
namespace Vl
open PySem L2 PyProof.Rows PySem.W
def rSetOfTT (K : Fg) (P : Program) (w : World) : List V → Hp → VK → Prop := fun xs H Q => ∃ (l : Addr) (ks : List (Addr × List Int)), xs = [V.ref l] ∧ SqT K H l (ks.map fun p => V.ref p.1) ∧ (∀ p ∈ ks, SqT K H p.1 (p.2.map V.int)) ∧ ks.length < 64 ∧
  ∀ a L, H a = none → (∀ p ∈ L, p ∈ ks) → (∀ p ∈ ks, p.2 ∈ L.map (·.2)) → Q (.ref a) (upd H a (SetTO P w a L))
theorem cr_setOfTT {X : Cx} (hc : X.calm = true) (hu : X.A.units + 64 < cLine) : CallR X (.type "set") (rSetOfTT X.K X.prog X.w) := by
  intro pins s σ H xs us Q I r h
  obtain ⟨l, ks, rfl, hl, hk, hf, q⟩ := h
  rw [Vals.ref1 r]
  obtain ⟨its, rv, pl, hz⟩ := I.tuple hl
  have hn : H s.heap.objs.size = none := I.hok.fresh (Nat.le_refl _)
  have pl' : s.heap.IsTuple l its.toArray := pl
  refine call_set_tupsT (P := X.prog) (w := X.w) ks (I.ok.hd hc) pl' (by simpa using refs_of_vals rv) (fun p hp => I.isT (hk p hp)) hf (by omega) fun h' tk L es ep t R g k => ?_
  refine ⟨.ref s.heap.objs.size, upd H s.heap.objs.size (SetTO X.prog X.w s.heap.objs.size L), I.laid (t' := tk) k (Nat.le_refl _) (setTO_new R.t0), rfl, q _ L hn (fun p hp => ?_) fun p hp => ?_⟩
  · exact List.mem_of_mem_take (g.sub p hp)
  · exact g.all p (by rw [List.take_length]; exact hp)
def fSSetTT (d : PD) : Option Res := match d with
  | .tuple ds => (asRows ds).bind fun rs => if rs.length < 64 then some (.obj (.ol ((rsort rs).map fun r => .tuple (r.map .int)))) else none
  | _ => none
def fSSetB (d : PD) : Option Res := match fSSetA d with
  | some r => some r
  | none => fSSetTT d
section
variable {X : Cx} {a : Expr} {p : Bool} {ma : M PD} {pos : Pos}
theorem ef_sortedSetB {q q2 q3 : Pos} (hc : X.calm = true) (hm : X.mg "sorted" = none) (hms : X.mg "set" = none) (hu65 : X.A.units + 65 < cLine) (ha : EV X p .I a ma) (hg : Gl X "sorted" := by rfl) (hgs : Gl X "set" := by rfl)
    (h1 : starEach [.Call (.Name "set" q2) [a] [] q3] X.env = (false, eval (.Call (.Name "set" q2) [a] [] q3) X.env) :: starEach [] X.env := by rfl) (h2 : (backTo pos (starEach [] X.env)).any (·.1) = false := by rfl)
    (h3 : starEach [a] X.env = (false, eval a X.env) :: starEach [] X.env := by rfl) (h4 : (backTo q3 (starEach [] X.env)).any (·.1) = false := by rfl) :
    EF X p (.Call (.Name "sorted" q) [.Call (.Name "set" q2) [a] [] q3] [] pos) (m1 fSSetB ma) := by
  obtain ⟨ta, a1, a2⟩ := ha.ok
  refine ⟨fun z => pur1 ha.pur z, _, pe_callB ((cr_sortedSetB hc).or (cr_sortedTD hc hu65)) hg hm (by decide +kernel) (pa_cons (pe_callTy (((cr_set hc).or (cr_setOfT hc (by omega))).or (cr_setOfTT hc (by omega))) hgs hms (by decide +kernel) (pa_cons a1 pa_nil h3) (by decide) (by decide) h3 h4) pa_nil h1) (by decide) (by decide) h1 h2, fun G H0 pin ow σ H as r as' Q S hm k => ?_⟩
  obtain ⟨d, as1, q1, h⟩ := bind_some hm
  obtain ⟨q2, rfl⟩ := opt_some h
  unfold fSSetB at q2
  cases eA : fSSetA d with
  | some rA =>
    rw [eA] at q2
    cases q2
    replace q2 := eA
    clear eA
    unfold fSSetA at q2
    cases e0 : fSSet d with
    | some r0 =>
      rw [e0] at q2
      cases q2
      unfold fSSet at e0
      cases e : asIntsOf d with
      | none => rw [e] at e0; cases e0
      | some ns =>
        rw [e] at e0
        have q2 : (if ns.length + 1 < 4096 then some (Res.obj (.ol ((usort ns).map .int))) else none) = some r := e0
        split at q2
        · rename_i hz
          cases q2
          refine a2 G H0 pin ow σ H as d as' _ S q1 fun v H1 ow1 st sm S1 lv => ?_
          obtain ⟨b, rfl, hq⟩ := seq_ints (lv_dp S1.hd lv) e
          refine .inl (.inl ⟨b, ns, rfl, hq, hz, fun c n hc hn => ?_⟩)
          refine .inl ⟨c, _, n, rfl, upd_same, (by have := usort_leq ns; omega), fun ms c2 h1 h2 h3 h4 => ?_⟩
          have hms : ms = usort ns := strict_uniq h1 (sorted_usort ns) fun z => by rw [h2 z, mem_usort]; simp
          subst hms
          have hc2 : H1 c2 = none := by
            by_cases z : c2 = c
            · subst z; rw [upd_same] at h4; cases h4
            · rw [upd_ne z] at h4; exact h4
          refine fin_o S1 st sm (v := .ref c2) (res := .obj (.ol ((usort ns).map .int))) (fun b x e => ?_) ⟨c2, rfl, hc2, _, upd_same, ints_dpa _⟩ k
          rw [upd_ne (ne_of_none e hc2), upd_ne (ne_of_none e hc)]; exact e
        · cases q2
    | none =>
      rw [e0] at q2
      replace q2 : fSSetT d = some r := q2
      unfold fSSetT at q2
      split at q2
      · rename_i ds
        cases e : asRows ds with
        | none => rw [e] at q2; cases q2
        | some rs =>
          rw [e] at q2
          have q2 : (if rs.length < 64 then some (Res.obj (.ol ((rsort rs).map fun r => .tuple (r.map .int)))) else none) = some r := q2
          split at q2
          · rename_i hz
            cases q2
            refine a2 G H0 pin ow σ H as _ as' _ S q1 fun v H1 ow1 st sm S1 lv => ?_
            obtain ⟨b, xs, rfl, hsq, hda⟩ := lv
            obtain ⟨ks, rfl, rfl, hks⟩ := rows_dp hda e
            refine .inl (.inr ⟨b, ks, rfl, hsq, fun p hp => sqtM S1.hd (hks p hp).1, by simpa using hz, fun c L hc hL1 hL2 => ?_⟩)
            have sc : Same H1 (upd H1 c (SetTO X.prog X.w c L)) := upd_grow hc
            refine .inr ⟨c, L, rfl, upd_same, fun p hp => sqtM sc (sqtM S1.hd (hks p (hL1 p hp)).1), fun p hp => (hks p (hL1 p hp)).2, fun L' c2 pm pw h4 => ?_⟩
            have hms : L'.map (·.2) = rsort (ks.map (·.2)) := row_uniq pw (sorted_rsort _) fun z => by
              rw [mem_rsort]
              constructor
              · intro hz
                obtain ⟨p, hp, rfl⟩ := List.mem_map.mp hz
                exact List.mem_map.mpr ⟨p, hL1 p (pm.mem_iff.mp hp), rfl⟩
              · intro hz
                obtain ⟨p, hp, rfl⟩ := List.mem_map.mp hz
                obtain ⟨p2, hp2, e2⟩ := List.mem_map.mp (hL2 p hp)
                exact List.mem_map.mpr ⟨p2, pm.mem_iff.mpr hp2, e2⟩
            have hc2 : H1 c2 = none := by
              by_cases z : c2 = c
              · subst z; rw [upd_same] at h4; cases h4
              · rw [upd_ne z] at h4; exact h4
            have sm2 : Same H1 (upd (upd H1 c (SetTO X.prog X.w c L)) c2 (.lst (L'.map fun q => V.ref q.1))) := fun b x e => by
              rw [upd_ne (ne_of_none e hc2), upd_ne (ne_of_none e hc)]; exact e
            refine fin_o S1 st sm (v := .ref c2) (res := .obj (.ol ((rsort (ks.map (·.2))).map fun r => PyData.tuple (r.map .int)))) sm2 ⟨c2, rfl, hc2, _, upd_same, ?_⟩ k
            rw [← hms]
            exact dpaM (rm_sub S1.hd hc2) _ _ (rows_back L' fun p hp => (hks p (hL1 p (pm.mem_iff.mp hp))).1)
          · cases q2
      · cases q2
  | none =>
    rw [eA] at q2
    clear eA
    replace q2 : fSSetTT d = some r := q2
    unfold fSSetTT at q2
    split at q2
    · rename_i ds
      cases e : asRows ds with
      | none => rw [e] at q2; cases q2
      | some rs =>
        rw [e] at q2
        have q2 : (if rs.length < 64 then some (Res.obj (.ol ((rsort rs).map fun r => .tuple (r.map .int)))) else none) = some r := q2
        split at q2
        · rename_i hz
          cases q2
          refine a2 G H0 pin ow σ H as _ as' _ S q1 fun v H1 ow1 st sm S1 lv => ?_
          replace lv : Dp X.K (Hd ow1 G H0 H1) v (.tuple ds) := lv
          cases lv with
          | @tup b xs _ hsq hda =>
          obtain ⟨ks, rfl, rfl, hks⟩ := rows_dp hda e
          refine .inr ⟨b, ks, rfl, sqtM S1.hd hsq, fun p hp => sqtM S1.hd (hks p hp).1, by simpa using hz, fun c L hc hL1 hL2 => ?_⟩
          have sc : Same H1 (upd H1 c (SetTO X.prog X.w c L)) := upd_grow hc
          refine .inr ⟨c, L, rfl, upd_same, fun p hp => sqtM sc (sqtM S1.hd (hks p (hL1 p hp)).1), fun p hp => (hks p (hL1 p hp)).2, fun L' c2 pm pw h4 => ?_⟩
          have hms : L'.map (·.2) = rsort (ks.map (·.2)) := row_uniq pw (sorted_rsort _) fun z => by
            rw [mem_rsort]
            constructor
            · intro hz
              obtain ⟨p, hp, rfl⟩ := List.mem_map.mp hz
              exact List.mem_map.mpr ⟨p, hL1 p (pm.mem_iff.mp hp), rfl⟩
            · intro hz
              obtain ⟨p, hp, rfl⟩ := List.mem_map.mp hz
              obtain ⟨p2, hp2, e2⟩ := List.mem_map.mp (hL2 p hp)
              exact List.mem_map.mpr ⟨p2, pm.mem_iff.mpr hp2, e2⟩
          have hc2 : H1 c2 = none := by
            by_cases z : c2 = c
            · subst z; rw [upd_same] at h4; cases h4
            · rw [upd_ne z] at h4; exact h4
          have sm2 : Same H1 (upd (upd H1 c (SetTO X.prog X.w c L)) c2 (.lst (L'.map fun q => V.ref q.1))) := fun b x e => by
            rw [upd_ne (ne_of_none e hc2), upd_ne (ne_of_none e hc)]; exact e
          refine fin_o S1 st sm (v := .ref c2) (res := .obj (.ol ((rsort (ks.map (·.2))).map fun r => PyData.tuple (r.map .int)))) sm2 ⟨c2, rfl, hc2, _, upd_same, ?_⟩ k
          rw [← hms]
          exact dpaM (rm_sub S1.hd hc2) _ _ (rows_back L' fun p hp => (hks p (hL1 p (pm.mem_iff.mp hp))).1)
        · cases q2
    · cases q2
end
end Vl

-- V39
set_option Elab.async false
set_option linter.all false
set_option maxRecDepth 100000
set_option maxHeartbeats 4000000
/-! xs[f(draws)], xs an own list that the call does not touch -/
namespace Vl
open PySem L2
def fIxR (y x : PD) : Option Res := fIx x y
def mCk {α : Type} (i : Nat) (m : M α) : M α := fun as => match mI i as with
  | none => none
  | some _ => m as
section
variable {X : Cx} {p p2 : Bool} {l1 : Lv} {pos pos' : Pos}
theorem mI_slot {as as' : AS} {i : Nat} {d : PD} (h : mI i as = some (d, as')) : as' = as ∧ ∀ {K : Fg} {G H0 H : Hp} {pin : Nat → Addr} {ow : Ow} {σ : L2.St}, SR K G H0 pin ow σ H as → ∃ v, σ[i]? = some (some v) ∧ It K H (Hd ow G H0 H) v d := by
  unfold mI at h
  split at h
  · rename_i e
    cases h
    refine ⟨rfl, fun S => ?_⟩
    obtain ⟨v, q, r⟩ := S.slot i _ e
    exact ⟨v, q, itM S.hd (Same.refl _) (it_dp.mpr r)⟩
  · rename_i e
    cases h
    refine ⟨rfl, fun S => ?_⟩
    obtain ⟨a, q, w, vs, hv, hd⟩ := S.slot i _ e
    exact ⟨_, q, ⟨a, vs, rfl, SqL.of hv, hd⟩⟩
  · rename_i e
    cases h
    refine ⟨rfl, fun S => ?_⟩
    obtain ⟨a, q, w, _, vs, hv, hd⟩ := S.slot i _ e
    exact ⟨_, q, ⟨a, vs, rfl, SqL.of hv, hd⟩⟩
  · cases h
theorem ef_ixN {i : Nat} {x : Str} {b : Expr} {mb : M PD} (hb : EV X p2 l1 b mb) (hl1 : l1 ≠ .B := by nofun) (hp : PlainIx b := by exact fun _ _ => rfl) (hN : X.N[i]? = some x := by rfl) (hv : Vis X.env.scope x := by first | exact Or.inl rfl | exact Or.inr (Or.inl rfl) | exact Or.inr (Or.inr rfl)) (hd : (x == ("__debug__" : Str)) = false := by decide)
    (hcd : (x == ("__classdict__" : Str)) = false := by decide) : EF X p2 (.Subscript (.Name x pos') b pos) (mCk i (m2 fIxR mb (mI i))) := by
  obtain ⟨tb, b1, b2⟩ := hb.ok
  refine ⟨fun z as r as' hm => ?_, _, pe_ix ix_seq (pe_var hN hv hd hcd) b1 hp, fun G H0 pin ow σ H as r as' Q S hm k => ?_⟩
  · unfold mCk at hm
    split at hm
    · cases hm
    · obtain ⟨y, as1, q1, hm⟩ := bind_some hm
      obtain ⟨x', as2, q2, hm⟩ := bind_some hm
      obtain ⟨q3, rfl⟩ := opt_some hm
      rw [(mI_slot q2).1]
      exact hb.pur z _ _ _ q1
  · unfold mCk at hm
    split at hm
    · cases hm
    · rename_i z e
      obtain ⟨d0, as0⟩ := z
      obtain ⟨v, q0, _⟩ := (mI_slot e).2 S
      obtain ⟨y, as1, q1, hm⟩ := bind_some hm
      obtain ⟨x', as2, q2, hm⟩ := bind_some hm
      obtain ⟨q3, rfl⟩ := opt_some hm
      refine ⟨v, q0, b2 G H0 pin ow σ H as y as1 _ S q1 fun w H1 ow1 st sm S1 lw => ?_⟩
      obtain ⟨h1, h2⟩ := mI_slot q2
      subst h1
      obtain ⟨v', q0', it⟩ := h2 S1
      have hvv : v' = v := by
        rw [q0] at q0'
        cases q0'; rfl
      subst hvv
      exact r2o_ix _ _ _ _ _ _ _ S1.hd it (lv_it S1.hd hl1 lw) q3 _ fun z H2 s2 okr => fin_o S1 st sm s2 okr k
end
end Vl

-- V40
set_option Elab.async false
set_option linter.all false
set_option maxRecDepth 100000
set_option maxHeartbeats 4000000
/-! y = [.. for k in d ..] of a dict of one's own, where the block stores y itself -/
namespace Vl
open PySem L2
section
variable {X : Cx} {i : Nat} {x : Str} {npos pos : Pos}
theorem es_setLcD {j : Nat} {y : Str} {py spos : Pos} {elt tg : Expr} {ifs : List Expr} {scope : Scope} {g : PD → AS → Option AS} {mc : M Bool} {el : M PD} (own : List (Str × Nat)) (hc : X.calm = true) (hNd : X.N.Nodup) (hb : blkC X.N X.env.scope scope own = true)
    (hg : ∀ (s : Shared) (H : Hp) (C : Addr) (cl : List (Str × Addr)) (fp : List Addr), EG (X.blk s H scope (compEnvC scope cl C X.env) fp) tg (own.map (·.2)) g)
    (ht : ∀ (s : Shared) (H : Hp) (C : Addr) (cl : List (Str × Addr)) (fp : List Addr), ETs (X.blk s H scope (compEnvC scope cl C X.env) fp) true ifs mc)
    (he : ∀ (s : Shared) (H : Hp) (C : Addr) (cl : List (Str × Addr)) (fp : List Addr), EV (X.blk s H scope (compEnvC scope cl C X.env) fp) true .D elt el)
    (hsw : swapsWith (.ListComp elt [{ target := tg, iter := .Name x npos, ifs := ifs, is_async := 0 }] scope pos) (some (.Name y py)) spos.line X.env = pure true)
    (hy : X.N[j]? = some y := by rfl) (hloc : X.env.scope.names.lookup y = some .local := by rfl)
    (hN : X.N[i]? = some x := by rfl) (hv : Vis X.env.scope x := by first | exact Or.inl rfl | exact Or.inr (Or.inl rfl) | exact Or.inr (Or.inr rfl)) (hd : (x == ("__debug__" : Str)) = false := by decide)
    (hcd : (x == ("__classdict__" : Str)) = false := by decide)
    (hs : ∀ z, foldedSetIterable (.Name x npos) X.env z = pure z := by intro _; rfl) : ES X (.Assign [.Name y py] (.ListComp elt [{ target := tg, iter := .Name x npos, ifs := ifs, is_async := 0 }] scope pos) spos) (sSet j (mLcD i (own.map (·.2)) g mc el)) := by
  have pg := (hg X.s_0 X.H_0 0 [] []).loc
  have pt := (ht X.s_0 X.H_0 0 [] []).pur
  have pv := (he X.s_0 X.H_0 0 [] []).pur
  have hi : EI X true .I tg (.Name x npos) (mKeys i) := ei_keys hN hv hd hcd
  obtain ⟨t, a1, a2⟩ := lc_sound (vs := own.map (·.2)) (g := g) hi (.inr ⟨rfl, rfl⟩) pt pv
  refine ⟨_, ps_lock (ps_setLc (i := j) (own := own) (g := rdG X.K (own.map (·.2)) g) (tt := rdT X.K true mc) (te := rdV X.K true .D el) hc hNd hy hloc hsw a1 (blkOk_by hb) (fun s H C cl fp => (hg s H C cl fp).can) (fun s H C cl fp => (ht s H C cl fp).ok) (fun s H C cl fp => (he s H C cl fp).can) hs), fun G H0 pin ow σ H as c as' D S hm k => ?_⟩
  unfold sSet at hm
  split at hm
  · cases hm
  · rename_i r as1 q0
    unfold mLcD at q0
    split at q0
    · rename_i kvs q
      split at q0
      · cases q0
      rename_i r' as2 q2
      cases q0
      obtain ⟨a, hz, w, ps, hp, hpp⟩ := S.slot i _ q
      refine ⟨a, .dK ps, hp, trivial, fun od => ?_⟩
      have so : slotO as i = some (.od kvs) := by unfold slotO; rw [q]
      obtain ⟨S1, st1⟩ := S.newO (u := .frz od (.dK ps)) so hz w (o' := .fk kvs) ⟨od, ps, upd_same, hpp⟩
      have e1 : setO as i (.fk kvs) = as.set i (.own (.fk kvs)) := by unfold setO; rw [q]
      rw [e1] at S1
      refine a2 G H0 pin ow σ _ _ _ as2 _ S1 q2 fun v H2 ow2 st2 sm2 S2 fr => ?_
      have sm := sm2 rfl
      have ha : H2 a = some (.frz od (.dK ps)) := sm a _ upd_same
      refine ⟨ha, ?_⟩
      obtain ⟨e2, ys, er⟩ := mLc_pur (hi.pur rfl) pg (pt rfl) (pv rfl) q2
      subst er
      subst e2
      have hil : i < as.length := (List.getElem?_eq_some_iff.mp q).1
      have so2 : slotO (as.set i (.own (.fk kvs))) i = some (.fk kvs) := by
        unfold slotO
        rw [List.getElem?_set_self hil]
      obtain ⟨a', hz2, w2, _⟩ := S2.atO so2
      rw [hz] at hz2
      cases hz2
      obtain ⟨S3, st3⟩ := S2.newO (u := .dK ps) so2 hz w2 (o' := .od kvs) ⟨ps, upd_same, Paired.mapP hpp fun _ _ z => ⟨z.1, dpM (st1.dur.trans st2.dur) _ _ z.2⟩⟩
      have e3 : setO (as.set i (.own (.fk kvs))) i (.od kvs) = as := by
        unfold setO
        rw [List.getElem?_set_self hil]
        show (as.set i _).set i _ = as
        rw [List.set_set]
        refine List.ext_getElem? fun j => ?_
        by_cases hj : i = j
        · subst hj; rw [List.getElem?_set_self hil, q]
        · rw [List.getElem?_set_ne hj]
      rw [e3] at S3
      obtain ⟨c, rfl, c1, c2, vs', hv', hd'⟩ := fr
      have hca : c ≠ a := fun z => by subst z; rw [w2] at c2; cases c2
      have ob : ObjAt X.K (Hd ow2 G H0 (upd H2 a (.dK ps))) (upd H2 a (.dK ps)) c (.ol ys) := ⟨vs', by rw [upd_ne hca]; exact hv', dpaM st3.dur _ _ hd'⟩
      split at hm
      · cases hm
      · cases hm
      · cases hm
        obtain ⟨S4, s4⟩ := S3.setO (i := j) c2 ob
        exact k _ _ _ ((st1.trans (st2.trans st3)).dur.trans s4) S4
    · cases q0
end
end Vl

-- V41
set_option Elab.async false
set_option linter.all false
set_option maxRecDepth 100000
set_option maxHeartbeats 4000000
/-! sorted(d) of a dict of one's own with int keys -/
namespace Vl
open PySem L2
def intKeys : List (Key × PD) → Option (List Int)
  | [] => some []
  | (.inl i, _) :: l => (intKeys l).map (i :: ·)
  | _ :: _ => none
theorem intKeys_map : ∀ {kvs : List (Key × PD)} {ks : List Int}, intKeys kvs = some ks → kvs.map (·.1) = ks.map Sum.inl
  | [], _, h => by cases h; rfl
  | (.inl i, d) :: l, ks, h => by
    unfold intKeys at h
    cases e : intKeys l with
    | none => rw [e] at h; cases h
    | some js =>
      rw [e] at h
      cases h
      rw [List.map_cons, List.map_cons, intKeys_map e]
  | (.inr _, _) :: _, _, h => by cases h
def mSortD (i : Nat) : M Res := fun as => match slotD as i with
  | some kvs => match intKeys kvs with
    | some ks => if ks.length < 64 then some (.obj (.ol ((isort ks).map .int)), as) else none
    | none => none
  | none => none
theorem pairKeys {K : Fg} {G : Hp} : ∀ {ps : List (Key × V)} {kvs : List (Key × PD)}, Paired (PR K G) ps kvs → ps.map (·.1) = kvs.map (·.1)
  | _, _, .nil => rfl
  | _, _, .cons h t => by rw [List.map_cons, List.map_cons, pairKeys t, h.1]
section
variable {X : Cx} {i : Nat} {x : Str} {npos pos : Pos}
theorem ef_sortedDk {f : Str} {q : Pos} (hcalm : X.calm = true) (hm : X.mg f = none) (hv : bootBuiltins f = some (.builtin "sorted")) (hN : X.N[i]? = some x := by rfl) (hvx : Vis X.env.scope x := by first | exact Or.inl rfl | exact Or.inr (Or.inl rfl) | exact Or.inr (Or.inr rfl)) (hd : (x == ("__debug__" : Str)) = false := by decide)
    (hcd : (x == ("__classdict__" : Str)) = false := by decide) (hg : Gl X f := by rfl) (hn : f ≠ "__name__" := by decide) (hdb : (f == ("__debug__" : Str)) = false := by decide)
    (h3 : starEach [.Name x npos] X.env = (false, eval (.Name x npos) X.env) :: starEach [] X.env := by rfl) (h4 : (backTo pos (starEach [] X.env)).any (·.1) = false := by rfl) : EF X true (.Call (.Name f q) [.Name x npos] [] pos) (mSortD i) := by
  have inv : ∀ {as : AS} {r : Res} {as' : AS}, mSortD i as = some (r, as') → ∃ kvs ks, slotD as i = some kvs ∧ intKeys kvs = some ks ∧ ks.length < 64 ∧ r = .obj (.ol ((isort ks).map .int)) ∧ as' = as := fun {as r as'} h => by
    unfold mSortD at h
    split at h
    · rename_i kvs e1
      split at h
      · rename_i ks e2
        split at h
        · rename_i e3
          cases h
          exact ⟨kvs, ks, e1, e2, e3, rfl, rfl⟩
        · cases h
      · cases h
    · cases h
  refine ⟨fun _ as r as' h => ?_, _, pe_callB (call_sortedDI hcalm) hg hm hv (pa_cons (pe_var hN hvx hd hcd) pa_nil h3) hn hdb h3 h4, fun G H0 pin ow σ H as r as' Q S h k => ?_⟩
  · obtain ⟨_, _, _, _, _, _, e⟩ := inv h
    exact e
  · obtain ⟨kvs, ks, e1, e2, e3, rfl, rfl⟩ := inv h
    obtain ⟨b, ps, hz, w, hr, hp⟩ := S.atD e1
    refine ⟨_, hz, b, ps, ks, rfl, hr, by rw [pairKeys hp, intKeys_map e2], e3, fun ys p hperm hsort hfree => ?_⟩
    have hys : ys = isort ks := (hperm.trans (isort_perm ks).symm).eq_of_pairwise (fun a b _ _ h1 h2 => Int.le_antisymm h1 h2) hsort (isort_sorted ks)
    subst hys
    have s : Same H (upd H p (.lst ((isort ks).map V.int))) := fun c z e => by
      rw [upd_ne (fun e2 => by subst e2; rw [hfree] at e; cases e)]; exact e
    refine fin_o S Stp.refl (fun _ => Same.refl _) s (res := .obj (.ol ((isort ks).map .int))) ⟨p, rfl, hfree, (isort ks).map V.int, upd_same, ints_dpa _⟩ k
end
end Vl

-- V42
set_option Elab.async false
set_option linter.all false
set_option maxRecDepth 100000
set_option maxHeartbeats 4000000
/-! f(..)[k], where f gives a dict -/
namespace Vl
open PySem L2
def iC3 (as : AS) (o : Option PD) : Option (PD × AS) := match o with
  | none => none
  | some d => some (d, as)
@[simp] theorem iC3_some {as : AS} {d : PD} : iC3 as (some d) = some (d, as) := (rfl)
def iC2 (kvs : List (Key × PD)) (as : AS) (o : Option Key) : Option (PD × AS) := match o with
  | none => none
  | some k => iC3 as (valP kvs k)
@[simp] theorem iC2_some {kvs : List (Key × PD)} {as : AS} {k : Key} : iC2 kvs as (some k) = iC3 as (valP kvs k) := (rfl)
def iC1 (kvs : List (Key × PD)) (q : Option (PD × AS)) : Option (PD × AS) := match q with
  | none => none
  | some (kd, as) => iC2 kvs as (kOf kd)
@[simp] theorem iC1_some {kvs : List (Key × PD)} {as : AS} {kd : PD} : iC1 kvs (some (kd, as)) = iC2 kvs as (kOf kd) := (rfl)
def iC0 (q : Option (Res × AS)) (mb : M PD) : Option (PD × AS) := match q with
  | some (.obj (.od kvs), as) => iC1 kvs (mb as)
  | _ => none
@[simp] theorem iC0_some {kvs : List (Key × PD)} {as : AS} {mb : M PD} : iC0 (some (.obj (.od kvs), as)) mb = iC1 kvs (mb as) := (rfl)
def mIxC (ma : M Res) (mb : M PD) : M PD := fun as => iC0 (ma as) mb
@[simp] theorem mIxC_ap {ma : M Res} {mb : M PD} {as : AS} : mIxC ma mb as = iC0 (ma as) mb := (rfl)
section
variable {X : Cx} {a b : Expr} {ma : M Res} {mb : M PD} {pos : Pos} {p1 p2 : Bool}
theorem ev_dixC (hu : X.A.units + 1 < cLine) (ha : EF X p1 a ma) (hb : EV X p2 .D b mb) (hs : NoSl b := by exact fun _ _ => rfl) :
    EV X (p1 && p2) .D (.Subscript a b pos) (mIxC ma mb) := by
  obtain ⟨ta, a1, a2⟩ := ha.ok
  obtain ⟨tb, b1, b2⟩ := hb.ok
  have open_ : ∀ {as as' : AS} {d : PD}, mIxC ma mb as = some (d, as') → ∃ kvs as1 kd k, ma as = some (.obj (.od kvs), as1) ∧ mb as1 = some (kd, as') ∧ kOf kd = some k ∧ valP kvs k = some d := fun {as as' d} h => by
    unfold mIxC iC0 at h
    split at h
    · rename_i kvs as1 q1
      unfold iC1 at h
      split at h
      · cases h
      · rename_i kd as2 q2
        unfold iC2 at h
        split at h
        · cases h
        · rename_i k q3
          unfold iC3 at h
          split at h
          · cases h
          · rename_i d' q4
            cases h
            exact ⟨kvs, as1, kd, k, q1, q2, q3, q4⟩
    · cases h
  refine ⟨fun z as r as' h => ?_, _, pe_dget hu a1 b1 hs, fun G H0 pin ow σ H as r as' Q S hm k => ?_⟩
  · have z' : p1 = true ∧ p2 = true := by simpa using z
    obtain ⟨kvs, as1, kd, k, q1, q2, _, _⟩ := open_ h
    exact (hb.pur z'.2 _ _ _ q2).trans (ha.pur z'.1 _ _ _ q1)
  · obtain ⟨kvs, as1, kd, kk, q1, q2, q3, q4⟩ := open_ hm
    refine a2 G H0 pin ow σ H as _ as1 _ S q1 fun v H1 ow1 st1 sm1 S1 fr => ?_
    obtain ⟨ad, rfl, w1, w2, ps, hps, hpr⟩ := fr
    refine b2 G H0 pin ow1 σ H1 as1 kd as' _ S1 q2 fun w H2 ow2 st2 sm2 S2 lv2 => ?_
    have ek := kOf_dp lv2 q3
    have hps2 : H2 ad = some (.dK ps) := by rw [(st2.tmp ad w2).2]; exact hps
    rcases val_pair hpr kk with ⟨e1, e2⟩ | ⟨v', d', e1, e2, q⟩
    · rw [e2] at q4; cases q4
    · rw [e2] at q4
      cases q4
      refine ⟨ad, v', rfl, .inl ⟨ps, kk, .inl hps2, ek, e1.symm⟩, k _ H2 ow2 (st1.trans st2) (fun z => ?_) S2 (dpM st2.dur _ _ q)⟩
      have z' : p1 = true ∧ p2 = true := by simpa using z
      exact (sm1 z'.1).trans (sm2 z'.2)
end
end Vl

-- V43
set_option Elab.async false
set_option linter.all false
set_option maxRecDepth 100000
set_option maxHeartbeats 4000000
/-! lists of lists that are changed in place: a slot that owns a list and its rows -/
namespace Vl
open PySem L2
/-! ### the slot -/
def slotR (as : AS) (i : Nat) : Option (List (List PD)) := match as[i]? with
  | some (.rw xss) => some xss
  | _ => none
def RowR (K : Fg) (G H : Hp) (ow : Ow) (z : Option (Option Nat)) (b : Addr) (xs : List PD) : Prop := ow b = z ∧ ∃ vs, H b = some (.lst vs) ∧ DpAll K G vs xs
def putL (ow : Ow) (L : List Addr) (z : Option (Option Nat)) : Ow := fun b => if b ∈ L then z else ow b
theorem putL_in {ow : Ow} {L : List Addr} {z : Option (Option Nat)} {b : Addr} (h : b ∈ L) : putL ow L z b = z := by unfold putL; rw [if_pos h]
theorem putL_ne {ow : Ow} {L : List Addr} {z : Option (Option Nat)} {b : Addr} (h : b ∉ L) : putL ow L z b = ow b := by unfold putL; rw [if_neg h]
theorem atI_map {α β : Type} {f : α → β} {l : List α} {n : Int} : atI (l.map f) n = (atI l n).map f := by
  unfold atI
  rw [List.length_map]
  cases ixN l.length n with
  | none => rfl
  | some j => show (l.map f)[j]? = (l[j]?).map f; rw [List.getElem?_map]
section
variable {K : Fg} {G H0 H H' : Hp} {pin : Nat → Addr} {ow ow' : Ow} {σ : L2.St} {as : AS} {i : Nat} {xss : List (List PD)}
theorem SR.atR (S : SR K G H0 pin ow σ H as) (e : slotR as i = some xss) : ∃ a bs, σ[i]? = some (some (.ref a)) ∧ ow a = some (some i) ∧ H a = some (.lst (bs.map .ref)) ∧ (a :: bs).Nodup ∧ Paired (RowR K (Hd ow G H0 H) H ow (some (some i))) bs xss := by
  unfold slotR at e
  split at e
  · rename_i q
    cases e
    obtain ⟨a, bs, h1, h2, h3, h4, h5⟩ := S.slot i _ q
    exact ⟨a, bs, h1, h2, h3, h4, h5⟩
  · cases e
theorem slotR_lt (e : slotR as i = some xss) : i < as.length ∧ as[i]? = some (.rw xss) := by
  unfold slotR at e
  split at e
  · rename_i q
    cases e
    exact ⟨(List.getElem?_eq_some_iff.mp q).1, q⟩
  · cases e
theorem map_ref_inj : ∀ {l m : List Addr}, l.map V.ref = m.map V.ref → l = m
  | [], [], _ => rfl
  | [], _ :: _, h => by simp at h
  | _ :: _, [], h => by simp at h
  | a :: l, b :: m, h => by
    rw [List.map_cons, List.map_cons] at h
    have h1 := (List.cons.inj h).1
    have h2 := map_ref_inj (List.cons.inj h).2
    cases h1
    rw [h2]
theorem Paired_key {α β : Type} {F F' : α → β → Prop} {c : α} (k : ∀ a b, a ≠ c → F a b → F' a b) {l : List α} {m : List β} (q : Paired F l m) : (∀ a ∈ l, a ≠ c) → Paired F' l m := by
  induction q with
  | nil => intro _; exact .nil
  | cons h t ih => intro z; exact .cons (k _ _ (z _ List.mem_cons_self) h) (ih fun a ha => z a (List.mem_cons_of_mem _ ha))
theorem Paired_set {α β : Type} {F F' : α → β → Prop} {c : α} {y : β} {l : List α} {m : List β} (h : Paired F l m) (hy : F' c y) (k : ∀ a b, a ≠ c → F a b → F' a b) : ∀ {j : Nat}, l.Nodup → l[j]? = some c → Paired F' l (m.set j y) := by
  induction h with
  | nil => intro j _ h; simp at h
  | @cons a b l m h t ih =>
    intro j nd e
    rw [List.nodup_cons] at nd
    cases j with
    | zero =>
      have e' : a = c := Option.some.inj e
      subst e'
      exact .cons hy (Paired_key k t fun x hx e => nd.1 (e ▸ hx))
    | succ j =>
      have e2 : l[j]? = some c := e
      have hm : c ∈ l := List.mem_of_getElem? e2
      exact .cons (k _ _ (fun e => nd.1 (e ▸ hm)) h) (ih nd.2 e2)
/-- a row is changed -/
theorem SR.newR (S : SR K G H0 pin ow σ H as) (e : slotR as i = some xss) {a c : Addr} {bs : List Addr} {vs' : List V} {xs' : List PD} {j : Nat} (hz : σ[i]? = some (some (.ref a))) (w : ow a = some (some i)) (l : H a = some (.lst (bs.map .ref))) (nd : (a :: bs).Nodup)
    (pr : Paired (RowR K (Hd ow G H0 H) H ow (some (some i))) bs xss) (hc : bs[j]? = some c) (wc : ow c = some (some i)) (h : DpAll K (Hd ow G H0 H) vs' xs') :
    SR K G H0 pin ow σ (upd H c (.lst vs')) (as.set i (.rw (xss.set j xs'))) ∧ Stp G H0 ow H ow (upd H c (.lst vs')) := by
  have S1 := S.tell (i := i) (s := .un) fun _ => trivial
  obtain ⟨S2, s2⟩ := S1.write (a := c) (u := .lst vs') (by rw [wc]; exact nofun) fun j t ht q => by
    rw [wc] at q
    cases q
    by_cases hl : i < as.length
    · rw [List.getElem?_set_self hl] at ht
      cases ht
      trivial
    · rw [List.getElem?_eq_none (by rw [List.length_set]; omega)] at ht; cases ht
  rw [List.nodup_cons] at nd
  have hac : a ≠ c := fun q => nd.1 (by rw [q]; exact List.mem_of_getElem? hc)
  have S3 := S2.tell (i := i) (s := .rw (xss.set j xs')) fun _ => ⟨a, bs, hz, w, by rw [upd_ne hac]; exact l, List.nodup_cons.mpr nd,
    Paired_set pr ⟨wc, vs', upd_same, dpaM s2 _ _ h⟩ (fun b xs hb ⟨w2, vs, e2, r2⟩ => ⟨w2, vs, by rw [upd_ne hb]; exact e2, dpaM s2 _ _ r2⟩) nd.2 hc⟩
  rw [List.set_set] at S3
  refine ⟨S3, s2, fun b hb => ⟨hb, upd_ne fun q => ?_⟩, fun b hb => ?_⟩
  · subst q; rw [wc] at hb; cases hb
  · by_cases q : b = c
    · subst q; rw [upd_same]; exact nofun
    · rw [upd_ne q]; exact hb
/-- kept objects become the rows of slot i -/
theorem SR.setR (S : SR K G H0 pin ow σ H as) {a : Addr} {bs : List Addr} (w : ow a = some none) (l : H a = some (.lst (bs.map .ref))) (nd : (a :: bs).Nodup) (pr : Paired (RowR K (Hd ow G H0 H) H ow (some none)) bs xss) :
    SR K G H0 pin (putL (Vl.drop ow i) (a :: bs) (some (some i))) (σ.set i (some (.ref a))) H (as.set i (.rw xss)) ∧ Same (Hd ow G H0 H) (Hd (putL (Vl.drop ow i) (a :: bs) (some (some i))) G H0 H) := by
  obtain ⟨S1, st⟩ := S.drop (i := i) (some (.ref a))
  have hw : ∀ b ∈ a :: bs, ow b = some none := fun b hb => by
    rcases List.mem_cons.mp hb with rfl | hb
    · exact w
    · obtain ⟨n, hn, rfl⟩ := List.getElem_of_mem hb
      exact (paired_at pr n hn (by rw [← pr.length]; exact hn)).1
  have w1 : ∀ b ∈ a :: bs, Vl.drop ow i b = some none := fun b hb => by rw [drop_ne (by rw [hw b hb]; intro q; cases q)]; exact hw b hb
  have hs : Same (Hd (Vl.drop ow i) G H0 H) (Hd (putL (Vl.drop ow i) (a :: bs) (some (some i))) G H0 H) := fun b x e => by
    have hb : b ∉ a :: bs := fun q => by
      rw [hd_free (by rw [w1 b q]; exact nofun)] at e; cases e
    unfold Hd at e ⊢
    rw [putL_ne hb]; exact e
  refine ⟨⟨by rw [List.length_set, List.length_set]; exact S.len, fun b x e => ?_, S.same, S.sub, fun j t h2 => ?_⟩, st.dur.trans hs⟩
  · by_cases q : b ∈ a :: bs
    · exact S.own b _ (hw b q)
    · rw [putL_ne q] at e; exact S1.own b x e
  · by_cases hj : i = j
    · subst hj
      by_cases hl : i < as.length
      · rw [List.getElem?_set_self hl] at h2
        cases h2
        refine ⟨a, bs, List.getElem?_set_self (by rw [← S.len]; exact hl), putL_in List.mem_cons_self, l, nd, ?_⟩
        have : ∀ b ∈ bs, putL (Vl.drop ow i) (a :: bs) (some (some i)) b = some (some i) := fun b hb => putL_in (List.mem_cons_of_mem _ hb)
        have key : ∀ {l : List Addr} {m : List (List PD)}, Paired (RowR K (Hd ow G H0 H) H ow (some none)) l m → (∀ b ∈ l, putL (Vl.drop ow i) (a :: bs) (some (some i)) b = some (some i)) →
            Paired (fun (b : Addr) (xs : List PD) => putL (Vl.drop ow i) (a :: bs) (some (some i)) b = some (some i) ∧ ∃ vs, H b = some (.lst vs) ∧ DpAll K (Hd (putL (Vl.drop ow i) (a :: bs) (some (some i))) G H0 H) vs xs) l m := fun {l m} q => by
          induction q with
          | nil => intro _; exact .nil
          | cons h t ih =>
            intro z
            obtain ⟨_, vs, e2, r2⟩ := h
            exact .cons ⟨z _ List.mem_cons_self, vs, e2, dpaM (st.dur.trans hs) _ _ r2⟩ (ih fun b hb => z b (List.mem_cons_of_mem _ hb))
        exact key pr this
      · rw [List.getElem?_eq_none (by rw [List.length_set]; omega)] at h2; cases h2
    · have h3 := S1.slot j t (by rw [List.getElem?_set_ne hj] at h2 ⊢; exact h2)
      refine slotM hs (fun b wb => ⟨?_, rfl⟩) h3
      have hb : b ∉ a :: bs := fun q => by rw [w1 b q] at wb; cases wb
      rw [putL_ne hb]; exact wb
theorem dpa_rows {K : Fg} {H : Hp} {bs : List Addr} {xss : List (List PD)} (h : Paired (fun (b : Addr) (xs : List PD) => ∃ vs, H b = some (.lst vs) ∧ DpAll K H vs xs) bs xss) : DpAll K H (bs.map .ref) (xss.map .list) := by
  induction h with
  | nil => exact .nil
  | cons h t ih =>
    obtain ⟨vs, e, r⟩ := h
    exact .cons (Dp.lst (SqL.of e) r) ih
/-- the rows of slot i last from now on -/
theorem SR.frz (S : SR K G H0 pin ow σ H as) (e : slotR as i = some xss) : ∃ ow', SR K G H0 pin ow' σ H (as.set i (.dur (.list (xss.map .list)))) ∧ Stp G H0 ow H ow' H := by
  obtain ⟨a, bs, hz, w, l, nd, pr⟩ := S.atR e
  have hw : ∀ b ∈ a :: bs, ow b = some (some i) := fun b hb => by
    rcases List.mem_cons.mp hb with rfl | hb
    · exact w
    · obtain ⟨n, hn, rfl⟩ := List.getElem_of_mem hb
      exact (paired_at pr n hn (by rw [← pr.length]; exact hn)).1
  have h0 : ∀ b ∈ a :: bs, H0 b = none := fun b hb => (S.own b _ (hw b hb)).1
  have hs : Same (Hd ow G H0 H) (Hd (putL ow (a :: bs) none) G H0 H) := fun b x e => by
    have hb : b ∉ a :: bs := fun q => by
      rw [hd_free (by rw [hw b q]; exact nofun)] at e; cases e
    unfold Hd at e ⊢
    rw [putL_ne hb]; exact e
  have hd : ∀ b ∈ a :: bs, Hd (putL ow (a :: bs) none) G H0 H b = H b := fun b hb => by rw [hd_own (putL_in hb), if_pos (h0 b hb)]
  have hp : Paired (fun (b : Addr) (xs : List PD) => ∃ vs, Hd (putL ow (a :: bs) none) G H0 H b = some (.lst vs) ∧ DpAll K (Hd (putL ow (a :: bs) none) G H0 H) vs xs) bs xss := by
    have key : ∀ {l : List Addr} {m : List (List PD)}, Paired (RowR K (Hd ow G H0 H) H ow (some (some i))) l m → (∀ b ∈ l, b ∈ a :: bs) →
        Paired (fun (b : Addr) (xs : List PD) => ∃ vs, Hd (putL ow (a :: bs) none) G H0 H b = some (.lst vs) ∧ DpAll K (Hd (putL ow (a :: bs) none) G H0 H) vs xs) l m := fun {l m} q => by
      induction q with
      | nil => intro _; exact .nil
      | cons h t ih =>
        intro z
        obtain ⟨_, vs, e2, r2⟩ := h
        exact .cons ⟨vs, by rw [hd _ (z _ List.mem_cons_self)]; exact e2, dpaM hs _ _ r2⟩ (ih fun b hb => z b (List.mem_cons_of_mem _ hb))
    exact key pr fun b hb => List.mem_cons_of_mem _ hb
  have hv : Dp K (Hd (putL ow (a :: bs) none) G H0 H) (.ref a) (.list (xss.map .list)) := Dp.lst (SqL.of (by rw [hd a List.mem_cons_self]; exact l)) (dpa_rows hp)
  refine ⟨putL ow (a :: bs) none, ⟨by rw [List.length_set]; exact S.len, fun b x q => ?_, S.same, S.sub, fun j t h => ?_⟩, ⟨hs, fun b q => ?_, fun _ h => h⟩⟩
  · by_cases z : b ∈ a :: bs
    · rw [putL_in z] at q; cases q
    · rw [putL_ne z] at q; exact S.own b x q
  · by_cases hj : i = j
    · subst hj
      rw [List.getElem?_set_self (slotR_lt e).1] at h
      cases h
      exact ⟨_, hz, hv⟩
    · rw [List.getElem?_set_ne hj] at h
      refine slotM hs (fun b wb => ⟨?_, rfl⟩) (S.slot j t h)
      have hb : b ∉ a :: bs := fun q => by
        rw [hw b q] at wb
        exact hj (Option.some.inj (Option.some.inj wb))
      rw [putL_ne hb]; exact wb
  · have hb : b ∉ a :: bs := fun z => by rw [hw b z] at q; cases q
    rw [putL_ne hb]; exact ⟨q, rfl⟩
end
/-! ### a row that is read -/
def mRk (i : Nat) (mk : M PD) : M PD := fun as => match slotR as i with
  | some _ => match mk as with
    | some (.int k, as1) => match slotR as1 i with
      | none => none
      | some xss => match atI xss k with
        | none => none
        | some xs => some (.list xs, as1)
    | _ => none
  | none => match as[i]? with
    | some (.dur (.list _)) => match mk as with
      | some (.int k, as1) => match as1[i]? with
        | some (.dur (.list ds)) => match atI ds k with
          | none => none
          | some d => some (d, as1)
        | _ => none
      | _ => none
    | _ => none
/-- the rows as a whole: they last from now on -/
def mZr (i : Nat) : M PD := fun as => match as[i]? with
  | some (.dur d) => some (d, as)
  | some (.rw xss) => some (.list (xss.map .list), as.set i (.dur (.list (xss.map .list))))
  | _ => none
section
variable {X : Cx} {pos : Pos} {p p1 p2 p3 : Bool} {l l1 : Lv}
theorem ev_zr {i : Nat} {x : Str} (hN : X.N[i]? = some x := by rfl) (hv : Vis X.env.scope x := by first | exact Or.inl rfl | exact Or.inr (Or.inl rfl) | exact Or.inr (Or.inr rfl)) (hd : (x == ("__debug__" : Str)) = false := by decide)
    (hcd : (x == ("__classdict__" : Str)) = false := by decide) : EV X false .D (.Name x pos) (mZr i) := by
  refine ⟨fun z => (by cases z), _, pe_var hN hv hd hcd, fun G H0 pin ow σ H as r as' Q S hm k => ?_⟩
  unfold mZr at hm
  split at hm
  · rename_i d e
    cases hm
    obtain ⟨v, q, r⟩ := S.slot i _ e
    exact ⟨v, q, k v H ow Stp.refl (fun z => by cases z) S r⟩
  · rename_i xss e
    cases hm
    have e' : slotR as i = some xss := by unfold slotR; rw [e]
    obtain ⟨ow', S', stp⟩ := S.frz e'
    obtain ⟨v, q, r⟩ := S'.slot i _ (List.getElem?_set_self (slotR_lt e').1)
    exact ⟨v, q, k v H ow' stp (fun z => by cases z) S' r⟩
  · cases hm
theorem ev_rk {i : Nat} {x : Str} {npos : Pos} {idx : Expr} {m : M PD} (h : EV X p l idx m) (hp : PlainIx idx := by exact fun _ _ => rfl)
    (hN : X.N[i]? = some x := by rfl) (hv : Vis X.env.scope x := by first | exact Or.inl rfl | exact Or.inr (Or.inl rfl) | exact Or.inr (Or.inr rfl)) (hd : (x == ("__debug__" : Str)) = false := by decide)
    (hcd : (x == ("__classdict__" : Str)) = false := by decide) : EV X p .I (.Subscript (.Name x npos) idx pos) (mRk i m) := by
  obtain ⟨t, a1, a2⟩ := h.ok
  refine ⟨fun z as r as' hm => ?_, _, pe_ix ix_seq (pe_var hN hv hd hcd) a1 hp, fun G H0 pin ow σ H as r as' Q S hm k => ?_⟩
  · unfold mRk at hm
    split at hm
    · split at hm
      · rename_i n as1 q1
        split at hm
        · cases hm
        split at hm
        · cases hm
        cases hm
        exact h.pur z _ _ _ q1
      · cases hm
    · split at hm
      · split at hm
        · rename_i n as1 q1
          split at hm
          · split at hm
            · cases hm
            cases hm
            exact h.pur z _ _ _ q1
          · cases hm
        · cases hm
      · cases hm
  · unfold mRk at hm
    split at hm
    · rename_i xs0 q0
      obtain ⟨a, bs0, hz, w0, l0, nd0, pr0⟩ := S.atR q0
      split at hm
      · rename_i n as1 q1
        split at hm
        · cases hm
        rename_i xss q2
        split at hm
        · cases hm
        rename_i xs q3
        cases hm
        refine ⟨_, hz, ?_⟩
        refine a2 G H0 pin ow σ H as _ as' _ S q1 fun w H1 ow1 st sm S1 lv => ?_
        have lv := lv_dp S1.hd lv
        cases lv
        obtain ⟨b, bs, hz1, w1, l1, nd1, pr1⟩ := S1.atR q2
        rw [hz] at hz1
        cases hz1
        obtain ⟨c, hc, w2, vs, hvs, hds⟩ := atI_paired pr1 q3
        exact .inl ⟨a, bs.map .ref, n, .ref c, rfl, rfl, SqL.of l1, by rw [atI_map, hc]; rfl, k (.ref c) H1 ow1 st sm S1 ⟨c, vs, rfl, SqL.of hvs, hds⟩⟩
      · cases hm
    · split at hm
      · rename_i ds0 q0
        obtain ⟨v0, hz, hd0⟩ := S.slot i _ q0
        split at hm
        · rename_i n as1 q1
          split at hm
          · rename_i ds q2
            split at hm
            · cases hm
            rename_i d q3
            cases hm
            refine ⟨_, hz, ?_⟩
            refine a2 G H0 pin ow σ H as _ as' _ S q1 fun w H1 ow1 st sm S1 lv => ?_
            have lv := lv_dp S1.hd lv
            cases lv
            obtain ⟨v1, hz1, hd1⟩ := S1.slot i _ q2
            rw [hz] at hz1
            cases hz1
            cases hd1 with
            | lst r1 r2 =>
              obtain ⟨c, hc, hcd⟩ := atI_paired (of_dpa r2) q3
              refine .inl ⟨_, _, n, c, rfl, rfl, sqlM S1.hd r1, hc, k c H1 ow1 st sm S1 ?_⟩
              exact itM S1.hd (Same.refl _) (it_dp.mpr hcd)
          · cases hm
        · cases hm
      · cases hm
/-! ### a method of a row -/
def mRm (i : Nat) (mk : M PD) (f : List PD → List PD → Option (PD × List PD)) (ms : M (List PD)) : M PD := fun as => match slotR as i with
  | none => none
  | some _ => match mk as with
    | some (.int k, as1) => match slotR as1 i with
      | none => none
      | some xss => match ixN xss.length k with
        | none => none
        | some j => match ms as1 with
          | none => none
          | some (ds, _) => match f (xss.getD j []) ds with
            | none => none
            | some (d, xs') => some (d, as1.set i (.rw (xss.set j xs')))
    | _ => none
theorem atI_ix {α : Type} {l : List α} {n : Int} {j : Nat} (h : ixN l.length n = some j) : atI l n = l[j]? := by
  unfold atI
  rw [h]; rfl
variable {name : Str} {apos cpos npos spos : Pos} {id : String} {r : V → List V → Hp → VK → Prop} {f : List PD → List PD → Option (PD × List PD)}
theorem ixN_lt {n : Nat} {k : Int} {j : Nat} (h : ixN n k = some j) : j < n := by
  unfold ixN at h
  repeat' split at h
  all_goals first | (cases h; done) | (have := Option.some.inj h; omega)
theorem ev_rm {i : Nat} {x : Str} {idx e : Expr} {es : List Expr} {m : M PD} {ms : M (List PD)} (slot : PySem.Slot "list" name id) (hty : typeOf (.builtin id) = pure (.type "method_descriptor")) (hm : MtR X id r) (hr : RmL X.K r f) (h : EV X p l idx m) (ha : EA X true .D (e :: es) ms)
    (hp : PlainIx idx := by exact fun _ _ => rfl)
    (hN : X.N[i]? = some x := by rfl) (hv : Vis X.env.scope x := by first | exact Or.inl rfl | exact Or.inr (Or.inl rfl) | exact Or.inr (Or.inr rfl)) (hd : (x == ("__debug__" : Str)) = false := by decide)
    (hcd : (x == ("__classdict__" : Str)) = false := by decide)
    (hbase : attributeBase (.Subscript (.Name x npos) idx spos) name X.env (eval (.Subscript (.Name x npos) idx spos) X.env) = eval (.Subscript (.Name x npos) idx spos) X.env := by rfl)
    (hfew : ((backTo cpos (starEach (e :: es) X.env)).all (fun x => !x.1) && (backToKw cpos (keywordEach [] X.env)).all (fun x => x.1.isSome)
      && decide ((e :: es).length + ([] : List Keyword).length + (if ([] : List Keyword).isEmpty then 0 else 1) < 30)) = true := by rfl)
    (hline : (apos.endLine == cpos.line) = true := by rfl) (hs : starEach (e :: es) X.env = (false, eval e X.env) :: starEach es X.env := by rfl) (hplain : (backTo cpos (starEach es X.env)).any (·.1) = false := by rfl) :
    EV X false .D (.Call (.Attribute (.Subscript (.Name x npos) idx spos) name apos) (e :: es) [] cpos) (mRm i m f ms) := by
  obtain ⟨t, a1, a2⟩ := h.ok
  obtain ⟨u, b1, b2⟩ := ha.ok
  refine ⟨fun z => (by cases z), _, pe_bm PySem.F.plainAttrs_list slot hty hm (pe_ix ix_seq (pe_var hN hv hd hcd) a1 hp) b1 hbase hfew hline hs hplain, fun G H0 pin ow σ H as d as' Q S hm k => ?_⟩
  unfold mRm at hm
  split at hm
  · cases hm
  rename_i xs0 q0
  obtain ⟨a, bs0, hz, w0, l0, nd0, pr0⟩ := S.atR q0
  split at hm
  · rename_i n as1 q1
    split at hm
    · cases hm
    rename_i xss q2
    split at hm
    · cases hm
    rename_i j q3
    split at hm
    · cases hm
    rename_i ds as2 q4
    split at hm
    · cases hm
    rename_i d' xs' q5
    cases hm
    refine ⟨_, hz, ?_⟩
    refine a2 G H0 pin ow σ H as _ as1 _ S q1 fun w H1 ow1 st sm S1 lv => ?_
    have lv := lv_dp S1.hd lv
    cases lv
    obtain ⟨b, bs, hz1, w1, l1, nd1, pr1⟩ := S1.atR q2
    rw [hz] at hz1
    cases hz1
    have hj := ixN_lt q3
    have hjb : j < bs.length := by rw [pr1.length]; exact hj
    obtain ⟨w2, vs, hvs, hds⟩ := paired_at pr1 j hjb hj
    refine .inl ⟨a, bs.map .ref, n, .ref bs[j], rfl, rfl, SqL.of l1, by rw [atI_ix (j := j) (by rw [List.length_map, pr1.length]; exact q3), List.getElem?_map, List.getElem?_eq_getElem hjb]; rfl, ?_⟩
    refine ⟨.inl ⟨rfl, _, SqL.of hvs⟩, ?_⟩
    refine b2 G H0 pin ow1 σ H1 as1 ds as2 _ S1 q4 fun ws H2 ow2 st2 sm2 S2 lv2 => ?_
    have e2 := ha.pur rfl _ _ _ q4
    subst e2
    have s12 := sm2 rfl
    obtain ⟨b, bs2, hz2, w2', l2, nd2, pr2⟩ := S2.atR q2
    rw [hz] at hz2
    cases hz2
    have hbs : bs2 = bs := by
      have := s12 _ _ l1
      rw [l2] at this
      have := HO.lst.inj (Option.some.inj this)
      exact map_ref_inj this
    subst hbs
    obtain ⟨w3, vs3, hvs3, hds3⟩ := paired_at pr2 j hjb hj
    have eg : xss.getD j [] = xss[j] := by rw [List.getD_eq_getElem?_getD, List.getElem?_eq_getElem hj]; rfl
    rw [eg] at q5
    refine hr _ H2 bs2[j] vs3 ws xss[j] ds d xs' S2.hd hvs3 hds3 (dpa_of lv2) q5 _ fun v vs' h1 h2 => ?_
    obtain ⟨S3, st3⟩ := S2.newR q2 hz w2' l2 nd2 pr2 (List.getElem?_eq_getElem hjb) w3 h1
    exact k v _ ow2 (st.trans (st2.trans st3)) (fun z => by cases z) S3 (dpM st3.dur _ _ h2)
  · cases hm
/-! ### x[k][j] = e -/
def gRow (i : Nat) (mk mj : M PD) : PD → AS → Option AS := fun d as => match slotR as i with
  | none => none
  | some _ => match mk as with
    | some (.int k, as1) => match slotR as1 i with
      | none => none
      | some xss => match ixN xss.length k with
        | none => none
        | some j => match mj as1 with
          | some (.int k2, _) => match ixN (xss.getD j []).length k2 with
            | none => none
            | some j2 => some (as1.set i (.rw (xss.set j ((xss.getD j []).set j2 d))))
          | _ => none
    | _ => none
theorem eh_row {i : Nat} {x : Str} {idx jdx : Expr} {m mj : M PD} (h : EV X p l idx m) (hj' : EV X true l1 jdx mj) (hp : PlainIx idx := by exact fun _ _ => rfl)
    (hN : X.N[i]? = some x := by rfl) (hv : Vis X.env.scope x := by first | exact Or.inl rfl | exact Or.inr (Or.inl rfl) | exact Or.inr (Or.inr rfl)) (hd : (x == ("__debug__" : Str)) = false := by decide)
    (hcd : (x == ("__classdict__" : Str)) = false := by decide)
    (hasg : ∀ v, assign (.Subscript (.Subscript (.Name x npos) idx spos) jdx pos) X.env v = (do
      let c ← holding [v] (eval (.Subscript (.Name x npos) idx spos) X.env)
      let b ← holding [v, c] (eval jdx X.env)
      standAt pos
      holding [v, c, b] (setItem c b v)
      release [v, c, b] []) := by intro _; rfl) : EH X (.Subscript (.Subscript (.Name x npos) idx spos) jdx pos) (gRow i m mj) := by
  obtain ⟨t, a1, a2⟩ := h.ok
  obtain ⟨u, b1, b2⟩ := hj'.ok
  refine ⟨_, pg_sub (pe_ix ix_seq (pe_var hN hv hd hcd) a1 hp) b1 set_list hasg, fun G H0 pin ow σ H as v d as' Q S hd hg k => ?_⟩
  unfold gRow at hg
  split at hg
  · cases hg
  rename_i xs0 q0
  obtain ⟨a, bs0, hz, w0, l0, nd0, pr0⟩ := S.atR q0
  split at hg
  · rename_i n as1 q1
    split at hg
    · cases hg
    rename_i xss q2
    split at hg
    · cases hg
    rename_i j q3
    split at hg
    · rename_i n2 as2 q4
      split at hg
      · cases hg
      rename_i j2 q5
      cases hg
      refine ⟨_, hz, ?_⟩
      refine a2 G H0 pin ow σ H as _ as1 _ S q1 fun w H1 ow1 st sm S1 lv => ?_
      have lv := lv_dp S1.hd lv
      cases lv
      obtain ⟨b, bs, hz1, w1, l1, nd1, pr1⟩ := S1.atR q2
      rw [hz] at hz1
      cases hz1
      have hj := ixN_lt q3
      have hjb : j < bs.length := by rw [pr1.length]; exact hj
      obtain ⟨w2, vs, hvs, hds⟩ := paired_at pr1 j hjb hj
      refine .inl ⟨a, bs.map .ref, n, .ref bs[j], rfl, rfl, SqL.of l1, by rw [atI_ix (j := j) (by rw [List.length_map, pr1.length]; exact q3), List.getElem?_map, List.getElem?_eq_getElem hjb]; rfl, ?_⟩
      refine b2 G H0 pin ow1 σ H1 as1 _ as2 _ S1 q4 fun w' H2 ow2 st2 sm2 S2 lv2 => ?_
      have lv2 := lv_dp S2.hd lv2
      cases lv2
      have e2 := hj'.pur rfl _ _ _ q4
      subst e2
      have s12 := sm2 rfl
      obtain ⟨b, bs2, hz2, w2', l2, nd2, pr2⟩ := S2.atR q2
      rw [hz] at hz2
      cases hz2
      have hbs : bs2 = bs := by
        have := s12 _ _ l1
        rw [l2] at this
        have := HO.lst.inj (Option.some.inj this)
        exact map_ref_inj this
      subst hbs
      obtain ⟨w3, vs3, hvs3, hds3⟩ := paired_at pr2 j hjb hj
      have eg : xss.getD j [] = xss[j] := by rw [List.getD_eq_getElem?_getD, List.getElem?_eq_getElem hj]; rfl
      rw [eg] at q5 k
      have hdv := dpM (st.dur.trans st2.dur) _ _ hd
      obtain ⟨S3, st3⟩ := S2.newR q2 hz w2' l2 nd2 pr2 (List.getElem?_eq_getElem hjb) w3 (dpa_set hdv j2 hds3)
      exact ⟨bs2[j], vs3, n2, j2, rfl, rfl, hvs3, by rw [dpa_len hds3]; exact q5, k σ _ ow2 (st.dur.trans (st2.dur.trans st3.dur)) S3⟩
    · cases hg
  · cases hg
/-! ### rows that last from here on -/
def sFz (i : Nat) (m : MS) : MS := fun as => match slotR as i with
  | some xss => m (as.set i (.dur (.list (xss.map .list))))
  | none => none
theorem es_fz {i : Nat} {st : Stmt} {m : MS} (h : ES X st m) : ES X st (sFz i m) := by
  obtain ⟨t, a1, a2⟩ := h.ok
  refine ⟨t, a1, fun G H0 pin ow σ H as c as' D S hm k => ?_⟩
  unfold sFz at hm
  split at hm
  · rename_i xss q
    obtain ⟨ow', S', stp⟩ := S.frz q
    exact a2 G H0 pin ow' σ H _ c as' D S' hm (DR.mono stp.dur k)
  · cases hm
end
end Vl

-- V44
set_option Elab.async false
set_option linter.all false
set_option maxRecDepth 100000
set_option maxHeartbeats 4000000
/-! x = [a new list for ..]: rows of one's own -/
namespace Vl
open PySem L2
def rdF (K : Fg) (p : Bool) (m : M Res) : TE := fun σ H Q => ∃ (G H0 : Hp) (pin : Nat → Addr) (ow : Ow) (as : AS) (r : Res) (as' : AS), SR K G H0 pin ow σ H as ∧ m as = some (r, as') ∧
  ∀ v H' ow', Stp G H0 ow H ow' H' → (p = true → Same H H') → SR K G H0 pin ow' σ H' as' → FR K G H0 ow H ow' H' v r → Q v H'
def mVo (m : M Res) : M PD := fun as => match m as with
  | some (.obj (.ol xs), as1) => some (.list xs, as1)
  | _ => none
theorem mVo_some {m : M Res} {as : AS} {y : PD} {as' : AS} (h : mVo m as = some (y, as')) : ∃ xs, y = .list xs ∧ m as = some (.obj (.ol xs), as') := by
  unfold mVo at h
  split at h
  · rename_i xs as1 q
    cases h
    exact ⟨xs, rfl, q⟩
  · cases h
def unL : List PD → Option (List (List PD))
  | [] => some []
  | .list xs :: ys => (unL ys).map fun r => xs :: r
  | _ => none
theorem unL_paired {α : Type} {R : α → List PD → Prop} : ∀ {bs : List α} {ys : List PD} {xss : List (List PD)}, Paired (fun b y => ∃ xs, y = PyData.list xs ∧ R b xs) bs ys → unL ys = some xss → Paired R bs xss
  | _, _, _, .nil, h => by cases h; exact .nil
  | _, _, xss, .cons ⟨xs, e, r⟩ t, h => by
    subst e
    unfold unL at h
    cases q : unL _ with
    | none => rw [q] at h; cases h
    | some rest =>
      rw [q] at h
      cases h
      exact .cons r (unL_paired t q)
section
variable {X : Cx} {p p1 p2 p3 : Bool} {l l1 : Lv} {pos : Pos}
theorem EF.can {e : Expr} {m : M Res} (h : EF X p e m) : PE X e (rdF X.K p m) := by
  obtain ⟨t, a1, a2⟩ := h.ok
  exact ⟨fun pins s σ H Q I ⟨G, H0, pin, ow, as, r, as', S, e, k⟩ => a1.run pins s σ H Q I (a2 G H0 pin ow σ H as r as' Q S e k)⟩
theorem lcR_sound {tg it : Expr} {vs : List Nat} {mi : M (List PD)} {g : PD → AS → Option AS} {mc : M Bool} {el : M Res} (hi : EI X p l tg it mi) (hl : l = .D ∨ (p2 = true ∧ p3 = true)) :
    ∃ t, PI X tg it t ∧ ∀ (G H0 : Hp) (pin : Nat → Addr) (ow : Ow) (σ : L2.St) (H : Hp) (as : AS) (ys : List PD) (as' : AS) (xss : List (List PD)) (Q : VK), SR X.K G H0 pin ow σ H as → mLc vs mi g mc (mVo el) as = some (.obj (.ol ys), as') → unL ys = some xss →
    (∀ a bs H' ow', Stp G H0 ow H ow' H' → SR X.K G H0 pin ow' σ H' as' → ow' a = some none → H' a = some (.lst (bs.map .ref)) → (a :: bs).Nodup → Paired (RowR X.K (Hd ow' G H0 H') H' ow' (some none)) bs xss → Q (.ref a) H') → tLc t (rdG X.K vs g) (rdT X.K p2 mc) (rdF X.K p3 el) vs σ H Q := by
  obtain ⟨t, a1, a2⟩ := hi.ok
  refine ⟨t, a1, fun G H0 pin ow σ H as ys as' xss Q S hm hu k => ?_⟩
  unfold mLc at hm
  split at hm
  · cases hm
  rename_i ds as1 q
  split at hm
  · cases hm
  rename_i ys2 as2 q2
  split at hm
  · rename_i hz
    cases hm
    refine a2 G H0 pin ow σ H as ds as1 _ S q fun J H1 ow1 xs ok st sm S1 gv hd hok D hD => ?_
    have s1 : Same H1 (upd H1 D (.lst [])) := fun b x e => by rw [upd_ne (ne_of_none e hD)]; exact e
    obtain ⟨S2, st2, w2⟩ := S1.lay (a := D) s1 hD (by rw [upd_same]; exact nofun)
    obtain ⟨ow3, S3, st3⟩ := S2.wipe vs
    have hlen := dpa_len hd
    let R : Ow → Hp → Addr → PD → Prop := fun ow H b y => ∃ xs, y = PyData.list xs ∧ RowR X.K (Hd ow G H0 H) H ow (some none) b xs
    have rM : ∀ {ow ow' : Ow} {H H' : Hp} {bs : List Addr} {ys : List PD}, Stp G H0 ow H ow' H' → Paired (R ow H) bs ys → Paired (R ow' H') bs ys := fun st h => Paired.mapP h fun b y ⟨xs, e, w, vs, e2, r⟩ => ⟨xs, e, (st.tmp b w).1, vs, ((st.tmp b w).2).trans e2, dpaM st.dur _ _ r⟩
    refine ⟨fun i m H2 => i + m = xs.length ∧ ∃ as3 ow4 bs done todo, SR X.K G H0 pin ow4 (L2.wipe σ vs) H2 as3 ∧ Stp G H0 ow1 H1 ow4 H2 ∧ ((p2 && p3) = true → Same H1 H2) ∧ ow4 D = some none ∧ H2 D = some (.lst (bs.map .ref)) ∧ (D :: bs).Nodup ∧ Paired (R ow4 H2) bs done ∧
      ys = done ++ todo ∧ lcL vs g mc (mVo el) (ds.drop i) as3 = some (todo, as2), ⟨xs.length, by omega, clr vs as1, ow3, [], [], ys, S3, st2.trans st3, fun _ => s1, (st3.tmp D put_same).1, ((st3.tmp D put_same).2).trans upd_same, by simp, .nil, rfl, q2⟩, ?_⟩
    rintro i m H2 ⟨hlm, as3, ow4, bs, done, todo, S4, st4, sm4, w4, hD4, hnd, hacc, hys, hf⟩
    have ok2 : ok H2 := by
      refine hok H2 (fun _ => st4.dur.trans S4.hd) (fun hne => sm4 ?_)
      rcases hl with hl | ⟨h2, h3⟩
      · exact absurd hl hne
      · rw [h2, h3]; rfl
    obtain ⟨g1, g2⟩ := gv H2 ok2
    by_cases hzi : xs.length ≤ i
    · left
      refine ⟨g2 i hzi, ?_⟩
      rw [List.drop_eq_nil_of_le (by omega)] at hf
      cases hf
      rw [List.append_nil] at hys
      subst hys
      refine k D bs H2 ow4 (st.trans st4) (S4.back ?_ fun j s hj e => ?_) w4 hD4 hnd (unL_paired hacc hu)
      · rw [S1.len, S4.len, wipe_length]
      · rcases free_at hz.1 hj e with rfl | ⟨d, rfl⟩
        · trivial
        · obtain ⟨v, e1, e2⟩ := S1.slot j _ e
          exact ⟨v, e1, dpM st4.dur _ _ e2⟩
    · right
      have hi1 : i < xs.length := by omega
      have hi2 : i < ds.length := by omega
      rw [List.drop_eq_getElem_cons hi2] at hf
      obtain ⟨y1, y2⟩ := g1 i xs[i] (List.getElem?_eq_getElem hi1)
      have hdi : Dp X.K (Hd ow1 G H0 H1) xs[i] ds[i] := by
        exact paired_at (of_dpa hd) i hi1 hi2
      refine ⟨y1, fun H5 => ∃ as3 ow4 bs done todo, SR X.K G H0 pin ow4 (L2.wipe σ vs) H5 as3 ∧ Stp G H0 ow1 H1 ow4 H5 ∧ ((p2 && p3) = true → Same H1 H5) ∧ ow4 D = some none ∧ H5 D = some (.lst (bs.map .ref)) ∧ (D :: bs).Nodup ∧ Paired (R ow4 H5) bs done ∧
        ys = done ++ todo ∧ lcL vs g mc (mVo el) (ds.drop (i + 1)) as3 = some (todo, as2), fun H5 h => ⟨m - 1, by omega, by omega, h⟩, fun x H' hy => ?_⟩
      obtain ⟨rfl, rfl⟩ := y2 x H' hy
      unfold lcL at hf
      split at hf
      · cases hf
      rename_i as5 q5
      refine ⟨G, H0, pin, ow4, as3, ds[i], as5, S4, dpM st4.dur _ _ hdi, q5, fun σ5 ow5 st5 S5 hl5 ho5 => ?_⟩
      have hw5 : L2.wipe σ5 vs = L2.wipe (L2.wipe σ vs) vs := wipe_ext hl5 vs ho5
      rw [wipe_idem] at hw5
      refine ⟨hw5, ?_⟩
      obtain ⟨w5, e5⟩ := st5.tmp D w4
      split at hf
      · cases hf
      · rename_i as6 q6
        refine ⟨G, H0, pin, ow5, as5, false, as6, S5, q6, fun H6 ow6 st6 sm6 S6 => iteF ?_⟩
        obtain ⟨w6, e6⟩ := st6.tmp D w5
        obtain ⟨ow7, S7, st7⟩ := S6.wipe vs
        rw [hw5] at S7
        obtain ⟨w7, e7⟩ := st7.tmp D w6
        refine ⟨clr vs as6, ow7, bs, done, todo, S7, st4.trans (st5.trans (st6.trans st7)), fun z => ?_, w7, by rw [e6]; exact hD4, hnd, rM (st5.trans (st6.trans st7)) hacc, hys, hf⟩
        have z' : p2 = true ∧ p3 = true := by simpa using z
        exact (sm4 z).trans (sm6 z'.1)
      · rename_i as6 q6
        refine ⟨G, H0, pin, ow5, as5, true, as6, S5, q6, fun H6 ow6 st6 sm6 S6 => iteT ?_⟩
        obtain ⟨w6, e6⟩ := st6.tmp D w5
        split at hf
        · cases hf
        rename_i y as7 q7
        split at hf
        · cases hf
        rename_i ys8 as8 q8
        cases hf
        obtain ⟨yl, rfl, q7'⟩ := mVo_some q7
        have hacc6 := rM (st5.trans st6) hacc
        refine ⟨G, H0, pin, ow6, as6, _, as7, S6, q7', fun v7 H7 ow7 st7 sm7 S7 fr7 => ?_⟩
        obtain ⟨c, rfl, wc6, wc7, vs7, hc7, hds7⟩ := fr7
        obtain ⟨w7, e7⟩ := st7.tmp D w6
        have hacc7 := rM st7 hacc6
        have hal := hacc.length
        have hcD : c ≠ D := fun z => wc6 (by rw [z]; exact w6)
        have hcb : c ∉ bs := fun z => by
          obtain ⟨n, hn, rfl⟩ := List.getElem_of_mem z
          obtain ⟨_, _, w, _⟩ := paired_at hacc6 n hn (by rw [← hacc6.length]; exact hn)
          exact wc6 w
        have hnd2 := List.nodup_cons.mp hnd
        refine ⟨bs.map .ref, by rw [e7, e6]; exact hD4, ?_, ?_⟩
        · have := hz.2
          rw [hys, List.length_append, List.length_cons] at this
          rw [List.length_map]
          omega
        · obtain ⟨S8, s8⟩ := S7.write (a := D) (u := .lst (bs.map .ref ++ [.ref c])) (by rw [w7]; exact nofun) fun j t _ e => by rw [w7] at e; cases e
          obtain ⟨ow9, S9, st9⟩ := S8.wipe vs
          rw [hw5] at S9
          have st8 : Stp G H0 ow1 H1 ow7 (upd H7 D (.lst (bs.map .ref ++ [.ref c]))) := by
            have st17 := st4.trans (st5.trans (st6.trans st7))
            refine ⟨st17.dur.trans s8, fun b hb => ?_, fun b hb => ?_⟩
            · have hbD : b ≠ D := fun z => by
                subst z
                exact absurd hb (by rw [w2]; exact nofun)
              rw [upd_ne hbD]; exact st17.tmp b hb
            · by_cases hbD : b = D
              · subst hbD; rw [upd_same]; exact nofun
              · rw [upd_ne hbD]; exact st17.dom b hb
          obtain ⟨w9, e9⟩ := st9.tmp D w7
          have h9 := s8.trans st9.dur
          have hrow : ∀ b xs, b ≠ D → RowR X.K (Hd ow7 G H0 H7) H7 ow7 (some none) b xs → RowR X.K (Hd ow9 G H0 (upd H7 D (.lst (bs.map .ref ++ [.ref c])))) (upd H7 D (.lst (bs.map .ref ++ [.ref c]))) ow9 (some none) b xs := fun b xs hb ⟨w, vs, e2, r⟩ => ⟨(st9.tmp b w).1, vs, by rw [upd_ne hb]; exact e2, dpaM h9 _ _ r⟩
          have hacc9 : Paired (R ow9 (upd H7 D (.lst (bs.map .ref ++ [.ref c])))) bs done := by
            have key : ∀ {l : List Addr} {m : List PD}, Paired (R ow7 H7) l m → (∀ b ∈ l, b ≠ D) → Paired (R ow9 (upd H7 D (.lst (bs.map .ref ++ [.ref c])))) l m := fun {l m} q => by
              induction q with
              | nil => intro _; exact .nil
              | cons h t ih =>
                intro z
                obtain ⟨xs, e, r⟩ := h
                exact .cons ⟨xs, e, hrow _ _ (z _ List.mem_cons_self) r⟩ (ih fun b hb => z b (List.mem_cons_of_mem _ hb))
            exact key hacc7 fun b hb e => hnd2.1 (e ▸ hb)
          refine ⟨clr vs as7, ow9, bs ++ [c], done ++ [.list yl], ys8, S9, st8.trans st9, fun z => ?_, w9, by rw [upd_same, List.map_append]; rfl, ?_, paired_snoc hacc9 ⟨yl, rfl, hrow c yl hcD ⟨wc7, vs7, hc7, hds7⟩⟩, by rw [hys]; simp, q8⟩
          · have z' : p2 = true ∧ p3 = true := by simpa using z
            have := ((sm4 z).trans (sm6 z'.1)).trans (sm7 z'.2)
            exact fun b x e => by rw [upd_ne (ne_of_none e hD)]; exact this b x e
          · rw [List.nodup_cons]
            refine ⟨fun z => ?_, ?_⟩
            · rcases List.mem_append.mp z with z | z
              · exact hnd2.1 z
              · rw [List.mem_singleton] at z; exact hcD z.symm
            · rw [List.nodup_append]
              exact ⟨hnd2.2, by simp, fun a ha b hb e => by rw [List.mem_singleton] at hb; subst hb; subst e; exact hcb ha⟩
  · cases hm
/-! ### stored -/
def sSetR (i : Nat) (m : M Res) : MS := fun as => match m as with
  | some (.obj (.ol ys), as1) => match unL ys with
    | none => none
    | some xss => match as1[i]? with
      | some (.io _) => none
      | none => none
      | _ => some (.nx, as1.set i (.rw xss))
  | _ => none
theorem setR_run {i : Nat} {m : M Res} {as as' : AS} {c : Ctl} (h : sSetR i m as = some (c, as')) : ∃ ys as1 xss, m as = some (.obj (.ol ys), as1) ∧ unL ys = some xss ∧ c = .nx ∧ as' = as1.set i (.rw xss) := by
  unfold sSetR at h
  split at h
  · rename_i ys as1 q
    split at h
    · cases h
    rename_i xss q2
    split at h
    · cases h
    · cases h
    · cases h
      exact ⟨ys, as1, xss, q, q2, rfl, rfl⟩
  · cases h
theorem es_setRw {i : Nat} {y : Str} {py spos : Pos} {elt tg it : Expr} {ifs : List Expr} {scope : Scope} {mi : M (List PD)} {g : PD → AS → Option AS} {mc : M Bool} {el : M Res} (own : List (Str × Nat)) (hc : X.calm = true) (hN : X.N.Nodup) (hi : EI X p l tg it mi)
    (hb : blkC X.N X.env.scope scope own = true)
    (hg : ∀ (s : Shared) (H : Hp) (C : Addr) (cl : List (Str × Addr)) (fp : List Addr), EG (X.blk s H scope (compEnvC scope cl C X.env) fp) tg (own.map (·.2)) g)
    (ht : ∀ (s : Shared) (H : Hp) (C : Addr) (cl : List (Str × Addr)) (fp : List Addr), ETs (X.blk s H scope (compEnvC scope cl C X.env) fp) p2 ifs mc)
    (he : ∀ (s : Shared) (H : Hp) (C : Addr) (cl : List (Str × Addr)) (fp : List Addr), EF (X.blk s H scope (compEnvC scope cl C X.env) fp) p3 elt el)
    (hx : X.N[i]? = some y := by rfl) (hloc : L2.Loc X.env.scope y := by first | exact Or.inl rfl | exact Or.inr rfl)
    (hsw : swapsWith (.ListComp elt [{ target := tg, iter := it, ifs := ifs, is_async := 0 }] scope pos) (some (.Name y py)) spos.line X.env = pure false := by rfl) (hf : X.fn y = true ∨ X.env.scope.names.lookup y = some .local := by first | exact .inl rfl | exact .inr rfl)
    (hl : l = .D ∨ (p2 = true ∧ p3 = true) := by first | exact .inr ⟨rfl, rfl⟩ | exact .inl rfl)
    (hs : ∀ x, foldedSetIterable it X.env x = pure x := by intro _; rfl) : ES X (.Assign [.Name y py] (.ListComp elt [{ target := tg, iter := it, ifs := ifs, is_async := 0 }] scope pos) spos) (sSetR i (mLc (own.map (·.2)) mi g mc (mVo el))) := by
  obtain ⟨t, a1, a2⟩ := lcR_sound (vs := own.map (·.2)) (g := g) (mc := mc) (el := el) hi hl
  refine ⟨_, ps_set hN hx hloc (pe_lc (own := own) (g := rdG X.K (own.map (·.2)) g) (tt := rdT X.K p2 mc) (te := rdF X.K p3 el) hc hN a1 (blkOk_by hb) (fun s H C cl fp => (hg s H C cl fp).can) (fun s H C cl fp => (ht s H C cl fp).ok) (fun s H C cl fp => (he s H C cl fp).can) hs) hsw hf, fun G H0 pin ow σ H as c as' D S hm k => ?_⟩
  obtain ⟨ys, as1, xss, q1, q2, rfl, rfl⟩ := setR_run hm
  refine a2 G H0 pin ow σ H as ys as1 xss _ S q1 q2 fun a bs H1 ow1 st S1 w hl nd pr => ?_
  obtain ⟨S2, s2⟩ := S1.setR (i := i) w hl nd pr
  exact k _ _ _ (st.dur.trans s2) S2
theorem es_setLcRw {i : Nat} {y : Str} {py spos : Pos} {elt tg it : Expr} {ifs : List Expr} {scope : Scope} {mi : M (List PD)} {g : PD → AS → Option AS} {mc : M Bool} {el : M Res} (own : List (Str × Nat)) (hc : X.calm = true) (hN : X.N.Nodup) (hi : EI X p l tg it mi)
    (hb : blkC X.N X.env.scope scope own = true)
    (hg : ∀ (s : Shared) (H : Hp) (C : Addr) (cl : List (Str × Addr)) (fp : List Addr), EG (X.blk s H scope (compEnvC scope cl C X.env) fp) tg (own.map (·.2)) g)
    (ht : ∀ (s : Shared) (H : Hp) (C : Addr) (cl : List (Str × Addr)) (fp : List Addr), ETs (X.blk s H scope (compEnvC scope cl C X.env) fp) p2 ifs mc)
    (he : ∀ (s : Shared) (H : Hp) (C : Addr) (cl : List (Str × Addr)) (fp : List Addr), EF (X.blk s H scope (compEnvC scope cl C X.env) fp) p3 elt el)
    (hsw : swapsWith (.ListComp elt [{ target := tg, iter := it, ifs := ifs, is_async := 0 }] scope pos) (some (.Name y py)) spos.line X.env = pure true)
    (hx : X.N[i]? = some y := by rfl) (hloc : X.env.scope.names.lookup y = some .local := by rfl)
    (hl : l = .D ∨ (p2 = true ∧ p3 = true) := by first | exact .inr ⟨rfl, rfl⟩ | exact .inl rfl)
    (hs : ∀ x, foldedSetIterable it X.env x = pure x := by intro _; rfl) : ES X (.Assign [.Name y py] (.ListComp elt [{ target := tg, iter := it, ifs := ifs, is_async := 0 }] scope pos) spos) (sSetR i (mLc (own.map (·.2)) mi g mc (mVo el))) := by
  obtain ⟨t, a1, a2⟩ := lcR_sound (vs := own.map (·.2)) (g := g) (mc := mc) (el := el) hi hl
  refine ⟨_, ps_setLc (i := i) (own := own) (g := rdG X.K (own.map (·.2)) g) (tt := rdT X.K p2 mc) (te := rdF X.K p3 el) hc hN hx hloc hsw a1 (blkOk_by hb) (fun s H C cl fp => (hg s H C cl fp).can) (fun s H C cl fp => (ht s H C cl fp).ok) (fun s H C cl fp => (he s H C cl fp).can) hs, fun G H0 pin ow σ H as c as' D S hm k => ?_⟩
  obtain ⟨ys, as1, xss, q1, q2, rfl, rfl⟩ := setR_run hm
  refine a2 G H0 pin ow σ H as ys as1 xss _ S q1 q2 fun a bs H1 ow1 st S1 w hl nd pr => ?_
  obtain ⟨S2, s2⟩ := S1.setR (i := i) w hl nd pr
  exact k _ _ _ (st.dur.trans s2) S2
end
end Vl

-- V45
set_option Elab.async false
set_option linter.all false
set_option maxRecDepth 100000
set_option maxHeartbeats 4000000
/-! xs[a::b] of a tuple, 0 <= a, 0 < b -/
namespace L2
open PySem PySem.Spec PyProof.Rows HT
def stpI (n : Nat) (lo st : Int) : List Nat := (List.range (Builtin.Slice.slicePlaces (min lo (n : Int)) (n : Int) st)).map fun (m : Nat) => (min lo (n : Int) + (m : Int) * st).toNat
def stpD {α : Type} (xs : List α) (lo st : Int) : List α := (stpI xs.length lo st).filterMap fun i => xs[i]?
theorem Vals.picks {xs : List V} {us : List Value} (h : Vals xs us) : ∀ (is : List Nat), Vals (is.filterMap fun i => xs[i]?) (is.filterMap fun i => us[i]?)
  | [] => .nil
  | i :: is => by
    have ih := Vals.picks h is
    cases e : xs[i]? with
    | none =>
      have e2 : us[i]? = none := by
        rw [List.getElem?_eq_none_iff] at e ⊢
        rw [← h.length]; exact e
      rw [List.filterMap_cons, List.filterMap_cons, e, e2]
      exact ih
    | some x =>
      obtain ⟨u, e2, r⟩ := Vals.get h e
      rw [List.filterMap_cons, List.filterMap_cons, e, e2]
      exact .cons r ih
theorem stpI_whole {n : Nat} {lo st : Int} (h : min lo (n : Int) = 0) (h1 : st = 1) (h2 : Builtin.Slice.slicePlaces (min lo (n : Int)) (n : Int) st = n) : stpI n lo st = List.range n := by
  unfold stpI
  rw [h2, h, h1]
  have : ∀ m ∈ List.range n, (fun (m : Nat) => ((0 : Int) + (m : Int) * 1).toNat) m = id m := fun m _ => by simp
  rw [List.map_congr_left this, List.map_id]
theorem stpD_whole {α : Type} {xs : List α} {lo st : Int} (h : min lo (xs.length : Int) = 0) (h1 : st = 1) (h2 : Builtin.Slice.slicePlaces (min lo (xs.length : Int)) (xs.length : Int) st = xs.length) : stpD xs lo st = xs := by
  unfold stpD
  rw [stpI_whole h h1 h2]
  apply List.ext_getElem?
  intro i
  have : ∀ (l : List α), (List.range l.length).filterMap (fun i => l[i]?) = l := by
    intro l
    induction l with
    | nil => rfl
    | cons a t ih =>
      rw [List.length_cons, List.range_succ_eq_map, List.filterMap_cons]
      simp only [List.getElem?_cons_zero, List.filterMap_map]
      congr 1
  rw [this]
section
variable {prog : Program} {w : World} {A : Around} {E : Value → Shared → Prop} {s : Shared}
theorem sliceApplied_st {sl : Addr} {vl vu vs : Value} {lo st : Int} {n : Nat} {Q : Int × Int × Nat → Shared → Prop} (hs : s.heap.IsSliceOf sl vl vu vs) (pl : IsPart vl (some lo)) (pu : IsPart vu none) (ps : IsPart vs (some st)) (h0 : 0 ≤ lo) (h1 : 0 < st)
    (h : Q (min lo (n : Int), st, Builtin.Slice.slicePlaces (min lo (n : Int)) (n : Int) st) s) : wpAny (model prog w) A (Builtin.Slice.sliceApplied (.ref sl) (pure (n : Int))) Q E s := by
  obtain ⟨os, hos, hcs, hds⟩ := id hs
  unfold Builtin.Slice.sliceApplied Builtin.Slice.sliceFields
  refine wpAny_bind (wpAny_bind (wpAny_field hos hds (x := vl) rfl (wpAny_bind (wpAny_field hos hds (x := vu) rfl (wpAny_bind (wpAny_field hos hds (x := vs) rfl (wpAny_pure ?_)))))))
  refine wpAny_bind (slicePart_ ps ?_)
  have hz : ((st == 0) = true) = False := by
    have : st ≠ 0 := by omega
    simp [this]
  show wpAny _ _ (if (st == 0) = true then _ else _) _ _ s
  rw [if_neg (by rw [hz]; exact id)]
  refine wpAny_bind (slicePart_ pl (wpAny_bind (slicePart_ pu (wpAny_bind (wpAny_pure ?_)))))
  have e1 : Builtin.Slice.sliceAdjust (some lo) none st (n : Int) = (min lo (n : Int), (n : Int)) := by
    have n1 : ¬ st < 0 := by omega
    have n2 : ¬ lo < 0 := by omega
    simp [Builtin.Slice.sliceAdjust, n1, n2]
  show wpAny _ _ (match Builtin.Slice.sliceAdjust (some lo) none st (n : Int) with | (lo, hi) => pure (lo, st, Builtin.Slice.slicePlaces lo hi st)) _ _ s
  rw [e1]
  exact wpAny_pure h
theorem getItem_tuple_st {t sl : Addr} {items : Array Value} {vl vu vs : Value} {lo st : Int} {Q : Value → Shared → Prop} (ht : IsTup s.heap t items) (hs : s.heap.IsSliceOf sl vl vu vs) (pl : IsPart vl (some lo)) (pu : IsPart vu none) (ps : IsPart vs (some st)) (h0 : 0 ≤ lo) (h1 : 0 < st)
    (hw : min lo (items.size : Int) = 0 → st = 1 → Builtin.Slice.slicePlaces (min lo (items.size : Int)) (items.size : Int) st = items.size → Q (.ref t) s)
    (h : Q (.ref s.heap.objs.size) { s with heap := s.heap.push { cls := .type "tuple", data := .seq (stpD items.toList lo st).toArray } }) (hsz : items.size ≤ sizeLine) (hsz2 : (stpD items.toList lo st).length ≤ sizeLine) : wpAny (model prog w) A (getItem (.ref t) (.ref sl)) Q E s := by
  obtain ⟨os, hos, hcs, hds⟩ := id hs
  have hTs : s.TypeIs (.ref sl) "slice" := ⟨os, hos, hcs⟩
  unfold getItem
  try with_reducible refine wpAny_holding ?_
  first | refine wpAny_bind (wpAny_pure ?_) | skip
  refine wpAny_bind (wpAny_sequenceKey ht.typeIs (by decide) ?_)
  refine wpAny_bind (wpAny_callSpecial?_slot (name := Str.ofString "__getitem__") ht.typeIs PyProof.Rows.slot_tuple_getitem
    (wpAny_call_entry PyProof.Rows.slot_tuple_getitem ht.typeIs entry_tuple_getitem ?_ (args_tuple_getitem _ _)))
  show wpAny _ _ (Builtin.Tuple.tupleItemsOf (.ref t) >>= _) _ _ s
  refine wpAny_bind (tupleItemsOf_ ht ?_)
  refine wpAny_bind (wpAny_typeOf hTs ?_)
  rw [if_pos (by decide)]
  refine wpAny_bind (sliceApplied_st hs pl pu ps h0 h1 ?_)
  show wpAny _ _ (if (min lo (items.size : Int) == 0 && st == 1 && Builtin.Slice.slicePlaces (min lo (items.size : Int)) (items.size : Int) st == items.size) = true then _ else _) _ _ s
  split
  · rename_i hc
    simp only [Bool.and_eq_true, beq_iff_eq] at hc
    refine wpAny_bind ?_
    show wpAny _ _ (typeOf (.ref t) >>= fun T => pure (T == .type "tuple")) _ _ s
    refine wpAny_bind (wpAny_typeOf ht.typeIs (wpAny_pure ?_))
    first
      | rw [if_pos (by decide)]
      | simp only [beq_self_eq_true, if_true]
    first
      | exact wpAny_bind (wpAny_rule (wpAny_pure ⟨_, rfl, wpAny_pure (hw hc.1.1 hc.1.2 hc.2)⟩))
      | exact wpAny_bind (wpAny_rule (wpAny_bind (wpAny_pure (wpAny_pure ⟨_, rfl, wpAny_pure (hw hc.1.1 hc.1.2 hc.2)⟩))))
  · have e : ((List.range (Builtin.Slice.slicePlaces (min lo (items.size : Int)) (items.size : Int) st)).filterMap fun (m : Nat) => items[(min lo (items.size : Int) + (m : Int) * st).toNat]?) = stpD items.toList lo st := by
      unfold stpD stpI
      rw [List.filterMap_map]
      simp only [Array.length_toList]
      refine fm_congr fun m hm => ?_
      simp
    show wpAny _ _ (Builtin.Tuple.tupleExact ((List.range (Builtin.Slice.slicePlaces (min lo (items.size : Int)) (items.size : Int) st)).filterMap fun (m : Nat) => items[(min lo (items.size : Int) + (m : Int) * st).toNat]?).toArray >>= _) _ _ s
    rw [e]
    exact wpAny_bind (wpAny_newObj_type (wpAny_pure ⟨_, rfl, wpAny_pure h⟩) (by show (stpD items.toList lo st).toArray.size ≤ sizeLine; simpa using hsz2))
end
theorem places_le {n : Nat} {lo st : Int} (h0 : 0 ≤ lo) (h1 : 0 < st) : Builtin.Slice.slicePlaces (min lo (n : Int)) (n : Int) st ≤ n := by
  unfold Builtin.Slice.slicePlaces
  rw [if_pos h1]
  split
  · rename_i h
    have : ((n : Int) - min lo (n : Int) - 1) / st ≤ (n : Int) - min lo (n : Int) - 1 := Int.ediv_le_self _ (by omega)
    omega
  · simp
theorem stpD_len {α : Type} {xs : List α} {lo st : Int} (h0 : 0 ≤ lo) (h1 : 0 < st) : (stpD xs lo st).length ≤ xs.length := by
  refine Nat.le_trans (List.length_filterMap_le _ _) ?_
  unfold stpI
  rw [List.length_map, List.length_range]
  exact places_le h0 h1
section
variable {X : Cx}
def tStT (K : PySem.W.Frag) (te : TE) (ta tb : TO) : TE := fun σ H Q => te σ H fun x H1 => ta σ H1 fun o1 H2 => tb σ H2 fun o2 H3 => ∃ a xs lo st, x = .ref a ∧ o1 = some lo ∧ o2 = some st ∧ 0 ≤ lo ∧ 0 < st ∧ SqT K H3 a xs ∧
  (stpD xs lo st = xs → Q (.ref a) H3) ∧ (∀ p, H3 p = none → Q (.ref p) (upd H3 p (.tup (stpD xs lo st))))
theorem pe_stT {e a b : Expr} {te : TE} {ta tb : TO} {p3 pos : Pos} (he : PE X e te) (ha : PO X (some a) ta) (hb : PO X (some b) tb) : PE X (.Subscript e (.Slice (some a) none (some b) p3) pos) (tStT X.K te ta tb) := by
  refine ⟨fun pins s σ H Q I h => ?_⟩
  refine Subscript_ (thn (he.run pins s σ H _ I h) fun v s1 ⟨x, H1, I1, r1, q1⟩ => ?_)
  refine wpAny_Slice (thn (ha.run pins s1 σ H1 _ I1 q1) fun vl s2 ⟨l, H2, I2, pl, q2⟩ => ?_)
  refine thn (po_none.run pins s2 σ H2 (fun o H3 => o = none ∧ H3 = H2) I2 ⟨rfl, rfl⟩) fun vu s3 ⟨u, H3, I3, pu, eu, e3⟩ => ?_
  subst eu e3
  refine thn (hb.run pins s3 σ H3 _ I3 q2) fun vs s4 ⟨o, H4, I4, ps, q4⟩ => ?_
  obtain ⟨a', xs, lo, st, rfl, rfl, rfl, h0, h1, hx, qw, q⟩ := q4
  cases r1
  have I5 : Inv X pins σ H4 { s4 with heap := s4.heap.push { cls := .type "slice", data := .fields #[vl, vu, vs] } } := I4.kept (t' := s4.toks) fun b ob q => Heap.get?_push_of_some _ q
  obtain ⟨its, r, ht, hz⟩ := I5.tuple hx
  have hlen := r.length
  show wpAny (model X.prog X.w) X.A (subscriptTail e (.Slice (some a) none (some b) p3) (.ref a') (.ref s4.heap.objs.size)) (EP X pins σ Q) X.xe { s4 with heap := s4.heap.push { cls := .type "slice", data := .fields #[vl, vu, vs] } }
  refine tail_any (ops := [.ref a', .ref s4.heap.objs.size]) ht.typeIs (PyProof.Rows.slot_tuple_getitem.lookup) ?_ (by with_unfolding_all rfl)
  have hl2 : (stpD xs lo st).length ≤ sizeLine := Nat.le_trans (stpD_len h0 h1) (by omega)
  have hv : Vals (stpD xs lo st) (stpD its lo st) := by
    unfold stpD
    rw [hlen]
    exact Vals.picks r _
  refine getItem_tuple_st ht (Heap.IsSliceOf.new _ vl vu vs) pl pu ps h0 h1 (fun w0 w1 w2 => ?_) ?_ (by rw [List.size_toArray]; omega) (by simp only [List.toList_toArray]; rw [← hv.length]; exact hl2)
  · rw [List.size_toArray, ← hlen] at w0 w2
    exact ⟨.ref a', H4, I5, rfl, qw (stpD_whole w0 w1 w2)⟩
  · refine ⟨.ref _, _, I5.laid (t' := s4.toks) (o := .tup (stpD xs lo st)) (fun b ob q => Heap.get?_push_of_some _ q) (Nat.le_refl _) ?_, rfl, q _ (I5.hok.fresh (Nat.le_refl _))⟩
    exact ⟨hl2, _, hv, IsTup.new _ _⟩
end
end L2
namespace Vl
open PySem L2 PyProof.Rows
def fStT (d : PD) (lo st : Option Int) : Option Res := match d, lo, st with
  | .tuple ds, some lo, some st => if 0 ≤ lo ∧ 0 < st then some (.val (.tuple (stpD ds lo st))) else none
  | _, _, _ => none
theorem dpa_picks {K : Fg} {H : Hp} {vs : List V} {ds : List PD} (h : DpAll K H vs ds) : ∀ (is : List Nat), DpAll K H (is.filterMap fun i => vs[i]?) (is.filterMap fun i => ds[i]?)
  | [] => .nil
  | i :: is => by
    have ih := dpa_picks h is
    cases e : ds[i]? with
    | none =>
      have e2 : vs[i]? = none := by
        rw [List.getElem?_eq_none_iff] at e ⊢
        rw [dpa_len h]; exact e
      rw [List.filterMap_cons, List.filterMap_cons, e, e2]
      exact ih
    | some d =>
      obtain ⟨v, e2, r⟩ := dpa_at h e
      rw [List.filterMap_cons, List.filterMap_cons, e, e2]
      exact .cons r ih
def mSt (m : M PD) (ml mh : M (Option Int)) : M Res := mBind m fun d => mBind ml fun lo => mBind mh fun st => mOpt (fStT d lo st)
theorem ef_stT {X : Cx} {p1 p2 p3 : Bool} {l : Lv} {e a b : Expr} {pos p2' : Pos} {m : M PD} {ml mh : M (Option Int)} (ha : EV X p1 l e m) (hb : EO X p2 (some a) ml) (hc : EO X p3 (some b) mh) (hs : l = .D ∨ (p2 = true ∧ p3 = true) := by first | exact .inr ⟨rfl, rfl⟩ | exact .inl rfl) (hl : l ≠ .B := by nofun) :
    EF X (p1 && (p2 && p3)) (.Subscript e (.Slice (some a) none (some b) p2') pos) (mSt m ml mh) := by
  obtain ⟨ta, a1, a2⟩ := ha.ok
  obtain ⟨tb, b1, b2⟩ := hb.ok
  obtain ⟨tc, c1, c2⟩ := hc.ok
  refine ⟨fun z as r as' h => ?_, _, pe_stT a1 b1 c1, fun G H0 pin ow σ H as r as' Q S hm k => ?_⟩
  · have z' : p1 = true ∧ p2 = true ∧ p3 = true := by simpa using z
    obtain ⟨d, as1, q1, h⟩ := bind_some h
    obtain ⟨i, as2, q2, h⟩ := bind_some h
    obtain ⟨j, as3, q3, h⟩ := bind_some h
    obtain ⟨_, rfl⟩ := opt_some h
    exact ((hc.pur z'.2.2 _ _ _ q3).trans (hb.pur z'.2.1 _ _ _ q2)).trans (ha.pur z'.1 _ _ _ q1)
  · obtain ⟨d, as1, q1, h⟩ := bind_some hm
    obtain ⟨i, as2, q2, h⟩ := bind_some h
    obtain ⟨j, as3, q3, h⟩ := bind_some h
    obtain ⟨q4, rfl⟩ := opt_some h
    refine a2 G H0 pin ow σ H as d as1 _ S q1 fun v H1 ow1 st1 sm1 S1 lv1 => ?_
    refine b2 G H0 pin ow1 σ H1 as1 i as2 _ S1 q2 fun H2 ow2 st2 sm2 S2 => ?_
    refine c2 G H0 pin ow2 σ H2 as2 j as' _ S2 q3 fun H3 ow3 st3 sm3 S3 => ?_
    have lv := lv_it S3.hd hl (lvM (st2.trans st3).dur (hs.imp id fun z => (sm2 z.1).trans (sm3 z.2)) lv1)
    have st := st1.trans (st2.trans st3)
    have sm : (p1 && (p2 && p3)) = true → Same H H3 := fun z => by
      have z' : p1 = true ∧ p2 = true ∧ p3 = true := by simpa using z
      exact (sm1 z'.1).trans ((sm2 z'.2.1).trans (sm3 z'.2.2))
    unfold fStT at q4
    split at q4
    · split at q4
      · rename_i ds lo stp _ _ hh
        cases q4
        cases lv with
        | @tup a xs _ r1 r2 =>
        have hd : DpAll X.K (Hd ow3 G H0 H3) (stpD xs lo stp) (stpD ds lo stp) := by
          unfold stpD
          rw [dpa_len r2]
          exact dpa_picks r2 _
        refine ⟨a, xs, lo, stp, rfl, rfl, rfl, hh.1, hh.2, sqtM S3.hd r1, fun hw => ?_, fun b hb => ?_⟩
        · rw [hw] at hd
          exact k _ H3 ow3 st sm S3 (Dp.tup r1 hd)
        · refine fin_o S3 st sm (fun c x e => by rw [upd_ne (ne_of_none e hb)]; exact e) (v := .ref b) (res := .val (.tuple (stpD ds lo stp))) ?_ k
          exact Dp.tup (SqT.of (by unfold gr; rw [if_pos hb]; exact upd_same)) (dpaM (gr_sub S3.hd) _ _ hd)
      · cases q4
    · cases q4
/-- the list from a place on, each st-th -/
theorem stpD_get {α : Type} {xs : List α} {lo st : Nat} (h1 : 0 < st) (hl : lo ≤ xs.length) : stpD xs lo st = (List.range ((xs.length - lo + st - 1) / st)).filterMap fun m => xs[lo + m * st]? := by
  unfold stpD stpI
  have e : Builtin.Slice.slicePlaces (min (lo : Int) (xs.length : Int)) (xs.length : Int) (st : Int) = (xs.length - lo + st - 1) / st := by
    unfold Builtin.Slice.slicePlaces
    rw [if_pos (by omega), Int.min_eq_left (by omega)]
    split
    · rename_i h
      have : (xs.length - lo + st - 1) = (xs.length - lo - 1) + st := by omega
      rw [this, Nat.add_div_right _ h1]
      have e2 : ((xs.length : Int) - (lo : Int) - 1) = ((xs.length - lo - 1 : Nat) : Int) := by omega
      rw [e2]
      norm_cast
    · rename_i h
      have : xs.length - lo = 0 := by omega
      rw [this, Nat.zero_add, Nat.div_eq_of_lt (by omega)]
      rfl
  rw [e, List.filterMap_map]
  refine fm_congr fun m hm => ?_
  have : (min (lo : Int) (xs.length : Int) + (m : Int) * (st : Int)).toNat = lo + m * st := by
    rw [Int.min_eq_left (by omega)]
    have : (lo : Int) + (m : Int) * (st : Int) = ((lo + m * st : Nat) : Int) := by norm_cast
    rw [this]; rfl
  show xs[(min (lo : Int) (xs.length : Int) + (m : Int) * (st : Int)).toNat]? = _
  rw [this]
end Vl

-- V46
set_option Elab.async false
set_option linter.all false
set_option maxRecDepth 100000
set_option maxHeartbeats 4000000
/-! min, max of two tuples -/
namespace Vl
open PySem L2 PyProof.Rows PySem.W
section
variable {prog : Program} {w : World} {A : Around} {s : Shared} {E : Value → Shared → Prop}
theorem args_two_min (a b : Value) : argsOk "min" ⟨[a, b], []⟩ := by unfold argsOk; kernel_rfl
theorem args_two_max (a b : Value) : argsOk "max" ⟨[a, b], []⟩ := by unfold argsOk; kernel_rfl
theorem min_two_data {a b : Value} {x y : PD} {as : List Addr} {Q : Value → Shared → Prop} (hh : A.handled = none) (hr : ReadsAll s.heap [a, b] [x, y] as) (ha : AlikeAll [x, y]) (hu : A.units + 1 + PyData.depthAll [x, y] < cLine)
    (h : ∀ h' tk, (∀ c o, s.heap.get? c = some o → h'.get? c = some o) → Q (if dataLt y x = true then b else a) { s with heap := h', toks := tk }) :
    wpAny (model prog w) A (call (.builtin "min") [a, b]) Q E s := by
  have hname : (toString "min" ++ toString ".loop" : String) = "min.loop" := by decide
  refine call_function_tree F.kind_min F.plain_min F.entry_min (args_two_min _ _) ?_
  show wpAny _ A.in1 (Builtin.Builtins.bindParams "min" ["key", "default"] 0 ⟨[], []⟩ >>= _) _ _ s
  refine wpAny_bind (wpAny_of_eq (show Builtin.Builtins.bindParams "min" ["key", "default"] 0 ⟨[], []⟩ = pure [none, none] from rfl) ?_)
  show wpAny _ A.in1 (newTuple [a, b] >>= _) _ _ s
  refine wpAny_bind (wpAny_newObj_type ?_)
  have k0 : ∀ c o, s.heap.get? c = some o → (s.heap.push { cls := .type "tuple", data := .seq #[a, b] }).get? c = some o := fun c o e => Heap.get?_push_of_some _ e
  have hr2 := ReadsAll.keeps k0 hr
  obtain ⟨s1, e1⟩ : ∃ s1 : Shared, s1 = { s with heap := s.heap.push { cls := .type "tuple", data := .seq #[a, b] } } := ⟨_, rfl⟩
  have hT : s1.heap.IsTuple s.heap.objs.size #[a, b] := by rw [e1]; exact ⟨_, Heap.get?_push_size _ rfl, rfl, 0, rfl⟩
  have hr3 : ReadsAll s1.heap (#[a, b] : Array Value).toList [x, y] as := by rw [e1]; exact hr2
  have k1 : ∀ c o, s.heap.get? c = some o → s1.heap.get? c = some o := by rw [e1]; exact k0
  have h1 : ∀ h' tk, { s1 with heap := h', toks := tk } = { s with heap := h', toks := tk } := fun h' tk => by rw [e1]
  show wpAny (model prog w) A.in1 (pyIter (.ref s.heap.objs.size) >>= _) _ _ { s with heap := s.heap.push { cls := .type "tuple", data := .seq #[a, b] } }
  rw [← e1]
  refine wpAny_bind (iter_tupleW (A := A.in1) hh hT fun s₂ e W st hfp hw hk => ?_)
  have hcmp := cmpIn_lt (prog := prog) (w := w) (A := A.in1) hr3 ha (by show A.units + 1 + _ < _; exact hu)
  refine wpAny_bind (wpAny_newObj_type ?_)
  have hSf : s₂.heap.objs.size ∉ [s1.heap.objs.size, s.heap.objs.size] := fun hm => Nat.lt_irrefl _ (hfp _ hm)
  rw [hname]
  refine wpAny_pure ⟨plainId_quiet F.plain_min_loop _, codeAny_min_loop_firstH W s1.heap hw _ hcmp s₂.heap.objs.size hSf (fresh_in hk) _ (show 0 < 2 by decide) (fun b o e => Heap.get?_push_of_some _ (hk b o e)) (W.frame 0 s₂ _ s₂.toks st (Nat.le_refl _) fun b _ o e => Heap.get?_push_of_some _ e) (Heap.get?_push_size _ rfl) fun v s' hP hm => ?_⟩
  obtain ⟨h', tk, rfl, hk'⟩ := moved_old e rfl (Moved.drop_new (tk := s₂.toks) hm (Nat.le_refl _))
  have hv : v = if dataLt y x = true then b else a := by
    by_cases q : dataLt y x = true
    · have eb : argBest (fun i j => dataLt ([x, y].getD i .none) ([x, y].getD j .none)) (2 - 1) = 1 := if_pos q
      have hP2 : (#[a, b] : Array Value)[argBest (fun i j => dataLt ([x, y].getD i .none) ([x, y].getD j .none)) (2 - 1)]? = some v := hP
      rw [eb] at hP2
      rw [if_pos q]
      exact (Option.some.inj hP2).symm
    · have eb : argBest (fun i j => dataLt ([x, y].getD i .none) ([x, y].getD j .none)) (2 - 1) = 0 := if_neg q
      have hP2 : (#[a, b] : Array Value)[argBest (fun i j => dataLt ([x, y].getD i .none) ([x, y].getD j .none)) (2 - 1)]? = some v := hP
      rw [eb] at hP2
      rw [if_neg q]
      exact (Option.some.inj hP2).symm
  rw [hv]
  show Q _ { s1 with heap := h', toks := tk }
  rw [h1]
  exact h h' tk fun c o e => hk' c o (k1 c o e)
theorem max_two_data {a b : Value} {x y : PD} {as : List Addr} {Q : Value → Shared → Prop} (hh : A.handled = none) (hr : ReadsAll s.heap [a, b] [x, y] as) (ha : AlikeAll [x, y]) (hu : A.units + 1 + PyData.depthAll [x, y] < cLine)
    (h : ∀ h' tk, (∀ c o, s.heap.get? c = some o → h'.get? c = some o) → Q (if dataLt x y = true then b else a) { s with heap := h', toks := tk }) :
    wpAny (model prog w) A (call (.builtin "max") [a, b]) Q E s := by
  have hname : (toString "max" ++ toString ".loop" : String) = "max.loop" := by decide
  refine call_function_tree F.kind_max F.plain_max F.entry_max (args_two_max _ _) ?_
  show wpAny _ A.in1 (Builtin.Builtins.bindParams "max" ["key", "default"] 0 ⟨[], []⟩ >>= _) _ _ s
  refine wpAny_bind (wpAny_of_eq (show Builtin.Builtins.bindParams "max" ["key", "default"] 0 ⟨[], []⟩ = pure [none, none] from rfl) ?_)
  show wpAny _ A.in1 (newTuple [a, b] >>= _) _ _ s
  refine wpAny_bind (wpAny_newObj_type ?_)
  have k0 : ∀ c o, s.heap.get? c = some o → (s.heap.push { cls := .type "tuple", data := .seq #[a, b] }).get? c = some o := fun c o e => Heap.get?_push_of_some _ e
  have hr2 := ReadsAll.keeps k0 hr
  obtain ⟨s1, e1⟩ : ∃ s1 : Shared, s1 = { s with heap := s.heap.push { cls := .type "tuple", data := .seq #[a, b] } } := ⟨_, rfl⟩
  have hT : s1.heap.IsTuple s.heap.objs.size #[a, b] := by rw [e1]; exact ⟨_, Heap.get?_push_size _ rfl, rfl, 0, rfl⟩
  have hr3 : ReadsAll s1.heap (#[a, b] : Array Value).toList [x, y] as := by rw [e1]; exact hr2
  have k1 : ∀ c o, s.heap.get? c = some o → s1.heap.get? c = some o := by rw [e1]; exact k0
  have h1 : ∀ h' tk, { s1 with heap := h', toks := tk } = { s with heap := h', toks := tk } := fun h' tk => by rw [e1]
  show wpAny (model prog w) A.in1 (pyIter (.ref s.heap.objs.size) >>= _) _ _ { s with heap := s.heap.push { cls := .type "tuple", data := .seq #[a, b] } }
  rw [← e1]
  refine wpAny_bind (iter_tupleW (A := A.in1) hh hT fun s₂ e W st hfp hw hk => ?_)
  have hcmp := cmpIn_gt (prog := prog) (w := w) (A := A.in1) hr3 ha (by show A.units + 1 + _ < _; exact hu)
  refine wpAny_bind (wpAny_newObj_type ?_)
  have hSf : s₂.heap.objs.size ∉ [s1.heap.objs.size, s.heap.objs.size] := fun hm => Nat.lt_irrefl _ (hfp _ hm)
  rw [hname]
  refine wpAny_pure ⟨plainId_quiet F.plain_max_loop _, codeAny_max_loop_firstH W s1.heap hw _ hcmp s₂.heap.objs.size hSf (fresh_in hk) _ (show 0 < 2 by decide) (fun b o e => Heap.get?_push_of_some _ (hk b o e)) (W.frame 0 s₂ _ s₂.toks st (Nat.le_refl _) fun b _ o e => Heap.get?_push_of_some _ e) (Heap.get?_push_size _ rfl) fun v s' hP hm => ?_⟩
  obtain ⟨h', tk, rfl, hk'⟩ := moved_old e rfl (Moved.drop_new (tk := s₂.toks) hm (Nat.le_refl _))
  have hv : v = if dataLt x y = true then b else a := by
    by_cases q : dataLt x y = true
    · have eb : argBest (fun i j => dataLt ([x, y].getD j .none) ([x, y].getD i .none)) (2 - 1) = 1 := if_pos q
      have hP2 : (#[a, b] : Array Value)[argBest (fun i j => dataLt ([x, y].getD j .none) ([x, y].getD i .none)) (2 - 1)]? = some v := hP
      rw [eb] at hP2
      rw [if_pos q]
      exact (Option.some.inj hP2).symm
    · have eb : argBest (fun i j => dataLt ([x, y].getD j .none) ([x, y].getD i .none)) (2 - 1) = 0 := if_neg q
      have hP2 : (#[a, b] : Array Value)[argBest (fun i j => dataLt ([x, y].getD j .none) ([x, y].getD i .none)) (2 - 1)]? = some v := hP
      rw [eb] at hP2
      rw [if_neg q]
      exact (Option.some.inj hP2).symm
  rw [hv]
  show Q _ { s1 with heap := h', toks := tk }
  rw [h1]
  exact h h' tk fun c o e => hk' c o (k1 c o e)
end
/-- the lesser (lt e d) or the greater (lt d e) of two, the first if alike -/
def rTwoD (lt : PD → PD → Bool) (K : Fg) : List V → Hp → VK → Prop := fun vs H Q => ∃ (x y : V) (d e : PD), vs = [x, y] ∧ Dp K H x d ∧ Dp K H y e ∧ AlikeAll [d, e] ∧ PyData.depthAll [d, e] ≤ 60 ∧ Q (if lt d e = true then y else x) H
section
variable {X : Cx}
theorem cr_min2D (hc : X.calm = true) (hu : X.A.units + 65 < cLine) : CallR X (.builtin "min") (rTwoD (fun d e => dataLt e d) X.K) := by
  intro pins s σ H vs us Q I r h
  obtain ⟨x, y, d, e, rfl, h1, h2, ha, hdp, q⟩ := h
  obtain ⟨u, w, rfl, r1, r2⟩ := vals2 r
  obtain ⟨as, hra⟩ := Dp.readsAll I _ _ _ (DpAll.cons h1 (DpAll.cons h2 DpAll.nil)) r
  refine min_two_data (I.ok.hd hc) hra ha (by omega) fun h' tk hk => ⟨_, H, I.kept hk, ?_, q⟩
  by_cases z : dataLt e d = true
  · rw [if_pos z, if_pos z]; exact r2
  · rw [if_neg z, if_neg z]; exact r1
theorem cr_max2D (hc : X.calm = true) (hu : X.A.units + 65 < cLine) : CallR X (.builtin "max") (rTwoD (fun d e => dataLt d e) X.K) := by
  intro pins s σ H vs us Q I r h
  obtain ⟨x, y, d, e, rfl, h1, h2, ha, hdp, q⟩ := h
  obtain ⟨u, w, rfl, r1, r2⟩ := vals2 r
  obtain ⟨as, hra⟩ := Dp.readsAll I _ _ _ (DpAll.cons h1 (DpAll.cons h2 DpAll.nil)) r
  refine max_two_data (I.ok.hd hc) hra ha (by omega) fun h' tk hk => ⟨_, H, I.kept hk, ?_, q⟩
  by_cases z : dataLt d e = true
  · rw [if_pos z, if_pos z]; exact r2
  · rw [if_neg z, if_neg z]; exact r1
end
def fTwoD (lt : PD → PD → Bool) : List PD → Option Res
  | [.tuple a, .tuple b] => if okBest [.tuple a, .tuple b] = true then some (.val (if lt (.tuple a) (.tuple b) = true then .tuple b else .tuple a)) else none
  | _ => none
theorem rno_twoD {K : Fg} {lt : PD → PD → Bool} : RnO K (rTwoD lt K) (fTwoD lt) := by
  intro G H xs ds res s hx hf Q k
  unfold fTwoD at hf
  split at hf
  · rename_i a b
    split at hf
    · rename_i hc
      cases hf
      obtain ⟨v, w, rfl, h1, h2⟩ := two_of hx
      obtain ⟨g1, g2⟩ := okBest_of hc
      have d1 : Dp K G v (.tuple a) := h1
      have d2 : Dp K G w (.tuple b) := h2
      refine ⟨v, w, _, _, rfl, dpM s _ _ d1, dpM s _ _ d2, g1, g2, ?_⟩
      by_cases z : lt (.tuple a) (.tuple b) = true
      · rw [if_pos z] at k ⊢
        exact k _ H (Same.refl H) (ok_val s d2)
      · rw [if_neg z] at k ⊢
        exact k _ H (Same.refl H) (ok_val s d1)
    · cases hf
  · cases hf
def fMin2D : List PD → Option Res := fTwoD (fun d e => dataLt e d)
def fMax2D : List PD → Option Res := fTwoD (fun d e => dataLt d e)
theorem rno_min2D {K : Fg} : RnO K (rTwoD (fun d e => dataLt e d) K) fMin2D := rno_twoD
theorem rno_max2D {K : Fg} : RnO K (rTwoD (fun d e => dataLt d e) K) fMax2D := rno_twoD
end Vl

-- T1
set_option Elab.async false
set_option linter.all false
set_option maxRecDepth 100000
set_option maxHeartbeats 4000000
/-! tools for the denotations: what they compute, by simp -/
namespace Vl
open PySem L2
/-! no lambdas in what simp sees: continuations are denotations -/
section
variable {α β γ : Type} {as : AS}
def pairR (o : Option α) (as : AS) : Option (α × AS) := match o with
  | none => none
  | some a => some (a, as)
@[simp] theorem pairR_some {a : α} : pairR (some a) as = some (a, as) := (rfl)
@[simp] theorem mPure_ap {a : α} : mPure a as = some (a, as) := (rfl)
@[simp] theorem mOpt_ap {o : Option α} : mOpt o as = pairR o as := by
  unfold mOpt pairR
  cases o <;> rfl
def k1 (f : β → Option α) (q : Option (β × AS)) : Option (α × AS) := match q with
  | none => none
  | some (x, as) => pairR (f x) as
@[simp] theorem k1_some {f : β → Option α} {x : β} : k1 f (some (x, as)) = pairR (f x) as := (rfl)
@[simp] theorem m1_ap {f : PD → Option α} {m : M PD} : m1 f m as = k1 f (m as) := by
  show mBind m _ as = _
  unfold mBind
  cases m as with
  | none => rfl
  | some q => exact mOpt_ap
@[simp] theorem mN_ap {f : List PD → Option Res} {m : M (List PD)} : mN f m as = k1 f (m as) := by
  show mBind m _ as = _
  unfold mBind
  cases m as with
  | none => rfl
  | some q => exact mOpt_ap
@[simp] theorem mS_ap {f : List PD → Option PD} {m : M (List PD)} : mS f m as = k1 f (m as) := by
  show mBind m _ as = _
  unfold mBind
  cases m as with
  | none => rfl
  | some q => exact mOpt_ap
@[simp] theorem mR_ap {f : List PD → Option (List PD)} {m : M (List PD)} : mR f m as = k1 f (m as) := by
  show mBind m _ as = _
  unfold mBind
  cases m as with
  | none => rfl
  | some q => exact mOpt_ap
@[simp] theorem mV_ap {m : M Res} : mV m as = k1 Res.v (m as) := by
  show mBind m _ as = _
  unfold mBind
  cases m as with
  | none => rfl
  | some q => exact mOpt_ap
@[simp] theorem Res.v_val {d : PD} : (Res.val d).v = some d := (rfl)
@[simp] theorem Res.v_ol {xs : List PD} : (Res.obj (.ol xs)).v = some (.list xs) := (rfl)
def kF (q : Option (PD × AS)) : Option (Res × AS) := match q with
  | none => none
  | some (x, as) => some (.val x, as)
@[simp] theorem kF_some {x : PD} : kF (some (x, as)) = some (.val x, as) := (rfl)
@[simp] theorem mF_ap {m : M PD} : mF m as = kF (m as) := by
  show mBind m _ as = _
  unfold mBind
  cases m as <;> rfl
def k2b' (f : PD → PD → Option α) (x : PD) (q : Option (PD × AS)) : Option (α × AS) := match q with
  | none => none
  | some (y, as) => pairR (f x y) as
def k2 (f : PD → PD → Option α) (q : Option (PD × AS)) (n : M PD) : Option (α × AS) := match q with
  | none => none
  | some (x, as) => k2b' f x (n as)
@[simp] theorem k2_some {f : PD → PD → Option α} {x : PD} {n : M PD} : k2 f (some (x, as)) n = k2b' f x (n as) := (rfl)
@[simp] theorem k2b'_some {f : PD → PD → Option α} {x y : PD} : k2b' f x (some (y, as)) = pairR (f x y) as := (rfl)
@[simp] theorem m2_ap {f : PD → PD → Option α} {m n : M PD} : m2 f m n as = k2 f (m as) n := by
  show mBind m _ as = _
  unfold mBind
  cases m as with
  | none => rfl
  | some q =>
    show mBind n _ q.2 = k2b' f q.1 (n q.2)
    unfold mBind k2b'
    cases n q.2 with
    | none => rfl
    | some r => exact mOpt_ap
def asBo (o : Option PD) : Option Bool := o.bind asB
@[simp] theorem asBo_bool {b : Bool} : asBo (some (.bool b)) = some b := (rfl)
def fB (f : PD → PD → Option PD) (x y : PD) : Option Bool := asBo (f x y)
@[simp] theorem fB_ap {f : PD → PD → Option PD} {x y : PD} : fB f x y = asBo (f x y) := (rfl)
@[simp] theorem m2b_ap {f : PD → PD → Option PD} {m n : M PD} : m2b f m n as = k2 (fB f) (m as) n := m2_ap
def kC' (x : PD) (q : Option (List PD × AS)) : Option (List PD × AS) := match q with
  | none => none
  | some (xs, as) => some (x :: xs, as)
def kC (q : Option (PD × AS)) (n : M (List PD)) : Option (List PD × AS) := match q with
  | none => none
  | some (x, as) => kC' x (n as)
@[simp] theorem kC_some {x : PD} {n : M (List PD)} : kC (some (x, as)) n = kC' x (n as) := (rfl)
@[simp] theorem kC'_some {x : PD} {xs : List PD} : kC' x (some (xs, as)) = some (x :: xs, as) := (rfl)
@[simp] theorem mCons_ap {m : M PD} {ms : M (List PD)} : mCons m ms as = kC (m as) ms := by
  show mBind m _ as = _
  unfold mBind
  cases m as with
  | none => rfl
  | some q =>
    show mBind ms _ q.2 = kC' q.1 (ms q.2)
    unfold mBind
    cases ms q.2 <;> rfl
def kIsi (T : String) (q : Option (PD × AS)) : Option (PD × AS) := match q with
  | none => none
  | some (x, as) => some (.bool (isT T x), as)
@[simp] theorem kIsi_some {T : String} {x : PD} : kIsi T (some (x, as)) = some (.bool (isT T x), as) := (rfl)
@[simp] theorem mIsi_ap {T : String} {m : M PD} : mIsi T m as = kIsi T (m as) := by
  show m1 _ m as = _
  rw [m1_ap]
  cases m as <;> rfl
def kP (q : Option (PD × AS)) : Option (Option Int × AS) := match q with
  | some (.int i, as) => some (some i, as)
  | _ => none
@[simp] theorem kP_some {i : Int} : kP (some (.int i, as)) = some (some i, as) := (rfl)
@[simp] theorem mPart_ap {m : M PD} : mPart m as = kP (m as) := by
  show mBind m _ as = _
  unfold mBind
  cases m as with
  | none => rfl
  | some q =>
    obtain ⟨d, as1⟩ := q
    cases d <;> rfl
def kS3 (d : PD) (lo : Option Int) (q : Option (Option Int × AS)) : Option (Res × AS) := match q with
  | none => none
  | some (hi, as) => pairR (fSl d lo hi) as
def kS2 (d : PD) (q : Option (Option Int × AS)) (h : M (Option Int)) : Option (Res × AS) := match q with
  | none => none
  | some (lo, as) => kS3 d lo (h as)
def kS1 (q : Option (PD × AS)) (l h : M (Option Int)) : Option (Res × AS) := match q with
  | none => none
  | some (d, as) => kS2 d (l as) h
@[simp] theorem kS1_some {d : PD} {l h : M (Option Int)} : kS1 (some (d, as)) l h = kS2 d (l as) h := (rfl)
@[simp] theorem kS2_some {d : PD} {lo : Option Int} {h : M (Option Int)} : kS2 d (some (lo, as)) h = kS3 d lo (h as) := (rfl)
@[simp] theorem kS3_some {d : PD} {lo hi : Option Int} : kS3 d lo (some (hi, as)) = pairR (fSl d lo hi) as := (rfl)
@[simp] theorem mSl_ap {m : M PD} {l h : M (Option Int)} : mSl m l h as = kS1 (m as) l h := by
  show mBind m _ as = _
  unfold mBind
  cases m as with
  | none => rfl
  | some q =>
    show mBind l _ q.2 = kS2 q.1 (l q.2) h
    unfold mBind
    cases l q.2 with
    | none => rfl
    | some r =>
      show mBind h _ r.2 = kS3 q.1 r.1 (h r.2)
      unfold mBind
      cases h r.2 with
      | none => rfl
      | some t => exact mOpt_ap
/-- a test's two ways -/
def kI (q : Option (Bool × AS)) (m n : AS → Option γ) : Option γ := match q with
  | none => none
  | some (true, as) => m as
  | some (false, as) => n as
@[simp] theorem kI_true {m n : AS → Option γ} : kI (some (true, as)) m n = m as := (rfl)
@[simp] theorem kI_false {m n : AS → Option γ} : kI (some (false, as)) m n = n as := (rfl)
theorem kI_ite {m n : AS → Option γ} {b : Bool} : kI (some (b, as)) m n = if b = true then m as else n as := by cases b <;> rfl
@[simp] theorem mAnd_ap {m n : M Bool} : mAnd m n as = kI (m as) n (mPure false) := by
  show mBind m _ as = _
  unfold mBind
  cases m as with
  | none => rfl
  | some q => obtain ⟨b, as1⟩ := q; cases b <;> rfl
@[simp] theorem mOr_ap {m n : M Bool} : mOr m n as = kI (m as) (mPure true) n := by
  show mBind m _ as = _
  unfold mBind
  cases m as with
  | none => rfl
  | some q => obtain ⟨b, as1⟩ := q; cases b <;> rfl
def kNot (q : Option (Bool × AS)) : Option (Bool × AS) := match q with
  | none => none
  | some (b, as) => some (!b, as)
@[simp] theorem kNot_some {b : Bool} : kNot (some (b, as)) = some (!b, as) := (rfl)
@[simp] theorem mNot_ap {m : M Bool} : mNot m as = kNot (m as) := by
  show mBind m _ as = _
  unfold mBind
  cases m as <;> rfl
@[simp] theorem mIte_ap {c : M Bool} {m n : M α} : mIte c m n as = kI (c as) m n := by
  show mBind c _ as = _
  unfold mBind
  cases c as with
  | none => rfl
  | some q => obtain ⟨b, as1⟩ := q; cases b <;> rfl
def kIV (q : Option (PD × AS)) (m n : M PD) : Option (PD × AS) := match q with
  | some (.bool true, as) => m as
  | some (.bool false, as) => n as
  | _ => none
@[simp] theorem kIV_true {m n : M PD} : kIV (some (.bool true, as)) m n = m as := (rfl)
@[simp] theorem kIV_false {m n : M PD} : kIV (some (.bool false, as)) m n = n as := (rfl)
@[simp] theorem mAndV_ap {m n : M PD} : mAndV m n as = kIV (m as) n (mPure (.bool false)) := by
  show mBind m _ as = _
  unfold mBind
  cases m as with
  | none => rfl
  | some q =>
    obtain ⟨d, as1⟩ := q
    cases d with
    | bool b => cases b <;> rfl
    | _ => rfl
@[simp] theorem mOrV_ap {m n : M PD} : mOrV m n as = kIV (m as) (mPure (.bool true)) n := by
  show mBind m _ as = _
  unfold mBind
  cases m as with
  | none => rfl
  | some q =>
    obtain ⟨d, as1⟩ := q
    cases d with
    | bool b => cases b <;> rfl
    | _ => rfl
def kNotV (q : Option (PD × AS)) : Option (PD × AS) := match q with
  | some (.bool b, as) => some (.bool !b, as)
  | _ => none
@[simp] theorem kNotV_some {b : Bool} : kNotV (some (.bool b, as)) = some (.bool !b, as) := (rfl)
@[simp] theorem mNotV_ap {m : M PD} : mBind (m1 asB m) (fun c => mPure (.bool !c)) as = kNotV (m as) := by
  unfold mBind
  rw [m1_ap]
  cases m as with
  | none => rfl
  | some q =>
    obtain ⟨d, as1⟩ := q
    cases d <;> rfl
@[simp] theorem sNx_ap : sNx as = some (.nx, as) := (rfl)
@[simp] theorem sBk_ap : sBk as = some (.bk, as) := (rfl)
@[simp] theorem sCt_ap : sCt as = some (.ct, as) := (rfl)
@[simp] theorem sRetN_ap : sRetN as = some (.rt (.val .none), as) := (rfl)
def kT (q : Option (Ctl × AS)) (n : MS) : Option (Ctl × AS) := match q with
  | none => none
  | some (.nx, as) => n as
  | some (c, as) => some (c, as)
@[simp] theorem kT_nx {n : MS} : kT (some (.nx, as)) n = n as := (rfl)
@[simp] theorem kT_bk {n : MS} : kT (some (.bk, as)) n = some (.bk, as) := (rfl)
@[simp] theorem kT_ct {n : MS} : kT (some (.ct, as)) n = some (.ct, as) := (rfl)
@[simp] theorem kT_rt {n : MS} {r : Res} : kT (some (.rt r, as)) n = some (.rt r, as) := (rfl)
@[simp] theorem sThen_ap {m n : MS} : sThen m n as = kT (m as) n := by
  unfold sThen kT
  cases m as with
  | none => rfl
  | some q =>
    obtain ⟨c, as1⟩ := q
    cases c <;> rfl
@[simp] theorem sIf_ap {c : M Bool} {m n : MS} : sIf c m n as = kI (c as) m n := by
  unfold sIf
  cases c as with
  | none => rfl
  | some q => obtain ⟨b, as1⟩ := q; cases b <;> rfl
def kD (q : Option (α × AS)) : Option (Ctl × AS) := match q with
  | none => none
  | some (_, as) => some (.nx, as)
@[simp] theorem kD_some {a : α} : kD (some (a, as)) = some (.nx, as) := (rfl)
@[simp] theorem sDrop_ap {m : M α} : sDrop m as = kD (m as) := by
  unfold sDrop
  cases m as <;> rfl
def kRet (q : Option (Res × AS)) : Option (Ctl × AS) := match q with
  | none => none
  | some (r, as) => some (.rt r, as)
@[simp] theorem kRet_some {r : Res} : kRet (some (r, as)) = some (.rt r, as) := (rfl)
@[simp] theorem sRet_ap {m : M Res} : sRet m as = kRet (m as) := by
  unfold sRet
  cases m as <;> rfl
/-- a slot's new thing -/
def slotOf : Res → Slot
  | .val d => .dur d
  | .obj o => .own o
@[simp] theorem slotOf_val {d : PD} : slotOf (.val d) = .dur d := (rfl)
@[simp] theorem slotOf_obj {o : Obj} : slotOf (.obj o) = .own o := (rfl)
/-- a slot set anew -/
def wS (z : Slot) : AS → Nat → Option AS
  | [], _ => none
  | .io _ :: _, 0 => none
  | _ :: l, 0 => some (z :: l)
  | s :: l, i + 1 => match wS z l i with
    | none => none
    | some l' => some (s :: l')
def kW (s : Slot) (q : Option AS) : Option AS := match q with
  | none => none
  | some l => some (s :: l)
@[simp] theorem kW_some {s : Slot} {l : AS} : kW s (some l) = some (s :: l) := (rfl)
def isF : Slot → Bool
  | .io _ => false
  | _ => true
@[simp] theorem isF_un : isF .un = true := of_eq_true (eq_self true)
@[simp] theorem isF_dur {d : PD} : isF (.dur d) = true := of_eq_true (eq_self true)
@[simp] theorem isF_own {o : Obj} : isF (.own o) = true := of_eq_true (eq_self true)
@[simp] theorem isF_rw {xss : List (List PD)} : isF (.rw xss) = true := of_eq_true (eq_self true)
@[simp] theorem isF_io {o : Obj} : isF (.io o) = false := (rfl)
@[simp] theorem wS_un {z : Slot} {l : AS} : wS z (.un :: l) 0 = some (z :: l) := (rfl)
@[simp] theorem wS_dur {z : Slot} {d : PD} {l : AS} : wS z (.dur d :: l) 0 = some (z :: l) := (rfl)
@[simp] theorem wS_own {z : Slot} {o : Obj} {l : AS} : wS z (.own o :: l) 0 = some (z :: l) := (rfl)
@[simp] theorem wS_rw {z : Slot} {xss : List (List PD)} {l : AS} : wS z (.rw xss :: l) 0 = some (z :: l) := (rfl)
@[simp] theorem wS_zero {z s : Slot} {l : AS} (h : isF s = true) : wS z (s :: l) 0 = some (z :: l) := by
  cases s with
  | io o => cases h
  | _ => rfl
@[simp] theorem wS_succ {z s : Slot} {l : AS} {i : Nat} : wS z (s :: l) (i + 1) = kW s (wS z l i) := by
  have : wS z (s :: l) (i + 1) = match wS z l i with | none => none | some l' => some (s :: l') := by cases s <;> rfl
  rw [this]
  cases wS z l i <;> rfl
theorem wS_eq (z : Slot) : ∀ (as : AS) (i : Nat), wS z as i = match as[i]? with
    | some (.io _) => none
    | none => none
    | _ => some (as.set i z)
  | [], _ => rfl
  | s :: l, 0 => by cases s <;> rfl
  | s :: l, i + 1 => by
    rw [wS_succ, wS_eq z l i, List.getElem?_cons_succ]
    cases l[i]? with
    | none => rfl
    | some t => cases t <;> rfl
def kSet (i : Nat) (q : Option (Res × AS)) : Option (Ctl × AS) := match q with
  | none => none
  | some (r, as) => (match wS (slotOf r) as i with
    | none => none
    | some as2 => some (.nx, as2))
def kN (q : Option AS) : Option (Ctl × AS) := match q with
  | none => none
  | some as2 => some (.nx, as2)
@[simp] theorem kN_some : kN (some as) = some (.nx, as) := (rfl)
@[simp] theorem kSet_some {i : Nat} {r : Res} : kSet i (some (r, as)) = kN (wS (slotOf r) as i) := by
  show (match wS (slotOf r) as i with | none => none | some as2 => some (Ctl.nx, as2)) = _
  unfold kN
  cases wS (slotOf r) as i <;> rfl
@[simp] theorem sSet_ap {i : Nat} {m : M Res} : sSet i m as = kSet i (m as) := by
  unfold sSet kSet
  cases m as with
  | none => rfl
  | some q =>
    obtain ⟨r, as1⟩ := q
    simp only [wS_eq]
    cases h : as1[i]? with
    | none => rfl
    | some s => cases s <;> cases r <;> rfl
@[simp] theorem gN_ap {i : Nat} {d : PD} : gN i d as = wS (.dur d) as i := by
  refine Eq.trans ?_ (wS_eq _ _ _).symm
  unfold gN
  cases h : as[i]? with
  | none => rfl
  | some s => cases s <;> rfl
@[simp] theorem gNil_ap : gNil [] as = some as := (rfl)
def kG (q : Option AS) (gs : List PD → AS → Option AS) (ds : List PD) : Option AS := match q with
  | none => none
  | some as => gs ds as
@[simp] theorem kG_some {gs : List PD → AS → Option AS} {ds : List PD} : kG (some as) gs ds = gs ds as := (rfl)
@[simp] theorem gCons_ap {g : PD → AS → Option AS} {gs : List PD → AS → Option AS} {d : PD} {ds : List PD} : gCons g gs (d :: ds) as = kG (g d as) gs ds := by
  show (match g d as with | none => none | some as1 => gs ds as1) = _
  cases g d as <;> rfl
@[simp] theorem gT_ap {gs : List PD → AS → Option AS} {ds : List PD} : gT gs (.tuple ds) as = gs ds as := (rfl)
def kAsg (g : PD → AS → Option AS) (q : Option (PD × AS)) : Option (Ctl × AS) := match q with
  | none => none
  | some (d, as) => kN (g d as)
@[simp] theorem kAsg_some {g : PD → AS → Option AS} {d : PD} : kAsg g (some (d, as)) = kN (g d as) := (rfl)
@[simp] theorem sAsg_ap {g : PD → AS → Option AS} {m : M PD} : sAsg g m as = kAsg g (m as) := by
  unfold sAsg kAsg
  cases m as with
  | none => rfl
  | some q =>
    obtain ⟨d, as1⟩ := q
    simp only [kN]
    all_goals (cases g d as1 <;> rfl)
def kFor (g : PD → AS → Option AS) (b : MS) (q : Option (List PD × AS)) : Option (Ctl × AS) := match q with
  | none => none
  | some (ds, as) => forL g b ds as
@[simp] theorem kFor_some {g : PD → AS → Option AS} {b : MS} {ds : List PD} : kFor g b (some (ds, as)) = forL g b ds as := (rfl)
@[simp] theorem sFor_ap {mi : M (List PD)} {g : PD → AS → Option AS} {b : MS} : sFor mi g b as = kFor g b (mi as) := by
  unfold sFor
  cases mi as <;> rfl
end
/-- what a slot shows -/
def sv : Slot → Option PD
  | .dur d => some d
  | .own (.ol xs) => some (.list xs)
  | .io (.ol xs) => some (.list xs)
  | _ => none
def svD : Slot → Option PD
  | .dur d => some d
  | _ => none
def vI : AS → Nat → Option PD
  | [], _ => none
  | s :: _, 0 => sv s
  | _ :: l, i + 1 => vI l i
def vD : AS → Nat → Option PD
  | [], _ => none
  | s :: _, 0 => svD s
  | _ :: l, i + 1 => vD l i
@[simp] theorem vI_zero {s : Slot} {l : AS} : vI (s :: l) 0 = sv s := (rfl)
@[simp] theorem vI_succ {s : Slot} {l : AS} {i : Nat} : vI (s :: l) (i + 1) = vI l i := (rfl)
@[simp] theorem vD_zero {s : Slot} {l : AS} : vD (s :: l) 0 = svD s := (rfl)
@[simp] theorem vD_succ {s : Slot} {l : AS} {i : Nat} : vD (s :: l) (i + 1) = vD l i := (rfl)
@[simp] theorem sv_dur {d : PD} : sv (.dur d) = some d := (rfl)
@[simp] theorem sv_own {xs : List PD} : sv (.own (.ol xs)) = some (.list xs) := (rfl)
@[simp] theorem sv_io {xs : List PD} : sv (.io (.ol xs)) = some (.list xs) := (rfl)
@[simp] theorem svD_dur {d : PD} : svD (.dur d) = some d := (rfl)
theorem vI_eq : ∀ (as : AS) (i : Nat), vI as i = (as[i]?).bind sv
  | [], _ => rfl
  | _ :: _, 0 => rfl
  | _ :: l, i + 1 => by rw [vI_succ, List.getElem?_cons_succ]; exact vI_eq l i
theorem vD_eq : ∀ (as : AS) (i : Nat), vD as i = (as[i]?).bind svD
  | [], _ => rfl
  | _ :: _, 0 => rfl
  | _ :: l, i + 1 => by rw [vD_succ, List.getElem?_cons_succ]; exact vD_eq l i
@[simp] theorem mI_ap {as : AS} {i : Nat} : mI i as = pairR (vI as i) as := by
  rw [vI_eq]
  unfold mI
  cases as[i]? with
  | none => rfl
  | some s =>
    cases s with
    | own o => cases o <;> rfl
    | io o => cases o <;> rfl
    | _ => rfl
@[simp] theorem mD_ap {as : AS} {i : Nat} : mD i as = pairR (vD as i) as := by
  rw [vD_eq]
  unfold mD
  cases as[i]? with
  | none => rfl
  | some s => cases s <;> rfl
/-- the list of one's own in a slot; another one put there -/
def sL : Slot → Option (List PD)
  | .own (.ol xs) => some xs
  | .io (.ol xs) => some xs
  | _ => none
def vL : AS → Nat → Option (List PD)
  | [], _ => none
  | s :: _, 0 => sL s
  | _ :: l, i + 1 => vL l i
def pS (xs : List PD) : Slot → Slot
  | .io _ => .io (.ol xs)
  | _ => .own (.ol xs)
def pL : AS → Nat → List PD → AS
  | [], _, _ => []
  | s :: l, 0, xs => pS xs s :: l
  | s :: l, i + 1, xs => s :: pL l i xs
@[simp] theorem vL_zero {s : Slot} {l : AS} : vL (s :: l) 0 = sL s := (rfl)
@[simp] theorem vL_succ {s : Slot} {l : AS} {i : Nat} : vL (s :: l) (i + 1) = vL l i := (rfl)
@[simp] theorem pL_zero {s : Slot} {l : AS} {xs : List PD} : pL (s :: l) 0 xs = pS xs s :: l := (rfl)
@[simp] theorem pL_succ {s : Slot} {l : AS} {i : Nat} {xs : List PD} : pL (s :: l) (i + 1) xs = s :: pL l i xs := (rfl)
@[simp] theorem sL_own {xs : List PD} : sL (.own (.ol xs)) = some xs := (rfl)
@[simp] theorem sL_io {xs : List PD} : sL (.io (.ol xs)) = some xs := (rfl)
@[simp] theorem pS_own {xs : List PD} {o : Obj} : pS xs (.own o) = .own (.ol xs) := (rfl)
@[simp] theorem pS_io {xs : List PD} {o : Obj} : pS xs (.io o) = .io (.ol xs) := (rfl)
theorem slotL_eq : ∀ (as : AS) (i : Nat), slotL as i = vL as i
  | [], _ => rfl
  | s :: _, 0 => by
    cases s with
    | own o => cases o <;> rfl
    | io o => cases o <;> rfl
    | _ => rfl
  | _ :: l, i + 1 => by rw [vL_succ, ← slotL_eq l i]; rfl
theorem setL_eq : ∀ (as : AS) (i : Nat) (xs : List PD), setL as i xs = pL as i xs
  | [], _, _ => rfl
  | s :: _, 0, _ => by cases s <;> rfl
  | s :: l, i + 1, xs => by
    rw [pL_succ, ← setL_eq l i xs]
    unfold setL
    rw [List.getElem?_cons_succ]
    cases l[i]? with
    | none => rfl
    | some t => cases t <;> rfl
def kM3 (i : Nat) (as : AS) (q : Option (PD × List PD)) : Option (PD × AS) := match q with
  | none => none
  | some (d, xs) => some (d, pL as i xs)
@[simp] theorem kM3_some {i : Nat} {as : AS} {d : PD} {xs : List PD} : kM3 i as (some (d, xs)) = some (d, pL as i xs) := (rfl)
def ap2 (f : List PD → List PD → Option (PD × List PD)) (o : Option (List PD)) (ds : List PD) : Option (PD × List PD) := match o with
  | none => none
  | some xs => f xs ds
@[simp] theorem ap2_some {f : List PD → List PD → Option (PD × List PD)} {xs ds : List PD} : ap2 f (some xs) ds = f xs ds := (rfl)
def kM2 (i : Nat) (f : List PD → List PD → Option (PD × List PD)) (q : Option (List PD × AS)) : Option (PD × AS) := match q with
  | none => none
  | some (ds, as) => kM3 i as (ap2 f (vL as i) ds)
@[simp] theorem kM2_some {i : Nat} {f : List PD → List PD → Option (PD × List PD)} {as : AS} {ds : List PD} : kM2 i f (some (ds, as)) = kM3 i as (ap2 f (vL as i) ds) := (rfl)
def kM1 (i : Nat) (f : List PD → List PD → Option (PD × List PD)) (o : Option (List PD)) (q : Option (List PD × AS)) : Option (PD × AS) := match o with
  | none => none
  | some _ => kM2 i f q
@[simp] theorem kM1_some {i : Nat} {f : List PD → List PD → Option (PD × List PD)} {xs : List PD} {q : Option (List PD × AS)} : kM1 i f (some xs) q = kM2 i f q := (rfl)
@[simp] theorem mMth_ap {as : AS} {i : Nat} {f : List PD → List PD → Option (PD × List PD)} {ms : M (List PD)} : mMth i f ms as = kM1 i f (vL as i) (ms as) := by
  unfold mMth
  rw [slotL_eq]
  cases vL as i with
  | none => rfl
  | some _ =>
    cases ms as with
    | none => rfl
    | some q =>
      obtain ⟨ds, as1⟩ := q
      simp only [slotL_eq, kM1_some, kM2_some]
      cases vL as1 i with
      | none => rfl
      | some xs =>
        simp only [ap2_some]
        cases f xs ds with
        | none => rfl
        | some r => simp only [setL_eq]; rfl
def kI3 (as : AS) (i : Nat) (xs : List PD) (d : PD) (o : Option Nat) : Option AS := match o with
  | none => none
  | some j => some (pL as i (xs.set j d))
@[simp] theorem kI3_some {as : AS} {i : Nat} {xs : List PD} {d : PD} {j : Nat} : kI3 as i xs d (some j) = some (pL as i (xs.set j d)) := (rfl)
def kI2 (as : AS) (i : Nat) (d : PD) (k : Int) (o : Option (List PD)) : Option AS := match o with
  | none => none
  | some xs => kI3 as i xs d (ixN xs.length k)
@[simp] theorem kI2_some {as : AS} {i : Nat} {d : PD} {k : Int} {xs : List PD} : kI2 as i d k (some xs) = kI3 as i xs d (ixN xs.length k) := (rfl)
def kI1 (i : Nat) (d : PD) (q : Option (PD × AS)) : Option AS := match q with
  | some (.int k, as) => kI2 as i d k (vL as i)
  | _ => none
@[simp] theorem kI1_some {as : AS} {i : Nat} {d : PD} {k : Int} : kI1 i d (some (.int k, as)) = kI2 as i d k (vL as i) := (rfl)
def kI0 (i : Nat) (d : PD) (o : Option (List PD)) (q : Option (PD × AS)) : Option AS := match o with
  | none => none
  | some _ => kI1 i d q
@[simp] theorem kI0_some {i : Nat} {d : PD} {xs : List PD} {q : Option (PD × AS)} : kI0 i d (some xs) q = kI1 i d q := (rfl)
@[simp] theorem gSet_ap {as : AS} {i : Nat} {m : M PD} {d : PD} : gSet i m d as = kI0 i d (vL as i) (m as) := by
  unfold gSet
  rw [slotL_eq]
  cases vL as i with
  | none => rfl
  | some _ =>
    cases m as with
    | none => rfl
    | some q =>
      obtain ⟨z, as1⟩ := q
      cases z with
      | int k =>
        simp only [slotL_eq, kI0_some, kI1_some]
        cases vL as1 i with
        | none => rfl
        | some xs =>
          simp only [kI2_some]
          cases ixN xs.length k with
          | none => rfl
          | some j => simp only [setL_eq]; rfl
      | _ => rfl
def sO : Slot → Option Obj
  | .own o => some o
  | .io o => some o
  | _ => none
def vO : AS → Nat → Option Obj
  | [], _ => none
  | s :: _, 0 => sO s
  | _ :: l, i + 1 => vO l i
def qS (o : Obj) : Slot → Slot
  | .io _ => .io o
  | _ => .own o
def qO : AS → Nat → Obj → AS
  | [], _, _ => []
  | s :: l, 0, o => qS o s :: l
  | s :: l, i + 1, o => s :: qO l i o
@[simp] theorem vO_zero {s : Slot} {l : AS} : vO (s :: l) 0 = sO s := (rfl)
@[simp] theorem vO_succ {s : Slot} {l : AS} {i : Nat} : vO (s :: l) (i + 1) = vO l i := (rfl)
@[simp] theorem qO_zero {s : Slot} {l : AS} {o : Obj} : qO (s :: l) 0 o = qS o s :: l := (rfl)
@[simp] theorem qO_succ {s : Slot} {l : AS} {i : Nat} {o : Obj} : qO (s :: l) (i + 1) o = s :: qO l i o := (rfl)
@[simp] theorem sO_own {o : Obj} : sO (.own o) = some o := (rfl)
@[simp] theorem sO_io {o : Obj} : sO (.io o) = some o := (rfl)
@[simp] theorem qS_own {o o' : Obj} : qS o (.own o') = .own o := (rfl)
@[simp] theorem qS_io {o o' : Obj} : qS o (.io o') = .io o := (rfl)
theorem slotO_eq : ∀ (as : AS) (i : Nat), slotO as i = vO as i
  | [], _ => rfl
  | s :: _, 0 => by cases s <;> rfl
  | _ :: l, i + 1 => by rw [vO_succ, ← slotO_eq l i]; rfl
theorem setO_eq : ∀ (as : AS) (i : Nat) (o : Obj), setO as i o = qO as i o
  | [], _, _ => rfl
  | s :: _, 0, _ => by cases s <;> rfl
  | s :: l, i + 1, o => by
    rw [qO_succ, ← setO_eq l i o]
    unfold setO
    rw [List.getElem?_cons_succ]
    cases l[i]? with
    | none => rfl
    | some t => cases t <;> rfl
def kQ3 (i : Nat) (as : AS) (q : Option (PD × Obj)) : Option (PD × AS) := match q with
  | none => none
  | some (d, o) => some (d, qO as i o)
@[simp] theorem kQ3_some {i : Nat} {as : AS} {d : PD} {o : Obj} : kQ3 i as (some (d, o)) = some (d, qO as i o) := (rfl)
def apO (F : Obj → List PD → Option (PD × Obj)) (o : Option Obj) (ds : List PD) : Option (PD × Obj) := match o with
  | none => none
  | some o => F o ds
@[simp] theorem apO_some {F : Obj → List PD → Option (PD × Obj)} {o : Obj} {ds : List PD} : apO F (some o) ds = F o ds := (rfl)
def kQ2 (i : Nat) (F : Obj → List PD → Option (PD × Obj)) (q : Option (List PD × AS)) : Option (PD × AS) := match q with
  | none => none
  | some (ds, as) => kQ3 i as (apO F (vO as i) ds)
@[simp] theorem kQ2_some {i : Nat} {F : Obj → List PD → Option (PD × Obj)} {as : AS} {ds : List PD} : kQ2 i F (some (ds, as)) = kQ3 i as (apO F (vO as i) ds) := (rfl)
def kQ1 (i : Nat) (F : Obj → List PD → Option (PD × Obj)) (o : Option Obj) (q : Option (List PD × AS)) : Option (PD × AS) := match o with
  | none => none
  | some _ => kQ2 i F q
@[simp] theorem kQ1_some {i : Nat} {F : Obj → List PD → Option (PD × Obj)} {o : Obj} {q : Option (List PD × AS)} : kQ1 i F (some o) q = kQ2 i F q := (rfl)
@[simp] theorem mCallI_ap {as : AS} {i : Nat} {F : Obj → List PD → Option (PD × Obj)} {ms : M (List PD)} : mCallI i F ms as = kQ1 i F (vO as i) (ms as) := by
  unfold mCallI
  rw [slotO_eq]
  cases vO as i with
  | none => rfl
  | some _ =>
    cases ms as with
    | none => rfl
    | some q =>
      obtain ⟨ds, as1⟩ := q
      simp only [slotO_eq, kQ1_some, kQ2_some]
      cases vO as1 i with
      | none => rfl
      | some xs =>
        simp only [apO_some]
        cases F xs ds with
        | none => rfl
        | some r => simp only [setO_eq]; rfl
/-- the own thing of a slot, taken out -/
def vT : AS → Nat → Option (Res × AS)
  | .own o :: l, 0 => some (.obj o, .un :: l)
  | s :: l, i + 1 => match vT l i with
    | none => none
    | some (r, l') => some (r, s :: l')
  | _, _ => none
def kTk (s : Slot) (q : Option (α × AS)) : Option (α × AS) := match q with
  | none => none
  | some (r, l) => some (r, s :: l)
@[simp] theorem kTk_some {α : Type} {s : Slot} {r : α} {l : AS} : kTk s (some (r, l)) = some (r, s :: l) := (rfl)
@[simp] theorem vT_zero {o : Obj} {l : AS} : vT (.own o :: l) 0 = some (.obj o, .un :: l) := (rfl)
@[simp] theorem vT_succ {s : Slot} {l : AS} {i : Nat} : vT (s :: l) (i + 1) = kTk s (vT l i) := by
  have : vT (s :: l) (i + 1) = match vT l i with | none => none | some (r, l') => some (r, s :: l') := by cases s <;> rfl
  rw [this]
  cases vT l i <;> rfl
theorem vT_eq : ∀ (as : AS) (i : Nat), vT as i = match as[i]? with
    | some (.own o) => some (.obj o, as.set i .un)
    | _ => none
  | [], _ => rfl
  | s :: l, 0 => by cases s <;> rfl
  | s :: l, i + 1 => by
    rw [vT_succ, vT_eq l i, List.getElem?_cons_succ]
    cases l[i]? with
    | none => rfl
    | some t => cases t <;> rfl
@[simp] theorem mMv_ap {as : AS} {i : Nat} : mMv i as = vT as i := by rw [vT_eq]; rfl
/-- .. kept as a lasting value -/
def vZ : AS → Nat → Option (PD × AS)
  | .dur d :: l, 0 => some (d, .dur d :: l)
  | .own (.ol xs) :: l, 0 => some (.list xs, .dur (.list xs) :: l)
  | s :: l, i + 1 => match vZ l i with
    | none => none
    | some (r, l') => some (r, s :: l')
  | _, _ => none
@[simp] theorem vZ_dur {d : PD} {l : AS} : vZ (.dur d :: l) 0 = some (d, .dur d :: l) := (rfl)
@[simp] theorem vZ_own {xs : List PD} {l : AS} : vZ (.own (.ol xs) :: l) 0 = some (.list xs, .dur (.list xs) :: l) := (rfl)
@[simp] theorem vZ_succ {s : Slot} {l : AS} {i : Nat} : vZ (s :: l) (i + 1) = kTk s (vZ l i) := by
  have : vZ (s :: l) (i + 1) = match vZ l i with | none => none | some (r, l') => some (r, s :: l') := by
    cases s with
    | own o => cases o <;> rfl
    | _ => rfl
  rw [this]
  cases vZ l i <;> rfl
theorem vZ_eq : ∀ (as : AS) (i : Nat), vZ as i = match as[i]? with
    | some (.dur d) => some (d, as)
    | some (.own (.ol xs)) => some (.list xs, as.set i (.dur (.list xs)))
    | _ => none
  | [], _ => rfl
  | s :: l, 0 => by
    cases s with
    | own o => cases o <;> rfl
    | _ => rfl
  | s :: l, i + 1 => by
    rw [vZ_succ, vZ_eq l i, List.getElem?_cons_succ]
    cases l[i]? with
    | none => rfl
    | some t =>
      cases t with
      | own o => cases o <;> rfl
      | _ => rfl
@[simp] theorem mZ_ap {as : AS} {i : Nat} : mZ i as = vZ as i := by rw [vZ_eq]; rfl
/-! ### values -/
@[simp] theorem fAdd_int {i j : Int} : fAdd (.int i) (.int j) = some (.val (.int (i + j))) := (rfl)
theorem fAdd_list {a b : List PD} (h : a.length + b.length ≤ 16777216) : fAdd (.list a) (.list b) = some (.obj (.ol (a ++ b))) := by
  have e : ∀ {α : Type} (x y : α), (if a.length + b.length ≤ sizeLine then x else y) = x := fun x y => if_pos (by rw [sizeLine_eq]; exact h)
  exact e _ _
theorem fAdd_tuple {a b : List PD} (h : a.length + b.length ≤ 16777216) : fAdd (.tuple a) (.tuple b) = some (.val (.tuple (a ++ b))) := by
  have e : ∀ {α : Type} (x y : α), (if a.length + b.length ≤ sizeLine then x else y) = x := fun x y => if_pos (by rw [sizeLine_eq]; exact h)
  exact e _ _
@[simp] theorem fInt_int {g : Int → Int → Option PD} {i j : Int} : fInt g (.int i) (.int j) = g i j := (rfl)
@[simp] theorem iSub_ap {i j : Int} : iSub i j = some (.int (i - j)) := (rfl)
theorem iMod_ap {i j : Int} (h : 0 < j) : iMod i j = some (.int (i % j)) := by unfold iMod; rw [if_pos h]
theorem iDiv_ap {i j : Int} (h : 0 < j) (h2 : j < 18446744073709551616) : iDiv i j = some (.int (i / j)) := by unfold iDiv; rw [if_pos ⟨h, by omega⟩]
theorem fMul_int {i j : Int} (h : mulOk i j = true) : fMulA (.int i) (.int j) = some (.val (.int (i * j))) := by
  show (iMul i j).map _ = _
  unfold iMul
  rw [if_pos h]; rfl
theorem mulOk_l {i j : Int} (h : i.natAbs < 18446744073709551616) : mulOk i j = true := by
  unfold mulOk
  rw [decide_eq_true h]; rfl
theorem mulOk_r {i j : Int} (h : j.natAbs < 18446744073709551616) : mulOk i j = true := by
  unfold mulOk
  rw [decide_eq_true h]; simp
@[simp] theorem cLt_ap {i j : Int} : cLt i j = some (.bool (decide (i < j))) := (rfl)
@[simp] theorem cLe_ap {i j : Int} : cLe i j = some (.bool (decide (i ≤ j))) := (rfl)
@[simp] theorem cGt_ap {i j : Int} : cGt i j = some (.bool (decide (j < i))) := (rfl)
@[simp] theorem cGe_ap {i j : Int} : cGe i j = some (.bool (decide (j ≤ i))) := (rfl)
@[simp] theorem fLtA_ap {i j : Int} : fLtA (.int i) (.int j) = some (.bool (decide (i < j))) := (rfl)
@[simp] theorem fLeA_ap {i j : Int} : fLeA (.int i) (.int j) = some (.bool (decide (i ≤ j))) := (rfl)
@[simp] theorem fGtA_ap {i j : Int} : fGtA (.int i) (.int j) = some (.bool (decide (j < i))) := (rfl)
@[simp] theorem fGeA_ap {i j : Int} : fGeA (.int i) (.int j) = some (.bool (decide (j ≤ i))) := (rfl)
@[simp] theorem fIsA_non {d : PD} : fIsA d .none = some (.bool (isN d)) := by cases d <;> rfl
@[simp] theorem fIsNotA_non {d : PD} : fIsNotA d .none = some (.bool (!isN d)) := by cases d <;> rfl
@[simp] theorem fIsA_bool {a b : Bool} : fIsA (.bool a) (.bool b) = some (.bool (decide (a = b))) := (rfl)
@[simp] theorem fIsNotA_bool {a b : Bool} : fIsNotA (.bool a) (.bool b) = some (.bool (!decide (a = b))) := (rfl)
@[simp] theorem fSumB_list {ds : List PD} : fSumB [.list ds] = fSum [.list ds] := (rfl)
@[simp] theorem asB_bool {b : Bool} : asB (.bool b) = some b := (rfl)
@[simp] theorem fEq_int {i j : Int} : fEq (.int i) (.int j) = some (.bool (decide (i = j))) := by
  show (if SeqAt.shaped (.int i) = true ∧ SeqAt.shaped (.int j) = true then some (PyData.bool (i == j)) else none) = _
  rw [if_pos ⟨rfl, rfl⟩]; simp [Bool.beq_eq_decide_eq]
@[simp] theorem fNe_int {i j : Int} : fNe (.int i) (.int j) = some (.bool (!decide (i = j))) := by
  show (if SeqAt.shaped (.int i) = true ∧ SeqAt.shaped (.int j) = true then some (PyData.bool (!(i == j))) else none) = _
  rw [if_pos ⟨rfl, rfl⟩]; simp [Bool.beq_eq_decide_eq]
@[simp] theorem fIs_non {d : PD} : fIs d .none = some (.bool (isN d)) := (rfl)
@[simp] theorem fIsNot_non {d : PD} : fIsNot d .none = some (.bool (!isN d)) := (rfl)
@[simp] theorem fLen_list {ds : List PD} : fLen [.list ds] = some (.int (ds.length : Int)) := (rfl)
@[simp] theorem fLen_tuple {ds : List PD} : fLen [.tuple ds] = some (.int (ds.length : Int)) := (rfl)
@[simp] theorem fInt1_int {i : Int} : fInt1 [.int i] = some (.int i) := (rfl)
@[simp] theorem fInt1_bool {b : Bool} : fInt1 [.bool b] = some (.int (if b then 1 else 0)) := (rfl)
@[simp] theorem fAbs_int {i : Int} : fAbs [.int i] = some (.int (if i < 0 then -i else i)) := (rfl)
@[simp] theorem fTuple_list {ds : List PD} : fTuple [.list ds] = some (.val (.tuple ds)) := (rfl)
@[simp] theorem fTuple_tuple {ds : List PD} : fTuple [.tuple ds] = some (.val (.tuple ds)) := (rfl)
@[simp] theorem fList_list {ds : List PD} : fList [.list ds] = some (.obj (.ol ds)) := (rfl)
@[simp] theorem fList_tuple {ds : List PD} : fList [.tuple ds] = some (.obj (.ol ds)) := (rfl)
@[simp] theorem fSeq_list {ds : List PD} : fSeq (.list ds) = some ds := (rfl)
@[simp] theorem fSeq_tuple {ds : List PD} : fSeq (.tuple ds) = some ds := (rfl)
@[simp] theorem fMax2_int {i j : Int} : fMax2 [.int i, .int j] = some (.int (max i j)) := by
  show some (PyData.int (if j > i then j else i)) = _
  congr 2
  split <;> omega
@[simp] theorem fMin2_int {i j : Int} : fMin2 [.int i, .int j] = some (.int (min i j)) := by
  show some (PyData.int (if j < i then j else i)) = _
  congr 2
  split <;> omega
theorem fAll_of {ds : List PD} {bs : List Bool} (h : ds = bs.map .bool) : fAll [.list ds] = some (.bool (bs.all id)) := by
  subst h
  show (asBools _).map _ = _
  rw [asBools_of]; rfl
theorem fAny_of {ds : List PD} {bs : List Bool} (h : ds = bs.map .bool) : fAny [.list ds] = some (.bool (bs.any id)) := by
  subst h
  show (asBools _).map _ = _
  rw [asBools_of]; rfl
theorem fSum_of {ds : List PD} {ns : List Int} (h : ds = ns.map .int) : fSum [.list ds] = some (.int ns.sum) := by
  subst h
  show (asInts _).map _ = _
  rw [asInts_of]; rfl
theorem fMaxI_of {ds : List PD} {ns : List Int} (h : ds = ns.map .int) (h0 : ns ≠ []) : fMaxI [.list ds] = some (.int (maxL ns)) := by
  subst h
  show (asInts _).bind _ = _
  rw [asInts_of]
  show (if ns = [] then none else _) = _
  rw [if_neg h0]
theorem fMinI_of {ds : List PD} {ns : List Int} (h : ds = ns.map .int) (h0 : ns ≠ []) : fMinI [.list ds] = some (.int (minL ns)) := by
  subst h
  show (asInts _).bind _ = _
  rw [asInts_of]
  show (if ns = [] then none else _) = _
  rw [if_neg h0]
theorem fSortI_of {ds : List PD} {ns : List Int} (h : ds = ns.map .int) : fSortI [.list ds] = some (.obj (.ol ((isort ns).map .int))) := by
  subst h
  show (asInts _).map _ = _
  rw [asInts_of]; rfl
theorem fSSet_list {ns : List Int} (h : ns.length + 1 < 4096) : fSSet (.list (ns.map .int)) = some (.obj (.ol ((usort ns).map .int))) := by
  show (asInts _).bind _ = _
  rw [asInts_of]
  exact if_pos h
theorem fSSet_tuple {ns : List Int} (h : ns.length + 1 < 4096) : fSSet (.tuple (ns.map .int)) = some (.obj (.ol ((usort ns).map .int))) := by
  show (asInts _).bind _ = _
  rw [asInts_of]
  exact if_pos h
theorem fLSet_list {ns : List Int} (h : ns.length + 1 < 4096) : fLSet (.list (ns.map .int)) = some (.int ((usort ns).length : Int)) := by
  show (asInts _).bind _ = _
  rw [asInts_of]
  exact if_pos h
theorem fLSet_tuple {ns : List Int} (h : ns.length + 1 < 4096) : fLSet (.tuple (ns.map .int)) = some (.int ((usort ns).length : Int)) := by
  show (asInts _).bind _ = _
  rw [asInts_of]
  exact if_pos h
theorem fR1_of {n : Nat} (h : n ≤ 4611686018427387903) : fR1 [.int (n : Int)] = some (rng 0 n) := by
  have e : fR1 [.int (n : Int)] = if -(2 ^ 62) ≤ (n : Int) ∧ (n : Int) < 2 ^ 62 then some (rng 0 (n : Int).toNat) else none := rfl
  rw [e, if_pos (by omega), Int.toNat_natCast]
theorem rng_zero (n : Nat) : rng 0 n = (List.range n).map fun (i : Nat) => PyData.int (i : Int) := by
  unfold rng
  congr
  funext i
  congr 1
  omega
theorem rng_nat (a n : Nat) : rng (a : Int) n = (List.range' a n).map fun (i : Nat) => PyData.int (i : Int) := by
  unfold rng
  rw [List.range'_eq_map_range, List.map_map]
  refine List.map_congr_left fun i _ => ?_
  show PyData.int ((a : Int) + (i : Int)) = PyData.int ((a + i : Nat) : Int)
  rw [Int.natCast_add]
theorem fR2_of {a b : Nat} (h : a ≤ 4611686018427387903) (h2 : b ≤ 4611686018427387903) : fR2 [.int (a : Int), .int (b : Int)] = some ((List.range' a (b - a)).map fun (i : Nat) => PyData.int (i : Int)) := by
  rw [← rng_nat, show b - a = ((b : Int) - (a : Int)).toNat by omega]
  unfold fR2
  exact if_pos (by omega)
theorem ixN_nat {n i : Nat} (h : i < n) : ixN n (i : Int) = some i := by
  unfold ixN
  rw [if_pos (by omega), if_pos (by omega), Int.toNat_natCast]
theorem atI_nat' {α : Type} {xs : List α} {i : Nat} (h : i < xs.length) : atI xs (i : Int) = some xs[i] := by
  unfold atI
  rw [ixN_nat h]
  exact List.getElem?_eq_getElem h
theorem fIx_list {ds : List PD} {i : Nat} (h : i < ds.length) : fIx (.list ds) (.int (i : Int)) = some (.val ds[i]) := by
  show (atI ds _).map _ = _
  rw [atI_nat' h]; rfl
theorem fIx_tuple {ds : List PD} {i : Nat} (h : i < ds.length) : fIx (.tuple ds) (.int (i : Int)) = some (.val ds[i]) := by
  show (atI ds _).map _ = _
  rw [atI_nat' h]; rfl

/-! ### a def's run -/
theorem runP_rt {n k : Nat} {m : MS} {ds : List PD} {r : Res} {as' : AS} (hl : ds.length = k) (h : m (startA n ds) = some (.rt r, as')) : runP n k m ds = some r := by
  unfold runP
  rw [if_pos hl, h]
theorem runI_rt {n k j : Nat} {m : MS} {o o' : Obj} {ds : List PD} {d : PD} {as' : AS} (hl : ds.length + 1 = k) (hj : j ≤ ds.length) (h : m (startI n j o ds) = some (.rt (.val d), as')) (ho : as'[j]? = some (.io o')) : runI n k j m o ds = some (d, o') := by
  unfold runI
  rw [if_pos ⟨hl, hj⟩, h]
  simp only [ho]
/-! ### comprehensions whose body changes nothing -/
theorem lcL_eq {ι : Type} {vs : List Nat} {g : PD → AS → Option AS} {c : M Bool} {el : M PD} {as : AS} (enc : ι → PD) (asx : ι → AS) (b : ι → Bool) (f : ι → PD) : ∀ (items : List ι)
    (_ : ∀ x ∈ items, g (enc x) as = some (asx x)) (_ : ∀ x ∈ items, c (asx x) = some (b x, asx x)) (_ : ∀ x ∈ items, b x = true → el (asx x) = some (f x, asx x)) (_ : ∀ x ∈ items, clr vs (asx x) = as),
    lcL vs g c el (items.map enc) as = some ((items.filter b).map f, as)
  | [], _, _, _, _ => rfl
  | x :: items, hg, hc, he, hk => by
    have ih := lcL_eq (vs := vs) (g := g) (c := c) (el := el) (as := as) enc asx b f items (fun y hy => hg y (List.mem_cons_of_mem _ hy)) (fun y hy => hc y (List.mem_cons_of_mem _ hy)) (fun y hy => he y (List.mem_cons_of_mem _ hy)) (fun y hy => hk y (List.mem_cons_of_mem _ hy))
    have g1 := hg x List.mem_cons_self
    have c1 := hc x List.mem_cons_self
    have k1 := hk x List.mem_cons_self
    rw [List.map_cons]
    unfold lcL
    simp only [g1, c1]
    cases hb : b x with
    | false =>
      simp only [k1, ih]
      rw [List.filter_cons_of_neg (by simp [hb])]
    | true =>
      simp only [he x List.mem_cons_self hb, k1, ih]
      rw [List.filter_cons_of_pos hb, List.map_cons]
theorem mLc_eq {ι : Type} {vs : List Nat} {mi : M (List PD)} {g : PD → AS → Option AS} {c : M Bool} {el : M PD} {as : AS} (items : List ι) (enc : ι → PD) (asx : ι → AS) (b : ι → Bool) (f : ι → PD)
    (hmi : mi as = some (items.map enc, as)) (hg : ∀ x ∈ items, g (enc x) (clr vs as) = some (asx x)) (hc : ∀ x ∈ items, c (asx x) = some (b x, asx x)) (he : ∀ x ∈ items, b x = true → el (asx x) = some (f x, asx x))
    (hf : free vs as = true) (hl : items.length ≤ 16777216) (hk : ∀ x ∈ items, clr vs (asx x) = clr vs as) : mLc vs mi g c el as = some (.obj (.ol ((items.filter b).map f)), as) := by
  unfold mLc
  simp only [hmi, lcL_eq enc asx b f items hg hc he hk]
  have hz : ((items.filter b).map f).length ≤ sizeLine := by
    rw [List.length_map, sizeLine_eq]
    exact Nat.le_trans (List.length_filter_le _ _) hl
  rw [if_pos ⟨hf, hz⟩, back_clr]
/-- .. without a test -/
theorem mLc_map {ι : Type} {vs : List Nat} {mi : M (List PD)} {g : PD → AS → Option AS} {el : M PD} {as : AS} (items : List ι) (enc : ι → PD) (asx : ι → AS) (f : ι → PD)
    (hmi : mi as = some (items.map enc, as)) (hg : ∀ x ∈ items, g (enc x) (clr vs as) = some (asx x)) (he : ∀ x ∈ items, el (asx x) = some (f x, asx x))
    (hf : free vs as = true) (hl : items.length ≤ 16777216) (hk : ∀ x ∈ items, clr vs (asx x) = clr vs as) : mLc vs mi g (mPure true) el as = some (.obj (.ol (items.map f)), as) := by
  have := mLc_eq (vs := vs) (mi := mi) (g := g) (c := mPure true) (el := el) (as := as) items enc asx (fun _ => true) f hmi hg (fun _ _ => rfl) (fun x hx _ => he x hx) hf hl hk
  rw [this, List.filter_eq_self.mpr (fun _ _ => rfl)]

/-! ### loops -/
/-- a loop whose turns all go on: the state by a fold -/
theorem forL_fold {ι σ : Type} {g : PD → AS → Option AS} {b : MS} (enc : ι → PD) (mk : σ → AS) (step : σ → ι → σ) (Inv : σ → Prop) : ∀ (items : List ι) (s : σ), Inv s →
    (∀ s x, x ∈ items → Inv s → Inv (step s x) ∧ ∃ as1, g (enc x) (mk s) = some as1 ∧ b as1 = some (.nx, mk (step s x))) → forL g b (items.map enc) (mk s) = some (.nx, mk (items.foldl step s)) ∧ Inv (items.foldl step s)
  | [], s, h, _ => ⟨rfl, h⟩
  | x :: items, s, h, k => by
    obtain ⟨i1, as1, h1, h2⟩ := k s x List.mem_cons_self h
    obtain ⟨q1, q2⟩ := forL_fold enc mk step Inv items (step s x) i1 fun s y hy => k s y (List.mem_cons_of_mem _ hy)
    refine ⟨?_, q2⟩
    rw [List.map_cons]
    unfold forL
    simp only [h1, h2]
    exact q1
/-- a loop whose turns all go on, by an invariant over the items gone -/
theorem forL_inv {g : PD → AS → Option AS} {b : MS} (Inv : List PD → AS → Prop) : ∀ (items pre : List PD) (as : AS), Inv pre as →
    (∀ pre x as, Inv pre as → x ∈ items → ∃ as1 as2, g x as = some as1 ∧ b as1 = some (.nx, as2) ∧ Inv (pre ++ [x]) as2) → ∃ as', forL g b items as = some (.nx, as') ∧ Inv (pre ++ items) as'
  | [], pre, as, h, _ => ⟨as, rfl, by rw [List.append_nil]; exact h⟩
  | x :: items, pre, as, h, k => by
    obtain ⟨as1, as2, h1, h2, h3⟩ := k pre x as h List.mem_cons_self
    obtain ⟨as', q1, q2⟩ := forL_inv Inv items (pre ++ [x]) as2 h3 fun pre y as hi hy => k pre y as hi (List.mem_cons_of_mem _ hy)
    refine ⟨as', ?_, by rw [List.append_assoc] at q2; exact q2⟩
    unfold forL
    simp only [h1, h2]
    exact q1
/-- .. by the turn's number -/
theorem forL_ix {g : PD → AS → Option AS} {b : MS} (Inv : Nat → AS → Prop) (items : List PD) (step : ∀ i x as, items[i]? = some x → Inv i as → ∃ as1 as2, g x as = some as1 ∧ b as1 = some (.nx, as2) ∧ Inv (i + 1) as2) {as : AS} (h : Inv 0 as) :
    ∃ as', forL g b items as = some (.nx, as') ∧ Inv items.length as' := by
  have key : ∀ (l : List PD) (i : Nat) (as : AS), items.drop i = l → Inv i as → ∃ as', forL g b l as = some (.nx, as') ∧ Inv (i + l.length) as' := fun l => by
    induction l with
    | nil => intro i as _ h; exact ⟨as, rfl, h⟩
    | cons x l ih =>
      intro i as hd h
      have hx : items[i]? = some x := by
        have := congrArg (fun z => z[0]?) hd
        simpa using this
      obtain ⟨as1, as2, h1, h2, h3⟩ := step i x as hx h
      have hd2 : items.drop (i + 1) = l := by rw [← List.drop_drop, hd]; rfl
      obtain ⟨as', q1, q2⟩ := ih (i + 1) as2 hd2 h3
      refine ⟨as', ?_, by rw [List.length_cons, ← Nat.add_assoc, Nat.add_right_comm]; exact q2⟩
      unfold forL
      simp only [h1, h2]
      exact q1
  obtain ⟨as', q1, q2⟩ := key items 0 as rfl h
  exact ⟨as', q1, by rw [Nat.zero_add] at q2; exact q2⟩
/-- a loop that may return -/
theorem forL_find {ι : Type} {g : PD → AS → Option AS} {b : MS} (enc : ι → PD) (as : AS) (hit : ι → Option Res) (asx : ι → AS) : ∀ (items : List ι) (as0 : AS), (as0 = as ∨ ∃ y, as0 = asx y) →
    (∀ x as0, x ∈ items → (as0 = as ∨ ∃ y, as0 = asx y) → ∃ as1, g (enc x) as0 = some as1 ∧ b as1 = match hit x with | none => some (.nx, asx x) | some r => some (.rt r, asx x)) →
    ∃ as', forL g b (items.map enc) as0 = (match items.findSome? hit with | none => some (.nx, as') | some r => some (.rt r, as')) ∧ (as' = as ∨ ∃ y, as' = asx y)
  | [], as0, h, _ => ⟨as0, rfl, h⟩
  | x :: items, as0, h, k => by
    obtain ⟨as1, h1, h2⟩ := k x as0 List.mem_cons_self h
    rw [List.map_cons, List.findSome?_cons]
    unfold forL
    simp only [h1, h2]
    cases e : hit x with
    | none =>
      simp only
      obtain ⟨as', q⟩ := forL_find enc as hit asx items (asx x) (.inr ⟨x, rfl⟩) fun y as0 hy => k y as0 (List.mem_cons_of_mem _ hy)
      exact ⟨as', q⟩
    | some r => exact ⟨asx x, rfl, .inr ⟨x, rfl⟩⟩
end Vl

-- T2
set_option Elab.async false
set_option linter.all false
set_option maxRecDepth 100000
set_option maxHeartbeats 4000000
/-! what stands in each law: the draws, the next draw, the comparison -/
namespace Vl
open PySem L2

theorem fIx_ints {ns : List Int} {i : Nat} (h : i < ns.length) : fIx (.list (ns.map .int)) (.int (i : Int)) = some (.val (.int ns[i])) := by
  rw [fIx_list (by simpa using h)]; simp
theorem fAppend_ap {xs : List PD} {d : PD} (h : xs.length < 16777216) : fAppend xs [d] = some (.none, xs ++ [d]) := by
  unfold fAppend
  exact if_pos (by rw [sizeLine_eq]; exact h)

/-- one turn of the draws' loop -/
def drawBody : MS := (sThen (sSet 6 (mF (m2 (fInt iMod) (mI 5) (mS fLen (mCons (mI 2) (mPure []))))))
  (sIf (mAnd (m2b fGeA (mV (m2 fIx (mI 2) (mI 6))) (m2 (fInt iPow) (mPure (.int 10)) (mPure (.int 18)))) (m2b fGtA (mV (m2 fIx (mI 3) (mI 6))) (mPure (.int 0)))) (sThen (sDrop (mMth 4 fAppend (mCons (m2 (fInt iMod) (mS fInt1 (mCons (mV (m2 fIx (mI 3) (mI 6))) (mPure []))) (mPure (.int 1000))) (mPure []))))
  (sAsg (gSet 3 (mI 6)) (m2 (fInt iDiv) (mV (m2 fIx (mI 3) (mI 6))) (mPure (.int 1000))))) (sThen (sSet 7 (mF (m2 (fInt iMod) (mS fInt1 (mCons (mV (m2 fAdd (mV (m2 fAdd (mV (m2 fMulA (mV (m2 fIx (mI 2) (mI 6))) (mPure (.int 48271)))) (mV (m2 fMulA (mI 5) (mPure (.int 69621)))))) (mPure (.int 11)))) (mPure []))) (mPure (.int 2147483647)))))
  (sDrop (mMth 4 fAppend (mCons (m2 (fInt iMod) (mS fInt1 (mCons (mV (m2 fAdd (mV (m2 fAdd (mV (m2 fMulA (mI 7) (mI 7))) (mV (m2 fMulA (mPure (.int 3)) (mI 7))))) (mI 5))) (mPure []))) (mPure (.int 1000003))) (mPure [])))))))
def drawSt (S m : PD) (cells rest drawn : List Int) (a b c : Slot) (e : Slot) : AS := [.dur S, .dur m, .own (.ol (cells.map .int)), .own (.ol (rest.map .int)), .own (.ol (drawn.map .int)), a, b, c, e]
theorem iPow_18 : iPow 10 18 = some (.int 1000000000000000000) := by
  unfold iPow
  rw [if_pos (by decide)]
  rfl
theorem drawTurn {S m : PD} {cells rest drawn : List Int} {b c e : Slot} {k : Nat} (h0 : 0 < cells.length) (hr : rest.length = cells.length) (hb : isF b = true) (hc : isF c = true) (hk : k < 100000) (hd : drawn.length < 100000) :
    ∃ rest' d b' c', drawBody (drawSt S m cells rest drawn (.dur (.int (k : Int))) b c e) = some (.nx, drawSt S m cells rest' (drawn ++ [d]) (.dur (.int (k : Int))) b' c' e) ∧ rest'.length = cells.length ∧ 0 ≤ d ∧ isF b' = true ∧ isF c' = true := by
  obtain ⟨j, e1, hi⟩ : ∃ j : Nat, ((k : Int) % (cells.length : Int)) = (j : Int) ∧ j < cells.length := ⟨k % cells.length, by simp, Nat.mod_lt _ h0⟩
  have hi2 : j < rest.length := by omega
  have hlen : (drawn.map PyData.int).length < 16777216 := by rw [List.length_map]; omega
  unfold drawBody drawSt
  by_cases hbig : 1000000000000000000 ≤ cells[j] ∧ 0 < rest[j]
  · refine ⟨rest.set (j) (rest[j] / 1000), rest[j] % 1000, .dur (.int (j : Int)), c, ?_, by rw [List.length_set, hr], by omega, rfl, hc⟩
    simp [hb, iMod_ap (show (0 : Int) < cells.length by omega), e1, fIx_ints hi, fIx_ints hi2, iPow_18, hbig.1, hbig.2, iMod_ap (show (0 : Int) < 1000 by decide), fAppend_ap hlen, iDiv_ap (show (0 : Int) < 1000 by decide) (by decide), ixN_nat hi2, List.map_set]
  · refine ⟨rest, ((cells[j] * 48271 + k * 69621 + 11) % 2147483647 * ((cells[j] * 48271 + k * 69621 + 11) % 2147483647) + 3 * ((cells[j] * 48271 + k * 69621 + 11) % 2147483647) + k) % 1000003, .dur (.int (j : Int)), .dur (.int ((cells[j] * 48271 + k * 69621 + 11) % 2147483647)), ?_, hr, by omega, rfl, rfl⟩
    have m1 : ∀ x : Int, fMulA (.int x) (.int 48271) = some (.val (.int (x * 48271))) := fun x => fMul_int (mulOk_r (by decide))
    have m2' : ∀ x : Int, fMulA (.int x) (.int 69621) = some (.val (.int (x * 69621))) := fun x => fMul_int (mulOk_r (by decide))
    have m3 : ∀ x : Int, fMulA (.int 3) (.int x) = some (.val (.int (3 * x))) := fun x => fMul_int (mulOk_l (by decide))
    have m4 : ∀ x : Int, fMulA (.int (x % 2147483647)) (.int (x % 2147483647)) = some (.val (.int (x % 2147483647 * (x % 2147483647)))) := fun x => fMul_int (mulOk_l (by omega))
    rcases (by omega : cells[j] < 1000000000000000000 ∨ 1000000000000000000 ≤ cells[j]) with hs | hs
    · simp [hb, hc, iMod_ap (show (0 : Int) < cells.length by omega), e1, fIx_ints hi, fIx_ints hi2, iPow_18, Int.not_le.mpr hs, iMod_ap (show (0 : Int) < 2147483647 by decide), iMod_ap (show (0 : Int) < 1000003 by decide), fAppend_ap hlen, m1, m2', m3, m4]
    · have hs2 : ¬ 0 < rest[j] := fun q => hbig ⟨hs, q⟩
      simp [hb, hc, iMod_ap (show (0 : Int) < cells.length by omega), e1, fIx_ints hi, fIx_ints hi2, iPow_18, hs, hs2, iMod_ap (show (0 : Int) < 2147483647 by decide), iMod_ap (show (0 : Int) < 1000003 by decide), fAppend_ap hlen, m1, m2', m3, m4]

/-- the draws: as many nonnegative ints as asked for -/
def drawTail : MS := (sThen (sSet 3 (mN fList (mCons (mI 2) (mPure []))))
  (sThen (sSet 4 (mN fLst (mPure [])))
  (sThen (sFor (mR fR1 (mCons (mI 1) (mPure []))) (gN 5) drawBody)
  (sThen (sDrop (mMth 4 fRev (mPure [])))
  (sRet (mMv 4))))))
def drawHeadA : M Res := mLc [8] (m1 fSeq (mI 0)) (gN 8) (mPure true) (mS fInt1 (mCons (mI 8) (mPure [])))
def gDrawsA : MS := sThen (sSet 2 drawHeadA) (sThen (sIf (m2b fEq (mS fLen (mCons (mI 2) (mPure []))) (mPure (.int 0))) (sDrop (mMth 2 fAppend (mCons (mPure (.int 0)) (mPure [])))) sNx) drawTail)
theorem fLst_ap {xs : List PD} (h : xs.length ≤ 1000) : fLst xs = some (.obj (.ol xs)) := if_pos h
theorem fTup_ap {xs : List PD} (h : xs.length ≤ 1000) : fTup xs = some (.val (.tuple xs)) := if_pos h
theorem fRev_ap {xs : List PD} : fRev xs [] = some (.none, xs.reverse) := rfl
def drawInv (S : PD) (cells : List Int) (m i : Nat) (as : AS) : Prop := ∃ rest drawn a b c, as = drawSt S (.int (m : Int)) cells rest drawn a b c .un ∧ rest.length = cells.length ∧ drawn.length = i ∧ (∀ d ∈ drawn, 0 ≤ d) ∧ isF a = true ∧ isF b = true ∧ isF c = true
theorem rng_at {m i : Nat} {x : PD} (hx : (rng 0 m)[i]? = some x) : i < m ∧ x = .int (i : Int) := by
  rw [rng_zero, List.getElem?_map] at hx
  have hi : i < m := by
    cases e : (List.range m)[i]? with
    | none => rw [e] at hx; cases hx
    | some j => simpa using (List.getElem?_eq_some_iff.mp e).1
  rw [List.getElem?_range hi] at hx
  cases hx
  exact ⟨hi, rfl⟩
theorem rng_len {a : Int} {m : Nat} : (rng a m).length = m := by simp [rng]
theorem drawStep {S : PD} {cells : List Int} {m : Nat} (hm : m ≤ 100000) (h0 : 0 < cells.length) (i : Nat) (x : PD) (as : AS) (hx : (rng 0 m)[i]? = some x) (h : drawInv S cells m i as) :
    ∃ as1 as2, gN 5 x as = some as1 ∧ drawBody as1 = some (.nx, as2) ∧ drawInv S cells m (i + 1) as2 := by
  obtain ⟨rest, drawn, a, b, c, rfl, h1, h2, h3, ha, hb, hc⟩ := h
  obtain ⟨hi, rfl⟩ := rng_at hx
  obtain ⟨rest', d, b', c', q1, q2, q3, q4, q5⟩ := drawTurn (S := S) (m := .int (m : Int)) (drawn := drawn) (e := .un) h0 h1 hb hc (show i < 100000 by omega) (by omega)
  refine ⟨_, _, by simp [drawSt, ha], q1, rest', drawn ++ [d], _, b', c', rfl, q2, by simp [h2], ?_, isF_dur, q4, q5⟩
  intro z hz
  rcases List.mem_append.mp hz with hz | hz
  · exact h3 z hz
  · cases List.mem_singleton.mp hz; exact q3
theorem drawLoop {S : PD} {cells : List Int} {m : Nat} (hm : m ≤ 100000) (h0 : 0 < cells.length) : ∃ as', forL (gN 5) drawBody (rng 0 m) (drawSt S (.int (m : Int)) cells cells [] .un .un .un .un) = some (.nx, as') ∧ drawInv S cells m m as' := by
  have h := forL_ix (drawInv S cells m) (rng 0 m) (drawStep hm h0) (as := drawSt S (.int (m : Int)) cells cells [] .un .un .un .un) ⟨cells, [], .un, .un, .un, rfl, rfl, rfl, fun d hd => absurd hd List.not_mem_nil, isF_un, isF_un, isF_un⟩
  rw [rng_len] at h
  exact h
theorem drawTail_ok {S : PD} {cells : List Int} {m : Nat} (hm : m ≤ 100000) (h0 : 0 < cells.length) : ∃ (ds : List Int) (as' : AS), drawTail [.dur S, .dur (.int (m : Int)), .own (.ol (cells.map .int)), .un, .un, .un, .un, .un, .un] = some (.rt (.obj (.ol (ds.map .int))), as') ∧ ds.length = m ∧ ∀ d ∈ ds, 0 ≤ d := by
  obtain ⟨as', h1, rest, drawn, a, b, c, rfl, hl, hn, hd, _⟩ := drawLoop (S := S) hm h0
  refine ⟨drawn.reverse, [.dur S, .dur (.int (m : Int)), .own (.ol (cells.map .int)), .own (.ol (rest.map .int)), .un, a, b, c, .un], ?_, by rw [List.length_reverse, hn], fun d hz => hd d (List.mem_reverse.mp hz)⟩
  unfold drawSt at h1
  simp only [List.map_nil] at h1
  have h2 : fR1 [.int (m : Int)] = some (rng 0 m) := fR1_of (by omega)
  have h3 : fLst [] = some (.obj (.ol [])) := fLst_ap (Nat.zero_le _)
  unfold drawTail
  simp [h3, h2, h1, fRev_ap]
theorem drawHeadA_ok {ns : List Int} {m : PD} (hn : ns.length ≤ 63) : drawHeadA [.dur (.list (ns.map .int)), .dur m, .un, .un, .un, .un, .un, .un, .un] = some (.obj (.ol (ns.map .int)), [.dur (.list (ns.map .int)), .dur m, .un, .un, .un, .un, .un, .un, .un]) := by
  unfold drawHeadA
  exact mLc_map ns .int (fun x => [.dur (.list (ns.map .int)), .dur m, .un, .un, .un, .un, .un, .un, .dur (.int x)]) .int (by simp) (by simp [clr]) (by simp) rfl (by omega) (by simp [clr])
theorem draws_A {ns : List Int} {m : Nat} (hn : ns.length ≤ 63) (hm : m ≤ 100000) : ∃ ds : List Int, runP 9 2 gDrawsA [.list (ns.map .int), .int (m : Int)] = some (.obj (.ol (ds.map .int))) ∧ ds.length = m ∧ ∀ d ∈ ds, 0 ≤ d := by
  have e : startA 9 [PyData.list (ns.map .int), .int (m : Int)] = [.dur (.list (ns.map .int)), .dur (.int (m : Int)), .un, .un, .un, .un, .un, .un, .un] := rfl
  by_cases h : ns = []
  · subst h
    obtain ⟨ds, as', q, h1, h2⟩ := drawTail_ok (S := .list ([].map .int)) (cells := [0]) hm (by decide)
    refine ⟨ds, runP_rt (as' := as') rfl ?_, h1, h2⟩
    rw [e]
    unfold gDrawsA
    have ea : fAppend [] [.int 0] = some (.none, [.int 0]) := fAppend_ap (by decide)
    have eh := drawHeadA_ok (ns := []) (m := .int (m : Int)) (Nat.zero_le _)
    simp only [List.map_nil, List.map_cons] at q eh
    simp [eh, ea, q]
  · have h0 : 0 < ns.length := List.length_pos_iff.mpr h
    obtain ⟨ds, as', q, h1, h2⟩ := drawTail_ok (S := .list (ns.map .int)) (cells := ns) hm h0
    refine ⟨ds, runP_rt (as' := as') rfl ?_, h1, h2⟩
    rw [e]
    unfold gDrawsA
    simp [drawHeadA_ok (ns := ns) (m := .int (m : Int)) hn, q, h]
/-- the next draw -/
def gTake : MS := (sThen (sIf (m2b fEq (mS fLen (mCons (mI 0) (mPure []))) (mPure (.int 0))) (sRet (mF (mPure (.int 0)))) sNx)
  (sRet (mF (m2 (fInt iMod) (mS fInt1 (mCons (mMth 0 fPop (mPure [])) (mPure []))) (mI 1)))))
theorem take_ok (ds : List Int) {n : Int} (hn : 0 < n) : ∃ (t : Int) (ds' : List Int), runI 2 2 0 gTake (.ol (ds.map .int)) [.int n] = some (.int t, .ol (ds'.map .int)) ∧ 0 ≤ t ∧ t < n := by
  by_cases h : ds = []
  · subst h
    refine ⟨0, [], ?_, by omega, hn⟩
    refine runI_rt (o' := .ol []) (as' := [.io (.ol []), .dur (.int n)]) rfl (Nat.zero_le _) ?_ rfl
    rw [show startI 2 0 (.ol (([] : List Int).map .int)) [PyData.int n] = [.io (.ol []), .dur (.int n)] from rfl]
    simp [gTake]
  · have h0 : 0 < ds.length := List.length_pos_iff.mpr h
    refine ⟨ds[ds.length - 1] % n, ds.dropLast, ?_, Int.emod_nonneg _ (by omega), Int.emod_lt_of_pos _ hn⟩
    refine runI_rt (o' := .ol (ds.dropLast.map .int)) (as' := [.io (.ol (ds.dropLast.map .int)), .dur (.int n)]) rfl (Nat.zero_le _) ?_ rfl
    rw [show startI 2 0 (.ol (ds.map .int)) [PyData.int n] = [.io (.ol (ds.map .int)), .dur (.int n)] from rfl]
    have ep : fPop (ds.map PyData.int) [] = some (.int ds[ds.length - 1], (ds.dropLast).map .int) := by
      show ((ds.map PyData.int)[(ds.map PyData.int).length - 1]?).map (fun d => (d, (ds.map PyData.int).dropLast)) = _
      rw [List.length_map, List.getElem?_map, List.getElem?_eq_getElem (by omega)]
      simp [List.map_dropLast]
    simp [gTake, h, ep, iMod_ap hn]
/-- what is compared in laws: no list, not deep -/
def gd : Nat → PD → Bool
  | 0, _ => false
  | _ + 1, .none => true
  | _ + 1, .bool _ => true
  | _ + 1, .int _ => true
  | _ + 1, .str x => PyData.strOk x
  | n + 1, .tuple ds => decide (ds.length ≤ 1000000) && ds.all (gd n)
  | _ + 1, _ => false
def sameRest (R : List PD → Option Res) : MS := (sThen (sIf (mOr (mNot (m1 asB (mIsi "tuple" (mI 0)))) (m2b fNe (mS fLen (mCons (mI 0) (mPure []))) (mS fLen (mCons (mI 1) (mPure []))))) (sRet (mF (mPure (.bool false)))) sNx)
  (sThen (sFor (mR fR1 (mCons (mS fLen (mCons (mI 1) (mPure []))) (mPure []))) (gN 2) (sIf (mNot (m1 asB (mV (mN R (mCons (mV (m2 fIx (mI 0) (mI 2))) (mCons (mV (m2 fIx (mI 1) (mI 2))) (mPure []))))))) (sRet (mF (mPure (.bool false)))) sNx))
  (sRet (mF (mPure (.bool true))))))
def bSameN (R : List PD → Option Res) : MS := (sThen (sIf (m2b fIsA (mI 1) (mPure .none)) (sRet (mF (m2 fIsA (mI 0) (mPure .none)))) sNx)
  (sThen (sIf (m1 asB (mIsi "bool" (mI 1))) (sRet (mF (mAndV (mIsi "bool" (mI 0)) (m2 fEq (mI 0) (mI 1))))) sNx)
  (sThen (sIf (m1 asB (mIsi "int" (mI 1))) (sRet (mF (mAndV (mIsi "int" (mI 0)) (mAndV (mBind (m1 asB (mIsi "bool" (mI 0))) fun c => mPure (.bool !c)) (m2 fEq (mI 0) (mI 1)))))) sNx)
  (sThen (sIf (m1 asB (mIsi "str" (mI 1))) (sRet (mF (mAndV (mIsi "str" (mI 0)) (m2 fEq (mI 0) (mI 1))))) sNx)
  (sameRest R)))))
def bSameB (R : List PD → Option Res) : MS := (sThen (sIf (m1 asB (mIsi "bool" (mI 1))) (sRet (mF (mAndV (mIsi "bool" (mI 0)) (m2 fEq (mI 0) (mI 1))))) sNx)
  (sThen (sIf (m1 asB (mIsi "int" (mI 1))) (sRet (mF (mAndV (mIsi "int" (mI 0)) (mAndV (mBind (m1 asB (mIsi "bool" (mI 0))) fun c => mPure (.bool !c)) (m2 fEq (mI 0) (mI 1)))))) sNx)
  (sThen (sIf (m1 asB (mIsi "str" (mI 1))) (sRet (mF (mAndV (mIsi "str" (mI 0)) (m2 fEq (mI 0) (mI 1))))) sNx)
  (sThen (sIf (m2b fIsA (mI 1) (mPure .none)) (sRet (mF (m2 fIsA (mI 0) (mPure .none)))) sNx)
  (sameRest R)))))
def sameN : Nat → List PD → Option Res
  | 0 => fun _ => none
  | k + 1 => runP 3 2 (bSameN (sameN k))
def sameB : Nat → List PD → Option Res
  | 0 => fun _ => none
  | k + 1 => runP 3 2 (bSameB (sameB k))
theorem isN_none : isN .none = true := (rfl)
theorem isN_bool {b : Bool} : isN (.bool b) = false := (rfl)
theorem isN_int {b : Int} : isN (.int b) = false := (rfl)
theorem isN_str {b : Str} : isN (.str b) = false := (rfl)
theorem isN_tuple {b : List PD} : isN (.tuple b) = false := (rfl)
theorem isT_bb {b : Bool} : isT "bool" (.bool b) = true := (rfl)
theorem isT_bi {b : Int} : isT "bool" (.int b) = false := (rfl)
theorem isT_bs {b : Str} : isT "bool" (.str b) = false := (rfl)
theorem isT_bt {b : List PD} : isT "bool" (.tuple b) = false := (rfl)
theorem isT_bn : isT "bool" .none = false := (rfl)
theorem isT_ii {b : Int} : isT "int" (.int b) = true := (rfl)
theorem isT_is {b : Str} : isT "int" (.str b) = false := (rfl)
theorem isT_it {b : List PD} : isT "int" (.tuple b) = false := (rfl)
theorem isT_in : isT "int" .none = false := (rfl)
theorem isT_ss {b : Str} : isT "str" (.str b) = true := (rfl)
theorem isT_st {b : List PD} : isT "str" (.tuple b) = false := (rfl)
theorem isT_sn : isT "str" .none = false := (rfl)
theorem isT_tt {b : List PD} : isT "tuple" (.tuple b) = true := (rfl)
theorem fEq_self {d : PD} (h : SeqAt.shaped d = true) : fEq d d = some (.bool true) := by
  unfold fEq
  rw [if_pos ⟨h, h⟩, SeqAt.eqv_refl d (SeqAt.canLay_of_shaped h)]
theorem shaped_str {x : Str} (h : PyData.strOk x = true) : SeqAt.shaped (.str x) = true := by
  unfold SeqAt.shaped
  simp [PyData.canLay0, PyData.depth, h]
theorem shaped_bool {x : Bool} : SeqAt.shaped (.bool x) = true := (rfl)
theorem sameRest_ok {R : List PD → Option Res} {ds : List PD} (hl : ds.length ≤ 1000000) (h : ∀ d ∈ ds, R [d, d] = some (.val (.bool true))) : ∃ as', sameRest R [.dur (.tuple ds), .dur (.tuple ds), .un] = some (.rt (.val (.bool true)), as') := by
  have step : ∀ (i : Nat) (x : PD) (as : AS), (rng 0 ds.length)[i]? = some x → (∃ z, as = [.dur (.tuple ds), .dur (.tuple ds), z] ∧ isF z = true) →
      ∃ as1 as2, gN 2 x as = some as1 ∧ (sIf (mNot (m1 asB (mV (mN R (mCons (mV (m2 fIx (mI 0) (mI 2))) (mCons (mV (m2 fIx (mI 1) (mI 2))) (mPure []))))))) (sRet (mF (mPure (.bool false)))) sNx) as1 = some (.nx, as2) ∧ ∃ z, as2 = [.dur (.tuple ds), .dur (.tuple ds), z] ∧ isF z = true := by
    rintro i x as hx ⟨z, rfl, hz⟩
    obtain ⟨hi, rfl⟩ := rng_at hx
    exact ⟨[.dur (.tuple ds), .dur (.tuple ds), .dur (.int (i : Int))], [.dur (.tuple ds), .dur (.tuple ds), .dur (.int (i : Int))], by simp [hz], by simp [fIx_tuple hi, h _ (List.getElem_mem hi)], _, rfl, isF_dur⟩
  obtain ⟨as', h1, z, rfl, hz⟩ := forL_ix _ _ step (as := [.dur (.tuple ds), .dur (.tuple ds), .un]) ⟨.un, rfl, isF_un⟩
  refine ⟨[.dur (.tuple ds), .dur (.tuple ds), z], ?_⟩
  have h2 : fR1 [.int (ds.length : Int)] = some (rng 0 ds.length) := fR1_of (by omega)
  unfold sameRest
  simp [isT_tt, h2, h1]
theorem start2 {a b : PD} : startA 3 [a, b] = [.dur a, .dur b, .un] := rfl
theorem sameN_ok : ∀ (k : Nat) (d : PD), gd k d = true → sameN k [d, d] = some (.val (.bool true))
  | 0, _, h => by cases h
  | k + 1, d, h => by
    cases d with
    | none => exact runP_rt (as' := [.dur .none, .dur .none, .un]) rfl (by rw [start2]; simp [bSameN, isN_none])
    | bool b => exact runP_rt (as' := [.dur (.bool b), .dur (.bool b), .un]) rfl (by rw [start2]; simp [bSameN, isN_bool, isT_bb, fEq_self shaped_bool])
    | int b => exact runP_rt (as' := [.dur (.int b), .dur (.int b), .un]) rfl (by rw [start2]; simp [bSameN, isN_int, isT_bi, isT_ii])
    | str b => exact runP_rt (as' := [.dur (.str b), .dur (.str b), .un]) rfl (by rw [start2]; simp [bSameN, isN_str, isT_bs, isT_is, isT_ss, fEq_self (shaped_str h)])
    | list _ => cases h
    | dict _ => cases h
    | tuple ds =>
      have h2 : decide (ds.length ≤ 1000000) = true ∧ ds.all (gd k) = true := by simpa [gd] using h
      obtain ⟨as', q⟩ := sameRest_ok (R := sameN k) (of_decide_eq_true h2.1) fun d hd => sameN_ok k d (List.all_eq_true.mp h2.2 d hd)
      exact runP_rt (as' := as') rfl (by rw [start2]; simp [bSameN, isN_tuple, isT_bt, isT_it, isT_st, q])
theorem sameB_ok : ∀ (k : Nat) (d : PD), gd k d = true → sameB k [d, d] = some (.val (.bool true))
  | 0, _, h => by cases h
  | k + 1, d, h => by
    cases d with
    | none => exact runP_rt (as' := [.dur .none, .dur .none, .un]) rfl (by rw [start2]; simp [bSameB, isN_none, isT_bn, isT_in, isT_sn])
    | bool b => exact runP_rt (as' := [.dur (.bool b), .dur (.bool b), .un]) rfl (by rw [start2]; simp [bSameB, isN_bool, isT_bb, fEq_self shaped_bool])
    | int b => exact runP_rt (as' := [.dur (.int b), .dur (.int b), .un]) rfl (by rw [start2]; simp [bSameB, isN_int, isT_bi, isT_ii])
    | str b => exact runP_rt (as' := [.dur (.str b), .dur (.str b), .un]) rfl (by rw [start2]; simp [bSameB, isN_str, isT_bs, isT_is, isT_ss, fEq_self (shaped_str h)])
    | list _ => cases h
    | dict _ => cases h
    | tuple ds =>
      have h2 : decide (ds.length ≤ 1000000) = true ∧ ds.all (gd k) = true := by simpa [gd] using h
      obtain ⟨as', q⟩ := sameRest_ok (R := sameB k) (of_decide_eq_true h2.1) fun d hd => sameB_ok k d (List.all_eq_true.mp h2.2 d hd)
      exact runP_rt (as' := as') rfl (by rw [start2]; simp [bSameB, isN_tuple, isT_bt, isT_it, isT_st, q])
/-! ### data that is compared: an encoding keeps equality -/
def sh (n : Nat) (d : PD) : Bool := d.canLay0 && decide (d.depth ≤ n)
theorem sh_mono {n m : Nat} {d : PD} (h : sh n d = true) (hm : n ≤ m) : sh m d = true := by
  unfold sh at *
  simp only [Bool.and_eq_true, decide_eq_true_eq] at *
  exact ⟨h.1, Nat.le_trans h.2 hm⟩
def EqE {α : Type} [DecidableEq α] (n : Nat) (f : α → PD) : Prop := ∀ x, sh n (f x) = true ∧ ∀ y, PyData.eqv (f x) (f y) = decide (x = y)
theorem eqe_int : EqE 0 PyData.int := fun x => ⟨rfl, fun y => by simp [PyData.eqv, Bool.beq_eq_decide_eq]⟩
theorem eqvAll_map {α : Type} [DecidableEq α] {n : Nat} {f : α → PD} (h : EqE n f) : ∀ xs ys : List α, PyData.eqvAll (xs.map f) (ys.map f) = decide (xs = ys)
  | [], [] => by simp [PyData.eqvAll]
  | [], _ :: _ => by simp [PyData.eqvAll]
  | _ :: _, [] => by simp [PyData.eqvAll]
  | x :: xs, y :: ys => by
    rw [List.map_cons, List.map_cons, PyData.eqvAll, (h x).2 y, eqvAll_map h xs ys]
    by_cases e : x = y <;> by_cases e2 : xs = ys <;> simp [e, e2]
theorem shAll_map {α : Type} [DecidableEq α] {n : Nat} {f : α → PD} (h : EqE n f) : ∀ xs : List α, PyData.canLayAll0 (xs.map f) = true ∧ PyData.depthAll (xs.map f) ≤ n
  | [] => ⟨by simp [PyData.canLayAll0], by simp [PyData.depthAll]⟩
  | x :: xs => by
    obtain ⟨h1, h2⟩ := shAll_map h xs
    have h3 := (h x).1
    unfold sh at h3
    simp only [Bool.and_eq_true, decide_eq_true_eq] at h3
    rw [List.map_cons]
    refine ⟨by rw [PyData.canLayAll0, h3.1, h1]; rfl, ?_⟩
    rw [PyData.depthAll]
    have := h3.2
    omega
theorem eqe_tup {α : Type} [DecidableEq α] {n : Nat} {f : α → PD} (h : EqE n f) : EqE (n + 1) (fun xs : List α => PyData.tuple (xs.map f)) := fun xs => by
  obtain ⟨h1, h2⟩ := shAll_map h xs
  refine ⟨?_, fun ys => ?_⟩
  · unfold sh
    rw [PyData.canLay0, PyData.depth, h1, decide_eq_true (by omega)]; rfl
  · rw [PyData.eqv]; exact eqvAll_map h xs ys
theorem eqe_list {α : Type} [DecidableEq α] {n : Nat} {f : α → PD} (h : EqE n f) : EqE (n + 1) (fun xs : List α => PyData.list (xs.map f)) := fun xs => by
  obtain ⟨h1, h2⟩ := shAll_map h xs
  refine ⟨?_, fun ys => ?_⟩
  · unfold sh
    rw [PyData.canLay0, PyData.depth, h1, decide_eq_true (by omega)]; rfl
  · rw [PyData.eqv]; exact eqvAll_map h xs ys
theorem shaped_of {α : Type} [DecidableEq α] {n : Nat} {f : α → PD} (h : EqE n f) (hn : n ≤ 64) (x : α) : SeqAt.shaped (f x) = true := sh_mono (h x).1 hn
theorem fEq_of {α : Type} [DecidableEq α] {n : Nat} {f : α → PD} (h : EqE n f) (hn : n ≤ 64) (x y : α) : fEq (f x) (f y) = some (.bool (decide (x = y))) := by
  unfold fEq
  rw [if_pos ⟨shaped_of h hn x, shaped_of h hn y⟩, (h x).2 y]
theorem fNe_of {α : Type} [DecidableEq α] {n : Nat} {f : α → PD} (h : EqE n f) (hn : n ≤ 64) (x y : α) : fNe (f x) (f y) = some (.bool (!decide (x = y))) := by
  unfold fNe
  rw [if_pos ⟨shaped_of h hn x, shaped_of h hn y⟩, (h x).2 y]
theorem gd_tup {α : Type} {n : Nat} {f : α → PD} {xs : List α} (hl : xs.length ≤ 1000000) (h : ∀ x ∈ xs, gd n (f x) = true) : gd (n + 1) (.tuple (xs.map f)) = true := by
  rw [gd, List.length_map, decide_eq_true hl, Bool.true_and, List.all_eq_true]
  intro d hd
  obtain ⟨x, hx, rfl⟩ := List.mem_map.mp hd
  exact h x hx
theorem gd_int {n : Nat} {i : Int} : gd (n + 1) (.int i) = true := rfl
theorem gd_bool {n : Nat} {i : Bool} : gd (n + 1) (.bool i) = true := rfl
theorem gd_none {n : Nat} : gd (n + 1) .none = true := rfl
theorem gd_ints {n : Nat} {xs : List Int} (hl : xs.length ≤ 1000000) : gd (n + 2) (.tuple (xs.map .int)) = true := gd_tup hl fun _ _ => gd_int
end Vl

-- T3
set_option Elab.async false
set_option linter.all false
set_option maxRecDepth 100000
set_option maxHeartbeats 4000000
/-! tools: dicts, slices, comprehensions over one name -/
namespace Vl
open PySem L2
@[simp] theorem kOf_int {i : Int} : kOf (.int i) = some (.inl i) := (rfl)
@[simp] theorem kOf_str {x : Str} : kOf (.str x) = some (.inr x) := (rfl)
def sDc : Slot → Option (List (Key × PD))
  | .own (.od kvs) => some kvs
  | .io (.od kvs) => some kvs
  | .own (.fk kvs) => some kvs
  | _ => none
def vDc : AS → Nat → Option (List (Key × PD))
  | [], _ => none
  | s :: _, 0 => sDc s
  | _ :: l, i + 1 => vDc l i
@[simp] theorem vDc_zero {s : Slot} {l : AS} : vDc (s :: l) 0 = sDc s := (rfl)
@[simp] theorem vDc_succ {s : Slot} {l : AS} {i : Nat} : vDc (s :: l) (i + 1) = vDc l i := (rfl)
@[simp] theorem sDc_own {k : List (Key × PD)} : sDc (.own (.od k)) = some k := (rfl)
@[simp] theorem sDc_io {k : List (Key × PD)} : sDc (.io (.od k)) = some k := (rfl)
@[simp] theorem sDc_fk {k : List (Key × PD)} : sDc (.own (.fk k)) = some k := (rfl)
theorem slotD_eq : ∀ (as : AS) (i : Nat), slotD as i = vDc as i
  | [], _ => rfl
  | s :: _, 0 => by
    cases s with
    | own o => cases o <;> rfl
    | io o => cases o <;> rfl
    | _ => rfl
  | _ :: l, i + 1 => by rw [vDc_succ, ← slotD_eq l i]; rfl
def kG6 (x : PD) (as : AS) (kvs : List (Key × PD)) (o : Option Key) : Option (PD × AS) := match o with
  | none => none
  | some k => some ((valP kvs k).getD x, as)
@[simp] theorem kG6_some {x : PD} {as : AS} {kvs : List (Key × PD)} {k : Key} : kG6 x as kvs (some k) = some ((valP kvs k).getD x, as) := (rfl)
def kG5 (kd x : PD) (as : AS) (o : Option (List (Key × PD))) : Option (PD × AS) := match o with
  | none => none
  | some kvs => kG6 x as kvs (kOf kd)
@[simp] theorem kG5_some {kd x : PD} {as : AS} {kvs : List (Key × PD)} : kG5 kd x as (some kvs) = kG6 x as kvs (kOf kd) := (rfl)
def kG4 (i : Nat) (kd : PD) (q : Option (PD × AS)) : Option (PD × AS) := match q with
  | none => none
  | some (x, as2) => kG5 kd x as2 (vDc as2 i)
@[simp] theorem kG4_some {i : Nat} {kd x : PD} {as : AS} : kG4 i kd (some (x, as)) = kG5 kd x as (vDc as i) := (rfl)
def kG3 (i : Nat) (q : Option (PD × AS)) (mx : M PD) : Option (PD × AS) := match q with
  | none => none
  | some (kd, as1) => kG4 i kd (mx as1)
@[simp] theorem kG3_some {i : Nat} {kd : PD} {as : AS} {mx : M PD} : kG3 i (some (kd, as)) mx = kG4 i kd (mx as) := (rfl)
def kG2 (i : Nat) (o : Option (List (Key × PD))) (q : Option (PD × AS)) (mx : M PD) : Option (PD × AS) := match o with
  | none => none
  | some _ => kG3 i q mx
@[simp] theorem kG2_some {i : Nat} {k : List (Key × PD)} {q : Option (PD × AS)} {mx : M PD} : kG2 i (some k) q mx = kG3 i q mx := (rfl)
@[simp] theorem mGet2_ap {as : AS} {i : Nat} {mk mx : M PD} : mGet2 i mk mx as = kG2 i (vDc as i) (mk as) mx := by
  unfold mGet2
  rw [slotD_eq]
  cases vDc as i with
  | none => rfl
  | some _ =>
    cases mk as with
    | none => rfl
    | some q =>
      obtain ⟨kd, as1⟩ := q
      simp only [kG2_some, kG3_some]
      cases mx as1 with
      | none => rfl
      | some r =>
        obtain ⟨x, as2⟩ := r
        simp only [slotD_eq, kG4_some]
        cases vDc as2 i with
        | none => rfl
        | some kvs =>
          simp only [kG5_some]
          cases kOf kd <;> rfl
@[simp] theorem mGet1_ap {as : AS} {i : Nat} {mk : M PD} : mGet1 i mk as = kG2 i (vDc as i) (mk as) (mPure .none) := mGet2_ap
def kX4 (as : AS) (o : Option PD) : Option (PD × AS) := match o with
  | none => none
  | some d => some (d, as)
@[simp] theorem kX4_some {as : AS} {d : PD} : kX4 as (some d) = some (d, as) := (rfl)
def kX3 (as : AS) (kvs : List (Key × PD)) (o : Option Key) : Option (PD × AS) := match o with
  | none => none
  | some k => kX4 as (valP kvs k)
@[simp] theorem kX3_some {as : AS} {kvs : List (Key × PD)} {k : Key} : kX3 as kvs (some k) = kX4 as (valP kvs k) := (rfl)
def kX2 (kd : PD) (as : AS) (o : Option (List (Key × PD))) : Option (PD × AS) := match o with
  | none => none
  | some kvs => kX3 as kvs (kOf kd)
@[simp] theorem kX2_some {kd : PD} {as : AS} {kvs : List (Key × PD)} : kX2 kd as (some kvs) = kX3 as kvs (kOf kd) := (rfl)
def kX1 (i : Nat) (q : Option (PD × AS)) : Option (PD × AS) := match q with
  | none => none
  | some (kd, as) => kX2 kd as (vDc as i)
@[simp] theorem kX1_some {i : Nat} {kd : PD} {as : AS} : kX1 i (some (kd, as)) = kX2 kd as (vDc as i) := (rfl)
def kX0 (i : Nat) (o : Option (List (Key × PD))) (q : Option (PD × AS)) : Option (PD × AS) := match o with
  | none => none
  | some _ => kX1 i q
@[simp] theorem kX0_some {i : Nat} {k : List (Key × PD)} {q : Option (PD × AS)} : kX0 i (some k) q = kX1 i q := (rfl)
@[simp] theorem mIx_ap {as : AS} {i : Nat} {mk : M PD} : mIx i mk as = kX0 i (vDc as i) (mk as) := by
  unfold mIx
  rw [slotD_eq]
  cases vDc as i with
  | none => rfl
  | some _ =>
    cases mk as with
    | none => rfl
    | some q =>
      obtain ⟨kd, as1⟩ := q
      simp only [slotD_eq, kX0_some, kX1_some]
      cases vDc as1 i with
      | none => rfl
      | some kvs =>
        simp only [kX2_some]
        cases kOf kd with
        | none => rfl
        | some k =>
          simp only [kX3_some]
          cases valP kvs k <;> rfl
def kE3 (i : Nat) (d : PD) (as : AS) (kvs : List (Key × PD)) (o : Option Key) : Option AS := match o with
  | none => none
  | some k => if kvs.length < sizeLine then some (qO as i (.od (putP kvs k d))) else none
theorem kE3_some {i : Nat} {d : PD} {as : AS} {kvs : List (Key × PD)} {k : Key} (h : kvs.length < 16777216) : kE3 i d as kvs (some k) = some (qO as i (.od (putP kvs k d))) := if_pos (by rw [sizeLine_eq]; exact h)
def kE2 (i : Nat) (d kd : PD) (as : AS) (o : Option Obj) : Option AS := match o with
  | some (.od kvs) => kE3 i d as kvs (kOf kd)
  | _ => none
@[simp] theorem kE2_some {i : Nat} {d kd : PD} {as : AS} {kvs : List (Key × PD)} : kE2 i d kd as (some (.od kvs)) = kE3 i d as kvs (kOf kd) := (rfl)
def kE1 (i : Nat) (d : PD) (q : Option (PD × AS)) : Option AS := match q with
  | none => none
  | some (kd, as) => kE2 i d kd as (vO as i)
@[simp] theorem kE1_some {i : Nat} {d kd : PD} {as : AS} : kE1 i d (some (kd, as)) = kE2 i d kd as (vO as i) := (rfl)
def kE0 (i : Nat) (d : PD) (o : Option Obj) (q : Option (PD × AS)) : Option AS := match o with
  | none => none
  | some _ => kE1 i d q
@[simp] theorem kE0_some {i : Nat} {d : PD} {o : Obj} {q : Option (PD × AS)} : kE0 i d (some o) q = kE1 i d q := (rfl)
@[simp] theorem gDSet_ap {as : AS} {i : Nat} {m : M PD} {d : PD} : gDSet i m d as = kE0 i d (vO as i) (m as) := by
  unfold gDSet
  rw [slotO_eq]
  cases vO as i with
  | none => rfl
  | some _ =>
    cases m as with
    | none => rfl
    | some q =>
      obtain ⟨kd, as1⟩ := q
      simp only [slotO_eq, kE0_some, kE1_some]
      cases vO as1 i with
      | none => rfl
      | some o =>
        cases o with
        | od kvs =>
          simp only [kE2_some]
          cases kOf kd with
          | none => rfl
          | some k => simp only [setO_eq]; rfl
        | _ => rfl
@[simp] theorem nat_inj {a b : Nat} : ((a : Int) = (b : Int)) ↔ a = b := by omega
@[simp] theorem nat_lt {a b : Nat} : ((a : Int) < (b : Int)) ↔ a < b := by omega
@[simp] theorem nat_le {a b : Nat} : ((a : Int) ≤ (b : Int)) ↔ a ≤ b := by omega
/-! ### slices -/
theorem cutD_take {ds : List PD} {i : Nat} (h : i ≤ ds.length) : cutD ds none (some (i : Int)) = ds.take i := by
  unfold cutD
  rw [HT.sIx_none, HT.sIx_nat, List.drop_zero, Nat.min_eq_left h, Nat.sub_zero]
theorem cutD_drop {ds : List PD} {i : Nat} (h : i ≤ ds.length) : cutD ds (some (i : Int)) none = ds.drop i := by
  unfold cutD
  rw [HT.sIx_none, HT.sIx_nat, Nat.min_eq_left h]
  exact List.take_of_length_le (by rw [List.length_drop]; exact Nat.le_refl _)
theorem fSl_take {ds : List PD} {i : Nat} (h : i ≤ ds.length) : fSl (.tuple ds) none (some (i : Int)) = some (.val (.tuple (ds.take i))) := by rw [← cutD_take h]; rfl
theorem fSl_drop {ds : List PD} {i : Nat} (h : i ≤ ds.length) : fSl (.tuple ds) (some (i : Int)) none = some (.val (.tuple (ds.drop i))) := by rw [← cutD_drop h]; rfl
theorem fSl_takeL {ds : List PD} {i : Nat} (h : i ≤ ds.length) : fSl (.list ds) none (some (i : Int)) = some (.obj (.ol (ds.take i))) := by rw [← cutD_take h]; rfl
theorem fSl_dropL {ds : List PD} {i : Nat} (h : i ≤ ds.length) : fSl (.list ds) (some (i : Int)) none = some (.obj (.ol (ds.drop i))) := by rw [← cutD_drop h]; rfl
/-! ### comprehensions over one name -/
theorem mLc1_eq {ι : Type} {j : Nat} {mi : M (List PD)} {c : M Bool} {el : M PD} {as : AS} (items : List ι) (enc : ι → PD) (b : ι → Bool) (f : ι → PD)
    (hmi : mi as = some (items.map enc, as)) (hj : (match as[j]? with | some .un => true | some (.dur _) => true | _ => false) = true)
    (hc : ∀ x ∈ items, c (as.set j (.dur (enc x))) = some (b x, as.set j (.dur (enc x)))) (he : ∀ x ∈ items, b x = true → el (as.set j (.dur (enc x))) = some (f x, as.set j (.dur (enc x))))
    (hl : items.length ≤ 16777216) : mLc [j] mi (gN j) c el as = some (.obj (.ol ((items.filter b).map f)), as) := by
  have hjl : j < as.length := by
    cases e : as[j]? with
    | none => rw [e] at hj; cases hj
    | some s => exact (List.getElem?_eq_some_iff.mp e).1
  have hs : ∀ d : PD, gN j d (clr [j] as) = some (as.set j (.dur d)) := fun d => by
    show gN j d (as.set j .un) = _
    unfold gN
    rw [List.getElem?_set_self hjl]
    show some ((as.set j .un).set j (.dur d)) = _
    rw [List.set_set]
  refine mLc_eq items enc (fun x => as.set j (.dur (enc x))) b f hmi (fun x _ => hs _) hc he ?_ hl fun x _ => ?_
  · unfold free
    rw [List.all_cons, List.all_nil, Bool.and_true, List.getD_eq_getElem?_getD]
    cases e : as[j]? with
    | none => rw [e] at hj; cases hj
    | some s =>
      rw [e] at hj
      cases s with
      | un => rfl
      | dur d => rfl
      | own o => cases hj
      | io o => cases hj
      | rw _ => cases hj
  · show (as.set j _).set j .un = as.set j .un
    rw [List.set_set]
theorem mLc1_map {ι : Type} {j : Nat} {mi : M (List PD)} {el : M PD} {as : AS} (items : List ι) (enc : ι → PD) (f : ι → PD)
    (hmi : mi as = some (items.map enc, as)) (hj : (match as[j]? with | some .un => true | some (.dur _) => true | _ => false) = true)
    (he : ∀ x ∈ items, el (as.set j (.dur (enc x))) = some (f x, as.set j (.dur (enc x))))
    (hl : items.length ≤ 16777216) : mLc [j] mi (gN j) (mPure true) el as = some (.obj (.ol (items.map f)), as) := by
  have := mLc1_eq (c := mPure true) items enc (fun _ => true) f hmi hj (fun _ _ => rfl) (fun x hx _ => he x hx) hl
  rw [this, List.filter_eq_self.mpr (fun _ _ => rfl)]
/-- a run that comes to its end -/
theorem runP_ex {n k : Nat} {m : MS} {ds : List PD} {r : Res} (hl : ds.length = k) (h : ∃ as', m (startA n ds) = some (.rt r, as')) : runP n k m ds = some r := by
  obtain ⟨as', h⟩ := h
  exact runP_rt hl h
theorem then_ex {m n : MS} {as as1 : AS} {r : Res} (h : m as = some (.nx, as1)) (k : ∃ as', n as1 = some (.rt r, as')) : ∃ as', sThen m n as = some (.rt r, as') := by
  rw [sThen_ap, h]
  exact k
theorem rgOk_nat {n : Nat} (h : n ≤ 16777216) : rgOk 0 (n : Int) = true := by
  unfold rgOk
  simp
  omega
theorem fTR1_of {n : Nat} (h : n ≤ 16777216) : fTR1 (.int (n : Int)) = some (.val (.tuple ((List.range n).map fun (i : Nat) => PyData.int (i : Int)))) := by
  have e : fTR1 (.int (n : Int)) = if rgOk 0 (n : Int) = true then some (.val (.tuple (rng 0 ((n : Int) - 0).toNat))) else none := rfl
  rw [e, if_pos (rgOk_nat h), show ((n : Int) - 0).toNat = n by omega, rng_zero]
theorem forL_rel {ι σ : Type} {g : PD → AS → Option AS} {b : MS} (enc : ι → PD) (step : σ → ι → σ) (R : σ → AS → Prop) : ∀ (items : List ι) (s : σ) (as : AS), R s as →
    (∀ s x as, x ∈ items → R s as → ∃ as1 as2, g (enc x) as = some as1 ∧ b as1 = some (.nx, as2) ∧ R (step s x) as2) → ∃ as', forL g b (items.map enc) as = some (.nx, as') ∧ R (items.foldl step s) as'
  | [], s, as, h, _ => ⟨as, rfl, h⟩
  | x :: items, s, as, h, k => by
    obtain ⟨as1, as2, h1, h2, h3⟩ := k s x as List.mem_cons_self h
    obtain ⟨as', q1, q2⟩ := forL_rel enc step R items (step s x) as2 h3 fun s y as hy => k s y as (List.mem_cons_of_mem _ hy)
    refine ⟨as', ?_, q2⟩
    rw [List.map_cons]
    unfold forL
    simp only [h1, h2]
    exact q1
/-- one turn -/
def kTn (q : Option AS) (b : MS) : Option (Ctl × AS) := match q with
  | none => none
  | some as => b as
@[simp] theorem kTn_some {as : AS} {b : MS} : kTn (some as) b = b as := (rfl)
theorem kTn_of {q : Option AS} {b : MS} {r : Ctl × AS} (h : kTn q b = some r) : ∃ as1, q = some as1 ∧ b as1 = some r := by
  cases q with
  | none => cases h
  | some as => exact ⟨as, rfl, h⟩
theorem forL_rl {ι σ : Type} {g : PD → AS → Option AS} {b : MS} (enc : ι → PD) (step : σ → ι → σ) (R : σ → AS → Prop) (items : List ι) (s : σ) (as : AS) (h : R s as)
    (k : ∀ s x as, x ∈ items → R s as → ∃ as2, kTn (g (enc x) as) b = some (.nx, as2) ∧ R (step s x) as2) : ∃ as', forL g b (items.map enc) as = some (.nx, as') ∧ R (items.foldl step s) as' :=
  forL_rel enc step R items s as h fun s x as hx hr => by
    obtain ⟨as2, q, r⟩ := k s x as hx hr
    obtain ⟨as1, q1, q2⟩ := kTn_of q
    exact ⟨as1, as2, q1, q2, r⟩
def nth {α : Type} (xs : List α) (i : Nat) (z : α) : α := xs.getD i z
theorem nth_eq {α : Type} {xs : List α} {i : Nat} (z : α) (h : i < xs.length) : nth xs i z = xs[i] := by
  unfold nth
  rw [List.getD_eq_getElem?_getD, List.getElem?_eq_getElem h]; rfl
theorem nth_mem {α : Type} {xs : List α} {i : Nat} (z : α) (h : i < xs.length) : nth xs i z ∈ xs := by
  rw [nth_eq z h]; exact List.getElem_mem h
def iT (r : List Int) : PD := .tuple (r.map .int)
def iL (r : List Int) : PD := .list (r.map .int)
theorem iT_fold {r : List Int} : PyData.tuple (r.map .int) = iT r := (rfl)
theorem iL_fold {r : List Int} : PyData.list (r.map .int) = iL r := (rfl)
theorem fIx_mapL {α : Type} {xs : List α} {f : α → PD} {i : Nat} (z : α) (h : i < xs.length) : fIx (.list (xs.map f)) (.int (i : Int)) = some (.val (f (nth xs i z))) := by
  rw [fIx_list (by rw [List.length_map]; exact h), List.getElem_map, nth_eq z h]
theorem fIx_mapT {α : Type} {xs : List α} {f : α → PD} {i : Nat} (z : α) (h : i < xs.length) : fIx (.tuple (xs.map f)) (.int (i : Int)) = some (.val (f (nth xs i z))) := by
  rw [fIx_tuple (by rw [List.length_map]; exact h), List.getElem_map, nth_eq z h]
/-- a next draw as a natural number -/
theorem take_nat (ds : List Int) {n : Int} (hn : 0 < n) : ∃ (t : Nat) (ds' : List Int), runI 2 2 0 gTake (.ol (ds.map .int)) [.int n] = some (.int (t : Int), .ol (ds'.map .int)) ∧ (t : Int) < n := by
  obtain ⟨t, ds', h, h0, h1⟩ := take_ok ds hn
  obtain ⟨k, rfl⟩ := Int.eq_ofNat_of_zero_le h0
  exact ⟨k, ds', h, h1⟩
theorem asInts_of' {ns : List Int} : asInts (ns.map .int) = some ns := asInts_of _
/-! ### dicts -/
theorem valP_nil {k : Key} : valP ([] : List (Key × PD)) k = none := (rfl)
theorem valP_cons {k k' : Key} {d : PD} {l : List (Key × PD)} : valP ((k', d) :: l) k = if k' = k then some d else valP l k := by
  unfold valP
  rw [List.find?_cons]
  by_cases h : k' = k <;> simp [h]
theorem valP_none {k : Key} : ∀ {l : List (Key × PD)}, valP l k = none ↔ ∀ q ∈ l, q.1 ≠ k
  | [] => by simp [valP_nil]
  | (k', d) :: l => by
    rw [valP_cons]
    by_cases h : k' = k
    · simp [h]
    · simp [h, valP_none (l := l)]
theorem valP_app {k : Key} : ∀ {l l2 : List (Key × PD)}, valP (l ++ l2) k = (valP l k).or (valP l2 k)
  | [], _ => by simp [valP_nil]
  | (k', d) :: l, l2 => by
    rw [List.cons_append, valP_cons, valP_cons]
    by_cases h : k' = k
    · simp [h]
    · simp [h, valP_app (l := l)]
theorem valP_upd {k k' : Key} {d : PD} : ∀ {l : List (Key × PD)}, valP (l.map fun kv => if kv.1 = k then (kv.1, d) else kv) k' = if k' = k then (valP l k).map (fun _ => d) else valP l k'
  | [] => by simp [valP_nil]
  | (k1, d1) :: l => by
    rw [List.map_cons]
    by_cases h : k1 = k
    · subst h
      rw [if_pos rfl, valP_cons, valP_cons, valP_cons, valP_upd (l := l)]
      by_cases h2 : k1 = k'
      · subst h2; simp
      · have h3 : ¬ k' = k1 := fun e => h2 e.symm
        simp [h2, h3]
    · rw [if_neg h, valP_cons, valP_cons, valP_cons, valP_upd (l := l), if_neg h]
      by_cases h2 : k1 = k'
      · subst h2; simp [h]
      · simp [h2]
theorem valP_put {k k' : Key} {d : PD} {l : List (Key × PD)} : valP (putP l k d) k' = if k' = k then some d else valP l k' := by
  unfold putP
  by_cases h : (l.any fun kv => decide (kv.1 = k)) = true
  · rw [if_pos h, valP_upd]
    by_cases e : k' = k
    · rw [if_pos e, if_pos e]
      cases hv : valP l k with
      | some _ => rfl
      | none =>
        obtain ⟨q, hq, h2⟩ := List.any_eq_true.mp h
        exact absurd (of_decide_eq_true h2) (valP_none.mp hv q hq)
    · rw [if_neg e, if_neg e]
  · rw [if_neg h, valP_app, valP_cons, valP_nil]
    by_cases e : k' = k
    · subst e
      have : valP l k' = none := valP_none.mpr fun q hq e => h (List.any_eq_true.mpr ⟨q, hq, decide_eq_true e⟩)
      simp [this]
    · have h3 : ¬ k = k' := fun x => e x.symm
      simp [e, h3]
theorem keys_put {k : Key} {d : PD} {l : List (Key × PD)} {q : Key × PD} (h : q ∈ putP l k d) : q.1 = k ∨ ∃ q' ∈ l, q'.1 = q.1 := by
  unfold putP at h
  split at h
  · obtain ⟨q', h1, rfl⟩ := List.mem_map.mp h
    by_cases e : q'.1 = k
    · rw [if_pos e]; exact .inl e
    · rw [if_neg e]; exact .inr ⟨q', h1, rfl⟩
  · rcases List.mem_append.mp h with h | h
    · exact .inr ⟨q, h, rfl⟩
    · rw [List.mem_singleton] at h
      subst h; exact .inl rfl
theorem valP_mem {l : List (Key × PD)} {q : Key × PD} (h : q ∈ l) : ∃ d, valP l q.1 = some d := by
  cases e : valP l q.1 with
  | some d => exact ⟨d, rfl⟩
  | none => exact absurd rfl (valP_none.mp e q h)
theorem putP_len {k : Key} {d : PD} {l : List (Key × PD)} : (putP l k d).length ≤ l.length + 1 := by
  unfold putP
  split <;> simp
/-- the values, by the keys -/
theorem mLcD1_map {i j : Nat} {el : M PD} {as : AS} {kvs : List (Key × PD)} (f : Key → PD) (hi : as[i]? = some (.own (.od kvs))) (hij : i ≠ j)
    (hj : (match as[j]? with | some .un => true | some (.dur _) => true | _ => false) = true)
    (he : ∀ q ∈ kvs, el ((as.set i (.own (.fk kvs))).set j (.dur (ofK q.1))) = some (f q.1, (as.set i (.own (.fk kvs))).set j (.dur (ofK q.1))))
    (hl : kvs.length ≤ 16777216) : mLcD i [j] (gN j) (mPure true) el as = some (.obj (.ol (kvs.map fun q => f q.1)), as) := by
  have hil : i < as.length := (List.getElem?_eq_some_iff.mp hi).1
  unfold mLcD
  rw [hi]
  have := mLc1_map (j := j) (mi := mKeys i) (el := el) (as := as.set i (.own (.fk kvs))) kvs (fun q => ofK q.1) (fun q => f q.1) (by unfold mKeys; rw [List.getElem?_set_self hil]) (by rw [List.getElem?_set_ne hij]; exact hj) he hl
  simp only [this]
/-! ### greatest items -/
theorem foldl_max : ∀ (l : List Int) (a : Int), a ≤ l.foldl max a ∧ (∀ x ∈ l, x ≤ l.foldl max a) ∧ (l.foldl max a = a ∨ l.foldl max a ∈ l)
  | [], a => ⟨by simp, by simp, .inl rfl⟩
  | y :: l, a => by
    obtain ⟨h1, h2, h3⟩ := foldl_max l (max a y)
    rw [List.foldl_cons]
    refine ⟨by omega, fun x hx => ?_, ?_⟩
    · rcases List.mem_cons.mp hx with rfl | hx
      · omega
      · exact h2 x hx
    · rcases h3 with h3 | h3
      · rw [h3]
        rcases Int.le_total a y with q | q
        · right; rw [Int.max_eq_right q]; exact List.mem_cons_self
        · left; rw [Int.max_eq_left q]
      · exact .inr (List.mem_cons_of_mem _ h3)
theorem maxL_cons0 {l : List Int} : maxL (0 :: l) = l.foldl max 0 := by
  obtain ⟨a1, a2⟩ := maxL_spec (0 :: l) (by simp)
  obtain ⟨b1, b2, b3⟩ := foldl_max l 0
  have := a2 0 List.mem_cons_self
  rcases List.mem_cons.mp a1 with h | h
  · rcases b3 with b3 | b3
    · omega
    · have := a2 _ (List.mem_cons_of_mem _ b3); omega
  · have := b2 _ h
    rcases b3 with b3 | b3
    · omega
    · have := a2 _ (List.mem_cons_of_mem _ b3); omega
theorem maxL_app0 {l : List Int} : maxL (l ++ [0]) = l.foldl max 0 := by
  obtain ⟨a1, a2⟩ := maxL_spec (l ++ [0]) (by simp)
  obtain ⟨b1, b2, b3⟩ := foldl_max l 0
  have := a2 0 (by simp)
  rcases List.mem_append.mp a1 with h | h
  · have := b2 _ h
    rcases b3 with b3 | b3
    · omega
    · have := a2 _ (List.mem_append_left _ b3); omega
  · rw [List.mem_singleton] at h
    rcases b3 with b3 | b3
    · omega
    · have := a2 _ (List.mem_append_left _ b3); omega
theorem forL_rn {ι σ : Type} {g : PD → AS → Option AS} {b : MS} (enc : ι → PD) (step : σ → ι → σ) (R : Nat → σ → AS → Prop) (n : Nat) : ∀ (items : List ι) (i : Nat) (s : σ) (as : AS), i + items.length = n → R i s as →
    (∀ i s x as, i < n → x ∈ items → R i s as → ∃ as2, kTn (g (enc x) as) b = some (.nx, as2) ∧ R (i + 1) (step s x) as2) → ∃ as', forL g b (items.map enc) as = some (.nx, as') ∧ R n (items.foldl step s) as'
  | [], i, s, as, hn, h, _ => ⟨as, rfl, by rw [← hn]; exact h⟩
  | x :: items, i, s, as, hn, h, k => by
    rw [List.length_cons] at hn
    obtain ⟨as2, h1, h3⟩ := k i s x as (by omega) List.mem_cons_self h
    obtain ⟨as1, h1, h2⟩ := kTn_of h1
    obtain ⟨as', q1, q2⟩ := forL_rn enc step R n items (i + 1) (step s x) as2 (by omega) h3 fun i s y as hi hy => k i s y as hi (List.mem_cons_of_mem _ hy)
    refine ⟨as', ?_, q2⟩
    rw [List.map_cons]
    unfold forL
    simp only [h1, h2]
    exact q1
/-- .. over a range -/
theorem forL_rg {g : PD → AS → Option AS} {b : MS} (n : Nat) (R : Nat → AS → Prop) (as : AS) (h : R 0 as)
    (k : ∀ i as, i < n → R i as → ∃ as2, kTn (g (.int (i : Int)) as) b = some (.nx, as2) ∧ R (i + 1) as2) : ∃ as', forL g b ((List.range n).map fun (i : Nat) => PyData.int (i : Int)) as = some (.nx, as') ∧ R n as' := by
  have key : ∀ (m i : Nat) (as : AS), i + m = n → R i as → ∃ as', forL g b ((List.range' i m).map fun (i : Nat) => PyData.int (i : Int)) as = some (.nx, as') ∧ R n as' := fun m => by
    induction m with
    | zero => intro i as hi h; exact ⟨as, rfl, by rw [← hi]; exact h⟩
    | succ m ih =>
      intro i as hi h
      obtain ⟨as2, h1, h3⟩ := k i as (by omega) h
      obtain ⟨as1, h1, h2⟩ := kTn_of h1
      obtain ⟨as', q1, q2⟩ := ih (i + 1) as2 (by omega) h3
      refine ⟨as', ?_, q2⟩
      rw [List.range'_succ, List.map_cons]
      unfold forL
      simp only [h1, h2]
      exact q1
  have := key n 0 as (by omega) h
  rw [← List.range_eq_range'] at this
  exact this
theorem range_nth {α : Type} (l : List α) (z : α) : (List.range l.length).map (fun j => nth l j z) = l := by
  refine List.ext_getElem (by simp) fun i h1 h2 => ?_
  rw [List.getElem_map, List.getElem_range, nth_eq z h2]
theorem insU_len (y : Int) : ∀ l : List Int, (insU y l).length ≤ l.length + 1
  | [] => by simp [insU]
  | x :: l => by
    unfold insU
    have := insU_len y l
    repeat' split
    all_goals simp only [List.length_cons]
    all_goals omega
theorem usort_len : ∀ l : List Int, (usort l).length ≤ l.length
  | [] => by simp [usort]
  | y :: l => by
    have h1 := insU_len y (usort l)
    have h2 := usort_len l
    show (insU y (usort l)).length ≤ _
    rw [List.length_cons]
    omega
theorem usort_congr {a b : List Int} (h : ∀ z, z ∈ a ↔ z ∈ b) : usort a = usort b := strict_uniq (sorted_usort a) (sorted_usort b) fun z => by rw [mem_usort, mem_usort, h z]
theorem usort_nodup {l : List Int} (h : l.Nodup) : (usort l).length = l.length := (perm_of_mem (nodup_usort l) h fun z => by rw [mem_usort]).length_eq
end Vl

-- T4
set_option Elab.async false
set_option linter.all false
set_option maxRecDepth 100000
set_option maxHeartbeats 4000000
/-! simp lemmas for V17..V29 -/
namespace Vl
open PySem L2
section
variable {as : AS}
/-- x op= e -/
def aW (i : Nat) (as : AS) (r : Option Res) : Option (Ctl × AS) := match r with
  | none => none
  | some (.val z) => some (.nx, as.set i (.dur z))
  | some (.obj o) => some (.nx, as.set i (.own o))
@[simp] theorem aW_val {i : Nat} {z : PD} : aW i as (some (.val z)) = some (.nx, as.set i (.dur z)) := (rfl)
@[simp] theorem aW_obj {i : Nat} {o : Obj} : aW i as (some (.obj o)) = some (.nx, as.set i (.own o)) := (rfl)
def aU2 (i : Nat) (f : PD → PD → Option Res) (d : PD) (q : Option (PD × AS)) : Option (Ctl × AS) := match q with
  | none => none
  | some (y, as1) => aW i as1 (f d y)
@[simp] theorem aU2_some {i : Nat} {f : PD → PD → Option Res} {d y : PD} : aU2 i f d (some (y, as)) = aW i as (f d y) := (rfl)
def aU (i : Nat) (f : PD → PD → Option Res) (o : Option PD) (q : Option (PD × AS)) : Option (Ctl × AS) := match o with
  | none => none
  | some d => aU2 i f d q
@[simp] theorem aU_some {i : Nat} {f : PD → PD → Option Res} {d : PD} {q : Option (PD × AS)} : aU i f (some d) q = aU2 i f d q := (rfl)
@[simp] theorem sAug_ap {i : Nat} {f : PD → PD → Option Res} {m : M PD} : sAug i f m as = aU i f (vD as i) (m as) := by
  rw [vD_eq]
  unfold sAug
  cases as[i]? with
  | none => rfl
  | some s =>
    cases s with
    | dur d =>
      simp only [Option.bind_some, svD_dur, aU_some]
      cases m as with
      | none => rfl
      | some q =>
        obtain ⟨y, as1⟩ := q
        simp only [aU2_some]
        cases f d y with
        | none => rfl
        | some r => cases r <;> rfl
    | _ => rfl
@[simp] theorem fAugAdd_int {i j : Int} : fAugAdd (.int i) (.int j) = some (.val (.int (i + j))) := (rfl)
theorem fAugAdd_tuple {a b : List PD} (h : a.length + b.length ≤ 16777216) : fAugAdd (.tuple a) (.tuple b) = some (.val (.tuple (a ++ b))) := by
  have e : ∀ {α : Type} (x y : α), (if a.length + b.length ≤ sizeLine then x else y) = x := fun x y => if_pos (by rw [sizeLine_eq]; exact h)
  exact e _ _
@[simp] theorem fAugI_sub {i j : Int} : fAugI iSub (.int i) (.int j) = some (.val (.int (i - j))) := (rfl)
theorem fAugI_mul {i j : Int} (h : i.natAbs < 18446744073709551616 ∨ j.natAbs < 18446744073709551616) : fAugI iMulS (.int i) (.int j) = some (.val (.int (i * j))) := by
  have e : fInt iMulS (.int i) (.int j) = some (.int (i * j)) := if_pos h
  unfold fAugI
  rw [e]
theorem fAugI_div {i j : Int} (h : 0 < j ∧ j < 1073741824) : fAugI iDivS (.int i) (.int j) = some (.val (.int (i / j))) := by
  have e : fInt iDivS (.int i) (.int j) = some (.int (i / j)) := if_pos h
  unfold fAugI
  rw [e]
/-- xs += ys -/
def aL3 (i : Nat) (as : AS) (ys : List PD) (o : Option (List PD)) : Option (Ctl × AS) := match o with
  | none => none
  | some xs => if xs.length + ys.length ≤ sizeLine then some (.nx, pL as i (xs ++ ys)) else none
theorem aL3_some {i : Nat} {xs ys : List PD} (h : xs.length + ys.length ≤ 16777216) : aL3 i as ys (some xs) = some (.nx, pL as i (xs ++ ys)) := if_pos (by rw [sizeLine_eq]; exact h)
def aL2 (i : Nat) (q : Option (PD × AS)) : Option (Ctl × AS) := match q with
  | some (.list ys, as1) => aL3 i as1 ys (vL as1 i)
  | _ => none
@[simp] theorem aL2_some {i : Nat} {ys : List PD} : aL2 i (some (.list ys, as)) = aL3 i as ys (vL as i) := (rfl)
def aL1 (i : Nat) (o : Option (List PD)) (q : Option (PD × AS)) : Option (Ctl × AS) := match o with
  | none => none
  | some _ => aL2 i q
@[simp] theorem aL1_some {i : Nat} {xs : List PD} {q : Option (PD × AS)} : aL1 i (some xs) q = aL2 i q := (rfl)
@[simp] theorem sAugL_ap {i : Nat} {m : M PD} : sAugL i m as = aL1 i (vL as i) (m as) := by
  unfold sAugL
  rw [slotL_eq]
  cases vL as i with
  | none => rfl
  | some _ =>
    cases m as with
    | none => rfl
    | some q =>
      obtain ⟨d, as1⟩ := q
      cases d with
      | list ys =>
        simp only [slotL_eq, setL_eq, aL1_some, aL2_some]
        cases vL as1 i <;> rfl
      | _ => rfl
/-- a chain -/
def cH3 (g : PD → PD → Option PD) (y : PD) (q : Option (PD × AS)) : Option (PD × AS) := match q with
  | none => none
  | some (w, as) => pairR (g y w) as
@[simp] theorem cH3_some {g : PD → PD → Option PD} {y w : PD} : cH3 g y (some (w, as)) = pairR (g y w) as := (rfl)
def cH2 (g : PD → PD → Option PD) (y : PD) (as : AS) (o : Option PD) (mc : M PD) : Option (PD × AS) := match o with
  | some (.bool true) => cH3 g y (mc as)
  | some (.bool false) => some (.bool false, as)
  | _ => none
@[simp] theorem cH2_t {g : PD → PD → Option PD} {y : PD} {mc : M PD} : cH2 g y as (some (.bool true)) mc = cH3 g y (mc as) := (rfl)
@[simp] theorem cH2_f {g : PD → PD → Option PD} {y : PD} {mc : M PD} : cH2 g y as (some (.bool false)) mc = some (.bool false, as) := (rfl)
def cH1 (f g : PD → PD → Option PD) (x : PD) (q : Option (PD × AS)) (mc : M PD) : Option (PD × AS) := match q with
  | none => none
  | some (y, as) => cH2 g y as (f x y) mc
@[simp] theorem cH1_some {f g : PD → PD → Option PD} {x y : PD} {mc : M PD} : cH1 f g x (some (y, as)) mc = cH2 g y as (f x y) mc := (rfl)
def cH0 (f g : PD → PD → Option PD) (q : Option (PD × AS)) (mb mc : M PD) : Option (PD × AS) := match q with
  | none => none
  | some (x, as) => cH1 f g x (mb as) mc
@[simp] theorem cH0_some {f g : PD → PD → Option PD} {x : PD} {mb mc : M PD} : cH0 f g (some (x, as)) mb mc = cH1 f g x (mb as) mc := (rfl)
@[simp] theorem mChain_ap {f g : PD → PD → Option PD} {ma mb mc : M PD} : mChain f g ma mb mc as = cH0 f g (ma as) mb mc := by
  unfold mChain
  show mBind ma _ as = _
  unfold mBind
  cases ma as with
  | none => rfl
  | some q =>
    obtain ⟨x, as1⟩ := q
    simp only [cH0_some]
    cases mb as1 with
    | none => rfl
    | some r =>
      obtain ⟨y, as2⟩ := r
      simp only [cH1_some, mOpt_ap]
      cases f x y with
      | none => rfl
      | some z =>
        cases z with
        | bool b =>
          cases b with
          | false => rfl
          | true =>
            simp only [pairR_some, cH2_t]
            cases mc as2 with
            | none => rfl
            | some t => exact mOpt_ap
        | _ => rfl
@[simp] theorem mChainB_ap {f g : PD → PD → Option PD} {ma mb mc : M PD} : mChainB f g ma mb mc as = k1 asB (mChain f g ma mb mc as) := m1_ap
/-- k in d -/
def iD3 (neg : Bool) (as : AS) (kvs : List (Key × PD)) (o : Option Key) : Option (PD × AS) := match o with
  | none => none
  | some k => some (.bool (if neg = true then !(valP kvs k).isSome else (valP kvs k).isSome), as)
@[simp] theorem iD3_some {neg : Bool} {kvs : List (Key × PD)} {k : Key} : iD3 neg as kvs (some k) = some (.bool (if neg = true then !(valP kvs k).isSome else (valP kvs k).isSome), as) := (rfl)
def iD2 (neg : Bool) (kd : PD) (as : AS) (o : Option (List (Key × PD))) : Option (PD × AS) := match o with
  | none => none
  | some kvs => iD3 neg as kvs (kOf kd)
@[simp] theorem iD2_some {neg : Bool} {kd : PD} {kvs : List (Key × PD)} : iD2 neg kd as (some kvs) = iD3 neg as kvs (kOf kd) := (rfl)
def iD1 (i : Nat) (neg : Bool) (q : Option (PD × AS)) : Option (PD × AS) := match q with
  | none => none
  | some (kd, as) => iD2 neg kd as (vDc as i)
@[simp] theorem iD1_some {i : Nat} {neg : Bool} {kd : PD} : iD1 i neg (some (kd, as)) = iD2 neg kd as (vDc as i) := (rfl)
@[simp] theorem mInD_ap {i : Nat} {neg : Bool} {mk : M PD} : mInD i neg mk as = iD1 i neg (mk as) := by
  unfold mInD
  cases mk as with
  | none => rfl
  | some q =>
    obtain ⟨kd, as1⟩ := q
    simp only [slotD_eq, iD1_some]
    cases vDc as1 i with
    | none => rfl
    | some kvs =>
      simp only [iD2_some]
      cases kOf kd <;> rfl
@[simp] theorem mInDB_ap {i : Nat} {neg : Bool} {mk : M PD} : mInDB i neg mk as = k1 asB (mInD i neg mk as) := m1_ap
/-- methods that read -/
def bM2 (f : List PD → List PD → Option PD) (x : PD) (q : Option (List PD × AS)) : Option (PD × AS) := match x, q with
  | .list xs, some (ds, as) => pairR (f xs ds) as
  | _, _ => none
@[simp] theorem bM2_some {f : List PD → List PD → Option PD} {xs ds : List PD} : bM2 f (.list xs) (some (ds, as)) = pairR (f xs ds) as := (rfl)
def bM1 (f : List PD → List PD → Option PD) (q : Option (PD × AS)) (ms : M (List PD)) : Option (PD × AS) := match q with
  | none => none
  | some (x, as) => bM2 f x (ms as)
@[simp] theorem bM1_some {f : List PD → List PD → Option PD} {x : PD} {ms : M (List PD)} : bM1 f (some (x, as)) ms = bM2 f x (ms as) := (rfl)
@[simp] theorem mBm_ap {f : List PD → List PD → Option PD} {m : M PD} {ms : M (List PD)} : mBm f m ms as = bM1 f (m as) ms := by
  unfold mBm
  show mBind m _ as = _
  unfold mBind
  cases m as with
  | none => rfl
  | some q =>
    obtain ⟨x, as1⟩ := q
    simp only [bM1_some]
    cases ms as1 with
    | none => cases x <;> rfl
    | some r =>
      cases x with
      | list xs => exact mOpt_ap
      | _ => rfl
end
def kCk {α : Type} (o : Option PD) (q : Option (α × AS)) : Option (α × AS) := match o with
  | none => none
  | some _ => q
@[simp] theorem kCk_some {α : Type} {d : PD} {q : Option (α × AS)} : kCk (some d) q = q := (rfl)
@[simp] theorem mCk_ap {α : Type} {i : Nat} {m : M α} {as : AS} : mCk i m as = kCk (vI as i) (m as) := by
  show (match mI i as with | none => none | some _ => m as) = _
  rw [mI_ap]
  cases vI as i <;> rfl
@[simp] theorem fIxR_ap {x y : PD} : fIxR y x = fIx x y := (rfl)
end Vl

-- U1
set_option Elab.async false
set_option linter.all false
set_option maxRecDepth 100000
set_option maxHeartbeats 4000000
/-! runs with what holds behind them; encoded lists; comprehensions by simp -/
namespace Vl
open PySem L2
/-! ### encoded lists: List.map under a name that simp leaves alone -/
def mp {α β : Type} (f : α → β) (l : List α) : List β := l.map f
theorem mp_map {α β : Type} {f : α → β} {l : List α} : mp f l = l.map f := (rfl)
section
variable {α β γ : Type} {f : α → β} {l m : List α}
@[simp, grind =] theorem mp_length : (mp f l).length = l.length := List.length_map f
@[simp] theorem mp_nil : mp f ([] : List α) = [] := (rfl)
@[simp] theorem mp_cons {x : α} : mp f (x :: l) = f x :: mp f l := (rfl)
theorem mp_append : mp f (l ++ m) = mp f l ++ mp f m := List.map_append
@[simp] theorem mp_app : mp f l ++ mp f m = mp f (l ++ m) := List.map_append.symm
@[simp] theorem mp_mp {g : γ → α} {k : List γ} : mp f (mp g k) = mp (fun x => f (g x)) k := by
  unfold mp; rw [List.map_map]; rfl
@[simp] theorem mp_of_map {g : γ → α} {k : List γ} : mp f (k.map g) = mp (fun x => f (g x)) k := by
  unfold mp; rw [List.map_map]; rfl
theorem mp_set {i : Nat} {x : α} : (mp f l).set i (f x) = mp f (l.set i x) := List.map_set.symm
@[simp] theorem mp_take {i : Nat} : (mp f l).take i = mp f (l.take i) := List.map_take.symm
@[simp] theorem mp_drop {i : Nat} : (mp f l).drop i = mp f (l.drop i) := List.map_drop.symm
@[simp] theorem mp_reverse : (mp f l).reverse = mp f l.reverse := List.map_reverse.symm
@[simp] theorem mp_dropLast : (mp f l).dropLast = mp f l.dropLast := List.map_dropLast.symm
@[simp] theorem mp_id {l : List α} : mp (fun x => x) l = l := List.map_id' l
theorem mp_nil_iff : mp f l = [] ↔ l = [] := List.map_eq_nil_iff
theorem mp_congr {g : α → β} (h : ∀ x ∈ l, f x = g x) : mp f l = mp g l := List.map_congr_left h
theorem mp_inj {h : ∀ x y, f x = f y → x = y} : mp f l = mp f m ↔ l = m := by
  unfold mp
  exact List.map_inj_right (fun x y => h x y)
end
/-- encodings -/
def iN (n : Nat) : PD := .int (n : Int)
@[simp] theorem iN_ap {n : Nat} : iN n = .int (n : Int) := (rfl)
def pr {α β : Type} (e : α → PD) (f : β → PD) (p : α × β) : PD := .tuple [e p.1, f p.2]
@[simp] theorem pr_ap {α β : Type} {e : α → PD} {f : β → PD} {p : α × β} : pr e f p = .tuple [e p.1, f p.2] := (rfl)
def tp {α : Type} (e : α → PD) (l : List α) : PD := .tuple (mp e l)
@[simp] theorem tp_ap {α : Type} {e : α → PD} {l : List α} : tp e l = .tuple (mp e l) := (rfl)
def ls {α : Type} (e : α → PD) (l : List α) : PD := .list (mp e l)
@[simp] theorem ls_ap {α : Type} {e : α → PD} {l : List α} : ls e l = .list (mp e l) := (rfl)
def no {α : Type} (e : α → PD) : Option α → PD
  | none => .none
  | some x => e x
@[simp] theorem no_none {α : Type} {e : α → PD} : no e none = .none := (rfl)
@[simp] theorem no_some {α : Type} {e : α → PD} {x : α} : no e (some x) = e x := (rfl)
@[simp] theorem mp_iN {l : List Nat} : mp (fun (n : Nat) => PyData.int (n : Int)) l = mp iN l := (rfl)
@[simp] theorem mp_tp {α : Type} {e : α → PD} {l : List (List α)} : mp (fun r => PyData.tuple (mp e r)) l = mp (tp e) l := (rfl)
@[simp] theorem mp_ls {α : Type} {e : α → PD} {l : List (List α)} : mp (fun r => PyData.list (mp e r)) l = mp (ls e) l := (rfl)
@[simp] theorem mp_pr {α β : Type} {e : α → PD} {f : β → PD} {l : List (α × β)} : mp (fun p => PyData.tuple [e p.1, f p.2]) l = mp (pr e f) l := (rfl)
@[simp] theorem mp_prN {l : List (Nat × Nat)} : mp (fun p => PyData.tuple [.int (p.1 : Int), .int (p.2 : Int)]) l = mp (pr iN iN) l := (rfl)
/-- the item at a place -/
def nt {α : Type} [Inhabited α] (l : List α) (i : Nat) : α := l.getD i default
theorem nt_eq {α : Type} [Inhabited α] {l : List α} {i : Nat} (h : i < l.length) : nt l i = l[i] := by
  unfold nt
  rw [List.getD_eq_getElem?_getD, List.getElem?_eq_getElem h]; rfl
theorem nt_mem {α : Type} [Inhabited α] {l : List α} {i : Nat} (h : i < l.length) : nt l i ∈ l := by
  rw [nt_eq h]; exact List.getElem_mem h
@[simp] theorem nt_zero {α : Type} [Inhabited α] {x : α} {l : List α} : nt (x :: l) 0 = x := (rfl)
@[simp] theorem nt_succ {α : Type} [Inhabited α] {x : α} {l : List α} {i : Nat} : nt (x :: l) (i + 1) = nt l i := by
  unfold nt; simp
theorem nt_map {α β : Type} [Inhabited α] [Inhabited β] {f : α → β} {l : List α} {i : Nat} (h : i < l.length) : nt (l.map f) i = f (nt l i) := by
  rw [nt_eq (by rw [List.length_map]; exact h), List.getElem_map, nt_eq h]
theorem range_nt {α : Type} [Inhabited α] (l : List α) : (List.range l.length).map (fun j => nt l j) = l := by
  refine List.ext_getElem (by simp) fun i h1 h2 => ?_
  rw [List.getElem_map, List.getElem_range, nt_eq h2]
theorem nt_app_l {α : Type} [Inhabited α] {l m : List α} {i : Nat} (h : i < l.length) : nt (l ++ m) i = nt l i := by
  unfold nt; simp [List.getElem?_append_left h]
theorem nt_app_r {α : Type} [Inhabited α] {l m : List α} {i : Nat} (h : l.length ≤ i) : nt (l ++ m) i = nt m (i - l.length) := by
  unfold nt; simp [List.getElem?_append_right h]
theorem nt_range {n i : Nat} (h : i < n) : nt (List.range n) i = i := by
  rw [nt_eq (by simpa using h)]; simp
theorem fIxL {α : Type} [Inhabited α] {e : α → PD} {l : List α} {i : Nat} (h : i < l.length) : fIx (.list (mp e l)) (.int (i : Int)) = some (.val (e (nt l i))) := by
  rw [fIx_list (by rw [mp_length]; exact h), nt_eq h]
  simp [mp]
theorem fIxT {α : Type} [Inhabited α] {e : α → PD} {l : List α} {i : Nat} (h : i < l.length) : fIx (.tuple (mp e l)) (.int (i : Int)) = some (.val (e (nt l i))) := by
  rw [fIx_tuple (by rw [mp_length]; exact h), nt_eq h]
  simp [mp]
theorem ixN_int {n : Nat} {i : Int} (h : 0 ≤ i) (h2 : i < n) : ixN n i = some i.toNat := by
  obtain ⟨k, rfl⟩ := Int.eq_ofNat_of_zero_le h
  rw [ixN_nat (by omega)]; rfl
theorem fIxLi {α : Type} [Inhabited α] {e : α → PD} {l : List α} {i : Int} (h : 0 ≤ i) (h2 : i < (l.length : Int)) : fIx (.list (mp e l)) (.int i) = some (.val (e (nt l i.toNat))) := by
  obtain ⟨k, rfl⟩ := Int.eq_ofNat_of_zero_le h
  rw [Int.toNat_natCast]; exact fIxL (by omega)
theorem fIxTi {α : Type} [Inhabited α] {e : α → PD} {l : List α} {i : Int} (h : 0 ≤ i) (h2 : i < (l.length : Int)) : fIx (.tuple (mp e l)) (.int i) = some (.val (e (nt l i.toNat))) := by
  obtain ⟨k, rfl⟩ := Int.eq_ofNat_of_zero_le h
  rw [Int.toNat_natCast]; exact fIxT (by omega)
/-- literal tuples and lists -/
def ixL : List PD → Nat → Option PD
  | [], _ => none
  | d :: _, 0 => some d
  | _ :: ds, i + 1 => ixL ds i
@[simp] theorem ixL_zero {d : PD} {ds : List PD} : ixL (d :: ds) 0 = some d := (rfl)
@[simp] theorem ixL_succ {d : PD} {ds : List PD} {i : Nat} : ixL (d :: ds) (i + 1) = ixL ds i := (rfl)
theorem ixL_eq : ∀ (ds : List PD) (i : Nat), ixL ds i = ds[i]?
  | [], _ => rfl
  | _ :: _, 0 => rfl
  | _ :: ds, i + 1 => by rw [ixL_succ, List.getElem?_cons_succ]; exact ixL_eq ds i
def oVal (o : Option PD) : Option Res := match o with
  | none => none
  | some d => some (.val d)
@[simp] theorem oVal_some {d : PD} : oVal (some d) = some (.val d) := (rfl)
theorem fIx_lit {ds : List PD} {i : Nat} (h : i < ds.length) : fIx (.tuple ds) (.int (i : Int)) = oVal (ixL ds i) := by
  rw [fIx_tuple h, ixL_eq, List.getElem?_eq_getElem h]; rfl
theorem fIx_litL {ds : List PD} {i : Nat} (h : i < ds.length) : fIx (.list ds) (.int (i : Int)) = oVal (ixL ds i) := by
  rw [fIx_list h, ixL_eq, List.getElem?_eq_getElem h]; rfl
@[simp] theorem fIx_0 {d : PD} {ds : List PD} : fIx (.tuple (d :: ds)) (.int 0) = some (.val d) := fIx_tuple (ds := d :: ds) (i := 0) (by simp)
@[simp] theorem fIx_1 {d e : PD} {ds : List PD} : fIx (.tuple (d :: e :: ds)) (.int 1) = some (.val e) := fIx_tuple (ds := d :: e :: ds) (i := 1) (by simp)
@[simp] theorem fIx_2 {d e f : PD} {ds : List PD} : fIx (.tuple (d :: e :: f :: ds)) (.int 2) = some (.val f) := fIx_tuple (ds := d :: e :: f :: ds) (i := 2) (by simp)
@[simp] theorem fIx_3 {d e f g : PD} {ds : List PD} : fIx (.tuple (d :: e :: f :: g :: ds)) (.int 3) = some (.val g) := fIx_tuple (ds := d :: e :: f :: g :: ds) (i := 3) (by simp)
@[simp] theorem fIx_L0 {d : PD} {ds : List PD} : fIx (.list (d :: ds)) (.int 0) = some (.val d) := fIx_list (ds := d :: ds) (i := 0) (by simp)
@[simp] theorem fIx_L1 {d e : PD} {ds : List PD} : fIx (.list (d :: e :: ds)) (.int 1) = some (.val e) := fIx_list (ds := d :: e :: ds) (i := 1) (by simp)
@[simp] theorem fIx_L2 {d e f : PD} {ds : List PD} : fIx (.list (d :: e :: f :: ds)) (.int 2) = some (.val f) := fIx_list (ds := d :: e :: f :: ds) (i := 2) (by simp)
@[simp] theorem fIx_L3 {d e f g : PD} {ds : List PD} : fIx (.list (d :: e :: f :: g :: ds)) (.int 3) = some (.val g) := fIx_list (ds := d :: e :: f :: g :: ds) (i := 3) (by simp)
theorem fTupS {xs : List PD} (h : xs.length ≤ 1000) : fTup xs = some (.val (.tuple xs)) := if_pos h
@[simp] theorem fTup0 : fTup [] = some (.val (.tuple [])) := if_pos (by decide)
@[simp] theorem fTup1 {a : PD} : fTup [a] = some (.val (.tuple [a])) := if_pos (by simp)
@[simp] theorem fTup2 {a b : PD} : fTup [a, b] = some (.val (.tuple [a, b])) := if_pos (by simp)
@[simp] theorem fTup3 {a b c : PD} : fTup [a, b, c] = some (.val (.tuple [a, b, c])) := if_pos (by simp)
@[simp] theorem fTup4 {a b c d : PD} : fTup [a, b, c, d] = some (.val (.tuple [a, b, c, d])) := if_pos (by simp)
@[simp] theorem fTup5 {a b c d e : PD} : fTup [a, b, c, d, e] = some (.val (.tuple [a, b, c, d, e])) := if_pos (by simp)
@[simp] theorem fTup6 {a b c d e f : PD} : fTup [a, b, c, d, e, f] = some (.val (.tuple [a, b, c, d, e, f])) := if_pos (by simp)
@[simp] theorem fLst0 : fLst [] = some (.obj (.ol [])) := if_pos (by decide)
@[simp] theorem fLst1 {a : PD} : fLst [a] = some (.obj (.ol [a])) := if_pos (by simp)
@[simp] theorem fLst2 {a b : PD} : fLst [a, b] = some (.obj (.ol [a, b])) := if_pos (by simp)
@[simp] theorem fLst3 {a b c : PD} : fLst [a, b, c] = some (.obj (.ol [a, b, c])) := if_pos (by simp)
@[simp] theorem fLst4 {a b c d : PD} : fLst [a, b, c, d] = some (.obj (.ol [a, b, c, d])) := if_pos (by simp)
@[simp] theorem fLst5 {a b c d e : PD} : fLst [a, b, c, d, e] = some (.obj (.ol [a, b, c, d, e])) := if_pos (by simp)
theorem fR1n {n : Nat} (h : n ≤ 1000000000) : fR1 [.int (n : Int)] = some (mp iN (List.range n)) := by
  rw [fR1_of (by omega), rng_zero]; rfl
theorem fR1i {z : Int} (h : 0 ≤ z) (h2 : z ≤ 1000000000) : fR1 [.int z] = some (mp iN (List.range z.toNat)) := by
  obtain ⟨k, rfl⟩ := Int.eq_ofNat_of_zero_le h
  rw [Int.toNat_natCast]; exact fR1n (by omega)
theorem fR2n {a b : Nat} (h : a ≤ 1000000000) (h2 : b ≤ 1000000000) : fR2 [.int (a : Int), .int (b : Int)] = some (mp iN (List.range' a (b - a))) := fR2_of (by omega) (by omega)
theorem fR2i {a b : Int} (h0 : 0 ≤ a) (h : a ≤ 1000000000) (h1 : 0 ≤ b) (h2 : b ≤ 1000000000) : fR2 [.int a, .int b] = some (mp iN (List.range' a.toNat (b.toNat - a.toNat))) := by
  obtain ⟨k, rfl⟩ := Int.eq_ofNat_of_zero_le h0
  obtain ⟨k', rfl⟩ := Int.eq_ofNat_of_zero_le h1
  rw [Int.toNat_natCast, Int.toNat_natCast]; exact fR2n (by omega) (by omega)
theorem fAppS {xs : List PD} {d : PD} (h : xs.length < 16777216) : fAppend xs [d] = some (.none, xs ++ [d]) := fAppend_ap h
@[simp] theorem nat_is1 {n : Nat} : ((n : Int) = 1) ↔ n = 1 := by omega
@[simp] theorem nat_is2 {n : Nat} : ((n : Int) = 2) ↔ n = 2 := by omega
@[simp] theorem nat_is3 {n : Nat} : ((n : Int) = 3) ↔ n = 3 := by omega
@[simp] theorem nat_is4 {n : Nat} : ((n : Int) = 4) ↔ n = 4 := by omega
@[simp] theorem nat_is5 {n : Nat} : ((n : Int) = 5) ↔ n = 5 := by omega
@[simp] theorem nat_is6 {n : Nat} : ((n : Int) = 6) ↔ n = 6 := by omega
@[simp] theorem nat_is7 {n : Nat} : ((n : Int) = 7) ↔ n = 7 := by omega
@[simp] theorem nat_is8 {n : Nat} : ((n : Int) = 8) ↔ n = 8 := by omega
@[simp] theorem nat_is9 {n : Nat} : ((n : Int) = 9) ↔ n = 9 := by omega
@[simp] theorem nat_is10 {n : Nat} : ((n : Int) = 10) ↔ n = 10 := by omega
/-! ### what holds behind a run -/
def Po (q : Option (Ctl × AS)) (Q : Ctl → AS → Prop) : Prop := ∃ c as', q = some (c, as') ∧ Q c as'
@[simp] theorem Po_some {c : Ctl} {as : AS} {Q : Ctl → AS → Prop} : Po (some (c, as)) Q = Q c as := by
  refine propext ⟨fun ⟨c', as', h, q⟩ => ?_, fun h => ⟨c, as, rfl, h⟩⟩
  cases h; exact q
theorem Po_mono {q : Option (Ctl × AS)} {Q Q' : Ctl → AS → Prop} (h : Po q Q) (k : ∀ c as, Q c as → Q' c as) : Po q Q' := by
  obtain ⟨c, as, e, z⟩ := h
  exact ⟨c, as, e, k c as z⟩
/-- how a turn ends -/
def Cn (N B : AS → Prop) (Q : Ctl → AS → Prop) : Ctl → AS → Prop
  | .nx, as => N as
  | .ct, as => N as
  | .bk, as => B as
  | .rt r, as => Q (.rt r) as
section
variable {N B : AS → Prop} {Q : Ctl → AS → Prop} {as : AS}
@[simp] theorem Cn_nx : Cn N B Q .nx as = N as := (rfl)
@[simp] theorem Cn_ct : Cn N B Q .ct as = N as := (rfl)
@[simp] theorem Cn_bk : Cn N B Q .bk as = B as := (rfl)
@[simp] theorem Cn_rt {r : Res} : Cn N B Q (.rt r) as = Q (.rt r) as := (rfl)
end
theorem Po_end {q : Option (Ctl × AS)} {Q : Ctl → AS → Prop} (h : Po (kT q sNx) Q) : Po q Q := by
  obtain ⟨c, as, e, z⟩ := h
  cases q with
  | none => cases e
  | some p =>
    obtain ⟨c', as'⟩ := p
    cases c' <;> (cases e; exact ⟨_, _, rfl, z⟩)
@[simp] theorem Po_kI {b : Bool} {as : AS} {m n : MS} {Q : Ctl → AS → Prop} : Po (kI (some (b, as)) m n) Q = ((b = true → Po (m as) Q) ∧ (b = false → Po (n as) Q)) := by
  refine propext ?_
  cases b <;> simp
@[simp] theorem kT_kI {b : Bool} {as : AS} {m n r : MS} {Q : Ctl → AS → Prop} : Po (kT (kI (some (b, as)) m n) r) Q = ((b = true → Po (kT (m as) r) Q) ∧ (b = false → Po (kT (n as) r) Q)) := by
  refine propext ?_
  cases b <;> simp
@[simp] theorem kT_kT {q : Option (Ctl × AS)} {m n : MS} : kT (kT q m) n = kT q (sThen m n) := by
  cases q with
  | none => rfl
  | some p => obtain ⟨c, as⟩ := p; cases c <;> simp
theorem runP_po {n k : Nat} {m : MS} {ds : List PD} {r : Res} (hl : ds.length = k) (h : Po (m (startA n ds)) fun c _ => c = .rt r) : runP n k m ds = some r := by
  obtain ⟨c, as, e, rfl⟩ := h
  exact runP_rt hl e
theorem runP_poN {n k : Nat} {m : MS} {ds : List PD} (hl : ds.length = k) (h : Po (m (startA n ds)) fun c _ => c = .nx) : runP n k m ds = some (.val .none) := by
  obtain ⟨c, as, e, rfl⟩ := h
  unfold runP
  rw [if_pos hl, e]
theorem runP_poE {n k : Nat} {m : MS} {ds : List PD} {P : Res → Prop} (hl : ds.length = k) (h : Po (m (startA n ds)) fun c _ => ∃ r, c = .rt r ∧ P r) : ∃ r, runP n k m ds = some r ∧ P r := by
  obtain ⟨c, as, e, r, rfl, z⟩ := h
  exact ⟨r, runP_rt hl e, z⟩
theorem runI_poE {n k j : Nat} {m : MS} {o : Obj} {ds : List PD} {P : PD → Obj → Prop} (hl : ds.length + 1 = k) (hj : j ≤ ds.length) (h : Po (m (startI n j o ds)) fun c as => ∃ d o', c = .rt (.val d) ∧ as[j]? = some (.io o') ∧ P d o') : ∃ d o', runI n k j m o ds = some (d, o') ∧ P d o' := by
  obtain ⟨c, as, e, d, o', rfl, z1, z2⟩ := h
  exact ⟨d, o', runI_rt hl hj e z1, z2⟩
theorem runI_po {n k j : Nat} {m : MS} {o o' : Obj} {ds : List PD} {d : PD} (hl : ds.length + 1 = k) (hj : j ≤ ds.length) (h : Po (m (startI n j o ds)) fun c as => c = .rt (.val d) ∧ as[j]? = some (.io o')) : runI n k j m o ds = some (d, o') := by
  obtain ⟨c, as, e, rfl, z1⟩ := h
  exact runI_rt hl hj e z1
section
variable {α σ : Type} {g : PD → AS → Option AS} {b rest : MS} {as : AS} {Q : Ctl → AS → Prop} {e : α → PD}
/-- a for, by what holds of the items gone -/
theorem Po_for {l : List α} (R : List α → AS → Prop) (h0 : R [] as) (step : ∀ pre x suf as, l = pre ++ x :: suf → R pre as → Po (kTn (g (e x) as) b) (Cn (R (pre ++ [x])) (fun as => Po (rest as) Q) Q))
    (fin : ∀ as, R l as → Po (rest as) Q) : Po (kT (forL g b (mp e l) as) rest) Q := by
  have key : ∀ (suf pre : List α) (as : AS), l = pre ++ suf → R pre as → Po (kT (forL g b (mp e suf) as) rest) Q := fun suf => by
    induction suf with
    | nil =>
      intro pre as hl h
      rw [List.append_nil] at hl
      subst hl
      exact fin as h
    | cons x suf ih =>
      intro pre as hl h
      obtain ⟨c, as2, h1, h2⟩ := step pre x suf as hl h
      obtain ⟨as1, h3, h4⟩ := kTn_of h1
      rw [mp_cons]
      unfold forL
      rw [h3]
      simp only [h4]
      cases c with
      | nx => exact ih (pre ++ [x]) as2 (by rw [hl, List.append_assoc]; rfl) h2
      | ct => exact ih (pre ++ [x]) as2 (by rw [hl, List.append_assoc]; rfl) h2
      | bk => exact h2
      | rt r => exact ⟨_, _, rfl, h2⟩
  exact key l [] as rfl h0
/-- .. by a fold -/
theorem Po_fold {l : List α} (f : σ → α → σ) (R : σ → AS → Prop) (s : σ) (h0 : R s as) (step : ∀ s x as, x ∈ l → R s as → Po (kTn (g (e x) as) b) (Cn (R (f s x)) (fun as => Po (rest as) Q) Q))
    (fin : ∀ as, R (l.foldl f s) as → Po (rest as) Q) : Po (kT (forL g b (mp e l) as) rest) Q := by
  refine Po_for (fun pre as => R (pre.foldl f s) as) h0 (fun pre x suf as hl h => ?_) fin
  have := step (pre.foldl f s) x as (by rw [hl]; simp) h
  simp only [List.foldl_append, List.foldl_cons, List.foldl_nil]
  exact this
/-- .. over range(n) -/
theorem Po_rg {n : Nat} (R : Nat → AS → Prop) (h0 : R 0 as) (step : ∀ i as, i < n → R i as → Po (kTn (g (.int (i : Int)) as) b) (Cn (R (i + 1)) (fun as => Po (rest as) Q) Q))
    (fin : ∀ as, R n as → Po (rest as) Q) : Po (kT (forL g b (mp iN (List.range n)) as) rest) Q := by
  refine Po_for (fun pre as => R pre.length as) h0 (fun pre x suf as hl h => ?_) (fun as h => fin as (by simpa using h))
  have hx : x = pre.length ∧ pre.length < n := by
    have e1 : (List.range n)[pre.length]? = some x := by rw [hl]; simp
    have hlt : pre.length < n := by
      have := congrArg List.length hl
      simp at this; omega
    rw [List.getElem?_range hlt] at e1
    exact ⟨(Option.some.inj e1).symm, hlt⟩
  obtain ⟨rfl, hlt⟩ := hx
  have := step pre.length as hlt h
  simp only [List.length_append, List.length_cons, List.length_nil, iN_ap]
  exact this
theorem Po_rg' {a n : Nat} (R : Nat → AS → Prop) (h0 : R a as) (step : ∀ i as, a ≤ i → i < a + n → R i as → Po (kTn (g (.int (i : Int)) as) b) (Cn (R (i + 1)) (fun as => Po (rest as) Q) Q))
    (fin : ∀ as, R (a + n) as → Po (rest as) Q) : Po (kT (forL g b (mp iN (List.range' a n)) as) rest) Q := by
  refine Po_for (fun pre as => R (a + pre.length) as) h0 (fun pre x suf as hl h => ?_) (fun as h => fin as (by simpa using h))
  have hx : x = a + pre.length ∧ pre.length < n := by
    have e1 : (List.range' a n)[pre.length]? = some x := by rw [hl]; simp
    have hlt : pre.length < n := by
      have := congrArg List.length hl
      simp at this; omega
    rw [List.getElem?_range' hlt] at e1
    have := Option.some.inj e1
    exact ⟨by omega, hlt⟩
  obtain ⟨rfl, hlt⟩ := hx
  have := step (a + pre.length) as (by omega) (by omega) h
  simp only [List.length_append, List.length_cons, List.length_nil, iN_ap]
  exact this
/-- a for over items that are told one by one -/
theorem Po_forD {ds : List PD} (R : Nat → AS → Prop) (h0 : R 0 as) (step : ∀ i d as, ds[i]? = some d → R i as → Po (kTn (g d as) b) (Cn (R (i + 1)) (fun as => Po (rest as) Q) Q))
    (fin : ∀ as, R ds.length as → Po (rest as) Q) : Po (kT (forL g b ds as) rest) Q := by
  have := Po_for (e := id) (l := ds) (g := g) (b := b) (rest := rest) (Q := Q) (as := as) (fun pre as => R pre.length as) h0 (fun pre x suf as hl h => by
    have := step pre.length x as (by rw [hl]; simp) h
    simp only [List.length_append, List.length_cons, List.length_nil]
    exact this) fin
  simpa [mp] using this
@[simp] theorem forL_nil : forL g b [] as = some (.nx, as) := (rfl)
/-- a while, by a measure -/
theorem Po_while {c : M Bool} (R : Nat → AS → Prop) (k : Nat) (hk : k < 1000000000) (h0 : R k as)
    (step : ∀ k as, R k as → Po (kI (c as) b sBk) (Cn (fun as => ∃ k' < k, R k' as) (fun as => Po (rest as) Q) Q)) : Po (kT (sWhile c b as) rest) Q := by
  have key : ∀ (f k : Nat) (as : AS), k < f → R k as → Po (kT (whileL c b f as) rest) Q := fun f => by
    induction f with
    | zero => intro k as hk; omega
    | succ f ih =>
      intro k as hk h
      obtain ⟨ct, as2, h1, h2⟩ := step k as h
      unfold whileL
      cases hc : c as with
      | none => rw [hc] at h1; cases h1
      | some p =>
        obtain ⟨v, as1⟩ := p
        rw [hc] at h1
        cases v with
        | false => cases h1; exact h2
        | true =>
          have h3 : b as1 = some (ct, as2) := h1
          simp only [h3]
          cases ct with
          | nx => obtain ⟨k', hk', h2⟩ := h2; exact ih k' as2 (by omega) h2
          | ct => obtain ⟨k', hk', h2⟩ := h2; exact ih k' as2 (by omega) h2
          | bk => exact h2
          | rt r => exact ⟨_, _, rfl, h2⟩
  exact key 1000000000 k as hk h0
end
/-! ### tests and values that change nothing -/
def kAnd (b : Bool) (q : Option (Bool × AS)) (as : AS) : Option (Bool × AS) := if b = true then q else some (false, as)
@[simp] theorem kAnd_some {b c : Bool} {as : AS} : kAnd b (some (c, as)) as = some (b && c, as) := by cases b <;> rfl
@[simp] theorem kAnd_true {q : Option (Bool × AS)} {as : AS} : kAnd true q as = q := (rfl)
@[simp] theorem kAnd_false {q : Option (Bool × AS)} {as : AS} : kAnd false q as = some (false, as) := (rfl)
@[simp] theorem kI_and {b : Bool} {as : AS} {n : M Bool} : kI (some (b, as)) n (mPure false) = kAnd b (n as) as := by cases b <;> rfl
def kOr (b : Bool) (q : Option (Bool × AS)) (as : AS) : Option (Bool × AS) := if b = true then some (true, as) else q
@[simp] theorem kOr_some {b c : Bool} {as : AS} : kOr b (some (c, as)) as = some (b || c, as) := by cases b <;> rfl
@[simp] theorem kOr_true {q : Option (Bool × AS)} {as : AS} : kOr true q as = some (true, as) := (rfl)
@[simp] theorem kOr_false {q : Option (Bool × AS)} {as : AS} : kOr false q as = q := (rfl)
@[simp] theorem kI_or {b : Bool} {as : AS} {n : M Bool} : kI (some (b, as)) (mPure true) n = kOr b (n as) as := by cases b <;> rfl
def kAndV (b : Bool) (q : Option (PD × AS)) (as : AS) : Option (PD × AS) := if b = true then q else some (.bool false, as)
@[simp] theorem kAndV_some {b c : Bool} {as : AS} : kAndV b (some (.bool c, as)) as = some (.bool (b && c), as) := by cases b <;> rfl
@[simp] theorem kAndV_true {q : Option (PD × AS)} {as : AS} : kAndV true q as = q := (rfl)
@[simp] theorem kAndV_false {q : Option (PD × AS)} {as : AS} : kAndV false q as = some (.bool false, as) := (rfl)
@[simp] theorem kIV_and {b : Bool} {as : AS} {n : M PD} : kIV (some (.bool b, as)) n (mPure (.bool false)) = kAndV b (n as) as := by cases b <;> rfl
def kOrV (b : Bool) (q : Option (PD × AS)) (as : AS) : Option (PD × AS) := if b = true then some (.bool true, as) else q
@[simp] theorem kOrV_some {b c : Bool} {as : AS} : kOrV b (some (.bool c, as)) as = some (.bool (b || c), as) := by cases b <;> rfl
@[simp] theorem kOrV_true {q : Option (PD × AS)} {as : AS} : kOrV true q as = some (.bool true, as) := (rfl)
@[simp] theorem kOrV_false {q : Option (PD × AS)} {as : AS} : kOrV false q as = q := (rfl)
@[simp] theorem kIV_or {b : Bool} {as : AS} {n : M PD} : kIV (some (.bool b, as)) (mPure (.bool true)) n = kOrV b (n as) as := by cases b <;> rfl
/-- x if c else y -/
def kIf (b : Bool) (p q : Option (PD × AS)) : Option (PD × AS) := if b = true then p else q
@[simp] theorem kIf_some {b : Bool} {x y : PD} {as : AS} : kIf b (some (x, as)) (some (y, as)) = some (if b = true then x else y, as) := by cases b <;> rfl
@[simp] theorem kIf_true {p q : Option (PD × AS)} : kIf true p q = p := (rfl)
@[simp] theorem kIf_false {p q : Option (PD × AS)} : kIf false p q = q := (rfl)
def mIteV (c : M Bool) (m n : M PD) : M PD := mIte c m n
theorem kI_val {b : Bool} {as : AS} {m n : M PD} : kI (some (b, as)) m n = kIf b (m as) (n as) := by cases b <;> rfl
@[simp] theorem ite_int {c : Prop} [Decidable c] {i j : Int} : (if c then PyData.int i else PyData.int j) = .int (if c then i else j) := by split <;> rfl
@[simp] theorem ite_bool {c : Prop} [Decidable c] {i j : Bool} : (if c then PyData.bool i else PyData.bool j) = .bool (if c then i else j) := by split <;> rfl
@[simp] theorem isN_n : isN .none = true := (rfl)
@[simp] theorem isN_b {b : Bool} : isN (.bool b) = false := (rfl)
@[simp] theorem isN_i {b : Int} : isN (.int b) = false := (rfl)
@[simp] theorem isN_s {b : Str} : isN (.str b) = false := (rfl)
@[simp] theorem isN_t {b : List PD} : isN (.tuple b) = false := (rfl)
@[simp] theorem isN_l {b : List PD} : isN (.list b) = false := (rfl)
end Vl

-- U2
set_option Elab.async false
set_option linter.all false
set_option maxRecDepth 100000
set_option maxHeartbeats 4000000
/-! comprehensions by simp -/
namespace Vl
open PySem L2
section
variable {α β : Type} {g : PD → AS → Option AS} {c : M Bool} {el : M PD} {as : AS} {vs : List Nat} {e : α → PD}
def kB2 (q : Option (PD × AS)) : Option (Option PD × AS) := match q with
  | none => none
  | some (y, as) => some (some y, as)
def kB1 (q : Option (Bool × AS)) (el : M PD) : Option (Option PD × AS) := match q with
  | none => none
  | some (false, as) => some (none, as)
  | some (true, as) => kB2 (el as)
def kB (q : Option AS) (c : M Bool) (el : M PD) : Option (Option PD × AS) := match q with
  | none => none
  | some as => kB1 (c as) el
def bo (b : Bool) (y : PD) : Option PD := if b = true then some y else none
@[simp] theorem bo_true {y : PD} : bo true y = some y := (rfl)
@[simp] theorem bo_false {y : PD} : bo false y = none := (rfl)
@[simp] theorem kB2_some {y : PD} : kB2 (some (y, as)) = some (some y, as) := (rfl)
@[simp] theorem kB_some : kB (some as) c el = kB1 (c as) el := (rfl)
@[simp] theorem kB1_true : kB1 (some (true, as)) el = kB2 (el as) := (rfl)
@[simp] theorem kB1_false : kB1 (some (false, as)) el = some (none, as) := (rfl)
def kBo (b : Bool) (q : Option (Option PD × AS)) (as : AS) : Option (Option PD × AS) := if b = true then q else some (none, as)
@[simp] theorem kB1_some {b : Bool} : kB1 (some (b, as)) el = kBo b (kB2 (el as)) as := by cases b <;> rfl
@[simp] theorem kBo_some {b : Bool} {y : PD} : kBo b (some (some y, as)) as = some (bo b y, as) := by cases b <;> rfl
@[simp] theorem kBo_true {q : Option (Option PD × AS)} : kBo true q as = q := (rfl)
@[simp] theorem kBo_false {q : Option (Option PD × AS)} : kBo false q as = some (none, as) := (rfl)
/-- slots made free -/
def unS : Nat → AS → AS
  | _, [] => []
  | 0, _ :: l => .un :: l
  | i + 1, s :: l => s :: unS i l
@[simp] theorem unS_zero {s : Slot} {l : AS} : unS 0 (s :: l) = .un :: l := (rfl)
@[simp] theorem unS_succ {s : Slot} {l : AS} {i : Nat} : unS (i + 1) (s :: l) = s :: unS i l := (rfl)
theorem unS_eq : ∀ (i : Nat) (as : AS), unS i as = as.set i .un
  | i, [] => by cases i <;> rfl
  | 0, _ :: _ => rfl
  | i + 1, s :: l => by rw [unS_succ, unS_eq i l]; rfl
@[simp] theorem clr_nil : clr [] as = as := (rfl)
@[simp] theorem clr_cons {i : Nat} {is : List Nat} : clr (i :: is) as = unS i (clr is as) := by rw [unS_eq]; rfl
def udS : Slot → Bool
  | .un => true
  | .dur _ => true
  | _ => false
def udL : Nat → AS → Bool
  | _, [] => true
  | 0, s :: _ => udS s
  | i + 1, _ :: l => udL i l
@[simp] theorem udS_un : udS .un = true := of_eq_true (eq_self true)
@[simp] theorem udS_dur {d : PD} : udS (.dur d) = true := of_eq_true (eq_self true)
@[simp] theorem udS_isF {s : Slot} (h : udS s = true) : isF s = true := by
  cases s with
  | io o => cases h
  | own o => cases h
  | rw _ => cases h
  | _ => rfl
@[simp] theorem udL_zero {s : Slot} {l : AS} : udL 0 (s :: l) = udS s := (rfl)
@[simp] theorem udL_succ {s : Slot} {l : AS} {i : Nat} : udL (i + 1) (s :: l) = udL i l := (rfl)
theorem udL_eq : ∀ (i : Nat) (as : AS), udL i as = match as.getD i .un with | .un => true | .dur _ => true | _ => false
  | i, [] => by cases i <;> rfl
  | 0, s :: _ => by cases s <;> rfl
  | i + 1, s :: l => by rw [udL_succ, udL_eq i l]; simp
@[simp] theorem free_nil : free [] as = true := (rfl)
@[simp] theorem free_cons {i : Nat} {is : List Nat} : free (i :: is) as = (udL i as && free is as) := by
  rw [udL_eq]; rfl
def kL2 (vs : List Nat) (as : AS) (q : Option (List PD × AS)) : Option (Res × AS) := match q with
  | none => none
  | some (ys, as2) => if free vs as = true ∧ ys.length ≤ sizeLine then some (.obj (.ol ys), back vs as as2) else none
def kLc (vs : List Nat) (g : PD → AS → Option AS) (c : M Bool) (el : M PD) (q : Option (List PD × AS)) : Option (Res × AS) := match q with
  | none => none
  | some (ds, as) => kL2 vs as (lcL vs g c el ds (clr vs as))
@[simp] theorem mLc_ap {mi : M (List PD)} : mLc vs mi g c el as = kLc vs g c el (mi as) := by
  unfold mLc kLc
  cases mi as with
  | none => rfl
  | some q =>
    obtain ⟨ds, as1⟩ := q
    simp only [kL2]
    all_goals (cases lcL vs g c el ds (clr vs as1) <;> rfl)
theorem lcL_cons {d : PD} {ds : List PD} : lcL vs g c el (d :: ds) as = match kB (g d as) c el with
    | none => none
    | some (o, as2) => (lcL vs g c el ds (clr vs as2)).map fun q => (o.toList ++ q.1, q.2) := by
  show (match g d as with
    | none => none
    | some as1 => match c as1 with
      | none => none
      | some (false, as2) => lcL vs g c el ds (clr vs as2)
      | some (true, as2) => match el as2 with
        | none => none
        | some (y, as3) => match lcL vs g c el ds (clr vs as3) with
          | none => none
          | some (ys, as4) => some (y :: ys, as4)) = _
  cases g d as with
  | none => rfl
  | some as1 =>
    simp only [kB_some]
    cases c as1 with
    | none => rfl
    | some p =>
      obtain ⟨b, as3⟩ := p
      cases b with
      | false =>
        simp only [kB1_false]
        cases lcL vs g c el ds (clr vs as3) <;> rfl
      | true =>
        simp only [kB1_true]
        cases el as3 with
        | none => rfl
        | some r =>
          obtain ⟨y, as4⟩ := r
          simp only [kB2_some]
          cases lcL vs g c el ds (clr vs as4) <;> rfl
theorem lcL_step {d : PD} {ds : List PD} {o : Option PD} {as2 : AS} (h : kB (g d as) c el = some (o, as2)) : lcL vs g c el (d :: ds) as = (lcL vs g c el ds (clr vs as2)).map fun q => (o.toList ++ q.1, q.2) := by
  rw [lcL_cons, h]
theorem lcL_pureF {F : α → Option (Option PD × AS)} (hF : ∀ x, F x = kB (g (e x) (clr vs as)) c el) : ∀ l : List α, (∀ x ∈ l, ∃ o s, F x = some (o, s) ∧ clr vs s = clr vs as) →
    lcL vs g c el (mp e l) (clr vs as) = some (l.filterMap fun x => (F x).bind (·.1), clr vs as)
  | [], _ => rfl
  | x :: l, h => by
    obtain ⟨o, s, h1, h2⟩ := h x List.mem_cons_self
    have ih := lcL_pureF hF l fun y hy => h y (List.mem_cons_of_mem _ hy)
    rw [mp_cons, lcL_step (by rw [← hF]; exact h1), h2, ih, List.filterMap_cons, h1]
    cases o <;> rfl
theorem attF {l : List α} (F : α → Option PD) : (l.attach.filterMap fun x => F x.1) = l.filterMap F := by
  have h := List.filterMap_map (l := l.attach) (f := fun i => i.1) (g := F)
  have h2 := List.attach_map_val (l := l) (f := fun x => x)
  rw [List.map_id'] at h2
  rw [h2] at h
  rw [h]; rfl
open Classical in
noncomputable def kLd (g : PD → AS → Option AS) (c : M Bool) (el : M PD) (e : α → PD) (vs : List Nat) (as : AS) (l : List α) (F : (x : α) → x ∈ l → Option (Option PD × AS)) : Option (Res × AS) :=
  if (∀ x, ∀ h : x ∈ l, ∃ o s, F x h = some (o, s) ∧ clr vs s = clr vs as) ∧ free vs as = true ∧ l.length ≤ 16777216 then some (.obj (.ol (l.attach.filterMap fun x => (F x.1 x.2).bind (·.1))), as) else kLc vs g c el (some (mp e l, as))
@[simp] theorem kLc_mp {l : List α} : kLc vs g c el (some (mp e l, as)) = kLd g c el e vs as l (fun x _ => kB (g (e x) (clr vs as)) c el) := by
  unfold kLd
  split
  · rename_i h
    obtain ⟨h1, h2, h3⟩ := h
    show kL2 vs as _ = _
    rw [lcL_pureF (fun _ => rfl) l h1]
    show (if _ then _ else _) = _
    rw [if_pos ⟨h2, by rw [sizeLine_eq]; exact Nat.le_trans (List.length_filterMap_le _ _) h3⟩, back_clr]
    have : l.attach.filterMap (fun x : {x // x ∈ l} => (kB (g (e x.1) (clr vs as)) c el).bind (·.1)) = l.filterMap (fun x => (kB (g (e x) (clr vs as)) c el).bind (·.1)) := by
      exact attF fun x => (kB (g (e x) (clr vs as)) c el).bind (·.1)
    rw [this]
  · rfl
theorem kLd_map {l : List α} {f : α → PD} {s : α → AS} (hf : free vs as = true) (hl : l.length ≤ 16777216) (hs : ∀ x ∈ l, clr vs (s x) = clr vs as) : kLd g c el e vs as l (fun x _ => some (some (f x), s x)) = some (.obj (.ol (mp f l)), as) := by
  unfold kLd
  rw [if_pos ⟨fun x hx => ⟨_, _, rfl, hs x hx⟩, hf, hl⟩]
  congr 4
  rw [attF fun x => (some (some (f x), s x)).bind (·.1)]
  clear hl hs
  induction l with
  | nil => rfl
  | cons x l ih => rw [List.filterMap_cons, mp_cons, ih]; rfl
theorem kLd_if {l : List α} {b : α → Bool} {f : α → PD} {s : α → AS} (hf : free vs as = true) (hl : l.length ≤ 16777216) (hs : ∀ x ∈ l, clr vs (s x) = clr vs as) : kLd g c el e vs as l (fun x _ => some (bo (b x) (f x), s x)) = some (.obj (.ol (mp f (l.filter b))), as) := by
  unfold kLd
  rw [if_pos ⟨fun x hx => ⟨_, _, rfl, hs x hx⟩, hf, hl⟩]
  congr 4
  rw [attF fun x => (some (bo (b x) (f x), s x)).bind (·.1)]
  clear hl hs
  induction l with
  | nil => rfl
  | cons x l ih =>
    rw [List.filterMap_cons, ih]
    cases hb : b x with
    | false => rw [List.filter_cons_of_neg (by simp [hb])]; simp [hb]
    | true => rw [List.filter_cons_of_pos hb, mp_cons]; simp [hb]
theorem kLd_none {l : List α} {s : α → AS} (hf : free vs as = true) (hl : l.length ≤ 16777216) (hs : ∀ x ∈ l, clr vs (s x) = clr vs as) : kLd g c el e vs as l (fun x _ => some (none, s x)) = some (.obj (.ol []), as) := by
  have := kLd_if (g := g) (c := c) (el := el) (e := e) (vs := vs) (as := as) (l := l) (b := fun _ => false) (f := fun _ => .none) (s := s) hf hl hs
  rw [List.filter_eq_nil_iff.mpr (fun _ _ => by simp)] at this
  exact this
/-- by hand: what the body gives for the items -/
theorem kLd_mapE {l : List α} {F : (x : α) → x ∈ l → Option (Option PD × AS)} (f : α → PD) (s : α → AS) (hf : free vs as = true) (hl : l.length ≤ 16777216) (h : ∀ x hx, F x hx = some (some (f x), s x)) (hs : ∀ x ∈ l, clr vs (s x) = clr vs as) : kLd g c el e vs as l F = some (.obj (.ol (mp f l)), as) := by
  have : F = fun x _ => some (some (f x), s x) := by funext x hx; exact h x hx
  rw [this, kLd_map hf hl hs]
theorem kLd_ifE {l : List α} {F : (x : α) → x ∈ l → Option (Option PD × AS)} (b : α → Bool) (f : α → PD) (s : α → AS) (hf : free vs as = true) (hl : l.length ≤ 16777216) (h : ∀ x hx, F x hx = some (bo (b x) (f x), s x)) (hs : ∀ x ∈ l, clr vs (s x) = clr vs as) : kLd g c el e vs as l F = some (.obj (.ol (mp f (l.filter b))), as) := by
  have : F = fun x _ => some (bo (b x) (f x), s x) := by funext x hx; exact h x hx
  rw [this, kLd_if hf hl hs]
/-- few items, one by one -/
def kLu (vs : List Nat) (as : AS) (g : PD → AS → Option AS) (c : M Bool) (el : M PD) (ds : List PD) (q : Option (Option PD × AS)) (acc : List PD) : Option (Res × AS) := match q with
  | none => none
  | some (o, s) => (match lcL vs g c el ds (clr vs s) with
    | none => none
    | some (ys, as2) => if free vs as = true ∧ (acc ++ (o.toList ++ ys)).length ≤ sizeLine then some (.obj (.ol (acc ++ (o.toList ++ ys))), back vs as as2) else none)
theorem kLc_two {d1 d2 : PD} {o1 o2 : Option PD} {s1 s2 : AS} (h1 : kB (g d1 (clr vs as)) c el = some (o1, s1)) (e1 : clr vs s1 = clr vs as) (h2 : kB (g d2 (clr vs as)) c el = some (o2, s2)) (e2 : clr vs s2 = clr vs as) (hf : free vs as = true) : kLc vs g c el (some ([d1, d2], as)) = some (.obj (.ol (o1.toList ++ o2.toList)), as) := by
  show kL2 vs as _ = _
  rw [lcL_step h1, e1, lcL_step h2, e2]
  show kL2 vs as (some (o1.toList ++ (o2.toList ++ []), clr vs as)) = _
  rw [List.append_nil]
  unfold kL2
  simp only
  rw [if_pos ⟨hf, by rw [sizeLine_eq, List.length_append]; cases o1 <;> cases o2 <;> simp⟩, back_clr]
/-- turns that change the state: the draws in it -/
theorem lcL_st {σ : Type} (st : σ → AS) (P : α → Option PD → Prop) : ∀ (l : List α) (s : σ), (∀ x ∈ l, ∀ s, ∃ o s' as', kB (g (e x) (clr vs (st s))) c el = some (o, as') ∧ clr vs as' = clr vs (st s') ∧ P x o) →
    ∃ (os : List (Option PD)) (s' : σ), lcL vs g c el (mp e l) (clr vs (st s)) = some ((os.map Option.toList).flatten, clr vs (st s')) ∧ os.length = l.length ∧ ∀ (i : Nat) (x : α) (o : Option PD), l[i]? = some x → os[i]? = some o → P x o
  | [], s, _ => ⟨[], s, rfl, rfl, fun i x o h => by simp at h⟩
  | x :: l, s, h => by
    obtain ⟨o, s1, as1, h1, h2, h3⟩ := h x List.mem_cons_self s
    obtain ⟨os, s', h4, h5, h6⟩ := lcL_st st P l s1 fun y hy => h y (List.mem_cons_of_mem _ hy)
    refine ⟨o :: os, s', ?_, by simp [h5], fun i y p hy hp => ?_⟩
    · rw [mp_cons, lcL_step h1, h2, h4]; rfl
    · cases i with
      | zero => simp at hy hp; subst hy hp; exact h3
      | succ i => simp at hy hp; exact h6 i y p hy hp
theorem kLc_st {σ : Type} (st : σ → AS) (eo : β → PD) (P : α → β → Prop) (l : List α) (s : σ) (h : ∀ x ∈ l, ∀ s, ∃ y s' as', kB (g (e x) (clr vs (st s))) c el = some (some (eo y), as') ∧ clr vs as' = clr vs (st s') ∧ P x y)
    (hf : free vs (st s) = true) (hl : l.length ≤ 16777216) (hb : ∀ s', back vs (st s) (clr vs (st s')) = back vs (st s') (clr vs (st s'))) :
    ∃ (ys : List β) (s' : σ), kLc vs g c el (some (mp e l, st s)) = some (.obj (.ol (mp eo ys)), st s') ∧ ys.length = l.length ∧ ∀ (i : Nat) (x : α) (y : β), l[i]? = some x → ys[i]? = some y → P x y := by
  obtain ⟨os, s', h1, h2, h3⟩ := lcL_st (g := g) (c := c) (el := el) (vs := vs) (e := e) st (fun x o => ∃ y, o = some (eo y) ∧ P x y) l s fun x hx s => by
    obtain ⟨y, s', as', k1, k2, k3⟩ := h x hx s
    exact ⟨_, s', as', k1, k2, y, rfl, k3⟩
  have key : ∀ (l : List α) (os : List (Option PD)), os.length = l.length → (∀ (i : Nat) (x : α) (o : Option PD), l[i]? = some x → os[i]? = some o → ∃ y, o = some (eo y) ∧ P x y) → ∃ ys : List β, (os.map Option.toList).flatten = mp eo ys ∧ ys.length = l.length ∧ ∀ (i : Nat) (x : α) (y : β), l[i]? = some x → ys[i]? = some y → P x y := fun l => by
    induction l with
    | nil => intro os h _; cases os with
      | nil => exact ⟨[], rfl, rfl, fun i x y h => by simp at h⟩
      | cons => simp at h
    | cons x l ih =>
      intro os h k
      cases os with
      | nil => simp at h
      | cons o os =>
        obtain ⟨y, rfl, hp⟩ := k 0 x o rfl rfl
        obtain ⟨ys, q1, q2, q3⟩ := ih os (by simpa using h) fun i x o h1 h2 => k (i + 1) x o (by simpa using h1) (by simpa using h2)
        refine ⟨y :: ys, by simp [q1], by simp [q2], fun i a b ha hb => ?_⟩
        cases i with
        | zero => simp at ha hb; subst ha hb; exact hp
        | succ i => simp at ha hb; exact q3 i a b ha hb
  obtain ⟨ys, q1, q2, q3⟩ := key l os h2 h3
  refine ⟨ys, s', ?_, q2, q3⟩
  show kL2 vs (st s) _ = _
  rw [h1, q1]
  unfold kL2
  simp only
  rw [if_pos ⟨hf, by rw [mp_length, q2, sizeLine_eq]; exact hl⟩, hb, back_clr]
end
/-! ### the next draw, as a function -/
def tkV (ds : List Int) (n : Int) : Nat := (ds.getLast?.getD 0 % n).toNat
def tkR (ds : List Int) : List Int := ds.dropLast
theorem tkV_lt {ds : List Int} {n : Int} (h : 0 < n) : (tkV ds n : Int) < n := by
  unfold tkV
  have := Int.emod_lt_of_pos (ds.getLast?.getD 0) h
  have := Int.emod_nonneg (ds.getLast?.getD 0) (show n ≠ 0 by omega)
  omega
theorem take_fn {ds : List Int} {n : Int} (hn : 0 < n) : runI 2 2 0 gTake (.ol (mp .int ds)) [.int n] = some (.int (tkV ds n), .ol (mp .int (tkR ds))) := by
  unfold tkV tkR
  rw [Int.toNat_of_nonneg (Int.emod_nonneg _ (by omega))]
  by_cases h : ds = []
  · subst h
    refine runI_rt (o' := .ol []) (as' := [.io (.ol []), .dur (.int n)]) rfl (Nat.zero_le _) ?_ rfl
    rw [show startI 2 0 (.ol (mp PyData.int [])) [PyData.int n] = [.io (.ol []), .dur (.int n)] from rfl]
    simp [gTake]
  · have h0 : 0 < ds.length := List.length_pos_iff.mpr h
    refine runI_rt (o' := .ol (ds.dropLast.map .int)) (as' := [.io (.ol (ds.dropLast.map .int)), .dur (.int n)]) rfl (Nat.zero_le _) ?_ rfl
    rw [show startI 2 0 (.ol (mp PyData.int ds)) [PyData.int n] = [.io (.ol (ds.map .int)), .dur (.int n)] from rfl]
    have ep : fPop (ds.map PyData.int) [] = some (.int (ds.getLast?.getD 0), (ds.dropLast).map .int) := by
      show ((ds.map PyData.int)[(ds.map PyData.int).length - 1]?).map (fun d => (d, (ds.map PyData.int).dropLast)) = _
      rw [List.length_map, List.getElem?_map, List.getElem?_eq_getElem (by omega), List.getLast?_eq_getElem?, List.getElem?_eq_getElem (by omega)]
      simp [List.map_dropLast]
    simp [gTake, h, ep, iMod_ap hn]
/-! ### more values -/
theorem fAllE {α : Type} {b : α → Bool} {l : List α} : fAll [.list (mp (fun x => .bool (b x)) l)] = some (.bool (l.all b)) := by
  rw [fAll_of (bs := l.map b) (by simp [mp])]
  simp [List.all_map]
theorem fAnyE {α : Type} {b : α → Bool} {l : List α} : fAny [.list (mp (fun x => .bool (b x)) l)] = some (.bool (l.any b)) := by
  rw [fAny_of (bs := l.map b) (by simp [mp])]
  simp [List.any_map]
theorem fSumE {α : Type} {b : α → Int} {l : List α} : fSum [.list (mp (fun x => .int (b x)) l)] = some (.int (l.map b).sum) := by
  rw [fSum_of (ns := l.map b) (by simp [mp])]
theorem fSumI {l : List Int} : fSum [.list (mp .int l)] = some (.int l.sum) := by
  rw [fSum_of (ns := l) (by simp [mp])]
theorem fSumN {l : List Nat} : fSum [.list (mp iN l)] = some (.int (l.map fun (i : Nat) => (i : Int)).sum) := fSumE (b := fun (i : Nat) => (i : Int))
end Vl

-- U3
set_option Elab.async false
set_option linter.all false
set_option maxRecDepth 100000
set_option maxHeartbeats 4000000
/-! encoded data: equality, in, sets, appended items -/
namespace Vl
open PySem L2
/-- an encoding under which data are equal just if what they stand for is -/
class EqC {α : Type} [DecidableEq α] (n : outParam Nat) (f : α → PD) : Prop where
  ok : EqE n f
instance : EqC 0 PyData.int := ⟨eqe_int⟩
theorem eqe_bool : EqE 0 PyData.bool := fun x => ⟨rfl, fun y => by cases x <;> cases y <;> rfl⟩
instance : EqC 0 PyData.bool := ⟨eqe_bool⟩
instance : EqC 0 iN := ⟨fun x => ⟨rfl, fun y => by
  show PyData.eqv (.int x) (.int y) = _
  rw [(eqe_int (x : Int)).2 (y : Int)]
  simp⟩⟩
instance {α : Type} [DecidableEq α] {n : Nat} {e : α → PD} [h : EqC n e] : EqC (n + 1) (tp e) := ⟨eqe_tup h.ok⟩
instance {α : Type} [DecidableEq α] {n : Nat} {e : α → PD} [h : EqC n e] : EqC (n + 1) (ls e) := ⟨eqe_list h.ok⟩
theorem eqe_pr {α β : Type} [DecidableEq α] [DecidableEq β] {n m : Nat} {e : α → PD} {f : β → PD} (h : EqE n e) (k : EqE m f) : EqE (max n m + 1) (pr e f) := fun x => by
  have h1 := (h x.1).1
  have k1 := (k x.2).1
  unfold sh at h1 k1
  simp only [Bool.and_eq_true, decide_eq_true_eq] at h1 k1
  refine ⟨?_, fun y => ?_⟩
  · have a1 : PyData.canLayAll0 [e x.1, f x.2] = true := by rw [PyData.canLayAll0, PyData.canLayAll0, PyData.canLayAll0, h1.1, k1.1]; rfl
    have a2 : PyData.depthAll [e x.1, f x.2] ≤ max n m := by
      rw [PyData.depthAll, PyData.depthAll, PyData.depthAll]
      have := h1.2
      have := k1.2
      omega
    show sh _ (.tuple [e x.1, f x.2]) = true
    unfold sh
    rw [PyData.canLay0, PyData.depth, a1, decide_eq_true (by omega)]; rfl
  · show PyData.eqv (.tuple [e x.1, f x.2]) (.tuple [e y.1, f y.2]) = _
    rw [PyData.eqv]
    simp only [PyData.eqvAll, (h x.1).2 y.1, (k x.2).2 y.2]
    by_cases e1 : x.1 = y.1 <;> by_cases e2 : x.2 = y.2 <;> simp [e1, e2, Prod.ext_iff]
instance {α β : Type} [DecidableEq α] [DecidableEq β] {n m : Nat} {e : α → PD} {f : β → PD} [h : EqC n e] [k : EqC m f] : EqC (max n m + 1) (pr e f) := ⟨eqe_pr h.ok k.ok⟩
theorem eqe_map {α β : Type} [DecidableEq α] [DecidableEq β] {n : Nat} {e : β → PD} {g : α → β} (h : EqE n e) (k : ∀ x y, g x = g y → x = y) : EqE n (fun x => e (g x)) := fun x => ⟨(h (g x)).1, fun y => by
  rw [(h (g x)).2 (g y)]
  by_cases e1 : x = y
  · simp [e1]
  · rw [decide_eq_false e1, decide_eq_false fun z => e1 (k x y z)]⟩
section
variable {α : Type} [DecidableEq α] {n : Nat} {e : α → PD}
theorem sh_mp [h : EqC n e] (l : List α) : sh (n + 1) (.list (mp e l)) = true := by
  obtain ⟨h1, h2⟩ := shAll_map h.ok l
  unfold sh
  rw [PyData.canLay0, PyData.depth]
  simp only [mp_map, h1, Bool.true_and, decide_eq_true_eq]
  omega
theorem sh_mpT [h : EqC n e] (l : List α) : sh (n + 1) (.tuple (mp e l)) = true := by
  obtain ⟨h1, h2⟩ := shAll_map h.ok l
  unfold sh
  rw [PyData.canLay0, PyData.depth]
  simp only [mp_map, h1, Bool.true_and, decide_eq_true_eq]
  omega
theorem any_eqv [h : EqC n e] (x : α) (l : List α) : ((mp e l).any fun z => PyData.eqv z (e x)) = decide (x ∈ l) := by
  rw [mp_map, List.any_map, Bool.eq_iff_iff, List.any_eq_true, decide_eq_true_iff]
  constructor
  · rintro ⟨y, hy, h2⟩
    have h2 : PyData.eqv (e y) (e x) = true := h2
    rw [(h.ok y).2 x] at h2
    rw [← of_decide_eq_true h2]; exact hy
  · intro hx
    refine ⟨x, hx, ?_⟩
    show PyData.eqv (e x) (e x) = true
    rw [(h.ok x).2 x]; simp
theorem shapedE [h : EqC n e] (hn : n ≤ 60) (x : α) : SeqAt.shaped (e x) = true := sh_mono (h.ok x).1 (by omega)
theorem fIn_L [h : EqC n e] (hn : n ≤ 60) (x : α) (l : List α) : fIn (e x) (.list (mp e l)) = some (.bool (decide (x ∈ l))) := by
  show (if SeqAt.shaped (e x) = true ∧ SeqAt.shaped (.list (mp e l)) = true then some (PyData.bool ((mp e l).any fun z => PyData.eqv z (e x))) else none) = _
  rw [if_pos ⟨shapedE hn x, sh_mono (sh_mp l) (by omega)⟩, any_eqv]
theorem fIn_T [h : EqC n e] (hn : n ≤ 60) (x : α) (l : List α) : fIn (e x) (.tuple (mp e l)) = some (.bool (decide (x ∈ l))) := by
  show (if SeqAt.shaped (e x) = true ∧ SeqAt.shaped (.tuple (mp e l)) = true then some (PyData.bool ((mp e l).any fun z => PyData.eqv z (e x))) else none) = _
  rw [if_pos ⟨shapedE hn x, sh_mono (sh_mpT l) (by omega)⟩, any_eqv]
theorem fNotIn_of {x y : PD} {b : Bool} (h : fIn x y = some (.bool b)) : fNotIn x y = some (.bool !b) := by
  unfold fNotIn
  rw [h]; rfl
theorem fNotIn_L [h : EqC n e] (hn : n ≤ 60) (x : α) (l : List α) : fNotIn (e x) (.list (mp e l)) = some (.bool (!decide (x ∈ l))) := fNotIn_of (fIn_L hn x l)
theorem fNotIn_T [h : EqC n e] (hn : n ≤ 60) (x : α) (l : List α) : fNotIn (e x) (.tuple (mp e l)) = some (.bool (!decide (x ∈ l))) := fNotIn_of (fIn_T hn x l)
theorem fEqE [h : EqC n e] (hn : n ≤ 60) (x y : α) : fEq (e x) (e y) = some (.bool (decide (x = y))) := fEq_of h.ok (by omega) x y
theorem fNeE [h : EqC n e] (hn : n ≤ 60) (x y : α) : fNe (e x) (e y) = some (.bool (!decide (x = y))) := fNe_of h.ok (by omega) x y
/-- a tuple, a list: by simp -/
theorem fEq_tup [h : EqC n e] (hn : n ≤ 50) {x y : List α} : fEq (.tuple (mp e x)) (.tuple (mp e y)) = some (.bool (decide (x = y))) := fEqE (e := tp e) (by omega) x y
theorem fEq_lst [h : EqC n e] (hn : n ≤ 50) {x y : List α} : fEq (.list (mp e x)) (.list (mp e y)) = some (.bool (decide (x = y))) := fEqE (e := ls e) (by omega) x y
theorem fNe_tup [h : EqC n e] (hn : n ≤ 50) {x y : List α} : fNe (.tuple (mp e x)) (.tuple (mp e y)) = some (.bool (!decide (x = y))) := fNeE (e := tp e) (by omega) x y
theorem fNe_lst [h : EqC n e] (hn : n ≤ 50) {x y : List α} : fNe (.list (mp e x)) (.list (mp e y)) = some (.bool (!decide (x = y))) := fNeE (e := ls e) (by omega) x y
end
section
variable {α : Type}
/-! ints -/
@[simp] theorem inL_i {x : Int} {l : List Int} : fIn (.int x) (.list (mp .int l)) = some (.bool (decide (x ∈ l))) := fIn_L (e := PyData.int) (by decide) x l
@[simp] theorem inT_i {x : Int} {l : List Int} : fIn (.int x) (.tuple (mp .int l)) = some (.bool (decide (x ∈ l))) := fIn_T (e := PyData.int) (by decide) x l
@[simp] theorem ninL_i {x : Int} {l : List Int} : fNotIn (.int x) (.list (mp .int l)) = some (.bool (!decide (x ∈ l))) := fNotIn_L (e := PyData.int) (by decide) x l
@[simp] theorem ninT_i {x : Int} {l : List Int} : fNotIn (.int x) (.tuple (mp .int l)) = some (.bool (!decide (x ∈ l))) := fNotIn_T (e := PyData.int) (by decide) x l
@[simp] theorem inL_n {x : Nat} {l : List Nat} : fIn (.int (x : Int)) (.list (mp iN l)) = some (.bool (decide (x ∈ l))) := fIn_L (e := iN) (by decide) x l
@[simp] theorem inT_n {x : Nat} {l : List Nat} : fIn (.int (x : Int)) (.tuple (mp iN l)) = some (.bool (decide (x ∈ l))) := fIn_T (e := iN) (by decide) x l
@[simp] theorem ninL_n {x : Nat} {l : List Nat} : fNotIn (.int (x : Int)) (.list (mp iN l)) = some (.bool (!decide (x ∈ l))) := fNotIn_L (e := iN) (by decide) x l
@[simp] theorem ninT_n {x : Nat} {l : List Nat} : fNotIn (.int (x : Int)) (.tuple (mp iN l)) = some (.bool (!decide (x ∈ l))) := fNotIn_T (e := iN) (by decide) x l
theorem mp_intmap {g : α → Int} {l : List α} : mp (fun x => PyData.int (g x)) l = mp .int (l.map g) := by rw [mp_of_map]
theorem inL_g {x : Int} {g : α → Int} {l : List α} : fIn (.int x) (.list (mp (fun y => .int (g y)) l)) = some (.bool (decide (x ∈ l.map g))) := by rw [mp_intmap, inL_i]
theorem inT_g {x : Int} {g : α → Int} {l : List α} : fIn (.int x) (.tuple (mp (fun y => .int (g y)) l)) = some (.bool (decide (x ∈ l.map g))) := by rw [mp_intmap, inT_i]
theorem ninL_g {x : Int} {g : α → Int} {l : List α} : fNotIn (.int x) (.list (mp (fun y => .int (g y)) l)) = some (.bool (!decide (x ∈ l.map g))) := by rw [mp_intmap, ninL_i]
theorem ninT_g {x : Int} {g : α → Int} {l : List α} : fNotIn (.int x) (.tuple (mp (fun y => .int (g y)) l)) = some (.bool (!decide (x ∈ l.map g))) := by rw [mp_intmap, ninT_i]
theorem mp_natmap {g : α → Nat} {l : List α} : mp (fun x => PyData.int (g x : Int)) l = mp iN (l.map g) := by rw [mp_of_map]; rfl
@[simp] theorem inL_gn {x : Nat} {g : α → Nat} {l : List α} : fIn (.int (x : Int)) (.list (mp (fun y => .int (g y : Int)) l)) = some (.bool (decide (x ∈ l.map g))) := by rw [mp_natmap, inL_n]
@[simp] theorem inT_gn {x : Nat} {g : α → Nat} {l : List α} : fIn (.int (x : Int)) (.tuple (mp (fun y => .int (g y : Int)) l)) = some (.bool (decide (x ∈ l.map g))) := by rw [mp_natmap, inT_n]
@[simp] theorem ninL_gn {x : Nat} {g : α → Nat} {l : List α} : fNotIn (.int (x : Int)) (.list (mp (fun y => .int (g y : Int)) l)) = some (.bool (!decide (x ∈ l.map g))) := by rw [mp_natmap, ninL_n]
@[simp] theorem ninT_gn {x : Nat} {g : α → Nat} {l : List α} : fNotIn (.int (x : Int)) (.tuple (mp (fun y => .int (g y : Int)) l)) = some (.bool (!decide (x ∈ l.map g))) := by rw [mp_natmap, ninT_n]
/-! rows of naturals, pairs of naturals -/
@[simp] theorem inL_tn {x : List Nat} {l : List (List Nat)} : fIn (.tuple (mp iN x)) (.list (mp (tp iN) l)) = some (.bool (decide (x ∈ l))) := (fIn_L (e := tp iN) (by decide) x l).trans (by congr)
@[simp] theorem inT_tn {x : List Nat} {l : List (List Nat)} : fIn (.tuple (mp iN x)) (.tuple (mp (tp iN) l)) = some (.bool (decide (x ∈ l))) := (fIn_T (e := tp iN) (by decide) x l).trans (by congr)
@[simp] theorem inL_pn {a b : Nat} {l : List (Nat × Nat)} : fIn (.tuple [.int (a : Int), .int (b : Int)]) (.list (mp (pr iN iN) l)) = some (.bool (decide ((a, b) ∈ l))) := (fIn_L (e := pr iN iN) (by decide) (a, b) l).trans (by congr)
@[simp] theorem inT_pn {a b : Nat} {l : List (Nat × Nat)} : fIn (.tuple [.int (a : Int), .int (b : Int)]) (.tuple (mp (pr iN iN) l)) = some (.bool (decide ((a, b) ∈ l))) := (fIn_T (e := pr iN iN) (by decide) (a, b) l).trans (by congr)
@[simp] theorem eq_ti {x y : List Int} : fEq (.tuple (mp .int x)) (.tuple (mp .int y)) = some (.bool (decide (x = y))) := fEq_tup (by decide)
@[simp] theorem eq_li {x y : List Int} : fEq (.list (mp .int x)) (.list (mp .int y)) = some (.bool (decide (x = y))) := fEq_lst (by decide)
@[simp] theorem eq_tn {x y : List Nat} : fEq (.tuple (mp iN x)) (.tuple (mp iN y)) = some (.bool (decide (x = y))) := fEq_tup (by decide)
@[simp] theorem eq_ln {x y : List Nat} : fEq (.list (mp iN x)) (.list (mp iN y)) = some (.bool (decide (x = y))) := fEq_lst (by decide)
@[simp] theorem ne_ti {x y : List Int} : fNe (.tuple (mp .int x)) (.tuple (mp .int y)) = some (.bool (!decide (x = y))) := fNe_tup (by decide)
@[simp] theorem ne_li {x y : List Int} : fNe (.list (mp .int x)) (.list (mp .int y)) = some (.bool (!decide (x = y))) := fNe_lst (by decide)
@[simp] theorem ne_tn {x y : List Nat} : fNe (.tuple (mp iN x)) (.tuple (mp iN y)) = some (.bool (!decide (x = y))) := fNe_tup (by decide)
@[simp] theorem ne_ln {x y : List Nat} : fNe (.list (mp iN x)) (.list (mp iN y)) = some (.bool (!decide (x = y))) := fNe_lst (by decide)
@[simp] theorem eq_ttn {x y : List (List Nat)} : fEq (.tuple (mp (tp iN) x)) (.tuple (mp (tp iN) y)) = some (.bool (decide (x = y))) := fEq_tup (by decide)
@[simp] theorem eq_tpn {x y : List (Nat × Nat)} : fEq (.tuple (mp (pr iN iN) x)) (.tuple (mp (pr iN iN) y)) = some (.bool (decide (x = y))) := fEq_tup (by decide)
@[simp] theorem ne_ttn {x y : List (List Nat)} : fNe (.tuple (mp (tp iN) x)) (.tuple (mp (tp iN) y)) = some (.bool (!decide (x = y))) := fNe_tup (by decide)
@[simp] theorem ne_tpn {x y : List (Nat × Nat)} : fNe (.tuple (mp (pr iN iN) x)) (.tuple (mp (pr iN iN) y)) = some (.bool (!decide (x = y))) := fNe_tup (by decide)
/-! adding -/
theorem addL {e : α → PD} {l m : List α} (h : l.length + m.length ≤ 16777216) : fAdd (.list (mp e l)) (.list (mp e m)) = some (.obj (.ol (mp e (l ++ m)))) := by
  rw [fAdd_list (by simpa using h), mp_app]
theorem addT {e : α → PD} {l m : List α} (h : l.length + m.length ≤ 16777216) : fAdd (.tuple (mp e l)) (.tuple (mp e m)) = some (.val (.tuple (mp e (l ++ m)))) := by
  rw [fAdd_tuple (by simpa using h), mp_app]
theorem appE {e : α → PD} {l : List α} {x : α} (h : l.length < 16777216) : fAppend (mp e l) [e x] = some (.none, mp e (l ++ [x])) := by
  rw [fAppS (by simpa using h), mp_append]; rfl
theorem app_i {l : List Int} {x : Int} (h : l.length < 16777216) : fAppend (mp .int l) [.int x] = some (.none, mp .int (l ++ [x])) := appE h
theorem app_n {l : List Nat} {x : Nat} (h : l.length < 16777216) : fAppend (mp iN l) [.int (x : Int)] = some (.none, mp iN (l ++ [x])) := appE (e := iN) h
theorem app_pn {l : List (Nat × Nat)} {a b : Nat} (h : l.length < 16777216) : fAppend (mp (pr iN iN) l) [.tuple [.int (a : Int), .int (b : Int)]] = some (.none, mp (pr iN iN) (l ++ [(a, b)])) := appE (e := pr iN iN) (x := (a, b)) h
theorem app_t {e : α → PD} {l : List (List α)} {x : List α} (h : l.length < 16777216) : fAppend (mp (tp e) l) [.tuple (mp e x)] = some (.none, mp (tp e) (l ++ [x])) := appE (e := tp e) h
theorem app_l {e : α → PD} {l : List (List α)} {x : List α} (h : l.length < 16777216) : fAppend (mp (ls e) l) [.list (mp e x)] = some (.none, mp (ls e) (l ++ [x])) := appE (e := ls e) h
/-! sets, ascending -/
theorem sset_i {l : List Int} (h : l.length < 4000) : fSSetA (.list (mp .int l)) = some (.obj (.ol (mp .int (usort l)))) := by
  unfold fSSetA
  rw [mp_map, fSSet_list (by omega)]; rfl
theorem sset_iT {l : List Int} (h : l.length < 4000) : fSSetA (.tuple (mp .int l)) = some (.obj (.ol (mp .int (usort l)))) := by
  unfold fSSetA
  rw [mp_map, fSSet_tuple (by omega)]; rfl
theorem sset_g {g : α → Int} {l : List α} (h : l.length < 4000) : fSSetA (.list (mp (fun y => .int (g y)) l)) = some (.obj (.ol (mp .int (usort (l.map g))))) := by
  rw [mp_intmap, sset_i (by simpa using h)]
/-- naturals -/
def nsort (l : List Nat) : List Nat := (usort (l.map fun (n : Nat) => (n : Int))).map Int.toNat
theorem nsort_cast (l : List Nat) : (nsort l).map (fun (n : Nat) => (n : Int)) = usort (l.map fun (n : Nat) => (n : Int)) := by
  unfold nsort
  rw [List.map_map]
  refine (List.map_congr_left fun z hz => ?_).trans (List.map_id _)
  rw [mem_usort, List.mem_map] at hz
  obtain ⟨n, _, rfl⟩ := hz
  show ((Int.toNat (n : Int) : Nat) : Int) = (n : Int)
  omega
@[simp] theorem mem_nsort {z : Nat} {l : List Nat} : z ∈ nsort l ↔ z ∈ l := by
  unfold nsort
  rw [List.mem_map]
  constructor
  · rintro ⟨i, hi, rfl⟩
    rw [mem_usort, List.mem_map] at hi
    obtain ⟨n, hn, rfl⟩ := hi
    simpa using hn
  · intro hz
    exact ⟨(z : Int), by rw [mem_usort]; exact List.mem_map.mpr ⟨z, hz, rfl⟩, by omega⟩
theorem sorted_nsort (l : List Nat) : (nsort l).Pairwise (· < ·) := by
  have h := sorted_usort (l.map fun (n : Nat) => (n : Int))
  rw [← nsort_cast, List.pairwise_map] at h
  exact h.imp fun q => by omega
theorem nat_uniq : ∀ {l m : List Nat}, l.Pairwise (· < ·) → m.Pairwise (· < ·) → (∀ z, z ∈ l ↔ z ∈ m) → l = m := by
  intro l m hl hm h
  have := strict_uniq (l := l.map fun (n : Nat) => (n : Int)) (m := m.map fun (n : Nat) => (n : Int)) (List.pairwise_map.mpr (hl.imp fun q => by omega)) (List.pairwise_map.mpr (hm.imp fun q => by omega)) fun z => by
    simp only [List.mem_map]
    constructor
    · rintro ⟨n, hn, rfl⟩; exact ⟨n, (h n).mp hn, rfl⟩
    · rintro ⟨n, hn, rfl⟩; exact ⟨n, (h n).mpr hn, rfl⟩
  exact (List.map_inj_right (fun a b q => by omega)).mp this
theorem nsort_eq {l m : List Nat} (hm : m.Pairwise (· < ·)) (h : ∀ z, z ∈ l ↔ z ∈ m) : nsort l = m := nat_uniq (sorted_nsort l) hm fun z => by rw [mem_nsort]; exact h z
theorem nsort_len (l : List Nat) : (nsort l).length ≤ l.length := by
  unfold nsort
  rw [List.length_map]
  have := usort_leq (l.map fun (n : Nat) => (n : Int))
  simpa using this
theorem sset_n {l : List Nat} (h : l.length < 4000) : fSSetA (.list (mp iN l)) = some (.obj (.ol (mp iN (nsort l)))) := by
  have e : mp iN l = mp .int (l.map fun (n : Nat) => (n : Int)) := by rw [mp_of_map]; rfl
  rw [e, sset_i (by simpa using h), ← nsort_cast, mp_of_map]; rfl
theorem sset_nT {l : List Nat} (h : l.length < 4000) : fSSetA (.tuple (mp iN l)) = some (.obj (.ol (mp iN (nsort l)))) := by
  have e : mp iN l = mp .int (l.map fun (n : Nat) => (n : Int)) := by rw [mp_of_map]; rfl
  rw [e, sset_iT (by simpa using h), ← nsort_cast, mp_of_map]; rfl
theorem sset_ng {g : α → Nat} {l : List α} (h : l.length < 4000) : fSSetA (.list (mp (fun y => .int (g y : Int)) l)) = some (.obj (.ol (mp iN (nsort (l.map g))))) := by
  have e : mp (fun y => PyData.int (g y : Int)) l = mp iN (l.map g) := by rw [mp_of_map]; rfl
  rw [e, sset_n (by simpa using h)]
end
end Vl

-- U4
set_option Elab.async false
set_option linter.all false
set_option maxRecDepth 100000
set_option maxHeartbeats 4000000
/-! comprehensions with two fors, by simp -/
namespace Vl
open PySem L2
theorem opq {α : Sort _} (P : α) : ∃ R, R = P := ⟨P, rfl⟩
section
variable {α β : Type} {g g1 : PD → AS → Option AS} {c c1 : M Bool} {el : M PD} {mi1 : M (List PD)} {as : AS} {vs vs1 : List Nat} {e : α → PD}
/-- the inner for -/
def kLi (vs : List Nat) (g : PD → AS → Option AS) (c : M Bool) (el : M PD) (q : Option (List PD × AS)) : Option (List PD × AS) := match q with
  | none => none
  | some (ds, as) => lcL vs g c el ds (clr vs as)
open Classical in
noncomputable def kLj (g : PD → AS → Option AS) (c : M Bool) (el : M PD) (e : α → PD) (vs : List Nat) (as : AS) (l : List α) (F : (x : α) → x ∈ l → Option (Option PD × AS)) : Option (List PD × AS) :=
  if (∀ x, ∀ h : x ∈ l, ∃ o s, F x h = some (o, s) ∧ clr vs s = clr vs as) then some (l.attach.filterMap fun x => (F x.1 x.2).bind (·.1), clr vs as) else kLi vs g c el (some (mp e l, as))
@[simp] theorem kLi_mp {l : List α} : kLi vs g c el (some (mp e l, as)) = kLj g c el e vs as l (fun x _ => kB (g (e x) (clr vs as)) c el) := by
  unfold kLj
  split
  · rename_i h1
    show lcL _ _ _ _ _ _ = _
    rw [lcL_pureF (fun _ => rfl) l h1]
    have : l.attach.filterMap (fun x : {x // x ∈ l} => (kB (g (e x.1) (clr vs as)) c el).bind (·.1)) = l.filterMap (fun x => (kB (g (e x) (clr vs as)) c el).bind (·.1)) := by
      exact attF fun x => (kB (g (e x) (clr vs as)) c el).bind (·.1)
    rw [this]
  · rfl
theorem kLj_map {l : List α} {f : α → PD} {s : α → AS} (hs : ∀ x ∈ l, clr vs (s x) = clr vs as) : kLj g c el e vs as l (fun x _ => some (some (f x), s x)) = some (mp f l, clr vs as) := by
  unfold kLj
  rw [if_pos fun x hx => ⟨_, _, rfl, hs x hx⟩]
  congr 2
  rw [attF fun x => (some (some (f x), s x)).bind (·.1)]
  clear hs
  induction l with
  | nil => rfl
  | cons x l ih => rw [List.filterMap_cons, mp_cons, ih]; rfl
theorem kLj_if {l : List α} {b : α → Bool} {f : α → PD} {s : α → AS} (hs : ∀ x ∈ l, clr vs (s x) = clr vs as) : kLj g c el e vs as l (fun x _ => some (bo (b x) (f x), s x)) = some (mp f (l.filter b), clr vs as) := by
  unfold kLj
  rw [if_pos fun x hx => ⟨_, _, rfl, hs x hx⟩]
  congr 2
  rw [attF fun x => (some (bo (b x) (f x), s x)).bind (·.1)]
  clear hs
  induction l with
  | nil => rfl
  | cons x l ih =>
    rw [List.filterMap_cons, ih]
    cases hb : b x with
    | false => rw [List.filter_cons_of_neg (by simp [hb])]; simp [hb]
    | true => rw [List.filter_cons_of_pos hb, mp_cons]; simp [hb]
theorem kLj_mapE {l : List α} {F : (x : α) → x ∈ l → Option (Option PD × AS)} (f : α → PD) (s : α → AS) (h : ∀ x hx, F x hx = some (some (f x), s x)) (hs : ∀ x ∈ l, clr vs (s x) = clr vs as) : kLj g c el e vs as l F = some (mp f l, clr vs as) := by
  have : F = fun x _ => some (some (f x), s x) := by funext x hx; exact h x hx
  rw [this, kLj_map hs]
theorem kLj_ifE {l : List α} {F : (x : α) → x ∈ l → Option (Option PD × AS)} (b : α → Bool) (f : α → PD) (s : α → AS) (h : ∀ x hx, F x hx = some (bo (b x) (f x), s x)) (hs : ∀ x ∈ l, clr vs (s x) = clr vs as) : kLj g c el e vs as l F = some (mp f (l.filter b), clr vs as) := by
  have : F = fun x _ => some (bo (b x) (f x), s x) := by funext x hx; exact h x hx
  rw [this, kLj_if hs]
/-- the outer for's turn -/
def kC1 (q : Option (Bool × AS)) (vs1 : List Nat) (mi1 : M (List PD)) (g1 : PD → AS → Option AS) (c1 : M Bool) (el : M PD) : Option (List PD × AS) := match q with
  | none => none
  | some (false, as) => some ([], as)
  | some (true, as) => kLi vs1 g1 c1 el (mi1 as)
def kC0 (q : Option AS) (c : M Bool) (vs1 : List Nat) (mi1 : M (List PD)) (g1 : PD → AS → Option AS) (c1 : M Bool) (el : M PD) : Option (List PD × AS) := match q with
  | none => none
  | some as => kC1 (c as) vs1 mi1 g1 c1 el
@[simp] theorem kC1_true : kC1 (some (true, as)) vs1 mi1 g1 c1 el = kLi vs1 g1 c1 el (mi1 as) := (rfl)
@[simp] theorem kC1_false : kC1 (some (false, as)) vs1 mi1 g1 c1 el = some ([], as) := (rfl)
@[simp] theorem kC0_some : kC0 (some as) c vs1 mi1 g1 c1 el = kC1 (c as) vs1 mi1 g1 c1 el := (rfl)
theorem lc2L_cons {d : PD} {ds : List PD} {ys : List PD} {as2 : AS} (h : kC0 (g d as) c vs1 mi1 g1 c1 el = some (ys, as2)) : lc2L vs vs1 g c mi1 g1 c1 el (d :: ds) as = (lc2L vs vs1 g c mi1 g1 c1 el ds (clr vs as2)).map fun q => (ys ++ q.1, q.2) := by
  have e0 : lc2L vs vs1 g c mi1 g1 c1 el (d :: ds) as = match g d as with
    | none => none
    | some as1 => match c as1 with
      | none => none
      | some (false, as2) => lc2L vs vs1 g c mi1 g1 c1 el ds (clr vs as2)
      | some (true, as2) => match mi1 as2 with
        | none => none
        | some (ds1, as3) => match lcL vs1 g1 c1 el ds1 (clr vs1 as3) with
          | none => none
          | some (ys, as4) => match lc2L vs vs1 g c mi1 g1 c1 el ds (clr vs as4) with
            | none => none
            | some (zs, as5) => some (ys ++ zs, as5) := rfl
  rw [e0]
  cases h1 : g d as with
  | none => rw [h1] at h; cases h
  | some as1 =>
    rw [h1, kC0_some] at h
    simp only
    cases h2 : c as1 with
    | none => rw [h2] at h; cases h
    | some p =>
      obtain ⟨b, as3⟩ := p
      rw [h2] at h
      cases b with
      | false =>
        rw [kC1_false] at h
        cases h
        simp only
        cases lc2L vs vs1 g c mi1 g1 c1 el ds (clr vs as2) <;> rfl
      | true =>
        rw [kC1_true] at h
        simp only
        cases h3 : mi1 as3 with
        | none => rw [h3] at h; cases h
        | some r =>
          obtain ⟨ds1, as4⟩ := r
          rw [h3] at h
          have h : lcL vs1 g1 c1 el ds1 (clr vs1 as4) = some (ys, as2) := h
          simp only [h]
          cases lc2L vs vs1 g c mi1 g1 c1 el ds (clr vs as2) <;> rfl
theorem lc2L_F {F : α → Option (List PD × AS)} (hF : ∀ x, F x = kC0 (g (e x) (clr vs as)) c vs1 mi1 g1 c1 el) : ∀ l : List α, (∀ x ∈ l, ∃ ys s, F x = some (ys, s) ∧ clr vs s = clr vs as) →
    lc2L vs vs1 g c mi1 g1 c1 el (mp e l) (clr vs as) = some (l.flatMap fun x => ((F x).map (·.1)).getD [], clr vs as)
  | [], _ => rfl
  | x :: l, h => by
    obtain ⟨o, s, h1, h2⟩ := h x List.mem_cons_self
    have ih := lc2L_F hF l fun y hy => h y (List.mem_cons_of_mem _ hy)
    rw [mp_cons, lc2L_cons (by rw [← hF]; exact h1), h2, ih, List.flatMap_cons, h1]
    rfl
def kLc2 (vs vs1 : List Nat) (g : PD → AS → Option AS) (c : M Bool) (mi1 : M (List PD)) (g1 : PD → AS → Option AS) (c1 : M Bool) (el : M PD) (q : Option (List PD × AS)) : Option (Res × AS) := match q with
  | none => none
  | some (ds, as) => kL2 vs as (lc2L vs vs1 g c mi1 g1 c1 el ds (clr vs as))
@[simp] theorem mLc2_ap {mi : M (List PD)} : mLc2 vs vs1 mi g c mi1 g1 c1 el as = kLc2 vs vs1 g c mi1 g1 c1 el (mi as) := by
  unfold mLc2 kLc2
  cases mi as with
  | none => rfl
  | some q =>
    obtain ⟨ds, as1⟩ := q
    simp only [kL2]
    all_goals (cases lc2L vs vs1 g c mi1 g1 c1 el ds (clr vs as1) <;> rfl)
/-- the pairs of an outer and an inner item, as data -/
def fm (f : α → List PD) (l : List α) : List PD := l.flatMap f
theorem fm_mp {f : β → PD} {m : α → List β} {l : List α} : fm (fun x => mp f (m x)) l = mp f (l.flatMap m) := by
  unfold fm mp
  rw [List.map_flatMap]
theorem fm_mp2 {f : α → β → PD} {m : α → List β} {l : List α} : fm (fun x => mp (f x) (m x)) l = mp (fun p : α × β => f p.1 p.2) (l.flatMap fun x => (m x).map (Prod.mk x)) := by
  unfold fm mp
  rw [List.map_flatMap]
  congr
  funext x
  rw [List.map_map]; rfl
open Classical in
noncomputable def kLd2 (g : PD → AS → Option AS) (c : M Bool) (mi1 : M (List PD)) (g1 : PD → AS → Option AS) (c1 : M Bool) (el : M PD) (e : α → PD) (vs vs1 : List Nat) (as : AS) (l : List α) (F : (x : α) → x ∈ l → Option (List PD × AS)) : Option (Res × AS) :=
  if (∀ x, ∀ h : x ∈ l, ∃ ys s, F x h = some (ys, s) ∧ clr vs s = clr vs as) ∧ free vs as = true ∧ (l.attach.flatMap fun x => ((F x.1 x.2).map (·.1)).getD []).length ≤ 16777216 then some (.obj (.ol (l.attach.flatMap fun x => ((F x.1 x.2).map (·.1)).getD [])), as) else kLc2 vs vs1 g c mi1 g1 c1 el (some (mp e l, as))
theorem attM {l : List α} (F : α → List PD) : (l.attach.flatMap fun x => F x.1) = l.flatMap F := by
  have h2 := List.attach_map_val (l := l) (f := fun x => x)
  rw [List.map_id'] at h2
  have h3 := List.flatMap_map (l := l.attach) (f := fun i => i.1) (g := F)
  rw [h2] at h3
  rw [h3]
@[simp] theorem kLc2_mp {l : List α} : kLc2 vs vs1 g c mi1 g1 c1 el (some (mp e l, as)) = kLd2 g c mi1 g1 c1 el e vs vs1 as l (fun x _ => kC0 (g (e x) (clr vs as)) c vs1 mi1 g1 c1 el) := by
  unfold kLd2
  split
  · rename_i h
    obtain ⟨h1, h2, h3⟩ := h
    show kL2 vs as _ = _
    rw [lc2L_F (fun _ => rfl) l h1]
    have e2 := attM (l := l) fun x => ((kC0 (g (e x) (clr vs as)) c vs1 mi1 g1 c1 el).map (·.1)).getD []
    rw [e2] at h3 ⊢
    show (if _ then _ else _) = _
    rw [if_pos ⟨h2, by rw [sizeLine_eq]; exact h3⟩, back_clr]
  · rfl
theorem kLd2_fm {l : List α} {f : α → List PD} {s : α → AS} (hf : free vs as = true) (hl : (fm f l).length ≤ 16777216) (hs : ∀ x ∈ l, clr vs (s x) = clr vs as) : kLd2 g c mi1 g1 c1 el e vs vs1 as l (fun x _ => some (f x, s x)) = some (.obj (.ol (fm f l)), as) := by
  have e2 : (l.attach.flatMap fun x : {x // x ∈ l} => ((some (f x.1, s x.1)).map (·.1)).getD []) = fm f l := attM f
  unfold kLd2
  rw [if_pos ⟨fun x hx => ⟨_, _, rfl, hs x hx⟩, hf, by rw [e2]; exact hl⟩, e2]
theorem kLd2_mp {l : List α} {f : β → PD} {m : α → List β} {s : α → AS} (hf : free vs as = true) (hl : (l.flatMap m).length ≤ 16777216) (hs : ∀ x ∈ l, clr vs (s x) = clr vs as) : kLd2 g c mi1 g1 c1 el e vs vs1 as l (fun x _ => some (mp f (m x), s x)) = some (.obj (.ol (mp f (l.flatMap m))), as) := by
  rw [kLd2_fm hf (by rw [fm_mp, mp_length]; exact hl) hs, fm_mp]
theorem kLd2_mpE {l : List α} {F : (x : α) → x ∈ l → Option (List PD × AS)} (f : β → PD) (m : α → List β) (s : α → AS) (hf : free vs as = true) (hl : (l.flatMap m).length ≤ 16777216) (h : ∀ x hx, F x hx = some (mp f (m x), s x)) (hs : ∀ x ∈ l, clr vs (s x) = clr vs as) : kLd2 g c mi1 g1 c1 el e vs vs1 as l F = some (.obj (.ol (mp f (l.flatMap m))), as) := by
  have : F = fun x _ => some (mp f (m x), s x) := by funext x hx; exact h x hx
  rw [this, kLd2_mp hf hl hs]
end
end Vl

-- U5
set_option Elab.async false
set_option linter.all false
set_option maxRecDepth 100000
set_option maxHeartbeats 4000000
/-! comprehensions that draw; slices; plain lists -/
namespace Vl
open PySem L2
section
variable {α β σ : Type}
def scanV (vf : α → σ → β) (sf : α → σ → σ) : List α → σ → List β
  | [], _ => []
  | x :: l, s => vf x s :: scanV vf sf l (sf x s)
def scanF (bf : α → σ → Bool) (vf : α → σ → β) (sf : α → σ → σ) : List α → σ → List β
  | [], _ => []
  | x :: l, s => if bf x s = true then vf x s :: scanF bf vf sf l (sf x s) else scanF bf vf sf l (sf x s)
def scanS (sf : α → σ → σ) : List α → σ → σ
  | [], s => s
  | x :: l, s => scanS sf l (sf x s)
theorem scanV_cons {vf : α → σ → β} {sf : α → σ → σ} {x : α} {l : List α} {s : σ} : scanV vf sf (x :: l) s = vf x s :: scanV vf sf l (sf x s) := (rfl)
theorem scanF_cons {bf : α → σ → Bool} {vf : α → σ → β} {sf : α → σ → σ} {x : α} {l : List α} {s : σ} : scanF bf vf sf (x :: l) s = if bf x s = true then vf x s :: scanF bf vf sf l (sf x s) else scanF bf vf sf l (sf x s) := (rfl)
theorem scanS_cons {sf : α → σ → σ} {x : α} {l : List α} {s : σ} : scanS sf (x :: l) s = scanS sf l (sf x s) := (rfl)
@[simp] theorem scanV_len {vf : α → σ → β} {sf : α → σ → σ} : ∀ {l : List α} {s : σ}, (scanV vf sf l s).length = l.length
  | [], _ => rfl
  | x :: l, s => by unfold scanV; rw [List.length_cons, List.length_cons, scanV_len]
theorem scanF_len {bf : α → σ → Bool} {vf : α → σ → β} {sf : α → σ → σ} : ∀ {l : List α} {s : σ}, (scanF bf vf sf l s).length ≤ l.length
  | [], _ => Nat.le_refl _
  | x :: l, s => by
    unfold scanF
    have := scanF_len (bf := bf) (vf := vf) (sf := sf) (l := l) (s := sf x s)
    split <;> (simp only [List.length_cons]; omega)
theorem mem_scanV {vf : α → σ → β} {sf : α → σ → σ} {y : β} : ∀ {l : List α} {s : σ}, y ∈ scanV vf sf l s → ∃ x ∈ l, ∃ s, y = vf x s
  | [], _, h => absurd h List.not_mem_nil
  | x :: l, s, h => by
    unfold scanV at h
    rcases List.mem_cons.mp h with rfl | h
    · exact ⟨x, List.mem_cons_self, s, rfl⟩
    · obtain ⟨x', hx, s', e⟩ := mem_scanV h
      exact ⟨x', List.mem_cons_of_mem _ hx, s', e⟩
theorem mem_scanF {bf : α → σ → Bool} {vf : α → σ → β} {sf : α → σ → σ} {y : β} : ∀ {l : List α} {s : σ}, y ∈ scanF bf vf sf l s → ∃ x ∈ l, ∃ s, bf x s = true ∧ y = vf x s
  | [], _, h => absurd h List.not_mem_nil
  | x :: l, s, h => by
    unfold scanF at h
    split at h
    · rename_i hb
      rcases List.mem_cons.mp h with rfl | h
      · exact ⟨x, List.mem_cons_self, s, hb, rfl⟩
      · obtain ⟨x', hx, s', e⟩ := mem_scanF h
        exact ⟨x', List.mem_cons_of_mem _ hx, s', e⟩
    · obtain ⟨x', hx, s', e⟩ := mem_scanF h
      exact ⟨x', List.mem_cons_of_mem _ hx, s', e⟩
theorem scanF_sub {bf : α → σ → Bool} {sf : α → σ → σ} : ∀ {l : List α} {s : σ}, (scanF bf (fun x _ => x) sf l s).Sublist l
  | [], _ => List.Sublist.refl _
  | x :: l, s => by
    unfold scanF
    split
    · exact List.Sublist.cons₂ _ scanF_sub
    · exact List.Sublist.cons _ scanF_sub
end
section
variable {α β σ : Type} {g : PD → AS → Option AS} {c : M Bool} {el : M PD} {vs : List Nat} {e : α → PD}
theorem lcL_fn (st : σ → AS) (eo : β → PD) (bf : α → σ → Bool) (vf : α → σ → β) (sf : α → σ → σ) : ∀ (l : List α) (s : σ), (∀ x ∈ l, ∀ s, ∃ as', kB (g (e x) (clr vs (st s))) c el = some (bo (bf x s) (eo (vf x s)), as') ∧ clr vs as' = clr vs (st (sf x s))) →
    lcL vs g c el (mp e l) (clr vs (st s)) = some (mp eo (scanF bf vf sf l s), clr vs (st (scanS sf l s)))
  | [], s, _ => rfl
  | x :: l, s, h => by
    obtain ⟨as1, h1, h2⟩ := h x List.mem_cons_self s
    have ih := lcL_fn st eo bf vf sf l (sf x s) fun y hy => h y (List.mem_cons_of_mem _ hy)
    rw [mp_cons, lcL_step h1, h2, ih]
    rw [scanF_cons, scanS_cons]
    cases bf x s <;> rfl
theorem scanF_true {vf : α → σ → β} {sf : α → σ → σ} : ∀ (l : List α) (s : σ), scanF (fun _ _ => true) vf sf l s = scanV vf sf l s
  | [], _ => rfl
  | x :: l, s => by rw [scanF_cons, scanV_cons, scanF_true]; rfl
/-- a comprehension that draws, with a test -/
theorem kLc_fnIf (st : σ → AS) (s : σ) (eo : β → PD) (bf : α → σ → Bool) (vf : α → σ → β) (sf : α → σ → σ) {l : List α} (h : ∀ x ∈ l, ∀ s, ∃ as', kB (g (e x) (clr vs (st s))) c el = some (bo (bf x s) (eo (vf x s)), as') ∧ clr vs as' = clr vs (st (sf x s)))
    (hl : l.length ≤ 16777216) (hf : free vs (st s) = true) (hb : back vs (st s) (clr vs (st (scanS sf l s))) = st (scanS sf l s)) :
    kLc vs g c el (some (mp e l, st s)) = some (.obj (.ol (mp eo (scanF bf vf sf l s))), st (scanS sf l s)) := by
  show kL2 vs (st s) _ = _
  rw [lcL_fn st eo bf vf sf l s h]
  unfold kL2
  simp only
  rw [if_pos ⟨hf, by rw [mp_length, sizeLine_eq]; exact Nat.le_trans scanF_len hl⟩, hb]
theorem kLc_fn (st : σ → AS) (s : σ) (eo : β → PD) (vf : α → σ → β) (sf : α → σ → σ) {l : List α} (h : ∀ x ∈ l, ∀ s, ∃ as', kB (g (e x) (clr vs (st s))) c el = some (some (eo (vf x s)), as') ∧ clr vs as' = clr vs (st (sf x s)))
    (hl : l.length ≤ 16777216) (hf : free vs (st s) = true) (hb : back vs (st s) (clr vs (st (scanS sf l s))) = st (scanS sf l s)) :
    kLc vs g c el (some (mp e l, st s)) = some (.obj (.ol (mp eo (scanV vf sf l s))), st (scanS sf l s)) := by
  rw [kLc_fnIf st s eo (fun _ _ => true) vf sf (fun x hx s => by simpa using h x hx s) hl hf hb, scanF_true]
end
/-- what comes back behind a comprehension -/
def bkS : Nat → AS → AS → AS
  | _, _, [] => []
  | 0, s :: _, _ :: l => s :: l
  | 0, [], _ :: l => .un :: l
  | i + 1, _ :: k, s :: l => s :: bkS i k l
  | i + 1, [], s :: l => s :: bkS i [] l
@[simp] theorem bkS_zero {s t : Slot} {k l : AS} : bkS 0 (s :: k) (t :: l) = s :: l := (rfl)
@[simp] theorem bkS_succ {i : Nat} {s t : Slot} {k l : AS} : bkS (i + 1) (s :: k) (t :: l) = t :: bkS i k l := (rfl)
theorem bkS_eq : ∀ (i : Nat) (k l : AS), l.set i (k.getD i .un) = bkS i k l
  | i, k, [] => by cases i <;> cases k <;> rfl
  | 0, [], _ :: _ => rfl
  | 0, s :: _, _ :: _ => rfl
  | i + 1, [], s :: l => by
    have := bkS_eq i [] l
    simp at this ⊢
    show _ = s :: bkS i [] l
    rw [← this]
  | i + 1, t :: k, s :: l => by
    have := bkS_eq i k l
    simp at this ⊢
    rw [← this]
@[simp] theorem back_nil {k l : AS} : back [] k l = l := (rfl)
@[simp] theorem back_cons {i : Nat} {is : List Nat} {k l : AS} : back (i :: is) k l = bkS i k (back is k l) := by
  rw [← bkS_eq]; rfl
/-! ### slices -/
theorem sIx_int {n : Nat} {i : Int} (h : 0 ≤ i) : HT.sIx n 0 (some i) = min i.toNat n := by
  obtain ⟨k, rfl⟩ := Int.eq_ofNat_of_zero_le h
  rw [HT.sIx_nat]; simp
theorem sIx_int' {n d : Nat} {i : Int} (h : 0 ≤ i) : HT.sIx n d (some i) = min i.toNat n := by
  obtain ⟨k, rfl⟩ := Int.eq_ofNat_of_zero_le h
  rw [HT.sIx_nat]; simp
theorem cutD_to {ds : List PD} {i : Int} (h : 0 ≤ i) : cutD ds none (some i) = ds.take i.toNat := by
  unfold cutD
  rw [HT.sIx_none, sIx_int' h, List.drop_zero, Nat.sub_zero]
  rcases Nat.le_total i.toNat ds.length with q | q
  · rw [Nat.min_eq_left q]
  · rw [Nat.min_eq_right q, List.take_length, List.take_of_length_le q]
theorem cutD_from {ds : List PD} {i : Int} (h : 0 ≤ i) : cutD ds (some i) none = ds.drop i.toNat := by
  unfold cutD
  rw [HT.sIx_none, sIx_int' h]
  rcases Nat.le_total i.toNat ds.length with q | q
  · rw [Nat.min_eq_left q, List.take_of_length_le (by rw [List.length_drop]; omega)]
  · rw [Nat.min_eq_right q, List.drop_length, List.drop_of_length_le q]; simp
theorem cutD_mid {ds : List PD} {i j : Int} (h : 0 ≤ i) (h2 : 0 ≤ j) : cutD ds (some i) (some j) = (ds.drop i.toNat).take (j.toNat - i.toNat) := by
  unfold cutD
  rw [sIx_int' h, sIx_int' h2]
  rcases Nat.le_total i.toNat ds.length with q | q
  · rw [Nat.min_eq_left q]
    rcases Nat.le_total j.toNat ds.length with q2 | q2
    · rw [Nat.min_eq_left q2]
    · rw [Nat.min_eq_right q2, List.take_of_length_le (by rw [List.length_drop]; omega), List.take_of_length_le (by rw [List.length_drop]; omega)]
  · rw [Nat.min_eq_right q, List.drop_length, List.drop_of_length_le q]; simp
theorem sIx_neg {n d k : Nat} (h : 0 < k) : HT.sIx n d (some (-(k : Int))) = n - k := by
  have := HT.clip_eq (-(k : Int)) n d
  rw [if_pos (by omega)] at this
  omega
theorem cutD_last {ds : List PD} {k : Nat} (h : 0 < k) : cutD ds (some (-(k : Int))) none = ds.drop (ds.length - k) := by
  unfold cutD
  rw [HT.sIx_none, sIx_neg h, List.take_of_length_le (by rw [List.length_drop]; omega)]
theorem cutD_butlast {ds : List PD} {k : Nat} (h : 0 < k) : cutD ds none (some (-(k : Int))) = ds.take (ds.length - k) := by
  unfold cutD
  rw [HT.sIx_none, sIx_neg h, List.drop_zero, Nat.sub_zero]
theorem slT_last {ds : List PD} {k : Nat} (h : 0 < k) : fSl (.tuple ds) (some (-(k : Int))) none = some (.val (.tuple (ds.drop (ds.length - k)))) := by rw [← cutD_last h]; rfl
theorem slL_last {ds : List PD} {k : Nat} (h : 0 < k) : fSl (.list ds) (some (-(k : Int))) none = some (.obj (.ol (ds.drop (ds.length - k)))) := by rw [← cutD_last h]; rfl
theorem slT_butlast {ds : List PD} {k : Nat} (h : 0 < k) : fSl (.tuple ds) none (some (-(k : Int))) = some (.val (.tuple (ds.take (ds.length - k)))) := by rw [← cutD_butlast h]; rfl
theorem slL_butlast {ds : List PD} {k : Nat} (h : 0 < k) : fSl (.list ds) none (some (-(k : Int))) = some (.obj (.ol (ds.take (ds.length - k)))) := by rw [← cutD_butlast h]; rfl
theorem slT_to {ds : List PD} {i : Int} (h : 0 ≤ i) : fSl (.tuple ds) none (some i) = some (.val (.tuple (ds.take i.toNat))) := by rw [← cutD_to h]; rfl
theorem slT_from {ds : List PD} {i : Int} (h : 0 ≤ i) : fSl (.tuple ds) (some i) none = some (.val (.tuple (ds.drop i.toNat))) := by rw [← cutD_from h]; rfl
theorem slT_mid {ds : List PD} {i j : Int} (h : 0 ≤ i) (h2 : 0 ≤ j) : fSl (.tuple ds) (some i) (some j) = some (.val (.tuple ((ds.drop i.toNat).take (j.toNat - i.toNat)))) := by rw [← cutD_mid h h2]; rfl
theorem slL_to {ds : List PD} {i : Int} (h : 0 ≤ i) : fSl (.list ds) none (some i) = some (.obj (.ol (ds.take i.toNat))) := by rw [← cutD_to h]; rfl
theorem slL_from {ds : List PD} {i : Int} (h : 0 ≤ i) : fSl (.list ds) (some i) none = some (.obj (.ol (ds.drop i.toNat))) := by rw [← cutD_from h]; rfl
theorem slL_mid {ds : List PD} {i j : Int} (h : 0 ≤ i) (h2 : 0 ≤ j) : fSl (.list ds) (some i) (some j) = some (.obj (.ol ((ds.drop i.toNat).take (j.toNat - i.toNat)))) := by rw [← cutD_mid h h2]; rfl
/-- xs[-1] -/
theorem ixN_neg1 {n : Nat} (h : 0 < n) : ixN n (-1) = some (n - 1) := by
  unfold ixN
  rw [if_neg (by decide), if_pos (by omega)]
  congr 1
  omega
theorem fIx_last {ds : List PD} (h : 0 < ds.length) : fIx (.list ds) (.int (-1)) = some (.val (ds[ds.length - 1]'(by omega))) := by
  show (atI ds _).map _ = _
  unfold atI
  rw [ixN_neg1 h]
  show (ds[ds.length - 1]?).map _ = _
  rw [List.getElem?_eq_getElem (by omega)]; rfl
theorem fIx_lastT {ds : List PD} (h : 0 < ds.length) : fIx (.tuple ds) (.int (-1)) = some (.val (ds[ds.length - 1]'(by omega))) := by
  show (atI ds _).map _ = _
  unfold atI
  rw [ixN_neg1 h]
  show (ds[ds.length - 1]?).map _ = _
  rw [List.getElem?_eq_getElem (by omega)]; rfl
def las {α : Type} [Inhabited α] (l : List α) : α := l.getLastD default
@[simp] theorem las_app {α : Type} [Inhabited α] {l : List α} {x : α} : las (l ++ [x]) = x := by simp [las]
theorem las_eq {α : Type} [Inhabited α] {l : List α} (h : 0 < l.length) : las l = l[l.length - 1] := by
  unfold las
  rw [List.getLastD_eq_getLast?, List.getLast?_eq_getElem?, List.getElem?_eq_getElem (by omega)]; rfl
theorem ixLastL {α : Type} [Inhabited α] {e : α → PD} {l : List α} (h : 0 < l.length) : fIx (.list (mp e l)) (.int (-1)) = some (.val (e (las l))) := by
  rw [fIx_last (by simpa using h), las_eq h]; simp [mp]
theorem ixLastT {α : Type} [Inhabited α] {e : α → PD} {l : List α} (h : 0 < l.length) : fIx (.tuple (mp e l)) (.int (-1)) = some (.val (e (las l))) := by
  rw [fIx_lastT (by simpa using h), las_eq h]; simp [mp]
@[simp] theorem fNeg_int {i : Int} : fNeg (.int i) = some (.int (-i)) := (rfl)
/-! ### plain lists -/
theorem flatMap_len {α β : Type} {f : α → List β} {k : Nat} : ∀ {l : List α}, (∀ x ∈ l, (f x).length ≤ k) → (l.flatMap f).length ≤ l.length * k
  | [], _ => by simp
  | x :: l, h => by
    have h1 := h x List.mem_cons_self
    have h2 := flatMap_len (l := l) fun y hy => h y (List.mem_cons_of_mem _ hy)
    rw [List.flatMap_cons, List.length_append, List.length_cons, Nat.succ_mul]
    omega
theorem sub_len {α : Type} [BEq α] [LawfulBEq α] : ∀ {l m : List α}, l.Nodup → (∀ x ∈ l, x ∈ m) → l.length ≤ m.length
  | [], _, _, _ => Nat.zero_le _
  | x :: l, m, hn, hs => by
    obtain ⟨h1, h2⟩ := List.nodup_cons.mp hn
    have hx : x ∈ m := hs x List.mem_cons_self
    have ih := sub_len (l := l) (m := m.erase x) h2 fun y hy => (List.mem_erase_of_ne (a := y) (b := x) (fun e => h1 (by rw [← e]; exact hy))).2 (hs y (List.mem_cons_of_mem _ hy))
    rw [List.length_erase_of_mem hx] at ih
    have hp : 0 < m.length := List.length_pos_of_mem hx
    rw [List.length_cons]
    omega
theorem asc_nodup {l : List Nat} (h : l.Pairwise (· < ·)) : l.Nodup := h.imp fun q e => by omega
theorem asc_range (n : Nat) : (List.range n).Pairwise (· < ·) := List.pairwise_lt_range
theorem asc_filter {l : List Nat} {p : Nat → Bool} (h : l.Pairwise (· < ·)) : (l.filter p).Pairwise (· < ·) := h.filter p
theorem nsort_nodup (l : List Nat) : (nsort l).Nodup := asc_nodup (sorted_nsort l)
theorem nsort_of_asc {l : List Nat} (h : l.Pairwise (· < ·)) : nsort l = l := nsort_eq h fun _ => Iff.rfl
theorem nsort_congr {l m : List Nat} (h : ∀ z, z ∈ l ↔ z ∈ m) : nsort l = nsort m := nsort_eq (sorted_nsort m) fun z => by rw [mem_nsort]; exact h z
end Vl

-- U6
set_option Elab.async false
set_option linter.all false
set_option maxRecDepth 100000
set_option maxHeartbeats 4000000
/-! what is compared in laws -/
namespace Vl
open PySem L2
@[simp] theorem gd_n {n : Nat} : gd (n + 1) .none = true := (rfl)
@[simp] theorem gd_b {n : Nat} {b : Bool} : gd (n + 1) (.bool b) = true := (rfl)
@[simp] theorem gd_i {n : Nat} {i : Int} : gd (n + 1) (.int i) = true := (rfl)
@[simp] theorem gd_s {n : Nat} {x : Str} : gd (n + 1) (.str x) = PyData.strOk x := (rfl)
@[simp] theorem gd_t0 {n : Nat} : gd (n + 1) (.tuple []) = true := (rfl)
def gdA (n : Nat) (ds : List PD) : Bool := ds.all (gd n)
@[simp] theorem gdA_nil {n : Nat} : gdA n [] = true := (rfl)
@[simp] theorem gdA_cons {n : Nat} {d : PD} {ds : List PD} : gdA n (d :: ds) = (gd n d && gdA n ds) := (rfl)
@[simp] theorem gdA_mp {α : Type} {n : Nat} {e : α → PD} {l : List α} : gdA n (mp e l) = l.all fun x => gd n (e x) := by
  unfold gdA mp
  rw [List.all_map]; rfl
@[simp] theorem gd_t {n : Nat} {ds : List PD} : gd (n + 1) (.tuple ds) = (decide (ds.length ≤ 1000000) && gdA n ds) := (rfl)
/-- .. of naturals, of pairs, of rows: by their length alone -/
theorem gd_mN {n : Nat} {l : List Nat} (h : l.length ≤ 1000000) : gd (n + 2) (.tuple (mp iN l)) = true := by simp [h]
theorem gd_mI {n : Nat} {l : List Int} (h : l.length ≤ 1000000) : gd (n + 2) (.tuple (mp .int l)) = true := by simp [h]
theorem gd_mP {n : Nat} {l : List (Nat × Nat)} (h : l.length ≤ 1000000) : gd (n + 3) (.tuple (mp (pr iN iN) l)) = true := by simp [h]
theorem gd_mT {n : Nat} {l : List (List Nat)} (h : l.length ≤ 1000000) (h2 : ∀ x ∈ l, x.length ≤ 1000000) : gd (n + 3) (.tuple (mp (tp iN) l)) = true := by simpa [h] using h2
theorem Dn_sameN {D : Nat → List PD → Option Res} {b : (List PD → Option Res) → MS} (h0 : D 0 = fun _ => none) (h1 : ∀ k, D (k + 1) = runP 3 2 (b (D k))) (hb : ∀ R, b R = bSameN R) : ∀ k, D k = sameN k
  | 0 => h0
  | k + 1 => by rw [h1, Dn_sameN h0 h1 hb k, hb]; rfl
theorem Dn_sameB {D : Nat → List PD → Option Res} {b : (List PD → Option Res) → MS} (h0 : D 0 = fun _ => none) (h1 : ∀ k, D (k + 1) = runP 3 2 (b (D k))) (hb : ∀ R, b R = bSameB R) : ∀ k, D k = sameB k
  | 0 => h0
  | k + 1 => by rw [h1, Dn_sameB h0 h1 hb k, hb]; rfl
/-- two ways that meet again -/
theorem Po_join {b : Bool} {as : AS} {m n rest : MS} {Q : Ctl → AS → Prop} (P : AS → Prop) (h1 : b = true → Po (m as) (fun c as => c = .nx ∧ P as)) (h2 : b = false → Po (n as) (fun c as => c = .nx ∧ P as)) (h3 : ∀ as, P as → Po (rest as) Q) : Po (kT (kI (some (b, as)) m n) rest) Q := by
  cases b with
  | true =>
    obtain ⟨c, as', e, rfl, hp⟩ := h1 rfl
    rw [kI_true, e]; exact h3 as' hp
  | false =>
    obtain ⟨c, as', e, rfl, hp⟩ := h2 rfl
    rw [kI_false, e]; exact h3 as' hp
/-! sorted -/
theorem srt_i {l : List Int} : fSortB [.list (mp .int l)] = some (.obj (.ol (mp .int (isort l)))) := by
  unfold fSortB fSortA
  rw [mp_map, fSortI_of rfl]; rfl
theorem srt_iT {l : List Int} : fSortB [.tuple (mp .int l)] = some (.obj (.ol (mp .int (isort l)))) := by
  show (match fSortA [.tuple (mp .int l)] with | some r => some r | none => fSortDT [.tuple (mp .int l)]) = _
  have e1 : fSortA [.tuple (mp .int l)] = none := by
    unfold fSortA
    rfl
  rw [e1]
  show (if okSortB (mp .int l) = true then some (Res.obj (.ol (dsort (mp .int l)))) else none) = _
  rw [mp_map, if_pos (okSort_ints l), dsort_ints]; rfl
/-- naturals, ascending, with what is twice -/
def nasc (l : List Nat) : List Nat := (isort (l.map fun (n : Nat) => (n : Int))).map Int.toNat
theorem nasc_cast (l : List Nat) : (nasc l).map (fun (n : Nat) => (n : Int)) = isort (l.map fun (n : Nat) => (n : Int)) := by
  unfold nasc
  rw [List.map_map]
  refine (List.map_congr_left fun z hz => ?_).trans (List.map_id _)
  have hz := (isort_perm _).mem_iff.mp hz
  obtain ⟨n, _, rfl⟩ := List.mem_map.mp hz
  show ((Int.toNat (n : Int) : Nat) : Int) = (n : Int)
  omega
theorem nasc_perm (l : List Nat) : (nasc l).Perm l := by
  have h := (isort_perm (l.map fun (n : Nat) => (n : Int))).map Int.toNat
  rw [List.map_map] at h
  have e : l.map (Int.toNat ∘ fun (n : Nat) => (n : Int)) = l := (List.map_congr_left fun z _ => by show Int.toNat (z : Int) = z; omega).trans (List.map_id l)
  rw [e] at h
  exact h
theorem nasc_sorted (l : List Nat) : (nasc l).Pairwise (· ≤ ·) := by
  have h := isort_sorted (l.map fun (n : Nat) => (n : Int))
  rw [← nasc_cast, List.pairwise_map] at h
  exact h.imp fun q => by omega
theorem nasc_uniq {l m : List Nat} (h : m.Perm l) (hm : m.Pairwise (· ≤ ·)) : nasc l = m :=
  ((nasc_perm l).trans h.symm).eq_of_pairwise (fun a b _ _ h1 h2 => Nat.le_antisymm h1 h2) (nasc_sorted l) hm
theorem srt_n {l : List Nat} : fSortB [.list (mp iN l)] = some (.obj (.ol (mp iN (nasc l)))) := by
  have e : mp iN l = mp .int (l.map fun (n : Nat) => (n : Int)) := by rw [mp_of_map]; rfl
  rw [e, srt_i, ← nasc_cast, mp_of_map]; rfl
theorem srt_nT {l : List Nat} : fSortB [.tuple (mp iN l)] = some (.obj (.ol (mp iN (nasc l)))) := by
  have e : mp iN l = mp .int (l.map fun (n : Nat) => (n : Int)) := by rw [mp_of_map]; rfl
  rw [e, srt_iT, ← nasc_cast, mp_of_map]; rfl
/-! sets of pairs of naturals -/
def rowP (p : Nat × Nat) : List Int := [(p.1 : Int), (p.2 : Int)]
def unrow (r : List Int) : Nat × Nat := ((r.getD 0 0).toNat, (r.getD 1 0).toNat)
theorem unrow_row (p : Nat × Nat) : unrow (rowP p) = p := by
  obtain ⟨a, b⟩ := p
  simp [unrow, rowP]
def psort (l : List (Nat × Nat)) : List (Nat × Nat) := (rsort (l.map rowP)).map unrow
theorem psort_row (l : List (Nat × Nat)) : (psort l).map rowP = rsort (l.map rowP) := by
  unfold psort
  rw [List.map_map]
  refine (List.map_congr_left fun z hz => ?_).trans (List.map_id _)
  rw [mem_rsort, List.mem_map] at hz
  obtain ⟨p, _, rfl⟩ := hz
  show rowP (unrow (rowP p)) = rowP p
  rw [unrow_row]
@[simp] theorem mem_psort {p : Nat × Nat} {l : List (Nat × Nat)} : p ∈ psort l ↔ p ∈ l := by
  unfold psort
  rw [List.mem_map]
  constructor
  · rintro ⟨r, hr, rfl⟩
    rw [mem_rsort, List.mem_map] at hr
    obtain ⟨q, hq, rfl⟩ := hr
    rw [unrow_row]; exact hq
  · intro h
    exact ⟨rowP p, by rw [mem_rsort]; exact List.mem_map.mpr ⟨p, h, rfl⟩, unrow_row p⟩
theorem rowIns_len (y : List Int) : ∀ l : List (List Int), (rowIns y l).length ≤ l.length + 1
  | [] => by simp [rowIns]
  | x :: l => by
    unfold rowIns
    have := rowIns_len y l
    repeat' split
    all_goals simp only [List.length_cons]
    all_goals omega
theorem rsort_len : ∀ l : List (List Int), (rsort l).length ≤ l.length
  | [] => by simp [rsort]
  | y :: l => by
    have h1 := rowIns_len y (rsort l)
    have h2 := rsort_len l
    show (rowIns y (rsort l)).length ≤ _
    rw [List.length_cons]
    omega
theorem psort_len (l : List (Nat × Nat)) : (psort l).length ≤ l.length := by
  unfold psort
  rw [List.length_map]
  have := rsort_len (l.map rowP)
  simpa using this
theorem asInts_nats (l : List Nat) : asInts (mp iN l) = some (l.map fun (n : Nat) => (n : Int)) := by
  have e : mp iN l = (l.map fun (n : Nat) => (n : Int)).map .int := by rw [List.map_map]; rfl
  rw [e, asInts_of]
theorem asRows_mp {α : Type} {e : α → PD} {f : α → List Int} (h : ∀ x, asRow (e x) = some (f x)) : ∀ l : List α, asRows (mp e l) = some (l.map f)
  | [] => rfl
  | x :: l => by
    rw [mp_cons]
    unfold asRows
    rw [h, asRows_mp h l]; rfl
theorem asRow_pr (p : Nat × Nat) : asRow (pr iN iN p) = some (rowP p) := by
  show (asInts [.int (p.1 : Int), .int (p.2 : Int)]).bind _ = _
  have : asInts [PyData.int (p.1 : Int), .int (p.2 : Int)] = some [(p.1 : Int), (p.2 : Int)] := asInts_of [(p.1 : Int), (p.2 : Int)]
  rw [this]; rfl
theorem rows_pr (l : List (Nat × Nat)) : ((l.map rowP).map fun r => PyData.tuple (r.map .int)) = mp (pr iN iN) l := by
  unfold mp
  rw [List.map_map]; rfl
theorem ssetA_rows {α : Type} {e : α → PD} {f : α → List Int} (h : ∀ x, asRow (e x) = some (f x)) {l : List α} (hl : l.length < 64) : fSSetA (.list (mp e l)) = some (.obj (.ol ((rsort (l.map f)).map fun r => .tuple (r.map .int)))) := by
  unfold fSSetA
  cases l with
  | nil => rfl
  | cons x l =>
    have e1 : fSSet (.list (mp e (x :: l))) = none := by
      show (asInts (mp e (x :: l))).bind _ = _
      have : asInts (mp e (x :: l)) = none := by
        rw [mp_cons]
        have hx := h x
        cases hd : e x with
        | tuple ds => rfl
        | _ => rw [hd] at hx; cases hx
      rw [this]; rfl
    rw [e1]
    show (asRows (mp e (x :: l))).bind _ = _
    rw [asRows_mp h]
    show (if ((x :: l).map f).length < 64 then _ else none) = _
    rw [if_pos (by simpa using hl)]
theorem sset_p {l : List (Nat × Nat)} (h : l.length < 64) : fSSetA (.list (mp (pr iN iN) l)) = some (.obj (.ol (mp (pr iN iN) (psort l)))) := by
  rw [ssetA_rows asRow_pr h, ← psort_row, rows_pr]
/-- a range at last -/
theorem pure_ex {q : Option (Ctl × AS)} {Q : Ctl → AS → Prop} (h : Po q Q) : ∃ c as, q = some (c, as) ∧ Q c as := h
end Vl

-- U7
set_option Elab.async false
set_option linter.all false
set_option maxRecDepth 100000
set_option maxHeartbeats 4000000
/-! min, max, sum, order, of encoded data -/
namespace Vl
open PySem L2 PySem.W
/-! ### ints -/
theorem fold_min : ∀ (l : List Int) (a : Int), l.foldl min a ≤ a ∧ (∀ x ∈ l, l.foldl min a ≤ x) ∧ (l.foldl min a = a ∨ l.foldl min a ∈ l)
  | [], a => ⟨by simp, by simp, .inl rfl⟩
  | y :: l, a => by
    obtain ⟨h1, h2, h3⟩ := fold_min l (min a y)
    rw [List.foldl_cons]
    refine ⟨by omega, fun x hx => ?_, ?_⟩
    · rcases List.mem_cons.mp hx with rfl | hx
      · omega
      · exact h2 x hx
    · rcases h3 with h3 | h3
      · rw [h3]
        rcases Int.le_total a y with q | q
        · left; rw [Int.min_eq_left q]
        · right; rw [Int.min_eq_right q]; exact List.mem_cons_self
      · exact .inr (List.mem_cons_of_mem _ h3)
theorem minL_uniq {l : List Int} {m : Int} (h : m ∈ l) (h2 : ∀ y ∈ l, m ≤ y) : minL l = m := by
  obtain ⟨a, b⟩ := minL_spec l (List.ne_nil_of_mem h)
  exact Int.le_antisymm (b m h) (h2 _ a)
theorem maxL_uniq {l : List Int} {m : Int} (h : m ∈ l) (h2 : ∀ y ∈ l, y ≤ m) : maxL l = m := by
  obtain ⟨a, b⟩ := maxL_spec l (List.ne_nil_of_mem h)
  exact Int.le_antisymm (h2 _ a) (b m h)
theorem okBest_ints (l : List Int) : okBest (l.map .int) = true := by
  unfold okBest
  simp only [Bool.and_eq_true, List.all_map, decide_eq_true_eq]
  refine ⟨⟨?_, ?_⟩, by rw [depth_ints]; decide⟩
  · simp [alike]
  · simp
theorem mn_i {l : List Int} (h : l ≠ []) : fMinB [.list (mp .int l)] = some (.val (.int (minL l))) := by
  unfold fMinB fMinA
  rw [mp_map, fMinI_of rfl h]
theorem mx_i {l : List Int} (h : l ≠ []) : fMaxB [.list (mp .int l)] = some (.val (.int (maxL l))) := by
  unfold fMaxB fMaxA
  rw [mp_map, fMaxI_of rfl h]
theorem mn_iT {l : List Int} (h : l ≠ []) : fMinB [.tuple (mp .int l)] = some (.val (.int (minL l))) := by
  cases l with
  | nil => exact absurd rfl h
  | cons x l =>
    show (match fMinA [.tuple (mp .int (x :: l))] with | some r => some r | none => fBestT minD [.tuple (mp .int (x :: l))]) = _
    have e1 : fMinA [.tuple (mp .int (x :: l))] = none := rfl
    rw [e1]
    show (if okBest (mp .int (x :: l)) = true then some (Res.val (minD (.int x) (mp .int l))) else none) = _
    rw [mp_map, mp_map, if_pos (okBest_ints (x :: l)), minD_ints]
    obtain ⟨h1, h2, h3⟩ := fold_min l x
    rw [minL_uniq (l := x :: l) (m := l.foldl min x) (by rcases h3 with h3 | h3; · rw [h3]; exact List.mem_cons_self
                                                         · exact List.mem_cons_of_mem _ h3) fun y hy => by
      rcases List.mem_cons.mp hy with rfl | hy
      · exact h1
      · exact h2 y hy]
theorem mx_iT {l : List Int} (h : l ≠ []) : fMaxB [.tuple (mp .int l)] = some (.val (.int (maxL l))) := by
  cases l with
  | nil => exact absurd rfl h
  | cons x l =>
    show (match fMaxA [.tuple (mp .int (x :: l))] with | some r => some r | none => fBestT maxD [.tuple (mp .int (x :: l))]) = _
    have e1 : fMaxA [.tuple (mp .int (x :: l))] = none := rfl
    rw [e1]
    show (if okBest (mp .int (x :: l)) = true then some (Res.val (maxD (.int x) (mp .int l))) else none) = _
    rw [mp_map, mp_map, if_pos (okBest_ints (x :: l)), maxD_ints]
    obtain ⟨h1, h2, h3⟩ := foldl_max l x
    rw [maxL_uniq (l := x :: l) (m := l.foldl max x) (by rcases h3 with h3 | h3; · rw [h3]; exact List.mem_cons_self
                                                         · exact List.mem_cons_of_mem _ h3) fun y hy => by
      rcases List.mem_cons.mp hy with rfl | hy
      · exact h1
      · exact h2 y hy]
/-! ### naturals -/
def mnN (l : List Nat) : Nat := (minL (l.map fun (n : Nat) => (n : Int))).toNat
def mxN (l : List Nat) : Nat := (maxL (l.map fun (n : Nat) => (n : Int))).toNat
theorem mnN_spec {l : List Nat} (h : l ≠ []) : mnN l ∈ l ∧ (∀ y ∈ l, mnN l ≤ y) ∧ ((mnN l : Nat) : Int) = minL (l.map fun (n : Nat) => (n : Int)) := by
  obtain ⟨a, b⟩ := minL_spec (l.map fun (n : Nat) => (n : Int)) (by simpa using h)
  obtain ⟨n, hn, e⟩ := List.mem_map.mp a
  have e2 : mnN l = n := by unfold mnN; omega
  refine ⟨by rw [e2]; exact hn, fun y hy => ?_, by omega⟩
  have := b y (List.mem_map.mpr ⟨y, hy, rfl⟩)
  omega
theorem mxN_spec {l : List Nat} (h : l ≠ []) : mxN l ∈ l ∧ (∀ y ∈ l, y ≤ mxN l) ∧ ((mxN l : Nat) : Int) = maxL (l.map fun (n : Nat) => (n : Int)) := by
  obtain ⟨a, b⟩ := maxL_spec (l.map fun (n : Nat) => (n : Int)) (by simpa using h)
  obtain ⟨n, hn, e⟩ := List.mem_map.mp a
  have e2 : mxN l = n := by unfold mxN; omega
  refine ⟨by rw [e2]; exact hn, fun y hy => ?_, by omega⟩
  have := b y (List.mem_map.mpr ⟨y, hy, rfl⟩)
  omega
theorem mnN_uniq {l : List Nat} {m : Nat} (h : m ∈ l) (h2 : ∀ y ∈ l, m ≤ y) : mnN l = m := by
  obtain ⟨a, b, _⟩ := mnN_spec (List.ne_nil_of_mem h)
  exact Nat.le_antisymm (b m h) (h2 _ a)
theorem mxN_uniq {l : List Nat} {m : Nat} (h : m ∈ l) (h2 : ∀ y ∈ l, y ≤ m) : mxN l = m := by
  obtain ⟨a, b, _⟩ := mxN_spec (List.ne_nil_of_mem h)
  exact Nat.le_antisymm (h2 _ a) (b m h)
theorem iN_cast (l : List Nat) : mp iN l = mp .int (l.map fun (n : Nat) => (n : Int)) := by rw [mp_of_map]; rfl
theorem mn_n {l : List Nat} (h : l ≠ []) : fMinB [.list (mp iN l)] = some (.val (.int (mnN l))) := by
  rw [iN_cast, mn_i (by simpa using h), (mnN_spec h).2.2]
theorem mx_n {l : List Nat} (h : l ≠ []) : fMaxB [.list (mp iN l)] = some (.val (.int (mxN l))) := by
  rw [iN_cast, mx_i (by simpa using h), (mxN_spec h).2.2]
theorem mn_nT {l : List Nat} (h : l ≠ []) : fMinB [.tuple (mp iN l)] = some (.val (.int (mnN l))) := by
  rw [iN_cast, mn_iT (by simpa using h), (mnN_spec h).2.2]
theorem mx_nT {l : List Nat} (h : l ≠ []) : fMaxB [.tuple (mp iN l)] = some (.val (.int (mxN l))) := by
  rw [iN_cast, mx_iT (by simpa using h), (mxN_spec h).2.2]
theorem mx_gn {α : Type} {g : α → Nat} {l : List α} (h : l ≠ []) : fMaxB [.list (mp (fun x => .int (g x : Int)) l)] = some (.val (.int (mxN (l.map g)))) := by
  rw [mp_natmap, mx_n (by simpa using h)]
theorem mn_gn {α : Type} {g : α → Nat} {l : List α} (h : l ≠ []) : fMinB [.list (mp (fun x => .int (g x : Int)) l)] = some (.val (.int (mnN (l.map g)))) := by
  rw [mp_natmap, mn_n (by simpa using h)]
/-! ### one item more -/
theorem addT1n {l : List Nat} {x : Nat} (h : l.length < 16777216) : fAdd (.tuple (mp iN l)) (.tuple [.int (x : Int)]) = some (.val (.tuple (mp iN (l ++ [x])))) := addT (e := iN) (l := l) (m := [x]) (by simp; omega)
theorem addT1i {l : List Int} {x : Int} (h : l.length < 16777216) : fAdd (.tuple (mp .int l)) (.tuple [.int x]) = some (.val (.tuple (mp .int (l ++ [x])))) := addT (e := PyData.int) (l := l) (m := [x]) (by simp; omega)
theorem addL1n {l : List Nat} {x : Nat} (h : l.length < 16777216) : fAdd (.list (mp iN l)) (.list [.int (x : Int)]) = some (.obj (.ol (mp iN (l ++ [x])))) := addL (e := iN) (l := l) (m := [x]) (by simp; omega)
theorem addL1i {l : List Int} {x : Int} (h : l.length < 16777216) : fAdd (.list (mp .int l)) (.list [.int x]) = some (.obj (.ol (mp .int (l ++ [x])))) := addL (e := PyData.int) (l := l) (m := [x]) (by simp; omega)
/-! ### sums -/
theorem asInts_mp {l : List Int} : asInts (mp .int l) = some l := asInts_of l
theorem sum_iT {l : List Int} : fSumB [.tuple (mp .int l)] = some (.int l.sum) := by
  show (asInts _).map _ = _
  rw [asInts_mp]; rfl
theorem sum_nT {l : List Nat} : fSumB [.tuple (mp iN l)] = some (.int (l.map fun (n : Nat) => (n : Int)).sum) := by
  rw [iN_cast, sum_iT]
theorem sum_cast (l : List Nat) : (l.map fun (n : Nat) => (n : Int)).sum = ((l.sum : Nat) : Int) := by
  induction l with
  | nil => rfl
  | cons x l ih => simp [ih]
/-! ### order -/
theorem okCmp_ints (x y : List Int) : okCmp (.tuple (x.map .int)) (.tuple (y.map .int)) = true := by
  unfold okCmp
  have e : alike (.tuple (x.map .int)) (.tuple (y.map .int)) = true := by unfold alike; exact alike_ints _ _
  have d : (PyData.tuple (x.map .int)).depth = 1 := by rw [PyData.depth, depth_ints]
  rw [e, d]; rfl
theorem lt_rows (x y : List Int) : dataLt (.tuple (x.map .int)) (.tuple (y.map .int)) = decide (x < y) := by
  rw [dataLt_tuple]
  show rowLt (x.map .int) (y.map .int) = _
  rw [dataLt_ints]
theorem ltT_i {x y : List Int} : fLtA (.tuple (mp .int x)) (.tuple (mp .int y)) = some (.bool (decide (x < y))) := by
  show (if okCmp _ _ = true then some (PyData.bool (dataLt _ _)) else none) = _
  rw [mp_map, mp_map, if_pos (okCmp_ints x y), lt_rows]
theorem gtT_i {x y : List Int} : fGtA (.tuple (mp .int x)) (.tuple (mp .int y)) = some (.bool (decide (y < x))) := by
  show (if okCmp _ _ = true then some (PyData.bool (dataLt _ _)) else none) = _
  rw [mp_map, mp_map, if_pos (okCmp_ints x y), lt_rows]
theorem leT_i {x y : List Int} : fLeA (.tuple (mp .int x)) (.tuple (mp .int y)) = some (.bool (!decide (y < x))) := by
  show (if okCmp _ _ = true then some (PyData.bool (!dataLt _ _)) else none) = _
  rw [mp_map, mp_map, if_pos (okCmp_ints x y), lt_rows]
theorem geT_i {x y : List Int} : fGeA (.tuple (mp .int x)) (.tuple (mp .int y)) = some (.bool (!decide (x < y))) := by
  show (if okCmp _ _ = true then some (PyData.bool (!dataLt _ _)) else none) = _
  rw [mp_map, mp_map, if_pos (okCmp_ints x y), lt_rows]
/-- a row that is changed in place later: [k for k in range(n)] as list(range(n)) -/
theorem fLR1_of {n : Nat} (h : n ≤ 16777216) : fLR1 (.int (n : Int)) = some (.obj (.ol (mp iN (List.range n)))) := by
  have e : fLR1 (.int (n : Int)) = if rgOk 0 (n : Int) = true then some (.obj (.ol (rng 0 ((n : Int) - 0).toNat))) else none := rfl
  rw [e, if_pos (rgOk_nat h), show ((n : Int) - 0).toNat = n by omega, rng_zero, mp_map]
  rfl
end Vl

-- U8
set_option Elab.async false
set_option linter.all false
set_option maxRecDepth 100000
set_option maxHeartbeats 4000000
namespace Vl
open PySem L2 PySem.W
/-! ### sorting tuples -/
theorem dsort_mp {α : Type} {e : α → PD} (l : List α) : dsort (mp e l) = mp e (l.mergeSort fun a b => dle (e a) (e b)) := by
  unfold dsort
  rw [mp_map, mp_map, ← List.map_mergeSort (f := e) (r := fun a b => dle (e a) (e b)) (s := dle) fun a _ b _ => rfl]
theorem srt_gen {α : Type} {e : α → PD} {l : List α} (ht : ∀ x ∈ l, ∃ ds, e x = .tuple ds) (h : okSortB (mp e l) = true) : fSortB [.list (mp e l)] = some (.obj (.ol (mp e (l.mergeSort fun a b => dle (e a) (e b))))) := by
  cases l with
  | nil =>
    have e0 := srt_n (l := [])
    rw [nasc_uniq (l := []) (m := []) (List.Perm.refl _) List.Pairwise.nil] at e0
    rw [List.mergeSort_nil]
    exact e0
  | cons x l =>
    have hI : fSortI [.list (mp e (x :: l))] = none := by
      obtain ⟨ds, hd⟩ := ht x List.mem_cons_self
      show (asInts (mp e (x :: l))).map _ = _
      rw [mp_cons, hd]; rfl
    unfold fSortB fSortA
    rw [hI]
    show (match (if okSortB (mp e (x :: l)) = true then some (Res.obj (.ol (dsort (mp e (x :: l))))) else none) with | some r => some r | none => _) = _
    rw [if_pos h, dsort_mp]
def rowN (l : List Nat) : List Int := l.map fun (n : Nat) => (n : Int)
theorem tp_row (l : List Nat) : tp iN l = .tuple ((rowN l).map .int) := by
  unfold rowN
  rw [List.map_map]; rfl
theorem rowN_inj {a b : List Nat} (h : rowN a = rowN b) : a = b := by
  have := congrArg (fun l => l.map Int.toNat) h
  unfold rowN at this
  rw [List.map_map, List.map_map] at this
  have e : ∀ l : List Nat, l.map (Int.toNat ∘ fun (n : Nat) => (n : Int)) = l := fun l => (List.map_congr_left fun z _ => by show Int.toNat (z : Int) = z; omega).trans (List.map_id l)
  rwa [e, e] at this
theorem okSort_tp {l : List (List Nat)} (h : (∀ x ∈ l, x ≠ []) ∨ l.length ≤ 1) : okSortB (mp (tp iN) l) = true := by
  have h1 : ∀ x y : List Nat, alike (tp iN x) (tp iN y) = true := fun x y => by
    rw [tp_row, tp_row]
    show alikeAll ((rowN x).map .int) ((rowN y).map .int) = true
    exact alike_ints _ _
  have h2 : ∀ x : List Nat, (tp iN x).depth ≤ 60 := fun x => by
    rw [tp_row]
    simp [PyData.depth, depth_ints]
  unfold okSortB
  rw [mp_map]
  simp only [Bool.and_eq_true, Bool.or_eq_true, List.all_eq_true, List.mem_map, decide_eq_true_eq]
  refine ⟨⟨?_, ?_⟩, ?_⟩
  · rintro _ ⟨x, _, rfl⟩ _ ⟨y, _, rfl⟩
    exact h1 x y
  · rcases h with h | h
    · left; left
      rintro _ ⟨x, hx, rfl⟩
      cases x with
      | nil => exact absurd rfl (h _ hx)
      | cons a x => rfl
    · right
      refine ⟨by simpa using h, ?_⟩
      rintro _ ⟨x, hx, rfl⟩
      rfl
  · rintro _ ⟨x, _, rfl⟩
    exact h2 x
theorem dle_tp (x y : List Nat) : dle (tp iN x) (tp iN y) = decide (rowN x ≤ rowN y) := by rw [tp_row, tp_row, dle_rows]
/-- rows sorted: the one list in order with the same rows -/
theorem srt_tp {l m : List (List Nat)} (hp : m.Perm l) (hs : (m.map rowN).Pairwise (· ≤ ·)) (h : (∀ x ∈ l, x ≠ []) ∨ l.length ≤ 1) : fSortB [.list (mp (tp iN) l)] = some (.obj (.ol (mp (tp iN) m))) := by
  rw [srt_gen (e := tp iN) (fun x _ => ⟨_, rfl⟩) (okSort_tp h)]
  congr 4
  have hd : (fun a b : List Nat => dle (tp iN a) (tp iN b)) = fun a b => decide (rowN a ≤ rowN b) := by funext a b; exact dle_tp a b
  rw [hd]
  have hsort : (l.mergeSort fun a b => decide (rowN a ≤ rowN b)).Pairwise fun a b => rowN a ≤ rowN b := by
    have := List.pairwise_mergeSort (le := fun a b : List Nat => decide (rowN a ≤ rowN b)) (fun a b c h1 h2 => by
      simp only [decide_eq_true_eq] at h1 h2 ⊢
      exact List.le_trans h1 h2) (fun a b => by
      simp only [Bool.or_eq_true, decide_eq_true_eq]
      exact List.le_total _ _) l
    exact this.imp fun q => by simpa using q
  rw [List.pairwise_map] at hs
  exact ((List.mergeSort_perm _ _).trans hp.symm).eq_of_pairwise (fun a b _ _ h1 h2 => rowN_inj (List.le_antisymm h1 h2)) hsort hs
/-! ### sorted(set(..)) of tuples -/
def tsort (l : List (List Nat)) : List (List Nat) := (rsort (l.map rowN)).map fun r => r.map Int.toNat
theorem unrowN (x : List Nat) : (rowN x).map Int.toNat = x := by
  unfold rowN
  rw [List.map_map]
  exact (List.map_congr_left fun z _ => by show Int.toNat (z : Int) = z; omega).trans (List.map_id x)
theorem tsort_row (l : List (List Nat)) : (tsort l).map rowN = rsort (l.map rowN) := by
  unfold tsort
  rw [List.map_map]
  refine (List.map_congr_left fun r hr => ?_).trans (List.map_id _)
  rw [mem_rsort, List.mem_map] at hr
  obtain ⟨x, _, rfl⟩ := hr
  show rowN ((rowN x).map Int.toNat) = rowN x
  rw [unrowN]
theorem mem_tsort {x : List Nat} {l : List (List Nat)} : x ∈ tsort l ↔ x ∈ l := by
  unfold tsort
  rw [List.mem_map]
  constructor
  · rintro ⟨r, hr, rfl⟩
    rw [mem_rsort, List.mem_map] at hr
    obtain ⟨q, hq, rfl⟩ := hr
    rw [unrowN]; exact hq
  · intro h
    exact ⟨rowN x, by rw [mem_rsort]; exact List.mem_map.mpr ⟨x, h, rfl⟩, unrowN x⟩
theorem tsort_len (l : List (List Nat)) : (tsort l).length ≤ l.length := by
  unfold tsort
  rw [List.length_map]
  have := rsort_len (l.map rowN)
  simpa using this
theorem tsort_lt (l : List (List Nat)) : (tsort l).Pairwise fun a b => rowN a < rowN b := by
  have h := sorted_rsort (l.map rowN)
  rw [← tsort_row, List.pairwise_map] at h
  exact h
theorem asRow_tp {x : List Nat} (h : x ≠ []) : asRow (tp iN x) = some (rowN x) := by
  show (asInts (mp iN x)).bind _ = _
  rw [asInts_nats]
  cases x with
  | nil => exact absurd rfl h
  | cons a x => rfl
theorem asRows_tp : ∀ {l : List (List Nat)}, (∀ x ∈ l, x ≠ []) → asRows (mp (tp iN) l) = some (l.map rowN)
  | [], _ => rfl
  | x :: l, h => by
    rw [mp_cons]
    unfold asRows
    rw [asRow_tp (h x List.mem_cons_self), asRows_tp fun y hy => h y (List.mem_cons_of_mem _ hy)]; rfl
theorem rows_tp (l : List (List Nat)) : ((l.map rowN).map fun r => PyData.tuple (r.map .int)) = mp (tp iN) l := by
  rw [mp_map, List.map_map]
  exact List.map_congr_left fun x _ => (tp_row x).symm
theorem fSSetB_of {d : PD} {r : Res} (h : fSSetA d = some r) : fSSetB d = some r := by unfold fSSetB; rw [h]
theorem fSSet_tp {x : List Nat} {l : List (List Nat)} : asInts (mp (tp iN) (x :: l)) = none := by
  rw [mp_cons]; rfl
theorem ssB_t {l : List (List Nat)} (h : l.length < 64) (hne : ∀ x ∈ l, x ≠ []) : fSSetB (.list (mp (tp iN) l)) = some (.obj (.ol (mp (tp iN) (tsort l)))) := by
  refine fSSetB_of ?_
  unfold fSSetA
  cases l with
  | nil => rfl
  | cons x l =>
    have e1 : fSSet (.list (mp (tp iN) (x :: l))) = none := by
      show (asInts (mp (tp iN) (x :: l))).bind _ = _
      rw [fSSet_tp]; rfl
    rw [e1]
    show (asRows (mp (tp iN) (x :: l))).bind _ = _
    rw [asRows_tp hne]
    show (if ((x :: l).map rowN).length < 64 then _ else none) = _
    rw [if_pos (by simpa using h), ← tsort_row, rows_tp]
theorem ssB_tT {l : List (List Nat)} (h : l.length < 64) (hne : ∀ x ∈ l, x ≠ []) : fSSetB (.tuple (mp (tp iN) l)) = some (.obj (.ol (mp (tp iN) (tsort l)))) := by
  cases l with
  | nil => rfl
  | cons x l =>
    unfold fSSetB fSSetA
    have e1 : fSSet (.tuple (mp (tp iN) (x :: l))) = none := by
      show (asInts (mp (tp iN) (x :: l))).bind _ = _
      rw [fSSet_tp]; rfl
    rw [e1]
    show (asRows (mp (tp iN) (x :: l))).bind _ = _
    rw [asRows_tp hne]
    show (if ((x :: l).map rowN).length < 64 then _ else none) = _
    rw [if_pos (by simpa using h), ← tsort_row, rows_tp]
theorem ssB_n {l : List Nat} (h : l.length < 4000) : fSSetB (.list (mp iN l)) = some (.obj (.ol (mp iN (nsort l)))) := fSSetB_of (sset_n h)
theorem ssB_nT {l : List Nat} (h : l.length < 4000) : fSSetB (.tuple (mp iN l)) = some (.obj (.ol (mp iN (nsort l)))) := fSSetB_of (sset_nT h)
theorem ssB_ng {α : Type} {g : α → Nat} {l : List α} (h : l.length < 4000) : fSSetB (.list (mp (fun y => .int (g y : Int)) l)) = some (.obj (.ol (mp iN (nsort (l.map g))))) := fSSetB_of (sset_ng h)
theorem ssB_i {l : List Int} (h : l.length < 4000) : fSSetB (.list (mp .int l)) = some (.obj (.ol (mp .int (usort l)))) := fSSetB_of (sset_i h)
theorem ssB_iT {l : List Int} (h : l.length < 4000) : fSSetB (.tuple (mp .int l)) = some (.obj (.ol (mp .int (usort l)))) := fSSetB_of (sset_iT h)
theorem ssB_p {l : List (Nat × Nat)} (h : l.length < 64) : fSSetB (.list (mp (pr iN iN) l)) = some (.obj (.ol (mp (pr iN iN) (psort l)))) := fSSetB_of (sset_p h)
/-! ### sorting (length, row) -/
def lrow (s : List Nat) : PD := .tuple [.int (s.length : Int), .tuple (mp iN s)]
theorem okSort_lrow (l : List (List Nat)) : okSortB (mp lrow l) = true := by
  have h1 : ∀ x y : List Nat, alike (lrow x) (lrow y) = true := fun x y => by
    unfold lrow
    have e := alike_ints (rowN x) (rowN y)
    have ex : ∀ z : List Nat, mp iN z = (rowN z).map .int := fun z => by unfold rowN; rw [List.map_map]; rfl
    rw [ex, ex]
    simp [alike, alikeAll, e]
  have h2 : ∀ x : List Nat, (lrow x).depth ≤ 60 := fun x => by
    unfold lrow
    have ex : mp iN x = (rowN x).map .int := by unfold rowN; rw [List.map_map]; rfl
    rw [ex]
    simp [PyData.depth, PyData.depthAll, depth_ints]
  unfold okSortB
  rw [mp_map]
  simp only [Bool.and_eq_true, Bool.or_eq_true, List.all_eq_true, List.mem_map, decide_eq_true_eq]
  refine ⟨⟨?_, ?_⟩, ?_⟩
  · rintro _ ⟨x, _, rfl⟩ _ ⟨y, _, rfl⟩
    exact h1 x y
  · left; left
    rintro _ ⟨x, hx, rfl⟩
    rfl
  · rintro _ ⟨x, _, rfl⟩
    exact h2 x
def lsort (l : List (List Nat)) : List (List Nat) := l.mergeSort fun a b => dle (lrow a) (lrow b)
theorem lsort_perm (l : List (List Nat)) : (lsort l).Perm l := List.mergeSort_perm _ _
theorem srt_lrow {l : List (List Nat)} : fSortB [.list (mp lrow l)] = some (.obj (.ol (mp lrow (lsort l)))) := srt_gen (fun x _ => ⟨_, rfl⟩) (okSort_lrow l)
end Vl

-- U9
set_option Elab.async false
set_option linter.all false
set_option maxRecDepth 100000
set_option maxHeartbeats 4000000
/-! loops by the slots that change; comprehensions by what each item gives -/
namespace Vl
open PySem L2
/-! ### slots put -/
def put1 : Nat → Slot → AS → AS
  | _, _, [] => []
  | 0, z, _ :: l => z :: l
  | i + 1, z, s :: l => s :: put1 i z l
@[simp] theorem put1_zero {z s : Slot} {l : AS} : put1 0 z (s :: l) = z :: l := (rfl)
@[simp] theorem put1_succ {z s : Slot} {l : AS} {i : Nat} : put1 (i + 1) z (s :: l) = s :: put1 i z l := (rfl)
theorem put1_eq : ∀ (i : Nat) (z : Slot) (as : AS), put1 i z as = as.set i z
  | i, z, [] => by cases i <;> rfl
  | 0, _, _ :: _ => rfl
  | i + 1, z, s :: l => by rw [put1_succ, put1_eq i z l]; rfl
def putS : List Nat → List Slot → AS → AS
  | w :: ws, s :: ss, as => put1 w s (putS ws ss as)
  | _, _, as => as
@[simp] theorem putS_nil {ss : List Slot} {as : AS} : putS [] ss as = as := (rfl)
@[simp] theorem putS_cons {w : Nat} {ws : List Nat} {s : Slot} {ss : List Slot} {as : AS} : putS (w :: ws) (s :: ss) as = put1 w s (putS ws ss as) := (rfl)
/-- slots that hold anything that lasts, anything that may be set anew -/
structure Ud where
  s : Slot
  h : udS s = true
structure Fr where
  s : Slot
  h : isF s = true
@[simp] theorem Ud_ud (x : Ud) : udS x.s = true := x.h
@[simp] theorem Ud_f (x : Ud) : isF x.s = true := udS_isF x.h
@[simp] theorem Fr_f (x : Fr) : isF x.s = true := x.h
def putU : List Nat → (Nat → Ud) → AS → AS
  | [], _, as => as
  | j :: js, ζ, as => put1 j (ζ j).s (putU js ζ as)
@[simp] theorem putU_nil {ζ : Nat → Ud} {as : AS} : putU [] ζ as = as := (rfl)
@[simp] theorem putU_cons {j : Nat} {js : List Nat} {ζ : Nat → Ud} {as : AS} : putU (j :: js) ζ as = put1 j (ζ j).s (putU js ζ as) := (rfl)
def putF : List Nat → (Nat → Fr) → AS → AS
  | [], _, as => as
  | j :: js, ξ, as => put1 j (ξ j).s (putF js ξ as)
@[simp] theorem putF_nil {ξ : Nat → Fr} {as : AS} : putF [] ξ as = as := (rfl)
@[simp] theorem putF_cons {j : Nat} {js : List Nat} {ξ : Nat → Fr} {as : AS} : putF (j :: js) ξ as = put1 j (ξ j).s (putF js ξ as) := (rfl)
def fL : Nat → AS → Bool
  | _, [] => true
  | 0, s :: _ => isF s
  | i + 1, _ :: l => fL i l
@[simp] theorem fL_zero {s : Slot} {l : AS} : fL 0 (s :: l) = isF s := (rfl)
@[simp] theorem fL_succ {s : Slot} {l : AS} {i : Nat} : fL (i + 1) (s :: l) = fL i l := (rfl)
def frF : List Nat → AS → Bool
  | [], _ => true
  | j :: js, as => fL j as && frF js as
@[simp] theorem frF_nil {as : AS} : frF [] as = true := (rfl)
@[simp] theorem frF_cons {j : Nat} {js : List Nat} {as : AS} : frF (j :: js) as = (fL j as && frF js as) := (rfl)
theorem udL_get : ∀ (i : Nat) (as : AS), udL i as = udS (as.getD i .un)
  | i, [] => by cases i <;> rfl
  | 0, s :: _ => rfl
  | i + 1, s :: l => by rw [udL_succ, udL_get i l]; simp
theorem fL_get : ∀ (i : Nat) (as : AS), fL i as = isF (as.getD i .un)
  | i, [] => by cases i <;> rfl
  | 0, s :: _ => rfl
  | i + 1, s :: l => by rw [fL_succ, fL_get i l]; simp
theorem putU_get (ζ : Nat → Ud) : ∀ (js : List Nat) (as : AS) (k : Nat), (putU js ζ as)[k]? = if k ∈ js ∧ k < as.length then some (ζ k).s else as[k]?
  | [], as, k => by simp
  | j :: js, as, k => by
    have hl : ∀ (js : List Nat), (putU js ζ as).length = as.length := fun js => by
      induction js with
      | nil => rfl
      | cons j js ih => rw [putU_cons, put1_eq, List.length_set, ih]
    rw [putU_cons, put1_eq, List.getElem?_set, putU_get ζ js as k, hl]
    by_cases h : j = k
    · subst h
      by_cases h2 : j < as.length
      · simp [h2]
      · simp [h2]
    · have : k ≠ j := fun e => h e.symm
      simp [h, this]
theorem putF_get (ξ : Nat → Fr) : ∀ (js : List Nat) (as : AS) (k : Nat), (putF js ξ as)[k]? = if k ∈ js ∧ k < as.length then some (ξ k).s else as[k]?
  | [], as, k => by simp
  | j :: js, as, k => by
    have hl : ∀ (js : List Nat), (putF js ξ as).length = as.length := fun js => by
      induction js with
      | nil => rfl
      | cons j js ih => rw [putF_cons, put1_eq, List.length_set, ih]
    rw [putF_cons, put1_eq, List.getElem?_set, putF_get ξ js as k, hl]
    by_cases h : j = k
    · subst h
      by_cases h2 : j < as.length
      · simp [h2]
      · simp [h2]
    · have : k ≠ j := fun e => h e.symm
      simp [h, this]
theorem putU_len (ζ : Nat → Ud) : ∀ (js : List Nat) (as : AS), (putU js ζ as).length = as.length
  | [], as => rfl
  | j :: js, as => by rw [putU_cons, put1_eq, List.length_set, putU_len ζ js as]
theorem putF_len (ζ : Nat → Fr) : ∀ (js : List Nat) (as : AS), (putF js ζ as).length = as.length
  | [], as => rfl
  | j :: js, as => by rw [putF_cons, put1_eq, List.length_set, putF_len ζ js as]
theorem free_get : ∀ {js : List Nat} {as : AS}, free js as = true → ∀ j ∈ js, udS (as.getD j .un) = true
  | [], _, _, _, h => absurd h List.not_mem_nil
  | i :: js, as, h, j, hj => by
    rw [free_cons, Bool.and_eq_true] at h
    rcases List.mem_cons.mp hj with rfl | hj
    · rw [← udL_get]; exact h.1
    · exact free_get h.2 j hj
theorem frF_get : ∀ {js : List Nat} {as : AS}, frF js as = true → ∀ j ∈ js, isF (as.getD j .un) = true
  | [], _, _, _, h => absurd h List.not_mem_nil
  | i :: js, as, h, j, hj => by
    rw [frF_cons, Bool.and_eq_true] at h
    rcases List.mem_cons.mp hj with rfl | hj
    · rw [← fL_get]; exact h.1
    · exact frF_get h.2 j hj
theorem clr_getX : ∀ (js : List Nat) (as : AS) (k : Nat), (clr js as)[k]? = if k ∈ js ∧ k < as.length then some .un else as[k]?
  | [], as, k => by simp
  | j :: js, as, k => by
    have hl : ∀ (js : List Nat), (clr js as).length = as.length := fun js => by
      induction js with
      | nil => rfl
      | cons j js ih => rw [clr_cons, unS_eq, List.length_set, ih]
    rw [clr_cons, unS_eq, List.getElem?_set, clr_getX js as k, hl]
    by_cases h : j = k
    · subst h
      by_cases h2 : j < as.length
      · simp [h2]
      · simp [h2]
    · have : k ≠ j := fun e => h e.symm
      simp [h, this]
theorem clr_lenX : ∀ (js : List Nat) (as : AS), (clr js as).length = as.length
  | [], as => rfl
  | j :: js, as => by rw [clr_cons, unS_eq, List.length_set, clr_lenX js as]
/-- a state that is like another one but at free slots -/
theorem like_put {js fs : List Nat} {as a0 : AS} (h : clr (js ++ fs) as = clr (js ++ fs) a0) (hj : free js as = true) (hf : frF fs as = true) :
    ∃ (ζ : Nat → Ud) (ξ : Nat → Fr), as = putU js ζ (putF fs ξ a0) := by
  have hlen : as.length = a0.length := by
    have := congrArg List.length h
    rwa [clr_lenX, clr_lenX] at this
  refine ⟨fun j => if q : udS (as.getD j .un) = true then ⟨_, q⟩ else ⟨.un, rfl⟩, fun j => if q : isF (as.getD j .un) = true then ⟨_, q⟩ else ⟨.un, rfl⟩, ?_⟩
  refine List.ext_getElem? fun k => ?_
  have hk := congrArg (fun l : AS => l[k]?) h
  simp only [clr_getX, List.mem_append] at hk
  rw [putU_get, putF_get]
  rw [putF_len]
  by_cases h1 : k ∈ js ∧ k < a0.length
  · rw [if_pos h1]
    have := free_get hj k h1.1
    rw [dif_pos this]
    show as[k]? = some (as.getD k .un)
    rw [List.getElem?_eq_getElem (by omega)]
    simp [List.getD_eq_getElem?_getD, List.getElem?_eq_getElem (show k < as.length by omega)]
  · rw [if_neg h1]
    by_cases h2 : k ∈ fs ∧ k < a0.length
    · rw [if_pos h2]
      have := frF_get hf k h2.1
      rw [dif_pos this]
      show as[k]? = some (as.getD k .un)
      rw [List.getElem?_eq_getElem (by omega)]
      simp [List.getD_eq_getElem?_getD, List.getElem?_eq_getElem (show k < as.length by omega)]
    · rw [if_neg h2]
      rw [if_neg (fun q => by
        rcases q.1 with q1 | q1
        · exact h1 ⟨q1, by omega⟩
        · exact h2 ⟨q1, by omega⟩), if_neg (fun q => by
        rcases q.1 with q1 | q1
        · exact h1 ⟨q1, by omega⟩
        · exact h2 ⟨q1, by omega⟩)] at hk
      exact hk
section
variable {α : Type} {g : PD → AS → Option AS} {b rest : MS} {as : AS} {Q : Ctl → AS → Prop} {e : α → PD}
/-- the state of a loop: R of the slots ws, the slots js and fs free -/
def Lk (ws js fs : List Nat) (R : List Slot → Prop) (as as' : AS) : Prop := ∃ ss, R ss ∧ clr (js ++ fs) as' = clr (js ++ fs) (putS ws ss as) ∧ free js as' = true ∧ frF fs as' = true
theorem Lk_put {ws js fs : List Nat} {R : List Slot → Prop} {as as' : AS} (h : Lk ws js fs R as as') : ∃ ss ζ ξ, R ss ∧ as' = putU js ζ (putF fs ξ (putS ws ss as)) := by
  obtain ⟨ss, h1, h2, h3, h4⟩ := h
  obtain ⟨ζ, ξ, e⟩ := like_put h2 h3 h4
  exact ⟨ss, ζ, ξ, h1, e⟩
theorem Po_forX {l : List α} (ws js fs : List Nat) (R : List α → List Slot → Prop) (ss0 : List Slot) (h0 : R [] ss0) (h1 : clr (js ++ fs) as = clr (js ++ fs) (putS ws ss0 as)) (h2 : free js as = true) (h3 : frF fs as = true)
    (step : ∀ (T : List α → AS → Prop) (B : AS → Prop), (∀ pre ss as', R pre ss → clr (js ++ fs) as' = clr (js ++ fs) (putS ws ss as) → free js as' = true → frF fs as' = true → T pre as') → (∀ as', Po (rest as') Q → B as') →
      ∀ (ζ : Nat → Ud) (ξ : Nat → Fr) pre x suf ss, l = pre ++ x :: suf → R pre ss → Po (kTn (g (e x) (putU js ζ (putF fs ξ (putS ws ss as)))) b) (Cn (T (pre ++ [x])) B Q))
    (fin : ∀ (ζ : Nat → Ud) (ξ : Nat → Fr) ss, R l ss → Po (rest (putU js ζ (putF fs ξ (putS ws ss as)))) Q) : Po (kT (forL g b (mp e l) as) rest) Q := by
  refine Po_for (fun pre as' => Lk ws js fs (R pre) as as') ⟨ss0, h0, h1, h2, h3⟩ (fun pre x suf as' hl h => ?_) (fun as' h => ?_)
  · obtain ⟨ss, ζ, ξ, hr, rfl⟩ := Lk_put h
    exact step (fun pre as' => Lk ws js fs (R pre) as as') _ (fun pre ss as' a b c d => ⟨ss, a, b, c, d⟩) (fun _ h => h) ζ ξ pre x suf ss hl hr
  · obtain ⟨ss, ζ, ξ, hr, rfl⟩ := Lk_put h
    exact fin ζ ξ ss hr
theorem Po_rgX {n : Nat} (ws js fs : List Nat) (R : Nat → List Slot → Prop) (ss0 : List Slot) (h0 : R 0 ss0) (h1 : clr (js ++ fs) as = clr (js ++ fs) (putS ws ss0 as)) (h2 : free js as = true) (h3 : frF fs as = true)
    (step : ∀ (T : Nat → AS → Prop) (B : AS → Prop), (∀ i ss as', R i ss → clr (js ++ fs) as' = clr (js ++ fs) (putS ws ss as) → free js as' = true → frF fs as' = true → T i as') → (∀ as', Po (rest as') Q → B as') →
      ∀ (ζ : Nat → Ud) (ξ : Nat → Fr) i ss, i < n → R i ss → Po (kTn (g (.int (i : Int)) (putU js ζ (putF fs ξ (putS ws ss as)))) b) (Cn (T (i + 1)) B Q))
    (fin : ∀ (ζ : Nat → Ud) (ξ : Nat → Fr) ss, R n ss → Po (rest (putU js ζ (putF fs ξ (putS ws ss as)))) Q) : Po (kT (forL g b (mp iN (List.range n)) as) rest) Q := by
  refine Po_rg (fun i as' => Lk ws js fs (R i) as as') ⟨ss0, h0, h1, h2, h3⟩ (fun i as' hl h => ?_) (fun as' h => ?_)
  · obtain ⟨ss, ζ, ξ, hr, rfl⟩ := Lk_put h
    exact step (fun pre as' => Lk ws js fs (R pre) as as') _ (fun pre ss as' a b c d => ⟨ss, a, b, c, d⟩) (fun _ h => h) ζ ξ i ss hl hr
  · obtain ⟨ss, ζ, ξ, hr, rfl⟩ := Lk_put h
    exact fin ζ ξ ss hr
theorem Po_rgX' {a n : Nat} (ws js fs : List Nat) (R : Nat → List Slot → Prop) (ss0 : List Slot) (h0 : R a ss0) (h1 : clr (js ++ fs) as = clr (js ++ fs) (putS ws ss0 as)) (h2 : free js as = true) (h3 : frF fs as = true)
    (step : ∀ (T : Nat → AS → Prop) (B : AS → Prop), (∀ i ss as', R i ss → clr (js ++ fs) as' = clr (js ++ fs) (putS ws ss as) → free js as' = true → frF fs as' = true → T i as') → (∀ as', Po (rest as') Q → B as') →
      ∀ (ζ : Nat → Ud) (ξ : Nat → Fr) i ss, a ≤ i → i < a + n → R i ss → Po (kTn (g (.int (i : Int)) (putU js ζ (putF fs ξ (putS ws ss as)))) b) (Cn (T (i + 1)) B Q))
    (fin : ∀ (ζ : Nat → Ud) (ξ : Nat → Fr) ss, R (a + n) ss → Po (rest (putU js ζ (putF fs ξ (putS ws ss as)))) Q) : Po (kT (forL g b (mp iN (List.range' a n)) as) rest) Q := by
  refine Po_rg' (fun i as' => Lk ws js fs (R i) as as') ⟨ss0, h0, h1, h2, h3⟩ (fun i as' hl hl2 h => ?_) (fun as' h => ?_)
  · obtain ⟨ss, ζ, ξ, hr, rfl⟩ := Lk_put h
    exact step (fun pre as' => Lk ws js fs (R pre) as as') _ (fun pre ss as' a b c d => ⟨ss, a, b, c, d⟩) (fun _ h => h) ζ ξ i ss hl hl2 hr
  · obtain ⟨ss, ζ, ξ, hr, rfl⟩ := Lk_put h
    exact fin ζ ξ ss hr
theorem Po_forDX {ds : List PD} (ws js fs : List Nat) (R : Nat → List Slot → Prop) (ss0 : List Slot) (h0 : R 0 ss0) (h1 : clr (js ++ fs) as = clr (js ++ fs) (putS ws ss0 as)) (h2 : free js as = true) (h3 : frF fs as = true)
    (step : ∀ (T : Nat → AS → Prop) (B : AS → Prop), (∀ i ss as', R i ss → clr (js ++ fs) as' = clr (js ++ fs) (putS ws ss as) → free js as' = true → frF fs as' = true → T i as') → (∀ as', Po (rest as') Q → B as') →
      ∀ (ζ : Nat → Ud) (ξ : Nat → Fr) i d ss, ds[i]? = some d → R i ss → Po (kTn (g d (putU js ζ (putF fs ξ (putS ws ss as)))) b) (Cn (T (i + 1)) B Q))
    (fin : ∀ (ζ : Nat → Ud) (ξ : Nat → Fr) ss, R ds.length ss → Po (rest (putU js ζ (putF fs ξ (putS ws ss as)))) Q) : Po (kT (forL g b ds as) rest) Q := by
  refine Po_forD (fun i as' => Lk ws js fs (R i) as as') ⟨ss0, h0, h1, h2, h3⟩ (fun i d as' hl h => ?_) (fun as' h => ?_)
  · obtain ⟨ss, ζ, ξ, hr, rfl⟩ := Lk_put h
    exact step (fun pre as' => Lk ws js fs (R pre) as as') _ (fun pre ss as' a b c d => ⟨ss, a, b, c, d⟩) (fun _ h => h) ζ ξ i d ss hl hr
  · obtain ⟨ss, ζ, ξ, hr, rfl⟩ := Lk_put h
    exact fin ζ ξ ss hr
theorem Po_whileX {c : M Bool} (ws js fs : List Nat) (R : Nat → List Slot → Prop) (k : Nat) (hk : k < 1000000000) (ss0 : List Slot) (h0 : R k ss0) (h1 : clr (js ++ fs) as = clr (js ++ fs) (putS ws ss0 as)) (h2 : free js as = true) (h3 : frF fs as = true)
    (step : ∀ (T : AS → Prop) (B : AS → Prop), ∀ (ζ : Nat → Ud) (ξ : Nat → Fr) k ss, R k ss → (∀ k' ss as', k' < k → R k' ss → clr (js ++ fs) as' = clr (js ++ fs) (putS ws ss as) → free js as' = true → frF fs as' = true → T as') → (∀ as', Po (rest as') Q → B as') →
      Po (kI (c (putU js ζ (putF fs ξ (putS ws ss as)))) b sBk) (Cn T B Q)) : Po (kT (sWhile c b as) rest) Q := by
  refine Po_while (fun i as' => Lk ws js fs (R i) as as') k hk ⟨ss0, h0, h1, h2, h3⟩ (fun i as' h => ?_)
  obtain ⟨ss, ζ, ξ, hr, rfl⟩ := Lk_put h
  exact step _ _ ζ ξ i ss hr (fun k' ss as' a b c d f => ⟨k', a, ss, b, c, d, f⟩) (fun _ h => h)
end
/-! ### comprehensions -/
theorem fmcX {α β : Type} {f g : α → Option β} : ∀ {l : List α}, (∀ x ∈ l, f x = g x) → l.filterMap f = l.filterMap g
  | [], _ => rfl
  | x :: l, h => by rw [List.filterMap_cons, List.filterMap_cons, h x List.mem_cons_self, fmcX fun y hy => h y (List.mem_cons_of_mem _ hy)]
def Cm (q : Option (Option PD × AS)) (Q : Option PD → AS → Prop) : Prop := ∃ o s, q = some (o, s) ∧ Q o s
@[simp] theorem Cm_some {o : Option PD} {s : AS} {Q : Option PD → AS → Prop} : Cm (some (o, s)) Q = Q o s := by
  refine propext ⟨fun ⟨o', s', h, q⟩ => ?_, fun h => ⟨o, s, rfl, h⟩⟩
  cases h; exact q
section
variable {α β : Type} {g g1 : PD → AS → Option AS} {c c1 : M Bool} {el : M PD} {mi1 : M (List PD)} {as : AS} {vs vs1 : List Nat} {e : α → PD}
theorem kLd_mapX {l : List α} {F : (x : α) → x ∈ l → Option (Option PD × AS)} (f : α → PD) (hf : free vs as = true) (hl : l.length ≤ 16777216) (h : ∀ x hx, Cm (F x hx) fun o s => o = some (f x) ∧ clr vs s = clr vs as) : kLd g c el e vs as l F = some (.obj (.ol (mp f l)), as) := by
  unfold kLd
  rw [if_pos ⟨fun x hx => by obtain ⟨o, s, h1, h2, h3⟩ := h x hx; exact ⟨o, s, h1, h3⟩, hf, hl⟩]
  congr 4
  have hF : ∀ x : {x // x ∈ l}, (F x.1 x.2).bind (·.1) = some (f x.1) := fun x => by
    obtain ⟨o, s, h1, h2, h3⟩ := h x.1 x.2
    rw [h1, h2]; rfl
  rw [fmcX (g := fun x : {x // x ∈ l} => some (f x.1)) fun x _ => hF x]
  rw [attF fun x => some (f x)]
  clear h hl hF F
  induction l with
  | nil => rfl
  | cons x l ih => rw [List.filterMap_cons, mp_cons, ih]
theorem kLd_ifX {l : List α} {F : (x : α) → x ∈ l → Option (Option PD × AS)} (b : α → Bool) (f : α → PD) (hf : free vs as = true) (hl : l.length ≤ 16777216) (h : ∀ x hx, Cm (F x hx) fun o s => o = bo (b x) (f x) ∧ clr vs s = clr vs as) : kLd g c el e vs as l F = some (.obj (.ol (mp f (l.filter b))), as) := by
  unfold kLd
  rw [if_pos ⟨fun x hx => by obtain ⟨o, s, h1, h2, h3⟩ := h x hx; exact ⟨o, s, h1, h3⟩, hf, hl⟩]
  congr 4
  have hF : ∀ x : {x // x ∈ l}, (F x.1 x.2).bind (·.1) = bo (b x.1) (f x.1) := fun x => by
    obtain ⟨o, s, h1, h2, h3⟩ := h x.1 x.2
    rw [h1, h2]; rfl
  rw [fmcX (g := fun x : {x // x ∈ l} => bo (b x.1) (f x.1)) fun x _ => hF x]
  rw [attF fun x => bo (b x) (f x)]
  clear h hl hF F
  induction l with
  | nil => rfl
  | cons x l ih =>
    rw [List.filterMap_cons, ih]
    cases hb : b x with
    | false => rw [List.filter_cons_of_neg (by simp [hb])]; simp
    | true => rw [List.filter_cons_of_pos hb, mp_cons]; simp
theorem kLj_mapX {l : List α} {F : (x : α) → x ∈ l → Option (Option PD × AS)} (f : α → PD) (h : ∀ x hx, Cm (F x hx) fun o s => o = some (f x) ∧ clr vs s = clr vs as) : kLj g c el e vs as l F = some (mp f l, clr vs as) := by
  unfold kLj
  rw [if_pos fun x hx => by obtain ⟨o, s, h1, h2, h3⟩ := h x hx; exact ⟨o, s, h1, h3⟩]
  congr 2
  have hF : ∀ x : {x // x ∈ l}, (F x.1 x.2).bind (·.1) = some (f x.1) := fun x => by
    obtain ⟨o, s, h1, h2, h3⟩ := h x.1 x.2
    rw [h1, h2]; rfl
  rw [fmcX (g := fun x : {x // x ∈ l} => some (f x.1)) fun x _ => hF x]
  rw [attF fun x => some (f x)]
  clear h hF F
  induction l with
  | nil => rfl
  | cons x l ih => rw [List.filterMap_cons, mp_cons, ih]
theorem kLj_ifX {l : List α} {F : (x : α) → x ∈ l → Option (Option PD × AS)} (b : α → Bool) (f : α → PD) (h : ∀ x hx, Cm (F x hx) fun o s => o = bo (b x) (f x) ∧ clr vs s = clr vs as) : kLj g c el e vs as l F = some (mp f (l.filter b), clr vs as) := by
  unfold kLj
  rw [if_pos fun x hx => by obtain ⟨o, s, h1, h2, h3⟩ := h x hx; exact ⟨o, s, h1, h3⟩]
  congr 2
  have hF : ∀ x : {x // x ∈ l}, (F x.1 x.2).bind (·.1) = bo (b x.1) (f x.1) := fun x => by
    obtain ⟨o, s, h1, h2, h3⟩ := h x.1 x.2
    rw [h1, h2]; rfl
  rw [fmcX (g := fun x : {x // x ∈ l} => bo (b x.1) (f x.1)) fun x _ => hF x]
  rw [attF fun x => bo (b x) (f x)]
  clear h hF F
  induction l with
  | nil => rfl
  | cons x l ih =>
    rw [List.filterMap_cons, ih]
    cases hb : b x with
    | false => rw [List.filter_cons_of_neg (by simp [hb])]; simp
    | true => rw [List.filter_cons_of_pos hb, mp_cons]; simp
def CmL (q : Option (List PD × AS)) (Q : List PD → AS → Prop) : Prop := ∃ o s, q = some (o, s) ∧ Q o s
@[simp] theorem CmL_some {o : List PD} {s : AS} {Q : List PD → AS → Prop} : CmL (some (o, s)) Q = Q o s := by
  refine propext ⟨fun ⟨o', s', h, q⟩ => ?_, fun h => ⟨o, s, rfl, h⟩⟩
  cases h; exact q
theorem kLd2_mpX {l : List α} {F : (x : α) → x ∈ l → Option (List PD × AS)} (f : β → PD) (m : α → List β) (hf : free vs as = true) (hl : (l.flatMap m).length ≤ 16777216) (h : ∀ x hx, CmL (F x hx) fun o s => o = mp f (m x) ∧ clr vs s = clr vs as) : kLd2 g c mi1 g1 c1 el e vs vs1 as l F = some (.obj (.ol (mp f (l.flatMap m))), as) := by
  have hF : ∀ x : {x // x ∈ l}, ((F x.1 x.2).map (·.1)).getD [] = mp f (m x.1) := fun x => by
    obtain ⟨o, s, h1, h2, h3⟩ := h x.1 x.2
    rw [h1, h2]; rfl
  have hA : (l.attach.flatMap fun x => ((F x.1 x.2).map (·.1)).getD []) = mp f (l.flatMap m) := by
    have : (fun x : {x // x ∈ l} => ((F x.1 x.2).map (·.1)).getD []) = fun x => mp f (m x.1) := by funext x; exact hF x
    rw [this, attM fun x => mp f (m x), ← fm_mp]; rfl
  unfold kLd2
  rw [if_pos ⟨fun x hx => by obtain ⟨o, s, h1, h2, h3⟩ := h x hx; exact ⟨o, s, h1, h3⟩, hf, by rw [hA, mp_length]; exact hl⟩, hA]
end
/-! ### comprehensions that draw: what comes is bounded -/
section
variable {α β : Type} {g : PD → AS → Option AS} {c : M Bool} {el : M PD} {as : AS} {vs : List Nat} {e : α → PD}
theorem back_getX : ∀ (vs : List Nat) (k l : AS) (i : Nat), (back vs k l)[i]? = if i ∈ vs ∧ i < l.length then some (k.getD i .un) else l[i]?
  | [], k, l, i => by simp
  | j :: vs, k, l, i => by
    have hl : ∀ (vs : List Nat), (back vs k l).length = l.length := fun vs => by
      induction vs with
      | nil => rfl
      | cons j vs ih => rw [back_cons, ← bkS_eq, List.length_set, ih]
    rw [back_cons, ← bkS_eq, List.getElem?_set, back_getX vs k l i, hl]
    by_cases h : j = i
    · subst h
      by_cases h2 : j < l.length
      · simp [h2]
      · simp [h2]
    · have : i ≠ j := fun e => h e.symm
      simp [h, this]
theorem put1_len (j : Nat) (z : Slot) (as : AS) : (put1 j z as).length = as.length := by rw [put1_eq, List.length_set]
theorem back_put {j : Nat} {a b : Slot} (hv : j ∉ vs) : back vs (put1 j a as) (clr vs (put1 j b as)) = put1 j b as := by
  refine List.ext_getElem? fun i => ?_
  rw [back_getX, clr_lenX, clr_getX, put1_len]
  by_cases h : i ∈ vs ∧ i < as.length
  · have hij : j ≠ i := fun e => hv (by rw [e]; exact h.1)
    rw [if_pos h, put1_eq, put1_eq, List.getElem?_set_ne hij, List.getElem?_eq_getElem h.2]
    simp [List.getD_eq_getElem?_getD, List.getElem?_set_ne hij, List.getElem?_eq_getElem h.2]
  · rw [if_neg h, if_neg h]
theorem kLc_drawX {q : Option (Res × AS)} {l : List α} (hq : kLc vs g c el (some (mp e l, as)) = q) (j : Nat) (mk : List Int → Slot) (ds : List Int) (eo : β → PD) (P : α → β → Prop) (hj : as = put1 j (mk ds) as) (hv : j ∉ vs) (hf : free vs as = true) (hl : l.length ≤ 16777216)
    (h : ∀ x ∈ l, ∀ s, ∃ y s', P x y ∧ Cm (kB (g (e x) (clr vs (put1 j (mk s) as))) c el) fun o as' => o = some (eo y) ∧ clr vs as' = clr vs (put1 j (mk s') as)) :
    ∃ (ys : List β) (ds' : List Int), q = some (.obj (.ol (mp eo ys)), put1 j (mk ds') as) ∧ ys.length = l.length ∧ (∀ (i : Nat) (x : α) (y : β), l[i]? = some x → ys[i]? = some y → P x y) ∧ ∀ y ∈ ys, ∃ x ∈ l, P x y := by
  obtain ⟨ys, ds', h1, h2, h3⟩ := kLc_st (g := g) (c := c) (el := el) (vs := vs) (e := e) (fun s => put1 j (mk s) as) eo P l ds (fun x hx s => by
    obtain ⟨y, s', hp, o, as', e1, rfl, e2⟩ := h x hx s
    exact ⟨y, s', as', e1, e2, hp⟩) (by rw [← hj]; exact hf) hl (fun s' => by rw [back_put hv, back_put hv])
  rw [← hj, hq] at h1
  refine ⟨ys, ds', h1, h2, h3, fun y hy => ?_⟩
  obtain ⟨i, hi, rfl⟩ := List.getElem_of_mem hy
  exact ⟨l[i]'(by omega), List.getElem_mem _, h3 i _ _ (List.getElem?_eq_getElem (by omega)) (List.getElem?_eq_getElem hi)⟩
theorem kLc_drawF {q : Option (Res × AS)} {l : List α} (hq : kLc vs g c el (some (mp e l, as)) = q) (j : Nat) (mk : List Int → Slot) (ds : List Int) (eo : α → PD) (hj : as = put1 j (mk ds) as) (hv : j ∉ vs) (hf : free vs as = true) (hl : l.length ≤ 16777216)
    (h : ∀ x ∈ l, ∀ s, ∃ (b : Bool) (s' : List Int), Cm (kB (g (e x) (clr vs (put1 j (mk s) as))) c el) fun o as' => o = bo b (eo x) ∧ clr vs as' = clr vs (put1 j (mk s') as)) :
    ∃ (ys : List α) (ds' : List Int), q = some (.obj (.ol (mp eo ys)), put1 j (mk ds') as) ∧ ys.Sublist l := by
  obtain ⟨os, ds', h1, h2, h3⟩ := lcL_st (g := g) (c := c) (el := el) (vs := vs) (e := e) (fun s => put1 j (mk s) as) (fun x o => ∃ b, o = bo b (eo x)) l ds fun x hx s => by
    obtain ⟨b, s', o, as', e1, rfl, e2⟩ := h x hx s
    exact ⟨_, s', as', e1, e2, b, rfl⟩
  have key : ∀ (l : List α) (os : List (Option PD)), os.length = l.length → (∀ (i : Nat) (x : α) (o : Option PD), l[i]? = some x → os[i]? = some o → ∃ b, o = bo b (eo x)) → ∃ ys : List α, (os.map Option.toList).flatten = mp eo ys ∧ ys.Sublist l := fun l => by
    induction l with
    | nil => intro os h _; cases os with
      | nil => exact ⟨[], rfl, List.Sublist.refl _⟩
      | cons => simp at h
    | cons x l ih =>
      intro os h k
      cases os with
      | nil => simp at h
      | cons o os =>
        obtain ⟨b, rfl⟩ := k 0 x o rfl rfl
        obtain ⟨ys, q1, q2⟩ := ih os (by simpa using h) fun i x o h1 h2 => k (i + 1) x o (by simpa using h1) (by simpa using h2)
        cases b with
        | true => exact ⟨x :: ys, by simp [q1], List.Sublist.cons₂ _ q2⟩
        | false => exact ⟨ys, by simp [q1], List.Sublist.cons _ q2⟩
  obtain ⟨ys, q1, q2⟩ := key l os h2 h3
  refine ⟨ys, ds', ?_, q2⟩
  rw [← hq]
  show kL2 vs as _ = _
  have hc : clr vs as = clr vs (put1 j (mk ds) as) := by rw [← hj]
  rw [hc, h1, q1]
  unfold kL2
  simp only
  rw [if_pos ⟨hf, by rw [mp_length, sizeLine_eq]; exact Nat.le_trans q2.length_le hl⟩]
  have hb := back_put (vs := vs) (j := j) (a := mk ds) (b := mk ds') (as := as) hv
  rw [← hj] at hb
  rw [hb]
end
/-! ### xs.index(v) -/
section
variable {α : Type} [DecidableEq α] {n : Nat} {e : α → PD}
theorem findIdx_E [h : EqC n e] : ∀ (l : List α) (v : α), (mp e l).findIdx? (fun d => PyData.eqv d (e v)) = if v ∈ l then some (l.idxOf v) else none
  | [], v => rfl
  | x :: l, v => by
    rw [mp_cons, List.findIdx?_cons, findIdx_E l v, (h.ok x).2 v]
    by_cases q : x = v
    · subst q
      simp
    · have q2 : v ≠ x := fun e => q e.symm
      rw [decide_eq_false q]
      simp [List.idxOf_cons, q2, show (x == v) = false by simpa using q]
theorem fIndexE [EqC n e] (hn : n ≤ 60) {l : List α} {v : α} (h : v ∈ l) : fIndex (mp e l) [e v] = some (.int ((l.idxOf v : Nat) : Int)) := by
  show (if SeqAt.shaped (.list (mp e l)) = true ∧ SeqAt.shaped (e v) = true then ((mp e l).findIdx? fun z => PyData.eqv z (e v)).map fun (j : Nat) => PyData.int (j : Int) else none) = _
  rw [if_pos ⟨sh_mono (sh_mp l) (by omega), shapedE hn v⟩, findIdx_E, if_pos h]; rfl
end
theorem idx_i {l : List Int} {v : Int} (h : v ∈ l) : fIndex (mp .int l) [.int v] = some (.int ((l.idxOf v : Nat) : Int)) := fIndexE (e := PyData.int) (by decide) h
theorem idx_n {l : List Nat} {v : Nat} (h : v ∈ l) : fIndex (mp iN l) [.int (v : Int)] = some (.int ((l.idxOf v : Nat) : Int)) := fIndexE (e := iN) (by decide) h
/-- the first item -/
theorem ixT0 {α : Type} [Inhabited α] {e : α → PD} {l : List α} (h : 0 < l.length) : fIx (.tuple (mp e l)) (.int 0) = some (.val (e (nt l 0))) := fIxT (i := 0) h
theorem ixL0 {α : Type} [Inhabited α] {e : α → PD} {l : List α} (h : 0 < l.length) : fIx (.list (mp e l)) (.int 0) = some (.val (e (nt l 0))) := fIxL (i := 0) h
theorem pick2 {a b : Int} {c : Prop} [Decidable c] : fIx (.list [.int a, .int b]) (.int (if c then 1 else 0)) = some (.val (.int (if c then b else a))) := by
  by_cases h : c <;> simp [h]
theorem pick2v {a b : PD} {c : Prop} [Decidable c] : fIx (.list [a, b]) (.int (if c then 1 else 0)) = some (.val (if c then b else a)) := by
  by_cases h : c <;> simp [h]
theorem fR1p {k : Int} {n : Nat} (h : k + (n : Int) ≤ 1000000000) (hk : 0 ≤ k) : fR1 [.int (k + (n : Int))] = some (mp iN (List.range (k.toNat + n))) := by
  have e : k + (n : Int) = ((k.toNat + n : Nat) : Int) := by omega
  rw [e]; exact fR1n (by omega)
/-- the next draw -/
theorem tk_ex (ds : List Int) {n : Int} (h : 0 < n) : ∃ (v : Nat) (ds' : List Int), runI 2 2 0 gTake (.ol (mp .int ds)) [.int n] = some (.int (v : Int), .ol (mp .int ds')) ∧ (v : Int) < n := ⟨_, _, take_fn h, tkV_lt h⟩
end Vl

-- U10
set_option Elab.async false
set_option linter.all false
set_option maxRecDepth 100000
set_option maxHeartbeats 4000000
/-! order of encoded data: min, max, sorted, comparisons -/
namespace Vl
open PySem L2 PySem.W PyProof.Rows
structure OrdE {α : Type} (e : α → PD) (lt : α → α → Bool) : Prop where
  al : ∀ x y, alike (e x) (e y) = true
  nn : ∀ x, isN (e x) = false
  dp : ∀ x, (e x).depth ≤ 50
  cm : ∀ x y, dataLt (e x) (e y) = lt x y
  tot : ∀ x y, lt x y = false → lt y x = false → x = y
section
variable {α β : Type} {e : α → PD} {lt : α → α → Bool}
theorem OrdE.irr (h : OrdE e lt) (x : α) : lt x x = false := by rw [← h.cm]; exact dataLt_self _
theorem OrdE.tr (h : OrdE e lt) {x y z : α} (a : lt x y = true) (b : lt y z = true) : lt x z = true := by
  rw [← h.cm] at *
  exact lex_trans _ _ _ a b
theorem OrdE.asym (h : OrdE e lt) {x y : α} (a : lt x y = true) : lt y x = false := by
  cases q : lt y x with
  | false => rfl
  | true => have := h.tr a q; rw [h.irr] at this; cases this
/-- x ≤ y ≤ z -/
theorem OrdE.trle (h : OrdE e lt) {x y z : α} (a : lt y x = false) (b : lt z y = false) : lt z x = false := by
  cases q : lt z x with
  | false => rfl
  | true =>
    cases q2 : lt x y with
    | true => have := h.tr q q2; rw [b] at this; cases this
    | false =>
      have := h.tot x y q2 a
      subst this
      rw [b] at q; cases q
theorem ord_int : OrdE PyData.int fun a b => decide (a < b) := ⟨fun _ _ => rfl, fun _ => rfl, fun _ => by simp [PyData.depth], fun a b => dataLt_int a b, fun x y a b => by simp at a b; omega⟩
theorem ord_nat : OrdE iN fun a b => decide (a < b) := ⟨fun _ _ => rfl, fun _ => rfl, fun _ => by simp [PyData.depth], fun a b => by
  show dataLt (.int a) (.int b) = _
  rw [dataLt_int]
  exact decide_eq_decide.mpr (by omega), fun x y a b => by simp at a b; omega⟩
theorem ord_pr [DecidableEq α] [DecidableEq β] {f : β → PD} {lt' : β → β → Bool} {n m : Nat} [he : EqC n e] [hf : EqC m f] (h : OrdE e lt) (k : OrdE f lt') (hd : ∀ x, (e x).depth ≤ 40) (hd' : ∀ x, (f x).depth ≤ 40) : OrdE (pr e f) fun p q => if p.1 = q.1 then lt' p.2 q.2 else lt p.1 q.1 where
  al p q := by
    show alike (.tuple [e p.1, f p.2]) (.tuple [e q.1, f q.2]) = true
    simp [alike, alikeAll, h.al, k.al]
  nn _ := rfl
  dp p := by
    show (PyData.tuple [e p.1, f p.2]).depth ≤ 50
    have := hd p.1
    have := hd' p.2
    simp only [PyData.depth, PyData.depthAll]
    omega
  cm p q := by
    show dataLt (.tuple [e p.1, f p.2]) (.tuple [e q.1, f q.2]) = _
    rw [dataLt_pair (h.al _ _) (k.al _ _), (he.ok p.1).2 q.1, (hf.ok p.2).2 q.2, h.cm, k.cm]
    by_cases e1 : p.1 = q.1
    · by_cases e2 : p.2 = q.2
      · simp [e1, e2, k.irr]
      · simp [e1, e2]
    · simp [e1]
  tot p q a b := by
    by_cases e1 : p.1 = q.1
    · rw [if_pos e1] at a
      rw [if_pos e1.symm] at b
      exact Prod.ext e1 (k.tot _ _ a b)
    · rw [if_neg e1] at a
      rw [if_neg (fun q => e1 q.symm)] at b
      exact absurd (h.tot _ _ a b) e1
theorem depth_mp_int (l : List Int) : (PyData.tuple (mp .int l)).depth = 1 := by
  rw [mp_map, PyData.depth, depth_ints]
theorem ord_row : OrdE (tp PyData.int) fun a b => decide (a < b) := ⟨fun x y => by
    show alike (.tuple (mp .int x)) (.tuple (mp .int y)) = true
    rw [mp_map, mp_map, alike]
    exact alike_ints x y, fun _ => rfl, fun x => by
    show (PyData.tuple (mp .int x)).depth ≤ 50
    rw [depth_mp_int]; decide, fun x y => lt_rows x y, fun x y a b => by
    simp only [decide_eq_false_iff_not] at a b
    exact List.le_antisymm (List.not_lt.mp b) (List.not_lt.mp a)⟩
theorem ord_rowN : OrdE (tp iN) fun a b => decide (rowN a < rowN b) := ⟨fun x y => by
    rw [tp_row, tp_row, alike]
    exact alike_ints _ _, fun _ => rfl, fun x => by
    rw [tp_row, ← mp_map, depth_mp_int]; decide, fun x y => by rw [tp_row, tp_row]; exact lt_rows _ _, fun x y a b => by
    simp only [decide_eq_false_iff_not] at a b
    exact rowN_inj (List.le_antisymm (List.not_lt.mp b) (List.not_lt.mp a))⟩
/-! ### least, greatest -/
theorem OrdE.exmin (h : OrdE e lt) : ∀ {l : List α}, l ≠ [] → ∃ m ∈ l, ∀ y ∈ l, lt y m = false
  | [], q => absurd rfl q
  | x :: l, _ => by
    by_cases hl : l = []
    · subst hl
      exact ⟨x, List.mem_cons_self, fun y hy => by rw [List.mem_singleton] at hy; subst hy; exact h.irr _⟩
    · obtain ⟨m, hm, hy⟩ := h.exmin hl
      cases q : lt x m with
      | true =>
        refine ⟨x, List.mem_cons_self, fun y hy' => ?_⟩
        rcases List.mem_cons.mp hy' with rfl | hy'
        · exact h.irr _
        · exact h.trle (h.asym q) (hy y hy')
      | false =>
        refine ⟨m, List.mem_cons_of_mem _ hm, fun y hy' => ?_⟩
        rcases List.mem_cons.mp hy' with rfl | hy'
        · exact q
        · exact hy y hy'
theorem OrdE.exmax (h : OrdE e lt) : ∀ {l : List α}, l ≠ [] → ∃ m ∈ l, ∀ y ∈ l, lt m y = false
  | [], q => absurd rfl q
  | x :: l, _ => by
    by_cases hl : l = []
    · subst hl
      exact ⟨x, List.mem_cons_self, fun y hy => by rw [List.mem_singleton] at hy; subst hy; exact h.irr _⟩
    · obtain ⟨m, hm, hy⟩ := h.exmax hl
      cases q : lt m x with
      | true =>
        refine ⟨x, List.mem_cons_self, fun y hy' => ?_⟩
        rcases List.mem_cons.mp hy' with rfl | hy'
        · exact h.irr _
        · exact h.trle (hy y hy') (h.asym q)
      | false =>
        refine ⟨m, List.mem_cons_of_mem _ hm, fun y hy' => ?_⟩
        rcases List.mem_cons.mp hy' with rfl | hy'
        · exact q
        · exact hy y hy'
theorem OrdE.umin (h : OrdE e lt) {l : List α} {m m' : α} (hm : m ∈ l) (h1 : ∀ y ∈ l, lt y m = false) (hm' : m' ∈ l) (h2 : ∀ y ∈ l, lt y m' = false) : m = m' := h.tot _ _ (h2 m hm) (h1 m' hm')
theorem depthAll_mp (hd : ∀ x, (e x).depth ≤ 50) : ∀ l : List α, PyData.depthAll (mp e l) ≤ 51
  | [] => by simp [PyData.depthAll]
  | x :: l => by
    rw [mp_cons]
    have := depthAll_mp hd l
    have := hd x
    simp only [PyData.depthAll]
    omega
theorem OrdE.okB (h : OrdE e lt) (l : List α) : okBest (mp e l) = true := by
  unfold okBest
  have := depthAll_mp h.dp l
  rw [mp_map] at *
  simp only [Bool.and_eq_true, List.all_eq_true, List.mem_map, decide_eq_true_eq]
  refine ⟨⟨?_, ?_⟩, by omega⟩
  · rintro _ ⟨x, _, rfl⟩ _ ⟨y, _, rfl⟩
    exact h.al x y
  · rintro _ ⟨x, _, rfl⟩
    simp [h.nn x]
theorem minD_mp (h : OrdE e lt) : ∀ (l : List α) (x : α), ∃ m ∈ x :: l, (∀ y ∈ x :: l, lt y m = false) ∧ minD (e x) (mp e l) = e m
  | [], x => ⟨x, List.mem_cons_self, fun y hy => by rw [List.mem_singleton] at hy; subst hy; exact h.irr _, rfl⟩
  | z :: l, x => by
    have e1 : minD (e x) (mp e (z :: l)) = minD (e (if lt z x = true then z else x)) (mp e l) := by
      rw [mp_cons]
      show minD (if dataLt (e z) (e x) = true then e z else e x) (mp e l) = _
      rw [h.cm]
      split <;> rfl
    obtain ⟨m, hm, h1, h2⟩ := minD_mp h l (if lt z x = true then z else x)
    refine ⟨m, ?_, fun y hy => ?_, e1.trans h2⟩
    · rcases List.mem_cons.mp hm with rfl | hm
      · split
        · simp
        · simp
      · simp [hm]
    · have h0 := h1 _ List.mem_cons_self
      by_cases q : lt z x = true
      · rw [if_pos q] at h0
        rcases List.mem_cons.mp hy with rfl | hy
        · exact h.trle h0 (h.asym q)
        · rcases List.mem_cons.mp hy with rfl | hy
          · exact h0
          · exact h1 y (List.mem_cons_of_mem _ hy)
      · rw [if_neg q] at h0
        rcases List.mem_cons.mp hy with rfl | hy
        · exact h0
        · rcases List.mem_cons.mp hy with rfl | hy
          · exact h.trle h0 (by simpa using q)
          · exact h1 y (List.mem_cons_of_mem _ hy)
theorem maxD_mp (h : OrdE e lt) : ∀ (l : List α) (x : α), ∃ m ∈ x :: l, (∀ y ∈ x :: l, lt m y = false) ∧ maxD (e x) (mp e l) = e m
  | [], x => ⟨x, List.mem_cons_self, fun y hy => by rw [List.mem_singleton] at hy; subst hy; exact h.irr _, rfl⟩
  | z :: l, x => by
    have e1 : maxD (e x) (mp e (z :: l)) = maxD (e (if lt x z = true then z else x)) (mp e l) := by
      rw [mp_cons]
      show maxD (if dataLt (e x) (e z) = true then e z else e x) (mp e l) = _
      rw [h.cm]
      split <;> rfl
    obtain ⟨m, hm, h1, h2⟩ := maxD_mp h l (if lt x z = true then z else x)
    refine ⟨m, ?_, fun y hy => ?_, e1.trans h2⟩
    · rcases List.mem_cons.mp hm with rfl | hm
      · split
        · simp
        · simp
      · simp [hm]
    · have h0 := h1 _ List.mem_cons_self
      by_cases q : lt x z = true
      · rw [if_pos q] at h0
        rcases List.mem_cons.mp hy with rfl | hy
        · exact h.trle (h.asym q) h0
        · rcases List.mem_cons.mp hy with rfl | hy
          · exact h0
          · exact h1 y (List.mem_cons_of_mem _ hy)
      · rw [if_neg q] at h0
        rcases List.mem_cons.mp hy with rfl | hy
        · exact h0
        · rcases List.mem_cons.mp hy with rfl | hy
          · exact h.trle (by simpa using q) h0
          · exact h1 y (List.mem_cons_of_mem _ hy)
theorem asInts_tup (ht : ∀ x, ∃ ds, e x = .tuple ds) {x : α} {l : List α} : asInts (mp e (x :: l)) = none := by
  obtain ⟨ds, hd⟩ := ht x
  rw [mp_cons, hd]; rfl
theorem fMinA_tup (ht : ∀ x, ∃ ds, e x = .tuple ds) {x : α} {l : List α} : fMinA [.list (mp e (x :: l))] = fBest minD [.list (mp e (x :: l))] := by
  have : fMinI [.list (mp e (x :: l))] = none := by
    show (asInts (mp e (x :: l))).bind _ = _
    rw [asInts_tup ht]; rfl
  unfold fMinA
  rw [this]
theorem fMaxA_tup (ht : ∀ x, ∃ ds, e x = .tuple ds) {x : α} {l : List α} : fMaxA [.list (mp e (x :: l))] = fBest maxD [.list (mp e (x :: l))] := by
  have : fMaxI [.list (mp e (x :: l))] = none := by
    show (asInts (mp e (x :: l))).bind _ = _
    rw [asInts_tup ht]; rfl
  unfold fMaxA
  rw [this]
theorem mn_E (h : OrdE e lt) (ht : ∀ x, ∃ ds, e x = .tuple ds) {l : List α} {m : α} (hm : m ∈ l) (h1 : ∀ y ∈ l, lt y m = false) : fMinB [.list (mp e l)] = some (.val (e m)) := by
  cases l with
  | nil => cases hm
  | cons x l =>
    obtain ⟨m', a, b, c⟩ := minD_mp h l x
    have hb : fBest minD [.list (mp e (x :: l))] = some (.val (minD (e x) (mp e l))) := by
      have := h.okB (x :: l)
      rw [mp_cons] at this ⊢
      exact if_pos this
    unfold fMinB
    rw [fMinA_tup ht, hb, c, h.umin a b hm h1]
theorem mx_E (h : OrdE e lt) (ht : ∀ x, ∃ ds, e x = .tuple ds) {l : List α} {m : α} (hm : m ∈ l) (h1 : ∀ y ∈ l, lt m y = false) : fMaxB [.list (mp e l)] = some (.val (e m)) := by
  cases l with
  | nil => cases hm
  | cons x l =>
    obtain ⟨m', a, b, c⟩ := maxD_mp h l x
    have hb : fBest maxD [.list (mp e (x :: l))] = some (.val (maxD (e x) (mp e l))) := by
      have := h.okB (x :: l)
      rw [mp_cons] at this ⊢
      exact if_pos this
    unfold fMaxB
    rw [fMaxA_tup ht, hb, c, h.tot m m' (h1 m' a) (b m hm)]
theorem mnT_E (h : OrdE e lt) {l : List α} {m : α} (hm : m ∈ l) (h1 : ∀ y ∈ l, lt y m = false) : fMinB [.tuple (mp e l)] = some (.val (e m)) := by
  cases l with
  | nil => cases hm
  | cons x l =>
    obtain ⟨m', a, b, c⟩ := minD_mp h l x
    have hb : fBestT minD [.tuple (mp e (x :: l))] = some (.val (minD (e x) (mp e l))) := by
      have := h.okB (x :: l)
      rw [mp_cons] at this ⊢
      exact if_pos this
    have ha : fMinA [.tuple (mp e (x :: l))] = none := rfl
    unfold fMinB
    rw [ha, hb, c, h.umin a b hm h1]
theorem mxT_E (h : OrdE e lt) {l : List α} {m : α} (hm : m ∈ l) (h1 : ∀ y ∈ l, lt m y = false) : fMaxB [.tuple (mp e l)] = some (.val (e m)) := by
  cases l with
  | nil => cases hm
  | cons x l =>
    obtain ⟨m', a, b, c⟩ := maxD_mp h l x
    have hb : fBestT maxD [.tuple (mp e (x :: l))] = some (.val (maxD (e x) (mp e l))) := by
      have := h.okB (x :: l)
      rw [mp_cons] at this ⊢
      exact if_pos this
    have ha : fMaxA [.tuple (mp e (x :: l))] = none := rfl
    unfold fMaxB
    rw [ha, hb, c, h.tot m m' (h1 m' a) (b m hm)]
/-! ### sorted -/
def esort (lt : α → α → Bool) (l : List α) : List α := l.mergeSort fun a b => !lt b a
theorem esort_perm (l : List α) : (esort lt l).Perm l := List.mergeSort_perm _ _
theorem OrdE.esort_sorted (h : OrdE e lt) (l : List α) : (esort lt l).Pairwise fun a b => lt b a = false := by
  have := List.pairwise_mergeSort (le := fun a b : α => !lt b a) (fun a b c h1 h2 => by
    simp only [Bool.not_eq_true'] at h1 h2 ⊢
    exact h.trle h1 h2) (fun a b => by
    cases q : lt b a with
    | false => simp
    | true => simp [h.asym q]) l
  exact this.imp fun q => by simpa using q
theorem OrdE.esort_uniq (h : OrdE e lt) {l m : List α} (hp : m.Perm l) (hs : m.Pairwise fun a b => lt b a = false) : esort lt l = m :=
  ((esort_perm l).trans hp.symm).eq_of_pairwise (fun a b _ _ h1 h2 => h.tot a b h2 h1) (h.esort_sorted l) hs
theorem mem_esort {l : List α} {x : α} : x ∈ esort lt l ↔ x ∈ l := (esort_perm l).mem_iff
theorem esort_len (l : List α) : (esort lt l).length = l.length := (esort_perm l).length_eq
theorem OrdE.okS (h : OrdE e lt) {l : List α} (ht : ∀ x ∈ l, ∃ d ds, e x = .tuple (d :: ds)) : okSortB (mp e l) = true := by
  unfold okSortB
  rw [mp_map]
  simp only [Bool.and_eq_true, Bool.or_eq_true, List.all_eq_true, List.mem_map, decide_eq_true_eq]
  refine ⟨⟨?_, ?_⟩, ?_⟩
  · rintro _ ⟨x, _, rfl⟩ _ ⟨y, _, rfl⟩
    exact h.al x y
  · left; left
    rintro _ ⟨x, hx, rfl⟩
    obtain ⟨d, ds, q⟩ := ht x hx
    rw [q]; rfl
  · rintro _ ⟨x, _, rfl⟩
    have := h.dp x
    omega
theorem srt_E (h : OrdE e lt) {l : List α} (ht : ∀ x ∈ l, ∃ d ds, e x = .tuple (d :: ds)) : fSortB [.list (mp e l)] = some (.obj (.ol (mp e (esort lt l)))) := by
  rw [srt_gen (fun x hx => by obtain ⟨d, ds, q⟩ := ht x hx; exact ⟨_, q⟩) (h.okS ht)]
  have : (fun a b : α => dle (e a) (e b)) = fun a b => !lt b a := by
    funext a b
    show (!dataLt (e b) (e a)) = _
    rw [h.cm]
  rw [this]; rfl
theorem srt_ET (h : OrdE e lt) {l : List α} (ht : ∀ x ∈ l, ∃ d ds, e x = .tuple (d :: ds)) : fSortB [.tuple (mp e l)] = some (.obj (.ol (mp e (esort lt l)))) := by
  show (match fSortA [.tuple (mp e l)] with | some r => some r | none => fSortDT [.tuple (mp e l)]) = _
  have e1 : fSortA [.tuple (mp e l)] = none := by
    unfold fSortA
    rfl
  rw [e1]
  show (if okSortB (mp e l) = true then some (Res.obj (.ol (dsort (mp e l)))) else none) = _
  have : (fun a b : α => dle (e a) (e b)) = fun a b => !lt b a := by
    funext a b
    show (!dataLt (e b) (e a)) = _
    rw [h.cm]
  rw [if_pos (h.okS ht), dsort_mp, this]; rfl
/-! ### comparisons -/
theorem OrdE.okC (h : OrdE e lt) (x y : α) : okCmp (e x) (e y) = true := by
  unfold okCmp
  have := h.dp x
  rw [h.al x y, h.nn x]
  simp; omega
theorem tupLt {ds es : List PD} : fLtA (.tuple ds) (.tuple es) = if okCmp (.tuple ds) (.tuple es) = true then some (.bool (dataLt (.tuple ds) (.tuple es))) else none := rfl
theorem lt_E (h : OrdE e lt) (ht : ∀ x, ∃ ds, e x = .tuple ds) (x y : α) : fLtA (e x) (e y) = some (.bool (lt x y)) := by
  have hc := h.okC x y
  have hl := h.cm x y
  obtain ⟨ds, q⟩ := ht x
  obtain ⟨es, q2⟩ := ht y
  rw [q, q2] at hc hl ⊢
  show (if okCmp _ _ = true then some (PyData.bool (dataLt _ _)) else none) = _
  rw [if_pos hc, hl]
theorem gt_E (h : OrdE e lt) (ht : ∀ x, ∃ ds, e x = .tuple ds) (x y : α) : fGtA (e x) (e y) = some (.bool (lt y x)) := by
  have hc := h.okC x y
  have hl := h.cm y x
  obtain ⟨ds, q⟩ := ht x
  obtain ⟨es, q2⟩ := ht y
  rw [q, q2] at hc hl ⊢
  show (if okCmp _ _ = true then some (PyData.bool (dataLt _ _)) else none) = _
  rw [if_pos hc, hl]
theorem le_E (h : OrdE e lt) (ht : ∀ x, ∃ ds, e x = .tuple ds) (x y : α) : fLeA (e x) (e y) = some (.bool (!lt y x)) := by
  have hc := h.okC x y
  have hl := h.cm y x
  obtain ⟨ds, q⟩ := ht x
  obtain ⟨es, q2⟩ := ht y
  rw [q, q2] at hc hl ⊢
  show (if okCmp _ _ = true then some (PyData.bool (!dataLt _ _)) else none) = _
  rw [if_pos hc, hl]
theorem ge_E (h : OrdE e lt) (ht : ∀ x, ∃ ds, e x = .tuple ds) (x y : α) : fGeA (e x) (e y) = some (.bool (!lt x y)) := by
  have hc := h.okC x y
  have hl := h.cm x y
  obtain ⟨ds, q⟩ := ht x
  obtain ⟨es, q2⟩ := ht y
  rw [q, q2] at hc hl ⊢
  show (if okCmp _ _ = true then some (PyData.bool (!dataLt _ _)) else none) = _
  rw [if_pos hc, hl]
end
/-- pairs of ints; (how many, row) -/
def ltP (p q : Int × Int) : Bool := if p.1 = q.1 then decide (p.2 < q.2) else decide (p.1 < q.1)
theorem ord_pii : OrdE (pr PyData.int PyData.int) ltP := ord_pr ord_int ord_int (fun _ => by simp [PyData.depth]) (fun _ => by simp [PyData.depth])
def ltNN (p q : Nat × Nat) : Bool := if p.1 = q.1 then decide (p.2 < q.2) else decide (p.1 < q.1)
theorem ord_pnn : OrdE (pr iN iN) ltNN := ord_pr ord_nat ord_nat (fun _ => by simp [PyData.depth]) (fun _ => by simp [PyData.depth])
def ltLR (p q : Nat × List Int) : Bool := if p.1 = q.1 then decide (p.2 < q.2) else decide (p.1 < q.1)
theorem ord_lri : OrdE (pr iN (tp PyData.int)) ltLR := ord_pr ord_nat ord_row (fun _ => by simp [PyData.depth]) (fun x => by
  show (PyData.tuple (mp .int x)).depth ≤ 40
  rw [depth_mp_int]; decide)
/-! ### naturals and literals -/
@[simp] theorem nat_lt_lit {n k : Nat} : ((n : Int) < (no_index (OfNat.ofNat k) : Int)) ↔ n < (OfNat.ofNat k : Nat) := by
  show ((n : Int) < ((OfNat.ofNat k : Nat) : Int)) ↔ _
  omega
@[simp] theorem nat_le_lit {n k : Nat} : ((n : Int) ≤ (no_index (OfNat.ofNat k) : Int)) ↔ n ≤ (OfNat.ofNat k : Nat) := by
  show ((n : Int) ≤ ((OfNat.ofNat k : Nat) : Int)) ↔ _
  omega
@[simp] theorem lit_lt_nat {n k : Nat} : ((no_index (OfNat.ofNat k) : Int) < (n : Int)) ↔ (OfNat.ofNat k : Nat) < n := by
  show (((OfNat.ofNat k : Nat) : Int) < (n : Int)) ↔ _
  omega
@[simp] theorem lit_le_nat {n k : Nat} : ((no_index (OfNat.ofNat k) : Int) ≤ (n : Int)) ↔ (OfNat.ofNat k : Nat) ≤ n := by
  show (((OfNat.ofNat k : Nat) : Int) ≤ (n : Int)) ↔ _
  omega
example (n : Nat) (h : n < 4) : (n : Int) < 4 := by simp; exact h
example (n : Nat) (h : 1 ≤ n) : (1 : Int) ≤ n := by simp; exact h
/-! ### the least one, if any -/
section
variable {α β : Type} {e : α → PD} {lt : α → α → Bool}
def minO (lt : α → α → Bool) (l : List α) : Option α := (esort lt l).head?
@[simp] theorem minO_nil : minO lt ([] : List α) = none := by simp [minO, esort]
theorem OrdE.minO_spec (h : OrdE e lt) {l : List α} {m : α} : minO lt l = some m ↔ m ∈ l ∧ ∀ y ∈ l, lt y m = false := by
  have hs := h.esort_sorted l
  have key : minO lt l = some m → m ∈ l ∧ ∀ y ∈ l, lt y m = false := fun q => by
    unfold minO at q
    cases hE : esort lt l with
    | nil => rw [hE] at q; cases q
    | cons x r =>
      rw [hE] at q hs
      cases q
      have hm : ∀ y, y ∈ l ↔ y ∈ m :: r := fun y => by rw [← hE]; exact mem_esort.symm
      refine ⟨(hm m).mpr List.mem_cons_self, fun y hy => ?_⟩
      rcases List.mem_cons.mp ((hm y).mp hy) with rfl | hy
      · exact h.irr _
      · exact (List.pairwise_cons.mp hs).1 y hy
  refine ⟨key, fun ⟨a, b⟩ => ?_⟩
  cases hE : minO lt l with
  | none =>
    unfold minO at hE
    rw [List.head?_eq_none_iff] at hE
    have := (mem_esort (lt := lt)).mpr a
    rw [hE] at this; cases this
  | some m' =>
    have : minO lt l = some m' → m' ∈ l ∧ ∀ y ∈ l, lt y m' = false := fun q => by
      unfold minO at q
      cases hE : esort lt l with
      | nil => rw [hE] at q; cases q
      | cons x r =>
        have hs := h.esort_sorted l
        rw [hE] at q hs
        cases q
        have hm : ∀ y, y ∈ l ↔ y ∈ m' :: r := fun y => by rw [← hE]; exact mem_esort.symm
        refine ⟨(hm m').mpr List.mem_cons_self, fun y hy => ?_⟩
        rcases List.mem_cons.mp ((hm y).mp hy) with rfl | hy
        · exact h.irr _
        · exact (List.pairwise_cons.mp hs).1 y hy
    obtain ⟨c, d⟩ := this hE
    rw [h.umin c d a b]
theorem OrdE.minO_ne (h : OrdE e lt) {l : List α} (hl : l ≠ []) : ∃ m, minO lt l = some m ∧ m ∈ l ∧ ∀ y ∈ l, lt y m = false := by
  obtain ⟨m, a, b⟩ := h.exmin hl
  exact ⟨m, h.minO_spec.mpr ⟨a, b⟩, a, b⟩
theorem minO_none {l : List α} : minO lt l = none ↔ l = [] := by
  unfold minO
  rw [List.head?_eq_none_iff]
  constructor
  · intro q
    have := esort_len (lt := lt) l
    rw [q] at this
    exact List.eq_nil_of_length_eq_zero this.symm
  · rintro rfl; simp [esort]
/-- the first that fits, of the sorted ones -/
theorem OrdE.find_sorted (h : OrdE e lt) (p : α → Bool) (l : List α) : (esort lt l).find? p = minO lt (l.filter p) := by
  unfold minO
  rw [h.esort_uniq (l := l.filter p) (m := (esort lt l).filter p) ((esort_perm l).filter p) ((h.esort_sorted l).filter p), List.head?_filter]
theorem OrdE.minO_congr (h : OrdE e lt) {l m : List α} (hm : ∀ x, x ∈ l ↔ x ∈ m) : minO lt l = minO lt m := by
  cases q : minO lt m with
  | none =>
    rw [minO_none] at q ⊢
    subst q
    exact List.eq_nil_iff_forall_not_mem.mpr fun x hx => by cases (hm x).mp hx
  | some x =>
    rw [h.minO_spec] at q ⊢
    exact ⟨(hm x).mpr q.1, fun y hy => q.2 y ((hm y).mp hy)⟩
end
/-! ### comprehensions that change several slots -/
section
variable {α β σ : Type} {g : PD → AS → Option AS} {c : M Bool} {el : M PD} {as : AS} {vs : List Nat} {e : α → PD}
theorem putS_getX : ∀ (ws : List Nat) (ss : List Slot) (as : AS) (i : Nat), i ∉ ws → (putS ws ss as)[i]? = as[i]?
  | [], ss, as, i, _ => rfl
  | w :: ws, [], as, i, _ => rfl
  | w :: ws, s :: ss, as, i, h => by
    rw [putS_cons, put1_eq, List.getElem?_set_ne (fun e => h (by rw [e]; exact List.mem_cons_self)), putS_getX ws ss as i fun q => h (List.mem_cons_of_mem _ q)]
theorem putS_len : ∀ (ws : List Nat) (ss : List Slot) (as : AS), (putS ws ss as).length = as.length
  | [], ss, as => rfl
  | w :: ws, [], as => rfl
  | w :: ws, s :: ss, as => by rw [putS_cons, put1_eq, List.length_set, putS_len ws ss as]
theorem back_putS {ws : List Nat} {a b : List Slot} (hv : ∀ j ∈ ws, j ∉ vs) : back vs (putS ws a as) (clr vs (putS ws b as)) = putS ws b as := by
  refine List.ext_getElem? fun i => ?_
  rw [back_getX, clr_lenX, clr_getX, putS_len]
  by_cases h : i ∈ vs ∧ i < as.length
  · have hij : i ∉ ws := fun q => hv i q h.1
    rw [if_pos h, putS_getX ws b as i hij, List.getElem?_eq_getElem h.2]
    have := putS_getX ws a as i hij
    rw [List.getElem?_eq_getElem h.2] at this
    rw [List.getD_eq_getElem?_getD, this]; rfl
  · rw [if_neg h, if_neg h]
theorem lcL_inv (st : σ → AS) (eo : β → PD) (P : β → Prop) (J : Nat → σ → Prop) : ∀ (l : List α) (i : Nat) (s : σ), J i s → (∀ (j : Nat) (x : α) (s : σ), l[j]? = some x → J (i + j) s → ∃ y s', P y ∧ J (i + j + 1) s' ∧ Cm (kB (g (e x) (clr vs (st s))) c el) fun o as' => o = some (eo y) ∧ clr vs as' = clr vs (st s')) →
    ∃ (ys : List β) (s' : σ), lcL vs g c el (mp e l) (clr vs (st s)) = some (mp eo ys, clr vs (st s')) ∧ J (i + l.length) s' ∧ ys.length = l.length ∧ ∀ y ∈ ys, P y
  | [], i, s, hs, _ => ⟨[], s, rfl, hs, rfl, fun y h => absurd h List.not_mem_nil⟩
  | x :: l, i, s, hs, h => by
    obtain ⟨y, s1, hp, hj, o, as1, e1, rfl, e2⟩ := h 0 x s rfl hs
    obtain ⟨ys, s', h4, h5, h6, h7⟩ := lcL_inv st eo P J l (i + 1) s1 hj fun j z s q w => by
      have := h (j + 1) z s (by simpa using q) (by rw [show i + (j + 1) = i + 1 + j by omega]; exact w)
      rw [show i + (j + 1) + 1 = i + 1 + j + 1 by omega] at this
      exact this
    refine ⟨y :: ys, s', ?_, ?_, by simp [h6], fun z hz => ?_⟩
    · rw [mp_cons, lcL_step e1, e2, h4]; rfl
    · rw [List.length_cons, show i + (l.length + 1) = i + 1 + l.length by omega]; exact h5
    · rcases List.mem_cons.mp hz with rfl | hz
      · exact hp
      · exact h7 z hz
theorem kLc_invX {q : Option (Res × AS)} {l : List α} (hq : kLc vs g c el (some (mp e l, as)) = q) (ws : List Nat) (f : σ → List Slot) (s0 : σ) (eo : β → PD) (P : β → Prop) (J : Nat → σ → Prop) (hj : as = putS ws (f s0) as) (hv : ∀ j ∈ ws, j ∉ vs) (hf : free vs as = true) (hl : l.length ≤ 16777216) (h0 : J 0 s0)
    (h : ∀ (j : Nat) (x : α) (s : σ), l[j]? = some x → J j s → ∃ y s', P y ∧ J (j + 1) s' ∧ Cm (kB (g (e x) (clr vs (putS ws (f s) as))) c el) fun o as' => o = some (eo y) ∧ clr vs as' = clr vs (putS ws (f s') as)) :
    ∃ (ys : List β) (s' : σ), q = some (.obj (.ol (mp eo ys)), putS ws (f s') as) ∧ J l.length s' ∧ ys.length = l.length ∧ ∀ y ∈ ys, P y := by
  obtain ⟨ys, s', h1, h2, h3, h4⟩ := lcL_inv (g := g) (c := c) (el := el) (vs := vs) (e := e) (fun s => putS ws (f s) as) eo P J l 0 s0 h0 (fun j x s a b => by
    rw [Nat.zero_add] at b ⊢
    exact h j x s a b)
  rw [Nat.zero_add] at h2
  refine ⟨ys, s', ?_, h2, h3, h4⟩
  rw [← hq]
  show kL2 vs as _ = _
  have hc : clr vs as = clr vs (putS ws (f s0) as) := by rw [← hj]
  rw [hc, h1]
  unfold kL2
  simp only
  rw [if_pos ⟨hf, by rw [mp_length, sizeLine_eq, h3]; exact hl⟩]
  have hb := back_putS (vs := vs) (ws := ws) (a := f s0) (b := f s') (as := as) hv
  rw [← hj] at hb
  rw [hb]
end
end Vl

-- U11
set_option Elab.async false
set_option linter.all false
set_option maxRecDepth 100000
set_option maxHeartbeats 4000000
/-! more of lists -/
namespace Vl
open PySem L2
theorem fInsertE {α : Type} {e : α → PD} {l : List α} {x : α} {v : Nat} (h : v ≤ l.length) (hl : l.length < 16777216) : ∃ l', fInsert (mp e l) [.int (v : Int), e x] = some (.none, mp e l') ∧ l'.length = l.length + 1 ∧ ∀ y, y ∈ l' ↔ y = x ∨ y ∈ l := by
  refine ⟨l.take v ++ [x] ++ l.drop v, ?_, by simp; omega, fun y => ?_⟩
  · show (if _ then _ else _) = _
    rw [if_pos ⟨by rw [mp_length, sizeLine_eq]; exact hl, by omega, by omega⟩]
    simp [mp_append]
  · have := List.take_append_drop v l
    have h2 : y ∈ l ↔ y ∈ l.take v ∨ y ∈ l.drop v := by rw [← List.mem_append, this]
    rw [h2]
    simp
    constructor
    · rintro (h | h | h)
      · exact .inr (.inl h)
      · exact .inl h
      · exact .inr (.inr h)
    · rintro (h | h | h)
      · exact .inr (.inl h)
      · exact .inl h
      · exact .inr (.inr h)
theorem pick4 {α : Type} [Inhabited α] {e : α → PD} {a b c d : α} {v : Nat} (h : v < 4) : fIx (.list [e a, e b, e c, e d]) (.int (v : Int)) = some (.val (e (nt [a, b, c, d] v))) := fIxL (e := e) (l := [a, b, c, d]) h
theorem pick4i {a b c d : Int} {v : Nat} (h : v < 4) : fIx (.list [.int a, .int b, .int c, .int d]) (.int (v : Int)) = some (.val (.int (nt [a, b, c, d] v))) := pick4 (e := PyData.int) h
theorem nt4 {α : Type} [Inhabited α] {P : α → Prop} {a b c d : α} {v : Nat} (h : v < 4) (ha : P a) (hb : P b) (hc : P c) (hd : P d) : P (nt [a, b, c, d] v) := by
  match v, h with
  | 0, _ => exact ha
  | 1, _ => exact hb
  | 2, _ => exact hc
  | 3, _ => exact hd
theorem pick2w {a b : PD} {v : Nat} (h : v < 2) : fIx (.list [a, b]) (.int (v : Int)) = some (.val (if v = 0 then a else b)) := by
  match v, h with
  | 0, _ => rfl
  | 1, _ => rfl
@[simp] theorem fLst6 {a b c d e f : PD} : fLst [a, b, c, d, e, f] = some (.obj (.ol [a, b, c, d, e, f])) := if_pos (by simp)
@[simp] theorem fLst7 {a b c d e f g : PD} : fLst [a, b, c, d, e, f, g] = some (.obj (.ol [a, b, c, d, e, f, g])) := if_pos (by simp)
@[simp] theorem fTup7 {a b c d e f g : PD} : fTup [a, b, c, d, e, f, g] = some (.val (.tuple [a, b, c, d, e, f, g])) := if_pos (by simp)
@[simp] theorem fLst8 {a b c d e f g h : PD} : fLst [a, b, c, d, e, f, g, h] = some (.obj (.ol [a, b, c, d, e, f, g, h])) := if_pos (by simp)
@[simp] theorem fTup8 {a b c d e f g h : PD} : fTup [a, b, c, d, e, f, g, h] = some (.val (.tuple [a, b, c, d, e, f, g, h])) := if_pos (by simp)
@[simp] theorem fLst9 {a b c d e f g h i : PD} : fLst [a, b, c, d, e, f, g, h, i] = some (.obj (.ol [a, b, c, d, e, f, g, h, i])) := if_pos (by simp)
@[simp] theorem fTup9 {a b c d e f g h i : PD} : fTup [a, b, c, d, e, f, g, h, i] = some (.val (.tuple [a, b, c, d, e, f, g, h, i])) := if_pos (by simp)
@[simp] theorem fLst10 {a b c d e f g h i j : PD} : fLst [a, b, c, d, e, f, g, h, i, j] = some (.obj (.ol [a, b, c, d, e, f, g, h, i, j])) := if_pos (by simp)
@[simp] theorem fTup10 {a b c d e f g h i j : PD} : fTup [a, b, c, d, e, f, g, h, i, j] = some (.val (.tuple [a, b, c, d, e, f, g, h, i, j])) := if_pos (by simp)
@[simp] theorem fLst11 {a b c d e f g h i j k : PD} : fLst [a, b, c, d, e, f, g, h, i, j, k] = some (.obj (.ol [a, b, c, d, e, f, g, h, i, j, k])) := if_pos (by simp)
@[simp] theorem fTup11 {a b c d e f g h i j k : PD} : fTup [a, b, c, d, e, f, g, h, i, j, k] = some (.val (.tuple [a, b, c, d, e, f, g, h, i, j, k])) := if_pos (by simp)
@[simp] theorem fLst12 {a b c d e f g h i j k l : PD} : fLst [a, b, c, d, e, f, g, h, i, j, k, l] = some (.obj (.ol [a, b, c, d, e, f, g, h, i, j, k, l])) := if_pos (by simp)
@[simp] theorem fTup12 {a b c d e f g h i j k l : PD} : fTup [a, b, c, d, e, f, g, h, i, j, k, l] = some (.val (.tuple [a, b, c, d, e, f, g, h, i, j, k, l])) := if_pos (by simp)
theorem flat1 {d : PD} : ∀ n : Nat, (List.replicate n [d]).flatten = List.replicate n d
  | 0 => rfl
  | n + 1 => by rw [List.replicate_succ, List.flatten_cons, flat1 n]; rfl
theorem rep1L {d : PD} {n : Nat} (h : n ≤ 16777216) : fMulA (.list [d]) (.int (n : Int)) = some (.obj (.ol (List.replicate n d))) := by
  have c : -(2 ^ 63) ≤ (n : Int) ∧ (n : Int) < 2 ^ 63 ∧ [d].length * (n : Int).toNat ≤ sizeLine := ⟨by omega, by omega, by rw [sizeLine_eq, Int.toNat_natCast, List.length_singleton, Nat.one_mul]; exact h⟩
  have e := flat1 (d := d) n
  rw [fMulA, if_pos c, Int.toNat_natCast, e]
theorem rep1T {d : PD} {n : Nat} (h : n ≤ 1000) : fMulA (.tuple [d]) (.int (n : Int)) = some (.val (.tuple (List.replicate n d))) := by
  have c : -(2 ^ 63) ≤ (n : Int) ∧ (n : Int) ≤ 1000 ∧ [d].length ≤ 1000 := ⟨by omega, by omega, Nat.le_of_ble_eq_true rfl⟩
  have e := flat1 (d := d) n
  rw [fMulA, if_pos c, Int.toNat_natCast, e]
theorem mp_rep {α : Type} {e : α → PD} {x : α} {n : Nat} : List.replicate n (e x) = mp e (List.replicate n x) := by
  rw [mp_map, List.map_replicate]
theorem nt_rep {α : Type} [Inhabited α] {x : α} {n i : Nat} (h : i < n) : nt (List.replicate n x) i = x := by
  rw [nt_eq (by simpa using h)]; simp
theorem nt_set {α : Type} [Inhabited α] {l : List α} {i j : Nat} {x : α} (h : j < l.length) : nt (l.set i x) j = if i = j then x else nt l j := by
  rw [nt_eq (by simpa using h), List.getElem_set, nt_eq h]
end Vl

-- U12
set_option Elab.async false
set_option linter.all false
set_option maxRecDepth 100000
set_option maxHeartbeats 4000000
/-! dicts with natural keys -/
namespace Vl
open PySem L2
section
variable {as : AS} {i : Nat}
def kSD2 (as : AS) (o : Option (List Int)) : Option (Res × AS) := match o with
  | none => none
  | some ks => if ks.length < 64 then some (.obj (.ol (mp .int (isort ks))), as) else none
def kSD (as : AS) (o : Option (List (Key × PD))) : Option (Res × AS) := match o with
  | none => none
  | some kvs => kSD2 as (intKeys kvs)
@[simp] theorem kSD_some {kvs : List (Key × PD)} : kSD as (some kvs) = kSD2 as (intKeys kvs) := (rfl)
theorem kSD2_some {ks : List Int} (h : ks.length < 64) : kSD2 as (some ks) = some (.obj (.ol (mp .int (isort ks))), as) := if_pos h
@[simp] theorem mSortD_ap : mSortD i as = kSD as (vDc as i) := by
  unfold mSortD kSD kSD2
  rw [slotD_eq]
  cases vDc as i with
  | none => rfl
  | some kvs =>
    simp only
    cases intKeys kvs <;> rfl
end
section
variable {α : Type} {e : α → PD}
/-- the pairs of a dict -/
def dN (e : α → PD) (l : List (Nat × α)) : List (Key × PD) := l.map fun p => (Sum.inl (p.1 : Int), e p.2)
def lk (l : List (Nat × α)) (k : Nat) : Option α := (l.find? fun p => decide (p.1 = k)).map fun p => p.2
def puN (l : List (Nat × α)) (k : Nat) (x : α) : List (Nat × α) := if k ∈ l.map (·.1) then l.map fun p => if p.1 = k then (p.1, x) else p else l ++ [(k, x)]
@[simp] theorem dN_nil : dN e [] = [] := (rfl)
@[simp] theorem dN_len {l : List (Nat × α)} : (dN e l).length = l.length := List.length_map _
theorem dN_one {k : Nat} {x : α} : [((Sum.inl (k : Int) : Key), e x)] = dN e [(k, x)] := (rfl)
@[simp] theorem lk_nil {k : Nat} : lk ([] : List (Nat × α)) k = none := (rfl)
@[simp] theorem lk_cons {p : Nat × α} {l : List (Nat × α)} {k : Nat} : lk (p :: l) k = if p.1 = k then some p.2 else lk l k := by
  unfold lk
  rw [List.find?_cons]
  by_cases h : p.1 = k
  · simp [h]
  · simp [h]
theorem valP_dN {k : Nat} : ∀ {l : List (Nat × α)}, valP (dN e l) (.inl (k : Int)) = (lk l k).map e
  | [] => rfl
  | p :: l => by
    show valP ((Sum.inl (p.1 : Int), e p.2) :: dN e l) _ = _
    rw [valP_cons, lk_cons, valP_dN]
    by_cases h : p.1 = k
    · subst h; simp
    · have : ¬ ((Sum.inl (p.1 : Int) : Key) = Sum.inl (k : Int)) := fun q => h (by have := Sum.inl.inj q; omega)
      rw [if_neg this, if_neg h]
theorem lk_none {k : Nat} : ∀ {l : List (Nat × α)}, lk l k = none ↔ k ∉ l.map (·.1)
  | [] => by simp
  | p :: l => by
    rw [lk_cons, List.map_cons, List.mem_cons]
    by_cases h : p.1 = k
    · simp [h]
    · rw [if_neg h, lk_none]
      have : k ≠ p.1 := fun q => h q.symm
      simp [this]
theorem lk_some_mem {k : Nat} {x : α} : ∀ {l : List (Nat × α)}, lk l k = some x → (k, x) ∈ l
  | [], h => by cases h
  | p :: l, h => by
    rw [lk_cons] at h
    by_cases q : p.1 = k
    · rw [if_pos q] at h
      cases h
      rw [← q]; exact List.mem_cons_self
    · rw [if_neg q] at h
      exact List.mem_cons_of_mem _ (lk_some_mem h)
theorem lk_app {l m : List (Nat × α)} {k : Nat} : lk (l ++ m) k = (lk l k).or (lk m k) := by
  induction l with
  | nil => simp
  | cons p l ih =>
    rw [List.cons_append, lk_cons, lk_cons, ih]
    by_cases h : p.1 = k
    · simp [h]
    · simp [h]
theorem lk_puN {l : List (Nat × α)} {k j : Nat} {x : α} : lk (puN l k x) j = if k = j then some x else lk l j := by
  unfold puN
  split
  · rename_i h
    by_cases q : k = j
    · subst q
      rw [if_pos rfl]
      induction l with
      | nil => cases h
      | cons p l ih =>
        rw [List.map_cons, lk_cons]
        by_cases e1 : p.1 = k
        · simp [e1]
        · rw [if_neg e1]
          have : k ∈ l.map (·.1) := by
            rcases List.mem_cons.mp h with h | h
            · exact absurd h.symm e1
            · exact h
          rw [if_neg e1, ih this]
    · rw [if_neg q]
      clear h
      induction l with
      | nil => rfl
      | cons p l ih =>
        rw [List.map_cons, lk_cons, lk_cons, ih]
        by_cases e1 : p.1 = k
        · have : p.1 ≠ j := by omega
          have q2 : ¬ k = j := q
          simp [e1, q]
        · rw [if_neg e1]
  · rename_i h
    rw [lk_app, lk_cons, lk_nil]
    by_cases q : k = j
    · subst q
      rw [(lk_none).mpr h]; simp
    · simp [q]
theorem keys_puN {l : List (Nat × α)} {k : Nat} {x : α} : (puN l k x).map (·.1) = if k ∈ l.map (·.1) then l.map (·.1) else l.map (·.1) ++ [k] := by
  unfold puN
  split
  · rw [List.map_map]
    refine List.map_congr_left fun p _ => ?_
    show (if p.1 = k then (p.1, x) else p).1 = p.1
    split <;> rfl
  · simp
theorem puN_len {l : List (Nat × α)} {k : Nat} {x : α} : (puN l k x).length ≤ l.length + 1 := by
  unfold puN
  split <;> simp
theorem dN_mem {l : List (Nat × α)} {k : Nat} : ((dN e l).any fun kv => decide (kv.1 = (Sum.inl (k : Int) : Key))) = decide (k ∈ l.map (·.1)) := by
  unfold dN
  rw [List.any_map, Bool.eq_iff_iff, List.any_eq_true, decide_eq_true_eq, List.mem_map]
  constructor
  · rintro ⟨p, hp, h⟩
    have h : (Sum.inl (p.1 : Int) : Key) = Sum.inl (k : Int) := by simpa using h
    exact ⟨p, hp, by have := Sum.inl.inj h; omega⟩
  · rintro ⟨p, hp, rfl⟩
    exact ⟨p, hp, by simp⟩
theorem putP_dN {l : List (Nat × α)} {k : Nat} {x : α} : putP (dN e l) (.inl (k : Int)) (e x) = dN e (puN l k x) := by
  unfold putP puN
  rw [dN_mem]
  by_cases h : k ∈ l.map (·.1)
  · rw [if_pos (decide_eq_true h), if_pos h]
    unfold dN
    rw [List.map_map, List.map_map]
    refine List.map_congr_left fun p _ => ?_
    show (if (Sum.inl (p.1 : Int) : Key) = Sum.inl (k : Int) then _ else _) = (Sum.inl ((if p.1 = k then (p.1, x) else p).1 : Int), e (if p.1 = k then (p.1, x) else p).2)
    by_cases q : p.1 = k
    · subst q; simp
    · have : ¬ ((Sum.inl (p.1 : Int) : Key) = Sum.inl (k : Int)) := fun z => q (by have := Sum.inl.inj z; omega)
      rw [if_neg this, if_neg q]
  · rw [if_neg (by simpa using h), if_neg h]
    unfold dN
    rw [List.map_append]; rfl
theorem intKeys_dN : ∀ {l : List (Nat × α)}, intKeys (dN e l) = some (l.map fun p => (p.1 : Int))
  | [] => rfl
  | p :: l => by
    show (intKeys (dN e l)).map _ = _
    rw [intKeys_dN]; rfl
end
/-! ### {k: v} -/
section
variable {as : AS}
def kDa2 (x : PD) (q : Option (PD × AS)) : Option (Res × AS) := match q with
  | none => none
  | some (y, as) => pairR ((kOf x).map fun k => Res.obj (.od [(k, y)])) as
def kDa1 (q : Option (PD × AS)) (mv : M PD) : Option (Res × AS) := match q with
  | none => none
  | some (x, as) => kDa2 x (mv as)
@[simp] theorem kDa2_some {x y : PD} : kDa2 x (some (y, as)) = pairR ((kOf x).map fun k => Res.obj (.od [(k, y)])) as := (rfl)
@[simp] theorem kDa1_some {x : PD} {mv : M PD} : kDa1 (some (x, as)) mv = kDa2 x (mv as) := (rfl)
@[simp] theorem mDict1_ap {mk mv : M PD} : mDict1 mk mv as = kDa1 (mk as) mv := by
  unfold mDict1 mBind kDa1
  cases mk as with
  | none => rfl
  | some q =>
    obtain ⟨x, as1⟩ := q
    simp only
    unfold kDa2
    cases mv as1 with
    | none => rfl
    | some r =>
      obtain ⟨y, as2⟩ := r
      exact mOpt_ap
end
/-! ### comprehensions over a dict -/
section
variable {as : AS} {i : Nat} {vs : List Nat} {g : PD → AS → Option AS} {c : M Bool} {el : M PD}
def sOd : Slot → Option (List (Key × PD))
  | .own (.od k) => some k
  | _ => none
def vOd : AS → Nat → Option (List (Key × PD))
  | [], _ => none
  | s :: _, 0 => sOd s
  | _ :: l, i + 1 => vOd l i
@[simp] theorem vOd_zero {s : Slot} {l : AS} : vOd (s :: l) 0 = sOd s := (rfl)
@[simp] theorem vOd_succ {s : Slot} {l : AS} {i : Nat} : vOd (s :: l) (i + 1) = vOd l i := (rfl)
@[simp] theorem sOd_own {k : List (Key × PD)} : sOd (.own (.od k)) = some k := (rfl)
theorem vOd_eq : ∀ (as : AS) (i : Nat), vOd as i = (as[i]?).bind sOd
  | [], _ => rfl
  | _ :: _, 0 => rfl
  | _ :: l, i + 1 => by rw [vOd_succ, List.getElem?_cons_succ]; exact vOd_eq l i
def kDr (as : AS) (q : Option (Res × AS)) : Option (Res × AS) := match q with
  | none => none
  | some (r, _) => some (r, as)
@[simp] theorem kDr_some {r : Res} {as' : AS} : kDr as (some (r, as')) = some (r, as) := (rfl)
def kLcD (i : Nat) (vs : List Nat) (g : PD → AS → Option AS) (c : M Bool) (el : M PD) (as : AS) (o : Option (List (Key × PD))) : Option (Res × AS) := match o with
  | none => none
  | some kvs => kDr as (kLc vs g c el (some (kvs.map fun q => ofK q.1, put1 i (.own (.fk kvs)) as)))
@[simp] theorem kLcD_some {kvs : List (Key × PD)} : kLcD i vs g c el as (some kvs) = kDr as (kLc vs g c el (some (kvs.map fun q => ofK q.1, put1 i (.own (.fk kvs)) as))) := (rfl)
@[simp] theorem mLcD_ap : mLcD i vs g c el as = kLcD i vs g c el as (vOd as i) := by
  rw [vOd_eq]
  unfold mLcD
  cases h : as[i]? with
  | none => rfl
  | some s =>
    cases s with
    | own o =>
      cases o with
      | od kvs =>
        simp only
        show _ = kDr as (kLc vs g c el (some (kvs.map fun q => ofK q.1, put1 i (.own (.fk kvs)) as)))
        have hl : i < as.length := (List.getElem?_eq_some_iff.mp h).1
        have hk : mKeys i (as.set i (.own (.fk kvs))) = some (kvs.map fun q => ofK q.1, as.set i (.own (.fk kvs))) := by
          unfold mKeys
          rw [List.getElem?_set_self hl]
        rw [mLc_ap, hk, put1_eq]
        cases kLc vs g c el (some (kvs.map fun q => ofK q.1, as.set i (.own (.fk kvs)))) <;> rfl
      | _ => rfl
    | _ => rfl
end
theorem keys_dN {α : Type} {e : α → PD} {l : List (Nat × α)} : ((dN e l).map fun q => ofK q.1) = mp (fun p : Nat × α => PyData.int (p.1 : Int)) l := by
  unfold dN
  rw [List.map_map, mp_map]; rfl
def ltIN (p q : Int × Nat) : Bool := if p.1 = q.1 then decide (p.2 < q.2) else decide (p.1 < q.1)
theorem ord_pin : OrdE (pr PyData.int iN) ltIN := ord_pr ord_int ord_nat (fun _ => by simp [PyData.depth]) (fun _ => by simp [PyData.depth])
theorem prTup {α β : Type} {e : α → PD} {f : β → PD} : ∀ x : α × β, ∃ ds, pr e f x = .tuple ds := fun x => ⟨_, rfl⟩
theorem oset {F : List (Option Int)} {t : Nat} {x : Int} : (mp (no PyData.int) F).set t (.int x) = mp (no PyData.int) (F.set t (some x)) := mp_set (f := no PyData.int) (x := some x)
theorem isN_no {o : Option Int} : isN (no PyData.int o) = !o.isSome := by cases o <;> rfl
def nones (F : List (Option Int)) : Nat := F.countP fun o => o.isNone
theorem nones_set {F : List (Option Int)} {i : Nat} {x : Int} (h : i < F.length) (hn : nt F i = none) : nones (F.set i (some x)) + 1 = nones F := by
  unfold nones
  rw [List.countP_set (h := h)]
  rw [nt_eq h] at hn
  rw [hn]
  have : 0 < F.countP fun o => o.isNone := List.countP_pos_iff.mpr ⟨none, by rw [← hn]; exact List.getElem_mem h, rfl⟩
  simp
  omega
theorem nones_le (F : List (Option Int)) : nones F ≤ F.length := List.countP_le_length
theorem nones_zero {F : List (Option Int)} (h : nones F = 0) {i : Nat} (hi : i < F.length) : nt F i ≠ none := fun e => by
  have : 0 < F.countP fun o => o.isNone := List.countP_pos_iff.mpr ⟨none, by rw [← e]; exact nt_mem hi, rfl⟩
  unfold nones at h
  omega
theorem nones_rep {n : Nat} : nones (List.replicate n none) = n := by
  unfold nones
  rw [List.countP_replicate]; simp
theorem gd_mO {n : Nat} {l : List (Option Int)} (h : l.length ≤ 1000000) : gd (n + 2) (.tuple (mp (no .int) l)) = true := by
  have : ∀ o : Option Int, gd (n + 1) (no .int o) = true := fun o => by cases o <;> rfl
  simp [h, this]
theorem gd_mOn {n : Nat} {l : List (Option Nat)} (h : l.length ≤ 1000000) : gd (n + 2) (.tuple (mp (no iN) l)) = true := by
  have : ∀ o : Option Nat, gd (n + 1) (no iN o) = true := fun o => by cases o <;> rfl
  simp [h, this]
/-- the least one by going along -/
def minF {α : Type} (lt : α → α → Bool) (x : α) (l : List α) : α := l.foldl (fun a y => if lt y a = true then y else a) x
theorem OrdE.minF_spec {α : Type} {e : α → PD} {lt : α → α → Bool} (h : OrdE e lt) : ∀ (l : List α) (x : α), minF lt x l ∈ x :: l ∧ ∀ y ∈ x :: l, lt y (minF lt x l) = false
  | [], x => ⟨List.mem_cons_self, fun y hy => by rw [List.mem_singleton] at hy; subst hy; exact h.irr _⟩
  | z :: l, x => by
    obtain ⟨h1, h2⟩ := h.minF_spec l (if lt z x = true then z else x)
    have e1 : minF lt x (z :: l) = minF lt (if lt z x = true then z else x) l := rfl
    rw [e1]
    have h0 := h2 _ List.mem_cons_self
    refine ⟨?_, fun y hy => ?_⟩
    · rcases List.mem_cons.mp h1 with q | q
      · rw [q]; split <;> simp
      · exact List.mem_cons_of_mem _ (List.mem_cons_of_mem _ q)
    · by_cases q : lt z x = true
      · rw [if_pos q] at h0 h2 ⊢
        rcases List.mem_cons.mp hy with rfl | hy
        · exact h.trle h0 (h.asym q)
        · rcases List.mem_cons.mp hy with rfl | hy
          · exact h0
          · exact h2 y (List.mem_cons_of_mem _ hy)
      · rw [if_neg q] at h0 h2 ⊢
        rcases List.mem_cons.mp hy with rfl | hy
        · exact h0
        · rcases List.mem_cons.mp hy with rfl | hy
          · exact h.trle h0 (by simpa using q)
          · exact h2 y (List.mem_cons_of_mem _ hy)
theorem OrdE.minO_fold {α : Type} {e : α → PD} {lt : α → α → Bool} (h : OrdE e lt) (x : α) (l : List α) : minO lt (x :: l) = some (minF lt x l) := h.minO_spec.mpr (h.minF_spec l x)
theorem list_rev_ind {α : Type} {P : List α → Prop} (h0 : P []) (h1 : ∀ l x, P l → P (l ++ [x])) (l : List α) : P l := by
  have : ∀ l : List α, P l.reverse := fun l => by
    induction l with
    | nil => exact h0
    | cons x l ih => rw [List.reverse_cons]; exact h1 _ _ ih
  have := this l.reverse
  rwa [List.reverse_reverse] at this
end Vl

-- U13
set_option Elab.async false
set_option linter.all false
set_option maxRecDepth 100000
set_option maxHeartbeats 4000000
/-! rows: simp lemmas over V43, V44; xs[i] op= v -/
namespace Vl
open PySem L2
def sR : Slot → Option (List (List PD))
  | .rw xss => some xss
  | _ => none
def vR : AS → Nat → Option (List (List PD))
  | [], _ => none
  | s :: _, 0 => sR s
  | _ :: l, i + 1 => vR l i
@[simp] theorem vR_zero {s : Slot} {l : AS} : vR (s :: l) 0 = sR s := (rfl)
@[simp] theorem vR_succ {s : Slot} {l : AS} {i : Nat} : vR (s :: l) (i + 1) = vR l i := (rfl)
@[simp] theorem sR_rw {xss : List (List PD)} : sR (.rw xss) = some xss := (rfl)
@[simp] theorem sR_dur {d : PD} : sR (.dur d) = none := (rfl)
theorem slotR_eq : ∀ (as : AS) (i : Nat), slotR as i = vR as i
  | [], _ => rfl
  | s :: _, 0 => by cases s <;> rfl
  | _ :: l, i + 1 => by rw [vR_succ, ← slotR_eq l i]; rfl
theorem vD_get (as : AS) (i : Nat) : vD as i = match as[i]? with
    | some (.dur d) => some d
    | _ => none := by
  rw [vD_eq]
  cases as[i]? with
  | none => rfl
  | some s => cases s <;> rfl
section
variable {as as1 : AS} {i : Nat} {k : Int}
/-! ### reading -/
def kRk2 (k : Int) (as1 : AS) (o : Option (List (List PD))) : Option (PD × AS) := match o with
  | none => none
  | some xss => (atI xss k).map fun xs => (.list xs, as1)
def kRk1 (i : Nat) (q : Option (PD × AS)) : Option (PD × AS) := match q with
  | some (.int k, as1) => kRk2 k as1 (vR as1 i)
  | _ => none
def kRd2 (k : Int) (as1 : AS) (o : Option PD) : Option (PD × AS) := match o with
  | some (.list ds) => (atI ds k).map fun d => (d, as1)
  | _ => none
def kRd1 (i : Nat) (q : Option (PD × AS)) : Option (PD × AS) := match q with
  | some (.int k, as1) => kRd2 k as1 (vD as1 i)
  | _ => none
def kRk0 (i : Nat) (d : Option PD) (q : Option (PD × AS)) : Option (PD × AS) := match d with
  | some (.list _) => kRd1 i q
  | _ => none
def kRk (i : Nat) (o : Option (List (List PD))) (d : Option PD) (q : Option (PD × AS)) : Option (PD × AS) := match o with
  | some _ => kRk1 i q
  | none => kRk0 i d q
@[simp] theorem kRk_some {xss : List (List PD)} {d : Option PD} {q : Option (PD × AS)} : kRk i (some xss) d q = kRk1 i q := (rfl)
@[simp] theorem kRk_none {d : Option PD} {q : Option (PD × AS)} : kRk i none d q = kRk0 i d q := (rfl)
@[simp] theorem kRk0_some {ds : List PD} {q : Option (PD × AS)} : kRk0 i (some (.list ds)) q = kRd1 i q := (rfl)
@[simp] theorem kRk1_some : kRk1 i (some (.int k, as1)) = kRk2 k as1 (vR as1 i) := (rfl)
@[simp] theorem kRd1_some : kRd1 i (some (.int k, as1)) = kRd2 k as1 (vD as1 i) := (rfl)
@[simp] theorem kRk2_some {xss : List (List PD)} : kRk2 k as1 (some xss) = (atI xss k).map fun xs => (.list xs, as1) := (rfl)
@[simp] theorem kRd2_some {ds : List PD} : kRd2 k as1 (some (.list ds)) = (atI ds k).map fun d => (d, as1) := (rfl)
@[simp] theorem mRk_ap {mk : M PD} : mRk i mk as = kRk i (vR as i) (vD as i) (mk as) := by
  unfold mRk
  rw [slotR_eq]
  cases vR as i with
  | some xss =>
    simp only [kRk_some]
    cases mk as with
    | none => rfl
    | some q =>
      obtain ⟨z, as1⟩ := q
      cases z with
      | int k =>
        simp only [slotR_eq, kRk1_some]
        cases vR as1 i with
        | none => rfl
        | some xss2 =>
          simp only [kRk2_some]
          cases atI xss2 k <;> rfl
      | _ => rfl
  | none =>
    rw [vD_get]
    simp only [kRk_none]
    cases as[i]? with
    | none => rfl
    | some s =>
      cases s with
      | dur d =>
        cases d with
        | list ds =>
          simp only [kRk0_some]
          cases mk as with
          | none => rfl
          | some q =>
            obtain ⟨z, as1⟩ := q
            cases z with
            | int k =>
              simp only [kRd1_some]
              rw [vD_get]
              cases as1[i]? with
              | none => rfl
              | some s =>
                cases s with
                | dur d =>
                  cases d with
                  | list ds =>
                    simp only [kRd2_some]
                    cases atI ds k <;> rfl
                  | _ => rfl
                | _ => rfl
            | _ => rfl
        | _ => rfl
      | _ => rfl
theorem atI_mp {α : Type} [Inhabited α] {β : Type} {e : α → β} {l : List α} {k : Nat} (h : k < l.length) : atI (mp e l) (k : Int) = some (e (nt l k)) := by
  rw [atI_ix (j := k) (by rw [mp_length, ixN_nat h]), nt_eq h]
  unfold mp
  rw [List.getElem?_map, List.getElem?_eq_getElem h]; rfl
/-! ### methods -/
def kRm4 (i : Nat) (as1 : AS) (xss : List (List PD)) (j : Nat) (o : Option (PD × List PD)) : Option (PD × AS) := match o with
  | none => none
  | some (d, xs') => some (d, put1 i (.rw (xss.set j xs')) as1)
def kRm3 (i : Nat) (f : List PD → List PD → Option (PD × List PD)) (as1 : AS) (xss : List (List PD)) (j : Nat) (qs : Option (List PD × AS)) : Option (PD × AS) := match qs with
  | none => none
  | some (ds, _) => kRm4 i as1 xss j (f (xss.getD j []) ds)
def kRm2 (i : Nat) (f : List PD → List PD → Option (PD × List PD)) (as1 : AS) (xss : List (List PD)) (o : Option Nat) (qs : Option (List PD × AS)) : Option (PD × AS) := match o with
  | none => none
  | some j => kRm3 i f as1 xss j qs
def kRm1b (i : Nat) (f : List PD → List PD → Option (PD × List PD)) (k : Int) (as1 : AS) (o : Option (List (List PD))) (qs : Option (List PD × AS)) : Option (PD × AS) := match o with
  | none => none
  | some xss => kRm2 i f as1 xss (ixN xss.length k) qs
def kRm1 (i : Nat) (f : List PD → List PD → Option (PD × List PD)) (ms : M (List PD)) (q : Option (PD × AS)) : Option (PD × AS) := match q with
  | some (.int k, as1) => kRm1b i f k as1 (vR as1 i) (ms as1)
  | _ => none
def kRm0 (i : Nat) (f : List PD → List PD → Option (PD × List PD)) (ms : M (List PD)) (o : Option (List (List PD))) (q : Option (PD × AS)) : Option (PD × AS) := match o with
  | none => none
  | some _ => kRm1 i f ms q
section
variable {f : List PD → List PD → Option (PD × List PD)} {ms : M (List PD)} {xss : List (List PD)}
@[simp] theorem kRm0_some {q : Option (PD × AS)} : kRm0 i f ms (some xss) q = kRm1 i f ms q := (rfl)
@[simp] theorem kRm1_some : kRm1 i f ms (some (.int k, as1)) = kRm1b i f k as1 (vR as1 i) (ms as1) := (rfl)
@[simp] theorem kRm1b_some {qs : Option (List PD × AS)} : kRm1b i f k as1 (some xss) qs = kRm2 i f as1 xss (ixN xss.length k) qs := (rfl)
@[simp] theorem kRm2_some {j : Nat} {qs : Option (List PD × AS)} : kRm2 i f as1 xss (some j) qs = kRm3 i f as1 xss j qs := (rfl)
@[simp] theorem kRm3_some {j : Nat} {ds : List PD} {as2 : AS} : kRm3 i f as1 xss j (some (ds, as2)) = kRm4 i as1 xss j (f (xss.getD j []) ds) := (rfl)
@[simp] theorem kRm4_some {j : Nat} {d : PD} {xs' : List PD} : kRm4 i as1 xss j (some (d, xs')) = some (d, put1 i (.rw (xss.set j xs')) as1) := (rfl)
@[simp] theorem mRm_ap {mk : M PD} : mRm i mk f ms as = kRm0 i f ms (vR as i) (mk as) := by
  unfold mRm
  rw [slotR_eq]
  cases vR as i with
  | none => rfl
  | some xss =>
    simp only [kRm0_some]
    cases mk as with
    | none => rfl
    | some q =>
      obtain ⟨z, as1⟩ := q
      cases z with
      | int k =>
        simp only [slotR_eq, kRm1_some]
        cases vR as1 i with
        | none => rfl
        | some xss2 =>
          simp only [kRm1b_some]
          cases ixN xss2.length k with
          | none => rfl
          | some j =>
            simp only [kRm2_some]
            cases ms as1 with
            | none => rfl
            | some q =>
              obtain ⟨ds, as2⟩ := q
              simp only [kRm3_some]
              cases f (xss2.getD j []) ds with
              | none => rfl
              | some r =>
                obtain ⟨d, xs'⟩ := r
                simp only [kRm4_some, put1_eq]
      | _ => rfl
end
/-! ### x[k][j] = e -/
def kGr4 (i : Nat) (d : PD) (as1 : AS) (xss : List (List PD)) (j : Nat) (o : Option Nat) : Option AS := match o with
  | none => none
  | some j2 => some (put1 i (.rw (xss.set j ((xss.getD j []).set j2 d))) as1)
def kGr3 (i : Nat) (d : PD) (as1 : AS) (xss : List (List PD)) (j : Nat) (q : Option (PD × AS)) : Option AS := match q with
  | some (.int k2, _) => kGr4 i d as1 xss j (ixN (xss.getD j []).length k2)
  | _ => none
def kGr2 (i : Nat) (d : PD) (as1 : AS) (xss : List (List PD)) (o : Option Nat) (q : Option (PD × AS)) : Option AS := match o with
  | none => none
  | some j => kGr3 i d as1 xss j q
def kGr1b (i : Nat) (d : PD) (k : Int) (as1 : AS) (o : Option (List (List PD))) (q : Option (PD × AS)) : Option AS := match o with
  | none => none
  | some xss => kGr2 i d as1 xss (ixN xss.length k) q
def kGr1 (i : Nat) (d : PD) (mj : M PD) (q : Option (PD × AS)) : Option AS := match q with
  | some (.int k, as1) => kGr1b i d k as1 (vR as1 i) (mj as1)
  | _ => none
def kGr0 (i : Nat) (d : PD) (mj : M PD) (o : Option (List (List PD))) (q : Option (PD × AS)) : Option AS := match o with
  | none => none
  | some _ => kGr1 i d mj q
section
variable {d : PD} {mj : M PD} {xss : List (List PD)}
@[simp] theorem kGr0_some {q : Option (PD × AS)} : kGr0 i d mj (some xss) q = kGr1 i d mj q := (rfl)
@[simp] theorem kGr1_some : kGr1 i d mj (some (.int k, as1)) = kGr1b i d k as1 (vR as1 i) (mj as1) := (rfl)
@[simp] theorem kGr1b_some {q : Option (PD × AS)} : kGr1b i d k as1 (some xss) q = kGr2 i d as1 xss (ixN xss.length k) q := (rfl)
@[simp] theorem kGr2_some {j : Nat} {q : Option (PD × AS)} : kGr2 i d as1 xss (some j) q = kGr3 i d as1 xss j q := (rfl)
@[simp] theorem kGr3_some {j : Nat} {k2 : Int} {as2 : AS} : kGr3 i d as1 xss j (some (.int k2, as2)) = kGr4 i d as1 xss j (ixN (xss.getD j []).length k2) := (rfl)
@[simp] theorem kGr4_some {j j2 : Nat} : kGr4 i d as1 xss j (some j2) = some (put1 i (.rw (xss.set j ((xss.getD j []).set j2 d))) as1) := (rfl)
@[simp] theorem gRow_ap {mk : M PD} : gRow i mk mj d as = kGr0 i d mj (vR as i) (mk as) := by
  unfold gRow
  rw [slotR_eq]
  cases vR as i with
  | none => rfl
  | some xss =>
    simp only [kGr0_some]
    cases mk as with
    | none => rfl
    | some q =>
      obtain ⟨z, as1⟩ := q
      cases z with
      | int k =>
        simp only [slotR_eq, kGr1_some]
        cases vR as1 i with
        | none => rfl
        | some xss2 =>
          simp only [kGr1b_some]
          cases ixN xss2.length k with
          | none => rfl
          | some j =>
            simp only [kGr2_some]
            cases mj as1 with
            | none => rfl
            | some q =>
              obtain ⟨z2, as2⟩ := q
              cases z2 with
              | int k2 =>
                simp only [kGr3_some]
                cases ixN (xss2.getD j []).length k2 with
                | none => rfl
                | some j2 => simp only [kGr4_some, put1_eq]
              | _ => rfl
      | _ => rfl
end
/-! ### the whole; stored -/
def vZr : AS → Nat → Option (PD × AS)
  | .dur d :: l, 0 => some (d, .dur d :: l)
  | .rw xss :: l, 0 => some (.list (xss.map .list), .dur (.list (xss.map .list)) :: l)
  | s :: l, i + 1 => match vZr l i with
    | none => none
    | some (r, l') => some (r, s :: l')
  | _, _ => none
@[simp] theorem vZr_dur {d : PD} {l : AS} : vZr (.dur d :: l) 0 = some (d, .dur d :: l) := (rfl)
@[simp] theorem vZr_rw {xss : List (List PD)} {l : AS} : vZr (.rw xss :: l) 0 = some (.list (xss.map .list), .dur (.list (xss.map .list)) :: l) := (rfl)
@[simp] theorem vZr_succ {s : Slot} {l : AS} {i : Nat} : vZr (s :: l) (i + 1) = kTk s (vZr l i) := by
  have : vZr (s :: l) (i + 1) = match vZr l i with | none => none | some (r, l') => some (r, s :: l') := by
    cases s with
    | own o => cases o <;> rfl
    | _ => rfl
  rw [this]
  cases vZr l i <;> rfl
theorem vZr_eq : ∀ (as : AS) (i : Nat), vZr as i = match as[i]? with
    | some (.dur d) => some (d, as)
    | some (.rw xss) => some (.list (xss.map .list), as.set i (.dur (.list (xss.map .list))))
    | _ => none
  | [], _ => rfl
  | s :: l, 0 => by cases s <;> rfl
  | s :: l, i + 1 => by
    rw [vZr_succ, vZr_eq l i, List.getElem?_cons_succ]
    cases l[i]? with
    | none => rfl
    | some t => cases t <;> rfl
@[simp] theorem mZr_ap {as : AS} {i : Nat} : mZr i as = vZr as i := by rw [vZr_eq]; rfl
@[simp] theorem rows_map {α : Type} {e : α → PD} {l : List (List α)} : (mp (mp e) l).map PyData.list = mp (ls e) l := by
  unfold mp
  rw [List.map_map]; rfl
def kVo (q : Option (Res × AS)) : Option (PD × AS) := match q with
  | some (.obj (.ol xs), as1) => some (.list xs, as1)
  | _ => none
@[simp] theorem kVo_some {xs : List PD} : kVo (some (.obj (.ol xs), as1)) = some (.list xs, as1) := (rfl)
@[simp] theorem mVo_ap {m : M Res} : mVo m as = kVo (m as) := (rfl)
def kSr2 (i : Nat) (as1 : AS) (o : Option (List (List PD))) : Option (Ctl × AS) := match o with
  | none => none
  | some xss => kN (wS (.rw xss) as1 i)
def kSr (i : Nat) (q : Option (Res × AS)) : Option (Ctl × AS) := match q with
  | some (.obj (.ol ys), as1) => kSr2 i as1 (unL ys)
  | _ => none
@[simp] theorem kSr2_some {xss : List (List PD)} : kSr2 i as1 (some xss) = kN (wS (.rw xss) as1 i) := (rfl)
@[simp] theorem kSr_some {ys : List PD} : kSr i (some (.obj (.ol ys), as1)) = kSr2 i as1 (unL ys) := (rfl)
@[simp] theorem sSetR_ap {m : M Res} : sSetR i m as = kSr i (m as) := by
  unfold sSetR
  cases m as with
  | none => rfl
  | some q =>
    obtain ⟨r, as1⟩ := q
    cases r with
    | val d => rfl
    | obj o =>
      cases o with
      | ol ys =>
        simp only [kSr_some]
        cases unL ys with
        | none => rfl
        | some xss =>
          simp only [kSr2_some]
          rw [wS_eq]
          cases as1[i]? with
          | none => rfl
          | some s => cases s <;> rfl
      | _ => rfl
@[simp] theorem unL_mp {α : Type} {e : α → PD} : ∀ {l : List (List α)}, unL (mp (ls e) l) = some (mp (mp e) l)
  | [] => rfl
  | x :: l => by
    rw [mp_cons, mp_cons, ls_ap]
    show (unL (mp (ls e) l)).map _ = _
    rw [unL_mp (l := l)]; rfl
/-! ### rows of coded things -/
section
variable {α : Type} {e : α → PD} {l : List (List α)} {k : Nat}
theorem rowAt (h : k < l.length) : atI (mp (mp e) l) (k : Int) = some (mp e (nt l k)) := atI_mp h
theorem rowIx (h : k < l.length) : ixN (mp (mp e) l).length (k : Int) = some k := by rw [mp_length, ixN_nat h]
theorem rowGet (h : k < l.length) : (mp (mp e) l).getD k [] = mp e (nt l k) := by
  rw [List.getD_eq_getElem?_getD, nt_eq h]
  unfold mp
  rw [List.getElem?_map, List.getElem?_eq_getElem h]; rfl
theorem rowSet {x : List α} : (mp (mp e) l).set k (mp e x) = mp (mp e) (l.set k x) := mp_set
/-- x[k].append(v) on rows -/
theorem rowApp {i : Nat} {as1 as2 : AS} {x : α} (h : k < l.length) (h2 : (nt l k).length < 16777216) : kRm2 i fAppend as1 (mp (mp e) l) (ixN l.length (k : Int)) (some ([e x], as2)) = some (.none, put1 i (.rw (mp (mp e) (l.set k (nt l k ++ [x])))) as1) := by
  rw [ixN_nat h, kRm2_some, kRm3_some, rowGet h, appE h2, kRm4_some, rowSet]
/-- x[k][j] = v on rows -/
theorem rowPut [Inhabited α] {i j : Nat} {as1 as2 : AS} {x : α} (h : k < l.length) (h2 : j < (nt l k).length) : kGr2 i (e x) as1 (mp (mp e) l) (ixN l.length (k : Int)) (some (.int (j : Int), as2)) = some (put1 i (.rw (mp (mp e) (l.set k ((nt l k).set j x)))) as1) := by
  rw [ixN_nat h, kGr2_some, kGr3_some, rowGet h, mp_length, ixN_nat h2, kGr4_some, rowGet h, mp_set, rowSet]
end
/-! ### xs[i] op= v -/
def aS6 (i : Nat) (as : AS) (xs : List PD) (z : PD) (o : Option Nat) : Option (Ctl × AS) := match o with
  | none => none
  | some j => some (.nx, pL as i (xs.set j z))
@[simp] theorem aS6_some {i j : Nat} {as : AS} {xs : List PD} {z : PD} : aS6 i as xs z (some j) = some (.nx, pL as i (xs.set j z)) := (rfl)
def aS5 (i : Nat) (k : Int) (z : PD) (as : AS) (o : Option (List PD)) : Option (Ctl × AS) := match o with
  | none => none
  | some xs => aS6 i as xs z (ixN xs.length k)
@[simp] theorem aS5_some {i : Nat} {k : Int} {z : PD} {as : AS} {xs : List PD} : aS5 i k z as (some xs) = aS6 i as xs z (ixN xs.length k) := (rfl)
def aS4 (i : Nat) (k : Int) (as : AS) (o : Option PD) : Option (Ctl × AS) := match o with
  | none => none
  | some z => aS5 i k z as (vL as i)
@[simp] theorem aS4_some {i : Nat} {k : Int} {z : PD} {as : AS} : aS4 i k as (some z) = aS5 i k z as (vL as i) := (rfl)
def aS3 (i : Nat) (k : Int) (f : PD → PD → Option PD) (d : PD) (q : Option (PD × AS)) : Option (Ctl × AS) := match q with
  | none => none
  | some (y, as) => aS4 i k as (f d y)
@[simp] theorem aS3_some {i : Nat} {k : Int} {f : PD → PD → Option PD} {d y : PD} {as : AS} : aS3 i k f d (some (y, as)) = aS4 i k as (f d y) := (rfl)
def aS2 (i : Nat) (k : Int) (f : PD → PD → Option PD) (me : M PD) (as : AS) (o : Option PD) : Option (Ctl × AS) := match o with
  | none => none
  | some d => aS3 i k f d (me as)
@[simp] theorem aS2_some {i : Nat} {k : Int} {f : PD → PD → Option PD} {me : M PD} {as : AS} {d : PD} : aS2 i k f me as (some d) = aS3 i k f d (me as) := (rfl)
def aS1b (i : Nat) (k : Int) (f : PD → PD → Option PD) (me : M PD) (as : AS) (o : Option (List PD)) : Option (Ctl × AS) := match o with
  | none => none
  | some xs => aS2 i k f me as (atI xs k)
@[simp] theorem aS1b_some {i : Nat} {k : Int} {f : PD → PD → Option PD} {me : M PD} {as : AS} {xs : List PD} : aS1b i k f me as (some xs) = aS2 i k f me as (atI xs k) := (rfl)
def aS1 (i : Nat) (f : PD → PD → Option PD) (me : M PD) (q : Option (PD × AS)) : Option (Ctl × AS) := match q with
  | some (.int k, as) => aS1b i k f me as (vL as i)
  | _ => none
@[simp] theorem aS1_some {i : Nat} {k : Int} {f : PD → PD → Option PD} {me : M PD} {as : AS} : aS1 i f me (some (.int k, as)) = aS1b i k f me as (vL as i) := (rfl)
def aS0 (i : Nat) (f : PD → PD → Option PD) (me : M PD) (o : Option (List PD)) (q : Option (PD × AS)) : Option (Ctl × AS) := match o with
  | none => none
  | some _ => aS1 i f me q
@[simp] theorem aS0_some {i : Nat} {f : PD → PD → Option PD} {me : M PD} {xs : List PD} {q : Option (PD × AS)} : aS0 i f me (some xs) q = aS1 i f me q := (rfl)
@[simp] theorem sAugS_ap {i : Nat} {mk me : M PD} {f : PD → PD → Option PD} {as : AS} : sAugS i mk f me as = aS0 i f me (vL as i) (mk as) := by
  unfold sAugS
  rw [slotL_eq]
  cases vL as i with
  | none => rfl
  | some _ =>
    simp only [aS0_some]
    cases mk as with
    | none => rfl
    | some q =>
      obtain ⟨kd, as1⟩ := q
      cases kd with
      | int k =>
        simp only [aS1_some, slotL_eq]
        cases vL as1 i with
        | none => rfl
        | some xs =>
          simp only [aS1b_some]
          cases atI xs k with
          | none => rfl
          | some d =>
            simp only [aS2_some]
            cases me as1 with
            | none => rfl
            | some r =>
              obtain ⟨y, as2⟩ := r
              simp only [aS3_some]
              cases f d y with
              | none => rfl
              | some z =>
                simp only [aS4_some, slotL_eq]
                cases vL as2 i with
                | none => rfl
                | some xs2 =>
                  simp only [aS5_some, setL_eq]
                  cases ixN xs2.length k <;> rfl
      | _ => rfl
theorem fR3d {n : Nat} (h0 : 0 < n) (h : n ≤ 8) : fR3 [.int ((n : Int) - 1), .int 0, .int (-1)] = some (mp iN ((List.range (n - 1)).map fun i => n - 1 - i)) := by
  have : n = 1 ∨ n = 2 ∨ n = 3 ∨ n = 4 ∨ n = 5 ∨ n = 6 ∨ n = 7 ∨ n = 8 := by omega
  rcases this with rfl | rfl | rfl | rfl | rfl | rfl | rfl | rfl <;> rfl
end
end Vl

-- U14
set_option Elab.async false
set_option linter.all false
set_option maxRecDepth 100000
set_option maxHeartbeats 4000000
/-! ranges downwards; sums; trees of parents (a parent is less) -/
namespace Vl
open PySem L2
theorem fR3g {n : Nat} (h0 : 0 < n) (h : n ≤ 1000) : fR3 [.int ((n : Int) - 1), .int 0, .int (-1)] = some (mp iN ((List.range (n - 1)).map fun i => n - 1 - i)) := by
  have hs : Builtin.Range.rangeSize ((n : Int) - 1) 0 (-1) = ((n - 1 : Nat) : Int) := by
    unfold Builtin.Range.rangeSize
    rw [if_neg (by decide)]
    by_cases q : (n : Int) - 1 > 0
    · rw [if_pos q]; simp; omega
    · rw [if_neg q]; omega
  show (if rg3Ok ((n : Int) - 1) 0 (-1) (Builtin.Range.rangeSize ((n : Int) - 1) 0 (-1)).toNat = true then some (rngC ((n : Int) - 1) (-1) (Builtin.Range.rangeSize ((n : Int) - 1) 0 (-1)).toNat) else none) = _
  rw [hs, Int.toNat_natCast, if_pos (by unfold rg3Ok Builtin.Range.small; rw [hs]; simp [Builtin.Range.rangeFitsLong]; omega)]
  unfold rngC mp
  rw [List.map_map]
  congr 1
  refine List.map_congr_left fun x hx => ?_
  have hx := List.mem_range.mp hx
  show PyData.int _ = PyData.int _
  congr 1
  show (n : Int) - 1 + (x : Int) * -1 = ((n - 1 - x : Nat) : Int)
  omega
theorem pick5 {α : Type} [Inhabited α] {e : α → PD} {a b c d f : α} {v : Nat} (h : v < 5) : fIx (.list [e a, e b, e c, e d, e f]) (.int (v : Int)) = some (.val (e (nt [a, b, c, d, f] v))) := fIxL (e := e) (l := [a, b, c, d, f]) h
theorem pick5i {a b c d f : Int} {v : Nat} (h : v < 5) : fIx (.list [.int a, .int b, .int c, .int d, .int f]) (.int (v : Int)) = some (.val (.int (nt [a, b, c, d, f] v))) := pick5 (e := PyData.int) h
theorem nt5 {α : Type} [Inhabited α] {P : α → Prop} {a b c d f : α} {v : Nat} (h : v < 5) (ha : P a) (hb : P b) (hc : P c) (hd : P d) (hf : P f) : P (nt [a, b, c, d, f] v) := by
  have : v = 0 ∨ v = 1 ∨ v = 2 ∨ v = 3 ∨ v = 4 := by omega
  rcases this with rfl | rfl | rfl | rfl | rfl <;> simp [*]
/-! ### sums -/
def sm (n : Nat) (f : Nat → Int) : Int := ((List.range n).map f).sum
theorem sm_0 (f : Nat → Int) : sm 0 f = 0 := rfl
theorem sm_s (n : Nat) (f : Nat → Int) : sm (n + 1) f = sm n f + f n := by
  unfold sm
  rw [List.range_succ, List.map_append, List.sum_append]; simp
theorem sm_le {f g : Nat → Int} : ∀ {n : Nat}, (∀ v < n, f v ≤ g v) → sm n f ≤ sm n g
  | 0, _ => Int.le_refl _
  | n + 1, h => by
    rw [sm_s, sm_s]
    have := sm_le (n := n) fun v hv => h v (by omega)
    have := h n (by omega)
    omega
theorem sm_eq {f g : Nat → Int} {n : Nat} (h : ∀ v < n, f v = g v) : sm n f = sm n g := by
  unfold sm
  congr 1
  exact List.map_congr_left fun v hv => h v (List.mem_range.mp hv)
theorem sm_add (f g : Nat → Int) : ∀ n : Nat, sm n (fun v => f v + g v) = sm n f + sm n g
  | 0 => rfl
  | n + 1 => by rw [sm_s, sm_s, sm_s, sm_add f g n]; omega
theorem sm_one {f g : Nat → Int} {q : Nat} {d : Int} (h : ∀ v, g v = f v + if v = q then d else 0) : ∀ {n : Nat}, q < n → sm n g = sm n f + d
  | n + 1, hq => by
    rw [sm_s, sm_s]
    by_cases e : q = n
    · subst e
      rw [h q, if_pos rfl, sm_eq fun v hv => by rw [h v, if_neg (by omega), Int.add_zero]]
      omega
    · rw [sm_one h (show q < n by omega), h n, if_neg (by omega)]; omega
theorem sm_zz : ∀ n : Nat, sm n (fun _ => 0) = 0
  | 0 => rfl
  | n + 1 => by rw [sm_s, sm_zz n]; rfl
theorem sm_mul (k : Int) (f : Nat → Int) : ∀ n : Nat, sm n (fun v => k * f v) = k * sm n f
  | 0 => by simp [sm_0]
  | n + 1 => by rw [sm_s, sm_s, sm_mul k f n, Int.mul_add]
theorem sum_cnt {n : Nat} (f : Nat → Int) : ∀ {L : List Nat}, (∀ v ∈ L, v < n) → (L.map f).sum = sm n fun u => (L.count u : Int) * f u
  | [], _ => by simp [sm_zz]
  | x :: L, h => by
    rw [List.map_cons, List.sum_cons, sum_cnt f fun v hv => h v (List.mem_cons_of_mem _ hv)]
    rw [sm_one (f := fun u => (L.count u : Int) * f u) (g := fun u => ((x :: L).count u : Int) * f u) (q := x) (d := f x) (fun v => ?_) (h x (by simp))]
    · omega
    · rw [List.count_cons]
      by_cases q : v = x
      · subst q
        simp [Int.add_mul]
      · have : ¬ (x = v) := fun e => q e.symm
        simp [q, this]
theorem sum_map_le {α : Type} {f h : α → Int} : ∀ {L : List α}, (∀ v ∈ L, f v ≤ h v) → (L.map f).sum ≤ (L.map h).sum
  | [], _ => Int.le_refl _
  | x :: L, k => by
    rw [List.map_cons, List.sum_cons, List.map_cons, List.sum_cons]
    have h1 := k x (by simp)
    have h2 := sum_map_le (L := L) fun v hv => k v (List.mem_cons_of_mem _ hv)
    omega
theorem asc_range' : ∀ (k a : Nat), (List.range' a k).Pairwise (· < ·)
  | 0, _ => by simp
  | k + 1, a => by
    rw [List.range'_succ, List.pairwise_cons]
    exact ⟨fun b hb => by have := List.mem_range'_1.mp hb; omega, asc_range' k (a + 1)⟩
/-! ### rows of numbers by a function -/
def fnL (n : Nat) (f : Nat → Int) : List Int := (List.range n).map f
def fE (n : Nat) (f : Nat → Int) : PD := .tuple (mp .int (fnL n f))
theorem fnL_len {n : Nat} {f : Nat → Int} : (fnL n f).length = n := by simp [fnL]
theorem nt_fnL {n v : Nat} {f : Nat → Int} (hv : v < n) : nt (fnL n f) v = f v := by
  unfold fnL
  rw [nt_map (by simpa using hv), nt_range hv]
theorem fnL_set {n q : Nat} {f g : Nat → Int} {z : Int} (h : ∀ v < n, g v = if q = v then z else f v) : (fnL n f).set q z = fnL n g := by
  refine List.ext_getElem (by simp [fnL]) fun i a b => ?_
  have hi : i < n := by simpa [fnL] using b
  have h1 : nt ((fnL n f).set q z) i = nt (fnL n g) i := by
    rw [nt_set (by rw [fnL_len]; exact hi), nt_fnL hi, nt_fnL hi, h i hi]
  rwa [nt_eq a, nt_eq b] at h1
theorem fnL_eq {n : Nat} {f g : Nat → Int} (h : ∀ v < n, f v = g v) : fnL n f = fnL n g := List.map_congr_left fun v hv => h v (List.mem_range.mp hv)
theorem fnL_of {n : Nat} {l : List Int} (h : l.length = n) : l = fnL n (fun v => nt l v) := by
  refine List.ext_getElem (by rw [fnL_len]; exact h) fun i a b => ?_
  have hi : i < n := by rwa [fnL_len] at b
  have h2 : nt (fnL n (fun v => nt l v)) i = nt l i := nt_fnL hi
  rw [nt_eq b, nt_eq a] at h2
  exact h2.symm
theorem fE_ix {n : Nat} {f : Nat → Int} {v : Nat} (hv : v < n) : fIx (fE n f) (.int (v : Int)) = some (.val (.int (f v))) := by
  have := fIxT (e := PyData.int) (l := fnL n f) (i := v) (by rw [fnL_len]; exact hv)
  rw [nt_fnL hv] at this
  exact this
theorem fE_of {n : Nat} {l : List Int} (h : l.length = n) : PyData.tuple (mp .int l) = fE n (fun v => nt l v) := by
  unfold fE
  rw [← fnL_of h]
theorem fLen_E {n : Nat} {f : Nat → Int} : fLen [fE n f] = some (.int (n : Int)) := by
  have : fLen [fE n f] = some (.int ((fnL n f).length : Int)) := by unfold fE; simp
  rw [this, fnL_len]
/-- an own list of numbers, read and set -/
theorem fnL_ix {n : Nat} {f : Nat → Int} {v : Nat} (hv : v < n) : fIx (.list (mp .int (fnL n f))) (.int (v : Int)) = some (.val (.int (f v))) := by
  rw [fIxL (e := PyData.int) (by rw [fnL_len]; exact hv), nt_fnL hv]
/-! ### trees: node 0 above all, a parent less than its node -/
def parE (n : Nat) (p : Nat → Nat) : List (Option Nat) := (List.range n).map fun v => if v = 0 then none else some (p v)
def pE (n : Nat) (p : Nat → Nat) : PD := .tuple (mp (no iN) (parE n p))
theorem parE_len {n : Nat} {p : Nat → Nat} : (parE n p).length = n := by simp [parE]
theorem nt_parE {n v : Nat} {p : Nat → Nat} (hv : v < n) : nt (parE n p) v = if v = 0 then none else some (p v) := by
  unfold parE
  rw [nt_map (by simpa using hv), nt_range hv]
section
variable {n : Nat} {p : Nat → Nat}
theorem pE_ix {v : Nat} (hv : v < n) (h0 : 0 < v) : fIx (pE n p) (.int (v : Int)) = some (.val (.int (p v : Int))) := by
  have := fIxT (e := no iN) (l := parE n p) (i := v) (by rw [parE_len]; exact hv)
  rw [nt_parE hv, if_neg (by omega)] at this
  exact this
theorem pE_ix0 (hn : 0 < n) : fIx (pE n p) (.int 0) = some (.val .none) := by
  have := fIxT (e := no iN) (l := parE n p) (i := 0) (by rw [parE_len]; exact hn)
  rw [nt_parE hn, if_pos rfl] at this
  exact this
theorem pE_len : fLen [pE n p] = some (.int (n : Int)) := by
  have : fLen [pE n p] = some (.int ((parE n p).length : Int)) := by unfold pE; simp
  rw [this, parE_len]
theorem pE_of {L : List (Option Nat)} (hl : L.length = n) (h0 : nt L 0 = none) (h : ∀ v, 0 < v → v < n → ∃ u, nt L v = some u) : PyData.tuple (mp (no iN) L) = pE n (fun v => (nt L v).getD 0) := by
  have hLe : L = parE n (fun v => (nt L v).getD 0) := by
    refine List.ext_getElem (by rw [parE_len]; omega) fun i a b => ?_
    have hi : i < n := by rwa [parE_len] at b
    have h1 : nt L i = nt (parE n fun v => (nt L v).getD 0) i := by
      rw [nt_parE hi]
      by_cases q : i = 0
      · rw [if_pos q, q]; exact h0
      · rw [if_neg q]
        obtain ⟨u, e⟩ := h i (by omega) hi
        rw [e]; rfl
    rwa [nt_eq a, nt_eq b] at h1
  unfold pE
  rw [← hLe]
structure Tre (n : Nat) (p : Nat → Nat) : Prop where
  n0 : 0 < n
  p : ∀ v < n, 0 < v → p v < v
/-- the sons of a node, ascending -/
def sns (n : Nat) (p : Nat → Nat) (v : Nat) : List Nat := (List.range' 1 (n - 1)).filter fun s => decide (p s = v)
theorem mem_sns {v s : Nat} : s ∈ sns n p v ↔ 0 < s ∧ s < n ∧ p s = v := by
  unfold sns
  rw [List.mem_filter, List.mem_range'_1, decide_eq_true_eq]
  constructor
  · rintro ⟨h1, h2⟩; exact ⟨by omega, by omega, h2⟩
  · rintro ⟨h1, h2, h3⟩; exact ⟨by omega, h3⟩
theorem sns_lt (t : Tre n p) {v s : Nat} (h : s ∈ sns n p v) : v < s ∧ s < n ∧ 0 < s := by
  obtain ⟨h1, h2, h3⟩ := mem_sns.mp h
  have := t.p s h2 h1
  omega
theorem sns_asc (v : Nat) : (sns n p v).Pairwise (· < ·) := asc_filter (asc_range' _ _)
theorem sns_len (v : Nat) : (sns n p v).length ≤ n := by
  have := List.length_filter_le (fun s => decide (p s = v)) (List.range' 1 (n - 1))
  rw [List.length_range'] at this
  unfold sns
  omega
/-- each node but 0 is a son once -/
theorem sum_sns (t : Tre n p) : ((List.range n).map fun v => ((sns n p v).length : Int)).sum = (n : Int) - 1 := by
  have h1 := sum_cnt (n := n) (fun _ => 1) (L := (List.range' 1 (n - 1)).map p) (fun v hv => by
    obtain ⟨s, hs, rfl⟩ := List.mem_map.mp hv
    have hs := List.mem_range'_1.mp hs
    have := t.p s (by omega) (by omega)
    omega)
  have h2 : ∀ v, ((List.range' 1 (n - 1)).map p).count v = (sns n p v).length := fun v => by
    unfold sns
    rw [← List.countP_eq_length_filter, List.count, List.countP_map]
    congr 1
  have h3 : ∀ L : List Nat, (L.map fun _ => (1 : Int)).sum = L.length := fun L => by
    induction L with
    | nil => rfl
    | cons x L ih => rw [List.map_cons, List.sum_cons, ih, List.length_cons]; omega
  rw [h3, List.length_map, List.length_range'] at h1
  have h4 : sm n (fun u => ((((List.range' 1 (n - 1)).map p).count u : Nat) : Int) * 1) = ((List.range n).map fun v => ((sns n p v).length : Int)).sum := by
    unfold sm
    congr 1
    refine List.map_congr_left fun v _ => ?_
    rw [h2, Int.mul_one]
  rw [← h4, ← h1]
  have := t.n0
  omega
end
/-! ### values gathered from the leaves up -/
def gat (n : Nat) (p : Nat → Nat) (op : Int → Int → Int) (ini : Nat → Int) : Nat → Nat → Int
  | 0 => ini
  | i + 1 => fun v => if p (n - 1 - i) = v then op (gat n p op ini i v) (gat n p op ini i (n - 1 - i)) else gat n p op ini i v
def gaf (n : Nat) (p : Nat → Nat) (op : Int → Int → Int) (ini : Nat → Int) (v : Nat) : Int := gat n p op ini (n - 1) v
section
variable {n : Nat} {p : Nat → Nat} {op : Int → Int → Int} {ini : Nat → Int}
theorem gat_keep (t : Tre n p) : ∀ {j i v : Nat}, j ≤ i → i ≤ n - 1 → n - 1 - j ≤ v → gat n p op ini i v = gat n p op ini j v := fun {j i v} h hi hv => by
  induction i with
  | zero =>
    have : j = 0 := by omega
    subst this; rfl
  | succ i ih =>
    by_cases e : j = i + 1
    · subst e; rfl
    · show (if p (n - 1 - i) = v then _ else gat n p op ini i v) = _
      have := t.p (n - 1 - i) (by have := t.n0; omega) (by omega)
      rw [if_neg (by omega)]
      exact ih (by omega) (by omega)
theorem gaf_at (t : Tre n p) {i : Nat} (hi : i < n - 1) : gat n p op ini i (n - 1 - i) = gaf n p op ini (n - 1 - i) := (gat_keep t (by omega) (Nat.le_refl _) (Nat.le_refl _)).symm
theorem gat_s (t : Tre n p) {i v : Nat} (hi : i < n - 1) : gat n p op ini (i + 1) v = if p (n - 1 - i) = v then op (gat n p op ini i v) (gaf n p op ini (n - 1 - i)) else gat n p op ini i v := by
  rw [← gaf_at t hi]; rfl
/-- by all sons -/
theorem gat_fold (t : Tre n p) (v : Nat) : ∀ i, i ≤ n - 1 → gat n p op ini i v = (((List.range i).map fun j => n - 1 - j).filter fun s => decide (p s = v)).foldl (fun a s => op a (gaf n p op ini s)) (ini v)
  | 0, _ => rfl
  | i + 1, h => by
    rw [gat_s t (by omega), List.range_succ, List.map_append, List.filter_append, List.foldl_append, ← gat_fold t v i (by omega)]
    by_cases q : p (n - 1 - i) = v
    · rw [if_pos q]; simp [q]
    · rw [if_neg q]; simp [q]
theorem gaf_fold (t : Tre n p) (v : Nat) : ∃ L : List Nat, (∀ s, s ∈ L ↔ s ∈ sns n p v) ∧ gaf n p op ini v = L.foldl (fun a s => op a (gaf n p op ini s)) (ini v) := by
  refine ⟨_, fun s => ?_, gat_fold t v (n - 1) (Nat.le_refl _)⟩
  rw [List.mem_filter, List.mem_map, mem_sns, decide_eq_true_eq]
  constructor
  · rintro ⟨⟨j, hj, rfl⟩, h⟩
    have := List.mem_range.mp hj
    exact ⟨by omega, by omega, h⟩
  · rintro ⟨h1, h2, h3⟩
    exact ⟨⟨n - 1 - s, List.mem_range.mpr (by omega), by omega⟩, h3⟩
theorem fold_op_max {α : Type} (h : α → Int) : ∀ (L : List α) (a : Int), (L.foldl (fun a s => max a (h s)) a) ≥ a ∧ (∀ s ∈ L, h s ≤ L.foldl (fun a s => max a (h s)) a) ∧ (L.foldl (fun a s => max a (h s)) a = a ∨ ∃ s ∈ L, L.foldl (fun a s => max a (h s)) a = h s)
  | [], a => ⟨Int.le_refl _, nofun, .inl rfl⟩
  | x :: L, a => by
    obtain ⟨h1, h2, h3⟩ := fold_op_max h L (max a (h x))
    rw [List.foldl_cons]
    refine ⟨by omega, fun s hs => ?_, ?_⟩
    · rcases List.mem_cons.mp hs with rfl | hs
      · omega
      · exact h2 s hs
    · rcases h3 with h3 | ⟨s, hs, h3⟩
      · rw [h3]
        by_cases q : a ≤ h x
        · exact .inr ⟨x, by simp, by omega⟩
        · exact .inl (by omega)
      · exact .inr ⟨s, List.mem_cons_of_mem _ hs, h3⟩
theorem fold_op_min {α : Type} (h : α → Int) : ∀ (L : List α) (a : Int), (L.foldl (fun a s => min a (h s)) a) ≤ a ∧ (∀ s ∈ L, L.foldl (fun a s => min a (h s)) a ≤ h s) ∧ (L.foldl (fun a s => min a (h s)) a = a ∨ ∃ s ∈ L, L.foldl (fun a s => min a (h s)) a = h s)
  | [], a => ⟨Int.le_refl _, nofun, .inl rfl⟩
  | x :: L, a => by
    obtain ⟨h1, h2, h3⟩ := fold_op_min h L (min a (h x))
    rw [List.foldl_cons]
    refine ⟨by omega, fun s hs => ?_, ?_⟩
    · rcases List.mem_cons.mp hs with rfl | hs
      · omega
      · exact h2 s hs
    · rcases h3 with h3 | ⟨s, hs, h3⟩
      · rw [h3]
        by_cases q : h x ≤ a
        · exact .inr ⟨x, by simp, by omega⟩
        · exact .inl (by omega)
      · exact .inr ⟨s, List.mem_cons_of_mem _ hs, h3⟩
end
/-! ### ways up -/
def wy (p : Nat → Nat) : Nat → Nat → List Nat
  | 0, _ => []
  | f + 1, v => if v = 0 then [] else v :: wy p f (p v)
section
variable {n : Nat} {p : Nat → Nat}
theorem wy_st (t : Tre n p) : ∀ {f g v : Nat}, v < n → v ≤ f → v ≤ g → wy p f v = wy p g v
  | 0, 0, v, _, _, _ => rfl
  | 0, g + 1, v, _, h, _ => by
    have : v = 0 := by omega
    subst this; rfl
  | f + 1, 0, v, _, _, h => by
    have : v = 0 := by omega
    subst this; rfl
  | f + 1, g + 1, v, hv, hf, hg => by
    show (if v = 0 then [] else v :: wy p f (p v)) = (if v = 0 then [] else v :: wy p g (p v))
    by_cases q : v = 0
    · rw [if_pos q, if_pos q]
    · have := t.p v hv (by omega)
      rw [if_neg q, if_neg q, wy_st t (f := f) (g := g) (v := p v) (by omega) (by omega) (by omega)]
def way (n : Nat) (p : Nat → Nat) (v : Nat) : List Nat := wy p n v
theorem way_0 (t : Tre n p) : way n p 0 = [] := by
  have := wy_st t (f := n) (g := 0) (v := 0) t.n0 (Nat.zero_le _) (Nat.le_refl _)
  exact this
theorem way_s (t : Tre n p) {v : Nat} (hv : v < n) (h0 : 0 < v) : way n p v = v :: way n p (p v) := by
  have hp := t.p v hv h0
  have h1 : wy p n v = wy p (n + 1) v := wy_st t hv (by omega) (by omega)
  unfold way
  rw [h1]
  show (if v = 0 then [] else v :: wy p n (p v)) = _
  rw [if_neg (by omega)]
theorem way_len (t : Tre n p) : ∀ v, v < n → (way n p v).length ≤ v := fun v => by
  induction v using Nat.strongRecOn with
  | ind v ih =>
    intro hv
    by_cases q : v = 0
    · subst q; rw [way_0 t]; simp
    · have hp := t.p v hv (by omega)
      have := ih (p v) hp (by omega)
      rw [way_s t hv (by omega), List.length_cons]
      omega
theorem way_mem (t : Tre n p) : ∀ v, v < n → ∀ u ∈ way n p v, 0 < u ∧ u ≤ v := fun v => by
  induction v using Nat.strongRecOn with
  | ind v ih =>
    intro hv u hu
    by_cases q : v = 0
    · subst q; rw [way_0 t] at hu; cases hu
    · have hp := t.p v hv (by omega)
      rw [way_s t hv (by omega)] at hu
      rcases List.mem_cons.mp hu with rfl | hu
      · omega
      · have := ih (p v) hp (by omega) u hu
        omega
end
/-! ### where a loop stands -/
theorem pre_map {α : Type} {k : Nat} {f : Nat → α} {pre suf : List α} {x : α} (h : (List.range k).map f = pre ++ x :: suf) : pre.length < k ∧ x = f pre.length := by
  have hk : pre.length < k := by
    have := congrArg List.length h
    rw [List.length_map, List.length_range, List.length_append, List.length_cons] at this
    omega
  have h1 : ((List.range k).map f)[pre.length]? = some x := by rw [h]; simp
  rw [List.getElem?_map, List.getElem?_range hk] at h1
  exact ⟨hk, (Option.some.inj h1).symm⟩
theorem pre_rg {k : Nat} {pre suf : List Nat} {x : Nat} (h : List.range k = pre ++ x :: suf) : pre.length < k ∧ x = pre.length := by
  have := pre_map (f := fun i => i) (by rw [List.map_id']; exact h)
  exact this
theorem pre_rg' {a k : Nat} {pre suf : List Nat} {x : Nat} (h : List.range' a k = pre ++ x :: suf) : pre.length < k ∧ x = a + pre.length := by
  rw [List.range'_eq_map_range] at h
  exact pre_map h
/-! ### the laws that add a cell to none -/
def gDrawsB : MS := sThen (sSet 2 (m2 fAdd (mV drawHeadA) (mV (m2 fMulA (mV (mN fLst (mCons (mPure (.int 0)) (mPure [])))) (mS fInt1 (mCons (m2 fEq (mS fLen (mCons (mI 0) (mPure []))) (mPure (.int 0))) (mPure []))))))) drawTail
theorem draws_B {ns : List Int} {m : Nat} (hn : ns.length ≤ 63) (hm : m ≤ 100000) : ∃ ds : List Int, runP 9 2 gDrawsB [.list (ns.map .int), .int (m : Int)] = some (.obj (.ol (ds.map .int))) ∧ ds.length = m ∧ ∀ d ∈ ds, 0 ≤ d := by
  have e : startA 9 [PyData.list (ns.map .int), .int (m : Int)] = [.dur (.list (ns.map .int)), .dur (.int (m : Int)), .un, .un, .un, .un, .un, .un, .un] := rfl
  by_cases h : ns = []
  · subst h
    obtain ⟨ds, as', q, h1, h2⟩ := drawTail_ok (S := .list ([].map .int)) (cells := [0]) hm (by decide)
    refine ⟨ds, runP_rt (as' := as') rfl ?_, h1, h2⟩
    rw [e]
    unfold gDrawsB
    have eh := drawHeadA_ok (ns := []) (m := .int (m : Int)) (Nat.zero_le _)
    have em : fMulA (.list [.int 0]) (.int 1) = some (.obj (.ol [.int 0])) := rep1L (n := 1) (by decide)
    have ea : fAdd (.list []) (.list [.int 0]) = some (.obj (.ol [.int 0])) := fAdd_list (by decide)
    simp only [List.map_nil, List.map_cons] at q eh
    simp [eh, em, ea, q]
  · have h0 : 0 < ns.length := List.length_pos_iff.mpr h
    obtain ⟨ds, as', q, h1, h2⟩ := drawTail_ok (S := .list (ns.map .int)) (cells := ns) hm h0
    refine ⟨ds, runP_rt (as' := as') rfl ?_, h1, h2⟩
    rw [e]
    unfold gDrawsB
    have em : fMulA (.list [.int 0]) (.int 0) = some (.obj (.ol [])) := rep1L (n := 0) (by decide)
    have ea : fAdd (.list (ns.map .int)) (.list []) = some (.obj (.ol (ns.map .int))) := by
      rw [fAdd_list (by simp; omega), List.append_nil]
    simp [drawHeadA_ok (ns := ns) (m := .int (m : Int)) hn, q, h, em, ea]
end Vl

-- U15
set_option Elab.async false
set_option linter.all false
set_option maxRecDepth 100000
set_option maxHeartbeats 4000000
/-! square tables; great factors -/
namespace Vl
open PySem L2
theorem log2_le {a k : Nat} (h : a < 2 ^ k) : a.log2 ≤ k := by
  by_cases q : a = 0
  · subst q; simp
  · have := (Nat.log2_lt q).mpr h
    omega
theorem mulOk_big {i j : Int} (h : i.natAbs < 2 ^ 4000) (h2 : j.natAbs < 2 ^ 4000) : mulOk i j = true := by
  have h1 := log2_le h
  have h3 := log2_le h2
  unfold mulOk
  have : decide (i.natAbs.log2 + j.natAbs.log2 < 1000000) = true := by
    rw [decide_eq_true_eq]; omega
  rw [this]
  simp
/-! ### tables -/
def mtx (n m : Nat) (f : Nat → Nat → Int) : List (List Int) := (List.range n).map fun i => fnL m (f i)
section
variable {n m : Nat} {f g : Nat → Nat → Int}
theorem mtx_len : (mtx n m f).length = n := by simp [mtx]
theorem nt_mtx {i : Nat} (hi : i < n) : nt (mtx n m f) i = fnL m (f i) := by
  unfold mtx
  rw [nt_map (by simpa using hi), nt_range hi]
theorem mtx_eq (h : ∀ i < n, ∀ j < m, f i j = g i j) : mtx n m f = mtx n m g := List.map_congr_left fun i hi => fnL_eq (h i (List.mem_range.mp hi))
theorem mtx_set {k l : Nat} {v : Int} (hk : k < n) (hl : l < m) (h : ∀ i < n, ∀ j < m, g i j = if k = i ∧ l = j then v else f i j) : (mtx n m f).set k ((nt (mtx n m f) k).set l v) = mtx n m g := by
  refine List.ext_getElem (by simp [mtx_len]) fun i a b => ?_
  have hi : i < n := by rwa [mtx_len] at b
  have h1 : nt ((mtx n m f).set k ((nt (mtx n m f) k).set l v)) i = nt (mtx n m g) i := by
    rw [nt_set (by rw [mtx_len]; exact hi), nt_mtx hk, nt_mtx hi, nt_mtx hi]
    by_cases q : k = i
    · subst q
      rw [if_pos rfl]
      exact fnL_set fun j hj => by rw [h k hi j hj]; simp
    · rw [if_neg q]
      exact fnL_eq fun j hj => by rw [h i hi j hj, if_neg (fun z => q z.1)]
  rwa [nt_eq a, nt_eq b] at h1
/-- x[k][l] = v on a table -/
theorem mtx_put {i k l : Nat} {v : Int} {as1 as2 : AS} (hk : k < n) (hl : l < m) (h : ∀ i < n, ∀ j < m, g i j = if k = i ∧ l = j then v else f i j) : kGr2 i (.int v) as1 (mp (mp .int) (mtx n m f)) (ixN (mtx n m f).length (k : Int)) (some (.int (l : Int), as2)) = some (put1 i (.rw (mp (mp .int) (mtx n m g))) as1) := by
  rw [rowPut (e := PyData.int) (x := v) (by rw [mtx_len]; exact hk) (by rw [nt_mtx hk, fnL_len]; exact hl), mtx_set hk hl h]
/-- x[k] on rows that stand -/
theorem mtx_at {k : Nat} (hk : k < n) : atI (mp (mp PyData.int) (mtx n m f)) (k : Int) = some (mp .int (fnL m (f k))) := by
  rw [rowAt (by rw [mtx_len]; exact hk), nt_mtx hk]
theorem mtx_ixL {k : Nat} (hk : k < n) : fIx (.list (mp (ls .int) (mtx n m f))) (.int (k : Int)) = some (.val (.list (mp .int (fnL m (f k))))) := by
  rw [fIxL (e := ls PyData.int) (by rw [mtx_len]; exact hk), nt_mtx hk]; rfl
def mE (n m : Nat) (f : Nat → Nat → Int) : PD := .tuple (mp (tp .int) (mtx n m f))
theorem mE_ix {k : Nat} (hk : k < n) : fIx (mE n m f) (.int (k : Int)) = some (.val (fE m (f k))) := by
  unfold mE
  rw [fIxT (e := tp PyData.int) (by rw [mtx_len]; exact hk), nt_mtx hk]; rfl
end
/-! ### tables of any things -/
def gtx {α : Type} (n m : Nat) (f : Nat → Nat → α) : List (List α) := (List.range n).map fun i => (List.range m).map (f i)
section
variable {α : Type} [Inhabited α] {e : α → PD} {n m : Nat} {f g : Nat → Nat → α}
theorem gtx_len : (gtx n m f).length = n := by simp [gtx]
theorem nt_gtx {i : Nat} (hi : i < n) : nt (gtx n m f) i = (List.range m).map (f i) := by
  unfold gtx
  rw [nt_map (by simpa using hi), nt_range hi]
theorem nt_gtx2 {i j : Nat} (hi : i < n) (hj : j < m) : nt (nt (gtx n m f) i) j = f i j := by
  rw [nt_gtx hi, nt_map (by simpa using hj), nt_range hj]
theorem gtx_eq (h : ∀ i < n, ∀ j < m, f i j = g i j) : gtx n m f = gtx n m g := List.map_congr_left fun i hi => List.map_congr_left fun j hj => h i (List.mem_range.mp hi) j (List.mem_range.mp hj)
theorem gtx_set {k l : Nat} {v : α} (hk : k < n) (hl : l < m) (h : ∀ i < n, ∀ j < m, g i j = if k = i ∧ l = j then v else f i j) : (gtx n m f).set k ((nt (gtx n m f) k).set l v) = gtx n m g := by
  refine List.ext_getElem (by simp [gtx_len]) fun i a b => ?_
  have hi : i < n := by rwa [gtx_len] at b
  have h1 : nt ((gtx n m f).set k ((nt (gtx n m f) k).set l v)) i = nt (gtx n m g) i := by
    rw [nt_set (by rw [gtx_len]; exact hi), nt_gtx hk, nt_gtx hi, nt_gtx hi]
    by_cases q : k = i
    · subst q
      rw [if_pos rfl]
      refine List.ext_getElem (by simp) fun j c d => ?_
      have hj : j < m := by simpa using d
      rw [List.getElem_set, List.getElem_map, List.getElem_map, List.getElem_range, h k hi j hj]
      by_cases z : l = j <;> simp [z]
    · rw [if_neg q]
      exact List.map_congr_left fun j hj => by rw [h i hi j (List.mem_range.mp hj), if_neg (fun z => q z.1)]
  rwa [nt_eq a, nt_eq b] at h1
theorem gtx_put {i k l : Nat} {v : α} {as1 as2 : AS} (hk : k < n) (hl : l < m) (h : ∀ i < n, ∀ j < m, g i j = if k = i ∧ l = j then v else f i j) : kGr2 i (e v) as1 (mp (mp e) (gtx n m f)) (ixN (gtx n m f).length (k : Int)) (some (.int (l : Int), as2)) = some (put1 i (.rw (mp (mp e) (gtx n m g))) as1) := by
  rw [rowPut (e := e) (x := v) (by rw [gtx_len]; exact hk) (by rw [nt_gtx hk]; simpa using hl), gtx_set hk hl h]
theorem gtx_at {k : Nat} (hk : k < n) : atI (mp (mp e) (gtx n m f)) (k : Int) = some (mp e ((List.range m).map (f k))) := by
  rw [rowAt (by rw [gtx_len]; exact hk), nt_gtx hk]
theorem gtx_ixL {k : Nat} (hk : k < n) : fIx (.list (mp (ls e) (gtx n m f))) (.int (k : Int)) = some (.val (.list (mp e ((List.range m).map (f k))))) := by
  rw [fIxL (e := ls e) (by rw [gtx_len]; exact hk), nt_gtx hk]; rfl
theorem rg_ixL {j : Nat} {f : Nat → α} (hj : j < m) : fIx (.list (mp e ((List.range m).map f))) (.int (j : Int)) = some (.val (e (f j))) := by
  rw [fIxL (e := e) (by simpa using hj), nt_map (by simpa using hj), nt_range hj]
theorem rg_ixT {j : Nat} {f : Nat → α} (hj : j < m) : fIx (.tuple (mp e ((List.range m).map f))) (.int (j : Int)) = some (.val (e (f j))) := by
  rw [fIxT (e := e) (by simpa using hj), nt_map (by simpa using hj), nt_range hj]
end
theorem keysLenN {α : Type} {n : Nat} {K : List (Nat × α)} (nd : (K.map (·.1)).Nodup) (h : ∀ v ∈ K.map (·.1), v < n) : K.length ≤ n := by
  have := sub_len (m := List.range n) nd fun v hv => List.mem_range.mpr (h v hv)
  rwa [List.length_map, List.length_range] at this
end Vl

-- U16
set_option Elab.async false
set_option linter.all false
set_option maxRecDepth 100000
set_option maxHeartbeats 4000000
/-! distances on a tree of parents -/
namespace Vl
open PySem L2
def dsf (p : Nat → Nat) (c : Nat → Int) : Nat → Nat → Nat → Int
  | 0, _, _ => 0
  | f + 1, u, v => if u = v then 0 else if v < u then dsf p c f (p u) v + c u else dsf p c f u (p v) + c v
def dst (n : Nat) (p : Nat → Nat) (c : Nat → Int) (u v : Nat) : Int := dsf p c (2 * n) u v
section
variable {n : Nat} {p : Nat → Nat} {c : Nat → Int}
theorem dsf_st (t : Tre n p) : ∀ {f g u v : Nat}, u < n → v < n → u + v ≤ f → u + v ≤ g → dsf p c f u v = dsf p c g u v := fun {f} => by
  induction f with
  | zero =>
    intro g u v hu hv h h'
    have h1 : u = 0 := by omega
    have h2 : v = 0 := by omega
    subst h1; subst h2
    cases g with
    | zero => rfl
    | succ g => rfl
  | succ f ih =>
    intro g u v hu hv h h'
    cases g with
    | zero =>
      have h1 : u = 0 := by omega
      have h2 : v = 0 := by omega
      subst h1; subst h2; rfl
    | succ g =>
      show (if u = v then 0 else if v < u then dsf p c f (p u) v + c u else dsf p c f u (p v) + c v) = (if u = v then 0 else if v < u then dsf p c g (p u) v + c u else dsf p c g u (p v) + c v)
      by_cases q : u = v
      · rw [if_pos q, if_pos q]
      · rw [if_neg q, if_neg q]
        by_cases q2 : v < u
        · have := t.p u hu (by omega)
          rw [if_pos q2, if_pos q2, ih (g := g) (u := p u) (v := v) (by omega) hv (by omega) (by omega)]
        · have := t.p v hv (by omega)
          rw [if_neg q2, if_neg q2, ih (g := g) (u := u) (v := p v) hu (by omega) (by omega) (by omega)]
theorem dst_self (t : Tre n p) {u : Nat} (hu : u < n) : dst n p c u u = 0 := by
  have h : dst n p c u u = dsf p c (2 * n + 1) u u := dsf_st t hu hu (by omega) (by omega)
  rw [h]
  show (if u = u then 0 else _) = 0
  rw [if_pos rfl]
theorem dst_gt (t : Tre n p) {u v : Nat} (hu : u < n) (h : v < u) : dst n p c u v = dst n p c (p u) v + c u := by
  have e : dst n p c u v = dsf p c (2 * n + 1) u v := dsf_st t hu (by omega) (by omega) (by omega)
  rw [e]
  show (if u = v then 0 else if v < u then dsf p c (2 * n) (p u) v + c u else _) = _
  rw [if_neg (by omega), if_pos h]; rfl
theorem dst_lt (t : Tre n p) {u v : Nat} (hv : v < n) (h : u < v) : dst n p c u v = dst n p c u (p v) + c v := by
  have e : dst n p c u v = dsf p c (2 * n + 1) u v := dsf_st t (by omega) hv (by omega) (by omega)
  rw [e]
  show (if u = v then 0 else if v < u then dsf p c (2 * n) (p u) v + c u else dsf p c (2 * n) u (p v) + c v) = _
  rw [if_neg (by omega), if_neg (by omega)]; rfl
theorem dst_sym (t : Tre n p) : ∀ m u v, u < n → v < n → u + v = m → dst n p c u v = dst n p c v u := fun m => by
  induction m using Nat.strongRecOn with
  | ind m ih =>
    intro u v hu hv e
    by_cases q : u = v
    · subst q; rfl
    · by_cases q2 : v < u
      · have := t.p u hu (by omega)
        rw [dst_gt t hu q2, dst_lt t hu q2, ih (p u + v) (by omega) (p u) v (by omega) hv rfl]
      · have := t.p v hv (by omega)
        rw [dst_lt t hv (by omega), dst_gt t hv (by omega), ih (u + p v) (by omega) u (p v) hu (by omega) rfl]
theorem dst_nn (t : Tre n p) (hc : ∀ v < n, 0 ≤ c v) : ∀ m u v, u < n → v < n → u + v = m → 0 ≤ dst n p c u v := fun m => by
  induction m using Nat.strongRecOn with
  | ind m ih =>
    intro u v hu hv e
    by_cases q : u = v
    · subst q; rw [dst_self t hu]; exact Int.le_refl _
    · by_cases q2 : v < u
      · have h1 := t.p u hu (by omega)
        have h2 := ih (p u + v) (by omega) (p u) v (by omega) hv rfl
        have h3 := hc u hu
        rw [dst_gt t hu q2]; omega
      · have h1 := t.p v hv (by omega)
        have h2 := ih (u + p v) (by omega) u (p v) hu (by omega) rfl
        have h3 := hc v hv
        rw [dst_lt t hv (by omega)]; omega
end
/-! ### cables that cost 1 -/
def c1 (v : Nat) : Int := if v = 0 then 0 else 1
section
variable {n : Nat} {p : Nat → Nat}
def ds (n : Nat) (p : Nat → Nat) (u v : Nat) : Int := dst n p c1 u v
theorem ds_self (t : Tre n p) {u : Nat} (hu : u < n) : ds n p u u = 0 := dst_self t hu
theorem ds_gt (t : Tre n p) {u v : Nat} (hu : u < n) (h : v < u) : ds n p u v = ds n p (p u) v + 1 := by
  have := dst_gt (c := c1) t hu h
  unfold c1 at this
  rw [if_neg (by omega)] at this
  exact this
theorem ds_lt (t : Tre n p) {u v : Nat} (hv : v < n) (h : u < v) : ds n p u v = ds n p u (p v) + 1 := by
  have := dst_lt (c := c1) t hv h
  unfold c1 at this
  rw [if_neg (by omega)] at this
  exact this
theorem ds_sym (t : Tre n p) {u v : Nat} (hu : u < n) (hv : v < n) : ds n p u v = ds n p v u := dst_sym t _ u v hu hv rfl
theorem ds_nn (t : Tre n p) {u v : Nat} (hu : u < n) (hv : v < n) : 0 ≤ ds n p u v := dst_nn t (fun v _ => by unfold c1; split <;> omega) _ u v hu hv rfl
theorem ds_pos (t : Tre n p) {u v : Nat} (hu : u < n) (hv : v < n) (h : u ≠ v) : 1 ≤ ds n p u v := by
  by_cases q : v < u
  · have h1 := t.p u hu (by omega)
    have := ds_nn t (u := p u) (v := v) (by omega) hv
    rw [ds_gt t hu q]; omega
  · have h1 := t.p v hv (by omega)
    have := ds_nn t (u := u) (v := p v) hu (by omega)
    rw [ds_lt t hv (by omega)]; omega
/-- a cable's ends are one apart, seen from anywhere -/
theorem ds_step (t : Tre n p) {x : Nat} (hx : x < n) (h0 : 0 < x) : ∀ s, s < n → ds n p s x = ds n p s (p x) + 1 ∨ ds n p s (p x) = ds n p s x + 1 := fun s => by
  induction s using Nat.strongRecOn with
  | ind s ih =>
    intro hs
    have hp := t.p x hx h0
    by_cases q : s < x
    · exact .inl (ds_lt t hx q)
    · by_cases q2 : s = x
      · subst q2
        rw [ds_self t hx, ds_gt t hx hp, ds_self t (show p s < n by omega)]
        exact .inr rfl
      · have hps := t.p s hs (by omega)
        have := ih (p s) hps (by omega)
        rw [ds_gt t hs (show x < s by omega), ds_gt t hs (show p x < s by omega)]
        omega
/-- neighbours -/
def adj (p : Nat → Nat) (x y : Nat) : Prop := (0 < x ∧ p x = y) ∨ (0 < y ∧ p y = x)
theorem adj_ds (t : Tre n p) {x y s : Nat} (hx : x < n) (hy : y < n) (hs : s < n) (h : adj p x y) : ds n p s x = ds n p s y + 1 ∨ ds n p s y = ds n p s x + 1 := by
  rcases h with ⟨h0, rfl⟩ | ⟨h0, rfl⟩
  · exact ds_step t hx h0 s hs
  · exact (ds_step t hy h0 s hs).symm
/-- each node but s has a neighbour that is nearer -/
theorem ds_back (t : Tre n p) {x : Nat} (hx : x < n) : ∀ s, s < n → s ≠ x → ∃ y < n, adj p x y ∧ ds n p s x = ds n p s y + 1 := fun s => by
  induction s using Nat.strongRecOn with
  | ind s ih =>
    intro hs hne
    by_cases q : s < x
    · have := t.p x hx (by omega)
      exact ⟨p x, by omega, .inl ⟨by omega, rfl⟩, ds_lt t hx q⟩
    · have q2 : x < s := by omega
      have hps := t.p s hs (by omega)
      by_cases q3 : p s = x
      · refine ⟨s, hs, .inr ⟨by omega, q3⟩, ?_⟩
        rw [ds_gt t hs q2, q3, ds_self t hs, ds_self t hx]
      · obtain ⟨y, hy, ha, e⟩ := ih (p s) hps (by omega) q3
        refine ⟨y, hy, ha, ?_⟩
        have hys : y ≠ s := fun z => by
          subst z
          rcases ha with ⟨a, b⟩ | ⟨a, b⟩
          · have := t.p x hx a; omega
          · exact q3 b
        by_cases q4 : y < s
        · rw [ds_gt t hs q2, ds_gt t hs q4, e]
        · have h5 : s < y := by omega
          rcases ha with ⟨a, b⟩ | ⟨a, b⟩
          · have := t.p x hx a; omega
          · have h6 := ds_lt t (u := p s) hy (by omega)
            rw [b] at h6
            omega
/-- all distances less than one that there is are there -/
theorem ds_all (t : Tre n p) {s : Nat} (hs : s < n) : ∀ (k x : Nat), x < n → ds n p s x = (k : Int) → ∀ j ≤ k, ∃ y < n, ds n p s y = (j : Int) := fun k => by
  induction k with
  | zero => intro x hx e j hj; exact ⟨x, hx, by have : j = 0 := by omega
                                                subst this; exact e⟩
  | succ k ih =>
    intro x hx e j hj
    by_cases q : j = k + 1
    · subst q; exact ⟨x, hx, e⟩
    · have hne : s ≠ x := fun z => by subst z; rw [ds_self t hs] at e; omega
      obtain ⟨y, hy, _, h⟩ := ds_back t hx s hs hne
      exact ih y hy (by omega) j (by omega)
theorem ds_bound (t : Tre n p) {s x : Nat} (hs : s < n) (hx : x < n) : ds n p s x < (n : Int) := by
  obtain ⟨k, hk⟩ := Int.eq_ofNat_of_zero_le (ds_nn t hs hx)
  have h := ds_all t hs k x hx hk
  have := sub_len (l := List.range (k + 1)) (m := (List.range n).map fun y => (ds n p s y).toNat) (asc_nodup (asc_range _)) fun j hj => by
    have hj := List.mem_range.mp hj
    obtain ⟨y, hy, e⟩ := h j (by omega)
    exact List.mem_map.mpr ⟨y, List.mem_range.mpr hy, by rw [e]; simp⟩
  rw [List.length_range, List.length_map, List.length_range] at this
  omega
end
end Vl

-- U17
set_option Elab.async false
set_option linter.all false
set_option maxRecDepth 100000
set_option maxHeartbeats 4000000
/-! slices with a step; adding in binary without carrying -/
namespace Vl
open PySem L2
section
variable {as : AS} {d : PD} {lo hi : Option Int}
def kSt3 (d : PD) (lo : Option Int) (q : Option (Option Int × AS)) : Option (Res × AS) := match q with
  | none => none
  | some (hi, as) => pairR (fStT d lo hi) as
def kSt2 (d : PD) (q : Option (Option Int × AS)) (h : M (Option Int)) : Option (Res × AS) := match q with
  | none => none
  | some (lo, as) => kSt3 d lo (h as)
def kSt1 (q : Option (PD × AS)) (l h : M (Option Int)) : Option (Res × AS) := match q with
  | none => none
  | some (d, as) => kSt2 d (l as) h
@[simp] theorem kSt1_some {l h : M (Option Int)} : kSt1 (some (d, as)) l h = kSt2 d (l as) h := (rfl)
@[simp] theorem kSt2_some {h : M (Option Int)} : kSt2 d (some (lo, as)) h = kSt3 d lo (h as) := (rfl)
@[simp] theorem kSt3_some : kSt3 d lo (some (hi, as)) = pairR (fStT d lo hi) as := (rfl)
@[simp] theorem mSt_ap {m : M PD} {l h : M (Option Int)} : mSt m l h as = kSt1 (m as) l h := by
  show mBind m _ as = _
  unfold mBind
  cases m as with
  | none => rfl
  | some q =>
    show mBind l _ q.2 = kSt2 q.1 (l q.2) h
    unfold mBind
    cases l q.2 with
    | none => rfl
    | some r =>
      show mBind h _ r.2 = kSt3 q.1 r.1 (h r.2)
      unfold mBind
      cases h r.2 with
      | none => rfl
      | some z =>
        show mOpt _ _ = _
        unfold mOpt
        cases e : fStT q.1 r.1 z.1 with
        | none => show _ = pairR (fStT q.1 r.1 z.1) z.2; rw [e]; rfl
        | some w => show _ = pairR (fStT q.1 r.1 z.1) z.2; rw [e]; rfl
end
/-- xs[j::b], b whole rounds of words: j, j + b, .. -/
theorem fStT_rows {α : Type} [Inhabited α] {e : α → PD} {l : List α} {b k j : Nat} (hb : 0 < b) (hj : j < b) (hl : l.length = k * b) : fStT (.tuple (mp e l)) (some (j : Int)) (some (b : Int)) = some (.val (.tuple (mp e ((List.range k).map fun m => nt l (m * b + j))))) := by
  have h1 : fStT (.tuple (mp e l)) (some (j : Int)) (some (b : Int)) = some (.val (.tuple (stpD (mp e l) (j : Int) (b : Int)))) := if_pos ⟨by omega, by omega⟩
  rw [h1]
  by_cases hk : k = 0
  · subst hk
    have hl0 : l = [] := List.length_eq_zero_iff.mp (by omega)
    subst hl0
    have : stpD ([] : List PD) (j : Int) (b : Int) = [] := by
      unfold stpD
      simp
    show some (Res.val (.tuple (stpD (mp e []) _ _))) = _
    rw [mp_nil, this]; rfl
  have hle : b ≤ l.length := by
    rw [hl]
    exact Nat.le_mul_of_pos_left b (by omega)
  have hlen : (mp e l).length = k * b := by rw [mp_map, List.length_map, hl]
  rw [stpD_get hb (by rw [hlen, ← hl]; omega), hlen]
  have hcnt : (k * b - j + b - 1) / b = k := by
    have : k * b - j + b - 1 = (b - 1 - j) + k * b := by
      have : b ≤ k * b := Nat.le_mul_of_pos_left b (by omega)
      omega
    rw [this, Nat.add_mul_div_right _ _ hb, Nat.div_eq_of_lt (by omega), Nat.zero_add]
  rw [hcnt]
  congr 3
  rw [mp_of_map]
  have : ∀ m ∈ List.range k, (fun m => (mp e l)[j + m * b]?) m = some (e (nt l (m * b + j))) := fun m hm => by
    have hm := List.mem_range.mp hm
    have : m * b + j < l.length := by
      rw [hl]
      have : (m + 1) * b ≤ k * b := Nat.mul_le_mul_right b hm
      have e : (m + 1) * b = m * b + b := Nat.succ_mul m b
      omega
    show (mp e l)[j + m * b]? = _
    rw [mp_map, List.getElem?_map, show j + m * b = m * b + j by omega, List.getElem?_eq_getElem this, nt_eq this]; rfl
  rw [fm_congr this, mp_map]
  exact (congrFun List.filterMap_eq_map _)
/-! ### adding in binary without carrying -/
def xorL (l : List Nat) : Nat := l.foldl (· ^^^ ·) 0
theorem xor_mod (a b : Nat) : (a ^^^ b) % 2 = (a % 2 + b % 2) % 2 := by
  have h := Nat.testBit_xor a b 0
  rw [Nat.testBit_zero, Nat.testBit_zero, Nat.testBit_zero] at h
  have ha := Nat.mod_two_eq_zero_or_one a
  have hb := Nat.mod_two_eq_zero_or_one b
  have hc := Nat.mod_two_eq_zero_or_one (a ^^^ b)
  rcases ha with ha | ha <;> rcases hb with hb | hb <;> rcases hc with hc | hc <;> rw [ha, hb, hc] at h <;> simp at h <;> omega
theorem xor_div (a b : Nat) : (a ^^^ b) / 2 = a / 2 ^^^ b / 2 := by
  apply Nat.eq_of_testBit_eq
  intro i
  rw [Nat.testBit_xor, Nat.testBit_div_two, Nat.testBit_div_two, Nat.testBit_div_two, Nat.testBit_xor]
theorem xorF (l : List Nat) (a : Nat) : l.foldl (· ^^^ ·) a = a ^^^ xorL l := by
  induction l generalizing a with
  | nil => show a = a ^^^ 0; rw [Nat.xor_zero]
  | cons x l ih =>
    show l.foldl (· ^^^ ·) (a ^^^ x) = a ^^^ l.foldl (· ^^^ ·) (0 ^^^ x)
    rw [ih, ih, Nat.zero_xor, Nat.xor_assoc]
theorem xorL_nil : xorL [] = 0 := rfl
theorem xorL_cons (x : Nat) (l : List Nat) : xorL (x :: l) = x ^^^ xorL l := by
  show l.foldl (· ^^^ ·) (0 ^^^ x) = _
  rw [xorF, Nat.zero_xor]
theorem xorL_app (l m : List Nat) : xorL (l ++ m) = xorL l ^^^ xorL m := by
  unfold xorL
  rw [List.foldl_append, xorF m]; rfl
theorem xorL_one (x : Nat) : xorL [x] = x := by rw [xorL_cons, xorL_nil, Nat.xor_zero]
theorem xorL_snoc (l : List Nat) (x : Nat) : xorL (l ++ [x]) = xorL l ^^^ x := by rw [xorL_app, xorL_one]
theorem xorL_step : ∀ (l : List Nat), xorL l = (l.filter fun x => x % 2 == 1).length % 2 + 2 * xorL (l.map (· / 2))
  | [] => rfl
  | x :: l => by
    rw [xorL_cons, List.map_cons, xorL_cons]
    have ih := xorL_step l
    have h1 := xor_mod x (xorL l)
    have h2 := xor_div x (xorL l)
    have h3 : xorL l / 2 = xorL (l.map (· / 2)) := by omega
    have h4 : xorL l % 2 = (l.filter fun x => x % 2 == 1).length % 2 := by omega
    rw [h3] at h2
    rw [h4] at h1
    rw [List.filter_cons]
    by_cases q : x % 2 = 1
    · rw [if_pos (by simpa using q), List.length_cons]
      rw [q] at h1
      omega
    · have q0 : x % 2 = 0 := by omega
      rw [if_neg (by simp [q0])]
      rw [q0] at h1
      omega
theorem and_mod (a b : Nat) : (a &&& b) % 2 = (a % 2) * (b % 2) := by
  have h := Nat.testBit_and a b 0
  rw [Nat.testBit_zero, Nat.testBit_zero, Nat.testBit_zero] at h
  have ha := Nat.mod_two_eq_zero_or_one a
  have hb := Nat.mod_two_eq_zero_or_one b
  have hc := Nat.mod_two_eq_zero_or_one (a &&& b)
  rcases ha with ha | ha <;> rcases hb with hb | hb <;> rcases hc with hc | hc <;> rw [ha, hb, hc] at h <;> simp at h <;> simp [ha, hb, hc]
theorem or_mod (a b : Nat) : (a ||| b) % 2 = a % 2 + b % 2 - (a % 2) * (b % 2) := by
  have h := Nat.testBit_or a b 0
  rw [Nat.testBit_zero, Nat.testBit_zero, Nat.testBit_zero] at h
  have ha := Nat.mod_two_eq_zero_or_one a
  have hb := Nat.mod_two_eq_zero_or_one b
  have hc := Nat.mod_two_eq_zero_or_one (a ||| b)
  rcases ha with ha | ha <;> rcases hb with hb | hb <;> rcases hc with hc | hc <;> rw [ha, hb, hc] at h <;> simp at h <;> simp [ha, hb, hc]
theorem and_div (a b : Nat) : (a &&& b) / 2 = a / 2 &&& b / 2 := by
  apply Nat.eq_of_testBit_eq
  intro i
  rw [Nat.testBit_and, Nat.testBit_div_two, Nat.testBit_div_two, Nat.testBit_div_two, Nat.testBit_and]
theorem or_div (a b : Nat) : (a ||| b) / 2 = a / 2 ||| b / 2 := by
  apply Nat.eq_of_testBit_eq
  intro i
  rw [Nat.testBit_or, Nat.testBit_div_two, Nat.testBit_div_two, Nat.testBit_div_two, Nat.testBit_or]
theorem or_xor : ∀ (n a b : Nat), a + b ≤ n → a ||| b = (a ^^^ b) + (a &&& b)
  | 0, a, b, h => by
    have ha : a = 0 := by omega
    have hb : b = 0 := by omega
    subst ha hb; rfl
  | n + 1, a, b, h => by
    by_cases q : a = 0 ∧ b = 0
    · obtain ⟨rfl, rfl⟩ := q; rfl
    have ih := or_xor n (a / 2) (b / 2) (by omega)
    have h1 := or_div a b
    have h2 := xor_div a b
    have h3 := and_div a b
    have m1 := or_mod a b
    have m2 := xor_mod a b
    have m3 := and_mod a b
    rw [← h1, ← h2, ← h3] at ih
    have ha := Nat.mod_two_eq_zero_or_one a
    have hb := Nat.mod_two_eq_zero_or_one b
    rcases ha with ha | ha <;> rcases hb with hb | hb <;> rw [ha, hb] at m1 m2 m3 <;> simp only [Nat.reduceAdd, Nat.reduceMul, Nat.reduceSub, Nat.reduceMod, Nat.zero_mod, Nat.add_zero, Nat.zero_add, Nat.mul_zero, Nat.zero_mul, Nat.mul_one, Nat.sub_zero] at m1 m2 m3 <;> omega
theorem bitX (a b : Nat) : Builtin.bitXor (a : Int) (b : Int) = ((a ^^^ b : Nat) : Int) := by
  have h0 : ∀ a : Nat, Builtin.bitNot (a : Int) = -(a : Int) - 1 := fun _ => rfl
  have e1 : Builtin.bitAnd (a : Int) (b : Int) = ((a &&& b : Nat) : Int) := by
    unfold Builtin.bitAnd
    rw [decide_eq_true (by omega : (0 : Int) ≤ (a : Int)), decide_eq_true (by omega : (0 : Int) ≤ (b : Int))]
    rfl
  have hn : ∀ x : Int, Builtin.bitNot (Builtin.bitNot x) = x := fun x => by
    show -(-x - 1) - 1 = x
    omega
  have e2 : Builtin.bitOr (a : Int) (b : Int) = ((a ||| b : Nat) : Int) := by
    unfold Builtin.bitOr Builtin.bitAnd
    rw [decide_eq_false (by rw [h0]; omega : ¬ (0 : Int) ≤ Builtin.bitNot (a : Int)), decide_eq_false (by rw [h0]; omega : ¬ (0 : Int) ≤ Builtin.bitNot (b : Int))]
    show Builtin.bitNot (Builtin.bitNot _) = _
    rw [hn, hn, hn]
    rfl
  unfold Builtin.bitXor
  rw [e1, e2, or_xor (a + b) a b (Nat.le_refl _)]
  omega
end Vl

-- U18
set_option Elab.async false
set_option linter.all false
set_option maxRecDepth 100000
set_option maxHeartbeats 4000000
namespace Vl
open PySem L2 PySem.W PyProof.Rows
/-! ### triples of two ints and a row -/
def t3 (x : Int × Int × List Nat) : PD := .tuple [.int x.1, .int x.2.1, .tuple (mp iN x.2.2)]
def ltT3 (x y : Int × Int × List Nat) : Bool := if x.1 = y.1 then (if x.2.1 = y.2.1 then decide (rowN x.2.2 < rowN y.2.2) else decide (x.2.1 < y.2.1)) else decide (x.1 < y.1)
theorem dataLt_t3 {x y z x' y' z' : PD} (h : alike x x' = true) (h' : alike y y' = true) (h'' : alike z z' = true) : dataLt (.tuple [x, y, z]) (.tuple [x', y', z']) = if PyData.eqv x x' = true then (if PyData.eqv y y' = true then (if PyData.eqv z z' = true then false else dataLt z z') else dataLt y y') else dataLt x x' := by
  rw [dataLt_tuple, dataLt_cons h, dataLt_cons h', dataLt_cons h'']
  have e : PyProof.Rows.lexLt itemOrd (keyToksAll []) (keyToksAll []) = false := lex_irrefl _
  rw [e]
theorem ord_t3 : OrdE t3 ltT3 where
  al p q := by
    have := ord_rowN.al p.2.2 q.2.2
    show alike (.tuple [.int p.1, .int p.2.1, .tuple (mp iN p.2.2)]) (.tuple [.int q.1, .int q.2.1, .tuple (mp iN q.2.2)]) = true
    have h3 : alike (.tuple (mp iN p.2.2)) (.tuple (mp iN q.2.2)) = true := this
    simp [alike, alikeAll] at h3 ⊢
    exact h3
  nn _ := rfl
  dp p := by
    have := ord_rowN.dp p.2.2
    have h2 : (PyData.tuple (mp iN p.2.2)).depth ≤ 1 := by
      have e : tp iN p.2.2 = .tuple (mp .int (rowN p.2.2)) := by rw [tp_row, mp_map]
      show (tp iN p.2.2).depth ≤ 1
      rw [e, depth_mp_int]
      decide
    show (PyData.tuple [.int p.1, .int p.2.1, .tuple (mp iN p.2.2)]).depth ≤ 50
    simp only [PyData.depth, PyData.depthAll] at h2 ⊢
    omega
  cm p q := by
    have h3 := ord_rowN.al p.2.2 q.2.2
    have c3 := ord_rowN.cm p.2.2 q.2.2
    have e3 : PyData.eqv (tp iN p.2.2) (tp iN q.2.2) = decide (p.2.2 = q.2.2) := ((inferInstance : EqC 1 (tp iN)).ok p.2.2).2 q.2.2
    show dataLt (.tuple [.int p.1, .int p.2.1, tp iN p.2.2]) (.tuple [.int q.1, .int q.2.1, tp iN q.2.2]) = _
    rw [dataLt_t3 rfl rfl h3, (eqe_int p.1).2 q.1, (eqe_int p.2.1).2 q.2.1, e3, c3, dataLt_int, dataLt_int]
    unfold ltT3
    by_cases a1 : p.1 = q.1
    · by_cases a2 : p.2.1 = q.2.1
      · by_cases a3 : p.2.2 = q.2.2
        · simp [a1, a2, a3]
        · simp [a1, a2, a3]
      · simp [a1, a2]
    · simp [a1]
  tot p q a b := by
    unfold ltT3 at a b
    by_cases a1 : p.1 = q.1
    · rw [if_pos a1] at a
      rw [if_pos a1.symm] at b
      by_cases a2 : p.2.1 = q.2.1
      · rw [if_pos a2] at a
        rw [if_pos a2.symm] at b
        exact Prod.ext a1 (Prod.ext a2 (ord_rowN.tot _ _ a b))
      · rw [if_neg a2] at a
        rw [if_neg (fun e => a2 e.symm)] at b
        simp at a b
        omega
    · rw [if_neg a1] at a
      rw [if_neg (fun e => a1 e.symm)] at b
      simp at a b
      omega
@[simp] theorem t3_ap {x : Int × Int × List Nat} : t3 x = .tuple [.int x.1, .int x.2.1, .tuple (mp iN x.2.2)] := (rfl)
theorem t3Tup : ∀ x, ∃ ds, t3 x = .tuple ds := fun x => ⟨_, rfl⟩
theorem OrdE.okTwo {α : Type} {e : α → PD} {lt : α → α → Bool} (h : OrdE e lt) (x y : α) : okBest [e x, e y] = true := by
  unfold okBest
  have h1 := h.dp x
  have h2 := h.dp y
  simp [h.al, h.nn, PyData.depthAll]
  omega
/-- min(x, y), max(x, y) of two tuples -/
theorem min2_E {α : Type} {e : α → PD} {lt : α → α → Bool} (h : OrdE e lt) (ht : ∀ x, ∃ ds, e x = .tuple ds) (x y : α) : fMin2D [e x, e y] = some (.val (e (if lt y x = true then y else x))) := by
  have h1 := h.okTwo x y
  have h2 := h.cm y x
  have h3 : e (if lt y x = true then y else x) = if lt y x = true then e y else e x := by split <;> rfl
  rw [h3]
  obtain ⟨a, ha⟩ := ht x
  obtain ⟨b, hb⟩ := ht y
  rw [ha, hb] at h1 h2 ⊢
  show (if okBest [.tuple a, .tuple b] = true then some (Res.val (if dataLt (.tuple b) (.tuple a) = true then .tuple b else .tuple a)) else none) = _
  rw [if_pos h1, h2]
theorem max2_E {α : Type} {e : α → PD} {lt : α → α → Bool} (h : OrdE e lt) (ht : ∀ x, ∃ ds, e x = .tuple ds) (x y : α) : fMax2D [e x, e y] = some (.val (e (if lt x y = true then y else x))) := by
  have h1 := h.okTwo x y
  have h2 := h.cm x y
  have h3 : e (if lt x y = true then y else x) = if lt x y = true then e y else e x := by split <;> rfl
  rw [h3]
  obtain ⟨a, ha⟩ := ht x
  obtain ⟨b, hb⟩ := ht y
  rw [ha, hb] at h1 h2 ⊢
  show (if okBest [.tuple a, .tuple b] = true then some (Res.val (if dataLt (.tuple a) (.tuple b) = true then .tuple b else .tuple a)) else none) = _
  rw [if_pos h1, h2]
theorem pick3 {α : Type} [Inhabited α] {e : α → PD} {a b c : α} {v : Nat} (h : v < 3) : fIx (.list [e a, e b, e c]) (.int (v : Int)) = some (.val (e (nt [a, b, c] v))) := fIxL (e := e) (l := [a, b, c]) h
theorem pick3i {a b c : Int} {v : Nat} (h : v < 3) : fIx (.list [.int a, .int b, .int c]) (.int (v : Int)) = some (.val (.int (nt [a, b, c] v))) := pick3 (e := PyData.int) h
theorem nt3 {α : Type} [Inhabited α] {P : α → Prop} {a b c : α} {v : Nat} (h : v < 3) (ha : P a) (hb : P b) (hc : P c) : P (nt [a, b, c] v) := by
  have : v = 0 ∨ v = 1 ∨ v = 2 := by omega
  rcases this with rfl | rfl | rfl <;> simp [*]
end Vl

-- Dk55
set_option Elab.async false
set_option linter.all false
set_option maxRecDepth 100000
set_option maxHeartbeats 4000000
namespace Vl
open PySem L2
def b_layers_taken : MS := (sThen (sSet 2 (mN fLst (mPure [])))
  (sThen (sFor (m1 fSeq (mD 1)) (gN 3) (sThen (sAsg (gT (gCons (gN 4) (gCons (gN 5) gNil))) (mV (mN fTup (mCons (mPure (.int 0)) (mCons (mD 3) (mPure []))))))
  (sThen (sWhile (mAnd (m2b fLtA (mI 4) (mS fLen (mCons (mI 0) (mPure [])))) (m2b fLeA (mV (m2 fIx (mI 0) (mI 4))) (mI 5))) (sThen (sAug 5 (fAugI iSub) (mV (m2 fIx (mI 0) (mI 4))))
  (sAug 4 fAugAdd (mPure (.int 1)))))
  (sDrop (mMth 2 fAppend (mCons (mD 4) (mPure [])))))))
  (sRet (mN fTuple (mCons (mI 2) (mPure []))))))
def D_layers_taken : List PD → Option Res := runP 6 2 b_layers_taken
def b_got_by : MS := (sRet (mN fTuple (mCons (mV (mLc [2] (m1 fSeq (mV (mN D_layers_taken (mCons (mD 0) (mCons (mD 1) (mPure [])))))) (gN 2) (mPure true) (mS fSumB (mCons (mV (mSl (mI 0) (mPure none) (mPart (mI 2)))) (mPure []))))) (mPure []))))
def D_got_by : List PD → Option Res := runP 3 2 b_got_by
def b_single_rate : MS := (sRet (mF (mIte (m2b fGtA (mS fLen (mCons (mI 0) (mPure []))) (mPure (.int 0))) (mV (mN fMinB (mCons (mI 0) (mPure [])))) (mPure (.int 0)))))
def D_single_rate : List PD → Option Res := runP 1 1 b_single_rate
def b_layers_up_to : MS := (sRet (mN fTuple (mCons (mV (mLc [1] (mR fR1 (mCons (mS fLen (mCons (mI 0) (mPure []))) (mPure []))) (gN 1) (mPure true) (m2 (fInt iSub) (mV (m2 fIx (mI 0) (mI 1))) (mIte (m2b fGtA (mI 1) (mPure (.int 0))) (mV (m2 fIx (mI 0) (m2 (fInt iSub) (mI 1) (mPure (.int 1))))) (mPure (.int 0)))))) (mPure []))))
def D_layers_up_to : List PD → Option Res := runP 2 1 b_layers_up_to
def b_best_layers : MS := (sThen (sSet 2 (mN fLst (mCons (mV (mN fTup (mPure []))) (mPure []))))
  (sThen (sFor (m1 fSeq (mV (m1 fSSetB (mI 0)))) (gN 3) (sAugL 2 (mV (mLc [5] (m1 fSeq (mI 2)) (gN 5) (m2b fLtA (mS fLen (mCons (mI 5) (mPure []))) (mI 1)) (mV (m2 fAdd (mI 5) (mV (mN fTup (mCons (mD 3) (mPure []))))))))))
  (sThen (sSet 4 (mLc [5] (m1 fSeq (mI 2)) (gN 5) (mPure true) (mV (mN D_layers_up_to (mCons (mD 5) (mPure []))))))
  (sRet (m2 fIx (mV (mN fMinB (mCons (mV (mLc [6] (m1 fSeq (mI 4)) (gN 6) (mPure true) (mV (mN fTup (mCons (m1 fNeg (mS fSumB (mCons (mV (mN D_got_by (mCons (mD 6) (mCons (mD 0) (mPure []))))) (mPure [])))) (mCons (mS fLen (mCons (mI 6) (mPure []))) (mCons (mD 6) (mPure [])))))))) (mPure [])))) (mPure (.int 2)))))))
def D_best_layers : List PD → Option Res := runP 7 2 b_best_layers
def b_without_slowest : MS := (sThen (sSet 2 (mF (mS fLen (mCons (mV (mLc [3] (m1 fSeq (mI 0)) (gN 3) (m2b fLtA (mI 3) (mI 1)) (mD 3))) (mPure [])))))
  (sRet (mF (mIte (m2b fLtA (mI 2) (mS fLen (mCons (mI 0) (mPure [])))) (mD 2) (mPure .none)))))
def D_without_slowest : List PD → Option Res := runP 4 2 b_without_slowest
def b_law_draws : MS := (sThen (sSet 2 (m2 fAdd (mV (mLc [8] (m1 fSeq (mI 0)) (gN 8) (mPure true) (mS fInt1 (mCons (mI 8) (mPure []))))) (mV (m2 fMulA (mV (mN fLst (mCons (mPure (.int 0)) (mPure [])))) (mS fInt1 (mCons (m2 fEq (mS fLen (mCons (mI 0) (mPure []))) (mPure (.int 0))) (mPure [])))))))
  (sThen (sSet 3 (mN fList (mCons (mI 2) (mPure []))))
  (sThen (sSet 4 (mN fLst (mPure [])))
  (sThen (sFor (mR fR1 (mCons (mI 1) (mPure []))) (gN 5) (sThen (sSet 6 (mF (m2 (fInt iMod) (mI 5) (mS fLen (mCons (mI 2) (mPure []))))))
  (sIf (mAnd (m2b fGeA (mV (m2 fIx (mI 2) (mI 6))) (m2 (fInt iPow) (mPure (.int 10)) (mPure (.int 18)))) (m2b fGtA (mV (m2 fIx (mI 3) (mI 6))) (mPure (.int 0)))) (sThen (sDrop (mMth 4 fAppend (mCons (m2 (fInt iMod) (mS fInt1 (mCons (mV (m2 fIx (mI 3) (mI 6))) (mPure []))) (mPure (.int 1000))) (mPure []))))
  (sAsg (gSet 3 (mI 6)) (m2 (fInt iDiv) (mV (m2 fIx (mI 3) (mI 6))) (mPure (.int 1000))))) (sThen (sSet 7 (mF (m2 (fInt iMod) (mS fInt1 (mCons (mV (m2 fAdd (mV (m2 fAdd (mV (m2 fMulA (mV (m2 fIx (mI 2) (mI 6))) (mPure (.int 48271)))) (mV (m2 fMulA (mI 5) (mPure (.int 69621)))))) (mPure (.int 11)))) (mPure []))) (mPure (.int 2147483647)))))
  (sDrop (mMth 4 fAppend (mCons (m2 (fInt iMod) (mS fInt1 (mCons (mV (m2 fAdd (mV (m2 fAdd (mV (m2 fMulA (mI 7) (mI 7))) (mV (m2 fMulA (mPure (.int 3)) (mI 7))))) (mI 5))) (mPure []))) (mPure (.int 1000003))) (mPure []))))))))
  (sThen (sDrop (mMth 4 fRev (mPure [])))
  (sRet (mMv 4)))))))
def D_law_draws : List PD → Option Res := runP 9 2 b_law_draws
def b_law_take : MS := (sThen (sIf (m2b fEq (mS fLen (mCons (mI 0) (mPure []))) (mPure (.int 0))) (sRet (mF (mPure (.int 0)))) sNx)
  (sRet (mF (m2 (fInt iMod) (mS fInt1 (mCons (mMth 0 fPop (mPure [])) (mPure []))) (mI 1)))))
def D_law_take : Obj → List PD → Option (PD × Obj) := runI 2 2 0 b_law_take
def b_law_same (R : List PD → Option Res) : MS := (sThen (sIf (m2b fIsA (mI 1) (mPure .none)) (sRet (mF (m2 fIsA (mI 0) (mPure .none)))) sNx)
  (sThen (sIf (m1 asB (mIsi "bool" (mI 1))) (sRet (mF (mAndV (mIsi "bool" (mI 0)) (m2 fEq (mI 0) (mI 1))))) sNx)
  (sThen (sIf (m1 asB (mIsi "int" (mI 1))) (sRet (mF (mAndV (mIsi "int" (mI 0)) (mAndV (mBind (m1 asB (mIsi "bool" (mI 0))) fun c => mPure (.bool !c)) (m2 fEq (mI 0) (mI 1)))))) sNx)
  (sThen (sIf (m1 asB (mIsi "str" (mI 1))) (sRet (mF (mAndV (mIsi "str" (mI 0)) (m2 fEq (mI 0) (mI 1))))) sNx)
  (sThen (sIf (mOr (mNot (m1 asB (mIsi "tuple" (mI 0)))) (m2b fNe (mS fLen (mCons (mI 0) (mPure []))) (mS fLen (mCons (mI 1) (mPure []))))) (sRet (mF (mPure (.bool false)))) sNx)
  (sThen (sFor (mR fR1 (mCons (mS fLen (mCons (mI 1) (mPure []))) (mPure []))) (gN 2) (sIf (mNot (m1 asB (mV (mN R (mCons (mV (m2 fIx (mI 0) (mI 2))) (mCons (mV (m2 fIx (mI 1) (mI 2))) (mPure []))))))) (sRet (mF (mPure (.bool false)))) sNx))
  (sRet (mF (mPure (.bool true))))))))))
def Dn_law_same : Nat → List PD → Option Res
  | 0 => fun _ => none
  | k + 1 => runP 3 2 (b_law_same (Dn_law_same k))
def D_law_same : List PD → Option Res := Dn_law_same 12
def b_law_taken : MS := (sThen (sSet 2 (mF (mPure (.int 0))))
  (sThen (sSet 3 (mF (mPure (.int 0))))
  (sThen (sFor (mR fR1 (mCons (mS fLen (mCons (mI 0) (mPure []))) (mPure []))) (gN 4) (sIf (mAnd (m2b fEq (mI 2) (mI 4)) (m2b fLeA (mV (m2 fAdd (mI 3) (mV (m2 fIx (mI 0) (mI 4))))) (mI 1))) (sThen (sSet 2 (m2 fAdd (mI 4) (mPure (.int 1))))
  (sSet 3 (m2 fAdd (mI 3) (mV (m2 fIx (mI 0) (mI 4)))))) sNx))
  (sRet (mN fTup (mCons (mD 2) (mCons (mD 3) (mPure []))))))))
def D_law_taken : List PD → Option Res := runP 5 2 b_law_taken
def b_law_total : MS := (sRet (mF (mS fSumB (mCons (mV (mLc [2] (m1 fSeq (mI 1)) (gN 2) (mPure true) (mV (m2 fIx (mV (mN D_law_taken (mCons (mD 0) (mCons (mD 2) (mPure []))))) (mPure (.int 1)))))) (mPure [])))))
def D_law_total : List PD → Option Res := runP 3 2 b_law_total
def b_law_best : MS := (sThen (sSet 2 (mN fLst (mCons (mV (mN fTup (mPure []))) (mPure []))))
  (sThen (sFor (m1 fSeq (mV (m1 fSSetB (mI 0)))) (gN 3) (sSet 2 (m2 fAdd (mI 2) (mV (mLc [5] (m1 fSeq (mI 2)) (gN 5) (m2b fLtA (mS fLen (mCons (mI 5) (mPure []))) (mI 1)) (mV (m2 fAdd (mI 5) (mV (mN fTup (mCons (mD 3) (mPure [])))))))))))
  (sThen (sSet 4 (mN fLst (mPure [])))
  (sThen (sFor (m1 fSeq (mZ 2)) (gN 5) (sThen (sSet 6 (mN fTuple (mCons (mV (mLc [7] (mR fR1 (mCons (mS fLen (mCons (mI 5) (mPure []))) (mPure []))) (gN 7) (mPure true) (m2 (fInt iSub) (mV (m2 fIx (mI 5) (mI 7))) (mV (m2 fIx (mV (m2 fAdd (mV (mN fTup (mCons (mPure (.int 0)) (mPure [])))) (mI 5))) (mI 7)))))) (mPure []))))
  (sDrop (mMth 4 fAppend (mCons (mV (mN fTup (mCons (m2 (fInt iSub) (mPure (.int 0)) (mV (mN D_law_total (mCons (mD 6) (mCons (mD 0) (mPure [])))))) (mCons (mS fLen (mCons (mI 6) (mPure []))) (mCons (mD 6) (mPure [])))))) (mPure []))))))
  (sRet (mN fMinB (mCons (mI 4) (mPure []))))))))
def D_law_best : List PD → Option Res := runP 8 2 b_law_best
def b_law_any_best : MS := (sThen (sSet 2 (mN fMaxB (mCons (mV (m2 fAdd (mV (mN fTup (mCons (mPure (.int 0)) (mPure [])))) (mI 0))) (mPure []))))
  (sThen (sSet 3 (mN fTup (mCons (mPure (.int 0)) (mCons (mPure (.int 0)) (mCons (mV (mN fTup (mPure []))) (mPure []))))))
  (sThen (sSet 4 (mN fLst (mCons (mV (mN fTup (mPure []))) (mPure []))))
  (sThen (sFor (mR fR1 (mCons (mI 1) (mPure []))) (gN 5) (sThen (sSet 6 (mN fLst (mPure [])))
  (sThen (sFor (m1 fSeq (mZ 4)) (gN 7) (sSet 6 (m2 fAdd (mI 6) (mV (mLc [8] (mR fR2 (mCons (mPure (.int 1)) (mCons (mV (m2 fAdd (m2 (fInt iSub) (mI 2) (mS fSumB (mCons (mI 7) (mPure [])))) (mPure (.int 1)))) (mPure [])))) (gN 8) (mPure true) (mV (m2 fAdd (mI 7) (mV (mN fTup (mCons (mD 8) (mPure [])))))))))))
  (sThen (sFor (m1 fSeq (mZ 6)) (gN 7) (sSet 3 (mN fMin2D (mCons (mI 3) (mCons (mV (mN fTup (mCons (m2 (fInt iSub) (mPure (.int 0)) (mV (mN D_law_total (mCons (mD 7) (mCons (mD 0) (mPure [])))))) (mCons (mS fLen (mCons (mI 7) (mPure []))) (mCons (mD 7) (mPure [])))))) (mPure []))))))
  (sSet 4 (mF (mZ 6)))))))
  (sRet (mF (mD 3)))))))
def D_law_any_best : List PD → Option Res := runP 9 2 b_law_any_best
def b_law_cell : MS := (sThen (sIf (m2b fEq (mS fLen (mCons (mI 0) (mPure []))) (mPure (.int 0))) (sRet (mF (mPure (.int 0)))) sNx)
  (sThen (sSet 2 (mF (mS fInt1 (mCons (mV (m2 fIx (mI 0) (m2 (fInt iMod) (mS fInt1 (mCons (mI 1) (mPure []))) (mS fLen (mCons (mI 0) (mPure [])))))) (mPure [])))))
  (sRet (m2 fMulA (m2 (fInt iMod) (mS fAbs (mCons (mI 2) (mPure []))) (m2 (fInt iPow) (mPure (.int 10)) (mPure (.int 60)))) (mV (m2 fIx (mV (mN fLst (mCons (mPure (.int 1)) (mCons (m1 fNeg (mPure (.int 1))) (mPure []))))) (mS fInt1 (mCons (m2 fLtA (mI 2) (mPure (.int 0))) (mPure [])))))))))
def D_law_cell : List PD → Option Res := runP 3 2 b_law_cell
def b_law_takes : MS := (sThen (sSet 2 (m2 fIx (mV (mN fLst (mCons (mPure (.int 3)) (mCons (mPure (.int 9)) (mCons (mPure (.int 40)) (mPure [])))))) (mCallI 0 D_law_take (mCons (mPure (.int 3)) (mPure [])))))
  (sThen (sSet 3 (mN fLst (mPure [])))
  (sThen (sFor (mR fR1 (mCons (mCallI 0 D_law_take (mCons (mV (m2 fIx (mV (mN fLst (mCons (mPure (.int 9)) (mCons (mPure (.int 13)) (mPure []))))) (mS fInt1 (mCons (m2 fEq (mCallI 0 D_law_take (mCons (mPure (.int 8)) (mPure []))) (mPure (.int 0))) (mPure []))))) (mPure []))) (mPure []))) (gN 4) (sThen (sSet 5 (m2 fAdd (mPure (.int 1)) (mCallI 0 D_law_take (mCons (mD 2) (mPure [])))))
  (sThen (sIf (m2b fEq (mCallI 0 D_law_take (mCons (mPure (.int 10)) (mPure []))) (mPure (.int 0))) (sSet 5 (m2 fAdd (mI 5) (mS fAbs (mCons (mV (mN D_law_cell (mCons (mD 1) (mCons (mD 4) (mPure []))))) (mPure []))))) sNx)
  (sDrop (mMth 3 fAppend (mCons (mD 5) (mPure [])))))))
  (sRet (mF (mV (mN fTuple (mCons (mI 3) (mPure [])))))))))
def D_law_takes : Obj → List PD → Option (PD × Obj) := runI 6 2 0 b_law_takes
def b_lost_by_slowest : MS := (sRet (mF (mS fSumB (mCons (mV (mLc [1] (m1 fSeq (mI 0)) (gN 1) (mPure true) (m2 (fInt iSub) (mI 1) (mV (mN D_single_rate (mCons (mD 0) (mPure []))))))) (mPure [])))))
def D_lost_by_slowest : List PD → Option Res := runP 2 1 b_lost_by_slowest
def b_law_layers : MS := (sThen (sIf (mAnd (m2b fGtA (mS fLen (mCons (mI 2) (mPure []))) (mPure (.int 0))) (m2b fEq (mCallI 0 D_law_take (mCons (mPure (.int 2)) (mPure []))) (mPure (.int 0)))) (sThen (sSet 3 (m2 fAdd (mV (mN fTup (mCons (mPure (.int 0)) (mPure [])))) (mV (mN fTuple (mCons (mV (m1 fSSetB (mV (mLc [4] (m1 fSeq (mD 2)) (gN 4) (m2b fEq (mCallI 0 D_law_take (mCons (mPure (.int 2)) (mPure []))) (mPure (.int 0))) (mD 4))))) (mPure []))))))
  (sRet (mF (mV (mSl (mV (mN fTuple (mCons (mV (mLc [5] (mR fR1 (mCons (m2 (fInt iSub) (mS fLen (mCons (mI 3) (mPure []))) (mPure (.int 1))) (mPure []))) (gN 5) (mPure true) (m2 (fInt iSub) (mV (m2 fIx (mI 3) (mV (m2 fAdd (mI 5) (mPure (.int 1)))))) (mV (m2 fIx (mI 3) (mI 5)))))) (mPure [])))) (mPure none) (mPart (mPure (.int 5)))))))) sNx)
  (sRet (mF (mV (mN fTuple (mCons (mV (mLc [6] (mR fR1 (mCons (mCallI 0 D_law_take (mCons (mPure (.int 6)) (mPure []))) (mPure []))) (gN 6) (mPure true) (mV (m2 fAdd (mV (m2 fAdd (mPure (.int 1)) (mCallI 0 D_law_take (mCons (mPure (.int 9)) (mPure []))))) (mV (m2 fMulA (mS fAbs (mCons (mV (mN D_law_cell (mCons (mD 1) (mCons (mD 6) (mPure []))))) (mPure []))) (mS fInt1 (mCons (m2 fEq (mCallI 0 D_law_take (mCons (mPure (.int 12)) (mPure []))) (mPure (.int 0))) (mPure []))))))))) (mPure [])))))))
def D_law_layers : Obj → List PD → Option (PD × Obj) := runI 7 3 0 b_law_layers
def b_law_is_told : MS := (sThen (sFor (mR fR1 (mCons (mPure (.int 3)) (mPure []))) (gN 3) (sThen (sSet 4 (mF (mCallI 0 D_law_layers (mCons (mD 1) (mCons (mD 2) (mPure []))))))
  (sThen (sSet 5 (mLc [14] (m1 fSeq (mI 2)) (gN 14) (mPure true) (mV (mN D_law_taken (mCons (mD 4) (mCons (mD 14) (mPure [])))))))
  (sThen (sIf (mNot (m1 asB (mV (mN D_law_same (mCons (mV (mN D_layers_taken (mCons (mD 4) (mCons (mD 2) (mPure []))))) (mCons (mV (mN fTuple (mCons (mV (mLc [15] (m1 fSeq (mI 5)) (gN 15) (mPure true) (mV (m2 fIx (mI 15) (mPure (.int 0)))))) (mPure [])))) (mPure []))))))) (sRet (mF (mPure (.bool false)))) sNx)
  (sIf (mNot (m1 asB (mV (mN D_law_same (mCons (mV (mN D_got_by (mCons (mD 4) (mCons (mD 2) (mPure []))))) (mCons (mV (mN fTuple (mCons (mV (mLc [15] (m1 fSeq (mI 5)) (gN 15) (mPure true) (mV (m2 fIx (mI 15) (mPure (.int 1)))))) (mPure [])))) (mPure []))))))) (sRet (mF (mPure (.bool false)))) sNx)))))
  (sThen (sSet 6 (mN fMinB (mCons (mV (m2 fAdd (mI 2) (mV (mN fTup (mCons (mV (mN fMaxB (mCons (mV (m2 fAdd (mV (mN fTup (mCons (mPure (.int 0)) (mPure [])))) (mI 2))) (mPure [])))) (mPure [])))))) (mPure []))))
  (sThen (sIf (mOr (mNot (m1 asB (mV (mN D_law_same (mCons (mV (mN D_single_rate (mCons (mD 2) (mPure [])))) (mCons (mD 6) (mPure []))))))) (mNot (m1 asB (mV (mN D_law_same (mCons (mV (mN D_lost_by_slowest (mCons (mD 2) (mPure [])))) (mCons (m2 (fInt iSub) (mS fSumB (mCons (mI 2) (mPure []))) (mV (m2 fMulA (mI 6) (mS fLen (mCons (mI 2) (mPure [])))))) (mPure [])))))))) (sRet (mF (mPure (.bool false)))) sNx)
  (sThen (sFor (mR fR1 (mCons (mV (m2 fMulA (mPure (.int 3)) (mS fInt1 (mCons (m2 fGtA (mS fLen (mCons (mI 2) (mPure []))) (mPure (.int 0))) (mPure []))))) (mPure []))) (gN 7) (sThen (sSet 8 (mF (m2 (fInt iSub) (mV (m2 fAdd (mV (m2 fIx (mD 2) (mCallI 0 D_law_take (mCons (mS fLen (mCons (mI 2) (mPure []))) (mPure []))))) (mCallI 0 D_law_take (mCons (mPure (.int 3)) (mPure []))))) (mPure (.int 1)))))
  (sThen (sSet 9 (mF (mS fLen (mCons (mV (mLc [14] (m1 fSeq (mI 2)) (gN 14) (m2b fLtA (mI 14) (mI 8)) (mD 14))) (mPure [])))))
  (sIf (mNot (m1 asB (mV (mN D_law_same (mCons (mV (mN D_without_slowest (mCons (mD 2) (mCons (mD 8) (mPure []))))) (mCons (mIte (m2b fEq (mI 9) (mS fLen (mCons (mI 2) (mPure [])))) (mPure .none) (mD 9)) (mPure []))))))) (sRet (mF (mPure (.bool false)))) sNx))))
  (sThen (sSet 10 (mF (mPure (.int 0))))
  (sThen (sSet 11 (mF (m1 fLSet (mI 2))))
  (sThen (sFor (m1 fSeq (mV (mN fLst (mCons (mPure (.int 0)) (mCons (mPure (.int 1)) (mCons (mPure (.int 2)) (mCons (mCallI 0 D_law_take (mCons (mPure (.int 6)) (mPure []))) (mCons (mD 11) (mCons (mV (m2 fAdd (mV (m2 fAdd (mI 11) (mPure (.int 1)))) (mCallI 0 D_law_take (mCons (mPure (.int 3)) (mPure []))))) (mPure [])))))))))) (gN 12) (sThen (sSet 13 (mN D_law_best (mCons (mD 2) (mCons (mD 12) (mPure [])))))
  (sThen (sIf (mNot (m1 asB (mV (mN D_law_same (mCons (mV (mN D_best_layers (mCons (mD 2) (mCons (mD 12) (mPure []))))) (mCons (mV (m2 fIx (mI 13) (mPure (.int 2)))) (mPure []))))))) (sRet (mF (mPure (.bool false)))) sNx)
  (sThen (sIf (mOr (mAnd (m2b fEq (mI 12) (mPure (.int 2))) (m2b fGtA (mV (m2 fIx (mI 13) (mPure (.int 0)))) (mI 10))) (mAnd (m2b fGeA (mI 12) (mI 11)) (m2b fNe (mV (m2 fIx (mI 13) (mPure (.int 0)))) (m2 (fInt iSub) (mPure (.int 0)) (mS fSumB (mCons (mI 2) (mPure []))))))) (sRet (mF (mPure (.bool false)))) sNx)
  (sSet 10 (m2 fIx (mI 13) (mPure (.int 0))))))))
  (sRet (mF (mPure (.bool true)))))))))))
def D_law_is_told : Obj → List PD → Option (PD × Obj) := runI 16 3 0 b_law_is_told
def b_law : MS := (sThen (sSet 1 (mN D_law_draws (mCons (mD 0) (mCons (mPure (.int 260)) (mPure [])))))
  (sThen (sIf (mNot (m1 asB (mCallI 1 D_law_is_told (mCons (mD 0) (mCons (mCallI 1 D_law_takes (mCons (mD 0) (mPure []))) (mPure [])))))) (sRet (mF (mPure (.bool false)))) sNx)
  (sThen (sSet 2 (mN fTuple (mCons (mV (mLc [4] (mR fR1 (mCons (mCallI 1 D_law_take (mCons (mPure (.int 5)) (mPure []))) (mPure []))) (gN 4) (mPure true) (mV (m2 fAdd (mPure (.int 1)) (mCallI 1 D_law_take (mCons (mPure (.int 6)) (mPure []))))))) (mPure []))))
  (sThen (sFor (m1 fSeq (mV (mN fLst (mCons (mPure (.int 0)) (mCons (mPure (.int 1)) (mCons (mPure (.int 2)) (mCons (mPure (.int 3)) (mPure [])))))))) (gN 3) (sIf (mOr (m2b fNe (mV (mN D_law_any_best (mCons (mD 2) (mCons (mD 3) (mPure []))))) (mV (mN D_law_best (mCons (mD 2) (mCons (mD 3) (mPure [])))))) (mNot (m1 asB (mV (mN D_law_same (mCons (mV (mN D_best_layers (mCons (mD 2) (mCons (mD 3) (mPure []))))) (mCons (mV (m2 fIx (mV (mN D_law_best (mCons (mD 2) (mCons (mD 3) (mPure []))))) (mPure (.int 2)))) (mPure [])))))))) (sRet (mF (mPure (.bool false)))) sNx))
  (sThen (sIf (mOr (mNot (m1 asB (mV (mN D_law_same (mCons (mV (mN D_best_layers (mCons (mV (mN fTup (mCons (mPure (.int 5)) (mPure [])))) (mCons (mPure (.int 3)) (mPure []))))) (mCons (mV (mN fTup (mCons (mPure (.int 5)) (mPure [])))) (mPure []))))))) (mNot (m1 asB (mV (mN D_law_same (mCons (mV (mN D_best_layers (mCons (mV (mN fTup (mCons (mPure (.int 1)) (mCons (mPure (.int 2)) (mCons (mPure (.int 4)) (mCons (mPure (.int 4)) (mPure []))))))) (mCons (mPure (.int 2)) (mPure []))))) (mCons (mV (mN fTup (mCons (mPure (.int 1)) (mCons (mPure (.int 3)) (mPure []))))) (mPure [])))))))) (sRet (mF (mPure (.bool false)))) sNx)
  (sThen (sIf (mOr (mNot (m1 asB (mV (mN D_law_same (mCons (mV (mN D_layers_taken (mCons (mV (mN fTup (mCons (mPure (.int 2)) (mCons (mPure (.int 3)) (mCons (mPure (.int 1)) (mPure [])))))) (mCons (mV (mN fTup (mCons (mPure (.int 1)) (mCons (mPure (.int 2)) (mCons (mPure (.int 4)) (mCons (mPure (.int 5)) (mCons (mPure (.int 6)) (mPure [])))))))) (mPure []))))) (mCons (mV (mN fTup (mCons (mPure (.int 0)) (mCons (mPure (.int 1)) (mCons (mPure (.int 1)) (mCons (mPure (.int 2)) (mCons (mPure (.int 3)) (mPure [])))))))) (mPure []))))))) (mNot (m1 asB (mV (mN D_law_same (mCons (mV (mN D_got_by (mCons (mV (mN fTup (mCons (mPure (.int 2)) (mCons (mPure (.int 3)) (mCons (mPure (.int 1)) (mPure [])))))) (mCons (mV (mN fTup (mCons (mPure (.int 1)) (mCons (mPure (.int 2)) (mCons (mPure (.int 4)) (mCons (mPure (.int 5)) (mCons (mPure (.int 6)) (mPure [])))))))) (mPure []))))) (mCons (mV (mN fTup (mCons (mPure (.int 0)) (mCons (mPure (.int 2)) (mCons (mPure (.int 2)) (mCons (mPure (.int 5)) (mCons (mPure (.int 6)) (mPure [])))))))) (mPure [])))))))) (sRet (mF (mPure (.bool false)))) sNx)
  (sRet (mF (mAndV (mV (mN D_law_same (mCons (mV (mN D_single_rate (mCons (mV (mN fTup (mPure []))) (mPure [])))) (mCons (mPure (.int 0)) (mPure []))))) (mAndV (mV (mN D_law_same (mCons (mV (mN D_best_layers (mCons (mV (mN fTup (mPure []))) (mCons (mPure (.int 4)) (mPure []))))) (mCons (mV (mN fTup (mPure []))) (mPure []))))) (m2 fIsA (mV (mN D_without_slowest (mCons (mV (mN fTup (mCons (mPure (.int 3)) (mCons (mPure (.int 3)) (mPure []))))) (mCons (mPure (.int 4)) (mPure []))))) (mPure .none))))))))))))
def D_law : List PD → Option Res := runP 5 1 b_law
end Vl

-- Lk55
set_option Elab.async false
set_option linter.all false
set_option maxRecDepth 100000
set_option maxHeartbeats 4000000
namespace Vl
open PySem L2
theorem tkD {ds : List Int} {n : Int} (h : 0 < n) : D_law_take (.ol (mp .int ds)) [.int n] = some (.int (tkV ds n), .ol (mp .int (tkR ds))) := take_fn h
theorem draws_ok {ns : List Int} (hn : ns.length ≤ 63) : ∃ ds : List Int, D_law_draws [.list (mp .int ns), .int 260] = some (.obj (.ol (mp .int ds))) := by
  obtain ⟨ds, h, _⟩ := draws_B (ns := ns) (m := 260) hn (by decide)
  exact ⟨ds, h⟩
theorem same_ok {d : PD} (h : gd 12 d = true) : D_law_same [d, d] = some (.val (.bool true)) := by
  show Dn_law_same 12 [d, d] = _
  rw [Dn_sameN (D := Dn_law_same) (b := b_law_same) rfl (fun _ => rfl) (fun _ => rfl)]
  exact sameN_ok 12 d h
theorem tkE (ds : List Int) {n : Int} (h : 0 < n) : ∃ (v : Nat) (ds' : List Int), D_law_take (.ol (mp .int ds)) [.int n] = some (.int (v : Int), .ol (mp .int ds')) ∧ (v : Int) < n := tk_ex ds h
theorem cellE {ns : List Int} (at' : Int) (hn : ns.length ≤ 63) : ∃ c : Int, D_law_cell [.list (mp .int ns), .int at'] = some (.val (.int c)) ∧ c.natAbs < 1000000000000000000000000000000000000000000000000000000000000 := by
  suffices hh : ∃ r, D_law_cell [.list (mp .int ns), .int at'] = some r ∧ ∃ c : Int, r = .val (.int c) ∧ c.natAbs < 1000000000000000000000000000000000000000000000000000000000000 by
    obtain ⟨r, h1, c, rfl, h2⟩ := hh
    exact ⟨c, h1, h2⟩
  refine runP_poE rfl ?_
  unfold b_law_cell
  by_cases h0 : ns = []
  · subst h0
    simp [startA]
  · have hl : 0 < ns.length := List.length_pos_iff.mpr h0
    have em : iMod at' (ns.length : Int) = some (.int (at' % (ns.length : Int))) := iMod_ap (by omega)
    have hm0 := Int.emod_nonneg at' (show (ns.length : Int) ≠ 0 by omega)
    have hm1 := Int.emod_lt_of_pos at' (show (0 : Int) < (ns.length : Int) by omega)
    have eI := fIxLi (e := PyData.int) (l := ns) hm0 hm1
    have h0' : ¬ ns.length = 0 := by omega
    have ep : iPow 10 60 = some (.int (10 ^ 60)) := rfl
    have e60 : ∀ i : Int, iMod i 1000000000000000000000000000000000000000000000000000000000000 = some (.int (i % 1000000000000000000000000000000000000000000000000000000000000)) := fun i => iMod_ap (by decide)
    have eM : ∀ (i : Int) (c : Prop) [Decidable c], fMulA (.int i) (.int (if c then -1 else 1)) = some (.val (.int (i * (if c then -1 else 1)))) := fun i c _ => fMul_int (mulOk_r (by split <;> decide))
    simp [startA, h0, h0', em, eI, ep, e60, pick2, eM]
    repeat' split
    all_goals omega
end Vl

-- M55a
set_option Elab.async false
set_option linter.all false
set_option maxRecDepth 100000
set_option maxHeartbeats 4000000
/-! layers and what hearers get: plain facts -/
namespace Vl
open PySem L2
/-- the sum of the first i layers -/
def pfx (L : List Nat) (i : Nat) : Nat := (L.take i).sum
theorem pfx_0 {L : List Nat} : pfx L 0 = 0 := by simp [pfx]
theorem pfx_s {L : List Nat} {i : Nat} (h : i < L.length) : pfx L (i + 1) = pfx L i + nt L i := by
  unfold pfx
  rw [List.take_succ_eq_append_getElem h, List.sum_append, nt_eq h]; simp
theorem pfx_mono {L : List Nat} {i : Nat} : ∀ {d : Nat}, pfx L i ≤ pfx L (i + d)
  | 0 => Nat.le_refl _
  | d + 1 => by
    refine Nat.le_trans (pfx_mono (d := d)) ?_
    by_cases h : i + d < L.length
    · rw [show i + (d + 1) = (i + d) + 1 by omega, pfx_s h]; omega
    · unfold pfx
      rw [List.take_of_length_le (by omega), List.take_of_length_le (by omega)]; exact Nat.le_refl _
theorem pfx_le {L : List Nat} {i j : Nat} (h : i ≤ j) : pfx L i ≤ pfx L j := by
  have := pfx_mono (L := L) (i := i) (d := j - i)
  rwa [show i + (j - i) = j by omega] at this
/-- the number of first layers that a hearer takes -/
structure IsTk (L : List Nat) (t m : Nat) : Prop where
  le : m ≤ L.length
  ok : pfx L m ≤ t
  no : m < L.length → t < pfx L (m + 1)
theorem IsTk.uniq {L : List Nat} {t m m' : Nat} (h : IsTk L t m) (h' : IsTk L t m') : m = m' := by
  rcases Nat.lt_trichotomy m m' with q | q | q
  · have h1 := h.no (by have := h'.le; omega)
    have h2 := pfx_le (L := L) (i := m + 1) (j := m') q
    have := h'.ok; omega
  · exact q
  · have h1 := h'.no (by have := h.le; omega)
    have h2 := pfx_le (L := L) (i := m' + 1) (j := m) q
    have := h.ok; omega
theorem tk_exists (L : List Nat) (t : Nat) : ∃ m, IsTk L t m := by
  suffices h : ∀ k, ∃ m, m ≤ L.length ∧ pfx L m ≤ t ∧ (m < L.length → t < pfx L (m + 1) ∨ k ≤ m) by
    obtain ⟨m, h1, h2, h3⟩ := h L.length
    exact ⟨m, h1, h2, fun q => (h3 q).resolve_right (by omega)⟩
  intro k
  induction k with
  | zero => exact ⟨0, Nat.zero_le _, by rw [pfx_0]; omega, fun _ => .inr (Nat.le_refl _)⟩
  | succ k ih =>
    obtain ⟨m, h1, h2, h3⟩ := ih
    by_cases q : m < L.length
    · rcases h3 q with h | h
      · exact ⟨m, h1, h2, fun _ => .inl h⟩
      · by_cases z : t < pfx L (m + 1)
        · exact ⟨m, h1, h2, fun _ => .inl z⟩
        · exact ⟨m + 1, by omega, by omega, fun _ => .inr (by omega)⟩
    · exact ⟨m, h1, h2, fun y => absurd y q⟩
noncomputable def tkn (L : List Nat) (t : Nat) : Nat := (tk_exists L t).choose
theorem tkn_ok (L : List Nat) (t : Nat) : IsTk L t (tkn L t) := (tk_exists L t).choose_spec
theorem tkn_le {L : List Nat} {t i : Nat} (h : i ≤ L.length) : i ≤ tkn L t ↔ pfx L i ≤ t := by
  have k := tkn_ok L t
  constructor
  · intro q; exact Nat.le_trans (pfx_le q) k.ok
  · intro q
    refine Decidable.byContradiction fun z => ?_
    have h1 := k.no (by omega)
    have h2 := pfx_le (L := L) (i := tkn L t + 1) (j := i) (by omega)
    omega
noncomputable def got (L : List Nat) (t : Nat) : Nat := pfx L (tkn L t)
theorem got_le {L : List Nat} {t : Nat} : got L t ≤ t := (tkn_ok L t).ok
theorem got_ge {L : List Nat} {t i : Nat} (h : i ≤ L.length) (h2 : pfx L i ≤ t) : pfx L i ≤ got L t := pfx_le ((tkn_le h).mpr h2)
noncomputable def tot (L T : List Nat) : Nat := (T.map (got L)).sum
theorem tot_mono {L L' : List Nat} : ∀ {T : List Nat}, (∀ t ∈ T, got L t ≤ got L' t) → tot L T ≤ tot L' T
  | [], _ => Nat.le_refl _
  | t :: T, h => by
    unfold tot
    rw [List.map_cons, List.map_cons, List.sum_cons, List.sum_cons]
    have h1 := h t (by simp)
    have h2 := tot_mono (L := L) (L' := L') (T := T) fun x hx => h x (by simp [hx])
    unfold tot at h2
    omega
theorem tot_eq {L L' : List Nat} : ∀ {T : List Nat}, (∀ t ∈ T, got L t ≤ got L' t) → tot L' T ≤ tot L T → ∀ t ∈ T, got L t = got L' t
  | [], _, _ => by simp
  | t :: T, h, e => by
    unfold tot at e
    rw [List.map_cons, List.map_cons, List.sum_cons, List.sum_cons] at e
    have h1 := h t (by simp)
    have h2 := tot_mono (L := L) (L' := L') (T := T) fun x hx => h x (by simp [hx])
    unfold tot at h2
    have h3 := tot_eq (L := L) (L' := L') (T := T) (fun x hx => h x (by simp [hx])) (by unfold tot; omega)
    intro x hx
    rcases List.mem_cons.mp hx with rfl | hx
    · omega
    · exact h3 x hx
theorem tot_le {L : List Nat} : ∀ {T : List Nat}, tot L T ≤ T.sum
  | [] => Nat.le_refl _
  | t :: T => by
    unfold tot
    rw [List.map_cons, List.sum_cons, List.sum_cons]
    have h1 := got_le (L := L) (t := t)
    have h2 := tot_le (L := L) (T := T)
    unfold tot at h2
    omega
/-- the layers whose sums are told -/
def lay (S : List Nat) : List Nat := (List.range S.length).map fun i => nt S i - if 0 < i then nt S (i - 1) else 0
theorem lay_len {S : List Nat} : (lay S).length = S.length := by simp [lay]
theorem nt_lay {S : List Nat} {i : Nat} (h : i < S.length) : nt (lay S) i = nt S i - if 0 < i then nt S (i - 1) else 0 := by
  unfold lay
  rw [nt_map (by simpa using h), nt_range h]
theorem asc_nt {S : List Nat} (h : S.Pairwise (· < ·)) {i j : Nat} (hij : i < j) (hj : j < S.length) : nt S i < nt S j := by
  rw [nt_eq (by omega), nt_eq hj]
  exact List.pairwise_iff_getElem.mp h i j (by omega) hj hij
theorem pfx_lay {S : List Nat} (h : S.Pairwise (· < ·)) : ∀ {i : Nat}, i < S.length → pfx (lay S) (i + 1) = nt S i
  | 0, hi => by
    rw [pfx_s (by rw [lay_len]; exact hi), pfx_0, nt_lay hi]; simp
  | i + 1, hi => by
    rw [pfx_s (by rw [lay_len]; exact hi), pfx_lay h (by omega), nt_lay hi]
    have := asc_nt h (show i < i + 1 by omega) hi
    rw [if_pos (by omega), show i + 1 - 1 = i by omega]
    omega
/-- what is got by the layers of sums: the greatest sum that is not too great -/
theorem got_lay {S : List Nat} (h : S.Pairwise (· < ·)) (t : Nat) : (got (lay S) t = 0 ∨ got (lay S) t ∈ S) ∧ ∀ s ∈ S, s ≤ t → s ≤ got (lay S) t := by
  constructor
  · unfold got
    have k := (tkn_ok (lay S) t).le
    rw [lay_len] at k
    cases e : tkn (lay S) t with
    | zero => left; exact pfx_0
    | succ m =>
      right
      rw [e] at k
      rw [pfx_lay h (by omega)]
      exact nt_mem (by omega)
  · intro s hs hst
    obtain ⟨i, hi, rfl⟩ := List.getElem_of_mem hs
    have := pfx_lay h hi
    rw [nt_eq hi] at this
    rw [← this]
    exact got_ge (by rw [lay_len]; omega) (by rw [this]; exact hst)
/-- sums of layers -/
def psl (L : List Nat) : List Nat := (List.range L.length).map fun i => pfx L (i + 1)
theorem psl_len {L : List Nat} : (psl L).length = L.length := by simp [psl]
theorem nt_psl {L : List Nat} {i : Nat} (h : i < L.length) : nt (psl L) i = pfx L (i + 1) := by
  unfold psl
  rw [nt_map (by simpa using h), nt_range h]
theorem psl_asc {L : List Nat} (h : ∀ x ∈ L, 0 < x) : (psl L).Pairwise (· < ·) := by
  rw [List.pairwise_iff_getElem]
  intro i j hi hj hij
  rw [psl_len] at hi hj
  rw [← nt_eq (l := psl L) (by rw [psl_len]; exact hi), ← nt_eq (l := psl L) (by rw [psl_len]; exact hj), nt_psl hi, nt_psl hj]
  have h1 := pfx_le (L := L) (i := i + 1) (j := j) hij
  rw [pfx_s hj]
  have := h _ (nt_mem hj)
  omega
theorem lay_psl {L : List Nat} : lay (psl L) = L := by
  refine List.ext_getElem (by rw [lay_len, psl_len]) fun i h1 h2 => ?_
  rw [← nt_eq h1, ← nt_eq h2, nt_lay (by rw [psl_len]; exact h2), nt_psl h2, pfx_s h2]
  by_cases q : 0 < i
  · rw [if_pos q, nt_psl (by omega), show i - 1 + 1 = i by omega]; omega
  · have : i = 0 := by omega
    subst this
    rw [if_neg q, pfx_0]; omega
theorem lay_pos {S : List Nat} (h : S.Pairwise (· < ·)) (h0 : ∀ s ∈ S, 0 < s) : ∀ x ∈ lay S, 0 < x := by
  intro x hx
  obtain ⟨i, hi, rfl⟩ := List.mem_map.mp hx
  have hi := List.mem_range.mp hi
  by_cases q : 0 < i
  · have := asc_nt h (show i - 1 < i by omega) hi
    rw [if_pos q]; omega
  · have := h0 _ (nt_mem hi)
    rw [if_neg q]; omega
theorem lay_sum {S : List Nat} (h : S.Pairwise (· < ·)) {top : Nat} (h1 : ∀ s ∈ S, s ≤ top) : (lay S).sum ≤ top := by
  have : (lay S).sum = pfx (lay S) (lay S).length := by unfold pfx; rw [List.take_length]
  rw [this, lay_len]
  cases e : S.length with
  | zero => rw [pfx_0]; omega
  | succ m =>
    rw [pfx_lay h (by omega)]
    exact h1 _ (nt_mem (by omega))
/-! ### layers at what hearers take are best -/
def sc (T L : List Nat) : Int × Int × List Nat := (-(0 : Int), 0, L)
noncomputable def scr (T L : List Nat) : Int × Int × List Nat := (-(tot L T : Int), (L.length : Int), L)
/-- the least take that is not less -/
theorem up_exists {T : List Nat} {s : Nat} (h : ∃ t ∈ T, s ≤ t) : ∃ u ∈ T, s ≤ u ∧ ∀ t ∈ T, s ≤ t → u ≤ t := by
  have hne : T.filter (fun t => decide (s ≤ t)) ≠ [] := fun e => by
    obtain ⟨t, ht, hs⟩ := h
    have : t ∈ T.filter (fun t => decide (s ≤ t)) := List.mem_filter.mpr ⟨ht, by simpa using hs⟩
    rw [e] at this; cases this
  obtain ⟨h1, h2, _⟩ := mnN_spec hne
  have h3 := List.mem_filter.mp h1
  exact ⟨_, h3.1, by simpa using h3.2, fun t ht hs => h2 t (List.mem_filter.mpr ⟨ht, by simpa using hs⟩)⟩
theorem exchange {T S : List Nat} (hT : ∀ t ∈ T, 0 < t) (hS : S.Pairwise (· < ·)) (h0 : ∀ s ∈ S, 0 < s) (hu : ∀ s ∈ S, ∃ t ∈ T, s ≤ t) :
    ∃ S' : List Nat, S'.Pairwise (· < ·) ∧ (∀ s ∈ S', s ∈ T) ∧ S'.length ≤ S.length ∧ (S' = S ∨ tot (lay S) T < tot (lay S') T ∨ (tot (lay S) T = tot (lay S') T ∧ S'.length < S.length)) := by
  by_cases hall : ∀ s ∈ S, s ∈ T
  · exact ⟨S, hS, hall, Nat.le_refl _, .inl rfl⟩
  have hf : ∃ f : Nat → Nat, ∀ s ∈ S, f s ∈ T ∧ s ≤ f s ∧ ∀ t ∈ T, s ≤ t → f s ≤ t := by
    refine ⟨fun s => if h : ∃ t ∈ T, s ≤ t then (up_exists h).choose else 0, fun s hs => ?_⟩
    have h := hu s hs
    simp only [dif_pos h]
    exact (up_exists h).choose_spec
  obtain ⟨f, hf⟩ := hf
  have hm : ∀ x, x ∈ nsort (S.map f) ↔ ∃ s ∈ S, f s = x := fun x => by rw [mem_nsort, List.mem_map]
  have hasc : (nsort (S.map f)).Pairwise (· < ·) := sorted_nsort _
  have hlen : (nsort (S.map f)).length ≤ S.length := by
    have := sub_len (nsort_nodup (S.map f)) (m := S.map f) fun x hx => by rwa [mem_nsort] at hx
    rwa [List.length_map] at this
  have hge : ∀ t ∈ T, got (lay S) t ≤ got (lay (nsort (S.map f))) t := fun t ht => by
    rcases (got_lay hS t).1 with e | e
    · omega
    · have h1 := hf _ e
      have h2 := h1.2.2 t ht got_le
      have h3 := (got_lay hasc t).2 (f (got (lay S) t)) ((hm _).mpr ⟨_, e, rfl⟩) h2
      omega
  have hmono := tot_mono hge
  refine ⟨nsort (S.map f), hasc, fun x hx => by obtain ⟨s, hs, rfl⟩ := (hm x).mp hx; exact (hf s hs).1, hlen, .inr ?_⟩
  by_cases q : tot (lay S) T < tot (lay (nsort (S.map f))) T
  · exact .inl q
  · refine .inr ⟨by omega, ?_⟩
    have heq := tot_eq hge (by omega)
    obtain ⟨s, hs, hsT⟩ : ∃ s ∈ S, s ∉ T := by
      refine Decidable.byContradiction fun z => hall fun s hs => Decidable.byContradiction fun y => z ⟨s, hs, y⟩
    have h1 := hf s hs
    have hne : s ≠ f s := fun e => hsT (by rw [e]; exact h1.1)
    have h2 := (got_lay hasc (f s)).2 (f s) ((hm _).mpr ⟨s, hs, rfl⟩) (Nat.le_refl _)
    have h3 := got_le (L := lay (nsort (S.map f))) (t := f s)
    have h4 := heq (f s) h1.1
    have h5 : f s ∈ S := by
      rcases (got_lay hS (f s)).1 with e | e
      · have := hT _ h1.1
        omega
      · have : got (lay S) (f s) = f s := by omega
        rwa [this] at e
    have h6 := hf _ h5
    have h7 : f (f s) = f s := Nat.le_antisymm (h6.2.2 _ h1.1 (Nat.le_refl _)) h6.2.1
    -- f is not one to one: one member of S may be left out
    have h8 := sub_len (nsort_nodup (S.map f)) (m := (S.erase s).map f) fun x hx => by
      obtain ⟨r, hr, rfl⟩ := (hm x).mp hx
      by_cases z : r = s
      · subst z
        rw [List.mem_map]
        exact ⟨f r, (List.mem_erase_of_ne (fun e => hne e.symm)).mpr h5, h7⟩
      · exact List.mem_map_of_mem ((List.mem_erase_of_ne z).mpr hr)
    rw [List.length_map, List.length_erase_of_mem hs] at h8
    have := List.length_pos_of_mem hs
    omega
end Vl

-- M55b
set_option Elab.async false
set_option linter.all false
set_option maxRecDepth 100000
set_option maxHeartbeats 4000000
namespace Vl
open PySem L2
/-- sums among some, at most m -/
def ssb (m : Nat) (D : List Nat) : List (List Nat) := D.foldl (fun F t => F ++ (F.filter fun s => decide (s.length < m)).map (· ++ [t])) [[]]
theorem ssb_s (m : Nat) (D : List Nat) (t : Nat) : ssb m (D ++ [t]) = ssb m D ++ ((ssb m D).filter fun s => decide (s.length < m)).map (· ++ [t]) := by
  unfold ssb; rw [List.foldl_append]; rfl
theorem ssb_len (m : Nat) (D : List Nat) : (ssb m D).length ≤ 2 ^ D.length := by
  refine list_rev_ind (P := fun D => (ssb m D).length ≤ 2 ^ D.length) (by simp [ssb]) (fun D t ih => ?_) D
  rw [ssb_s, List.length_append, List.length_map, List.length_append]
  have := List.length_filter_le (fun s : List Nat => decide (s.length < m)) (ssb m D)
  rw [List.length_singleton, Nat.pow_succ]
  omega
theorem ssb_nil (m : Nat) (D : List Nat) : [] ∈ ssb m D := by
  refine list_rev_ind (P := fun D => [] ∈ ssb m D) (by simp [ssb]) (fun D t ih => ?_) D
  rw [ssb_s]
  exact List.mem_append.mpr (.inl ih)
theorem mem_ssb {m : Nat} {D : List Nat} (hD : D.Pairwise (· < ·)) : ∀ S, S ∈ ssb m D ↔ S.Pairwise (· < ·) ∧ (∀ s ∈ S, s ∈ D) ∧ S.length ≤ m := by
  revert hD
  refine list_rev_ind (P := fun D => D.Pairwise (· < ·) → ∀ S, S ∈ ssb m D ↔ S.Pairwise (· < ·) ∧ (∀ s ∈ S, s ∈ D) ∧ S.length ≤ m) ?_ (fun D t ih hD => ?_) D
  · intro _ S
    show S ∈ [[]] ↔ _
    rw [List.mem_singleton]
    constructor
    · rintro rfl; simp
    · rintro ⟨_, h, _⟩
      exact List.eq_nil_iff_forall_not_mem.mpr fun s hs => by simpa using h s hs
  · rw [List.pairwise_append] at hD
    have ih := ih hD.1
    have hlt : ∀ d ∈ D, d < t := fun d hd => hD.2.2 d hd t (by simp)
    intro S
    rw [ssb_s, List.mem_append, List.mem_map]
    constructor
    · rintro (h | ⟨S0, h, rfl⟩)
      · obtain ⟨a, b, c⟩ := (ih S).mp h
        exact ⟨a, fun s hs => List.mem_append.mpr (.inl (b s hs)), c⟩
      · rw [List.mem_filter] at h
        obtain ⟨a, b, c⟩ := (ih S0).mp h.1
        have := of_decide_eq_true h.2
        refine ⟨?_, fun s hs => ?_, by simp; omega⟩
        · rw [List.pairwise_append]
          exact ⟨a, by simp, fun x hx y hy => by rw [List.mem_singleton] at hy; rw [hy]; exact hlt _ (b x hx)⟩
        · rcases List.mem_append.mp hs with hs | hs
          · exact List.mem_append.mpr (.inl (b s hs))
          · exact List.mem_append.mpr (.inr hs)
    · rintro ⟨a, b, c⟩
      rcases List.eq_nil_or_concat S with rfl | ⟨S0, x, rfl⟩
      · exact .inl ((ih []).mpr ⟨a, by simp, c⟩)
      · rw [List.concat_eq_append] at a b c ⊢
        rw [List.pairwise_append] at a
        have hx : ∀ s ∈ S0, s < x := fun s hs => a.2.2 s hs x (by simp)
        by_cases q : x = t
        · subst q
          refine .inr ⟨S0, ?_, rfl⟩
          rw [List.mem_filter]
          refine ⟨(ih S0).mpr ⟨a.1, fun s hs => ?_, by simp at c; omega⟩, by simp at c; simp; omega⟩
          rcases List.mem_append.mp (b s (List.mem_append.mpr (.inl hs))) with h | h
          · exact h
          · rw [List.mem_singleton] at h
            have := hx s hs
            omega
        · have hxD : x ∈ D := by
            rcases List.mem_append.mp (b x (by simp)) with h | h
            · exact h
            · rw [List.mem_singleton] at h; exact absurd h q
          refine .inl ((ih _).mpr ⟨List.pairwise_append.mpr a, fun s hs => ?_, c⟩)
          rcases List.mem_append.mp (b s hs) with h | h
          · exact h
          · rw [List.mem_singleton] at h
            have h1 := hlt x hxD
            rcases List.mem_append.mp hs with hs | hs
            · have := hx s hs; omega
            · rw [List.mem_singleton] at hs; omega
abbrev Sc := Int × Int × List Nat
def IsB (T : List Nat) (m : Nat) (b : Sc) : Prop := b ∈ (ssb m (nsort T)).map (fun S => scr T (lay S)) ∧ ∀ y ∈ (ssb m (nsort T)).map (fun S => scr T (lay S)), ltT3 y b = false
theorem isB_exists (T : List Nat) (m : Nat) : ∃ b, IsB T m b := by
  obtain ⟨b, _, h1, h2⟩ := ord_t3.minO_ne (l := (ssb m (nsort T)).map (fun S => scr T (lay S))) (fun e => by
    have := ssb_nil m (nsort T)
    rw [List.map_eq_nil_iff] at e
    rw [e] at this; cases this)
  exact ⟨b, h1, h2⟩
theorem IsB.uniq {T : List Nat} {m : Nat} {b b' : Sc} (h : IsB T m b) (h' : IsB T m b') : b = b' := ord_t3.tot _ _ (h'.2 _ h.1) (h.2 _ h'.1)
theorem lt3_fst {a b : Sc} (h : ltT3 a b = false) : b.1 ≤ a.1 := by
  unfold ltT3 at h
  split at h
  · omega
  · simpa using h
theorem IsB.mono {T : List Nat} {m m' : Nat} {b b' : Sc} (h : IsB T m b) (h' : IsB T m' b') (hm : m ≤ m') : b'.1 ≤ b.1 := by
  obtain ⟨S, hS, e⟩ := List.mem_map.mp h.1
  have hD := sorted_nsort T
  obtain ⟨a1, a2, a3⟩ := (mem_ssb hD S).mp hS
  refine lt3_fst (h'.2 b ?_)
  rw [← e]
  exact List.mem_map_of_mem (f := fun S => scr T (lay S)) ((mem_ssb hD S).mpr ⟨a1, a2, by omega⟩)
theorem IsB.ge {T : List Nat} {m : Nat} {b : Sc} (h : IsB T m b) : -(T.sum : Int) ≤ b.1 := by
  obtain ⟨S, hS, e⟩ := List.mem_map.mp h.1
  have := tot_le (L := lay S) (T := T)
  rw [← e]
  show -(T.sum : Int) ≤ -(tot (lay S) T : Int)
  omega
theorem tot_all {S : List Nat} (hS : S.Pairwise (· < ·)) : ∀ {T : List Nat}, (∀ t ∈ T, t ∈ S) → tot (lay S) T = T.sum
  | [], _ => rfl
  | t :: T, h => by
    unfold tot
    rw [List.map_cons, List.sum_cons, List.sum_cons]
    have h1 := (got_lay hS t).2 t (h t (by simp)) (Nat.le_refl _)
    have h2 := got_le (L := lay S) (t := t)
    have h3 := tot_all hS (T := T) fun x hx => h x (by simp [hx])
    unfold tot at h3
    omega
theorem IsB.all {T : List Nat} {m : Nat} {b : Sc} (h : IsB T m b) (hm : (nsort T).length ≤ m) : b.1 = -(T.sum : Int) := by
  have h1 := h.ge
  have hD := sorted_nsort T
  have h2 := lt3_fst (h.2 _ (List.mem_map_of_mem (f := fun S => scr T (lay S)) ((mem_ssb hD (nsort T)).mpr ⟨hD, fun s hs => hs, hm⟩)))
  have h3 := tot_all hD (T := T) fun t ht => mem_nsort.mpr ht
  rw [show (scr T (lay (nsort T))).1 = -(tot (lay (nsort T)) T : Int) from rfl, h3] at h2
  omega
theorem scr_lt {T L L' : List Nat} (h : tot L T < tot L' T ∨ (tot L T = tot L' T ∧ L'.length < L.length)) : ltT3 (scr T L') (scr T L) = true := by
  unfold ltT3 scr
  rcases h with h | ⟨h1, h2⟩
  · rw [if_neg (by simp; omega)]; simp; omega
  · rw [if_pos (by simp [h1]), if_neg (by simp; omega)]; simp; omega
theorem sum_pos {L : List Nat} (h0 : ∀ x ∈ L, 0 < x) (h : L ≠ []) : 0 < L.sum := by
  cases L with
  | nil => exact absurd rfl h
  | cons a t => rw [List.sum_cons]; have := h0 a (by simp); omega
/-- no layers do better than sums among what hearers take -/
theorem IsB.any {T : List Nat} {m : Nat} {b : Sc} (hT : ∀ t ∈ T, 0 < t) (h : IsB T m b) {L : List Nat} (h0 : ∀ x ∈ L, 0 < x) (hs : L.sum ≤ mxN (0 :: T)) (hl : L.length ≤ m) : ltT3 (scr T L) b = false := by
  have hD := sorted_nsort T
  have hasc := psl_asc h0
  have hsum : ∀ s ∈ psl L, 0 < s ∧ s ≤ L.sum := fun s hs => by
    obtain ⟨i, hi, rfl⟩ := List.mem_map.mp hs
    have hi := List.mem_range.mp hi
    have h1 := pfx_le (L := L) (i := i + 1) (j := L.length) hi
    have h2 : pfx L L.length = L.sum := by unfold pfx; rw [List.take_length]
    have h3 := h0 _ (nt_mem hi)
    have h4 := pfx_s hi
    omega
  have hu : ∀ s ∈ psl L, ∃ t ∈ T, s ≤ t := fun s hs' => by
    have h1 := hsum s hs'
    obtain ⟨h2, -, -⟩ := mxN_spec (l := 0 :: T) (by simp)
    rcases List.mem_cons.mp h2 with h2 | h2
    · omega
    · exact ⟨_, h2, by omega⟩
  obtain ⟨S', a1, a2, a3, a4⟩ := exchange hT hasc (fun s hs => (hsum s hs).1) hu
  rw [psl_len] at a3 a4
  rw [lay_psl] at a4
  have hb := h.2 _ (List.mem_map_of_mem (f := fun S => scr T (lay S)) ((mem_ssb hD S').mpr ⟨a1, fun s hs => mem_nsort.mpr (a2 s hs), by omega⟩))
  rcases a4 with a4 | a4
  · rw [a4, lay_psl] at hb; exact hb
  · have h1 := scr_lt (L := L) (L' := lay S') (T := T) (by rw [lay_len]; exact a4)
    cases e : ltT3 (scr T L) b with
    | false => rfl
    | true => rw [ord_t3.tr h1 e] at hb; cases hb
/-- the best one is one of all layers -/
theorem IsB.is {T : List Nat} {m : Nat} {b : Sc} (hT : ∀ t ∈ T, 0 < t) (h : IsB T m b) : ∃ L, (∀ x ∈ L, 0 < x) ∧ L.sum ≤ mxN (0 :: T) ∧ L.length ≤ m ∧ b = scr T L := by
  obtain ⟨S, hS, e⟩ := List.mem_map.mp h.1
  have hD := sorted_nsort T
  obtain ⟨a1, a2, a3⟩ := (mem_ssb hD S).mp hS
  have hin : ∀ s ∈ S, s ∈ T := fun s hs => mem_nsort.mp (a2 s hs)
  obtain ⟨-, h2, -⟩ := mxN_spec (l := 0 :: T) (by simp)
  exact ⟨lay S, lay_pos a1 fun s hs => hT s (hin s hs), lay_sum a1 fun s hs => h2 s (by simp [hin s hs]), by rw [lay_len]; exact a3, e.symm⟩
end Vl

-- M55c
set_option Elab.async false
set_option linter.all false
set_option maxRecDepth 100000
set_option maxHeartbeats 4000000
namespace Vl
open PySem L2
section
variable {L T : List Nat}
theorem D_taken_ok (hL : L.length ≤ 100000) (hT : T.length ≤ 100000) : D_layers_taken [.tuple (mp iN L), .tuple (mp iN T)] = some (.val (.tuple (mp iN (T.map (tkn L))))) := by
  refine runP_po rfl ?_
  unfold b_layers_taken
  have hx := fun i (hi : i < L.length) => fIxT (e := iN) (l := L) (i := i) hi
  simp [startA]
  refine Po_forX [2] [3] [4, 5] (fun pre ss => ss = [.own (.ol (mp iN (pre.map (tkn L))))]) [.own (.ol (mp iN []))] rfl (by simp) (by simp) (by simp) ?_ ?_
  · rintro S Bk hS hB ζ ξ pre t suf _ hl rfl
    simp
    have hpl : pre.length < 100000 := by have := congrArg List.length hl; simp at this; omega
    have hk := tkn_ok L t
    refine Po_whileX [4, 5] [] [] (fun m ss => ∃ u : Nat, ss = [.dur (.int (u : Int)), .dur (.int ((t : Int) - (pfx L u : Int)))] ∧ m = L.length - u ∧ u ≤ tkn L t) L.length (by omega) [.dur (.int 0), .dur (.int (t : Int))] ⟨0, by simp [pfx_0], rfl, Nat.zero_le _⟩ (by simp) (by simp) (by simp) ?_
    rintro R Bk2 ζ2 ξ2 m _ ⟨u, rfl, hm, hu⟩ hR hB2
    have hle := hk.le
    by_cases q : u < L.length
    · have h1 := hx u q
      have h2 := pfx_s q
      have h3 := tkn_le (L := L) (t := t) (i := u + 1) q
      simp at h1
      by_cases z : u + 1 ≤ tkn L t
      · have h4 := h3.mp z
        have h5 : ((nt L u : Nat) : Int) ≤ (t : Int) - (pfx L u : Int) := by omega
        simp [q, h1, h5]
        refine hR (L.length - (u + 1)) [.dur (.int ((u + 1 : Nat) : Int)), .dur (.int ((t : Int) - (pfx L (u + 1) : Int)))] _ (by omega) ⟨u + 1, rfl, rfl, z⟩ ?_ ?_ ?_
        · simp [h2]; omega
        · simp
        · simp
      · have h4 : ¬ pfx L (u + 1) ≤ t := fun y => z (h3.mpr y)
        have h5 : ¬ (((nt L u : Nat) : Int) ≤ (t : Int) - (pfx L u : Int)) := by omega
        have h6 : u = tkn L t := by omega
        have ha := fAppS (xs := mp iN (pre.map (tkn L))) (d := iN u) (by simp; omega)
        simp at ha
        simp [q, h1, h5]
        refine hB2 _ ?_
        simp [ha]
        refine hS _ [.own (.ol (mp iN ((pre ++ [t]).map (tkn L))))] _ rfl ?_ ?_ ?_
        · simp [mp_append, h6]
        · simp
        · simp
    · have h6 : u = tkn L t := by omega
      have ha := fAppS (xs := mp iN (pre.map (tkn L))) (d := iN u) (by simp; omega)
      simp at ha
      simp [q]
      refine hB2 _ ?_
      simp [ha]
      refine hS _ [.own (.ol (mp iN ((pre ++ [t]).map (tkn L))))] _ rfl ?_ ?_ ?_
      · simp [mp_append, h6]
      · simp
      · simp
  · rintro ζ ξ _ rfl
    simp
theorem D_got_ok (hL : L.length ≤ 100000) (hT : T.length ≤ 100000) : D_got_by [.tuple (mp iN L), .tuple (mp iN T)] = some (.val (.tuple (mp iN (T.map (got L))))) := by
  refine runP_po rfl ?_
  unfold b_got_by
  have h1 := D_taken_ok hL hT
  have h2 : ∀ i : Nat, fSl (.tuple (mp iN L)) none (some (i : Int)) = some (.val (.tuple (mp iN (L.take i)))) := fun i => by
    rw [slT_to (by omega)]; simp
  have h3 : ∀ i : Nat, fSumB [.tuple (mp iN (L.take i))] = some (.int (pfx L i : Int)) := fun i => by rw [sum_nT, sum_cast]; rfl
  have e : T.map (got L) = (T.map (tkn L)).map (pfx L) := by rw [List.map_map]; rfl
  have hl : (T.map (tkn L)).length = T.length := by simp
  rw [e]
  generalize T.map (tkn L) = K at *
  simp [startA, h1]
  rw [kLd_mapX (fun i => .int (pfx L i : Int)) (by simp) (by omega) (fun i hi => by simp [h2, h3])]
  simp
theorem D_single_ok (hT : T.length ≤ 100000) : D_single_rate [.tuple (mp iN T)] = some (.val (.int ((if T = [] then 0 else mnN T : Nat) : Int))) := by
  refine runP_po rfl ?_
  unfold b_single_rate
  by_cases q : T = []
  · subst q
    simp [startA, kI_val]
  · have h := mn_nT q
    have h2 : 0 < T.length := List.length_pos_iff.mpr q
    simp [startA, kI_val, q, h, h2]
theorem sub_sum (s : Int) : ∀ T : List Nat, (T.map fun (t : Nat) => (t : Int) - s).sum = (T.sum : Int) - s * (T.length : Int)
  | [] => by simp
  | t :: T => by
    rw [List.map_cons, List.sum_cons, sub_sum s T, List.sum_cons, List.length_cons]
    have : s * ((T.length + 1 : Nat) : Int) = s * (T.length : Int) + s := by
      rw [show ((T.length + 1 : Nat) : Int) = (T.length : Int) + 1 by omega, Int.mul_add, Int.mul_one]
    omega
theorem D_lost_ok (hT : T.length ≤ 100000) : D_lost_by_slowest [.tuple (mp iN T)] = some (.val (.int ((T.sum : Int) - ((if T = [] then 0 else mnN T : Nat) : Int) * (T.length : Int)))) := by
  refine runP_po rfl ?_
  unfold b_lost_by_slowest
  have h := D_single_ok hT
  have h2 : ∀ s : Int, fSumB [.list (mp (fun t : Nat => PyData.int ((t : Int) - s)) T)] = some (.int ((T.sum : Int) - s * (T.length : Int))) := fun s => by
    rw [← sub_sum]
    have := fSumE (b := fun t : Nat => (t : Int) - s) (l := T)
    unfold fSumB
    rw [this]
  generalize ((if T = [] then 0 else mnN T : Nat) : Int) = s at *
  have h2 := h2 s
  simp [startA]
  rw [kLd_mapX (fun t : Nat => .int ((t : Int) - s)) (by simp) (by omega) (fun i hi => by simp [h])]
  simp [h2]
theorem D_lay_ok {S : List Nat} (hS : S.Pairwise (· < ·)) (hl : S.length ≤ 100000) : D_layers_up_to [.tuple (mp iN S)] = some (.val (.tuple (mp iN (lay S)))) := by
  refine runP_po rfl ?_
  unfold b_layers_up_to
  have hr := fR1n (show S.length ≤ 1000000000 by omega)
  have hx := fun i (hi : i < S.length) => fIxT (e := iN) (l := S) (i := i) hi
  simp [startA, hr]
  rw [kLd_mapX (fun i => .int ((nt S i - if 0 < i then nt S (i - 1) else 0 : Nat) : Int)) (by simp) (by simp; omega) (fun i hi => by
    have hi := List.mem_range.mp hi
    have h1 := hx i hi
    simp at h1
    by_cases q : 0 < i
    · have h2 := hx (i - 1) (by omega)
      have h3 := asc_nt hS (show i - 1 < i by omega) hi
      rw [show ((i - 1 : Nat) : Int) = (i : Int) - 1 by omega] at h2
      simp at h2
      simp [kI_val, h1, h2, q]
      omega
    · simp [kI_val, h1, q])]
  have e : mp (fun i : Nat => PyData.int ((nt S i - if 0 < i then nt S (i - 1) else 0 : Nat) : Int)) (List.range S.length) = mp iN (lay S) := mp_natmap
  rw [e]
  simp [fTuple]
theorem D_without_ok {b : Int} (hT : T.length ≤ 100000) : D_without_slowest [.tuple (mp iN T), .int b] = some (.val (if (T.filter fun (t : Nat) => decide ((t : Int) < b)).length < T.length then .int ((T.filter fun (t : Nat) => decide ((t : Int) < b)).length : Int) else .none)) := by
  refine runP_po rfl ?_
  unfold b_without_slowest
  obtain ⟨Z, hZ⟩ := opq (T.filter fun (t : Nat) => decide ((t : Int) < b))
  rw [← hZ]
  simp only [startA]
  simp
  rw [kLd_ifX (fun t : Nat => decide ((t : Int) < b)) iN (by simp) (by omega) (fun t ht => by simp), ← hZ]
  by_cases q : Z.length < T.length
  · simp [kI_val, q]
  · simp [kI_val, q]
end
end Vl

-- M55d
set_option Elab.async false
set_option linter.all false
set_option maxRecDepth 100000
set_option maxHeartbeats 4000000
namespace Vl
open PySem L2
section
variable {L T : List Nat} {m : Nat}
theorem scr_map (m : Nat) (T D : List Nat) : mp t3 (((ssb m D).map lay).map (scr T)) = mp t3 ((ssb m D).map fun S => scr T (lay S)) := by rw [List.map_map]; rfl
theorem tot_sum (L T : List Nat) : fSumB [.tuple (mp iN (T.map (got L)))] = some (.int (tot L T : Int)) := by rw [sum_nT, sum_cast]; rfl
theorem D_best_ok (hT : T.length ≤ 12) (hm : m ≤ 1000) {b : Sc} (hb : IsB T m b) : D_best_layers [.tuple (mp iN T), .int (m : Int)] = some (.val (.tuple (mp iN b.2.2))) := by
  refine runP_po rfl ?_
  unfold b_best_layers
  have hs := ssB_nT (l := T) (by omega)
  have hD := sorted_nsort T
  have hDl : (nsort T).length ≤ 12 := by
    have := sub_len (nsort_nodup T) (m := T) fun x hx => by rwa [mem_nsort] at hx
    omega
  have hmin := mn_E ord_t3 t3Tup hb.1 hb.2
  have hmem := fun S => mem_ssb (m := m) hD S
  have hlen : (ssb m (nsort T)).length ≤ 4096 := Nat.le_trans (ssb_len m _) (Nat.pow_le_pow_right (by decide) hDl)
  have hscr := scr_map m T (nsort T)
  generalize nsort T = D at *
  simp [startA, hs]
  refine Po_forX [2] [3, 5] [] (fun pre ss => ss = [.own (.ol (mp (tp iN) (ssb m pre)))]) [.own (.ol (mp (tp iN) [[]]))] rfl (by simp) (by simp) (by simp) ?_ ?_
  · rintro S Bk hS hB ζ ξ pre t suf _ hl rfl
    have hpre : pre.Pairwise (· < ·) := by
      rw [hl, List.pairwise_append] at hD; exact hD.1
    have hpl : pre.length < 12 := by have := congrArg List.length hl; simp at this; omega
    have hmem := fun S => mem_ssb (m := m) hpre S
    have hlen : (ssb m pre).length ≤ 4096 := Nat.le_trans (ssb_len m _) (Nat.pow_le_pow_right (by decide) (show pre.length ≤ 12 by omega))
    have hst := ssb_s m pre t
    generalize ssb m pre = F at *
    simp
    rw [kLd_ifX (fun s => decide (s.length < m)) (fun s => .tuple (mp iN (s ++ [t]))) (by simp) (by omega) (fun s hs => by
      have := ((hmem s).mp hs).2.2
      have ha := addT1n (l := s) (x := t) (by omega)
      by_cases q : s.length < m
      · simp [q, ha]
      · simp [q])]
    have e : mp (fun s : List Nat => PyData.tuple (mp iN (s ++ [t]))) (F.filter fun s => decide (s.length < m)) = mp (tp iN) ((F.filter fun s => decide (s.length < m)).map (· ++ [t])) := by rw [mp_of_map]; rfl
    rw [e]
    have hfl : ((F.filter fun s => decide (s.length < m)).map (· ++ [t])).length ≤ 4096 := by
      rw [List.length_map]; exact Nat.le_trans (List.length_filter_le _ _) hlen
    generalize (F.filter fun s => decide (s.length < m)).map (· ++ [t]) = Z at *
    simp
    rw [aL3_some (by simp; omega)]
    simp
    refine hS _ [.own (.ol (mp (tp iN) (F ++ Z)))] _ ?_ ?_ ?_ ?_
    · rw [hst]
    · simp
    · simp
    · simp
  · rintro ζ ξ _ rfl
    obtain ⟨F, hF⟩ := opq (ssb m D)
    simp only [← hF] at hmem hlen hscr hmin ⊢
    simp
    rw [kLd_mapX (fun S => .tuple (mp iN (lay S))) (by simp) (by omega) (fun S hS => by
      obtain ⟨a1, a2, a3⟩ := (hmem S).mp hS
      have h1 := D_lay_ok a1 (by omega)
      generalize lay S = Z at *
      simp [h1])]
    have e : mp (fun S : List Nat => PyData.tuple (mp iN (lay S))) F = mp (tp iN) (F.map lay) := by rw [mp_of_map]; rfl
    rw [e]
    have hrow : ∀ r ∈ F.map lay, r.length ≤ 1000 := fun r hr => by
      obtain ⟨S, hS, rfl⟩ := List.mem_map.mp hr
      rw [lay_len]
      have := ((hmem S).mp hS).2.2
      omega
    have hrl : (F.map lay).length ≤ 4096 := by rw [List.length_map]; exact hlen
    generalize F.map lay = RW at *
    simp
    rw [kLd_mapX (fun r => t3 (scr T r)) (by simp) (by omega) (fun r hr => by
      have h1 := D_got_ok (L := r) (T := T) (by have := hrow r hr; omega) (by omega)
      have h2 := tot_sum r T
      generalize mp iN (T.map (got r)) = Z at *
      simp [h1, h2, scr])]
    have e2 : mp (fun r => t3 (scr T r)) RW = mp t3 (RW.map (scr T)) := by rw [mp_of_map]
    rw [e2, hscr]
    generalize mp t3 (F.map fun S => scr T (lay S)) = Z at *
    simp at hmin
    simp [hmin]
theorem D_tkn_ok {t : Nat} (hL : L.length ≤ 100000) : D_law_taken [.tuple (mp iN L), .int (t : Int)] = some (.val (.tuple [.int (tkn L t : Int), .int (got L t : Int)])) := by
  refine runP_po rfl ?_
  unfold b_law_taken
  have hr := fR1n (show L.length ≤ 1000000000 by omega)
  have hx := fun i (hi : i < L.length) => fIxT (e := iN) (l := L) (i := i) hi
  have hk := tkn_ok L t
  simp [startA, hr]
  refine Po_rgX [2, 3] [4] [] (fun i ss => ss = [.dur (.int ((min i (tkn L t) : Nat) : Int)), .dur (.int (pfx L (min i (tkn L t)) : Int))]) [.dur (.int 0), .dur (.int 0)] (by simp [pfx_0]) (by simp) (by simp) (by simp) ?_ ?_
  · rintro S Bk hS hB ζ ξ i _ hi rfl
    have h1 := hx i hi
    have h2 := pfx_s hi
    have h3 := tkn_le (L := L) (t := t) (i := i + 1) hi
    simp at h1
    obtain ⟨k, hkk⟩ := opq (tkn L t)
    rw [← hkk] at h3 ⊢
    by_cases q : i + 1 ≤ k
    · have e1 : min i k = i := by omega
      have e2 : min (i + 1) k = i + 1 := by omega
      have h4 := h3.mp q
      have h5 : (pfx L i : Int) + ((nt L i : Nat) : Int) ≤ (t : Int) := by omega
      rw [e1]
      simp [h1, h5]
      refine hS _ [.dur (.int ((i + 1 : Nat) : Int)), .dur (.int (pfx L (i + 1) : Int))] _ ?_ ?_ ?_ ?_
      · rw [← hkk, e2]
      · simp [h2]
      · simp
      · simp
    · have e2 : min (i + 1) k = min i k := by omega
      have h4 : ¬ pfx L (i + 1) ≤ t := fun y => q (h3.mpr y)
      have hg : S (i + 1) _ := hS (i + 1) [.dur (.int ((min i k : Nat) : Int)), .dur (.int (pfx L (min i k) : Int))] ([.dur (.tuple (mp iN L)), .dur (.int (t : Int)), .dur (.int ((min i k : Nat) : Int)), .dur (.int (pfx L (min i k) : Int)), .dur (.int (i : Int))]) (by rw [← hkk, e2]) (by simp) (by simp) (by simp)
      by_cases z : k = i
      · subst z
        have e1 : min k k = k := by omega
        have h5 : ¬ ((pfx L k : Int) + ((nt L k : Nat) : Int) ≤ (t : Int)) := by omega
        rw [e1] at hg ⊢
        simp [h1, h5]
        exact hg
      · have z2 : ¬ min i k = i := by omega
        generalize min i k = u at *
        simp [z2]
        exact hg
  · rintro ζ ξ _ rfl
    have : min L.length (tkn L t) = tkn L t := by have := hk.le; omega
    rw [this]
    simp
    rfl
theorem D_total_ok (hL : L.length ≤ 100000) (hT : T.length ≤ 100000) : D_law_total [.tuple (mp iN L), .tuple (mp iN T)] = some (.val (.int (tot L T : Int))) := by
  refine runP_po rfl ?_
  unfold b_law_total
  have h := fun t => D_tkn_ok (L := L) (t := t) hL
  have h2 : fSumB [.list (mp iN (T.map (got L)))] = some (.int (tot L T : Int)) := by
    have h3 := fSumN (l := T.map (got L))
    rw [sum_cast] at h3
    unfold fSumB
    rw [h3]; rfl
  have e : mp (fun t : Nat => PyData.int (got L t : Int)) T = mp iN (T.map (got L)) := mp_natmap
  simp [startA]
  rw [kLd_mapX (fun t : Nat => .int (got L t : Int)) (by simp) (by omega) (fun t ht => by simp [h])]
  rw [e]
  generalize mp iN (T.map (got L)) = Z at *
  simp [h2]
end
end Vl

-- M55e
set_option Elab.async false
set_option linter.all false
set_option maxRecDepth 100000
set_option maxHeartbeats 4000000
namespace Vl
open PySem L2
section
variable {L T : List Nat} {m : Nat}
theorem D_lbest_ok (hT : T.length ≤ 12) (hm : m ≤ 1000) {b : Sc} (hb : IsB T m b) : D_law_best [.tuple (mp iN T), .int (m : Int)] = some (.val (t3 b)) := by
  refine runP_po rfl ?_
  unfold b_law_best
  have hs := ssB_nT (l := T) (by omega)
  have hD := sorted_nsort T
  have hDl : (nsort T).length ≤ 12 := by
    have := sub_len (nsort_nodup T) (m := T) fun x hx => by rwa [mem_nsort] at hx
    omega
  have hmin := mn_E ord_t3 t3Tup hb.1 hb.2
  have hmem := fun S => mem_ssb (m := m) hD S
  have hlen : (ssb m (nsort T)).length ≤ 4096 := Nat.le_trans (ssb_len m _) (Nat.pow_le_pow_right (by decide) hDl)
  generalize nsort T = D at *
  simp [startA, hs]
  refine Po_forX [2] [3, 5] [] (fun pre ss => ss = [.own (.ol (mp (tp iN) (ssb m pre)))]) [.own (.ol (mp (tp iN) [[]]))] rfl (by simp) (by simp) (by simp) ?_ ?_
  · rintro S Bk hS hB ζ ξ pre t suf _ hl rfl
    have hpre : pre.Pairwise (· < ·) := by
      rw [hl, List.pairwise_append] at hD; exact hD.1
    have hpl : pre.length < 12 := by have := congrArg List.length hl; simp at this; omega
    have hmem := fun S => mem_ssb (m := m) hpre S
    have hlen : (ssb m pre).length ≤ 4096 := Nat.le_trans (ssb_len m _) (Nat.pow_le_pow_right (by decide) (show pre.length ≤ 12 by omega))
    have hst := ssb_s m pre t
    generalize ssb m pre = F at *
    simp
    rw [kLd_ifX (fun s => decide (s.length < m)) (fun s => .tuple (mp iN (s ++ [t]))) (by simp) (by omega) (fun s hs => by
      have := ((hmem s).mp hs).2.2
      have ha := addT1n (l := s) (x := t) (by omega)
      by_cases q : s.length < m
      · simp [q, ha]
      · simp [q])]
    have e : mp (fun s : List Nat => PyData.tuple (mp iN (s ++ [t]))) (F.filter fun s => decide (s.length < m)) = mp (tp iN) ((F.filter fun s => decide (s.length < m)).map (· ++ [t])) := by rw [mp_of_map]; rfl
    rw [e]
    have hfl : ((F.filter fun s => decide (s.length < m)).map (· ++ [t])).length ≤ 4096 := by
      rw [List.length_map]; exact Nat.le_trans (List.length_filter_le _ _) hlen
    generalize (F.filter fun s => decide (s.length < m)).map (· ++ [t]) = Z at *
    have ha := addL (e := tp iN) (l := F) (m := Z) (by omega)
    simp [ha]
    refine hS _ [.own (.ol (mp (tp iN) (F ++ Z)))] _ ?_ ?_ ?_ ?_
    · rw [hst]
    · simp
    · simp
    · simp
  · rintro ζ ξ _ rfl
    obtain ⟨F, hF⟩ := opq (ssb m D)
    simp only [← hF] at hmem hlen hmin ⊢
    simp
    refine Po_forX [4] [5, 7] [6] (fun pre ss => ss = [.own (.ol (mp t3 (pre.map fun S => scr T (lay S))))]) [.own (.ol (mp t3 []))] rfl (by simp) (by simp) (by simp) ?_ ?_
    · rintro R Bk hR hB ζ ξ pre S suf _ hl rfl
      obtain ⟨a1, a2, a3⟩ := (hmem S).mp (by rw [hl]; simp)
      have hpl : pre.length < 4096 := by have := congrArg List.length hl; simp at this; omega
      have hr := fR1n (show S.length ≤ 1000000000 by omega)
      have hx := fun i (hi : i < S.length) => fIxT (e := iN) (l := S) (i := i) hi
      have ha := addT (e := iN) (l := [0]) (m := S) (by simp; omega)
      have hx0 := fun i (hi : i < S.length) => fIxT (e := iN) (l := 0 :: S) (i := i) (by simp; omega)
      simp at ha hx0
      simp [hr]
      rw [kLd_mapX (fun i => .int ((nt S i - if 0 < i then nt S (i - 1) else 0 : Nat) : Int)) (by simp) (by simp; omega) (fun i hi => by
        have hi := List.mem_range.mp hi
        have h1 := hx i hi
        have h2 := hx0 i hi
        simp at h1
        by_cases q : 0 < i
        · have h3 := asc_nt a1 (show i - 1 < i by omega) hi
          have h4 : nt (0 :: S) i = nt S (i - 1) := by
            have : i = (i - 1) + 1 := by omega
            conv => lhs; rw [this]
            rw [nt_succ]
          rw [h4] at h2
          simp [ha, h1, h2, q]
          omega
        · have h4 : i = 0 := by omega
          subst h4
          simp at h1 h2
          simp [ha, h1, h2])]
      have e : mp (fun i : Nat => PyData.int ((nt S i - if 0 < i then nt S (i - 1) else 0 : Nat) : Int)) (List.range S.length) = mp iN (lay S) := mp_natmap
      rw [e]
      have h5 := D_total_ok (L := lay S) (T := T) (by rw [lay_len]; omega) (by omega)
      have happ := fAppS (xs := mp t3 (pre.map fun S => scr T (lay S))) (d := t3 (scr T (lay S))) (by simp; omega)
      have hfin : mp t3 (pre.map fun S => scr T (lay S)) ++ [t3 (scr T (lay S))] = mp t3 ((pre ++ [S]).map fun S => scr T (lay S)) := by rw [List.map_append, mp_append]; rfl
      rw [hfin] at happ
      have hsc : t3 (scr T (lay S)) = .tuple [.int (-(tot (lay S) T : Int)), .int ((lay S).length : Int), .tuple (mp iN (lay S))] := rfl
      rw [hsc] at happ
      generalize lay S = Y at *
      obtain ⟨P2, hP2⟩ := opq (mp t3 ((pre ++ [S]).map fun S => scr T (lay S)))
      rw [← hP2] at happ
      simp at happ
      simp [fTuple, h5, happ]
      refine hR _ [.own (.ol P2)] _ (by rw [hP2]) ?_ ?_ ?_
      · simp
      · simp
      · simp
    · rintro ζ ξ _ rfl
      generalize mp t3 (F.map fun S => scr T (lay S)) = Z at *
      simp at hmin
      simp [hmin]
end
end Vl

-- M55f
set_option Elab.async false
set_option linter.all false
set_option maxRecDepth 100000
set_option maxHeartbeats 4000000
namespace Vl
open PySem L2
/-- layers that may be -/
def Adm (top k : Nat) (L : List Nat) : Prop := (∀ x ∈ L, 0 < x) ∧ L.sum ≤ top ∧ L.length ≤ k
theorem tot_nil (T : List Nat) : tot [] T = 0 := by
  have : ∀ t ∈ T, got [] t = 0 := fun t _ => by
    have := (tkn_ok [] t).le
    unfold got pfx
    simp
  unfold tot
  rw [List.map_congr_left this]
  clear this
  induction T with
  | nil => rfl
  | cons a t ih => rw [List.map_cons, List.sum_cons, ih]
section
variable {T : List Nat} {m : Nat}
theorem D_any_ok (hT : T.length ≤ 12) (hpos : ∀ t ∈ T, 0 < t) (htop : mxN (0 :: T) ≤ 6) (hm : m ≤ 3) {b : Sc} (hb : IsB T m b) : D_law_any_best [.tuple (mp iN T), .int (m : Int)] = some (.val (t3 b)) := by
  refine runP_po rfl ?_
  unfold b_law_any_best
  have ha := addT (e := iN) (l := [0]) (m := T) (by simp; omega)
  have hmx := mx_nT (l := 0 :: T) (by simp)
  have hr := fR1n (show m ≤ 1000000000 by omega)
  have hany := fun L h0 hs hl => hb.any (L := L) hpos h0 hs hl
  have his := hb.is hpos
  obtain ⟨top, ht⟩ := opq (mxN (0 :: T))
  simp only [← ht] at htop hmx hany his
  have ha : fAdd (.tuple [.int 0]) (.tuple (mp iN T)) = some (.val (.tuple (mp iN (0 :: T)))) := ha
  have e0 : (0 : Int) :: [] = [0] := rfl
  obtain ⟨T0, hT0⟩ := opq (PyData.tuple (mp iN (0 :: T)))
  rw [← hT0] at ha hmx
  simp [startA, ha, hmx, hr]
  refine Po_rgX [3, 4] [5, 7, 8] [6] (fun k ss => ∃ (B : Sc) (rows : List (List Nat)) (X : Slot), ss = [.dur (t3 B), X] ∧ (X = .own (.ol (mp (tp iN) rows)) ∨ X = .dur (.list (mp (tp iN) rows))) ∧ (∀ r, r ∈ rows ↔ r.length = k ∧ (∀ x ∈ r, 0 < x) ∧ r.sum ≤ top) ∧ rows.length ≤ 7 ^ k ∧ (∃ L, Adm top k L ∧ B = scr T L) ∧ ∀ L, Adm top k L → ltT3 (scr T L) B = false) [.dur (t3 (0, 0, [])), .own (.ol (mp (tp iN) [[]]))] ?_ (by simp) (by simp) (by simp) ?_ ?_
  · have h0 : scr T [] = (0, 0, []) := by unfold scr; rw [tot_nil]; rfl
    refine ⟨(0, 0, []), [[]], _, rfl, .inl rfl, fun r => ?_, by decide, ⟨[], ⟨by simp, by simp, by simp⟩, h0.symm⟩, fun L h => ?_⟩
    · constructor
      · intro h
        rw [List.mem_singleton] at h
        subst h; simp
      · rintro ⟨h, -, -⟩
        rw [List.mem_singleton]
        exact List.length_eq_zero_iff.mp h
    · have : L = [] := List.length_eq_zero_iff.mp (by have := h.2.2; omega)
      subst this
      rw [h0]
      exact ord_t3.irr _
  · rintro S Bk hS hB ζ ξ k _ hk ⟨B, rows, X, rfl, hX, hrows, hrl, ⟨L0, hL0, hB0⟩, hBb⟩
    have h7 : 7 ^ k ≤ 49 := by
      have : k = 0 ∨ k = 1 ∨ k = 2 := by omega
      rcases this with rfl | rfl | rfl <;> decide
    have hgo : Po (kTn (gN 5 (.int (k : Int)) (putU [5, 7, 8] ζ (putF [6] ξ (putS [3, 4] [.dur (t3 B), .dur (.list (mp (tp iN) rows))] [.dur (.tuple (mp iN T)), .dur (.int (m : Int)), .dur (.int (top : Int)), .dur (t3 (0, 0, [])), .own (.ol [.tuple []]), .un, .un, .un, .un]))))
        (sThen (sSet 6 (mN fLst (mPure [])))
  (sThen (sFor (m1 fSeq (mZ 4)) (gN 7) (sSet 6 (m2 fAdd (mI 6) (mV (mLc [8] (mR fR2 (mCons (mPure (.int 1)) (mCons (mV (m2 fAdd (m2 (fInt iSub) (mI 2) (mS fSumB (mCons (mI 7) (mPure [])))) (mPure (.int 1)))) (mPure [])))) (gN 8) (mPure true) (mV (m2 fAdd (mI 7) (mV (mN fTup (mCons (mD 8) (mPure [])))))))))))
  (sThen (sFor (m1 fSeq (mZ 6)) (gN 7) (sSet 3 (mN fMin2D (mCons (mI 3) (mCons (mV (mN fTup (mCons (m2 (fInt iSub) (mPure (.int 0)) (mV (mN D_law_total (mCons (mD 7) (mCons (mD 0) (mPure [])))))) (mCons (mS fLen (mCons (mI 7) (mPure []))) (mCons (mD 7) (mPure [])))))) (mPure []))))))
  (sSet 4 (mF (mZ 6))))))) (Cn (S (k + 1)) Bk fun c x => c = Ctl.rt (Res.val (t3 b))) := by
      simp
      refine Po_forX [6] [7, 8] [] (fun pre ss => ∃ lg : List (List Nat), ss = [.own (.ol (mp (tp iN) lg))] ∧ (∀ Y, Y ∈ lg ↔ ∃ r ∈ pre, ∃ x, 1 ≤ x ∧ r.sum + x ≤ top ∧ Y = r ++ [x]) ∧ lg.length ≤ pre.length * 7) [.own (.ol (mp (tp iN) []))] ⟨[], rfl, by simp, by simp⟩ (by simp) (by simp) (by simp) ?_ ?_
      · rintro S2 Bk2 hS2 hB2 ζ2 ξ2 pre r suf _ hl ⟨lg, rfl, hlg, hll⟩
        have hr1 := (hrows r).mp (by rw [hl]; simp)
        have hpl : pre.length < 49 := by have := congrArg List.length hl; simp at this; omega
        have hsum : fSumB [.tuple (mp iN r)] = some (.int (r.sum : Int)) := by rw [sum_nT, sum_cast]
        obtain ⟨q, hq⟩ : ∃ q, q = top - r.sum := ⟨_, rfl⟩
        have hq2 : (top : Int) - (r.sum : Int) + 1 = ((1 + q : Nat) : Int) := by omega
        have hr2 := fR2n (a := 1) (b := 1 + q) (by omega) (by omega)
        rw [show 1 + q - 1 = q by omega] at hr2
        have hrr : fR2 [.int 1, .int ((top : Int) - (r.sum : Int) + 1)] = some (mp iN (List.range' 1 q)) := by rw [hq2]; exact hr2
        simp only [tp_ap]
        simp [hsum, hrr]
        rw [kLd_mapX (fun x => .tuple (mp iN (r ++ [x]))) (by simp) (by simp; omega) (fun x hx => by
          have ha := addT1n (l := r) (x := x) (by omega)
          simp [ha])]
        have e : mp (fun x : Nat => PyData.tuple (mp iN (r ++ [x]))) (List.range' 1 q) = mp (tp iN) ((List.range' 1 q).map fun x => r ++ [x]) := by rw [mp_of_map]; rfl
        rw [e]
        have ha := addL (e := tp iN) (l := lg) (m := (List.range' 1 q).map fun x => r ++ [x]) (by simp; omega)
        have hmem : ∀ Y, Y ∈ (List.range' 1 q).map (fun x => r ++ [x]) ↔ ∃ x, 1 ≤ x ∧ r.sum + x ≤ top ∧ Y = r ++ [x] := fun Y => by
          rw [List.mem_map]
          constructor
          · rintro ⟨x, hx, rfl⟩
            rw [List.mem_range'_1] at hx
            exact ⟨x, hx.1, by omega, rfl⟩
          · rintro ⟨x, h1, h2, rfl⟩
            exact ⟨x, by rw [List.mem_range'_1]; omega, rfl⟩
        have hml : ((List.range' 1 q).map fun x => r ++ [x]).length ≤ 7 := by simp; omega
        generalize (List.range' 1 q).map (fun x => r ++ [x]) = Z at *
        simp [ha]
        refine hS2 _ [.own (.ol (mp (tp iN) (lg ++ Z)))] _ ⟨_, rfl, fun Y => ?_, by simp; omega⟩ ?_ ?_ ?_
        · rw [List.mem_append, hlg, hmem]
          constructor
          · rintro (⟨r', h1, h2⟩ | h)
            · exact ⟨r', by simp [h1], h2⟩
            · exact ⟨r, by simp, h⟩
          · rintro ⟨r', h1, h2⟩
            rcases List.mem_append.mp h1 with h1 | h1
            · exact .inl ⟨r', h1, h2⟩
            · rw [List.mem_singleton] at h1
              subst h1
              exact .inr h2
        · simp
        · simp
        · simp
      · rintro ζ2 ξ2 _ ⟨lg, rfl, hlg, hll⟩
        have hlm : ∀ Y, Y ∈ lg ↔ Y.length = k + 1 ∧ (∀ x ∈ Y, 0 < x) ∧ Y.sum ≤ top := fun Y => by
          rw [hlg]
          constructor
          · rintro ⟨r, h1, x, h2, h3, rfl⟩
            obtain ⟨a1, a2, a3⟩ := (hrows r).mp h1
            refine ⟨by simp [a1], fun y hy => ?_, by simp; omega⟩
            rcases List.mem_append.mp hy with hy | hy
            · exact a2 y hy
            · rw [List.mem_singleton] at hy; omega
          · rintro ⟨a1, a2, a3⟩
            rcases List.eq_nil_or_concat Y with rfl | ⟨r, x, rfl⟩
            · simp at a1
            · rw [List.concat_eq_append] at a1 a2 a3 ⊢
              simp at a1 a3
              exact ⟨r, (hrows r).mpr ⟨a1, fun y hy => a2 y (by simp [hy]), by omega⟩, x, a2 x (by simp), a3, rfl⟩
        have hll2 : lg.length ≤ 7 ^ (k + 1) := by rw [Nat.pow_succ]; exact Nat.le_trans hll (Nat.mul_le_mul_right 7 hrl)
        simp
        refine Po_forX [3] [7] [] (fun pre ss => ∃ B : Sc, ss = [.dur (t3 B)] ∧ (∃ L0, (Adm top k L0 ∨ L0 ∈ pre) ∧ B = scr T L0) ∧ ∀ L, Adm top k L ∨ L ∈ pre → ltT3 (scr T L) B = false) [.dur (t3 B)] ⟨B, rfl, ⟨L0, .inl hL0, hB0⟩, fun L h => hBb L (h.resolve_right (by simp))⟩ (by simp) (by simp) (by simp) ?_ ?_
        · rintro S2 Bk2 hS2 hB2 ζ3 ξ3 pre Y suf _ hl ⟨B, rfl, ⟨L1, hL1, hB1⟩, hBb1⟩
          have hY := (hlm Y).mp (by rw [hl]; simp)
          have h1 := D_total_ok (L := Y) (T := T) (by omega) (by omega)
          have h2 := min2_E ord_t3 t3Tup B (scr T Y)
          obtain ⟨B2, hB2'⟩ := opq (if ltT3 (scr T Y) B = true then scr T Y else B)
          rw [← hB2'] at h2
          simp [scr] at h2
          simp [h1, h2]
          have hspec : (∃ L0, (Adm top k L0 ∨ L0 ∈ pre ++ [Y]) ∧ B2 = scr T L0) ∧ ∀ L, Adm top k L ∨ L ∈ pre ++ [Y] → ltT3 (scr T L) B2 = false := by
            by_cases z : ltT3 (scr T Y) B = true
            · rw [if_pos z] at hB2'
              refine ⟨⟨Y, .inr (by simp), hB2'⟩, fun L h => ?_⟩
              rw [hB2']
              have h3 : (Adm top k L ∨ L ∈ pre) ∨ L = Y := by
                rcases h with h | h
                · exact .inl (.inl h)
                · rcases List.mem_append.mp h with h | h
                  · exact .inl (.inr h)
                  · exact .inr (List.mem_singleton.mp h)
              rcases h3 with h3 | rfl
              · cases e : ltT3 (scr T L) (scr T Y) with
                | false => rfl
                | true =>
                  have := ord_t3.tr e z
                  rw [hBb1 L h3] at this; cases this
              · exact ord_t3.irr _
            · rw [if_neg z] at hB2'
              refine ⟨⟨L1, hL1.imp id fun h => by simp [h], by rw [hB2', hB1]⟩, fun L h => ?_⟩
              rw [hB2']
              rcases h with h | h
              · exact hBb1 L (.inl h)
              · rcases List.mem_append.mp h with h | h
                · exact hBb1 L (.inr h)
                · rw [List.mem_singleton] at h
                  subst h
                  simpa using z
          refine hS2 _ [.dur (t3 B2)] _ ⟨B2, rfl, hspec⟩ ?_ ?_ ?_
          · simp
          · simp
          · simp
        · rintro ζ3 ξ3 _ ⟨B, rfl, ⟨L1, hL1, hB1⟩, hBb1⟩
          have hadm : ∀ L, Adm top (k + 1) L ↔ Adm top k L ∨ L ∈ lg := fun L => by
            rw [hlm]
            unfold Adm
            constructor
            · rintro ⟨a1, a2, a3⟩
              by_cases z : L.length ≤ k
              · exact .inl ⟨a1, a2, z⟩
              · exact .inr ⟨by omega, a1, a2⟩
            · rintro (⟨a1, a2, a3⟩ | ⟨a1, a2, a3⟩)
              · exact ⟨a1, a2, by omega⟩
              · exact ⟨a2, a3, by omega⟩
          simp
          refine hS _ [.dur (t3 B), .dur (.list (mp (tp iN) lg))] _ ⟨B, lg, _, rfl, .inr rfl, hlm, hll2, ⟨L1, (hadm L1).mpr hL1, hB1⟩, fun L h => hBb1 L ((hadm L).mp h)⟩ ?_ ?_ ?_
          · simp
          · simp
          · simp
    rcases hX with rfl | rfl
    · simp at hgo ⊢
      exact hgo
    · exact hgo
  · rintro ζ ξ _ ⟨B, rows, X, rfl, hX, hrows, hrl, ⟨L0, hL0, hB0⟩, hBb⟩
    have : B = b := by
      refine ord_t3.tot _ _ ?_ ?_
      · rw [hB0]; exact hany L0 hL0.1 hL0.2.1 hL0.2.2
      · obtain ⟨L, a1, a2, a3, a4⟩ := his
        rw [a4]; exact hBb L ⟨a1, a2, a3⟩
    rw [this]
    simp
end
end Vl

-- M55g
set_option Elab.async false
set_option linter.all false
set_option maxRecDepth 100000
set_option maxHeartbeats 4000000
namespace Vl
open PySem L2
theorem sh_t3 (b : Sc) : SeqAt.shaped (t3 b) = true := by
  have h1 := sh_mpT (e := iN) b.2.2
  refine sh_mono (n := 2) ?_ (by omega)
  unfold sh at h1 ⊢
  simp only [Bool.and_eq_true, decide_eq_true_eq] at h1 ⊢
  have a1 : PyData.canLayAll0 [.int b.1, .int b.2.1, .tuple (mp iN b.2.2)] = true := by
    rw [PyData.canLayAll0, PyData.canLayAll0, PyData.canLayAll0, PyData.canLayAll0, h1.1]; rfl
  have a2 : PyData.depthAll [.int b.1, .int b.2.1, .tuple (mp iN b.2.2)] ≤ 1 := by
    rw [PyData.depthAll, PyData.depthAll, PyData.depthAll, PyData.depthAll]
    have := h1.2
    simp only [PyData.depth]
    simp only [PyData.depth] at this
    omega
  show (PyData.tuple [.int b.1, .int b.2.1, .tuple (mp iN b.2.2)]).canLay0 = true ∧ (PyData.tuple [.int b.1, .int b.2.1, .tuple (mp iN b.2.2)]).depth ≤ 2
  refine ⟨?_, ?_⟩
  · rw [PyData.canLay0]; exact a1
  · rw [PyData.depth]; omega
theorem ne_t3 (b : Sc) : fNe (t3 b) (t3 b) = some (.bool false) := by
  unfold fNe
  rw [if_pos ⟨sh_t3 b, sh_t3 b⟩, PySem.W.eqv_refl_alike _ (ord_t3.al b b)]; rfl
theorem D_takes_ok (ds : List Int) {ns : List Int} (hns : ns.length ≤ 63) : ∃ (T : List Nat) (ds' : List Int), D_law_takes (.ol (mp .int ds)) [.list (mp .int ns)] = some (.tuple (mp iN T), .ol (mp .int ds')) ∧ T.length ≤ 12 ∧ ∀ t ∈ T, 0 < t ∧ t < 2000000000000000000000000000000000000000000000000000000000000 := by
  suffices hh : ∃ d0 o', D_law_takes (.ol (mp .int ds)) [.list (mp .int ns)] = some (d0, o') ∧ ∃ (T : List Nat) (ds' : List Int), d0 = .tuple (mp iN T) ∧ o' = .ol (mp .int ds') ∧ T.length ≤ 12 ∧ ∀ t ∈ T, 0 < t ∧ t < 2000000000000000000000000000000000000000000000000000000000000 by
    obtain ⟨d0, o', h1, T, ds', rfl, rfl, h2⟩ := hh
    exact ⟨T, ds', h1, h2⟩
  refine runI_poE rfl (Nat.zero_le _) ?_
  unfold b_law_takes
  obtain ⟨a, ds1, k1, t1⟩ := tkE ds (n := 3) (by decide)
  obtain ⟨u, ds2, k2, t2⟩ := tkE ds1 (n := 8) (by decide)
  have hw := pick3i (a := 3) (b := 9) (c := 40) (v := a) (by omega)
  obtain ⟨W, hW⟩ := opq (nt [(3 : Int), 9, 40] a)
  have hW0 : 0 < W ∧ W ≤ 40 := by rw [hW]; exact nt3 (P := fun i : Int => 0 < i ∧ i ≤ 40) (by omega) (by decide) (by decide) (by decide)
  rw [← hW] at hw
  have hc2 : ∃ n : Int, 0 < n ∧ n ≤ 13 ∧ fIx (.list [.int 9, .int 13]) (.int (if u = 0 then 1 else 0)) = some (.val (.int n)) := by
    by_cases q : u = 0
    · rw [if_pos q]; exact ⟨13, by decide, by decide, by simp⟩
    · rw [if_neg q]; exact ⟨9, by decide, by decide, by simp⟩
  obtain ⟨n, hn0, hn1, hc⟩ := hc2
  obtain ⟨c, ds3, k3, t3⟩ := tkE ds2 (n := n) hn0
  have hr := fR1n (show c ≤ 1000000000 by omega)
  simp [startI, k1, k2, hw, hc, k3, hr]
  refine Po_rgX [0, 3] [4] [5] (fun i ss => ∃ (ds : List Int) (T : List Nat), ss = [.io (.ol (mp .int ds)), .own (.ol (mp iN T))] ∧ T.length = i ∧ ∀ t ∈ T, 0 < t ∧ t < 2000000000000000000000000000000000000000000000000000000000000) [.io (.ol (mp .int ds3)), .own (.ol (mp iN []))] ⟨_, [], rfl, rfl, by simp⟩ (by simp) (by simp) (by simp) ?_ ?_
  · rintro S Bk hS hB ζ ξ i _ hi ⟨ds, T, rfl, hTl, hT⟩
    obtain ⟨v, ds4, k4, t4⟩ := tkE ds (n := W) hW0.1
    obtain ⟨w, ds5, k5, t5⟩ := tkE ds4 (n := 10) (by decide)
    obtain ⟨z, k6, t6⟩ := cellE (ns := ns) (i : Int) hns
    have happ := fun x : Nat => fAppS (xs := mp iN T) (d := iN x) (by simp; omega)
    have hgo := fun (x : Nat) (h1 : 0 < x) (h2 : x < 2000000000000000000000000000000000000000000000000000000000000) => show ∃ (ds : List Int) (T' : List Nat), [Slot.io (.ol (mp .int ds5)), .own (.ol (mp iN (T ++ [x])))] = [.io (.ol (mp .int ds)), .own (.ol (mp iN T'))] ∧ T'.length = i + 1 ∧ ∀ t ∈ T', 0 < t ∧ t < 2000000000000000000000000000000000000000000000000000000000000 from ⟨_, _, rfl, by simp [hTl], fun t ht => by
      rcases List.mem_append.mp ht with ht | ht
      · exact hT t ht
      · rw [List.mem_singleton] at ht; subst ht; exact ⟨h1, h2⟩⟩
    by_cases q : w = 0
    · have e : ∃ x : Nat, (1 : Int) + (v : Int) + (if z < 0 then -z else z) = (x : Int) ∧ 0 < x ∧ x < 2000000000000000000000000000000000000000000000000000000000000 := by
        refine ⟨1 + v + z.natAbs, by split <;> omega, by omega, by omega⟩
      obtain ⟨x, e1, e2, e3⟩ := e
      have hx := happ x
      simp at hx
      simp [k4, k5, k6, q, e1, hx]
      refine hS _ _ _ (hgo x e2 e3) ?_ ?_ ?_
      · simp [mp_append]
      · simp
      · simp
    · have hx := happ (1 + v)
      simp at hx
      simp [k4, k5, q, hx]
      refine hS _ _ _ (hgo (1 + v) (by omega) (by omega)) ?_ ?_ ?_
      · simp [mp_append]
      · simp
      · simp
  · rintro ζ ξ _ ⟨ds, T, rfl, hTl, hT⟩
    simp [fTuple]
    refine ⟨T, rfl, ⟨ds, rfl⟩, by omega, fun t ht => hT t ht⟩
theorem D_layers_ok (ds : List Int) {ns : List Int} (hns : ns.length ≤ 63) {T : List Nat} (hT : T.length ≤ 12) : ∃ (L : List Nat) (ds' : List Int), D_law_layers (.ol (mp .int ds)) [.list (mp .int ns), .tuple (mp iN T)] = some (.tuple (mp iN L), .ol (mp .int ds')) ∧ L.length ≤ 5 := by
  suffices hh : ∃ d0 o', D_law_layers (.ol (mp .int ds)) [.list (mp .int ns), .tuple (mp iN T)] = some (d0, o') ∧ ∃ (L : List Nat) (ds' : List Int), d0 = .tuple (mp iN L) ∧ o' = .ol (mp .int ds') ∧ L.length ≤ 5 by
    obtain ⟨d0, o', h1, T, ds', rfl, rfl, h2⟩ := hh
    exact ⟨T, ds', h1, h2⟩
  refine runI_poE rfl (Nat.zero_le _) ?_
  unfold b_law_layers
  have last : ∀ ds : List Int, Po ((sRet (mF (mV (mN fTuple (mCons (mV (mLc [6] (mR fR1 (mCons (mCallI 0 D_law_take (mCons (mPure (.int 6)) (mPure []))) (mPure []))) (gN 6) (mPure true) (mV (m2 fAdd (mV (m2 fAdd (mPure (.int 1)) (mCallI 0 D_law_take (mCons (mPure (.int 9)) (mPure []))))) (mV (m2 fMulA (mS fAbs (mCons (mV (mN D_law_cell (mCons (mD 1) (mCons (mD 6) (mPure []))))) (mPure []))) (mS fInt1 (mCons (m2 fEq (mCallI 0 D_law_take (mCons (mPure (.int 12)) (mPure []))) (mPure (.int 0))) (mPure []))))))))) (mPure [])))))) [.io (.ol (mp .int ds)), .dur (.list (mp .int ns)), .dur (.tuple (mp iN T)), .un, .un, .un, .un]) (fun c as => ∃ d, c = Ctl.rt (.val d) ∧ ∃ x, as[0]? = some (Slot.io x) ∧ ∃ (L : List Nat) (ds' : List Int), d = .tuple (mp iN L) ∧ x = .ol (mp .int ds') ∧ L.length ≤ 5) := by
    intro ds
    obtain ⟨a, ds1, k1, t1⟩ := tkE ds (n := 6) (by decide)
    have hr := fR1n (show a ≤ 1000000000 by omega)
    simp [k1, hr, -kLc_mp]
    generalize hq : kLc _ _ _ _ _ = q
    obtain ⟨ys, ds2, rfl, hl3, -, -⟩ := kLc_drawX hq 0 (fun s => .io (.ol (mp .int s))) ds1 iN (fun (x : Nat) (y : Nat) => True) (by simp) (by simp) (by simp) (by simp; omega) (fun x hx s => by
      obtain ⟨v, s1, q1, w1⟩ := tkE s (n := 9) (by decide)
      obtain ⟨z, q2, w2⟩ := cellE (ns := ns) (x : Int) hns
      obtain ⟨w, s2, q3, w3⟩ := tkE s1 (n := 12) (by decide)
      have hm := fun e : Int => fun (h : e = 0 ∨ e = 1) => fMul_int (i := if z < 0 then -z else z) (j := e) (mulOk_r (by rcases h with rfl | rfl <;> decide))
      have hm0 := hm 0 (.inl rfl)
      have hm1 := hm 1 (.inr rfl)
      simp at hm0 hm1
      by_cases u : w = 0
      · refine ⟨1 + v + z.natAbs, s2, trivial, ?_⟩
        simp [q1, q2, q3, u, hm1]
        split <;> omega
      · refine ⟨1 + v, s2, trivial, ?_⟩
        simp [q1, q2, q3, u, hm0])
    rw [List.length_range] at hl3
    simp [fTuple]
    refine ⟨ys, rfl, ⟨ds2, rfl⟩, by omega⟩
  have hgo := last ds
  simp only [startI]
  by_cases h0 : T = []
  · subst h0
    simp at hgo ⊢
    exact hgo
  · have hl : 0 < T.length := List.length_pos_iff.mpr h0
    obtain ⟨a, ds1, k1, t1⟩ := tkE ds (n := 2) (by decide)
    by_cases ha : a = 0
    · simp [hl, k1, ha, -kLc_mp]
      generalize hq : kLc _ _ _ _ _ = q
      obtain ⟨ys, ds2, rfl, hsub⟩ := kLc_drawF hq 0 (fun s => .io (.ol (mp .int s))) ds1 iN (by simp) (by simp) (by simp) (by omega) (fun x hx s => by
        obtain ⟨v, s1, q1, w1⟩ := tkE s (n := 2) (by decide)
        exact ⟨decide (v = 0), s1, by simp [q1]⟩)
      have hyl := hsub.length_le
      have hs := ssB_n (l := ys) (by omega)
      have hasc := sorted_nsort ys
      have hnl : (nsort ys).length ≤ 12 := by
        have := sub_len (nsort_nodup ys) (m := ys) fun x hx => by rwa [mem_nsort] at hx
        omega
      have hadd := addT (e := iN) (l := [0]) (m := nsort ys) (by simp; omega)
      have hx := fun i (hi : i < (nsort ys).length + 1) => fIxT (e := iN) (l := 0 :: nsort ys) (i := i) (by simpa using hi)
      have hr := fR1n (show (nsort ys).length ≤ 1000000000 by omega)
      generalize nsort ys = S at *
      simp at hadd
      simp [fTuple, hs, hadd, hr]
      rw [kLd_mapX (fun i => .int ((nt S i - if 0 < i then nt S (i - 1) else 0 : Nat) : Int)) (by simp) (by simp; omega) (fun i hi => by
        have hi := List.mem_range.mp hi
        have h1 := hx (i + 1) (by omega)
        have h2 := hx i (by omega)
        rw [nt_succ] at h1
        simp at h1
        by_cases q : 0 < i
        · have h3 := asc_nt hasc (show i - 1 < i by omega) hi
          have h4 : nt (0 :: S) i = nt S (i - 1) := by
            have : i = (i - 1) + 1 := by omega
            conv => lhs; rw [this]
            rw [nt_succ]
          rw [h4] at h2
          simp at h2
          simp [h1, h2, q]
          omega
        · have h4 : i = 0 := by omega
          subst h4
          simp at h1 h2
          simp [h1, h2])]
      have e : mp (fun i : Nat => PyData.int ((nt S i - if 0 < i then nt S (i - 1) else 0 : Nat) : Int)) (List.range S.length) = mp iN (lay S) := mp_natmap
      have hsl := slT_to (ds := mp iN (lay S)) (i := 5) (by decide)
      rw [e]
      simp at hsl
      simp [hsl]
      refine ⟨(lay S).take 5, rfl, ⟨ds2, rfl⟩, by simp; omega⟩
    · have hgo := last ds1
      simp at hgo
      simp [hl, k1, ha]
      exact hgo
end Vl

-- M55h
set_option Elab.async false
set_option linter.all false
set_option maxRecDepth 100000
set_option maxHeartbeats 4000000
namespace Vl
open PySem L2
theorem lsetT_n {l : List Nat} (h : l.length < 4000) : fLSet (.tuple (mp iN l)) = some (.int ((nsort l).length : Int)) := by
  have e : mp iN l = mp .int (l.map fun (n : Nat) => (n : Int)) := iN_cast l
  rw [e, mp_map, fLSet_tuple (by rw [List.length_map]; omega)]
  have : (usort (l.map fun (n : Nat) => (n : Int))).length = (nsort l).length := by
    unfold nsort
    simp
  rw [this]
def PT : Nat := 2000000000000000000000000000000000000000000000000000000000000
theorem D_told_ok (ds : List Int) {ns : List Int} (hns : ns.length ≤ 63) {T : List Nat} (hT : T.length ≤ 12) (hpos : ∀ t ∈ T, 0 < t ∧ t < 2000000000000000000000000000000000000000000000000000000000000) : ∃ ds', D_law_is_told (.ol (mp .int ds)) [.list (mp .int ns), .tuple (mp iN T)] = some (.bool true, .ol (mp .int ds')) := by
  suffices hh : ∃ d0 o', D_law_is_told (.ol (mp .int ds)) [.list (mp .int ns), .tuple (mp iN T)] = some (d0, o') ∧ ∃ ds', d0 = .bool true ∧ o' = .ol (mp .int ds') by
    obtain ⟨d0, o', h1, ds', rfl, rfl⟩ := hh
    exact ⟨ds', h1⟩
  refine runI_poE rfl (Nat.zero_le _) ?_
  unfold b_law_is_told
  have hr3 := fR1n (show 3 ≤ 1000000000 by omega)
  simp at hr3
  simp only [startI]
  simp [hr3]
  refine Po_rgX [0] [3, 14, 15] [4, 5] (fun i ss => ∃ ds : List Int, ss = [.io (.ol (mp .int ds))]) [.io (.ol (mp .int ds))] ⟨_, rfl⟩ (by simp) (by simp) (by simp) ?_ ?_
  · rintro S Bk hS hB ζ ξ i _ hi ⟨ds, rfl⟩
    obtain ⟨L, ds1, k1, hL⟩ := D_layers_ok ds hns hT
    have h1 := fun t => D_tkn_ok (L := L) (t := t) (by omega)
    have h2 := D_taken_ok (L := L) (T := T) (by omega) (by omega)
    have h3 := D_got_ok (L := L) (T := T) (by omega) (by omega)
    have h4 := same_ok (gd_mN (n := 10) (l := T.map (tkn L)) (by simp; omega))
    have h5 := same_ok (gd_mN (n := 10) (l := T.map (got L)) (by simp; omega))
    simp [k1]
    rw [kLd_mapX (fun t => pr iN iN (tkn L t, got L t)) (by simp) (by omega) (fun t ht => by simp [h1])]
    have e1 : mp (fun t => pr iN iN (tkn L t, got L t)) T = mp (pr iN iN) (T.map fun t => (tkn L t, got L t)) := by rw [mp_of_map]
    have e2 : (T.map fun t => (tkn L t, got L t)).map (fun p => p.1) = T.map (tkn L) := by rw [List.map_map]; rfl
    have e3 : (T.map fun t => (tkn L t, got L t)).map (fun p => p.2) = T.map (got L) := by rw [List.map_map]; rfl
    have e4 : (T.map fun t => (tkn L t, got L t)).length ≤ 12 := by simp; omega
    rw [e1]
    generalize (T.map fun t => (tkn L t, got L t)) = PL at *
    obtain ⟨R1, hR1⟩ := opq (PyData.tuple (mp iN (T.map (tkn L))))
    obtain ⟨R2, hR2⟩ := opq (PyData.tuple (mp iN (T.map (got L))))
    rw [← hR1] at h2 h4
    rw [← hR2] at h3 h5
    have f1 : fTuple [.list (mp iN (PL.map fun p => p.1))] = some (.val R1) := by rw [hR1, e2]; rfl
    have f2 : fTuple [.list (mp iN (PL.map fun p => p.2))] = some (.val R2) := by rw [hR2, e3]; rfl
    have e5 : mp (fun p : Nat × Nat => PyData.int (p.1 : Int)) PL = mp iN (PL.map fun p => p.1) := mp_natmap
    have e6 : mp (fun p : Nat × Nat => PyData.int (p.2 : Int)) PL = mp iN (PL.map fun p => p.2) := mp_natmap
    simp [h2]
    rw [kLd_mapX (fun p : Nat × Nat => .int (p.1 : Int)) (by simp) (by omega) (fun p hp => by simp), e5]
    generalize mp iN (PL.map fun p => p.1) = Z1 at *
    simp [f1, h4, h3]
    rw [kLd_mapX (fun p : Nat × Nat => .int (p.2 : Int)) (by simp) (by omega) (fun p hp => by simp), e6]
    generalize mp iN (PL.map fun p => p.2) = Z2 at *
    simp [f2, h5]
    refine hS _ [.io (.ol (mp .int ds1))] _ ⟨_, rfl⟩ ?_ ?_ ?_ <;> simp
  · rintro ζ ξ _ ⟨ds, rfl⟩
    have ha := addT (e := iN) (l := [0]) (m := T) (by simp; omega)
    have ha : fAdd (.tuple [.int 0]) (.tuple (mp iN T)) = some (.val (.tuple (mp iN (0 :: T)))) := ha
    have hmx := mx_nT (l := 0 :: T) (by simp)
    have ha2 := addT1n (l := T) (x := mxN (0 :: T)) (by omega)
    have hmn := mn_nT (l := T ++ [mxN (0 :: T)]) (by simp)
    have hms := mxN_spec (l := 0 :: T) (by simp)
    have hmm : mnN (T ++ [mxN (0 :: T)]) = if T = [] then 0 else mnN T := by
      by_cases q : T = []
      · subst q; decide
      · rw [if_neg q]
        obtain ⟨g1, g2, -⟩ := mnN_spec q
        refine mnN_uniq (by simp [g1]) fun y hy => ?_
        rcases List.mem_append.mp hy with hy | hy
        · exact g2 y hy
        · rw [List.mem_singleton] at hy
          rw [hy]; exact hms.2.1 _ (by simp [g1])
    rw [hmm] at hmn
    have h1 := D_single_ok (T := T) (by omega)
    have h2 := D_lost_ok (T := T) (by omega)
    have hsum : fSumB [.tuple (mp iN T)] = some (.int (T.sum : Int)) := by rw [sum_nT, sum_cast]
    have hslow : (if T = [] then 0 else mnN T) < 2000000000000000000000000000000000000000000000000000000000000 := by
      split
      · decide
      · rename_i q
        exact (hpos _ (mnN_spec q).1).2
    have hmu := fMul_int (i := ((if T = [] then 0 else mnN T : Nat) : Int)) (j := (T.length : Int)) (mulOk_r (by omega))
    have hls := lsetT_n (l := T) (by omega)
    obtain ⟨b2, hb2⟩ := isB_exists T 2
    have hDl : (nsort T).length ≤ 12 := by
      have := sub_len (nsort_nodup T) (m := T) fun x hx => by rwa [mem_nsort] at hx
      omega
    have hbs := fun (m : Nat) (hm : m ≤ 1000) (b : Sc) (hb : IsB T m b) => D_best_ok hT hm hb
    have hlb := fun (m : Nat) (hm : m ≤ 1000) (b : Sc) (hb : IsB T m b) => D_lbest_ok hT hm hb
    have hwo := fun b : Int => D_without_ok (T := T) (b := b) (by omega)
    have hTx := fun i (hi : i < T.length) => fIxT (e := iN) (l := T) (i := i) hi
    obtain ⟨sl, hsl⟩ := opq (if T = [] then 0 else mnN T)
    simp only [← hsl] at hmn h1 h2 hslow hmu
    obtain ⟨T0, hT0⟩ := opq (PyData.tuple (mp iN (0 :: T)))
    rw [← hT0] at ha hmx
    obtain ⟨T1, hT1⟩ := opq (PyData.tuple (mp iN (T ++ [mxN (0 :: T)])))
    rw [← hT1] at ha2 hmn
    generalize mxN (0 :: T) = top at *
    have g1 := fun i : Int => same_ok (show gd 12 (PyData.int i) = true from rfl)
    have g2 := same_ok (show gd 12 PyData.none = true from rfl)
    obtain ⟨q, hq1, hq2, hq3⟩ : ∃ q : Nat, q ≤ 3 ∧ (0 < q → 0 < T.length) ∧ fMulA (.int 3) (.int (if 0 < T.length then 1 else 0)) = some (.val (.int (q : Int))) := by
      by_cases z : 0 < T.length
      · rw [if_pos z]
        exact ⟨3, by decide, fun _ => z, fMul_int (i := 3) (j := 1) (by decide)⟩
      · rw [if_neg z]
        exact ⟨0, by decide, fun h => absurd h (by decide), fMul_int (i := 3) (j := 0) (by decide)⟩
    have hrq := fR1n (show q ≤ 1000000000 by omega)
    simp [ha, hmx, ha2, hmn, h1, h2, hsum, hmu, g1, hq3, hrq]
    refine Po_rgX [0] [7, 14] [8, 9] (fun i ss => ∃ ds : List Int, ss = [.io (.ol (mp .int ds))]) [.io (.ol (mp .int ds))] ⟨_, rfl⟩ (by simp) (by simp) (by simp) ?_ ?_
    · rintro S Bk hS hB ζ2 ξ2 i _ hi ⟨ds, rfl⟩
      have hl := hq2 (by omega)
      obtain ⟨v, ds1, k1, t1⟩ := tkE ds (n := (T.length : Int)) (by omega)
      obtain ⟨w, ds2, k2, t2⟩ := tkE ds1 (n := 3) (by decide)
      have e1 := hTx v (by omega)
      obtain ⟨bd, hbd⟩ := opq (((nt T v : Nat) : Int) + (w : Int) - 1)
      have e2 := hwo bd
      have hfl := List.length_filter_le (fun (t : Nat) => decide ((t : Int) < bd)) T
      obtain ⟨Z, hZ⟩ := opq (T.filter fun (t : Nat) => decide ((t : Int) < bd))
      rw [← hZ] at e2 hfl
      simp at e1
      simp [k1, k2, e1, ← hbd]
      rw [kLd_ifX (fun t : Nat => decide ((t : Int) < bd)) iN (by simp) (by omega) (fun t ht => by simp), ← hZ]
      by_cases z : Z.length = T.length
      · rw [if_neg (by omega)] at e2
        simp [e2, z, g2]
        refine hS _ [.io (.ol (mp .int ds2))] _ ⟨_, rfl⟩ ?_ ?_ ?_ <;> simp
      · rw [if_pos (by omega)] at e2
        simp [e2, z, g1]
        refine hS _ [.io (.ol (mp .int ds2))] _ ⟨_, rfl⟩ ?_ ?_ ?_ <;> simp
    · rintro ζ2 ξ2 _ ⟨ds, rfl⟩
      obtain ⟨a, ds1, k1, t1⟩ := tkE ds (n := 6) (by decide)
      obtain ⟨c, ds2, k2, t2⟩ := tkE ds1 (n := 3) (by decide)
      have hu1 : ∀ (m : Nat) (b : Sc), IsB T m b → (nsort T).length ≤ m → b.1 = -(T.sum : Int) := fun m b hb h => hb.all h
      obtain ⟨u, hu⟩ := opq (nsort T).length
      simp only [← hu] at hls hDl hu1
      have hlst : [PyData.int 0, .int 1, .int 2, .int (a : Int), .int (u : Int), .int ((u : Int) + 1 + (c : Int))] = mp iN [0, 1, 2, a, u, u + 1 + c] := by simp
      simp [hls, k1, k2]
      rw [hlst]
      refine Po_forX [10] [12] [13] (fun pre ss => ∃ x : Int, ss = [.dur (.int x)] ∧ (b2.1 ≤ x ∨ (2 < u ∧ 4 ≤ pre.length))) [.dur (.int 0)] ⟨0, rfl, .inl ?_⟩ (by simp) (by simp) (by simp) ?_ ?_
      · obtain ⟨L, -, -, -, e⟩ := hb2.is fun t ht => (hpos t ht).1
        rw [e]
        show -(tot L T : Int) ≤ 0
        omega
      · rintro S Bk hS hB ζ3 ξ3 pre m suf _ hl ⟨x, rfl, hx⟩
        have hpl : pre.length ≤ 5 := by have := congrArg List.length hl; simp at this; omega
        have hm : m ≤ 1000 := by
          have : m ∈ [0, 1, 2, a, u, u + 1 + c] := by rw [hl]; simp
          simp at this
          omega
        obtain ⟨b, hb⟩ := isB_exists T m
        have e1 := hbs m hm b hb
        have e2 := hlb m hm b hb
        have e3 := same_ok (show gd 12 (.tuple (mp iN b.2.2)) = true from gd_mN (by
          obtain ⟨L, -, -, h3, e⟩ := hb.is fun t ht => (hpos t ht).1
          rw [e]
          show L.length ≤ 1000000
          omega))
        simp at e2
        simp [e1, e2, e3]
        have hm2 : nt [0, 1, 2, a, u, u + 1 + c] pre.length = m := by
          rw [hl, nt_app_r (Nat.le_refl _), Nat.sub_self, nt_zero]
        have hpc : pre.length = 0 ∨ pre.length = 1 ∨ pre.length = 2 ∨ pre.length = 3 ∨ pre.length = 4 ∨ pre.length = 5 := by omega
        have hJ : b2.1 ≤ b.1 ∨ (2 < u ∧ 4 ≤ (pre ++ [m]).length) := by
          by_cases z : m ≤ 2
          · exact .inl (hb.mono hb2 z)
          · by_cases y : u ≤ 2
            · left
              rw [hu1 m b hb (by omega), hu1 2 b2 hb2 y]
              exact Int.le_refl _
            · refine .inr ⟨by omega, ?_⟩
              simp
              rcases hpc with h | h | h | h | h | h <;> rw [h] at hm2 <;> simp at hm2 <;> omega
        have hcheck : m = 2 → ¬ x < b.1 := by
          rintro rfl
          have := hb.uniq hb2
          subst this
          rcases hx with hx | ⟨h1, h2⟩
          · omega
          · rcases hpc with h | h | h | h | h | h <;> rw [h] at hm2 <;> simp at hm2 <;> omega
        have hcheck2 : u ≤ m → b.1 = -(T.sum : Int) := hu1 m b hb
        have hgo : ∀ as', _ → _ → _ → S (pre ++ [m]) as' := fun as' => hS (pre ++ [m]) [.dur (.int b.1)] as' ⟨b.1, rfl, hJ⟩
        have hd : (decide (m = 2) && decide (x < b.1)) = false := by
          by_cases z : m = 2
          · simp [z, hcheck z]
          · simp [z]
        rw [hd]
        by_cases z : u ≤ m
        · have hsb := hcheck2 z
          simp [z, hsum, hsb]
          rw [hsb] at hgo
          refine hgo _ ?_ ?_ ?_ <;> simp [hsb]
        · simp [z]
          refine hgo _ ?_ ?_ ?_ <;> simp
      · rintro ζ3 ξ3 _ ⟨x, rfl, hx⟩
        simp
        exact ⟨_, rfl⟩
end Vl

-- Mk55
set_option Elab.async false
set_option linter.all false
set_option maxRecDepth 100000
set_option maxHeartbeats 4000000
namespace Vl
open PySem L2
def tkC (L : List Nat) (t : Nat) : Nat := ((List.range L.length).filter fun i => decide (pfx L (i + 1) ≤ t)).length
theorem tkC_eq (L : List Nat) (t : Nat) : tkn L t = tkC L t := by
  have hk := (tkn_ok L t).le
  have h : (List.range L.length).filter (fun i => decide (pfx L (i + 1) ≤ t)) = List.range (tkn L t) := by
    rw [← nsort_of_asc (asc_filter (p := fun i => decide (pfx L (i + 1) ≤ t)) (asc_range L.length)), ← nsort_of_asc (asc_range (tkn L t))]
    refine nsort_congr fun i => ?_
    rw [List.mem_filter, List.mem_range, List.mem_range]
    constructor
    · rintro ⟨h1, h2⟩
      have := (tkn_le (t := t) (show i + 1 ≤ L.length from h1)).mpr (by simpa using h2)
      omega
    · intro h1
      have := (tkn_le (L := L) (t := t) (i := i + 1) (by omega)).mp h1
      exact ⟨by omega, by simpa using this⟩
  unfold tkC
  rw [h, List.length_range]
def gotC (L : List Nat) (t : Nat) : Nat := pfx L (tkC L t)
theorem gotC_eq (L : List Nat) : got L = gotC L := funext fun t => by unfold got gotC; rw [tkC_eq]
def scrC (T L : List Nat) : Sc := (-((T.map (gotC L)).sum : Int), (L.length : Int), L)
theorem scrC_eq (T L : List Nat) : scr T L = scrC T L := by unfold scr scrC tot; rw [gotC_eq]
theorem isB_dec {T D : List Nat} {m : Nat} {b : Sc} (hD : D.Pairwise (· < ·)) (h : ∀ x, x ∈ D ↔ x ∈ T) (hb : b ∈ (ssb m D).map (fun S => scrC T (lay S)) ∧ ∀ y ∈ (ssb m D).map (fun S => scrC T (lay S)), ltT3 y b = false) : IsB T m b := by
  have e : nsort T = D := nsort_eq hD fun x => (h x).symm
  have e2 : (fun S => scr T (lay S)) = fun S => scrC T (lay S) := funext fun S => scrC_eq _ _
  unfold IsB
  rw [e, e2]
  exact hb
theorem true_all (ns : List Int) (hn : ns.length ≤ 63) : D_law [.list (ns.map .int)] = some (.val (.bool true)) := by
  obtain ⟨ds0, hd⟩ := draws_ok hn
  refine runP_po rfl ?_
  unfold b_law
  rw [← mp_map]
  obtain ⟨T, ds1, k1, hT, hpos⟩ := D_takes_ok ds0 hn
  obtain ⟨ds2, k2⟩ := D_told_ok ds1 hn hT hpos
  obtain ⟨a, ds3, k3, t3⟩ := tkE ds2 (n := 5) (by decide)
  have hr := fR1n (show a ≤ 1000000000 by omega)
  simp [startA, hd, k1, k2, k3, hr, -kLc_mp]
  generalize hq : kLc _ _ _ _ _ = q
  obtain ⟨F, ds4, rfl, hl3, -, hP⟩ := kLc_drawX hq 1 (fun s => .own (.ol (mp .int s))) ds3 iN (fun (x : Nat) (y : Nat) => 0 < y ∧ y ≤ 6) (by simp) (by simp) (by simp) (by simp; omega) (fun x hx s => by
    obtain ⟨v, s1, q1, w1⟩ := tkE s (n := 6) (by decide)
    refine ⟨1 + v, s1, ⟨by omega, by omega⟩, ?_⟩
    simp [q1])
  rw [List.length_range] at hl3
  have hF : ∀ y ∈ F, 0 < y ∧ y ≤ 6 := fun y hy => by obtain ⟨_, _, h⟩ := hP y hy; exact h
  have htop : mxN (0 :: F) ≤ 6 := by
    obtain ⟨h1, -, -⟩ := mxN_spec (l := 0 :: F) (by simp)
    rcases List.mem_cons.mp h1 with h | h
    · omega
    · exact (hF _ h).2
  have hlst : [PyData.int 0, .int 1, .int 2, .int 3] = mp iN [0, 1, 2, 3] := by simp
  simp [fTuple]
  rw [hlst]
  refine Po_forX [] [3] [] (fun pre ss => ss = []) [] rfl (by simp) (by simp) (by simp) ?_ ?_
  · rintro S Bk hS hB ζ ξ pre m suf _ hl rfl
    have hm : m ≤ 3 := by
      have : m ∈ [0, 1, 2, 3] := by rw [hl]; simp
      simp at this
      omega
    obtain ⟨b, hb⟩ := isB_exists F m
    have e1 := D_any_ok (by omega) (fun t ht => (hF t ht).1) htop hm hb
    have e2 := D_lbest_ok (by omega) (by omega) hb
    have e3 := D_best_ok (by omega) (by omega) hb
    have e4 := ne_t3 b
    have e5 := same_ok (show gd 12 (.tuple (mp iN b.2.2)) = true from gd_mN (by
      obtain ⟨L, -, -, h3, e⟩ := hb.is fun t ht => (hF t ht).1
      rw [e]
      show L.length ≤ 1000000
      omega))
    simp at e1 e2 e4
    simp [e1, e2, e3, e4, e5]
    refine hS _ [] _ rfl ?_ ?_ ?_ <;> simp
  · rintro ζ ξ _ rfl
    have b1 : IsB [5] 3 (-5, 1, [5]) := isB_dec (D := [5]) (by decide) (by simp) (by decide)
    have b2 : IsB [1, 2, 4, 4] 2 (-10, 2, [1, 3]) := isB_dec (D := [1, 2, 4]) (by decide) (by simp) (by decide)
    have b3 : IsB [] 4 (0, 0, []) := isB_dec (D := []) (by decide) (by simp) (by decide)
    have f1 := D_best_ok (T := [5]) (m := 3) (by decide) (by decide) b1
    have f2 := D_best_ok (T := [1, 2, 4, 4]) (m := 2) (by decide) (by decide) b2
    have f3 := D_best_ok (T := []) (m := 4) (by decide) (by decide) b3
    have f4 := D_taken_ok (L := [2, 3, 1]) (T := [1, 2, 4, 5, 6]) (by decide) (by decide)
    have f5 := D_got_ok (L := [2, 3, 1]) (T := [1, 2, 4, 5, 6]) (by decide) (by decide)
    rw [show [1, 2, 4, 5, 6].map (tkn [2, 3, 1]) = [0, 1, 1, 2, 3] by
      rw [show tkn [2, 3, 1] = tkC [2, 3, 1] from funext fun t => tkC_eq _ t]; decide] at f4
    rw [gotC_eq, show [1, 2, 4, 5, 6].map (gotC [2, 3, 1]) = [0, 2, 2, 5, 6] by decide] at f5
    have f6 := D_single_ok (T := []) (by decide)
    have f7 := D_without_ok (T := [3, 3]) (b := 4) (by decide)
    rw [show ([3, 3].filter fun (t : Nat) => decide ((t : Int) < 4)).length = 2 by decide] at f7
    simp at f1 f2 f3 f4 f5 f6 f7
    simp [f1, f2, f3, f4, f5, f6, f7, same_ok]
end Vl

-- Wk55
set_option Elab.async false
set_option linter.all false
set_option maxRecDepth 100000
set_option maxHeartbeats 4000000
namespace Vl
open PySem L2
def top (i : Nat) : Stmt := PySem.Challenge.pw_heardbyall_k55_layers_for_hearers.main.body.getD i (.Pass ⟨0, 0, 0, 0⟩)
structure Bt (mg : Str → Option Value) : Prop where
  abs : mg "abs" = none
  bool : mg "bool" = none
  int : mg "int" = none
  isinstance : mg "isinstance" = none
  len : mg "len" = none
  list : mg "list" = none
  max : mg "max" = none
  min : mg "min" = none
  range : mg "range" = none
  set : mg "set" = none
  sorted : mg "sorted" = none
  str : mg "str" = none
  sum : mg "sum" = none
  tuple : mg "tuple" = none
section
variable {P : Program} {w : World} {K : Fg} {mg : Str → Option Value} {base : Heap}
theorem sc_layers_taken : FnScope ["layers", "takes", "found", "take", "many", "rest"] ["layers", "takes"] (defScope (top 1)) := ⟨rfl, rfl, rfl, by decide +kernel, rfl, by decide +kernel, by decide +kernel⟩
theorem ok_layers_taken {fa : Addr} {fd : FuncData} (Fu : Fun K "layers_taken" "layers_taken" (top 1) fa fd) (hm : mg "layers_taken" = some (.ref fa)) (hb : Binds K fd ["layers", "takes"] []) (B : Bt mg)  : Fn P w K mg base 1 "layers_taken" D_layers_taken := by
  refine fn_pure Fu hm sc_layers_taken hb (by decide) fun cdv A outer s H E hr => ?_
  have nd := sc_layers_taken.nd
  have hu65 := room65 hr
  exact (ess_cons (es_set (i := 2) nd (ef_lst ea_nil))
  (ess_cons (es_for rfl (ei_seq (ev_nD (i := 1))) (eg_n (i := 3) nd) (ess_cons (es_par (i := 4) (j := 5) rfl nd (ea_cons ev_int (ea_cons (ev_nD (i := 3)) ea_nil)))
  (ess_cons (es_while ((ew_and (et_cmp (op_lt.or (op_ltD hu65)) (r2s_cmpD r2s_lt) ((ev_nI (i := 4)).toB) ((ev_callB call_len rns_len B.len (by decide +kernel) (ea_cons ((ev_nI (i := 0)).toB) ea_nil))).uB (nomark _)) (ew_and1 (et_cmp (op_le.or (op_leD hu65)) (r2s_cmpD r2s_le) ((ef_ix (ev_nI (i := 0)) (ev_nI (i := 4)))).vB ((ev_nI (i := 5)).toB) (nomark _)))).t) (ess_cons (es_augSub (i := 5) nd ((ef_ix (ev_nI (i := 0)) (ev_nI (i := 4)))).vI)
  (ess_one (es_augAdd (i := 4) nd (ev_int).uI))))
  (ess_one (es_expr (ev_mth (i := 2) PySem.F.slot_list_append PySem.F.type_list_append mt_append rm_append (ea_cons (ev_nD (i := 4)) ea_nil)))))))
  (ess_one (es_ret (ef_callTy call_tuple_of rno_tuple B.tuple (by decide +kernel) (ea_cons (ev_nI (i := 2)) ea_nil))))))
theorem sc_got_by : FnScope ["layers", "takes", "many"] ["layers", "takes"] (defScope (top 2)) := ⟨rfl, rfl, rfl, by decide +kernel, rfl, by decide +kernel, by decide +kernel⟩
theorem ok_got_by {fa : Addr} {fd : FuncData} (Fu : Fun K "got_by" "got_by" (top 2) fa fd) (hm : mg "got_by" = some (.ref fa)) (hb : Binds K fd ["layers", "takes"] []) (B : Bt mg) (F_layers_taken : Fn P w K mg base 1 "layers_taken" D_layers_taken) : Fn P w K mg base 2 "got_by" D_got_by := by
  refine fn_pure Fu hm sc_got_by hb (by decide) fun cdv A outer s H E hr => ?_
  have nd := sc_got_by.nd
  exact (ess_one (es_ret (ef_callTy call_tuple_of rno_tuple B.tuple (by decide +kernel) (ea_cons ((ef_lc [("many", 2)] rfl nd (ei_seq ((ef_call F_layers_taken (hr.mono (by decide)) (ea_cons (ev_nD (i := 0)) (ea_cons (ev_nD (i := 1)) ea_nil)))).vI) (by kernel_rfl) (fun _ _ _ _ _ => (eg_n (i := 2) nd)) (fun _ _ _ _ _ => ets_nil) (fun _ _ _ _ _ => (ev_callB ((cr_sum rfl).or (cr_sumT rfl)) rns_sumB B.sum (by decide +kernel) (ea_cons ((ef_sl (ev_nI (i := 0)) eo_n (eo_s (ev_nI (i := 2))))).vB ea_nil))))).vI ea_nil))))
theorem sc_single_rate : FnScope ["takes"] ["takes"] (defScope (top 3)) := ⟨rfl, rfl, rfl, by decide +kernel, rfl, by decide +kernel, by decide +kernel⟩
theorem ok_single_rate {fa : Addr} {fd : FuncData} (Fu : Fun K "single_rate" "single_rate" (top 3) fa fd) (hm : mg "single_rate" = some (.ref fa)) (hb : Binds K fd ["takes"] []) (B : Bt mg)  : Fn P w K mg base 1 "single_rate" D_single_rate := by
  refine fn_pure Fu hm sc_single_rate hb (by decide) fun cdv A outer s H E hr => ?_
  have nd := sc_single_rate.nd
  have hu65 := room65 hr
  exact (ess_one (es_ret ((ev_if (et_cmp (op_gt.or (op_gtD hu65)) (r2s_cmpD r2s_gt) ((ev_callB call_len rns_len B.len (by decide +kernel) (ea_cons ((ev_nI (i := 0)).toB) ea_nil))).uB (ev_int).uB (nomark _)) ((ef_callB (((cr_min rfl).or (cr_minD rfl hu65)).or (cr_minDT rfl hu65)) rno_minB B.min (by decide +kernel) (ea_cons (ev_nI (i := 0)) ea_nil))).vD ev_int)).f))
theorem sc_layers_up_to : FnScope ["sums", "at"] ["sums"] (defScope (top 5)) := ⟨rfl, rfl, rfl, by decide +kernel, rfl, by decide +kernel, by decide +kernel⟩
theorem ok_layers_up_to {fa : Addr} {fd : FuncData} (Fu : Fun K "layers_up_to" "layers_up_to" (top 5) fa fd) (hm : mg "layers_up_to" = some (.ref fa)) (hb : Binds K fd ["sums"] []) (B : Bt mg)  : Fn P w K mg base 1 "layers_up_to" D_layers_up_to := by
  refine fn_pure Fu hm sc_layers_up_to hb (by decide) fun cdv A outer s H E hr => ?_
  have nd := sc_layers_up_to.nd
  have hu65 := room65 hr
  exact (ess_one (es_ret (ef_callTy call_tuple_of rno_tuple B.tuple (by decide +kernel) (ea_cons ((ef_lc [("at", 1)] rfl nd (ei_r1 (l1 := .D) B.range (ea_cons ((ev_callB call_len rns_len B.len (by decide +kernel) (ea_cons ((ev_nI (i := 0)).toB) ea_nil))).uI ea_nil)) (by kernel_rfl) (fun _ _ _ _ _ => (eg_n (i := 1) nd)) (fun _ _ _ _ _ => ets_nil) (fun _ _ _ _ _ => (ev_sub ((ef_ix (ev_nI (i := 0)) (ev_nI (i := 1)))).vI (ev_if (et_cmp (op_gt.or (op_gtD hu65)) (r2s_cmpD r2s_gt) ((ev_nI (i := 1)).toB) (ev_int).uB (nomark _)) ((ef_ix (ev_nI (i := 0)) ((ev_sub (ev_nI (i := 1)) (ev_int).uI)).uI)).vI (ev_int).uI))))).vI ea_nil))))
theorem sc_best_layers : FnScope ["takes", "many", "sets", "take", "rows", "some", "row"] ["takes", "many"] (defScope (top 6)) := ⟨rfl, rfl, rfl, by decide +kernel, rfl, by decide +kernel, by decide +kernel⟩
theorem ok_best_layers {fa : Addr} {fd : FuncData} (Fu : Fun K "best_layers" "best_layers" (top 6) fa fd) (hm : mg "best_layers" = some (.ref fa)) (hb : Binds K fd ["takes", "many"] []) (B : Bt mg) (F_got_by : Fn P w K mg base 2 "got_by" D_got_by) (F_layers_up_to : Fn P w K mg base 1 "layers_up_to" D_layers_up_to) : Fn P w K mg base 3 "best_layers" D_best_layers := by
  refine fn_pure Fu hm sc_best_layers hb (by decide) fun cdv A outer s H E hr => ?_
  have nd := sc_best_layers.nd
  have hu65 := room65 hr
  exact (ess_cons (es_set (i := 2) nd (ef_lst (ea_cons ((ef_tup ea_nil)).vD ea_nil)))
  (ess_cons (es_for rfl (ei_seq ((ef_sortedSetB rfl B.sorted B.set hu65 (ev_nI (i := 0)))).vD) (eg_n (i := 3) nd) (ess_one (es_augL (i := 2) nd ((ef_lc [("some", 5)] rfl nd (ei_seq (ev_nI (i := 2))) (by kernel_rfl) (fun _ _ _ _ _ => (eg_n (i := 5) nd)) (fun _ _ _ _ _ => (ets_one (et_cmp (op_lt.or (op_ltD hu65)) (r2s_cmpD r2s_lt) ((ev_callB call_len rns_len B.len (by decide +kernel) (ea_cons ((ev_nI (i := 5)).toB) ea_nil))).uB ((ev_nI (i := 1)).toB) (nomark _)))) (fun _ _ _ _ _ => ((ef_add (ev_nI (i := 5)) ((ef_tup (ea_cons (ev_nD (i := 3)) ea_nil))).vI)).vD))).vD)))
  (ess_cons (es_setLc (i := 4) [("some", 5)] rfl nd (ei_seq (ev_nI (i := 2))) (by kernel_rfl) (fun _ _ _ _ _ => (eg_n (i := 5) nd)) (fun _ _ _ _ _ => ets_nil) (fun _ _ _ _ _ => ((ef_call F_layers_up_to (hr.mono (by decide)) (ea_cons (ev_nD (i := 5)) ea_nil))).vD) (sw_true rfl rfl rfl (by decide +kernel)))
  (ess_one (es_ret (ef_ix ((ef_callB (((cr_min rfl).or (cr_minD rfl hu65)).or (cr_minDT rfl hu65)) rno_minB B.min (by decide +kernel) (ea_cons ((ef_lc [("row", 6)] rfl nd (ei_seq (ev_nI (i := 4))) (by kernel_rfl) (fun _ _ _ _ _ => (eg_n (i := 6) nd)) (fun _ _ _ _ _ => ets_nil) (fun _ _ _ _ _ => ((ef_tup (ea_cons (ev_neg ((ev_callB ((cr_sum rfl).or (cr_sumT rfl)) rns_sumB B.sum (by decide +kernel) (ea_cons ((ef_call F_got_by (hr.mono (by decide)) (ea_cons (ev_nD (i := 6)) (ea_cons (ev_nD (i := 0)) ea_nil)))).vB ea_nil))).uI) (ea_cons (ev_callB call_len rns_len B.len (by decide +kernel) (ea_cons ((ev_nI (i := 6)).toB) ea_nil)) (ea_cons (ev_nD (i := 6)) ea_nil))))).vD))).vI ea_nil))).vI (ev_int).uI))))))
theorem sc_without_slowest : FnScope ["takes", "bound", "slow", "take"] ["takes", "bound"] (defScope (top 7)) := ⟨rfl, rfl, rfl, by decide +kernel, rfl, by decide +kernel, by decide +kernel⟩
theorem ok_without_slowest {fa : Addr} {fd : FuncData} (Fu : Fun K "without_slowest" "without_slowest" (top 7) fa fd) (hm : mg "without_slowest" = some (.ref fa)) (hb : Binds K fd ["takes", "bound"] []) (B : Bt mg)  : Fn P w K mg base 1 "without_slowest" D_without_slowest := by
  refine fn_pure Fu hm sc_without_slowest hb (by decide) fun cdv A outer s H E hr => ?_
  have nd := sc_without_slowest.nd
  have hu65 := room65 hr
  exact (ess_cons (es_set (i := 2) nd ((ev_callB call_len rns_len B.len (by decide +kernel) (ea_cons ((ef_lc [("take", 3)] rfl nd (ei_seq (ev_nI (i := 0))) (by kernel_rfl) (fun _ _ _ _ _ => (eg_n (i := 3) nd)) (fun _ _ _ _ _ => (ets_one (et_cmp (op_lt.or (op_ltD hu65)) (r2s_cmpD r2s_lt) ((ev_nI (i := 3)).toB) ((ev_nI (i := 1)).toB) (nomark _)))) (fun _ _ _ _ _ => (ev_nD (i := 3))))).vB ea_nil))).f)
  (ess_one (es_ret ((ev_if (et_cmp (op_lt.or (op_ltD hu65)) (r2s_cmpD r2s_lt) ((ev_nI (i := 2)).toB) ((ev_callB call_len rns_len B.len (by decide +kernel) (ea_cons ((ev_nI (i := 0)).toB) ea_nil))).uB (nomark _)) (ev_nD (i := 2)) ev_non)).f)))
theorem sc_law_draws : FnScope ["script", "many", "cells", "rest", "draws", "k", "at", "once", "cell"] ["script", "many"] (defScope (top 9)) := ⟨rfl, rfl, rfl, by decide +kernel, rfl, by decide +kernel, by decide +kernel⟩
theorem ok_law_draws {fa : Addr} {fd : FuncData} (Fu : Fun K "_law_draws" "_law_draws" (top 9) fa fd) (hm : mg "_law_draws" = some (.ref fa)) (hb : Binds K fd ["script", "many"] []) (B : Bt mg)  : Fn P w K mg base 1 "_law_draws" D_law_draws := by
  refine fn_pure Fu hm sc_law_draws hb (by decide) fun cdv A outer s H E hr => ?_
  have nd := sc_law_draws.nd
  have hu64 := hr.units
  have hu65 := room65 hr
  exact (ess_cons (es_set (i := 2) nd (ef_add ((ef_lc [("cell", 8)] rfl nd (ei_seq (ev_nI (i := 0))) (by kernel_rfl) (fun _ _ _ _ _ => (eg_n (i := 8) nd)) (fun _ _ _ _ _ => ets_nil) (fun _ _ _ _ _ => (ev_callTy call_int1 rns_int B.int (by decide +kernel) (ea_cons ((ev_nI (i := 8)).toB) ea_nil))))).vI ((ef_mulA ((ef_lst (ea_cons ev_int ea_nil))).vI ((ev_callTy call_int1 rns_int B.int (by decide +kernel) (ea_cons ((ev_cmp (op_eqD hu64) r2s_eq ((ev_callB call_len rns_len B.len (by decide +kernel) (ea_cons ((ev_nI (i := 0)).toB) ea_nil))).uB (ev_int).uB (nomark _))).uB ea_nil))).uI)).vI))
  (ess_cons (es_set (i := 3) nd (ef_callTy call_list_of rno_list B.list (by decide +kernel) (ea_cons (ev_nI (i := 2)) ea_nil)))
  (ess_cons (es_set (i := 4) nd (ef_lst ea_nil))
  (ess_cons (es_for rfl (ei_r1 (l1 := .D) B.range (ea_cons (ev_nI (i := 1)) ea_nil)) (eg_n (i := 5) nd) (ess_cons (es_set (i := 6) nd ((ev_mod (ev_nI (i := 5)) ((ev_callB call_len rns_len B.len (by decide +kernel) (ea_cons ((ev_nI (i := 2)).toB) ea_nil))).uI)).f)
  (ess_one (es_if ((ew_and (et_cmp (op_ge.or (op_geD hu65)) (r2s_cmpD r2s_ge) ((ef_ix (ev_nI (i := 2)) (ev_nI (i := 6)))).vB ((ev_pow (ev_int).uI (ev_int).uI)).uB (nomark _)) (ew_and1 (et_cmp (op_gt.or (op_gtD hu65)) (r2s_cmpD r2s_gt) ((ef_ix (ev_nI (i := 3)) (ev_nI (i := 6)))).vB (ev_int).uB (nomark _)))).t) (ess_cons (es_expr (ev_mth (i := 4) PySem.F.slot_list_append PySem.F.type_list_append mt_append rm_append (ea_cons (ev_mod ((ev_callTy call_int1 rns_int B.int (by decide +kernel) (ea_cons ((ef_ix (ev_nI (i := 3)) (ev_nI (i := 6)))).vB ea_nil))).uI (ev_int).uI) ea_nil)))
  (ess_one (es_asgH (ev_div ((ef_ix (ev_nI (i := 3)) (ev_nI (i := 6)))).vI (ev_int).uI) (eh_set (i := 3) (ev_nI (i := 6)))))) (ess_cons (es_set (i := 7) nd ((ev_mod ((ev_callTy call_int1 rns_int B.int (by decide +kernel) (ea_cons ((ef_add ((ef_add ((ef_mulA ((ef_ix (ev_nI (i := 2)) (ev_nI (i := 6)))).vI (ev_int).uI)).vI ((ef_mulA (ev_nI (i := 5)) (ev_int).uI)).vI)).vI (ev_int).uI)).vB ea_nil))).uI (ev_int).uI)).f)
  (ess_one (es_expr (ev_mth (i := 4) PySem.F.slot_list_append PySem.F.type_list_append mt_append rm_append (ea_cons (ev_mod ((ev_callTy call_int1 rns_int B.int (by decide +kernel) (ea_cons ((ef_add ((ef_add ((ef_mulA (ev_nI (i := 7)) (ev_nI (i := 7)))).vI ((ef_mulA (ev_int).uI (ev_nI (i := 7)))).vI)).vI (ev_nI (i := 5)))).vB ea_nil))).uI (ev_int).uI) ea_nil)))))))))
  (ess_cons (es_expr (ev_mth0 (i := 4) PySem.F.slot_list_reverse PySem.F.type_list_reverse mt_reverse rm_rev))
  (ess_one (es_ret (ef_mv (i := 4)))))))))
theorem sc_law_take : FnScope ["draws", "many"] ["draws", "many"] (defScope (top 10)) := ⟨rfl, rfl, rfl, by decide +kernel, rfl, by decide +kernel, by decide +kernel⟩
theorem ok_law_take {fa : Addr} {fd : FuncData} (Fu : Fun K "_law_take" "_law_take" (top 10) fa fd) (hm : mg "_law_take" = some (.ref fa)) (hb : Binds K fd ["draws", "many"] []) (B : Bt mg)  : Fi P w K mg base 1 "_law_take" 0 D_law_take := by
  refine fn_io Fu hm sc_law_take hb (by decide) fun cdv A outer s H E hr => ?_
  have nd := sc_law_take.nd
  have hu64 := hr.units
  exact (ess_cons (es_if (et_cmp (op_eqD hu64) r2s_eq ((ev_callB call_len rns_len B.len (by decide +kernel) (ea_cons ((ev_nI (i := 0)).toB) ea_nil))).uB (ev_int).uB (nomark _)) (ess_one (es_ret (ev_int).f)) ess_nil)
  (ess_one (es_ret ((ev_mod ((ev_callTy call_int1 rns_int B.int (by decide +kernel) (ea_cons (ev_mth0 (i := 0) PySem.F.slot_list_pop PySem.F.type_list_pop mt_pop rm_pop) ea_nil))).uI (ev_nI (i := 1)))).f)))
theorem sc_law_same : FnScope ["actual", "due", "k"] ["actual", "due"] (defScope (top 12)) := ⟨rfl, rfl, rfl, by decide +kernel, rfl, by decide +kernel, by decide +kernel⟩
theorem st_law_same {fa : Addr} {fd : FuncData} (Fu : Fun K "_law_same" "_law_same" (top 12) fa fd) (hm : mg "_law_same" = some (.ref fa)) (hb : Binds K fd ["actual", "due"] []) (B : Bt mg) {kr : Nat} {R : List PD → Option Res} (F_law_same : Fn P w K mg base kr "_law_same" R) : Fn P w K mg base (kr + 1) "_law_same" (runP 3 2 (b_law_same R)) := by
  refine fn_pure Fu hm sc_law_same hb (by decide) fun cdv A outer s H E hr => ?_
  have nd := sc_law_same.nd
  have hu64 := hr.units
  exact (ess_cons (es_if (et_cmp (op_isN.or op_isBl) r2s_isA ((ev_nI (i := 1)).toB) (ev_non).uB (nomark _)) (ess_one (es_ret ((ev_cmp (op_isN.or op_isBl) r2s_isA ((ev_nI (i := 0)).toB) (ev_non).uB (nomark _))).f)) ess_nil)
  (ess_cons (es_if (et_val ((ev_isi tok_bool B.isinstance B.bool (by decide +kernel) ((ev_nI (i := 1)).toB))).uB) (ess_one (es_ret ((ev_and ((ev_isi tok_bool B.isinstance B.bool (by decide +kernel) ((ev_nI (i := 0)).toB))).uB (ev_one (ev_cmp (op_eqD hu64) r2s_eq ((ev_nI (i := 0)).toB) ((ev_nI (i := 1)).toB) (nomark _))))).f)) ess_nil)
  (ess_cons (es_if (et_val ((ev_isi tok_int B.isinstance B.int (by decide +kernel) ((ev_nI (i := 1)).toB))).uB) (ess_one (es_ret ((ev_and ((ev_isi tok_int B.isinstance B.int (by decide +kernel) ((ev_nI (i := 0)).toB))).uB (ev_and ((ev_not ((ev_isi tok_bool B.isinstance B.bool (by decide +kernel) ((ev_nI (i := 0)).toB))).uB)).uB (ev_one (ev_cmp (op_eqD hu64) r2s_eq ((ev_nI (i := 0)).toB) ((ev_nI (i := 1)).toB) (nomark _)))))).f)) ess_nil)
  (ess_cons (es_if (et_val ((ev_isi tok_str B.isinstance B.str (by decide +kernel) ((ev_nI (i := 1)).toB))).uB) (ess_one (es_ret ((ev_and ((ev_isi tok_str B.isinstance B.str (by decide +kernel) ((ev_nI (i := 0)).toB))).uB (ev_one (ev_cmp (op_eqD hu64) r2s_eq ((ev_nI (i := 0)).toB) ((ev_nI (i := 1)).toB) (nomark _))))).f)) ess_nil)
  (ess_cons (es_if ((ew_or (et_not (et_val ((ev_isi tok_tuple B.isinstance B.tuple (by decide +kernel) ((ev_nI (i := 0)).toB))).uB)) (ew_or1 (et_cmp (op_neD hu64) r2s_ne ((ev_callB call_len rns_len B.len (by decide +kernel) (ea_cons ((ev_nI (i := 0)).toB) ea_nil))).uB ((ev_callB call_len rns_len B.len (by decide +kernel) (ea_cons ((ev_nI (i := 1)).toB) ea_nil))).uB (nomark _)))).t) (ess_one (es_ret (ev_bl).f)) ess_nil)
  (ess_cons (es_for rfl (ei_r1 (l1 := .D) B.range (ea_cons ((ev_callB call_len rns_len B.len (by decide +kernel) (ea_cons ((ev_nI (i := 1)).toB) ea_nil))).uI ea_nil)) (eg_n (i := 2) nd) (ess_one (es_if (et_not (et_val ((ef_call F_law_same (hr.mono (Nat.le_refl _)) (ea_cons ((ef_ix (ev_nI (i := 0)) (ev_nI (i := 2)))).vD (ea_cons ((ef_ix (ev_nI (i := 1)) (ev_nI (i := 2)))).vD ea_nil)))).vB)) (ess_one (es_ret (ev_bl).f)) ess_nil)))
  (ess_one (es_ret (ev_bl).f))))))))
theorem ok_law_same {fa : Addr} {fd : FuncData} (Fu : Fun K "_law_same" "_law_same" (top 12) fa fd) (hm : mg "_law_same" = some (.ref fa)) (hb : Binds K fd ["actual", "due"] []) (B : Bt mg) : Fn P w K mg base 13 "_law_same" D_law_same := by
  have key : ∀ k : Nat, Fn P w K mg base (k + 1) "_law_same" (Dn_law_same k) := fun k => by
    induction k with
    | zero => exact fn_zero Fu hm sc_law_same hb
    | succ k ih => exact st_law_same Fu hm hb B ih
  exact key 12
theorem sc_law_taken : FnScope ["layers", "take", "many", "total", "k"] ["layers", "take"] (defScope (top 13)) := ⟨rfl, rfl, rfl, by decide +kernel, rfl, by decide +kernel, by decide +kernel⟩
theorem ok_law_taken {fa : Addr} {fd : FuncData} (Fu : Fun K "_law_taken" "_law_taken" (top 13) fa fd) (hm : mg "_law_taken" = some (.ref fa)) (hb : Binds K fd ["layers", "take"] []) (B : Bt mg)  : Fn P w K mg base 1 "_law_taken" D_law_taken := by
  refine fn_pure Fu hm sc_law_taken hb (by decide) fun cdv A outer s H E hr => ?_
  have nd := sc_law_taken.nd
  have hu64 := hr.units
  have hu65 := room65 hr
  exact (ess_cons (es_set (i := 2) nd (ev_int).f)
  (ess_cons (es_set (i := 3) nd (ev_int).f)
  (ess_cons (es_for rfl (ei_r1 (l1 := .D) B.range (ea_cons ((ev_callB call_len rns_len B.len (by decide +kernel) (ea_cons ((ev_nI (i := 0)).toB) ea_nil))).uI ea_nil)) (eg_n (i := 4) nd) (ess_one (es_if ((ew_and (et_cmp (op_eqD hu64) r2s_eq ((ev_nI (i := 2)).toB) ((ev_nI (i := 4)).toB) (nomark _)) (ew_and1 (et_cmp (op_le.or (op_leD hu65)) (r2s_cmpD r2s_le) ((ef_add (ev_nI (i := 3)) ((ef_ix (ev_nI (i := 0)) (ev_nI (i := 4)))).vI)).vB ((ev_nI (i := 1)).toB) (nomark _)))).t) (ess_cons (es_set (i := 2) nd (ef_add (ev_nI (i := 4)) (ev_int).uI))
  (ess_one (es_set (i := 3) nd (ef_add (ev_nI (i := 3)) ((ef_ix (ev_nI (i := 0)) (ev_nI (i := 4)))).vI)))) ess_nil)))
  (ess_one (es_ret (ef_tup (ea_cons (ev_nD (i := 2)) (ea_cons (ev_nD (i := 3)) ea_nil))))))))
theorem sc_law_total : FnScope ["layers", "takes", "take"] ["layers", "takes"] (defScope (top 14)) := ⟨rfl, rfl, rfl, by decide +kernel, rfl, by decide +kernel, by decide +kernel⟩
theorem ok_law_total {fa : Addr} {fd : FuncData} (Fu : Fun K "_law_total" "_law_total" (top 14) fa fd) (hm : mg "_law_total" = some (.ref fa)) (hb : Binds K fd ["layers", "takes"] []) (B : Bt mg) (F_law_taken : Fn P w K mg base 1 "_law_taken" D_law_taken) : Fn P w K mg base 2 "_law_total" D_law_total := by
  refine fn_pure Fu hm sc_law_total hb (by decide) fun cdv A outer s H E hr => ?_
  have nd := sc_law_total.nd
  exact (ess_one (es_ret ((ev_callB ((cr_sum rfl).or (cr_sumT rfl)) rns_sumB B.sum (by decide +kernel) (ea_cons ((ef_lc [("take", 2)] rfl nd (ei_seq (ev_nI (i := 1))) (by kernel_rfl) (fun _ _ _ _ _ => (eg_n (i := 2) nd)) (fun _ _ _ _ _ => ets_nil) (fun _ _ _ _ _ => ((ef_ix ((ef_call F_law_taken (hr.mono (by decide)) (ea_cons (ev_nD (i := 0)) (ea_cons (ev_nD (i := 2)) ea_nil)))).vI (ev_int).uI)).vD))).vB ea_nil))).f))
theorem sc_law_best : FnScope ["takes", "many", "sums", "take", "rows", "some", "layers", "at"] ["takes", "many"] (defScope (top 15)) := ⟨rfl, rfl, rfl, by decide +kernel, rfl, by decide +kernel, by decide +kernel⟩
theorem ok_law_best {fa : Addr} {fd : FuncData} (Fu : Fun K "_law_best" "_law_best" (top 15) fa fd) (hm : mg "_law_best" = some (.ref fa)) (hb : Binds K fd ["takes", "many"] []) (B : Bt mg) (F_law_total : Fn P w K mg base 2 "_law_total" D_law_total) : Fn P w K mg base 3 "_law_best" D_law_best := by
  refine fn_pure Fu hm sc_law_best hb (by decide) fun cdv A outer s H E hr => ?_
  have nd := sc_law_best.nd
  have hu65 := room65 hr
  exact (ess_cons (es_set (i := 2) nd (ef_lst (ea_cons ((ef_tup ea_nil)).vD ea_nil)))
  (ess_cons (es_for rfl (ei_seq ((ef_sortedSetB rfl B.sorted B.set hu65 (ev_nI (i := 0)))).vD) (eg_n (i := 3) nd) (ess_one (es_set (i := 2) nd (ef_add (ev_nI (i := 2)) ((ef_lc [("some", 5)] rfl nd (ei_seq (ev_nI (i := 2))) (by kernel_rfl) (fun _ _ _ _ _ => (eg_n (i := 5) nd)) (fun _ _ _ _ _ => (ets_one (et_cmp (op_lt.or (op_ltD hu65)) (r2s_cmpD r2s_lt) ((ev_callB call_len rns_len B.len (by decide +kernel) (ea_cons ((ev_nI (i := 5)).toB) ea_nil))).uB ((ev_nI (i := 1)).toB) (nomark _)))) (fun _ _ _ _ _ => ((ef_add (ev_nI (i := 5)) ((ef_tup (ea_cons (ev_nD (i := 3)) ea_nil))).vI)).vD))).vI))))
  (ess_cons (es_set (i := 4) nd (ef_lst ea_nil))
  (ess_cons (es_for rfl (ei_seq (ev_z (i := 2))) (eg_n (i := 5) nd) (ess_cons (es_set (i := 6) nd (ef_callTy call_tuple_of rno_tuple B.tuple (by decide +kernel) (ea_cons ((ef_lc [("at", 7)] rfl nd (ei_r1 (l1 := .D) B.range (ea_cons ((ev_callB call_len rns_len B.len (by decide +kernel) (ea_cons ((ev_nI (i := 5)).toB) ea_nil))).uI ea_nil)) (by kernel_rfl) (fun _ _ _ _ _ => (eg_n (i := 7) nd)) (fun _ _ _ _ _ => ets_nil) (fun _ _ _ _ _ => (ev_sub ((ef_ix (ev_nI (i := 5)) (ev_nI (i := 7)))).vI ((ef_ix ((ef_add ((ef_tup (ea_cons ev_int ea_nil))).vI (ev_nI (i := 5)))).vI (ev_nI (i := 7)))).vI)))).vI ea_nil)))
  (ess_one (es_expr (ev_mth (i := 4) PySem.F.slot_list_append PySem.F.type_list_append mt_append rm_append (ea_cons ((ef_tup (ea_cons (ev_sub (ev_int).uI ((ef_call F_law_total (hr.mono (by decide)) (ea_cons (ev_nD (i := 6)) (ea_cons (ev_nD (i := 0)) ea_nil)))).vI) (ea_cons (ev_callB call_len rns_len B.len (by decide +kernel) (ea_cons ((ev_nI (i := 6)).toB) ea_nil)) (ea_cons (ev_nD (i := 6)) ea_nil))))).vD ea_nil))))))
  (ess_one (es_ret (ef_callB (((cr_min rfl).or (cr_minD rfl hu65)).or (cr_minDT rfl hu65)) rno_minB B.min (by decide +kernel) (ea_cons (ev_nI (i := 4)) ea_nil))))))))
theorem sc_law_any_best : FnScope ["takes", "many", "top", "best", "rows", "step", "longer", "row", "layer"] ["takes", "many"] (defScope (top 16)) := ⟨rfl, rfl, rfl, by decide +kernel, rfl, by decide +kernel, by decide +kernel⟩
theorem ok_law_any_best {fa : Addr} {fd : FuncData} (Fu : Fun K "_law_any_best" "_law_any_best" (top 16) fa fd) (hm : mg "_law_any_best" = some (.ref fa)) (hb : Binds K fd ["takes", "many"] []) (B : Bt mg) (F_law_total : Fn P w K mg base 2 "_law_total" D_law_total) : Fn P w K mg base 3 "_law_any_best" D_law_any_best := by
  refine fn_pure Fu hm sc_law_any_best hb (by decide) fun cdv A outer s H E hr => ?_
  have nd := sc_law_any_best.nd
  have hu65 := room65 hr
  exact (ess_cons (es_set (i := 2) nd (ef_callB (((cr_max rfl).or (cr_maxD rfl hu65)).or (cr_maxDT rfl hu65)) rno_maxB B.max (by decide +kernel) (ea_cons ((ef_add ((ef_tup (ea_cons ev_int ea_nil))).vI (ev_nI (i := 0)))).vI ea_nil)))
  (ess_cons (es_set (i := 3) nd (ef_tup (ea_cons ev_int (ea_cons ev_int (ea_cons ((ef_tup ea_nil)).vD ea_nil)))))
  (ess_cons (es_set (i := 4) nd (ef_lst (ea_cons ((ef_tup ea_nil)).vD ea_nil)))
  (ess_cons (es_for rfl (ei_r1 (l1 := .D) B.range (ea_cons (ev_nI (i := 1)) ea_nil)) (eg_n (i := 5) nd) (ess_cons (es_set (i := 6) nd (ef_lst ea_nil))
  (ess_cons (es_for rfl (ei_seq (ev_z (i := 4))) (eg_n (i := 7) nd) (ess_one (es_set (i := 6) nd (ef_add (ev_nI (i := 6)) ((ef_lc [("layer", 8)] rfl nd (ei_r2 (l1 := .D) B.range (ea_cons (ev_int).uI (ea_cons ((ef_add ((ev_sub (ev_nI (i := 2)) ((ev_callB ((cr_sum rfl).or (cr_sumT rfl)) rns_sumB B.sum (by decide +kernel) (ea_cons ((ev_nI (i := 7)).toB) ea_nil))).uI)).uI (ev_int).uI)).vI ea_nil))) (by kernel_rfl) (fun _ _ _ _ _ => (eg_n (i := 8) nd)) (fun _ _ _ _ _ => ets_nil) (fun _ _ _ _ _ => ((ef_add (ev_nI (i := 7)) ((ef_tup (ea_cons (ev_nD (i := 8)) ea_nil))).vI)).vD))).vI))))
  (ess_cons (es_for rfl (ei_seq (ev_z (i := 6))) (eg_n (i := 7) nd) (ess_one (es_set (i := 3) nd (ef_callB (cr_min2D rfl hu65) rno_min2D B.min (by decide +kernel) (ea_cons (ev_nI (i := 3)) (ea_cons ((ef_tup (ea_cons (ev_sub (ev_int).uI ((ef_call F_law_total (hr.mono (by decide)) (ea_cons (ev_nD (i := 7)) (ea_cons (ev_nD (i := 0)) ea_nil)))).vI) (ea_cons (ev_callB call_len rns_len B.len (by decide +kernel) (ea_cons ((ev_nI (i := 7)).toB) ea_nil)) (ea_cons (ev_nD (i := 7)) ea_nil))))).vI ea_nil))))))
  (ess_one (es_set (i := 4) nd ((ev_z (i := 6))).f))))))
  (ess_one (es_ret ((ev_nD (i := 3))).f))))))
theorem sc_law_cell : FnScope ["script", "at", "cell"] ["script", "at"] (defScope (top 11)) := ⟨rfl, rfl, rfl, by decide +kernel, rfl, by decide +kernel, by decide +kernel⟩
theorem ok_law_cell {fa : Addr} {fd : FuncData} (Fu : Fun K "_law_cell" "_law_cell" (top 11) fa fd) (hm : mg "_law_cell" = some (.ref fa)) (hb : Binds K fd ["script", "at"] []) (B : Bt mg)  : Fn P w K mg base 1 "_law_cell" D_law_cell := by
  refine fn_pure Fu hm sc_law_cell hb (by decide) fun cdv A outer s H E hr => ?_
  have nd := sc_law_cell.nd
  have hu64 := hr.units
  have hu65 := room65 hr
  exact (ess_cons (es_if (et_cmp (op_eqD hu64) r2s_eq ((ev_callB call_len rns_len B.len (by decide +kernel) (ea_cons ((ev_nI (i := 0)).toB) ea_nil))).uB (ev_int).uB (nomark _)) (ess_one (es_ret (ev_int).f)) ess_nil)
  (ess_cons (es_set (i := 2) nd ((ev_callTy call_int1 rns_int B.int (by decide +kernel) (ea_cons ((ef_ix (ev_nI (i := 0)) ((ev_mod ((ev_callTy call_int1 rns_int B.int (by decide +kernel) (ea_cons ((ev_nI (i := 1)).toB) ea_nil))).uI ((ev_callB call_len rns_len B.len (by decide +kernel) (ea_cons ((ev_nI (i := 0)).toB) ea_nil))).uI)).uI)).vB ea_nil))).f)
  (ess_one (es_ret (ef_mulA ((ev_mod ((ev_callB call_abs rns_abs B.abs (by decide +kernel) (ea_cons ((ev_nI (i := 2)).toB) ea_nil))).uI ((ev_pow (ev_int).uI (ev_int).uI)).uI)).uI ((ef_ix ((ef_lst (ea_cons ev_int (ea_cons (ev_neg (ev_int).uI) ea_nil)))).vI ((ev_callTy call_int1 rns_int B.int (by decide +kernel) (ea_cons ((ev_cmp (op_lt.or (op_ltD hu65)) (r2s_cmpD r2s_lt) ((ev_nI (i := 2)).toB) (ev_int).uB (nomark _))).uB ea_nil))).uI)).vI)))))
theorem sc_law_takes : FnScope ["draws", "script", "wide", "found", "k", "take"] ["draws", "script"] (defScope (top 17)) := ⟨rfl, rfl, rfl, by decide +kernel, rfl, by decide +kernel, by decide +kernel⟩
theorem ok_law_takes {fa : Addr} {fd : FuncData} (Fu : Fun K "_law_takes" "_law_takes" (top 17) fa fd) (hm : mg "_law_takes" = some (.ref fa)) (hb : Binds K fd ["draws", "script"] []) (B : Bt mg) (F_law_take : Fi P w K mg base 1 "_law_take" 0 D_law_take) (F_law_cell : Fn P w K mg base 1 "_law_cell" D_law_cell) : Fi P w K mg base 2 "_law_takes" 0 D_law_takes := by
  refine fn_io Fu hm sc_law_takes hb (by decide) fun cdv A outer s H E hr => ?_
  have nd := sc_law_takes.nd
  have hu64 := hr.units
  exact (ess_cons (es_set (i := 2) nd (ef_ix ((ef_lst (ea_cons ev_int (ea_cons ev_int (ea_cons ev_int ea_nil))))).vD ((ev_callI F_law_take (hr.mono (by decide)) (ec_here (i := 0) (ea_cons ev_int ea_nil)))).uI))
  (ess_cons (es_set (i := 3) nd (ef_lst ea_nil))
  (ess_cons (es_for rfl (ei_r1 (l1 := .D) B.range (ea_cons (ev_callI F_law_take (hr.mono (by decide)) (ec_here (i := 0) (ea_cons ((ef_ix ((ef_lst (ea_cons ev_int (ea_cons ev_int ea_nil)))).vD ((ev_callTy call_int1 rns_int B.int (by decide +kernel) (ea_cons (ev_cmp (op_eqD hu64) r2s_eq ((ev_callI F_law_take (hr.mono (by decide)) (ec_here (i := 0) (ea_cons ev_int ea_nil)))).uB (ev_int).uB (nomark _)) ea_nil))).uI)).vD ea_nil))) ea_nil)) (eg_n (i := 4) nd) (ess_cons (es_set (i := 5) nd (ef_add ev_int ((ev_callI F_law_take (hr.mono (by decide)) (ec_here (i := 0) (ea_cons (ev_nD (i := 2)) ea_nil)))).uI))
  (ess_cons (es_if (et_cmp (op_eqD hu64) r2s_eq ((ev_callI F_law_take (hr.mono (by decide)) (ec_here (i := 0) (ea_cons ev_int ea_nil)))).uB (ev_int).uB (nomark _)) (ess_one (es_set (i := 5) nd (ef_add (ev_nI (i := 5)) ((ev_callB call_abs rns_abs B.abs (by decide +kernel) (ea_cons ((ef_call F_law_cell (hr.mono (by decide)) (ea_cons (ev_nD (i := 1)) (ea_cons (ev_nD (i := 4)) ea_nil)))).vB ea_nil))).uI))) ess_nil)
  (ess_one (es_expr (ev_mth (i := 3) PySem.F.slot_list_append PySem.F.type_list_append mt_append rm_append (ea_cons (ev_nD (i := 5)) ea_nil)))))))
  (ess_one (es_ret (((ef_callTy call_tuple_of rno_tuple B.tuple (by decide +kernel) (ea_cons (ev_nI (i := 3)) ea_nil))).vD).f)))))
theorem sc_lost_by_slowest : FnScope ["takes", "take"] ["takes"] (defScope (top 4)) := ⟨rfl, rfl, rfl, by decide +kernel, rfl, by decide +kernel, by decide +kernel⟩
theorem ok_lost_by_slowest {fa : Addr} {fd : FuncData} (Fu : Fun K "lost_by_slowest" "lost_by_slowest" (top 4) fa fd) (hm : mg "lost_by_slowest" = some (.ref fa)) (hb : Binds K fd ["takes"] []) (B : Bt mg) (F_single_rate : Fn P w K mg base 1 "single_rate" D_single_rate) : Fn P w K mg base 2 "lost_by_slowest" D_lost_by_slowest := by
  refine fn_pure Fu hm sc_lost_by_slowest hb (by decide) fun cdv A outer s H E hr => ?_
  have nd := sc_lost_by_slowest.nd
  exact (ess_one (es_ret ((ev_callB ((cr_sum rfl).or (cr_sumT rfl)) rns_sumB B.sum (by decide +kernel) (ea_cons ((ef_lc [("take", 1)] rfl nd (ei_seq (ev_nI (i := 0))) (by kernel_rfl) (fun _ _ _ _ _ => (eg_n (i := 1) nd)) (fun _ _ _ _ _ => ets_nil) (fun _ _ _ _ _ => (ev_sub (ev_nI (i := 1)) ((ef_call F_single_rate (hr.mono (by decide)) (ea_cons (ev_nD (i := 0)) ea_nil))).vI)))).vB ea_nil))).f))
theorem sc_law_layers : FnScope ["draws", "script", "takes", "sums", "take", "at", "k"] ["draws", "script", "takes"] (defScope (top 18)) := ⟨rfl, rfl, rfl, by decide +kernel, rfl, by decide +kernel, by decide +kernel⟩
theorem ok_law_layers {fa : Addr} {fd : FuncData} (Fu : Fun K "_law_layers" "_law_layers" (top 18) fa fd) (hm : mg "_law_layers" = some (.ref fa)) (hb : Binds K fd ["draws", "script", "takes"] []) (B : Bt mg) (F_law_take : Fi P w K mg base 1 "_law_take" 0 D_law_take) (F_law_cell : Fn P w K mg base 1 "_law_cell" D_law_cell) : Fi P w K mg base 2 "_law_layers" 0 D_law_layers := by
  refine fn_io Fu hm sc_law_layers hb (by decide) fun cdv A outer s H E hr => ?_
  have nd := sc_law_layers.nd
  have hu64 := hr.units
  have hu65 := room65 hr
  exact (ess_cons (es_if ((ew_and (et_cmp (op_gt.or (op_gtD hu65)) (r2s_cmpD r2s_gt) ((ev_callB call_len rns_len B.len (by decide +kernel) (ea_cons ((ev_nI (i := 2)).toB) ea_nil))).uB (ev_int).uB (nomark _)) (ew_and1 (et_cmp (op_eqD hu64) r2s_eq ((ev_callI F_law_take (hr.mono (by decide)) (ec_here (i := 0) (ea_cons ev_int ea_nil)))).uB (ev_int).uB (nomark _)))).t) (ess_cons (es_set (i := 3) nd (ef_add ((ef_tup (ea_cons ev_int ea_nil))).vD ((ef_callTy call_tuple_of rno_tuple B.tuple (by decide +kernel) (ea_cons ((ef_sortedSetB rfl B.sorted B.set hu65 ((ef_lc [("take", 4)] rfl nd (ei_seq (ev_nD (i := 2))) (by kernel_rfl) (fun _ _ _ _ _ => (eg_n (i := 4) nd)) (fun _ _ _ _ _ => (ets_one (et_cmp (op_eqD hu64) r2s_eq ((ev_callI F_law_take (hr.mono (by decide)) (ec_here (i := 0) (ea_cons ev_int ea_nil)))).uB (ev_int).uB (nomark _)))) (fun _ _ _ _ _ => (ev_nD (i := 4))))).vI)).vD ea_nil))).vI))
  (ess_one (es_ret (((ef_sl ((ef_callTy call_tuple_of rno_tuple B.tuple (by decide +kernel) (ea_cons ((ef_lc [("at", 5)] rfl nd (ei_r1 (l1 := .D) B.range (ea_cons ((ev_sub ((ev_callB call_len rns_len B.len (by decide +kernel) (ea_cons ((ev_nI (i := 3)).toB) ea_nil))).uI (ev_int).uI)).uI ea_nil)) (by kernel_rfl) (fun _ _ _ _ _ => (eg_n (i := 5) nd)) (fun _ _ _ _ _ => ets_nil) (fun _ _ _ _ _ => (ev_sub ((ef_ix (ev_nI (i := 3)) ((ef_add (ev_nI (i := 5)) (ev_int).uI)).vI)).vI ((ef_ix (ev_nI (i := 3)) (ev_nI (i := 5)))).vI)))).vI ea_nil))).vI eo_n (eo_s (ev_int).uI))).vD).f))) ess_nil)
  (ess_one (es_ret (((ef_callTy call_tuple_of rno_tuple B.tuple (by decide +kernel) (ea_cons ((ef_lc [("k", 6)] rfl nd (ei_r1 (l1 := .D) B.range (ea_cons (ev_callI F_law_take (hr.mono (by decide)) (ec_here (i := 0) (ea_cons ev_int ea_nil))) ea_nil)) (by kernel_rfl) (fun _ _ _ _ _ => (eg_n (i := 6) nd)) (fun _ _ _ _ _ => ets_nil) (fun _ _ _ _ _ => ((ef_add ((ef_add ev_int ((ev_callI F_law_take (hr.mono (by decide)) (ec_here (i := 0) (ea_cons ev_int ea_nil)))).uI)).vD ((ef_mulA (ev_callB call_abs rns_abs B.abs (by decide +kernel) (ea_cons ((ef_call F_law_cell (hr.mono (by decide)) (ea_cons (ev_nD (i := 1)) (ea_cons (ev_nD (i := 6)) ea_nil)))).vB ea_nil)) ((ev_callTy call_int1 rns_int B.int (by decide +kernel) (ea_cons (ev_cmp (op_eqD hu64) r2s_eq ((ev_callI F_law_take (hr.mono (by decide)) (ec_here (i := 0) (ea_cons ev_int ea_nil)))).uB (ev_int).uB (nomark _)) ea_nil))).uI)).vI)).vD))).vD ea_nil))).vD).f)))
theorem sc_law_is_told : FnScope ["draws", "script", "takes", "turn", "layers", "told", "slowest", "k", "bound", "low", "before", "unlike", "many", "due", "take", "pair"] ["draws", "script", "takes"] (defScope (top 19)) := ⟨rfl, rfl, rfl, by decide +kernel, rfl, by decide +kernel, by decide +kernel⟩
theorem ok_law_is_told {fa : Addr} {fd : FuncData} (Fu : Fun K "_law_is_told" "_law_is_told" (top 19) fa fd) (hm : mg "_law_is_told" = some (.ref fa)) (hb : Binds K fd ["draws", "script", "takes"] []) (B : Bt mg) (F_layers_taken : Fn P w K mg base 1 "layers_taken" D_layers_taken) (F_got_by : Fn P w K mg base 2 "got_by" D_got_by) (F_single_rate : Fn P w K mg base 1 "single_rate" D_single_rate) (F_lost_by_slowest : Fn P w K mg base 2 "lost_by_slowest" D_lost_by_slowest) (F_best_layers : Fn P w K mg base 3 "best_layers" D_best_layers) (F_without_slowest : Fn P w K mg base 1 "without_slowest" D_without_slowest) (F_law_take : Fi P w K mg base 1 "_law_take" 0 D_law_take) (F_law_same : Fn P w K mg base 13 "_law_same" D_law_same) (F_law_taken : Fn P w K mg base 1 "_law_taken" D_law_taken) (F_law_best : Fn P w K mg base 3 "_law_best" D_law_best) (F_law_layers : Fi P w K mg base 2 "_law_layers" 0 D_law_layers) : Fi P w K mg base 14 "_law_is_told" 0 D_law_is_told := by
  refine fn_io Fu hm sc_law_is_told hb (by decide) fun cdv A outer s H E hr => ?_
  have nd := sc_law_is_told.nd
  have hu64 := hr.units
  have hu65 := room65 hr
  exact (ess_cons (es_for rfl (ei_r1 (l1 := .D) B.range (ea_cons (ev_int).uI ea_nil)) (eg_n (i := 3) nd) (ess_cons (es_set (i := 4) nd ((ev_callI F_law_layers (hr.mono (by decide)) (ec_here (i := 0) (ea_cons (ev_nD (i := 1)) (ea_cons (ev_nD (i := 2)) ea_nil))))).f)
  (ess_cons (es_setLc (i := 5) [("take", 14)] rfl nd (ei_seq (ev_nI (i := 2))) (by kernel_rfl) (fun _ _ _ _ _ => (eg_n (i := 14) nd)) (fun _ _ _ _ _ => ets_nil) (fun _ _ _ _ _ => ((ef_call F_law_taken (hr.mono (by decide)) (ea_cons (ev_nD (i := 4)) (ea_cons (ev_nD (i := 14)) ea_nil)))).vD) (sw_true rfl rfl rfl (by decide +kernel)))
  (ess_cons (es_if (et_not (et_val ((ef_call F_law_same (hr.mono (by decide)) (ea_cons ((ef_call F_layers_taken (hr.mono (by decide)) (ea_cons (ev_nD (i := 4)) (ea_cons (ev_nD (i := 2)) ea_nil)))).vD (ea_cons ((ef_callTy call_tuple_of rno_tuple B.tuple (by decide +kernel) (ea_cons ((ef_lc [("pair", 15)] rfl nd (ei_seq (ev_nI (i := 5))) (by kernel_rfl) (fun _ _ _ _ _ => (eg_n (i := 15) nd)) (fun _ _ _ _ _ => ets_nil) (fun _ _ _ _ _ => ((ef_ix (ev_nI (i := 15)) (ev_int).uI)).vD))).vI ea_nil))).vD ea_nil)))).vB)) (ess_one (es_ret (ev_bl).f)) ess_nil)
  (ess_one (es_if (et_not (et_val ((ef_call F_law_same (hr.mono (by decide)) (ea_cons ((ef_call F_got_by (hr.mono (by decide)) (ea_cons (ev_nD (i := 4)) (ea_cons (ev_nD (i := 2)) ea_nil)))).vD (ea_cons ((ef_callTy call_tuple_of rno_tuple B.tuple (by decide +kernel) (ea_cons ((ef_lc [("pair", 15)] rfl nd (ei_seq (ev_nI (i := 5))) (by kernel_rfl) (fun _ _ _ _ _ => (eg_n (i := 15) nd)) (fun _ _ _ _ _ => ets_nil) (fun _ _ _ _ _ => ((ef_ix (ev_nI (i := 15)) (ev_int).uI)).vD))).vI ea_nil))).vD ea_nil)))).vB)) (ess_one (es_ret (ev_bl).f)) ess_nil))))))
  (ess_cons (es_set (i := 6) nd (ef_callB (((cr_min rfl).or (cr_minD rfl hu65)).or (cr_minDT rfl hu65)) rno_minB B.min (by decide +kernel) (ea_cons ((ef_add (ev_nI (i := 2)) ((ef_tup (ea_cons ((ef_callB (((cr_max rfl).or (cr_maxD rfl hu65)).or (cr_maxDT rfl hu65)) rno_maxB B.max (by decide +kernel) (ea_cons ((ef_add ((ef_tup (ea_cons ev_int ea_nil))).vI (ev_nI (i := 2)))).vI ea_nil))).vD ea_nil))).vI)).vI ea_nil)))
  (ess_cons (es_if ((ew_or (et_not (et_val ((ef_call F_law_same (hr.mono (by decide)) (ea_cons ((ef_call F_single_rate (hr.mono (by decide)) (ea_cons (ev_nD (i := 2)) ea_nil))).vD (ea_cons (ev_nD (i := 6)) ea_nil)))).vB)) (ew_or1 (et_not (et_val ((ef_call F_law_same (hr.mono (by decide)) (ea_cons ((ef_call F_lost_by_slowest (hr.mono (by decide)) (ea_cons (ev_nD (i := 2)) ea_nil))).vD (ea_cons (ev_sub ((ev_callB ((cr_sum rfl).or (cr_sumT rfl)) rns_sumB B.sum (by decide +kernel) (ea_cons ((ev_nI (i := 2)).toB) ea_nil))).uI ((ef_mulA (ev_nI (i := 6)) ((ev_callB call_len rns_len B.len (by decide +kernel) (ea_cons ((ev_nI (i := 2)).toB) ea_nil))).uI)).vI) ea_nil)))).vB)))).t) (ess_one (es_ret (ev_bl).f)) ess_nil)
  (ess_cons (es_for rfl (ei_r1 (l1 := .D) B.range (ea_cons ((ef_mulA (ev_int).uI ((ev_callTy call_int1 rns_int B.int (by decide +kernel) (ea_cons ((ev_cmp (op_gt.or (op_gtD hu65)) (r2s_cmpD r2s_gt) ((ev_callB call_len rns_len B.len (by decide +kernel) (ea_cons ((ev_nI (i := 2)).toB) ea_nil))).uB (ev_int).uB (nomark _))).uB ea_nil))).uI)).vI ea_nil)) (eg_n (i := 7) nd) (ess_cons (es_set (i := 8) nd ((ev_sub ((ef_add ((ef_ix (ev_nD (i := 2)) ((ev_callI F_law_take (hr.mono (by decide)) (ec_here (i := 0) (ea_cons (ev_callB call_len rns_len B.len (by decide +kernel) (ea_cons ((ev_nI (i := 2)).toB) ea_nil)) ea_nil)))).uI)).vD ((ev_callI F_law_take (hr.mono (by decide)) (ec_here (i := 0) (ea_cons ev_int ea_nil)))).uI)).vI (ev_int).uI)).f)
  (ess_cons (es_set (i := 9) nd ((ev_callB call_len rns_len B.len (by decide +kernel) (ea_cons ((ef_lc [("take", 14)] rfl nd (ei_seq (ev_nI (i := 2))) (by kernel_rfl) (fun _ _ _ _ _ => (eg_n (i := 14) nd)) (fun _ _ _ _ _ => (ets_one (et_cmp (op_lt.or (op_ltD hu65)) (r2s_cmpD r2s_lt) ((ev_nI (i := 14)).toB) ((ev_nI (i := 8)).toB) (nomark _)))) (fun _ _ _ _ _ => (ev_nD (i := 14))))).vB ea_nil))).f)
  (ess_one (es_if (et_not (et_val ((ef_call F_law_same (hr.mono (by decide)) (ea_cons ((ef_call F_without_slowest (hr.mono (by decide)) (ea_cons (ev_nD (i := 2)) (ea_cons (ev_nD (i := 8)) ea_nil)))).vD (ea_cons (ev_if (et_cmp (op_eqD hu64) r2s_eq ((ev_nI (i := 9)).toB) ((ev_callB call_len rns_len B.len (by decide +kernel) (ea_cons ((ev_nI (i := 2)).toB) ea_nil))).uB (nomark _)) ev_non (ev_nD (i := 9))) ea_nil)))).vB)) (ess_one (es_ret (ev_bl).f)) ess_nil)))))
  (ess_cons (es_set (i := 10) nd (ev_int).f)
  (ess_cons (es_set (i := 11) nd ((ev_lenSet rfl B.len B.set (ev_nI (i := 2)))).f)
  (ess_cons (es_for rfl (ei_seq ((ef_lst (ea_cons ev_int (ea_cons ev_int (ea_cons ev_int (ea_cons (ev_callI F_law_take (hr.mono (by decide)) (ec_here (i := 0) (ea_cons ev_int ea_nil))) (ea_cons (ev_nD (i := 11)) (ea_cons ((ef_add ((ef_add (ev_nI (i := 11)) (ev_int).uI)).vD ((ev_callI F_law_take (hr.mono (by decide)) (ec_here (i := 0) (ea_cons ev_int ea_nil)))).uI)).vD ea_nil)))))))).vD) (eg_n (i := 12) nd) (ess_cons (es_set (i := 13) nd (ef_call F_law_best (hr.mono (by decide)) (ea_cons (ev_nD (i := 2)) (ea_cons (ev_nD (i := 12)) ea_nil))))
  (ess_cons (es_if (et_not (et_val ((ef_call F_law_same (hr.mono (by decide)) (ea_cons ((ef_call F_best_layers (hr.mono (by decide)) (ea_cons (ev_nD (i := 2)) (ea_cons (ev_nD (i := 12)) ea_nil)))).vD (ea_cons ((ef_ix (ev_nI (i := 13)) (ev_int).uI)).vD ea_nil)))).vB)) (ess_one (es_ret (ev_bl).f)) ess_nil)
  (ess_cons (es_if ((ew_or ((ew_and (et_cmp (op_eqD hu64) r2s_eq ((ev_nI (i := 12)).toB) (ev_int).uB (nomark _)) (ew_and1 (et_cmp (op_gt.or (op_gtD hu65)) (r2s_cmpD r2s_gt) ((ef_ix (ev_nI (i := 13)) (ev_int).uI)).vB ((ev_nI (i := 10)).toB) (nomark _)))).t) (ew_or1 ((ew_and (et_cmp (op_ge.or (op_geD hu65)) (r2s_cmpD r2s_ge) ((ev_nI (i := 12)).toB) ((ev_nI (i := 11)).toB) (nomark _)) (ew_and1 (et_cmp (op_neD hu64) r2s_ne ((ef_ix (ev_nI (i := 13)) (ev_int).uI)).vB ((ev_sub (ev_int).uI ((ev_callB ((cr_sum rfl).or (cr_sumT rfl)) rns_sumB B.sum (by decide +kernel) (ea_cons ((ev_nI (i := 2)).toB) ea_nil))).uI)).uB (nomark _)))).t))).t) (ess_one (es_ret (ev_bl).f)) ess_nil)
  (ess_one (es_set (i := 10) nd (ef_ix (ev_nI (i := 13)) (ev_int).uI)))))))
  (ess_one (es_ret (ev_bl).f)))))))))
theorem sc_law : FnScope ["script", "draws", "few", "many", "k"] ["script"] (defScope (top 20)) := ⟨rfl, rfl, rfl, by decide +kernel, rfl, by decide +kernel, by decide +kernel⟩
theorem ok_law_raw {fa : Addr} {fd : FuncData} (Fu : Fun K "law" "law" (top 20) fa fd) (B : Bt mg) (F_layers_taken : Fn P w K mg base 1 "layers_taken" D_layers_taken) (F_got_by : Fn P w K mg base 2 "got_by" D_got_by) (F_single_rate : Fn P w K mg base 1 "single_rate" D_single_rate) (F_best_layers : Fn P w K mg base 3 "best_layers" D_best_layers) (F_without_slowest : Fn P w K mg base 1 "without_slowest" D_without_slowest) (F_law_draws : Fn P w K mg base 1 "_law_draws" D_law_draws) (F_law_take : Fi P w K mg base 1 "_law_take" 0 D_law_take) (F_law_same : Fn P w K mg base 13 "_law_same" D_law_same) (F_law_best : Fn P w K mg base 3 "_law_best" D_law_best) (F_law_any_best : Fn P w K mg base 3 "_law_any_best" D_law_any_best) (F_law_takes : Fi P w K mg base 2 "_law_takes" 0 D_law_takes) (F_law_is_told : Fi P w K mg base 14 "_law_is_told" 0 D_law_is_told) : FnOk P w K mg base CX0 15 fa fd ["script"] (SpP K D_law) := by
  refine fn_raw Fu sc_law (by decide) fun cdv A outer s H E hr => ?_
  have nd := sc_law.nd
  have hu64 := hr.units
  exact (ess_cons (es_set (i := 1) nd (ef_call F_law_draws (hr.mono (by decide)) (ea_cons (ev_nD (i := 0)) (ea_cons ev_int ea_nil))))
  (ess_cons (es_if (et_not (et_val ((ev_callI F_law_is_told (hr.mono (by decide)) (ec_here (i := 1) (ea_cons (ev_nD (i := 0)) (ea_cons (ev_callI F_law_takes (hr.mono (by decide)) (ec_here (i := 1) (ea_cons (ev_nD (i := 0)) ea_nil))) ea_nil))))).uB)) (ess_one (es_ret (ev_bl).f)) ess_nil)
  (ess_cons (es_set (i := 2) nd (ef_callTy call_tuple_of rno_tuple B.tuple (by decide +kernel) (ea_cons ((ef_lc [("k", 4)] rfl nd (ei_r1 (l1 := .D) B.range (ea_cons (ev_callI F_law_take (hr.mono (by decide)) (ec_here (i := 1) (ea_cons ev_int ea_nil))) ea_nil)) (by kernel_rfl) (fun _ _ _ _ _ => (eg_n (i := 4) nd)) (fun _ _ _ _ _ => ets_nil) (fun _ _ _ _ _ => ((ef_add ev_int ((ev_callI F_law_take (hr.mono (by decide)) (ec_here (i := 1) (ea_cons ev_int ea_nil)))).uI)).vD))).vD ea_nil)))
  (ess_cons (es_for rfl (ei_seq ((ef_lst (ea_cons ev_int (ea_cons ev_int (ea_cons ev_int (ea_cons ev_int ea_nil)))))).vD) (eg_n (i := 3) nd) (ess_one (es_if ((ew_or (et_cmp (op_neD hu64) r2s_ne ((ef_call F_law_any_best (hr.mono (by decide)) (ea_cons (ev_nD (i := 2)) (ea_cons (ev_nD (i := 3)) ea_nil)))).vB ((ef_call F_law_best (hr.mono (by decide)) (ea_cons (ev_nD (i := 2)) (ea_cons (ev_nD (i := 3)) ea_nil)))).vB (nomark _)) (ew_or1 (et_not (et_val ((ef_call F_law_same (hr.mono (by decide)) (ea_cons ((ef_call F_best_layers (hr.mono (by decide)) (ea_cons (ev_nD (i := 2)) (ea_cons (ev_nD (i := 3)) ea_nil)))).vD (ea_cons ((ef_ix ((ef_call F_law_best (hr.mono (by decide)) (ea_cons (ev_nD (i := 2)) (ea_cons (ev_nD (i := 3)) ea_nil)))).vI (ev_int).uI)).vD ea_nil)))).vB)))).t) (ess_one (es_ret (ev_bl).f)) ess_nil)))
  (ess_cons (es_if ((ew_or (et_not (et_val ((ef_call F_law_same (hr.mono (by decide)) (ea_cons ((ef_call F_best_layers (hr.mono (by decide)) (ea_cons ((ef_tup (ea_cons ev_int ea_nil))).vD (ea_cons ev_int ea_nil)))).vD (ea_cons ((ef_tup (ea_cons ev_int ea_nil))).vD ea_nil)))).vB)) (ew_or1 (et_not (et_val ((ef_call F_law_same (hr.mono (by decide)) (ea_cons ((ef_call F_best_layers (hr.mono (by decide)) (ea_cons ((ef_tup (ea_cons ev_int (ea_cons ev_int (ea_cons ev_int (ea_cons ev_int ea_nil)))))).vD (ea_cons ev_int ea_nil)))).vD (ea_cons ((ef_tup (ea_cons ev_int (ea_cons ev_int ea_nil)))).vD ea_nil)))).vB)))).t) (ess_one (es_ret (ev_bl).f)) ess_nil)
  (ess_cons (es_if ((ew_or (et_not (et_val ((ef_call F_law_same (hr.mono (by decide)) (ea_cons ((ef_call F_layers_taken (hr.mono (by decide)) (ea_cons ((ef_tup (ea_cons ev_int (ea_cons ev_int (ea_cons ev_int ea_nil))))).vD (ea_cons ((ef_tup (ea_cons ev_int (ea_cons ev_int (ea_cons ev_int (ea_cons ev_int (ea_cons ev_int ea_nil))))))).vD ea_nil)))).vD (ea_cons ((ef_tup (ea_cons ev_int (ea_cons ev_int (ea_cons ev_int (ea_cons ev_int (ea_cons ev_int ea_nil))))))).vD ea_nil)))).vB)) (ew_or1 (et_not (et_val ((ef_call F_law_same (hr.mono (by decide)) (ea_cons ((ef_call F_got_by (hr.mono (by decide)) (ea_cons ((ef_tup (ea_cons ev_int (ea_cons ev_int (ea_cons ev_int ea_nil))))).vD (ea_cons ((ef_tup (ea_cons ev_int (ea_cons ev_int (ea_cons ev_int (ea_cons ev_int (ea_cons ev_int ea_nil))))))).vD ea_nil)))).vD (ea_cons ((ef_tup (ea_cons ev_int (ea_cons ev_int (ea_cons ev_int (ea_cons ev_int (ea_cons ev_int ea_nil))))))).vD ea_nil)))).vB)))).t) (ess_one (es_ret (ev_bl).f)) ess_nil)
  (ess_one (es_ret ((ev_and ((ef_call F_law_same (hr.mono (by decide)) (ea_cons ((ef_call F_single_rate (hr.mono (by decide)) (ea_cons ((ef_tup ea_nil)).vD ea_nil))).vD (ea_cons ev_int ea_nil)))).vB (ev_and ((ef_call F_law_same (hr.mono (by decide)) (ea_cons ((ef_call F_best_layers (hr.mono (by decide)) (ea_cons ((ef_tup ea_nil)).vD (ea_cons ev_int ea_nil)))).vD (ea_cons ((ef_tup ea_nil)).vD ea_nil)))).vB (ev_one (ev_cmp (op_isN.or op_isBl) r2s_isA ((ef_call F_without_slowest (hr.mono (by decide)) (ea_cons ((ef_tup (ea_cons ev_int (ea_cons ev_int ea_nil)))).vD (ea_cons ev_int ea_nil)))).vB (ev_non).uB (nomark _)))))).f))))))))
end
theorem all_mk {l : PySem.W.OpenLaw} {w : World} {K : Fg} {h : Heap} {mg : Str → Option Value} {fa : Addr} (X : K.In h) (G : h.Ns mainGlobals mg) (hfa : mg "law" = some (.ref fa)) (true_all : ∀ ns : List Int, ns.length ≤ 63 → D_law [.list (ns.map .int)] = some (.val (.bool true)))
    {f0 : Addr} {od0 an0 : Option Addr} {sl0 : Array (Option Value)} {oc0 kV0 dc0 pm0 cd0 ct0 : Value} (a0 : PySem.W.nsIn K mainGlobals "layers_taken" = some (some (.ref f0))) (l0 : K.lookup f0 = some ⟨oc0, od0, .func (PySem.W.fnOf "layers_taken" "layers_taken" (defArgs (top 1)) (defBody (top 1)) (defScope (top 1)) .none kV0 dc0 pm0 an0 cd0 ct0), sl0⟩) (c0 : PySem.W.codeIn K cd0 "layers_taken" = true) (k0 : PySem.W.keepIn K (.ref f0) = true)
    {f1 : Addr} {od1 an1 : Option Addr} {sl1 : Array (Option Value)} {oc1 kV1 dc1 pm1 cd1 ct1 : Value} (a1 : PySem.W.nsIn K mainGlobals "got_by" = some (some (.ref f1))) (l1 : K.lookup f1 = some ⟨oc1, od1, .func (PySem.W.fnOf "got_by" "got_by" (defArgs (top 2)) (defBody (top 2)) (defScope (top 2)) .none kV1 dc1 pm1 an1 cd1 ct1), sl1⟩) (c1 : PySem.W.codeIn K cd1 "got_by" = true) (k1 : PySem.W.keepIn K (.ref f1) = true)
    {f2 : Addr} {od2 an2 : Option Addr} {sl2 : Array (Option Value)} {oc2 kV2 dc2 pm2 cd2 ct2 : Value} (a2 : PySem.W.nsIn K mainGlobals "single_rate" = some (some (.ref f2))) (l2 : K.lookup f2 = some ⟨oc2, od2, .func (PySem.W.fnOf "single_rate" "single_rate" (defArgs (top 3)) (defBody (top 3)) (defScope (top 3)) .none kV2 dc2 pm2 an2 cd2 ct2), sl2⟩) (c2 : PySem.W.codeIn K cd2 "single_rate" = true) (k2 : PySem.W.keepIn K (.ref f2) = true)
    {f3 : Addr} {od3 an3 : Option Addr} {sl3 : Array (Option Value)} {oc3 kV3 dc3 pm3 cd3 ct3 : Value} (a3 : PySem.W.nsIn K mainGlobals "layers_up_to" = some (some (.ref f3))) (l3 : K.lookup f3 = some ⟨oc3, od3, .func (PySem.W.fnOf "layers_up_to" "layers_up_to" (defArgs (top 5)) (defBody (top 5)) (defScope (top 5)) .none kV3 dc3 pm3 an3 cd3 ct3), sl3⟩) (c3 : PySem.W.codeIn K cd3 "layers_up_to" = true) (k3 : PySem.W.keepIn K (.ref f3) = true)
    {f4 : Addr} {od4 an4 : Option Addr} {sl4 : Array (Option Value)} {oc4 kV4 dc4 pm4 cd4 ct4 : Value} (a4 : PySem.W.nsIn K mainGlobals "best_layers" = some (some (.ref f4))) (l4 : K.lookup f4 = some ⟨oc4, od4, .func (PySem.W.fnOf "best_layers" "best_layers" (defArgs (top 6)) (defBody (top 6)) (defScope (top 6)) .none kV4 dc4 pm4 an4 cd4 ct4), sl4⟩) (c4 : PySem.W.codeIn K cd4 "best_layers" = true) (k4 : PySem.W.keepIn K (.ref f4) = true)
    {f5 : Addr} {od5 an5 : Option Addr} {sl5 : Array (Option Value)} {oc5 kV5 dc5 pm5 cd5 ct5 : Value} (a5 : PySem.W.nsIn K mainGlobals "without_slowest" = some (some (.ref f5))) (l5 : K.lookup f5 = some ⟨oc5, od5, .func (PySem.W.fnOf "without_slowest" "without_slowest" (defArgs (top 7)) (defBody (top 7)) (defScope (top 7)) .none kV5 dc5 pm5 an5 cd5 ct5), sl5⟩) (c5 : PySem.W.codeIn K cd5 "without_slowest" = true) (k5 : PySem.W.keepIn K (.ref f5) = true)
    {f6 : Addr} {od6 an6 : Option Addr} {sl6 : Array (Option Value)} {oc6 kV6 dc6 pm6 cd6 ct6 : Value} (a6 : PySem.W.nsIn K mainGlobals "_law_draws" = some (some (.ref f6))) (l6 : K.lookup f6 = some ⟨oc6, od6, .func (PySem.W.fnOf "_law_draws" "_law_draws" (defArgs (top 9)) (defBody (top 9)) (defScope (top 9)) .none kV6 dc6 pm6 an6 cd6 ct6), sl6⟩) (c6 : PySem.W.codeIn K cd6 "_law_draws" = true) (k6 : PySem.W.keepIn K (.ref f6) = true)
    {f7 : Addr} {od7 an7 : Option Addr} {sl7 : Array (Option Value)} {oc7 kV7 dc7 pm7 cd7 ct7 : Value} (a7 : PySem.W.nsIn K mainGlobals "_law_take" = some (some (.ref f7))) (l7 : K.lookup f7 = some ⟨oc7, od7, .func (PySem.W.fnOf "_law_take" "_law_take" (defArgs (top 10)) (defBody (top 10)) (defScope (top 10)) .none kV7 dc7 pm7 an7 cd7 ct7), sl7⟩) (c7 : PySem.W.codeIn K cd7 "_law_take" = true) (k7 : PySem.W.keepIn K (.ref f7) = true)
    {f8 : Addr} {od8 an8 : Option Addr} {sl8 : Array (Option Value)} {oc8 kV8 dc8 pm8 cd8 ct8 : Value} (a8 : PySem.W.nsIn K mainGlobals "_law_same" = some (some (.ref f8))) (l8 : K.lookup f8 = some ⟨oc8, od8, .func (PySem.W.fnOf "_law_same" "_law_same" (defArgs (top 12)) (defBody (top 12)) (defScope (top 12)) .none kV8 dc8 pm8 an8 cd8 ct8), sl8⟩) (c8 : PySem.W.codeIn K cd8 "_law_same" = true) (k8 : PySem.W.keepIn K (.ref f8) = true)
    {f9 : Addr} {od9 an9 : Option Addr} {sl9 : Array (Option Value)} {oc9 kV9 dc9 pm9 cd9 ct9 : Value} (a9 : PySem.W.nsIn K mainGlobals "_law_taken" = some (some (.ref f9))) (l9 : K.lookup f9 = some ⟨oc9, od9, .func (PySem.W.fnOf "_law_taken" "_law_taken" (defArgs (top 13)) (defBody (top 13)) (defScope (top 13)) .none kV9 dc9 pm9 an9 cd9 ct9), sl9⟩) (c9 : PySem.W.codeIn K cd9 "_law_taken" = true) (k9 : PySem.W.keepIn K (.ref f9) = true)
    {f10 : Addr} {od10 an10 : Option Addr} {sl10 : Array (Option Value)} {oc10 kV10 dc10 pm10 cd10 ct10 : Value} (a10 : PySem.W.nsIn K mainGlobals "_law_total" = some (some (.ref f10))) (l10 : K.lookup f10 = some ⟨oc10, od10, .func (PySem.W.fnOf "_law_total" "_law_total" (defArgs (top 14)) (defBody (top 14)) (defScope (top 14)) .none kV10 dc10 pm10 an10 cd10 ct10), sl10⟩) (c10 : PySem.W.codeIn K cd10 "_law_total" = true) (k10 : PySem.W.keepIn K (.ref f10) = true)
    {f11 : Addr} {od11 an11 : Option Addr} {sl11 : Array (Option Value)} {oc11 kV11 dc11 pm11 cd11 ct11 : Value} (a11 : PySem.W.nsIn K mainGlobals "_law_best" = some (some (.ref f11))) (l11 : K.lookup f11 = some ⟨oc11, od11, .func (PySem.W.fnOf "_law_best" "_law_best" (defArgs (top 15)) (defBody (top 15)) (defScope (top 15)) .none kV11 dc11 pm11 an11 cd11 ct11), sl11⟩) (c11 : PySem.W.codeIn K cd11 "_law_best" = true) (k11 : PySem.W.keepIn K (.ref f11) = true)
    {f12 : Addr} {od12 an12 : Option Addr} {sl12 : Array (Option Value)} {oc12 kV12 dc12 pm12 cd12 ct12 : Value} (a12 : PySem.W.nsIn K mainGlobals "_law_any_best" = some (some (.ref f12))) (l12 : K.lookup f12 = some ⟨oc12, od12, .func (PySem.W.fnOf "_law_any_best" "_law_any_best" (defArgs (top 16)) (defBody (top 16)) (defScope (top 16)) .none kV12 dc12 pm12 an12 cd12 ct12), sl12⟩) (c12 : PySem.W.codeIn K cd12 "_law_any_best" = true) (k12 : PySem.W.keepIn K (.ref f12) = true)
    {f13 : Addr} {od13 an13 : Option Addr} {sl13 : Array (Option Value)} {oc13 kV13 dc13 pm13 cd13 ct13 : Value} (a13 : PySem.W.nsIn K mainGlobals "_law_cell" = some (some (.ref f13))) (l13 : K.lookup f13 = some ⟨oc13, od13, .func (PySem.W.fnOf "_law_cell" "_law_cell" (defArgs (top 11)) (defBody (top 11)) (defScope (top 11)) .none kV13 dc13 pm13 an13 cd13 ct13), sl13⟩) (c13 : PySem.W.codeIn K cd13 "_law_cell" = true) (k13 : PySem.W.keepIn K (.ref f13) = true)
    {f14 : Addr} {od14 an14 : Option Addr} {sl14 : Array (Option Value)} {oc14 kV14 dc14 pm14 cd14 ct14 : Value} (a14 : PySem.W.nsIn K mainGlobals "_law_takes" = some (some (.ref f14))) (l14 : K.lookup f14 = some ⟨oc14, od14, .func (PySem.W.fnOf "_law_takes" "_law_takes" (defArgs (top 17)) (defBody (top 17)) (defScope (top 17)) .none kV14 dc14 pm14 an14 cd14 ct14), sl14⟩) (c14 : PySem.W.codeIn K cd14 "_law_takes" = true) (k14 : PySem.W.keepIn K (.ref f14) = true)
    {f15 : Addr} {od15 an15 : Option Addr} {sl15 : Array (Option Value)} {oc15 kV15 dc15 pm15 cd15 ct15 : Value} (a15 : PySem.W.nsIn K mainGlobals "lost_by_slowest" = some (some (.ref f15))) (l15 : K.lookup f15 = some ⟨oc15, od15, .func (PySem.W.fnOf "lost_by_slowest" "lost_by_slowest" (defArgs (top 4)) (defBody (top 4)) (defScope (top 4)) .none kV15 dc15 pm15 an15 cd15 ct15), sl15⟩) (c15 : PySem.W.codeIn K cd15 "lost_by_slowest" = true) (k15 : PySem.W.keepIn K (.ref f15) = true)
    {f16 : Addr} {od16 an16 : Option Addr} {sl16 : Array (Option Value)} {oc16 kV16 dc16 pm16 cd16 ct16 : Value} (a16 : PySem.W.nsIn K mainGlobals "_law_layers" = some (some (.ref f16))) (l16 : K.lookup f16 = some ⟨oc16, od16, .func (PySem.W.fnOf "_law_layers" "_law_layers" (defArgs (top 18)) (defBody (top 18)) (defScope (top 18)) .none kV16 dc16 pm16 an16 cd16 ct16), sl16⟩) (c16 : PySem.W.codeIn K cd16 "_law_layers" = true) (k16 : PySem.W.keepIn K (.ref f16) = true)
    {f17 : Addr} {od17 an17 : Option Addr} {sl17 : Array (Option Value)} {oc17 kV17 dc17 pm17 cd17 ct17 : Value} (a17 : PySem.W.nsIn K mainGlobals "_law_is_told" = some (some (.ref f17))) (l17 : K.lookup f17 = some ⟨oc17, od17, .func (PySem.W.fnOf "_law_is_told" "_law_is_told" (defArgs (top 19)) (defBody (top 19)) (defScope (top 19)) .none kV17 dc17 pm17 an17 cd17 ct17), sl17⟩) (c17 : PySem.W.codeIn K cd17 "_law_is_told" = true) (k17 : PySem.W.keepIn K (.ref f17) = true)
    {f18 : Addr} {od18 an18 : Option Addr} {sl18 : Array (Option Value)} {oc18 kV18 dc18 pm18 cd18 ct18 : Value} (a18 : PySem.W.nsIn K mainGlobals "law" = some (some (.ref f18))) (l18 : K.lookup f18 = some ⟨oc18, od18, .func (PySem.W.fnOf "law" "law" (defArgs (top 20)) (defBody (top 20)) (defScope (top 20)) .none kV18 dc18 pm18 an18 cd18 ct18), sl18⟩) (c18 : PySem.W.codeIn K cd18 "law" = true) (k18 : PySem.W.keepIn K (.ref f18) = true)
    (z0 : PySem.W.nsIn K mainGlobals "abs" = some none)    (z1 : PySem.W.nsIn K mainGlobals "bool" = some none)    (z2 : PySem.W.nsIn K mainGlobals "int" = some none)    (z3 : PySem.W.nsIn K mainGlobals "isinstance" = some none)    (z4 : PySem.W.nsIn K mainGlobals "len" = some none)    (z5 : PySem.W.nsIn K mainGlobals "list" = some none)    (z6 : PySem.W.nsIn K mainGlobals "max" = some none)    (z7 : PySem.W.nsIn K mainGlobals "min" = some none)    (z8 : PySem.W.nsIn K mainGlobals "range" = some none)    (z9 : PySem.W.nsIn K mainGlobals "set" = some none)    (z10 : PySem.W.nsIn K mainGlobals "sorted" = some none)    (z11 : PySem.W.nsIn K mainGlobals "str" = some none)    (z12 : PySem.W.nsIn K mainGlobals "sum" = some none)    (z13 : PySem.W.nsIn K mainGlobals "tuple" = some none) :
    ∃ fd : FuncData, (∀ (s : Shared) (v : Value), BindsTo s fd ⟨[v], []⟩ [("script", v)]) ∧ ∀ base : Heap, K.In base → base.Ns mainGlobals mg → FnOk l.prog w K mg base CX0 15 fa fd ["script"] (spLaw K) := by
  have e := hfa.symm.trans (PySem.W.mg_of X G a18)
  cases e
  have B : Bt mg := ⟨PySem.W.mg_none_of X G z0, PySem.W.mg_none_of X G z1, PySem.W.mg_none_of X G z2, PySem.W.mg_none_of X G z3, PySem.W.mg_none_of X G z4, PySem.W.mg_none_of X G z5, PySem.W.mg_none_of X G z6, PySem.W.mg_none_of X G z7, PySem.W.mg_none_of X G z8, PySem.W.mg_none_of X G z9, PySem.W.mg_none_of X G z10, PySem.W.mg_none_of X G z11, PySem.W.mg_none_of X G z12, PySem.W.mg_none_of X G z13⟩
  have u0 := fun_mk (st := top 1) l0 c0 k0
  have b0 := u0.binds (ps := ["layers", "takes"]) fun _ _ _ _ _ _ us hl => match us, hl with | [_, _], _ => rfl
  have u1 := fun_mk (st := top 2) l1 c1 k1
  have b1 := u1.binds (ps := ["layers", "takes"]) fun _ _ _ _ _ _ us hl => match us, hl with | [_, _], _ => rfl
  have u2 := fun_mk (st := top 3) l2 c2 k2
  have b2 := u2.binds (ps := ["takes"]) fun _ _ _ _ _ _ us hl => match us, hl with | [_], _ => rfl
  have u3 := fun_mk (st := top 5) l3 c3 k3
  have b3 := u3.binds (ps := ["sums"]) fun _ _ _ _ _ _ us hl => match us, hl with | [_], _ => rfl
  have u4 := fun_mk (st := top 6) l4 c4 k4
  have b4 := u4.binds (ps := ["takes", "many"]) fun _ _ _ _ _ _ us hl => match us, hl with | [_, _], _ => rfl
  have u5 := fun_mk (st := top 7) l5 c5 k5
  have b5 := u5.binds (ps := ["takes", "bound"]) fun _ _ _ _ _ _ us hl => match us, hl with | [_, _], _ => rfl
  have u6 := fun_mk (st := top 9) l6 c6 k6
  have b6 := u6.binds (ps := ["script", "many"]) fun _ _ _ _ _ _ us hl => match us, hl with | [_, _], _ => rfl
  have u7 := fun_mk (st := top 10) l7 c7 k7
  have b7 := u7.binds (ps := ["draws", "many"]) fun _ _ _ _ _ _ us hl => match us, hl with | [_, _], _ => rfl
  have u8 := fun_mk (st := top 12) l8 c8 k8
  have b8 := u8.binds (ps := ["actual", "due"]) fun _ _ _ _ _ _ us hl => match us, hl with | [_, _], _ => rfl
  have u9 := fun_mk (st := top 13) l9 c9 k9
  have b9 := u9.binds (ps := ["layers", "take"]) fun _ _ _ _ _ _ us hl => match us, hl with | [_, _], _ => rfl
  have u10 := fun_mk (st := top 14) l10 c10 k10
  have b10 := u10.binds (ps := ["layers", "takes"]) fun _ _ _ _ _ _ us hl => match us, hl with | [_, _], _ => rfl
  have u11 := fun_mk (st := top 15) l11 c11 k11
  have b11 := u11.binds (ps := ["takes", "many"]) fun _ _ _ _ _ _ us hl => match us, hl with | [_, _], _ => rfl
  have u12 := fun_mk (st := top 16) l12 c12 k12
  have b12 := u12.binds (ps := ["takes", "many"]) fun _ _ _ _ _ _ us hl => match us, hl with | [_, _], _ => rfl
  have u13 := fun_mk (st := top 11) l13 c13 k13
  have b13 := u13.binds (ps := ["script", "at"]) fun _ _ _ _ _ _ us hl => match us, hl with | [_, _], _ => rfl
  have u14 := fun_mk (st := top 17) l14 c14 k14
  have b14 := u14.binds (ps := ["draws", "script"]) fun _ _ _ _ _ _ us hl => match us, hl with | [_, _], _ => rfl
  have u15 := fun_mk (st := top 4) l15 c15 k15
  have b15 := u15.binds (ps := ["takes"]) fun _ _ _ _ _ _ us hl => match us, hl with | [_], _ => rfl
  have u16 := fun_mk (st := top 18) l16 c16 k16
  have b16 := u16.binds (ps := ["draws", "script", "takes"]) fun _ _ _ _ _ _ us hl => match us, hl with | [_, _, _], _ => rfl
  have u17 := fun_mk (st := top 19) l17 c17 k17
  have b17 := u17.binds (ps := ["draws", "script", "takes"]) fun _ _ _ _ _ _ us hl => match us, hl with | [_, _, _], _ => rfl
  have u18 := fun_mk (st := top 20) l18 c18 k18
  have b18 := u18.binds (ps := ["script"]) fun _ _ _ _ _ _ us hl => match us, hl with | [_], _ => rfl
  refine ⟨PySem.W.fnOf "law" "law" (defArgs (top 20)) (defBody (top 20)) (defScope (top 20)) .none kV18 dc18 pm18 an18 cd18 ct18, fun s v => .of_eq rfl, fun base _ _ => ?_⟩
  have F_layers_taken := ok_layers_taken (P := l.prog) (w := w) (base := base) u0 (PySem.W.mg_of X G a0) b0 B 
  have F_got_by := ok_got_by (P := l.prog) (w := w) (base := base) u1 (PySem.W.mg_of X G a1) b1 B F_layers_taken
  have F_single_rate := ok_single_rate (P := l.prog) (w := w) (base := base) u2 (PySem.W.mg_of X G a2) b2 B 
  have F_layers_up_to := ok_layers_up_to (P := l.prog) (w := w) (base := base) u3 (PySem.W.mg_of X G a3) b3 B 
  have F_best_layers := ok_best_layers (P := l.prog) (w := w) (base := base) u4 (PySem.W.mg_of X G a4) b4 B F_got_by F_layers_up_to
  have F_without_slowest := ok_without_slowest (P := l.prog) (w := w) (base := base) u5 (PySem.W.mg_of X G a5) b5 B 
  have F_law_draws := ok_law_draws (P := l.prog) (w := w) (base := base) u6 (PySem.W.mg_of X G a6) b6 B 
  have F_law_take := ok_law_take (P := l.prog) (w := w) (base := base) u7 (PySem.W.mg_of X G a7) b7 B 
  have F_law_same := ok_law_same (P := l.prog) (w := w) (base := base) u8 (PySem.W.mg_of X G a8) b8 B 
  have F_law_taken := ok_law_taken (P := l.prog) (w := w) (base := base) u9 (PySem.W.mg_of X G a9) b9 B 
  have F_law_total := ok_law_total (P := l.prog) (w := w) (base := base) u10 (PySem.W.mg_of X G a10) b10 B F_law_taken
  have F_law_best := ok_law_best (P := l.prog) (w := w) (base := base) u11 (PySem.W.mg_of X G a11) b11 B F_law_total
  have F_law_any_best := ok_law_any_best (P := l.prog) (w := w) (base := base) u12 (PySem.W.mg_of X G a12) b12 B F_law_total
  have F_law_cell := ok_law_cell (P := l.prog) (w := w) (base := base) u13 (PySem.W.mg_of X G a13) b13 B 
  have F_law_takes := ok_law_takes (P := l.prog) (w := w) (base := base) u14 (PySem.W.mg_of X G a14) b14 B F_law_take F_law_cell
  have F_lost_by_slowest := ok_lost_by_slowest (P := l.prog) (w := w) (base := base) u15 (PySem.W.mg_of X G a15) b15 B F_single_rate
  have F_law_layers := ok_law_layers (P := l.prog) (w := w) (base := base) u16 (PySem.W.mg_of X G a16) b16 B F_law_take F_law_cell
  have F_law_is_told := ok_law_is_told (P := l.prog) (w := w) (base := base) u17 (PySem.W.mg_of X G a17) b17 B F_layers_taken F_got_by F_single_rate F_lost_by_slowest F_best_layers F_without_slowest F_law_take F_law_same F_law_taken F_law_best F_law_layers
  exact law_end (ok_law_raw u18 B F_layers_taken F_got_by F_single_rate F_best_layers F_without_slowest F_law_draws F_law_take F_law_same F_law_best F_law_any_best F_law_takes F_law_is_told) true_all
end Vl

-- Ek55
open PySem PySem.W PyProof.Rows
set_option maxRecDepth 100000 in
set_option maxHeartbeats 0 in
theorem PySem.Challenge.cw_heardbyall_k55_layers_for_hearers_holds : PySem.Challenge.rw_heardbyall_k55_layers_for_hearers.Holds := by
  w_on; o_law; k_head; (case hw => w_witness2)
  k_fill
  refine L2.walk_of (l := PySem.Challenge.rw_heardbyall_k55_layers_for_hearers) (n := 63) (k := 15) (x := "script") (CX := fun _ => L2.CX0) (sp := fun w => Vl.spLaw _) rfl (by decide) rfl ⟨rfl, by decide, by decide⟩ (fun w h Y => PySem.W.kIn_of Y) ?F (fun _ _ a ns hl _ hS => ⟨a, ns, rfl, hS, hl, fun _ => rfl⟩) (fun _ _ _ _ _ h => h)
  case F =>
    intro w mg fa h KX G hmg
    refine' Vl.all_mk KX G hmg Vl.true_all ?a0 ?l0 ?c0 ?k0 ?a1 ?l1 ?c1 ?k1 ?a2 ?l2 ?c2 ?k2 ?a3 ?l3 ?c3 ?k3 ?a4 ?l4 ?c4 ?k4 ?a5 ?l5 ?c5 ?k5 ?a6 ?l6 ?c6 ?k6 ?a7 ?l7 ?c7 ?k7 ?a8 ?l8 ?c8 ?k8 ?a9 ?l9 ?c9 ?k9 ?a10 ?l10 ?c10 ?k10 ?a11 ?l11 ?c11 ?k11 ?a12 ?l12 ?c12 ?k12 ?a13 ?l13 ?c13 ?k13 ?a14 ?l14 ?c14 ?k14 ?a15 ?l15 ?c15 ?k15 ?a16 ?l16 ?c16 ?k16 ?a17 ?l17 ?c17 ?k17 ?a18 ?l18 ?c18 ?k18 ?z0 ?z1 ?z2 ?z3 ?z4 ?z5 ?z6 ?z7 ?z8 ?z9 ?z10 ?z11 ?z12 ?z13
    (case a0 => k_is); (case l0 => k_is); (case c0 => k_is); (case k0 => k_is)
    (case a1 => k_is); (case l1 => k_is); (case c1 => k_is); (case k1 => k_is)
    (case a2 => k_is); (case l2 => k_is); (case c2 => k_is); (case k2 => k_is)
    (case a3 => k_is); (case l3 => k_is); (case c3 => k_is); (case k3 => k_is)
    (case a4 => k_is); (case l4 => k_is); (case c4 => k_is); (case k4 => k_is)
    (case a5 => k_is); (case l5 => k_is); (case c5 => k_is); (case k5 => k_is)
    (case a6 => k_is); (case l6 => k_is); (case c6 => k_is); (case k6 => k_is)
    (case a7 => k_is); (case l7 => k_is); (case c7 => k_is); (case k7 => k_is)
    (case a8 => k_is); (case l8 => k_is); (case c8 => k_is); (case k8 => k_is)
    (case a9 => k_is); (case l9 => k_is); (case c9 => k_is); (case k9 => k_is)
    (case a10 => k_is); (case l10 => k_is); (case c10 => k_is); (case k10 => k_is)
    (case a11 => k_is); (case l11 => k_is); (case c11 => k_is); (case k11 => k_is)
    (case a12 => k_is); (case l12 => k_is); (case c12 => k_is); (case k12 => k_is)
    (case a13 => k_is); (case l13 => k_is); (case c13 => k_is); (case k13 => k_is)
    (case a14 => k_is); (case l14 => k_is); (case c14 => k_is); (case k14 => k_is)
    (case a15 => k_is); (case l15 => k_is); (case c15 => k_is); (case k15 => k_is)
    (case a16 => k_is); (case l16 => k_is); (case c16 => k_is); (case k16 => k_is)
    (case a17 => k_is); (case l17 => k_is); (case c17 => k_is); (case k17 => k_is)
    (case a18 => k_is); (case l18 => k_is); (case c18 => k_is); (case k18 => k_is)
    (case z0 => k_is); (case z1 => k_is); (case z2 => k_is); (case z3 => k_is)
    (case z4 => k_is); (case z5 => k_is); (case z6 => k_is); (case z7 => k_is)
    (case z8 => k_is); (case z9 => k_is); (case z10 => k_is); (case z11 => k_is)
    (case z12 => k_is); (case z13 => k_is)
