import PyProof.Rows.All
import Wide.All
import OpenK.AllK
import Wide.FinOn
import HandS.ForMost
import HandS.TupAny
import HandS.TupMul
import HandS.Style
import HandS.IsInst
import HandS.Conv
import HandS.Gcd
import KE.GoesEnum
import KE.GoesMore
import KE.GoesZip
import PyProof.Rows.SumAny
import HandS.SetFor
import HandS.RaiseMore
import KE.KDictDisplayH
import HandS.Dict
import HandS.List
import HandS.Ends
import HandS.EndBits
import PyProof.Rows.RegFStrParts
import PySem.Challenge.RW_carryoffice_k84_whole_rounds_at_once
set_option Elab.async false
set_option linter.all false
set_option maxRecDepth 100000
set_option maxHeartbeats 4000000
/-! The value layer: data by value (D), tracked objects by address (Hd), over the hand layer's readings. -/
namespace VL
open PySem L2

inductive D where
  | non | bl (b : Bool) | int (i : Int) | str (s : Str) | ty (n : String) | ref (a : Addr)
  | tup (xs : List D) | lst (xs : List D) | ro (xs : List D) | edic

inductive HD where
  | lst (xs : List D)
  | dT (kvs : List (List Key × D))
  | ins (C : Addr) (fs : List (Str × D))

abbrev Hd := Addr → Option HD
def updD (G : Hd) (a : Addr) (o : HD) : Hd := fun b => if b = a then some o else G b
def delD (G : Hd) (a : Addr) : Hd := fun b => if b = a then none else G b
theorem updD_same {G : Hd} {a : Addr} {o : HD} : updD G a o a = some o := by unfold updD; rw [if_pos rfl]
theorem updD_ne {G : Hd} {a b : Addr} {o : HD} (h : b ≠ a) : updD G a o b = G b := by unfold updD; rw [if_neg h]
theorem updD_updD {G : Hd} {a : Addr} {o u : HD} : updD (updD G a o) a u = updD G a u := by
  funext b; unfold updD; split <;> rfl
theorem delD_same {G : Hd} {a : Addr} : delD G a a = none := by unfold delD; rw [if_pos rfl]
theorem delD_ne {G : Hd} {a b : Addr} (h : b ≠ a) : delD G a b = G b := by unfold delD; rw [if_neg h]
theorem delD_updD {G : Hd} {a : Addr} {o : HD} (h : G a = none) : delD (updD G a o) a = G := by
  funext b; unfold delD updD
  by_cases e : b = a
  · rw [if_pos e, e, h]
  · rw [if_neg e, if_neg e]
theorem updD_comm {G : Hd} {a b : Addr} {o u : HD} (h : a ≠ b) : updD (updD G a o) b u = updD (updD G b u) a o := by
  funext c; unfold updD
  by_cases h1 : c = b
  · have h2 : c ≠ a := fun e => h (e.symm.trans h1)
    rw [if_pos h1, if_neg h2, if_pos h1]
  · rw [if_neg h1, if_neg h1]

/-- the written part; the objects that are hidden (a list that is being made) -/
structure Bd where
  K : PySem.W.Frag
  Z : Addr → Prop
section
variable (B : Bd) (G : Hd) (H : Hp)
/-- a list that is only read -/
def RoAt (a : Addr) (xs : List V) : Prop := (Rd H a (.lst xs) ∧ G a = none ∧ ¬ B.Z a) ∨
  ∃ (o : Obj) (its : Array Value) (n : Nat), B.K.lookup a = some o ∧ o.cls = .type "list" ∧ o.dict = none ∧ o.data = .seq its n ∧ its.size ≤ sizeLine ∧ Vals xs its.toList
mutual
inductive Rp : D → V → Prop
  | non : Rp .non .non
  | bl (b : Bool) : Rp (.bl b) (.bl b)
  | int (i : Int) : Rp (.int i) (.int i)
  | str (s : Str) : Rp (.str s) (.str s)
  | ty (n : String) : Rp (.ty n) (.ty n)
  | ref (a : Addr) : Rp (.ref a) (.ref a)
  | tup {a : Addr} {xs : List V} {ds : List D} : H a = some (.tup xs) → G a = none → ¬ B.Z a → RpL ds xs → Rp (.tup ds) (.ref a)
  | lst {a : Addr} {xs : List V} {ds : List D} : H a = some (.lst xs) → G a = none → ¬ B.Z a → RpL ds xs → Rp (.lst ds) (.ref a)
  | ro {a : Addr} {xs : List V} {ds : List D} : RoAt B G H a xs → RpL ds xs → Rp (.ro ds) (.ref a)
  | edic {a : Addr} : H a = some (.dK []) → G a = none → ¬ B.Z a → Rp .edic (.ref a)
inductive RpL : List D → List V → Prop
  | nil : RpL [] []
  | cons {d : D} {v : V} {ds : List D} {vs : List V} : Rp d v → RpL ds vs → RpL (d :: ds) (v :: vs)
end
end

def Ext (G : Hd) (H : Hp) (G' : Hd) (H' : Hp) : Prop := ∀ b o, H b = some o → G b = none → H' b = some o ∧ G' b = none
theorem Ext.refl {G : Hd} {H : Hp} : Ext G H G H := fun _ _ h g => ⟨h, g⟩
theorem Ext.trans {G G1 G2 : Hd} {H H1 H2 : Hp} (a : Ext G H G1 H1) (b : Ext G1 H1 G2 H2) : Ext G H G2 H2 := fun c o h g => b c o (a c o h g).1 (a c o h g).2

section
variable {B : Bd} {G G' : Hd} {H H' : Hp}
theorem RoAt.sq {a : Addr} {xs : List V} (h : RoAt B G H a xs) : SqL B.K H a xs := h.elim (fun q => .inl q.1) .inr
theorem RoAt.mono (e : Ext G H G' H') {a : Addr} {xs : List V} (h : RoAt B G H a xs) : RoAt B G' H' a xs := by
  rcases h with ⟨h | ⟨o, h⟩, g, z⟩ | h
  · obtain ⟨p, q⟩ := e _ _ h g; exact .inl ⟨.inl p, q, z⟩
  · obtain ⟨p, q⟩ := e _ _ h g; exact .inl ⟨.inr ⟨o, p⟩, q, z⟩
  · exact .inr h
mutual
theorem Rp.mono (e : Ext G H G' H') : ∀ {d : D} {v : V}, Rp B G H d v → Rp B G' H' d v
  | _, _, .non => .non
  | _, _, .bl b => .bl b
  | _, _, .int i => .int i
  | _, _, .str s => .str s
  | _, _, .ty n => .ty n
  | _, _, .ref a => .ref a
  | _, _, .tup h g z r => .tup (e _ _ h g).1 (e _ _ h g).2 z (RpL.mono e r)
  | _, _, .lst h g z r => .lst (e _ _ h g).1 (e _ _ h g).2 z (RpL.mono e r)
  | _, _, .ro h r => .ro (h.mono e) (RpL.mono e r)
  | _, _, .edic h g z => .edic (e _ _ h g).1 (e _ _ h g).2 z
theorem RpL.mono (e : Ext G H G' H') : ∀ {ds : List D} {vs : List V}, RpL B G H ds vs → RpL B G' H' ds vs
  | _, _, .nil => .nil
  | _, _, .cons a b => .cons (Rp.mono e a) (RpL.mono e b)
end
theorem RpL.length : ∀ {ds : List D} {vs : List V}, RpL B G H ds vs → ds.length = vs.length
  | _, _, .nil => rfl
  | _, _, .cons _ b => by rw [List.length_cons, List.length_cons, RpL.length b]
theorem RpL.get : ∀ {ds : List D} {vs : List V} {i : Nat} {d : D}, RpL B G H ds vs → ds[i]? = some d → ∃ v, vs[i]? = some v ∧ Rp B G H d v
  | _, _, _, _, .nil, h => by simp at h
  | _, _, 0, _, .cons a _, h => by simp at h; subst h; exact ⟨_, rfl, a⟩
  | _, _, i + 1, _, .cons _ b, h => by simpa using RpL.get (i := i) b (by simpa using h)
theorem RpL.get' : ∀ {ds : List D} {vs : List V} {i : Nat} {v : V}, RpL B G H ds vs → vs[i]? = some v → ∃ d, ds[i]? = some d ∧ Rp B G H d v
  | _, _, _, _, .nil, h => by simp at h
  | _, _, 0, _, .cons a _, h => by simp at h; subst h; exact ⟨_, rfl, a⟩
  | _, _, i + 1, _, .cons _ b, h => by simpa using RpL.get' (i := i) b (by simpa using h)
theorem RpL.append : ∀ {ds es : List D} {vs us : List V}, RpL B G H ds vs → RpL B G H es us → RpL B G H (ds ++ es) (vs ++ us)
  | _, _, _, _, .nil, h => h
  | _, _, _, _, .cons a b, h => .cons a (RpL.append b h)
theorem RpL.drop : ∀ {ds : List D} {vs : List V} (n : Nat), RpL B G H ds vs → RpL B G H (ds.drop n) (vs.drop n)
  | _, _, 0, h => h
  | _, _, _ + 1, .nil => .nil
  | _, _, n + 1, .cons _ b => RpL.drop n b
theorem RpL.take : ∀ {ds : List D} {vs : List V} (n : Nat), RpL B G H ds vs → RpL B G H (ds.take n) (vs.take n)
  | _, _, 0, _ => .nil
  | _, _, _ + 1, .nil => .nil
  | _, _, n + 1, .cons a b => .cons a (RpL.take n b)
theorem RpL.set {d : D} {v : V} (r : Rp B G H d v) : ∀ {ds : List D} {vs : List V} (n : Nat), RpL B G H ds vs → RpL B G H (ds.set n d) (vs.set n v)
  | _, _, _, .nil => .nil
  | _, _, 0, .cons _ b => .cons r b
  | _, _, n + 1, .cons a b => .cons a (RpL.set r n b)
theorem RpL.eraseIdx : ∀ {ds : List D} {vs : List V} (n : Nat), RpL B G H ds vs → RpL B G H (ds.eraseIdx n) (vs.eraseIdx n)
  | _, _, _, .nil => .nil
  | _, _, 0, .cons _ b => b
  | _, _, n + 1, .cons a b => .cons a (RpL.eraseIdx n b)
theorem RpL.reverse {ds : List D} {vs : List V} (r : RpL B G H ds vs) : RpL B G H ds.reverse vs.reverse := by
  induction ds generalizing vs with
  | nil => cases r; exact .nil
  | cons d ds ih =>
    cases r with
    | cons a b => rw [List.reverse_cons, List.reverse_cons]; exact (ih b).append (.cons a .nil)
theorem RpL.flatten_replicate {ds : List D} {vs : List V} (r : RpL B G H ds vs) : ∀ n : Nat, RpL B G H (List.replicate n ds).flatten (List.replicate n vs).flatten
  | 0 => .nil
  | n + 1 => by rw [List.replicate_succ, List.replicate_succ, List.flatten_cons, List.flatten_cons]; exact r.append (RpL.flatten_replicate r n)
theorem RpL.map_int : ∀ ns : List Int, RpL B G H (ns.map D.int) (ns.map V.int)
  | [] => .nil
  | n :: ns => .cons (.int n) (RpL.map_int ns)
theorem RpL.of_int : ∀ {ns : List Int} {vs : List V}, RpL B G H (ns.map D.int) vs → vs = ns.map V.int
  | [], _, .nil => rfl
  | n :: ns, _, .cons (.int _) b => by rw [List.map_cons, RpL.of_int b]
theorem RpL.of_bl : ∀ {ns : List Bool} {vs : List V}, RpL B G H (ns.map D.bl) vs → vs = ns.map V.bl
  | [], _, .nil => rfl
  | n :: ns, _, .cons (.bl _) b => by rw [List.map_cons, RpL.of_bl b]

/-- fields, dict entries -/
inductive RpF {κ : Type} (B : Bd) (G : Hd) (H : Hp) : List (κ × D) → List (κ × V) → Prop
  | nil : RpF B G H [] []
  | cons {k : κ} {d : D} {v : V} {ds : List (κ × D)} {vs : List (κ × V)} : Rp B G H d v → RpF B G H ds vs → RpF B G H ((k, d) :: ds) ((k, v) :: vs)
theorem RpF.mono {κ : Type} (e : Ext G H G' H') : ∀ {ds : List (κ × D)} {vs : List (κ × V)}, RpF B G H ds vs → RpF B G' H' ds vs
  | _, _, .nil => .nil
  | _, _, .cons a b => .cons (a.mono e) (RpF.mono e b)
theorem RpF.length {κ : Type} : ∀ {ds : List (κ × D)} {vs : List (κ × V)}, RpF B G H ds vs → ds.length = vs.length
  | _, _, .nil => rfl
  | _, _, .cons _ b => by rw [List.length_cons, List.length_cons, RpF.length b]
theorem RpF.keys {κ : Type} : ∀ {ds : List (κ × D)} {vs : List (κ × V)}, RpF B G H ds vs → ds.map (·.1) = vs.map (·.1)
  | _, _, .nil => rfl
  | _, _, .cons _ b => by rw [List.map_cons, List.map_cons, RpF.keys b]
theorem RpF.lookup {κ : Type} [BEq κ] (k : κ) : ∀ {ds : List (κ × D)} {vs : List (κ × V)}, RpF B G H ds vs →
    (ds.lookup k = none ∧ vs.lookup k = none) ∨ ∃ d v, ds.lookup k = some d ∧ vs.lookup k = some v ∧ Rp B G H d v
  | _, _, .nil => .inl ⟨rfl, rfl⟩
  | _, _, .cons (k := k') a b => by
    simp only [List.lookup_cons]
    by_cases h : (k == k') = true
    · rw [h]; exact .inr ⟨_, _, rfl, rfl, a⟩
    · rw [Bool.eq_false_iff.mpr h]; exact RpF.lookup k b
end

/-- what a tracked address holds -/
def SimO (B : Bd) (G : Hd) (H : Hp) (a : Addr) : HD → Prop
  | .lst ds => ∃ xs, H a = some (.lst xs) ∧ RpL B G H ds xs
  | .dT kvs => ∃ xs, H a = some (.dT xs) ∧ RpF B G H kvs xs
  | .ins C fs => ∃ dx xs, H a = some (.ins C dx xs) ∧ RpF B G H fs xs
structure Sim (B : Bd) (G : Hd) (H : Hp) : Prop where
  at_ : ∀ a o, G a = some o → SimO B G H a o
  hid : ∀ a, B.Z a → G a = none ∧ ∃ o, H a = some o

section
variable {B : Bd} {G G' : Hd} {H H' : Hp} {a p : Addr}
theorem SimO.there {o : HD} (s : SimO B G H a o) : ∃ u, H a = some u := by
  cases o with
  | lst ds => obtain ⟨xs, h, _⟩ := s; exact ⟨_, h⟩
  | dT ds => obtain ⟨xs, h, _⟩ := s; exact ⟨_, h⟩
  | ins C fs => obtain ⟨dx, xs, h, _⟩ := s; exact ⟨_, h⟩
theorem SimO.move {o : HD} (s : SimO B G H a o) (e : Ext G H G' H') (h : H' a = H a) : SimO B G' H' a o := by
  cases o with
  | lst ds => obtain ⟨xs, q, r⟩ := s; exact ⟨xs, h.trans q, r.mono e⟩
  | dT ds => obtain ⟨xs, q, r⟩ := s; exact ⟨xs, h.trans q, r.mono e⟩
  | ins C fs => obtain ⟨dx, xs, q, r⟩ := s; exact ⟨dx, xs, h.trans q, r.mono e⟩
theorem Sim.free (s : Sim B G H) (h : H p = none) : G p = none := by
  cases e : G p with
  | none => rfl
  | some o => obtain ⟨u, q⟩ := (s.at_ p o e).there; rw [h] at q; cases q
theorem Sim.seen (s : Sim B G H) (h : H p = none) : ¬ B.Z p := fun z => by
  obtain ⟨_, o, q⟩ := s.hid p z
  rw [h] at q; cases q
theorem Sim.move (s : Sim B G H) (e : Ext G H G' H') (w : ∀ a o, G' a = some o → (G a = some o ∧ H' a = H a) ∨ SimO B G' H' a o) : Sim B G' H' :=
  ⟨fun a o h => (w a o h).elim (fun ⟨h1, h2⟩ => (s.at_ a o h1).move e h2) id, fun a z => let ⟨g, o, h⟩ := s.hid a z; let ⟨h', g'⟩ := e a o h g; ⟨g', o, h'⟩⟩
/-- a new object that is not tracked -/
theorem Ext.laid {o : HO} (h : H p = none) : Ext G H G (upd H p o) := fun b u q g => ⟨by rw [upd_ne (ne_of_none q h)]; exact q, g⟩
theorem Sim.laid (s : Sim B G H) {o : HO} (h : H p = none) : Sim B G (upd H p o) :=
  s.move (Ext.laid h) fun a u q => .inl ⟨q, upd_ne fun e => by rw [e, s.free h] at q; cases q⟩
/-- a new object that is tracked -/
theorem Ext.laidT {o : HO} {u : HD} (h : H p = none) : Ext G H (updD G p u) (upd H p o) := fun b w q g =>
  have ne := ne_of_none q h
  ⟨by rw [upd_ne ne]; exact q, by rw [updD_ne ne]; exact g⟩
theorem Sim.laidT (s : Sim B G H) {o : HO} {u : HD} (h : H p = none) (n : Ext G H (updD G p u) (upd H p o) → SimO B (updD G p u) (upd H p o) p u) : Sim B (updD G p u) (upd H p o) := by
  have e : Ext G H (updD G p u) (upd H p o) := Ext.laidT h
  refine s.move e fun a w q => ?_
  by_cases z : a = p
  · rw [z] at q ⊢; rw [updD_same] at q; cases q; exact .inr (n e)
  · rw [updD_ne z] at q; exact .inl ⟨q, upd_ne z⟩
/-- a tracked object is written -/
theorem Ext.wrote {o : HO} {u w : HD} (h : G p = some w) : Ext G H (updD G p u) (upd H p o) := fun b x q g => by
  have ne : b ≠ p := fun e => by rw [e, h] at g; cases g
  exact ⟨by rw [upd_ne ne]; exact q, by rw [updD_ne ne]; exact g⟩
theorem Sim.wrote (s : Sim B G H) {o : HO} {u w : HD} (h : G p = some w) (n : Ext G H (updD G p u) (upd H p o) → SimO B (updD G p u) (upd H p o) p u) : Sim B (updD G p u) (upd H p o) := by
  have e : Ext G H (updD G p u) (upd H p o) := Ext.wrote h
  refine s.move e fun a x q => ?_
  by_cases z : a = p
  · rw [z] at q ⊢; rw [updD_same] at q; cases q; exact .inr (n e)
  · rw [updD_ne z] at q; exact .inl ⟨q, upd_ne z⟩
/-- a tracked object becomes a value -/
theorem Ext.froze : Ext G H (delD G p) H := fun b x q g => ⟨q, by
  unfold delD
  split
  · rfl
  · exact g⟩
theorem Sim.froze (s : Sim B G H) : Sim B (delD G p) H := s.move Ext.froze fun a o q => by
  unfold delD at q
  split at q
  · cases q
  · exact .inl ⟨q, rfl⟩
theorem zne {a D' : Addr} (n : ¬ B.Z a) (z : B.Z D') : a ≠ D' := fun e => n (by rw [e]; exact z)
/- the hidden list grows: nothing that is seen changes -/
mutual
theorem Rp.hidden {D' : Addr} {o : HO} (z : B.Z D') : ∀ {d : D} {v : V}, Rp B G H d v → Rp B G (upd H D' o) d v
  | _, _, .non => .non
  | _, _, .bl b => .bl b
  | _, _, .int i => .int i
  | _, _, .str s => .str s
  | _, _, .ty n => .ty n
  | _, _, .ref a => .ref a
  | _, _, .tup h g n r => .tup ((upd_ne (zne n z)).trans h) g n (RpL.hidden z r)
  | _, _, .lst h g n r => .lst ((upd_ne (zne n z)).trans h) g n (RpL.hidden z r)
  | _, _, .ro h r => .ro (by
      rcases h with ⟨h | ⟨u, h⟩, g, n⟩ | h
      · exact .inl ⟨.inl ((upd_ne (zne n z)).trans h), g, n⟩
      · exact .inl ⟨.inr ⟨u, (upd_ne (zne n z)).trans h⟩, g, n⟩
      · exact .inr h) (RpL.hidden z r)
  | _, _, .edic h g n => .edic ((upd_ne (zne n z)).trans h) g n
theorem RpL.hidden {D' : Addr} {o : HO} (z : B.Z D') : ∀ {ds : List D} {vs : List V}, RpL B G H ds vs → RpL B G (upd H D' o) ds vs
  | _, _, .nil => .nil
  | _, _, .cons a b => .cons (Rp.hidden z a) (RpL.hidden z b)
end
theorem RpF.hidden {κ : Type} {D' : Addr} {o : HO} (z : B.Z D') : ∀ {ds : List (κ × D)} {vs : List (κ × V)}, RpF B G H ds vs → RpF B G (upd H D' o) ds vs
  | _, _, .nil => .nil
  | _, _, .cons a b => .cons (Rp.hidden z a) (RpF.hidden z b)
theorem Sim.hidden (s : Sim B G H) {D' : Addr} {o : HO} (z : B.Z D') : Sim B G (upd H D' o) := by
  refine ⟨fun a u q => ?_, fun a za => ?_⟩
  · have ne : a ≠ D' := fun e => by rw [e, (s.hid D' z).1] at q; cases q
    have h := s.at_ a u q
    cases u with
    | lst ds => obtain ⟨xs, h1, r⟩ := h; exact ⟨xs, (upd_ne ne).trans h1, r.hidden z⟩
    | dT ds => obtain ⟨xs, h1, r⟩ := h; exact ⟨xs, (upd_ne ne).trans h1, r.hidden z⟩
    | ins C fs => obtain ⟨dx, xs, h1, r⟩ := h; exact ⟨dx, xs, (upd_ne ne).trans h1, r.hidden z⟩
  · obtain ⟨g, u, h⟩ := s.hid a za
    by_cases e : a = D'
    · subst e; exact ⟨g, o, upd_same⟩
    · exact ⟨g, u, (upd_ne e).trans h⟩
/- fewer things are hidden, or one more that nothing refers to -/
mutual
theorem Rp.less {B' : Bd} (hk : B.K = B'.K) (hz : ∀ a, B'.Z a → B.Z a) : ∀ {d : D} {v : V}, Rp B G H d v → Rp B' G H d v
  | _, _, .non => .non
  | _, _, .bl b => .bl b
  | _, _, .int i => .int i
  | _, _, .str s => .str s
  | _, _, .ty n => .ty n
  | _, _, .ref a => .ref a
  | _, _, .tup h g n r => .tup h g (fun z => n (hz _ z)) (RpL.less hk hz r)
  | _, _, .lst h g n r => .lst h g (fun z => n (hz _ z)) (RpL.less hk hz r)
  | _, _, .ro h r => .ro (by
      unfold RoAt at *
      rw [← hk]
      exact h.imp (fun ⟨a, b, c⟩ => ⟨a, b, fun z => c (hz _ z)⟩) id) (RpL.less hk hz r)
  | _, _, .edic h g n => .edic h g (fun z => n (hz _ z))
theorem RpL.less {B' : Bd} (hk : B.K = B'.K) (hz : ∀ a, B'.Z a → B.Z a) : ∀ {ds : List D} {vs : List V}, RpL B G H ds vs → RpL B' G H ds vs
  | _, _, .nil => .nil
  | _, _, .cons a b => .cons (Rp.less hk hz a) (RpL.less hk hz b)
end
theorem RpF.less {κ : Type} {B' : Bd} (hk : B.K = B'.K) (hz : ∀ a, B'.Z a → B.Z a) : ∀ {ds : List (κ × D)} {vs : List (κ × V)}, RpF B G H ds vs → RpF B' G H ds vs
  | _, _, .nil => .nil
  | _, _, .cons a b => .cons (Rp.less hk hz a) (RpF.less hk hz b)
theorem Sim.less {B' : Bd} (hk : B.K = B'.K) (hz : ∀ a, B'.Z a → B.Z a) (s : Sim B G H) : Sim B' G H := by
  refine ⟨fun a u q => ?_, fun a za => s.hid a (hz a za)⟩
  have h := s.at_ a u q
  cases u with
  | lst ds => obtain ⟨xs, h1, r⟩ := h; exact ⟨xs, h1, r.less hk hz⟩
  | dT ds => obtain ⟨xs, h1, r⟩ := h; exact ⟨xs, h1, r.less hk hz⟩
  | ins C fs => obtain ⟨dx, xs, h1, r⟩ := h; exact ⟨dx, xs, h1, r.less hk hz⟩
/-- one more is hidden: a new object at p, which was free -/
def Bd.hide (B : Bd) (p : Addr) : Bd := ⟨B.K, fun a => B.Z a ∨ a = p⟩
mutual
theorem Rp.hide {o : HO} (hp : H p = none) : ∀ {d : D} {v : V}, Rp B G H d v → Rp (B.hide p) G (upd H p o) d v
  | _, _, .non => .non
  | _, _, .bl b => .bl b
  | _, _, .int i => .int i
  | _, _, .str s => .str s
  | _, _, .ty n => .ty n
  | _, _, .ref a => .ref a
  | _, _, .tup h g n r => .tup ((upd_ne (ne_of_none h hp)).trans h) g (fun z => z.elim n (ne_of_none h hp)) (RpL.hide hp r)
  | _, _, .lst h g n r => .lst ((upd_ne (ne_of_none h hp)).trans h) g (fun z => z.elim n (ne_of_none h hp)) (RpL.hide hp r)
  | _, _, .ro h r => .ro (by
      rcases h with ⟨h | ⟨u, h⟩, g, n⟩ | h
      · exact .inl ⟨.inl ((upd_ne (ne_of_none h hp)).trans h), g, fun z => z.elim n (ne_of_none h hp)⟩
      · exact .inl ⟨.inr ⟨u, (upd_ne (ne_of_none h hp)).trans h⟩, g, fun z => z.elim n (ne_of_none h hp)⟩
      · exact .inr h) (RpL.hide hp r)
  | _, _, .edic h g n => .edic ((upd_ne (ne_of_none h hp)).trans h) g (fun z => z.elim n (ne_of_none h hp))
theorem RpL.hide {o : HO} (hp : H p = none) : ∀ {ds : List D} {vs : List V}, RpL B G H ds vs → RpL (B.hide p) G (upd H p o) ds vs
  | _, _, .nil => .nil
  | _, _, .cons a b => .cons (Rp.hide hp a) (RpL.hide hp b)
end
theorem RpF.hide {κ : Type} {o : HO} (hp : H p = none) : ∀ {ds : List (κ × D)} {vs : List (κ × V)}, RpF B G H ds vs → RpF (B.hide p) G (upd H p o) ds vs
  | _, _, .nil => .nil
  | _, _, .cons a b => .cons (Rp.hide hp a) (RpF.hide hp b)
theorem Sim.hide (s : Sim B G H) {o : HO} (hp : H p = none) : Sim (B.hide p) G (upd H p o) := by
  refine ⟨fun a u q => ?_, fun a za => ?_⟩
  · have h := s.at_ a u q
    obtain ⟨w, hw⟩ := h.there
    have ne := ne_of_none hw hp
    cases u with
    | lst ds => obtain ⟨xs, h1, r⟩ := h; exact ⟨xs, (upd_ne ne).trans h1, r.hide hp⟩
    | dT ds => obtain ⟨xs, h1, r⟩ := h; exact ⟨xs, (upd_ne ne).trans h1, r.hide hp⟩
    | ins C fs => obtain ⟨dx, xs, h1, r⟩ := h; exact ⟨dx, xs, (upd_ne ne).trans h1, r.hide hp⟩
  · rcases za with za | rfl
    · obtain ⟨g, u, h⟩ := s.hid a za
      exact ⟨g, u, (upd_ne (ne_of_none h hp)).trans h⟩
    · exact ⟨s.free hp, o, upd_same⟩
/-- what is seen of a state stays: also behind a hidden list's making -/
def VExt (B : Bd) (G : Hd) (H : Hp) (B' : Bd) (G' : Hd) (H' : Hp) : Prop := B.K = B'.K ∧ ∀ b o, H b = some o → G b = none → ¬ B.Z b → H' b = some o ∧ G' b = none ∧ ¬ B'.Z b
theorem VExt.refl : VExt B G H B G H := ⟨rfl, fun _ _ h g z => ⟨h, g, z⟩⟩
theorem VExt.trans {B1 B2 : Bd} {G1 G2 : Hd} {H1 H2 : Hp} (a : VExt B G H B1 G1 H1) (b : VExt B1 G1 H1 B2 G2 H2) : VExt B G H B2 G2 H2 :=
  ⟨a.1.trans b.1, fun c o h g z => let ⟨h1, g1, z1⟩ := a.2 c o h g z; b.2 c o h1 g1 z1⟩
theorem Ext.v (e : Ext G H G' H') : VExt B G H B G' H' := ⟨rfl, fun b o h g z => ⟨(e b o h g).1, (e b o h g).2, z⟩⟩
theorem VExt.hide {o : HO} (hp : H p = none) : VExt B G H (B.hide p) G (upd H p o) := ⟨rfl, fun b u h g z => ⟨(upd_ne (ne_of_none h hp)).trans h, g, fun q => q.elim z (ne_of_none h hp)⟩⟩
theorem VExt.hidden {D' : Addr} {o : HO} (z : B.Z D') : VExt B G H B G (upd H D' o) := ⟨rfl, fun b u h g n => ⟨(upd_ne (zne n z)).trans h, g, n⟩⟩
mutual
theorem Rp.vmono {B' : Bd} (e : VExt B G H B' G' H') : ∀ {d : D} {v : V}, Rp B G H d v → Rp B' G' H' d v
  | _, _, .non => .non
  | _, _, .bl b => .bl b
  | _, _, .int i => .int i
  | _, _, .str s => .str s
  | _, _, .ty n => .ty n
  | _, _, .ref a => .ref a
  | _, _, .tup h g n r => .tup (e.2 _ _ h g n).1 (e.2 _ _ h g n).2.1 (e.2 _ _ h g n).2.2 (RpL.vmono e r)
  | _, _, .lst h g n r => .lst (e.2 _ _ h g n).1 (e.2 _ _ h g n).2.1 (e.2 _ _ h g n).2.2 (RpL.vmono e r)
  | _, _, .ro h r => .ro (by
      rcases h with ⟨h | ⟨u, h⟩, g, n⟩ | h
      · exact .inl ⟨.inl (e.2 _ _ h g n).1, (e.2 _ _ h g n).2.1, (e.2 _ _ h g n).2.2⟩
      · exact .inl ⟨.inr ⟨u, (e.2 _ _ h g n).1⟩, (e.2 _ _ h g n).2.1, (e.2 _ _ h g n).2.2⟩
      · unfold RoAt
        rw [← e.1]
        exact .inr h) (RpL.vmono e r)
  | _, _, .edic h g n => .edic (e.2 _ _ h g n).1 (e.2 _ _ h g n).2.1 (e.2 _ _ h g n).2.2
theorem RpL.vmono {B' : Bd} (e : VExt B G H B' G' H') : ∀ {ds : List D} {vs : List V}, RpL B G H ds vs → RpL B' G' H' ds vs
  | _, _, .nil => .nil
  | _, _, .cons a b => .cons (Rp.vmono e a) (RpL.vmono e b)
end
end
end VL
set_option Elab.async false
set_option linter.all false
set_option maxRecDepth 100000
set_option maxHeartbeats 4000000
/-! Readings over values, and what they stand for in the hand layer's readings. -/
namespace VL
open PySem L2

abbrev SD := List (Option D)
abbrev KD := D → Hd → Prop
abbrev DE := SD → Hd → KD → Prop
abbrev DT := SD → Hd → (Bool → Hd → Prop) → Prop
abbrev DA := SD → Hd → (List D → Hd → Prop) → Prop
structure DEnds where
  nx : SD → Hd → Prop
  rt : KD
  bk : SD → Hd → Prop := fun _ _ => False
  ct : SD → Hd → Prop := fun _ _ => False
abbrev DS := DEnds → SD → Hd → Prop

structure SS (B : Bd) (G : Hd) (H : Hp) (δ : SD) (σ : St) : Prop where
  len : δ.length = σ.length
  slot : ∀ (i : Nat) (d : D), δ[i]? = some (some d) → ∃ v, σ[i]? = some (some v) ∧ Rp B G H d v
  sim : Sim B G H

section
variable {B : Bd} {G G' : Hd} {H H' : Hp} {δ : SD} {σ : St}
theorem SS.mono (s : SS B G H δ σ) (e : Ext G H G' H') (m : Sim B G' H') : SS B G' H' δ σ :=
  ⟨s.len, fun i d h => let ⟨v, a, b⟩ := s.slot i d h; ⟨v, a, b.mono e⟩, m⟩
theorem SS.set (s : SS B G H δ σ) {d : D} {v : V} (r : Rp B G H d v) (i : Nat) : SS B G H (δ.set i (some d)) (σ.set i (some v)) := by
  refine ⟨by rw [List.length_set, List.length_set, s.len], fun j e h => ?_, s.sim⟩
  by_cases hj : i = j
  · subst hj
    have hl : i < δ.length := by
      have := (List.getElem?_eq_some_iff.mp h).1
      simpa using this
    rw [List.getElem?_set_self hl] at h
    cases h
    exact ⟨v, List.getElem?_set_self (by rw [← s.len]; exact hl), r⟩
  · rw [List.getElem?_set_ne hj] at h
    rw [List.getElem?_set_ne hj]
    exact s.slot j e h
theorem SS.unset (s : SS B G H δ σ) (i : Nat) : SS B G H (δ.set i none) (σ.set i none) := by
  refine ⟨by rw [List.length_set, List.length_set, s.len], fun j e h => ?_, s.sim⟩
  by_cases hj : i = j
  · subst hj
    have hl : i < δ.length := by
      have := (List.getElem?_eq_some_iff.mp h).1
      simpa using this
    rw [List.getElem?_set_self hl] at h
    cases h
  · rw [List.getElem?_set_ne hj] at h
    rw [List.getElem?_set_ne hj]
    exact s.slot j e h
end

def lowE (K : PySem.W.Frag) (t : DE) : TE := fun σ H Kc => ∃ (Z : Addr → Prop) (G : Hd) (δ : SD) (Q : _), SS ⟨K, Z⟩ G H δ σ ∧ t δ G Q ∧ ∀ d v G' H', Ext G H G' H' → Sim ⟨K, Z⟩ G' H' → Rp ⟨K, Z⟩ G' H' d v → Q d G' → Kc v H'
def lowT (K : PySem.W.Frag) (t : DT) : TT := fun σ H Kc => ∃ (Z : Addr → Prop) (G : Hd) (δ : SD) (Q : _), SS ⟨K, Z⟩ G H δ σ ∧ t δ G Q ∧ ∀ b G' H', Ext G H G' H' → Sim ⟨K, Z⟩ G' H' → Q b G' → Kc b H'
def lowA (K : PySem.W.Frag) (t : DA) : TA := fun σ H Kc => ∃ (Z : Addr → Prop) (G : Hd) (δ : SD) (Q : _), SS ⟨K, Z⟩ G H δ σ ∧ t δ G Q ∧ ∀ ds vs G' H', Ext G H G' H' → Sim ⟨K, Z⟩ G' H' → RpL ⟨K, Z⟩ G' H' ds vs → Q ds G' → Kc vs H'
structure Low (B : Bd) (G : Hd) (H : Hp) (E : DEnds) (D' : Ends) : Prop where
  nx : ∀ δ' σ' G' H', Ext G H G' H' → SS B G' H' δ' σ' → E.nx δ' G' → D'.nx σ' H'
  rt : ∀ d v G' H', Ext G H G' H' → Sim B G' H' → Rp B G' H' d v → E.rt d G' → D'.rt v H'
  bk : ∀ δ' σ' G' H', Ext G H G' H' → SS B G' H' δ' σ' → E.bk δ' G' → D'.bk σ' H'
  ct : ∀ δ' σ' G' H', Ext G H G' H' → SS B G' H' δ' σ' → E.ct δ' G' → D'.ct σ' H'
theorem Low.later {B : Bd} {G G1 : Hd} {H H1 : Hp} {E : DEnds} {D' : Ends} (l : Low B G H E D') (e : Ext G H G1 H1) : Low B G1 H1 E D' :=
  ⟨fun δ' σ' G' H' e' => l.nx δ' σ' G' H' (e.trans e'), fun d v G' H' e' => l.rt d v G' H' (e.trans e'), fun δ' σ' G' H' e' => l.bk δ' σ' G' H' (e.trans e'), fun δ' σ' G' H' e' => l.ct δ' σ' G' H' (e.trans e')⟩
def lowS (K : PySem.W.Frag) (t : DS) : TS := fun D' σ H => ∃ (Z : Addr → Prop) (G : Hd) (δ : SD) (E : DEnds), SS ⟨K, Z⟩ G H δ σ ∧ t E δ G ∧ Low ⟨K, Z⟩ G H E D'

section
variable {X : Cx}
theorem _root_.L2.PE.imp {e : Expr} {t t' : TE} (h : PE X e t) (w : ∀ σ H Q, t' σ H Q → t σ H Q) : PE X e t' := ⟨fun pins s σ H Q I q => h.run pins s σ H Q I (w σ H Q q)⟩
theorem _root_.L2.PT.imp {e : Expr} {t t' : TT} (h : PT X e t) (w : ∀ σ H Q, t' σ H Q → t σ H Q) : PT X e t' := ⟨fun pins s σ H Q I q => h.run pins s σ H Q I (w σ H Q q)⟩
theorem _root_.L2.PW.imp {e : Expr} {t t' : TT} (h : PW X e t) (w : ∀ σ H Q, t' σ H Q → t σ H Q) : PW X e t' := ⟨fun wh pins s σ H Q I q => h.run wh pins s σ H Q I (w σ H Q q)⟩
theorem _root_.L2.PA.imp {e : List Expr} {t t' : TA} (h : PA X e t) (w : ∀ σ H Q, t' σ H Q → t σ H Q) : PA X e t' := ⟨fun pos pins s σ H Q I q => h.run pos pins s σ H Q I (w σ H Q q)⟩
theorem _root_.L2.PS.imp {e : Stmt} {t t' : TS} (h : PS X e t) (w : ∀ D σ H, t' D σ H → t D σ H) : PS X e t' := ⟨fun pins s σ H D I q => h.run pins s σ H D I (w D σ H q)⟩
theorem _root_.L2.PSs.imp {e : List Stmt} {t t' : TS} (h : PSs X e t) (w : ∀ D σ H, t' D σ H → t D σ H) : PSs X e t' := ⟨fun pins s σ H D I q => h.run pins s σ H D I (w D σ H q)⟩
end

/-! ### names, constants -/
def dVar (i : Nat) : DE := fun δ G Q => match δ[i]? with
  | some (some d) => Q d G
  | _ => False
def dC (d : D) : DE := fun _ G Q => Q d G
section
variable {X : Cx} {pos : Pos}
theorem qe_of {e : Expr} {t : TE} {t' : DE} (h : PE X e t)
    (w : ∀ σ H (Z : Addr → Prop) G δ (Q : KD) (Kc : VK), SS ⟨X.K, Z⟩ G H δ σ → t' δ G Q → (∀ d v G' H', Ext G H G' H' → Sim ⟨X.K, Z⟩ G' H' → Rp ⟨X.K, Z⟩ G' H' d v → Q d G' → Kc v H') → t σ H Kc) : PE X e (lowE X.K t') :=
  h.imp fun σ H Kc ⟨Z, G, δ, Q, ss, q, k⟩ => w σ H Z G δ Q Kc ss q k
theorem qv (i : Nat) {x : Str} (hN : X.N[i]? = some x := by rfl) (hv : Vis X.env.scope x := by first | exact Or.inl rfl | exact Or.inr (Or.inl rfl) | exact Or.inr (Or.inr rfl)) (hd : (x == ("__debug__" : Str)) = false := by decide)
    (hcd : (x == ("__classdict__" : Str)) = false := by decide) : PE X (.Name x pos) (lowE X.K (dVar i)) :=
  qe_of (pe_var hN hv hd hcd) fun σ H Z G δ Q Kc ss q k => by
    unfold dVar at q
    split at q
    · rename_i d e
      obtain ⟨v, h1, h2⟩ := ss.slot i d e
      exact ⟨v, h1, k d v G H .refl ss.sim h2 q⟩
    · exact q.elim
theorem q_int {i j} : PE X (.Constant (.int i) j pos) (lowE X.K (dC (.int i))) := qe_of pe_int fun σ H Z G δ Q Kc ss q k => k _ _ G H .refl ss.sim (.int i) q
theorem q_bl {b j} : PE X (.Constant (.bool b) j pos) (lowE X.K (dC (.bl b))) := qe_of pe_bl fun σ H Z G δ Q Kc ss q k => k _ _ G H .refl ss.sim (.bl b) q
theorem q_non {j} : PE X (.Constant .none j pos) (lowE X.K (dC .non)) := qe_of pe_non fun σ H Z G δ Q Kc ss q k => k _ _ G H .refl ss.sim .non q
theorem q_str {x j} : PE X (.Constant (.str x) j pos) (lowE X.K (dC (.str x))) := qe_of pe_str fun σ H Z G δ Q Kc ss q k => k _ _ G H .refl ss.sim (.str x) q
/-- a module's int -/
theorem q_globI {x : Str} {i : Int} {tk : Tok} (hg : Gl X x) (hm : X.mg x = some (.int i tk)) (hd : (x == ("__debug__" : Str)) = false := by decide) : PE X (.Name x pos) (lowE X.K (dC (.int i))) :=
  qe_of (pe_glob (v := .int i) hg hm ⟨tk, rfl⟩ hd) fun σ H Z G δ Q Kc ss q k => k _ _ G H .refl ss.sim (.int i) q
/-- a built-in type as a value -/
theorem q_bty {x : Str} {n : String} (hg : Gl X x) (hm : X.mg x = none) (hv : bootBuiltins x = some (.type n)) (hn : x ≠ "__name__" := by decide) (hd : (x == ("__debug__" : Str)) = false := by decide) : PE X (.Name x pos) (lowE X.K (dC (.ty n))) :=
  qe_of (pe_bltn (v := .ty n) hg hm hv rfl hn hd) fun σ H Z G δ Q Kc ss q k => k _ _ G H .refl ss.sim (.ty n) q
end

/-! ### operators -/
abbrev D2 := D → D → Hd → KD → Prop
abbrev D1 := D → Hd → KD → Prop
def dBin (r : D2) (ta tb : DE) : DE := fun δ G Q => ta δ G fun x G1 => tb δ G1 fun y G2 => r x y G2 Q
def dUn (r : D1) (ta : DE) : DE := fun δ G Q => ta δ G fun x G1 => r x G1 Q
/-- a rule by values stands for one of the hand layer -/
def Ref2 (K : PySem.W.Frag) (r : D2) (rv : R2) : Prop := ∀ (Z : Addr → Prop) (x y : D) (vx vy : V) (G : Hd) (H : Hp) (Q : KD) (Kc : VK), Sim ⟨K, Z⟩ G H → Rp ⟨K, Z⟩ G H x vx → Rp ⟨K, Z⟩ G H y vy → r x y G Q →
  (∀ d v G' H', Ext G H G' H' → Sim ⟨K, Z⟩ G' H' → Rp ⟨K, Z⟩ G' H' d v → Q d G' → Kc v H') → rv vx vy H Kc
def Ref1 (K : PySem.W.Frag) (r : D1) (rv : V → Hp → VK → Prop) : Prop := ∀ (Z : Addr → Prop) (x : D) (vx : V) (G : Hd) (H : Hp) (Q : KD) (Kc : VK), Sim ⟨K, Z⟩ G H → Rp ⟨K, Z⟩ G H x vx → r x G Q →
  (∀ d v G' H', Ext G H G' H' → Sim ⟨K, Z⟩ G' H' → Rp ⟨K, Z⟩ G' H' d v → Q d G' → Kc v H') → rv vx H Kc
theorem Ref2.or {K : PySem.W.Frag} {r r' : D2} {rv rv' : R2} (a : Ref2 K r rv) (b : Ref2 K r' rv') : Ref2 K (fun x y G Q => r x y G Q ∨ r' x y G Q) (fun x y H Q => rv x y H Q ∨ rv' x y H Q) :=
  fun Z x y vx vy G H Q Kc s rx ry h k => h.elim (fun h => .inl (a Z x y vx vy G H Q Kc s rx ry h k)) (fun h => .inr (b Z x y vx vy G H Q Kc s rx ry h k))
section
variable {X : Cx} {pos : Pos} {a b : Expr} {ta tb : DE}
theorem low2 {K : PySem.W.Frag} {Z : Addr → Prop} {r : D2} {rv : R2} (hr : Ref2 K r rv) {σ : St} {H : Hp} {G : Hd} {δ : SD} {Q : KD} {Kc : VK} (ss : SS ⟨K, Z⟩ G H δ σ) (q : dBin r ta tb δ G Q)
    (k : ∀ d v G' H', Ext G H G' H' → Sim ⟨K, Z⟩ G' H' → Rp ⟨K, Z⟩ G' H' d v → Q d G' → Kc v H') : tOp rv (lowE K ta) (lowE K tb) σ H Kc :=
  ⟨Z, G, δ, _, ss, q, fun d1 v1 G1 H1 e1 s1 r1 h1 => ⟨Z, G1, δ, _, ss.mono e1 s1, h1, fun d2 v2 G2 H2 e2 s2 r2 h2 =>
    hr Z d1 d2 v1 v2 G2 H2 Q Kc s2 (r1.mono e2) r2 h2 fun d v G' H' e s r q => k d v G' H' ((e1.trans e2).trans e) s r q⟩⟩
theorem q_bin {op : Operator} {rv : R2} {r : D2} (ho : OpR X (binaryOp op) rv) (hr : Ref2 X.K r rv) (ha : PE X a (lowE X.K ta)) (hb : PE X b (lowE X.K tb)) : PE X (.BinOp a op b pos) (lowE X.K (dBin r ta tb)) :=
  qe_of (pe_op ho ha hb) fun σ H Z G δ Q Kc ss q k => low2 hr ss q k
theorem q_un {op : UnaryOp} {rv : V → Hp → VK → Prop} {r : D1} (ho : UnR X (unaryOp op) rv) (hr : Ref1 X.K r rv) (ha : PE X a (lowE X.K ta)) : PE X (.UnaryOp op a pos) (lowE X.K (dUn r ta)) :=
  qe_of (pe_un ho ha) fun σ H Z G δ Q Kc ss q k => ⟨Z, G, δ, _, ss, q, fun d1 v1 G1 H1 e1 s1 r1 h1 => hr Z d1 v1 G1 H1 Q Kc s1 r1 h1 fun d v G' H' e s r q => k d v G' H' (e1.trans e) s r q⟩
theorem q_cmp {op : CmpOp} {rv : R2} {r : D2} (ho : OpR X (compareOp op) rv) (hr : Ref2 X.K r rv) (ha : PE X a (lowE X.K ta)) (hb : PE X b (lowE X.K tb)) (hm : behindInMarks op b = false) : PE X (.Compare a [op] [b] pos) (lowE X.K (dBin r ta tb)) :=
  qe_of (pe_cmpR ho ha hb hm) fun σ H Z G δ Q Kc ss q k => low2 hr ss q k
/-- a value's reading as a test, where it is a bool -/
def dTest (t : DE) : DT := fun δ G Q => t δ G fun x G' => match x with
  | .bl k => Q k G'
  | _ => False
theorem qt_of {e : Expr} {t : TT} {t' : DT} (h : PT X e t)
    (w : ∀ σ H (Z : Addr → Prop) G δ (Q : Bool → Hd → Prop) (Kc : Bool → Hp → Prop), SS ⟨X.K, Z⟩ G H δ σ → t' δ G Q → (∀ b G' H', Ext G H G' H' → Sim ⟨X.K, Z⟩ G' H' → Q b G' → Kc b H') → t σ H Kc) : PT X e (lowT X.K t') :=
  h.imp fun σ H Kc ⟨Z, G, δ, Q, ss, q, k⟩ => w σ H Z G δ Q Kc ss q k
theorem bl_end {B : Bd} {G : Hd} {H : Hp} {Q : Bool → Hd → Prop} {Kc : Bool → Hp → Prop} (k : ∀ b G' H', Ext G H G' H' → Sim B G' H' → Q b G' → Kc b H') :
    ∀ d v G' H', Ext G H G' H' → Sim B G' H' → Rp B G' H' d v → (match d with | .bl k => Q k G' | _ => False) → ∃ c, v = .bl c ∧ Kc c H' := by
  intro d v G' H' e s r q
  cases r with
  | bl b => exact ⟨b, rfl, k b G' H' e s q⟩
  | _ => exact q.elim
theorem qt_cmp {op : CmpOp} {rv : R2} {r : D2} (ho : OpR X (compareOp op) rv) (hr : Ref2 X.K r rv) (ha : PE X a (lowE X.K ta)) (hb : PE X b (lowE X.K tb)) (hm : behindInMarks op b = false) : PT X (.Compare a [op] [b] pos) (lowT X.K (dTest (dBin r ta tb))) :=
  qt_of (pt_cmpR ho ha hb hm) fun σ H Z G δ Q Kc ss q k => low2 hr ss q (bl_end k)
/-- a op b op' c -/
def dChain (r r' : D2) (ta tb tc : DE) : DE := fun δ G Q => ta δ G fun x G1 => tb δ G1 fun y G2 => r x y G2 fun z G3 => match z with
  | .bl true => tc δ G3 fun w G4 => r' y w G4 Q
  | .bl false => Q (.bl false) G3
  | _ => False
theorem lowChain {K : PySem.W.Frag} {Z : Addr → Prop} {r r' : D2} {rv rv' : R2} {tc : DE} (hr : Ref2 K r rv) (hr' : Ref2 K r' rv') {σ : St} {H : Hp} {G : Hd} {δ : SD} {Q : KD} {Kc : VK} (ss : SS ⟨K, Z⟩ G H δ σ) (q : dChain r r' ta tb tc δ G Q)
    (k : ∀ d v G' H', Ext G H G' H' → Sim ⟨K, Z⟩ G' H' → Rp ⟨K, Z⟩ G' H' d v → Q d G' → Kc v H') : tChain rv rv' (lowE K ta) (lowE K tb) (lowE K tc) σ H Kc := by
  refine ⟨Z, G, δ, _, ss, q, fun d1 v1 G1 H1 e1 s1 r1 h1 => ⟨Z, G1, δ, _, ss.mono e1 s1, h1, fun d2 v2 G2 H2 e2 s2 r2 h2 =>
    hr Z d1 d2 v1 v2 G2 H2 _ _ s2 (r1.mono e2) r2 h2 fun d v G' H' e s r q => ?_⟩⟩
  cases r with
  | bl b =>
    refine ⟨b, rfl, ?_⟩
    cases b with
    | true =>
      rw [if_pos rfl]
      exact ⟨Z, G', δ, _, ss.mono ((e1.trans e2).trans e) s, q, fun d4 v4 G4 H4 e4 s4 r4 h4 => hr' Z d2 d4 v2 v4 G4 H4 Q Kc s4 ((r2.mono e).mono e4) r4 h4 fun d v G' H' e' s r q =>
        k d v G' H' ((((e1.trans e2).trans e).trans e4).trans e') s r q⟩
    | false =>
      rw [if_neg Bool.false_ne_true]
      exact k _ _ G' H' ((e1.trans e2).trans e) s (.bl false) q
  | _ => exact q.elim
theorem q_chain {op op' : CmpOp} {rv rv' : R2} {r r' : D2} {c : Expr} {tc : DE} (ho : OpR X (compareOp op) rv) (hr : Ref2 X.K r rv) (ho' : OpR X (compareOp op') rv') (hr' : Ref2 X.K r' rv') (ha : PE X a (lowE X.K ta)) (hb : PE X b (lowE X.K tb)) (hc : PE X c (lowE X.K tc))
    (hm : lastMarks [op, op'] [b, c] = false := by with_unfolding_all rfl) : PE X (.Compare a [op, op'] [b, c] pos) (lowE X.K (dChain r r' ta tb tc)) :=
  qe_of (pe_chain ho ho' ha hb hc hm) fun σ H Z G δ Q Kc ss q k => lowChain hr hr' ss q k
theorem qt_chain {op op' : CmpOp} {rv rv' : R2} {r r' : D2} {c : Expr} {tc : DE} (ho : OpR X (compareOp op) rv) (hr : Ref2 X.K r rv) (ho' : OpR X (compareOp op') rv') (hr' : Ref2 X.K r' rv') (ha : PE X a (lowE X.K ta)) (hb : PE X b (lowE X.K tb)) (hc : PE X c (lowE X.K tc))
    (hm : lastMarks [op, op'] [b, c] = false := by with_unfolding_all rfl) : PT X (.Compare a [op, op'] [b, c] pos) (lowT X.K (dTest (dChain r r' ta tb tc))) :=
  qt_of (pt_chain ho ho' ha hb hc hm) fun σ H Z G δ Q Kc ss q k => lowChain hr hr' ss q (bl_end k)
end

/-! ### and, or, not, if -/
def dAnd (t u : DT) : DT := fun δ G Q => t δ G fun c G1 => if c = true then u δ G1 Q else Q false G1
def dOr (t u : DT) : DT := fun δ G Q => t δ G fun c G1 => if c = true then Q true G1 else u δ G1 Q
def dNot (t : DT) : DT := fun δ G Q => t δ G fun c G1 => Q (!c) G1
def dAndV (ta tb : DE) : DE := fun δ G Q => ta δ G fun x G1 => match x with
  | .bl true => tb δ G1 Q
  | .bl false => Q (.bl false) G1
  | _ => False
def dOrV (ta tb : DE) : DE := fun δ G Q => ta δ G fun x G1 => match x with
  | .bl true => Q (.bl true) G1
  | .bl false => tb δ G1 Q
  | _ => False
def dNotV (ta : DE) : DE := fun δ G Q => ta δ G fun x G1 => match x with
  | .bl k => Q (.bl (!k)) G1
  | _ => False
def dIf (t : DT) (ta tb : DE) : DE := fun δ G Q => t δ G fun c G1 => if c = true then ta δ G1 Q else tb δ G1 Q
section
variable {X : Cx} {pos : Pos} {a b : Expr} {rest : List Expr} {ta tb : DE} {t u : DT}
theorem qw_of {e : Expr} {t : TT} {t' : DT} (h : PW X e t)
    (w : ∀ σ H (Z : Addr → Prop) G δ (Q : Bool → Hd → Prop) (Kc : Bool → Hp → Prop), SS ⟨X.K, Z⟩ G H δ σ → t' δ G Q → (∀ b G' H', Ext G H G' H' → Sim ⟨X.K, Z⟩ G' H' → Q b G' → Kc b H') → t σ H Kc) : PW X e (lowT X.K t') :=
  h.imp fun σ H Kc ⟨Z, G, δ, Q, ss, q, k⟩ => w σ H Z G δ Q Kc ss q k
theorem qw_and1 (ha : PT X a (lowT X.K t)) : PW X (.BoolOp .And [a] pos) (lowT X.K t) := pw_and1 ha
theorem qw_or1 (ha : PT X a (lowT X.K t)) : PW X (.BoolOp .Or [a] pos) (lowT X.K t) := pw_or1 ha
theorem qw_and (ha : PT X a (lowT X.K t)) (hb : PW X (.BoolOp .And (b :: rest) pos) (lowT X.K u)) : PW X (.BoolOp .And (a :: b :: rest) pos) (lowT X.K (dAnd t u)) :=
  qw_of (pw_and ha hb) fun σ H Z G δ Q Kc ss q k => ⟨Z, G, δ, _, ss, q, fun c G1 H1 e1 s1 q1 => by
    cases c with
    | true =>
      rw [if_pos rfl] at q1 ⊢
      exact ⟨Z, G1, δ, _, ss.mono e1 s1, q1, fun b G' H' e s q => k b G' H' (e1.trans e) s q⟩
    | false =>
      rw [if_neg Bool.false_ne_true] at q1 ⊢
      exact k _ G1 H1 e1 s1 q1⟩
theorem qw_or (ha : PT X a (lowT X.K t)) (hb : PW X (.BoolOp .Or (b :: rest) pos) (lowT X.K u)) : PW X (.BoolOp .Or (a :: b :: rest) pos) (lowT X.K (dOr t u)) :=
  qw_of (pw_or ha hb) fun σ H Z G δ Q Kc ss q k => ⟨Z, G, δ, _, ss, q, fun c G1 H1 e1 s1 q1 => by
    cases c with
    | true =>
      rw [if_pos rfl] at q1 ⊢
      exact k _ G1 H1 e1 s1 q1
    | false =>
      rw [if_neg Bool.false_ne_true] at q1 ⊢
      exact ⟨Z, G1, δ, _, ss.mono e1 s1, q1, fun b G' H' e s q => k b G' H' (e1.trans e) s q⟩⟩
theorem qt_not (ha : PT X a (lowT X.K t)) : PT X (.UnaryOp .Not a pos) (lowT X.K (dNot t)) :=
  qt_of (pt_not ha) fun σ H Z G δ Q Kc ss q k => ⟨Z, G, δ, _, ss, q, fun c G1 H1 e1 s1 q1 => k _ G1 H1 e1 s1 q1⟩
theorem qt_val {e : Expr} {t : DE} (h : PE X e (lowE X.K t)) (he : ∀ whole, isTrue e X.env whole = (do let v ← whole; standAt e.pos; holding [v] (truthy v)) := by intro _; rfl) : PT X e (lowT X.K (dTest t)) :=
  qt_of (pt_val h he) fun σ H Z G δ Q Kc ss q k => ⟨Z, G, δ, _, ss, q, bl_end k⟩
theorem q_one {op} (h : PE X a (lowE X.K ta)) : PE X (.BoolOp op [a] pos) (lowE X.K ta) := pe_one h
theorem q_and (ha : PE X a (lowE X.K ta)) (hb : PE X (.BoolOp .And (b :: rest) pos) (lowE X.K tb)) : PE X (.BoolOp .And (a :: b :: rest) pos) (lowE X.K (dAndV ta tb)) :=
  qe_of (pe_and ha hb) fun σ H Z G δ Q Kc ss q k => ⟨Z, G, δ, _, ss, q, fun d v G1 H1 e1 s1 r1 q1 => by
    cases r1 with
    | bl c =>
      refine ⟨c, rfl, ?_⟩
      cases c with
      | true => rw [if_pos rfl]; exact ⟨Z, G1, δ, _, ss.mono e1 s1, q1, fun d v G' H' e s r q => k d v G' H' (e1.trans e) s r q⟩
      | false => rw [if_neg Bool.false_ne_true]; exact k _ _ G1 H1 e1 s1 (.bl false) q1
    | _ => exact q1.elim⟩
theorem q_or (ha : PE X a (lowE X.K ta)) (hb : PE X (.BoolOp .Or (b :: rest) pos) (lowE X.K tb)) : PE X (.BoolOp .Or (a :: b :: rest) pos) (lowE X.K (dOrV ta tb)) :=
  qe_of (pe_or ha hb) fun σ H Z G δ Q Kc ss q k => ⟨Z, G, δ, _, ss, q, fun d v G1 H1 e1 s1 r1 q1 => by
    cases r1 with
    | bl c =>
      refine ⟨c, rfl, ?_⟩
      cases c with
      | true => rw [if_pos rfl]; exact k _ _ G1 H1 e1 s1 (.bl true) q1
      | false => rw [if_neg Bool.false_ne_true]; exact ⟨Z, G1, δ, _, ss.mono e1 s1, q1, fun d v G' H' e s r q => k d v G' H' (e1.trans e) s r q⟩
    | _ => exact q1.elim⟩
theorem q_not (ha : PE X a (lowE X.K ta)) : PE X (.UnaryOp .Not a pos) (lowE X.K (dNotV ta)) :=
  qe_of (pe_not ha) fun σ H Z G δ Q Kc ss q k => ⟨Z, G, δ, _, ss, q, fun d v G1 H1 e1 s1 r1 q1 => by
    cases r1 with
    | bl c => exact ⟨c, rfl, k _ _ G1 H1 e1 s1 (.bl (!c)) q1⟩
    | _ => exact q1.elim⟩
theorem q_if {c : Expr} (hc : PT X c (lowT X.K t)) (ha : PE X a (lowE X.K ta)) (hb : PE X b (lowE X.K tb)) : PE X (.IfExp c a b pos) (lowE X.K (dIf t ta tb)) :=
  qe_of (pe_ifExp hc ha hb) fun σ H Z G δ Q Kc ss q k => ⟨Z, G, δ, _, ss, q, fun c G1 H1 e1 s1 q1 => by
    cases c with
    | true =>
      rw [if_pos rfl] at q1 ⊢
      exact ⟨Z, G1, δ, _, ss.mono e1 s1, q1, fun d v G' H' e s r q => k d v G' H' (e1.trans e) s r q⟩
    | false =>
      rw [if_neg Bool.false_ne_true] at q1 ⊢
      exact ⟨Z, G1, δ, _, ss.mono e1 s1, q1, fun d v G' H' e s r q => k d v G' H' (e1.trans e) s r q⟩⟩
end
end VL
set_option Elab.async false
set_option linter.all false
set_option maxRecDepth 100000
set_option maxHeartbeats 4000000
/-! Operators, subscripts, displays by values. -/
namespace VL
open PySem L2

section
variable {B : Bd} {G : Hd} {H : Hp} {p : Addr}
theorem newTup (s : Sim B G H) (hp : H p = none) {ds : List D} {xs : List V} (r : RpL B G H ds xs) : Rp B G (upd H p (.tup xs)) (.tup ds) (.ref p) :=
  .tup upd_same (s.free hp) (s.seen hp) (r.mono (Ext.laid hp))
theorem newLst (s : Sim B G H) (hp : H p = none) {ds : List D} {xs : List V} (r : RpL B G H ds xs) : Rp B G (upd H p (.lst xs)) (.lst ds) (.ref p) :=
  .lst upd_same (s.free hp) (s.seen hp) (r.mono (Ext.laid hp))
theorem simLst (s : Sim B G H) (hp : H p = none) {ds : List D} {xs : List V} (r : RpL B G H ds xs) : Sim B (updD G p (.lst ds)) (upd H p (.lst xs)) :=
  s.laidT hp fun e => ⟨xs, upd_same, r.mono e⟩
theorem wroteLst (s : Sim B G H) {es ds : List D} {xs : List V} (hp : G p = some (.lst es)) (r : RpL B G H ds xs) : Sim B (updD G p (.lst ds)) (upd H p (.lst xs)) :=
  s.wrote hp fun e => ⟨xs, upd_same, r.mono e⟩
theorem RpL.size {ds : List D} {vs : List V} (r : RpL B G H ds vs) : vs.length = ds.length := r.length.symm
theorem RpL.nil_iff {ds : List D} {vs : List V} (r : RpL B G H ds vs) : vs = [] ↔ ds = [] := by
  cases r <;> simp
end

/-! ### ints -/
def bI (C : Int → Int → Prop) (g : Int → Int → Int) : D2 := fun x y G Q => match x, y with
  | .int i, .int j => C i j ∧ Q (.int (g i j)) G
  | _, _ => False
def bI0 (g : Int → Int → Int) : D2 := fun x y G Q => match x, y with
  | .int i, .int j => Q (.int (g i j)) G
  | _, _ => False
def bB0 (g : Int → Int → Bool) : D2 := fun x y G Q => match x, y with
  | .int i, .int j => Q (.bl (g i j)) G
  | _, _ => False
section
variable {K : PySem.W.Frag}
theorem ref_I {C : Int → Int → Prop} {g : Int → Int → Int} : Ref2 K (bI C g) (rI C fun i j => .int (g i j)) := by
  intro Z x y vx vy G H Q Kc s rx ry h k
  cases rx <;> cases ry <;> first | exact h.elim | exact ⟨_, _, rfl, rfl, h.1, k _ _ G H .refl s (.int _) h.2⟩
theorem ref_I0 {g : Int → Int → Int} : Ref2 K (bI0 g) (rI0 fun i j => .int (g i j)) := by
  intro Z x y vx vy G H Q Kc s rx ry h k
  cases rx <;> cases ry <;> first | exact h.elim | exact ⟨_, _, rfl, rfl, k _ _ G H .refl s (.int _) h⟩
theorem ref_B0 {g : Int → Int → Bool} : Ref2 K (bB0 g) (rI0 fun i j => .bl (g i j)) := by
  intro Z x y vx vy G H Q Kc s rx ry h k
  cases rx <;> cases ry <;> first | exact h.elim | exact ⟨_, _, rfl, rfl, k _ _ G H .refl s (.bl _) h⟩
end
abbrev bSub : D2 := bI0 fun i j => i - j
abbrev bDiv : D2 := bI CDiv fun i j => i / j
abbrev bMod : D2 := bI (fun _ j => 0 < j) fun i j => i % j
abbrev bPow : D2 := bI CPow fun i j => i ^ j.toNat
abbrev bLt : D2 := bB0 fun i j => decide (i < j)
abbrev bLe : D2 := bB0 fun i j => decide (i ≤ j)
abbrev bGt : D2 := bB0 fun i j => decide (j < i)
abbrev bGe : D2 := bB0 fun i j => decide (j ≤ i)
def uNeg : D1 := fun x G Q => match x with
  | .int i => Q (.int (-i)) G
  | _ => False
theorem ref_neg {K : PySem.W.Frag} : Ref1 K uNeg (rU fun i => .int (-i)) := by
  intro Z x vx G H Q Kc s rx h k
  cases rx <;> first | exact h.elim | exact ⟨_, rfl, k _ _ G H .refl s (.int _) h⟩

/-! ### + and * of anything -/
def trkL : Option HD → Option (List D)
  | some (.lst xs) => some xs
  | _ => none
theorem trkL_some {o : Option HD} {xs : List D} (h : trkL o = some xs) : o = some (.lst xs) := by
  cases o with
  | none => cases h
  | some u => cases u <;> cases h; rfl
/-- the items of a list, by value or tracked -/
def lstOf (G : Hd) : D → Option (List D)
  | .lst xs => some xs
  | .ref a => trkL (G a)
  | _ => none
theorem lstOf_rp {B : Bd} {G : Hd} {H : Hp} {d : D} {v : V} {ds : List D} (s : Sim B G H) (r : Rp B G H d v) (h : lstOf G d = some ds) : ∃ a xs, v = .ref a ∧ H a = some (.lst xs) ∧ RpL B G H ds xs := by
  cases r with
  | lst h1 _ _ r => cases h; exact ⟨_, _, rfl, h1, r⟩
  | ref a =>
    obtain ⟨ys, h1, r⟩ := s.at_ a _ (trkL_some h)
    exact ⟨a, ys, rfl, h1, r⟩
  | _ => cases h
def bAdd : D2 := fun x y G Q => match x, y with
  | .int i, .int j => Q (.int (i + j)) G
  | .str a, .str b => a.length + b.length ≤ sizeLine ∧ Q (.str (a ++ b)) G
  | .tup a, .tup b => a.length + b.length ≤ sizeLine ∧ Q (.tup (a ++ b)) G
  | x, y => match lstOf G x, lstOf G y with
    | some a, some b => a.length + b.length ≤ sizeLine ∧ Q (.lst (a ++ b)) G
    | _, _ => False
def rAddAll (K : PySem.W.Frag) : R2 := fun x y H Q => rI0 (fun i j => .int (i + j)) x y H Q ∨ (∃ i j, x = .str i ∧ y = .str j ∧ i.length + j.length ≤ sizeLine ∧ Q (.str (i ++ j)) H) ∨ rCatA K x y H Q ∨ rCat x y H Q
theorem op_addAll {X : Cx} : OpR X (binaryOp .Add) (rAddAll X.K) := op_add.or (op_add_str.or (op_catA.or op_cat))
theorem ref_add {K : PySem.W.Frag} : Ref2 K bAdd (rAddAll K) := by
  intro Z x y vx vy G H Q Kc s rx ry h k
  have lists : ∀ {x y : D}, Rp ⟨K, Z⟩ G H x vx → Rp ⟨K, Z⟩ G H y vy → (match lstOf G x, lstOf G y with
      | some a, some b => a.length + b.length ≤ sizeLine ∧ Q (.lst (a ++ b)) G
      | _, _ => False) → rAddAll K vx vy H Kc := by
    intro x y rx ry h
    split at h
    · rename_i a b e1 e2
      obtain ⟨p, xs, rfl, h1, r1⟩ := lstOf_rp s rx e1
      obtain ⟨q, ys, rfl, h2, r2⟩ := lstOf_rp s ry e2
      refine .inr (.inr (.inr ⟨p, q, xs, ys, rfl, rfl, h1, h2, by rw [r1.size, r2.size]; exact h.1, fun l hl => ?_⟩))
      exact k _ _ G _ (Ext.laid hl) (s.laid hl) (newLst s hl (r1.append r2)) h.2
    · exact h.elim
  have ry0 := ry
  cases rx with
  | int i =>
    cases ry with
    | int j => exact .inl ⟨_, _, rfl, rfl, k _ _ G H .refl s (.int _) h⟩
    | _ => exact lists (.int i) ry0 h
  | str i =>
    cases ry with
    | str j => exact .inr (.inl ⟨_, _, rfl, rfl, h.1, k _ _ G H .refl s (.str _) h.2⟩)
    | _ => exact lists (.str i) ry0 h
  | tup h1 g1 z1 r1 =>
    cases ry with
    | tup h2 g2 z2 r2 =>
      refine .inr (.inr (.inl ⟨_, _, _, _, rfl, rfl, .inl (.inl h1), .inl (.inl h2), by rw [r1.size, r2.size]; exact h.1, fun e => ?_, fun _ e => ?_, fun _ _ p hp => ?_⟩))
      · have e' := r1.nil_iff.mp e
        have q := h.2
        rw [e', List.nil_append] at q
        exact k _ _ G H .refl s (.tup h2 g2 z2 r2) q
      · have e' := r2.nil_iff.mp e
        have q := h.2
        rw [e', List.append_nil] at q
        exact k _ _ G H .refl s (.tup h1 g1 z1 r1) q
      · exact k _ _ G _ (Ext.laid hp) (s.laid hp) (newTup s hp (r1.append r2)) h.2
    | _ => exact lists (.tup h1 g1 z1 r1) ry0 h
  | bl b => cases ry <;> exact lists (.bl b) ry0 h
  | non => cases ry <;> exact lists .non ry0 h
  | ty n => cases ry <;> exact lists (.ty n) ry0 h
  | ref a => cases ry <;> exact lists (.ref a) ry0 h
  | lst h1 g1 z1 r1 => cases ry <;> exact lists (.lst h1 g1 z1 r1) ry0 h
  | ro h1 r1 => cases ry <;> exact lists (.ro h1 r1) ry0 h
  | edic h1 g1 z1 => cases ry <;> exact lists (.edic h1 g1 z1) ry0 h
def bMul : D2 := fun x y G Q => match x, y with
  | .int i, .int j => CMul i j ∧ Q (.int (i * j)) G
  | .tup a, .int j => a ≠ [] ∧ 2 ≤ j ∧ j ≤ 1000 ∧ a.length ≤ 1000 ∧ Q (.tup (List.replicate j.toNat a).flatten) G
  | x, .int j => match lstOf G x with
    | some a => -(2 ^ 63) ≤ j ∧ j < 2 ^ 63 ∧ a.length * j.toNat ≤ sizeLine ∧ Q (.lst (List.replicate j.toNat a).flatten) G
    | _ => False
  | _, _ => False
def rMulAll (K : PySem.W.Frag) : R2 := fun x y H Q => rI CMul (fun i j => .int (i * j)) x y H Q ∨ rRepT K x y H Q ∨ rRep x y H Q
theorem op_mulAll {X : Cx} : OpR X (binaryOp .Mult) (rMulAll X.K) := op_mul.or (op_repT.or op_rep)
theorem ref_mul {K : PySem.W.Frag} : Ref2 K bMul (rMulAll K) := by
  intro Z x y vx vy G H Q Kc s rx ry h k
  have lists : ∀ {x : D} {j : Int}, Rp ⟨K, Z⟩ G H x vx → (match lstOf G x with
      | some a => -(2 ^ 63) ≤ j ∧ j < 2 ^ 63 ∧ a.length * j.toNat ≤ sizeLine ∧ Q (.lst (List.replicate j.toNat a).flatten) G
      | _ => False) → rMulAll K vx (.int j) H Kc := by
    intro x j rx h
    split at h
    · rename_i a e1
      obtain ⟨p, xs, rfl, h1, r1⟩ := lstOf_rp s rx e1
      refine .inr (.inr ⟨p, j, xs, rfl, rfl, h1, h.1, h.2.1, by rw [r1.size]; exact h.2.2.1, fun l hl => ?_⟩)
      exact k _ _ G _ (Ext.laid hl) (s.laid hl) (newLst s hl (r1.flatten_replicate _)) h.2.2.2
    · exact h.elim
  cases ry with
  | int j =>
    cases rx with
    | int i => exact .inl ⟨_, _, rfl, rfl, h.1, k _ _ G H .refl s (.int _) h.2⟩
    | tup h1 g1 z1 r1 =>
      obtain ⟨a1, a2, a3, a4, q⟩ := h
      exact .inr (.inl ⟨_, j, _, rfl, rfl, .inl (.inl h1), fun e => a1 (r1.nil_iff.mp e), a2, a3, by rw [r1.size]; exact a4, fun p hp => k _ _ G _ (Ext.laid hp) (s.laid hp) (newTup s hp (r1.flatten_replicate _)) q⟩)
    | non => exact lists .non h
    | bl b => exact lists (.bl b) h
    | str z => exact lists (.str z) h
    | ty n => exact lists (.ty n) h
    | ref a => exact lists (.ref a) h
    | lst h1 g1 z1 r1 => exact lists (.lst h1 g1 z1 r1) h
    | ro h1 r1 => exact lists (.ro h1 r1) h
    | edic h1 g1 z1 => exact lists (.edic h1 g1 z1) h
  | _ => cases rx <;> exact h.elim

/-! ### ==, !=, is, in -/
mutual
/-- data by value, as the library's own data -/
def toP : D → PyData
  | .non => .none
  | .bl b => .bool b
  | .int i => .int i
  | .str x => .str x
  | .tup xs => .tuple (toPs xs)
  | .lst xs => .list (toPs xs)
  | .ro xs => .list (toPs xs)
  | .ty _ => .none
  | .ref _ => .none
  | .edic => .none
def toPs : List D → List PyData
  | [] => []
  | x :: xs => toP x :: toPs xs
end
mutual
def pureD : D → Bool
  | .ty _ => false
  | .ref _ => false
  | .edic => false
  | .tup xs => pureDs xs
  | .lst xs => pureDs xs
  | .ro xs => pureDs xs
  | .non => true
  | .bl _ => true
  | .int _ => true
  | .str _ => true
def pureDs : List D → Bool
  | [] => true
  | x :: xs => pureD x && pureDs xs
end
mutual
theorem Rp.dp {B : Bd} {G : Hd} {H : Hp} : ∀ {d : D} {v : V}, Rp B G H d v → pureD d = true → Dp B.K H v (toP d)
  | _, _, .non, _ => .non
  | _, _, .bl b, _ => .bl b
  | _, _, .int i, _ => .int i
  | _, _, .str s, _ => .str s
  | _, _, .tup h g z r, p => .tup (.inl (.inl h)) (RpL.dp r (by simpa only [pureD] using p))
  | _, _, .lst h g z r, p => .lst (.inl (.inl h)) (RpL.dp r (by simpa only [pureD] using p))
  | _, _, .ro h r, p => .lst h.sq (RpL.dp r (by simpa only [pureD] using p))
theorem RpL.dp {B : Bd} {G : Hd} {H : Hp} : ∀ {ds : List D} {vs : List V}, RpL B G H ds vs → pureDs ds = true → DpAll B.K H vs (toPs ds)
  | _, _, .nil, _ => .nil
  | _, _, .cons a b, p => by
    simp only [pureDs, Bool.and_eq_true] at p
    exact .cons (Rp.dp a p.1) (RpL.dp b p.2)
end
/-- data whose == the library knows -/
def okD (d : D) : Bool := pureD d && SeqAt.shaped (toP d)
/-- a tracked list, read -/
def rdD (G : Hd) (d : D) : D := match lstOf G d with
  | some xs => .lst xs
  | none => d
theorem rdD_dp {B : Bd} {G : Hd} {H : Hp} {d : D} {v : V} (s : Sim B G H) (r : Rp B G H d v) (p : pureD (rdD G d) = true) : Dp B.K H v (toP (rdD G d)) := by
  unfold rdD at *
  split at p
  · rename_i xs e
    obtain ⟨a, ys, rfl, h, rr⟩ := lstOf_rp s r e
    simp only [pureD] at p
    exact .lst (.inl (.inl h)) (RpL.dp rr p)
  · rename_i e
    exact r.dp p
def bEq : D2 := fun x y G Q => match x, y with
  | .int i, .int j => Q (.bl (decide (i = j))) G
  | .non, .int _ => Q (.bl false) G
  | .int _, .non => Q (.bl false) G
  | .non, .non => Q (.bl true) G
  | .str i, .str j => Q (.bl (decide (i = j))) G
  | .bl i, .bl j => Q (.bl (decide (i = j))) G
  | x, y => okD (rdD G x) = true ∧ okD (rdD G y) = true ∧ Q (.bl (PyData.eqv (toP (rdD G x)) (toP (rdD G y)))) G
def bNe : D2 := fun x y G Q => bEq x y G fun d G' => match d with
  | .bl b => Q (.bl (!b)) G'
  | _ => False
def rEqAll (K : PySem.W.Frag) : R2 := fun x y H Q => rEq x y H Q ∨ rEqD K x y H Q
def rNeAll (K : PySem.W.Frag) : R2 := fun x y H Q => rNe x y H Q ∨ rNeD K x y H Q
theorem op_eqAll {X : Cx} (hu : X.A.units + 64 < cLine) : OpR X (compareOp .Eq) (rEqAll X.K) := op_eq.or (op_eqD hu)
theorem op_neAll {X : Cx} (hu : X.A.units + 64 < cLine) : OpR X (compareOp .NotEq) (rNeAll X.K) := op_ne.or (op_neD hu)
theorem eq_cases {K : PySem.W.Frag} {Z : Addr → Prop} {x y : D} {vx vy : V} {G : Hd} {H : Hp} {Q : KD} (s : Sim ⟨K, Z⟩ G H) (rx : Rp ⟨K, Z⟩ G H x vx) (ry : Rp ⟨K, Z⟩ G H y vy) (h : bEq x y G Q) :
    ∃ b, Q (.bl b) G ∧ ((scal vx vy = true ∧ b = decide (vx = vy)) ∨ ∃ d e, Dp K H vx d ∧ Dp K H vy e ∧ SeqAt.shaped d = true ∧ SeqAt.shaped e = true ∧ b = PyData.eqv d e) := by
  have deep : okD (rdD G x) = true ∧ okD (rdD G y) = true ∧ Q (.bl (PyData.eqv (toP (rdD G x)) (toP (rdD G y)))) G → ∃ b, Q (.bl b) G ∧ ((scal vx vy = true ∧ b = decide (vx = vy)) ∨ ∃ d e, Dp K H vx d ∧ Dp K H vy e ∧ SeqAt.shaped d = true ∧ SeqAt.shaped e = true ∧ b = PyData.eqv d e) := by
    rintro ⟨h1, h2, q⟩
    unfold okD at h1 h2
    rw [Bool.and_eq_true] at h1 h2
    exact ⟨_, q, .inr ⟨_, _, rdD_dp s rx h1.1, rdD_dp s ry h2.1, h1.2, h2.2, rfl⟩⟩
  unfold bEq at h
  split at h
  · cases rx; cases ry
    exact ⟨_, h, .inl ⟨rfl, by simp⟩⟩
  · cases rx; cases ry
    exact ⟨_, h, .inl ⟨rfl, by simp⟩⟩
  · cases rx; cases ry
    exact ⟨_, h, .inl ⟨rfl, by simp⟩⟩
  · cases rx; cases ry
    exact ⟨_, h, .inl ⟨rfl, by simp⟩⟩
  · cases rx; cases ry
    exact ⟨_, h, .inl ⟨rfl, by simp⟩⟩
  · cases rx; cases ry
    exact ⟨_, h, .inl ⟨rfl, by simp⟩⟩
  · exact deep h
theorem ref_eq {K : PySem.W.Frag} : Ref2 K bEq (rEqAll K) := by
  intro Z x y vx vy G H Q Kc s rx ry h k
  obtain ⟨b, q, ⟨h1, rfl⟩ | ⟨d, e, h1, h2, h3, h4, rfl⟩⟩ := eq_cases s rx ry h
  · exact .inl ⟨h1, k _ _ G H .refl s (.bl _) q⟩
  · exact .inr ⟨d, e, h1, h2, h3, h4, k _ _ G H .refl s (.bl _) q⟩
theorem ref_ne {K : PySem.W.Frag} : Ref2 K bNe (rNeAll K) := by
  intro Z x y vx vy G H Q Kc s rx ry h k
  obtain ⟨b, q, ⟨h1, rfl⟩ | ⟨d, e, h1, h2, h3, h4, rfl⟩⟩ := eq_cases s rx ry h
  · exact .inl ⟨h1, k _ _ G H .refl s (.bl _) q⟩
  · exact .inr ⟨d, e, h1, h2, h3, h4, k _ _ G H .refl s (.bl _) q⟩
def isNon : D → Bool
  | .non => true
  | _ => false
def bIsN : D2 := fun x y G Q => match y with
  | .non => Q (.bl (isNon x)) G
  | _ => False
def bNotN : D2 := fun x y G Q => match y with
  | .non => Q (.bl (!isNon x)) G
  | _ => False
theorem isNon_rp {B : Bd} {G : Hd} {H : Hp} {d : D} {v : V} (r : Rp B G H d v) : decide (v = .non) = isNon d := by
  cases r <;> first | rfl | exact decide_eq_false (fun e => nomatch e)
theorem ref_isN {K : PySem.W.Frag} : Ref2 K bIsN (fun x y H Q => y = .non ∧ Q (.bl (decide (x = .non))) H) := by
  intro Z x y vx vy G H Q Kc s rx ry h k
  cases ry <;> first | exact h.elim | exact ⟨rfl, by rw [isNon_rp rx]; exact k _ _ G H .refl s (.bl _) h⟩
theorem ref_notN {K : PySem.W.Frag} : Ref2 K bNotN (fun x y H Q => y = .non ∧ Q (.bl (!decide (x = .non))) H) := by
  intro Z x y vx vy G H Q Kc s rx ry h k
  cases ry <;> first | exact h.elim | exact ⟨rfl, by rw [isNon_rp rx]; exact k _ _ G H .refl s (.bl _) h⟩
def bIsB : D2 := fun x y G Q => match x, y with
  | .bl a, .bl b => Q (.bl (decide (a = b))) G
  | _, _ => False
def bNotB : D2 := fun x y G Q => match x, y with
  | .bl a, .bl b => Q (.bl (!decide (a = b))) G
  | _, _ => False
theorem ref_isB {K : PySem.W.Frag} : Ref2 K bIsB rIsB := by
  intro Z x y vx vy G H Q Kc s rx ry h k
  cases rx <;> cases ry <;> first | exact h.elim | exact ⟨_, _, rfl, rfl, k _ _ G H .refl s (.bl _) h⟩
theorem ref_notB {K : PySem.W.Frag} : Ref2 K bNotB rNotB := by
  intro Z x y vx vy G H Q Kc s rx ry h k
  cases rx <;> cases ry <;> first | exact h.elim | exact ⟨_, _, rfl, rfl, k _ _ G H .refl s (.bl _) h⟩
/-- the items of a list or tuple -/
def seqOf (G : Hd) : D → Option (List D)
  | .lst xs => some xs
  | .tup xs => some xs
  | .ro xs => some xs
  | .ref a => trkL (G a)
  | _ => none
theorem seqOf_rp {B : Bd} {G : Hd} {H : Hp} {d : D} {v : V} {ds : List D} (s : Sim B G H) (r : Rp B G H d v) (h : seqOf G d = some ds) : ∃ a xs, v = .ref a ∧ (SqL B.K H a xs ∨ SqT B.K H a xs) ∧ RpL B G H ds xs := by
  cases r with
  | lst h1 _ _ r => cases h; exact ⟨_, _, rfl, .inl (SqL.of h1), r⟩
  | tup h1 _ _ r => cases h; exact ⟨_, _, rfl, .inr (SqT.of h1), r⟩
  | ro h1 r => cases h; exact ⟨_, _, rfl, .inl h1.sq, r⟩
  | ref a =>
    obtain ⟨ys, h1, r⟩ := s.at_ a _ (trkL_some h)
    exact ⟨a, ys, rfl, .inl (SqL.of h1), r⟩
  | _ => cases h
/-- scalars, their == -/
def flatD : D → Bool
  | .non => true
  | .bl _ => true
  | .int _ => true
  | .str _ => true
  | _ => false
def eqD : D → D → Bool
  | .non, .non => true
  | .bl a, .bl b => a == b
  | .bl a, .int b => (if a then 1 else 0) == b
  | .int a, .bl b => a == (if b then 1 else 0)
  | .int a, .int b => a == b
  | .str a, .str b => a == b
  | _, _ => false
theorem flat_rp {B : Bd} {G : Hd} {H : Hp} {d : D} {v : V} (r : Rp B G H d v) : flatV v = flatD d := by cases r <;> rfl
theorem eq_rp {B : Bd} {G : Hd} {H : Hp} {d e : D} {v u : V} (r : Rp B G H d v) (q : Rp B G H e u) : eqV v u = eqD d e := by cases r <;> cases q <;> rfl
theorem flats_rp {B : Bd} {G : Hd} {H : Hp} : ∀ {ds : List D} {vs : List V}, RpL B G H ds vs → vs.all flatV = ds.all flatD
  | _, _, .nil => rfl
  | _, _, .cons a b => by rw [List.all_cons, List.all_cons, flat_rp a, flats_rp b]
theorem in_rp {B : Bd} {G : Hd} {H : Hp} {d : D} {v : V} (r : Rp B G H d v) : ∀ {ds : List D} {vs : List V}, RpL B G H ds vs → inV v vs = ds.any fun y => eqD y d
  | _, _, .nil => rfl
  | _, _, .cons a b => by
    have ih := in_rp r b
    unfold inV at *
    rw [List.any_cons, List.any_cons, eq_rp a r, ih]
def bIn (neg : Bool) : D2 := fun x y G Q => match seqOf G y with
  | some ds => flatD x = true ∧ ds.all flatD = true ∧ Q (.bl (if neg then !(ds.any fun y => eqD y x) else (ds.any fun y => eqD y x))) G
  | none => False
theorem ref_in {K : PySem.W.Frag} {neg : Bool} : Ref2 K (bIn neg) (rIn K neg) := by
  intro Z x y vx vy G H Q Kc s rx ry h k
  unfold bIn at h
  split at h
  · rename_i ds e
    obtain ⟨a, xs, rfl, hq, r⟩ := seqOf_rp s ry e
    refine ⟨a, xs, rfl, hq, (flat_rp rx).trans h.1, (flats_rp r).trans h.2.1, ?_⟩
    rw [in_rp rx r]
    exact k _ _ G H .refl s (.bl _) h.2.2
  · exact h.elim

/-! ### places, slices -/
def bIx : D2 := fun x y G Q => match seqOf G x, y with
  | some ds, .int i => match atI ds i with
    | some d => Q d G
    | none => False
  | _, _ => False
theorem atI_rp {B : Bd} {G : Hd} {H : Hp} {ds : List D} {vs : List V} {i : Int} {d : D} (r : RpL B G H ds vs) (h : atI ds i = some d) : ∃ v, atI vs i = some v ∧ Rp B G H d v := by
  unfold atI at *
  rw [r.size]
  cases e : ixN ds.length i with
  | none => rw [e] at h; cases h
  | some j =>
    rw [e] at h
    exact r.get h
theorem ref_ix {K : PySem.W.Frag} : Ref2 K bIx (rIx K) := by
  intro Z x y vx vy G H Q Kc s rx ry h k
  unfold bIx at h
  split at h
  · rename_i ds i e
    cases ry
    split at h
    · rename_i d e2
      obtain ⟨a, xs, rfl, hq, r⟩ := seqOf_rp s rx e
      obtain ⟨v, h1, h2⟩ := atI_rp r e2
      rcases hq with hq | hq
      · exact .inl ⟨a, xs, i, v, rfl, rfl, hq, h1, k _ _ G H .refl s h2 h⟩
      · exact .inr (.inl ⟨a, xs, i, v, rfl, rfl, hq, h1, k _ _ G H .refl s h2 h⟩)
    · exact h.elim
  · exact h.elim
theorem q_ix {X : Cx} {a b : Expr} {ta tb : DE} {pos : Pos} (ha : PE X a (lowE X.K ta)) (hb : PE X b (lowE X.K tb)) (hs : PlainIx b := by intro _ _; rfl) : PE X (.Subscript a b pos) (lowE X.K (dBin bIx ta tb)) :=
  qe_of (pe_ix ix_seq ha hb hs) fun σ H Z G δ Q Kc ss q k => low2 ref_ix ss q k
abbrev DO := SD → Hd → (Option Int → Hd → Prop) → Prop
def lowO (K : PySem.W.Frag) (t : DO) : TO := fun σ H Kc => ∃ (Z : Addr → Prop) (G : Hd) (δ : SD) (Q : _), SS ⟨K, Z⟩ G H δ σ ∧ t δ G Q ∧ ∀ o G' H', Ext G H G' H' → Sim ⟨K, Z⟩ G' H' → Q o G' → Kc o H'
def dNoPart : DO := fun _ G Q => Q none G
def dPart (t : DE) : DO := fun δ G Q => t δ G fun x G' => match x with
  | .int i => Q (some i) G'
  | _ => False
section
variable {X : Cx} {pos p2 : Pos}
theorem PO.imp' {e : Option Expr} {t t' : TO} (h : PO X e t) (w : ∀ σ H Q, t' σ H Q → t σ H Q) : PO X e t' := ⟨fun pins s σ H Q I q => h.run pins s σ H Q I (w σ H Q q)⟩
theorem qo_none : PO X none (lowO X.K dNoPart) := PO.imp' po_none fun σ H Kc ⟨Z, G, δ, Q, ss, q, k⟩ => k _ G H .refl ss.sim q
theorem qo_some {e : Expr} {t : DE} (h : PE X e (lowE X.K t)) : PO X (some e) (lowO X.K (dPart t)) := PO.imp' (po_some h) fun σ H Kc ⟨Z, G, δ, Q, ss, q, k⟩ => ⟨Z, G, δ, _, ss, q, fun d v G' H' e s r q => by
  cases r <;> first | exact q.elim | exact ⟨_, rfl, k _ G' H' e s q⟩⟩
def cutD (xs : List D) (lo hi : Option Int) : List D := (xs.drop (HT.sIx xs.length 0 lo)).take (HT.sIx xs.length xs.length hi - HT.sIx xs.length 0 lo)
theorem cut_rp {B : Bd} {G : Hd} {H : Hp} {ds : List D} {vs : List V} (r : RpL B G H ds vs) (lo hi : Option Int) : RpL B G H (cutD ds lo hi) (cutV vs lo hi) := by
  unfold cutD cutV
  rw [r.size]
  exact (r.drop _).take _
def sCut (x : D) (lo hi : Option Int) (G : Hd) (Q : KD) : Prop := match x with
  | .tup xs => Q (.tup (cutD xs lo hi)) G
  | .ro xs => Q (.lst (cutD xs lo hi)) G
  | x => match lstOf G x with
    | some xs => Q (.lst (cutD xs lo hi)) G
    | none => False
def dCut (te : DE) (tl th : DO) : DE := fun δ G Q => te δ G fun x G1 => tl δ G1 fun l G2 => th δ G2 fun u G3 => sCut x l u G3 Q
theorem cut_ref {K : PySem.W.Frag} {Z : Addr → Prop} {x : D} {vx : V} {G : Hd} {H : Hp} {Q : KD} {Kc : VK} {lo hi : Option Int} (s : Sim ⟨K, Z⟩ G H) (rx : Rp ⟨K, Z⟩ G H x vx) (h : sCut x lo hi G Q)
    (k : ∀ d v G' H', Ext G H G' H' → Sim ⟨K, Z⟩ G' H' → Rp ⟨K, Z⟩ G' H' d v → Q d G' → Kc v H') : rSlA K vx lo hi H Kc ∨ rSlL K vx lo hi H Kc := by
  have lists : ∀ {x : D}, Rp ⟨K, Z⟩ G H x vx → (match lstOf G x with
      | some xs => Q (.lst (cutD xs lo hi)) G
      | none => False) → rSlA K vx lo hi H Kc ∨ rSlL K vx lo hi H Kc := by
    intro x rx h
    split at h
    · rename_i a e1
      obtain ⟨p, xs, rfl, h1, r1⟩ := lstOf_rp s rx e1
      exact .inr ⟨p, xs, rfl, SqL.of h1, fun l hl => k _ _ G _ (Ext.laid hl) (s.laid hl) (newLst s hl (cut_rp r1 lo hi)) h⟩
    · exact h.elim
  cases rx with
  | tup h1 g1 z1 r1 =>
    refine .inl ⟨_, _, rfl, SqT.of h1, fun e => ?_, fun _ l hl => k _ _ G _ (Ext.laid hl) (s.laid hl) (newTup s hl (cut_rp r1 lo hi)) h⟩
    rename_i xs ds
    have ec : cutD ds lo hi = ds := by
      unfold cutD
      rw [← r1.size, e.1, e.2, List.drop_zero, Nat.sub_zero, r1.size, List.take_length]
    have q : Q (.tup (cutD ds lo hi)) G := h
    rw [ec] at q
    exact k _ _ G H .refl s (.tup h1 g1 z1 r1) q
  | ro h1 r1 => exact .inr ⟨_, _, rfl, h1.sq, fun l hl => k _ _ G _ (Ext.laid hl) (s.laid hl) (newLst s hl (cut_rp r1 lo hi)) h⟩
  | non => exact lists .non h
  | bl b => exact lists (.bl b) h
  | int i => exact lists (.int i) h
  | str z => exact lists (.str z) h
  | ty n => exact lists (.ty n) h
  | ref a => exact lists (.ref a) h
  | lst h1 g1 z1 r1 => exact lists (.lst h1 g1 z1 r1) h
  | edic h1 g1 z1 => exact lists (.edic h1 g1 z1) h
theorem q_cut {e : Expr} {lo hi : Option Expr} {te : DE} {tl th : DO} (he : PE X e (lowE X.K te)) (hl : PO X lo (lowO X.K tl)) (hu : PO X hi (lowO X.K th)) : PE X (.Subscript e (.Slice lo hi none p2) pos) (lowE X.K (dCut te tl th)) :=
  qe_of (pe_slice (sl_tupA.or sl_list) he hl hu) fun σ H Z G δ Q Kc ss q k => ⟨Z, G, δ, _, ss, q, fun d1 v1 G1 H1 e1 s1 r1 h1 => ⟨Z, G1, δ, _, ss.mono e1 s1, h1, fun o2 G2 H2 e2 s2 h2 =>
    ⟨Z, G2, δ, _, (ss.mono e1 s1).mono e2 s2, h2, fun o3 G3 H3 e3 s3 h3 => cut_ref s3 ((r1.mono e2).mono e3) h3 fun d v G' H' e s r q => k d v G' H' (((e1.trans e2).trans e3).trans e) s r q⟩⟩⟩
/-- xs[::-1] -/
def dRev (te : DE) : DE := fun δ G Q => te δ G fun x G1 => match lstOf G1 x with
  | some xs => Q (.lst xs.reverse) G1
  | none => False
theorem q_rev {e : Expr} {te : DE} {k : Nat} {p1 p2 p3 : Pos} (he : PE X e (lowE X.K te)) : PE X (.Subscript e (.Slice none none (some (.UnaryOp .USub (.Constant (.int 1) k p1) p2)) p3) pos) (lowE X.K (dRev te)) :=
  qe_of (pe_revL he) fun σ H Z G δ Q Kc ss q kk => ⟨Z, G, δ, _, ss, q, fun d1 v1 G1 H1 e1 s1 r1 h1 => by
    split at h1
    · rename_i xs e
      obtain ⟨p, ys, rfl, h2, r2⟩ := lstOf_rp s1 r1 e
      exact ⟨p, ys, rfl, SqL.of h2, fun l hl => kk _ _ G1 _ (e1.trans (Ext.laid hl)) (s1.laid hl) (newLst s1 hl r2.reverse) h1⟩
    · exact h1.elim⟩

/-! ### arguments, displays -/
def dNil : DA := fun _ G Q => Q [] G
def dCons (ta : DE) (tr : DA) : DA := fun δ G Q => ta δ G fun x G1 => tr δ G1 fun xs G2 => Q (x :: xs) G2
theorem qa_of {e : List Expr} {t : TA} {t' : DA} (h : PA X e t)
    (w : ∀ σ H (Z : Addr → Prop) G δ (Q : List D → Hd → Prop) (Kc : List V → Hp → Prop), SS ⟨X.K, Z⟩ G H δ σ → t' δ G Q → (∀ ds vs G' H', Ext G H G' H' → Sim ⟨X.K, Z⟩ G' H' → RpL ⟨X.K, Z⟩ G' H' ds vs → Q ds G' → Kc vs H') → t σ H Kc) : PA X e (lowA X.K t') :=
  h.imp fun σ H Kc ⟨Z, G, δ, Q, ss, q, k⟩ => w σ H Z G δ Q Kc ss q k
theorem qa_nil : PA X [] (lowA X.K dNil) := qa_of pa_nil fun σ H Z G δ Q Kc ss q k => k _ _ G H .refl ss.sim .nil q
theorem qa_cons {e : Expr} {es : List Expr} {te : DE} {t : DA} (ha : PE X e (lowE X.K te)) (hr : PA X es (lowA X.K t)) (hs : starEach (e :: es) X.env = (false, eval e X.env) :: starEach es X.env := by rfl) : PA X (e :: es) (lowA X.K (dCons te t)) :=
  qa_of (pa_cons ha hr hs) fun σ H Z G δ Q Kc ss q k => ⟨Z, G, δ, _, ss, q, fun d1 v1 G1 H1 e1 s1 r1 h1 => ⟨Z, G1, δ, _, ss.mono e1 s1, h1, fun ds vs G2 H2 e2 s2 r2 h2 =>
    k _ _ G2 H2 (e1.trans e2) s2 (.cons (r1.mono e2) r2) h2⟩⟩
def dTup (t : DA) : DE := fun δ G Q => t δ G fun xs G1 => xs.length ≤ sizeLine ∧ Q (.tup xs) G1
def dLst (t : DA) : DE := fun δ G Q => t δ G fun xs G1 => xs.length ≤ sizeLine ∧ Q (.lst xs) G1
/-- a list that will be written -/
def dLstM (t : DA) : DE := fun δ G Q => t δ G fun xs G1 => xs.length ≤ sizeLine ∧ ∀ p, G1 p = none → Q (.ref p) (updD G1 p (.lst xs))
theorem q_tup {es : List Expr} {t : DA} {x1} (h : PA X es (lowA X.K t)) : PE X (.Tuple es x1 pos) (lowE X.K (dTup t)) :=
  qe_of (pe_tup h) fun σ H Z G δ Q Kc ss q k => ⟨Z, G, δ, _, ss, q, fun ds vs G1 H1 e1 s1 r1 h1 => ⟨by rw [r1.size]; exact h1.1, fun p hp => k _ _ G1 _ (e1.trans (Ext.laid hp)) (s1.laid hp) (newTup s1 hp r1) h1.2⟩⟩
theorem q_lst {es : List Expr} {t : DA} (h : PA X es (lowA X.K t)) : PE X (.List es pos) (lowE X.K (dLst t)) :=
  qe_of (pe_lst h) fun σ H Z G δ Q Kc ss q k => ⟨Z, G, δ, _, ss, q, fun ds vs G1 H1 e1 s1 r1 h1 => ⟨by rw [r1.size]; exact h1.1, fun p hp => k _ _ G1 _ (e1.trans (Ext.laid hp)) (s1.laid hp) (newLst s1 hp r1) h1.2⟩⟩
theorem q_lstM {es : List Expr} {t : DA} (h : PA X es (lowA X.K t)) : PE X (.List es pos) (lowE X.K (dLstM t)) :=
  qe_of (pe_lst h) fun σ H Z G δ Q Kc ss q k => ⟨Z, G, δ, _, ss, q, fun ds vs G1 H1 e1 s1 r1 h1 => ⟨by rw [r1.size]; exact h1.1, fun p hp =>
    k _ _ _ _ (e1.trans (Ext.laidT hp)) (simLst s1 hp r1) (.ref p) (h1.2 p (s1.free hp))⟩⟩
/-- a value list becomes one that is written; a tracked list becomes a value -/
def dThaw (t : DE) : DE := fun δ G Q => t δ G fun x G1 => match x with
  | .lst xs => ∀ p, G1 p = none → Q (.ref p) (updD G1 p (.lst xs))
  | x => Q x G1
def dFroze (t : DE) : DE := fun δ G Q => t δ G fun x G1 => match x with
  | .ref a => match G1 a with
    | some (.lst xs) => Q (.lst xs) (delD G1 a)
    | _ => False
  | x => Q x G1
theorem q_froze {e : Expr} {t : DE} (h : PE X e (lowE X.K t)) : PE X e (lowE X.K (dFroze t)) :=
  h.imp fun σ H Kc ⟨Z, G, δ, Q, ss, q, k⟩ => ⟨Z, G, δ, _, ss, q, fun d v G1 H1 e1 s1 r1 h1 => by
    cases r1 with
    | ref a =>
      simp only at h1
      split at h1
      · rename_i xs e
        obtain ⟨ys, h2, r2⟩ := s1.at_ a _ e
        have nz : ¬ Z a := fun z => by
          have := (s1.hid a z).1
          rw [e] at this; cases this
        exact k _ _ _ H1 (e1.trans Ext.froze) s1.froze (.lst h2 delD_same nz (r2.mono Ext.froze)) h1
      · exact h1.elim
    | non => exact k _ _ G1 H1 e1 s1 .non h1
    | bl b => exact k _ _ G1 H1 e1 s1 (.bl b) h1
    | int i => exact k _ _ G1 H1 e1 s1 (.int i) h1
    | str z => exact k _ _ G1 H1 e1 s1 (.str z) h1
    | ty n => exact k _ _ G1 H1 e1 s1 (.ty n) h1
    | tup a b c d => exact k _ _ G1 H1 e1 s1 (.tup a b c d) h1
    | lst a b c d => exact k _ _ G1 H1 e1 s1 (.lst a b c d) h1
    | ro a b => exact k _ _ G1 H1 e1 s1 (.ro a b) h1
    | edic a b c => exact k _ _ G1 H1 e1 s1 (.edic a b c) h1⟩
end
end VL
set_option Elab.async false
set_option linter.all false
set_option maxRecDepth 100000
set_option maxHeartbeats 4000000
/-! Targets, statements, loops by values. -/
namespace VL
open PySem L2

abbrev DG := D → SD → Hd → (SD → Hd → Prop) → Prop
abbrev DGs := List D → SD → Hd → (SD → Hd → Prop) → Prop
/-- the slots beside fp stay -/
def Out (fp : List Nat) (σ σ' : St) : Prop := σ'.length = σ.length ∧ ∀ i, i ∉ fp → σ'[i]? = σ[i]?
theorem Out.refl {fp : List Nat} {σ : St} : Out fp σ σ := ⟨rfl, fun _ _ => rfl⟩
theorem Out.trans {fp fp' : List Nat} {σ σ1 σ2 : St} (a : Out fp σ σ1) (b : Out fp' σ1 σ2) : Out (fp ++ fp') σ σ2 :=
  ⟨b.1.trans a.1, fun i h => (b.2 i fun q => h (List.mem_append_right _ q)).trans (a.2 i fun q => h (List.mem_append_left _ q))⟩
theorem Out.set {i : Nat} {σ : St} {o : Option V} : Out [i] σ (σ.set i o) := ⟨List.length_set, fun j h => List.getElem?_set_ne fun e => h (by simp [e])⟩
def lowG (K : PySem.W.Frag) (fp : List Nat) (g : DG) : TG := fun v σ H R => ∃ (Z : Addr → Prop) (G : Hd) (δ : SD) (d : D) (Q : SD → Hd → Prop), SS ⟨K, Z⟩ G H δ σ ∧ Rp ⟨K, Z⟩ G H d v ∧ g d δ G Q ∧
  ∀ δ' σ' G' H', Ext G H G' H' → SS ⟨K, Z⟩ G' H' δ' σ' → Out fp σ σ' → Q δ' G' → R σ' H'
def lowGs (K : PySem.W.Frag) (fp : List Nat) (g : DGs) : TGs := fun vs σ H R => ∃ (Z : Addr → Prop) (G : Hd) (δ : SD) (ds : List D) (Q : SD → Hd → Prop), SS ⟨K, Z⟩ G H δ σ ∧ RpL ⟨K, Z⟩ G H ds vs ∧ g ds δ G Q ∧
  ∀ δ' σ' G' H', Ext G H G' H' → SS ⟨K, Z⟩ G' H' δ' σ' → Out fp σ σ' → Q δ' G' → R σ' H'
def eName (i : Nat) : DG := fun d δ G Q => Q (δ.set i (some d)) G
def eNil : DGs := fun ds δ G Q => match ds with
  | [] => Q δ G
  | _ => False
def eCons (t : DG) (u : DGs) : DGs := fun ds δ G Q => match ds with
  | d :: r => t d δ G fun δ' G' => u r δ' G' Q
  | [] => False
def eTup (n : Nat) (t : DGs) : DG := fun d δ G Q => match d with
  | .tup ds => ds.length = n ∧ t ds δ G Q
  | _ => False
section
variable {X : Cx} {pos : Pos}
theorem _root_.L2.PG.imp {e : Expr} {t t' : TG} (h : PG X e t) (w : ∀ v σ H R, t' v σ H R → t v σ H R) : PG X e t' := ⟨fun pins s σ H v u Q I r q => h.run pins s σ H v u Q I r (w v σ H Q q)⟩
theorem _root_.L2.PGs.imp {e : List Expr} {t t' : TGs} (h : PGs X e t) (w : ∀ v σ H R, t' v σ H R → t v σ H R) : PGs X e t' := ⟨fun pins s σ H v u Q I r q => h.run pins s σ H v u Q I r (w v σ H Q q)⟩
theorem qg_name (i : Nat) {x : Str} (hN : X.N.Nodup) (hi : X.N[i]? = some x := by rfl) (hx : Loc X.env.scope x := by first | exact Or.inl rfl | exact Or.inr rfl)
    (hf : X.fn x = true ∨ X.env.scope.names.lookup x = some .local := by first | exact .inl rfl | exact .inr rfl | assumption) : PG X (.Name x pos) (lowG X.K [i] (eName i)) :=
  (pg_name hN hi hx hf).imp fun v σ H R ⟨Z, G, δ, d, Q, ss, r, q, k⟩ => k _ _ G H .refl (ss.set r i) Out.set q
theorem qgs_nil : PGs X [] (lowGs X.K [] eNil) := pgs_nil.imp fun vs σ H R ⟨Z, G, δ, ds, Q, ss, r, q, k⟩ => by
  cases r with
  | nil => exact ⟨rfl, k δ σ G H .refl ss .refl q⟩
  | cons a b => exact q.elim
theorem qgs_cons {e : Expr} {es : List Expr} {fp fp' : List Nat} {t : DG} {u : DGs} (h1 : PG X e (lowG X.K fp t)) (h2 : PGs X es (lowGs X.K fp' u))
    (hs : (assignEach (e :: es) X.env).map (·.2) = assign e X.env :: (assignEach es X.env).map (·.2) := by rfl) : PGs X (e :: es) (lowGs X.K (fp ++ fp') (eCons t u)) :=
  (pgs_cons h1 h2 hs).imp fun vs σ H R ⟨Z, G, δ, ds, Q, ss, r, q, k⟩ => by
    cases r with
    | nil => exact q.elim
    | cons a b => exact ⟨_, _, rfl, Z, G, δ, _, _, ss, a, q, fun δ1 σ1 G1 H1 e1 s1 o1 q1 => ⟨Z, G1, δ1, _, _, s1, b.mono e1, q1, fun δ2 σ2 G2 H2 e2 s2 o2 q2 => k δ2 σ2 G2 H2 (e1.trans e2) s2 (o1.trans o2) q2⟩⟩
theorem qg_tup {es : List Expr} {kk : Nat} {fp : List Nat} {t : DGs} {n : Nat} (hc : X.calm = true) (h : PGs X es (lowGs X.K fp t)) (hn : (assignEach es X.env).length = n := by rfl) (hst : (assignEach es X.env).findIdx? (·.1) = none := by rfl) :
    PG X (.Tuple es kk pos) (lowG X.K fp (eTup n t)) :=
  (pg_tup hc h hn hst).imp fun v σ H R ⟨Z, G, δ, d, Q, ss, r, q, k⟩ => by
    cases r with
    | tup h1 g1 z1 r1 => exact ⟨_, _, rfl, SqT.of h1, by rw [r1.size]; exact q.1, Z, G, δ, _, Q, ss, r1, q.2, k⟩
    | _ => exact q.elim
/-- o[i] = v for a list that is written -/
def setL (o i d : D) (G : Hd) (Q : Hd → Prop) : Prop := match o, i with
  | .ref a, .int k => match G a with
    | some (.lst xs) => match ixN xs.length k with
      | some j => Q (updD G a (.lst (xs.set j d)))
      | none => False
    | _ => False
  | _, _ => False
def eSub (to ti : DE) : DG := fun d δ G Q => to δ G fun o G1 => ti δ G1 fun i G2 => setL o i d G2 fun G3 => Q δ G3
theorem set_ref {K : PySem.W.Frag} {Z : Addr → Prop} {o i d : D} {vo vi v : V} {G : Hd} {H : Hp} {Q : Hd → Prop} {Kc : Hp → Prop} (s : Sim ⟨K, Z⟩ G H) (ro : Rp ⟨K, Z⟩ G H o vo) (ri : Rp ⟨K, Z⟩ G H i vi) (rd : Rp ⟨K, Z⟩ G H d v) (h : setL o i d G Q)
    (k : ∀ G' H', Ext G H G' H' → Sim ⟨K, Z⟩ G' H' → Q G' → Kc H') : rSetL vo vi v H Kc := by
  unfold setL at h
  split at h
  · rename_i a j
    cases ro; cases ri
    split at h
    · rename_i xs e
      split at h
      · rename_i m em
        obtain ⟨ys, h1, r1⟩ := s.at_ a _ e
        exact ⟨a, ys, j, m, rfl, rfl, h1, by rw [r1.size]; exact em, k _ _ (Ext.wrote e) (wroteLst s e (r1.set rd m)) h⟩
      · exact h.elim
    · exact h.elim
  · exact h.elim
theorem qg_sub {o i : Expr} {to ti : DE} (ho : PE X o (lowE X.K to)) (hi : PE X i (lowE X.K ti)) (ha : ∀ v, assign (.Subscript o i pos) X.env v = (do
      let ov ← holding [v] (eval o X.env)
      let iv ← holding [v, ov] (eval i X.env)
      standAt pos
      holding [v, ov, iv] (setItem ov iv v)
      release [v, ov, iv] []) := by intro _; rfl) : PG X (.Subscript o i pos) (lowG X.K [] (eSub to ti)) :=
  (pg_sub ho hi set_list ha).imp fun v σ H R ⟨Z, G, δ, d, Q, ss, r, q, k⟩ => ⟨Z, G, δ, _, ss, q, fun d1 v1 G1 H1 e1 s1 r1 q1 => ⟨Z, G1, δ, _, ss.mono e1 s1, q1, fun d2 v2 G2 H2 e2 s2 r2 q2 =>
    set_ref s2 (r1.mono e2) r2 ((r.mono e1).mono e2) q2 fun G3 H3 e3 s3 q3 => k δ σ G3 H3 ((e1.trans e2).trans e3) (((ss.mono e1 s1).mono e2 s2).mono e3 s3) .refl q3⟩⟩
end

/-! ### statements -/
def dNext : DS := fun E δ G => E.nx δ G
def dSeq (t u : DS) : DS := fun E δ G => t { E with nx := u E } δ G
def dDrop (te : DE) : DS := fun E δ G => te δ G fun _ G1 => E.nx δ G1
def dRet (te : DE) : DS := fun E δ G => te δ G E.rt
def dRetN : DS := fun E _ G => E.rt .non G
def dBreak : DS := fun E δ G => E.bk δ G
def dCont : DS := fun E δ G => E.ct δ G
def dIfS (c : DT) (t u : DS) : DS := fun E δ G => c δ G fun b G1 => if b = true then t E δ G1 else u E δ G1
def dNever : DS := fun _ _ _ => False
def dAsg (te : DE) (g : DG) : DS := fun E δ G => te δ G fun d G1 => g d δ G1 E.nx
def dPar (i j : Nat) (ta : DA) : DS := fun E δ G => ta δ G fun ds G1 => match ds with
  | [d, e] => E.nx ((δ.set i (some d)).set j (some e)) G1
  | _ => False
section
variable {X : Cx} {pos : Pos} {st : Stmt} {rest : List Stmt} {t u : DS} {e : Expr} {te : DE}
theorem qs_of {st : Stmt} {t : TS} {t' : DS} (h : PS X st t)
    (w : ∀ (D' : Ends) σ H (Z : Addr → Prop) G δ (E : DEnds), SS ⟨X.K, Z⟩ G H δ σ → t' E δ G → Low ⟨X.K, Z⟩ G H E D' → t D' σ H) : PS X st (lowS X.K t') :=
  h.imp fun D' σ H ⟨Z, G, δ, E, ss, q, l⟩ => w D' σ H Z G δ E ss q l
theorem qss_nil : PSs X [] (lowS X.K dNext) := pss_nil.imp fun D' σ H ⟨Z, G, δ, E, ss, q, l⟩ => l.nx δ σ G H .refl ss q
theorem qss_cons (h1 : PS X st (lowS X.K t)) (h2 : PSs X rest (lowS X.K u)) : PSs X (st :: rest) (lowS X.K (dSeq t u)) :=
  (pss_cons h1 h2).imp fun D' σ H ⟨Z, G, δ, E, ss, q, l⟩ => ⟨Z, G, δ, { E with nx := u E }, ss, q, ⟨fun δ1 σ1 G1 H1 e1 s1 q1 => ⟨Z, G1, δ1, E, s1, q1, l.later e1⟩, l.rt, l.bk, l.ct⟩⟩
theorem qss_one (h1 : PS X st (lowS X.K t)) : PSs X [st] (lowS X.K t) := pss_one h1
theorem qs_pass : PS X (.Pass pos) (lowS X.K dNext) := qs_of ps_pass fun D' σ H Z G δ E ss q l => l.nx δ σ G H .refl ss q
theorem qs_cont : PS X (.Continue pos) (lowS X.K dCont) := qs_of ps_continue fun D' σ H Z G δ E ss q l => l.ct δ σ G H .refl ss q
theorem qs_break : PS X (.Break pos) (lowS X.K dBreak) := qs_of ps_break fun D' σ H Z G δ E ss q l => l.bk δ σ G H .refl ss q
theorem qs_expr (he : PE X e (lowE X.K te)) (hs : swapsWith e none pos.line X.env = pure false := by rfl) : PS X (.Expr e pos) (lowS X.K (dDrop te)) :=
  qs_of (ps_expr he hs) fun D' σ H Z G δ E ss q l => ⟨Z, G, δ, _, ss, q, fun d v G1 H1 e1 s1 r1 q1 => l.nx δ σ G1 H1 e1 (ss.mono e1 s1) q1⟩
theorem qs_ret (he : PE X e (lowE X.K te)) : PS X (.Return (some e) pos) (lowS X.K (dRet te)) :=
  qs_of (ps_ret he) fun D' σ H Z G δ E ss q l => ⟨Z, G, δ, _, ss, q, l.rt⟩
theorem qs_retN : PS X (.Return none pos) (lowS X.K dRetN) := qs_of ps_retN fun D' σ H Z G δ E ss q l => l.rt .non .non G H .refl ss.sim .non q
theorem qs_if {c : Expr} {a b : List Stmt} {tc : DT} (hc : PT X c (lowT X.K tc)) (ha : PSs X a (lowS X.K t)) (hb : PSs X b (lowS X.K u)) : PS X (.If c a b pos) (lowS X.K (dIfS tc t u)) :=
  qs_of (ps_if hc ha hb) fun D' σ H Z G δ E ss q l => ⟨Z, G, δ, _, ss, q, fun k G1 H1 e1 s1 q1 => by
    cases k with
    | true =>
      rw [if_pos rfl] at q1 ⊢
      exact ⟨Z, G1, δ, E, ss.mono e1 s1, q1, l.later e1⟩
    | false =>
      rw [if_neg Bool.false_ne_true] at q1 ⊢
      exact ⟨Z, G1, δ, E, ss.mono e1 s1, q1, l.later e1⟩⟩
theorem qs_never : PS X st (lowS X.K dNever) := qs_of ps_never fun D' σ H Z G δ E ss q l => q.elim
theorem qss_never {sts : List Stmt} : PSs X sts (lowS X.K dNever) := pss_never.imp fun D' σ H ⟨Z, G, δ, E, ss, q, l⟩ => q.elim
theorem qs_asg {tg : Expr} {fp : List Nat} {g : DG} (he : PE X e (lowE X.K te)) (hg : PG X tg (lowG X.K fp g)) (hs : swapsWithSole [tg] e pos.line X.env = pure false := by rfl) (hw : swappedStores [tg] e X.env = pure none := by rfl)
    (h1 : (assignEach [tg] X.env).map (·.2) = [assign tg X.env] := by rfl) : PS X (.Assign [tg] e pos) (lowS X.K (dAsg te g)) :=
  qs_of (ps_asg he hg hs hw h1) fun D' σ H Z G δ E ss q l => ⟨Z, G, δ, _, ss, q, fun d v G1 H1 e1 s1 r1 q1 => ⟨Z, G1, δ, d, _, ss.mono e1 s1, r1, q1, fun δ' σ' G' H' e' s' _ q' => l.nx δ' σ' G' H' (e1.trans e') s' q'⟩⟩
theorem qs_set (i : Nat) {x : Str} {pos' : Pos} (hN : X.N.Nodup) (he : PE X e (lowE X.K te)) (hi : X.N[i]? = some x := by rfl) (hx : Loc X.env.scope x := by first | exact Or.inl rfl | exact Or.inr rfl) (hs : swapsWith e (some (.Name x pos')) pos.line X.env = pure false := by rfl)
    (hf : X.fn x = true ∨ X.env.scope.names.lookup x = some .local := by first | exact .inl rfl | exact .inr rfl | assumption) : PS X (.Assign [.Name x pos'] e pos) (lowS X.K (dAsg te (eName i))) :=
  qs_of (ps_set hN hi hx he hs hf) fun D' σ H Z G δ E ss q l => ⟨Z, G, δ, _, ss, q, fun d v G1 H1 e1 s1 r1 q1 => l.nx _ _ G1 H1 e1 ((ss.mono e1 s1).set r1 i) q1⟩
theorem qs_par (i j : Nat) {x y : Str} {a b : Expr} {ta : DA} {px py pt : Pos} {kt k2 pt2} (hc : X.calm = true) (hN : X.N.Nodup) (hij : i ≠ j) (ha : PA X [a, b] (lowA X.K ta)) (hi : X.N[i]? = some x := by rfl) (hj : X.N[j]? = some y := by rfl)
    (hx : X.env.scope.names.lookup x = some .local := by rfl) (hy : X.env.scope.names.lookup y = some .local := by rfl)
    (hw : swappedStores [.Tuple [.Name x px, .Name y py] kt pt] (.Tuple [a, b] k2 pt2) X.env = pure (some [x, y]) := by rfl)
    (hs : swapsWithSole [.Tuple [.Name x px, .Name y py] kt pt] (.Tuple [a, b] k2 pt2) pos.line X.env = pure false := by rfl) :
    PS X (.Assign [.Tuple [.Name x px, .Name y py] kt pt] (.Tuple [a, b] k2 pt2) pos) (lowS X.K (dPar i j ta)) :=
  qs_of (ps_par hc hN hi hj hij hx hy ha hw hs) fun D' σ H Z G δ E ss q l => ⟨Z, G, δ, _, ss, q, fun ds vs G1 H1 e1 s1 r1 q1 => by
    cases r1 with
    | nil => exact q1.elim
    | cons a b =>
      cases b with
      | nil => exact q1.elim
      | cons b c =>
        cases c with
        | cons _ _ => exact q1.elim
        | nil => exact ⟨_, _, rfl, l.nx _ _ G1 H1 e1 (((ss.mono e1 s1).set a i).set b j) q1⟩⟩
end

/-! ### while -/
def dWN (c : DT) (b : DS) : Nat → DS
  | 0 => fun _ _ _ => False
  | n + 1 => fun E δ G => c δ G fun k G1 => if k = true then b { E with nx := dWN c b n E, ct := dWN c b n E, bk := E.nx } δ G1 else E.nx δ G1
def dWhile (c : DT) (b : DS) : DS := fun E δ G => ∃ n, dWN c b n E δ G
section
variable {X : Cx} {pos : Pos}
theorem qs_while {c : Expr} {body : List Stmt} {tc : DT} {tb : DS} (hp : PassesOwn (model X.prog X.w) X.A X.env X.xe) (hc : PT X c (lowT X.K tc)) (hb : PSs X body (lowS X.K tb)) : PS X (.While c body [] pos) (lowS X.K (dWhile tc tb)) :=
  qs_of (ps_while hp hc hb) fun D' σ H Z G δ E ss q l => by
    obtain ⟨n, q⟩ := q
    refine ⟨fun m σ1 H1 => ∃ G1 δ1, Ext G H G1 H1 ∧ SS ⟨X.K, Z⟩ G1 H1 δ1 σ1 ∧ dWN tc tb m E δ1 G1, ⟨n, G, δ, .refl, ss, q⟩, ?_⟩
    rintro m σ1 H1 ⟨G1, δ1, e1, s1, q1⟩
    cases m with
    | zero => exact q1.elim
    | succ m =>
      refine ⟨Z, G1, δ1, _, s1, q1, fun k G2 H2 e2 s2 q2 => ?_⟩
      cases k with
      | true =>
        rw [if_pos rfl] at q2 ⊢
        refine ⟨fun σ3 H3 => ∃ G3 δ3, Ext G H G3 H3 ∧ SS ⟨X.K, Z⟩ G3 H3 δ3 σ3 ∧ dWN tc tb m E δ3 G3, fun σ' H' h => ⟨m, Nat.lt_succ_self m, h⟩, Z, G2, δ1, _, s1.mono e2 s2, q2, ?_⟩
        exact ⟨fun δ' σ' G' H' e' s' q' => ⟨G', δ', (e1.trans e2).trans e', s', q'⟩, (l.later (e1.trans e2)).rt, (l.later (e1.trans e2)).nx, fun δ' σ' G' H' e' s' q' => ⟨G', δ', (e1.trans e2).trans e', s', q'⟩⟩
      | false =>
        rw [if_neg Bool.false_ne_true] at q2 ⊢
        exact l.nx δ1 σ1 G2 H2 (e1.trans e2) (s1.mono e2 s2) q2
end

/-! ### what a loop walks -/
/-- the iterator yields the items, wherever what is seen now stays -/
def Walk (B0 : Bd) (G0 : Hd) (H0 : Hp) (items : List D) (C : Hd → Prop) (J : It) : Prop := ∀ (B : Bd) (G : Hd) (H : Hp), VExt B0 G0 H0 B G H → Sim B G H → C G →
  (∀ i, i < items.length → J.go i H) ∧ (∀ i d x H', items[i]? = some d → J.yld i H x H' → Ext G H G H' ∧ Sim B G H' ∧ Rp B G H' d x) ∧ J.stop items.length H
theorem Walk.later {B0 B1 : Bd} {G0 G1 : Hd} {H0 H1 : Hp} {items : List D} {C : Hd → Prop} {J : It} (w : Walk B0 G0 H0 items C J) (e : VExt B0 G0 H0 B1 G1 H1) : Walk B1 G1 H1 items C J := fun B G H e' s c => w B G H (e.trans e') s c
/-- the items, and what has to stay while they are walked -/
abbrev KI := List D → (Hd → Prop) → Hd → Prop
abbrev DI := SD → Hd → KI → Prop
def cFree : Hd → Prop := fun _ => True
def lowI (K : PySem.W.Frag) (t : DI) : TI := fun σ H R => ∃ (Z : Addr → Prop) (G : Hd) (δ : SD) (Q : KI), SS ⟨K, Z⟩ G H δ σ ∧ t δ G Q ∧
  ∀ items C J G' H', Ext G H G' H' → Sim ⟨K, Z⟩ G' H' → Walk ⟨K, Z⟩ G' H' items C J → Q items C G' → R J H'
def dLoop (g : DG) (tb : DS) (C : Hd → Prop) : List D → DS
  | [] => fun E δ G => C G ∧ E.nx δ G
  | d :: r => fun E δ G => C G ∧ g d δ G fun δ' G' => tb { E with nx := dLoop g tb C r E, ct := dLoop g tb C r E, bk := E.nx } δ' G'
def dFor (wi : DI) (g : DG) (tb : DS) : DS := fun E δ G => wi δ G fun items C G1 => dLoop g tb C items E δ G1
section
variable {X : Cx} {pos : Pos}
theorem _root_.L2.PI.imp {tg e : Expr} {t t' : TI} (h : PI X tg e t) (w : ∀ σ H R, t' σ H R → t σ H R) : PI X tg e t' := ⟨fun pins s σ H R I q => h.run pins s σ H R I (w σ H R q)⟩
theorem qi_of {tg e : Expr} {t : TI} {t' : DI} (h : PI X tg e t)
    (w : ∀ σ H (Z : Addr → Prop) G δ (Q : KI) (R : It → Hp → Prop), SS ⟨X.K, Z⟩ G H δ σ → t' δ G Q → (∀ items C J G' H', Ext G H G' H' → Sim ⟨X.K, Z⟩ G' H' → Walk ⟨X.K, Z⟩ G' H' items C J → Q items C G' → R J H') → t σ H R) : PI X tg e (lowI X.K t') :=
  h.imp fun σ H R ⟨Z, G, δ, Q, ss, q, k⟩ => w σ H Z G δ Q R ss q k
theorem qs_for {tg iter : Expr} {body : List Stmt} {wi : DI} {fp : List Nat} {g : DG} {tb : DS} (hp : PassesOwn (model X.prog X.w) X.A X.env X.xe) (hc : X.calm = true) (hi : PI X tg iter (lowI X.K wi)) (hg : PG X tg (lowG X.K fp g)) (hb : PSs X body (lowS X.K tb))
    (hs : ∀ x, foldedSetIterable iter X.env x = pure x := by intro _; rfl) : PS X (.For tg iter body [] pos) (lowS X.K (dFor wi g tb)) :=
  qs_of (ps_for hp hc hi hg hb hs) fun D' σ H Z G δ E ss q l => by
    refine ⟨Z, G, δ, _, ss, q, fun items C J G1 H1 e1 s1 w1 q1 => ?_⟩
    refine ⟨fun i m σ2 H2 => ∃ G2 δ2, Ext G1 H1 G2 H2 ∧ SS ⟨X.K, Z⟩ G2 H2 δ2 σ2 ∧ i ≤ items.length ∧ m = items.length - i ∧ dLoop g tb C (items.drop i) E δ2 G2, ⟨items.length, G1, δ, .refl, ss.mono e1 s1, Nat.zero_le _, rfl, q1⟩, ?_⟩
    rintro i m σ2 H2 ⟨G2, δ2, e2, s2, hi2, rfl, q2⟩
    by_cases hlt : i < items.length
    · have ed : items.drop i = items[i] :: items.drop (i + 1) := List.drop_eq_getElem_cons hlt
      rw [ed] at q2
      obtain ⟨c2, q2⟩ := q2
      obtain ⟨hgo, hy, hstop⟩ := w1 ⟨X.K, Z⟩ G2 H2 e2.v s2.sim c2
      refine .inr ⟨hgo i hlt, fun σ' H' => ∃ G3 δ3, Ext G1 H1 G3 H' ∧ SS ⟨X.K, Z⟩ G3 H' δ3 σ' ∧ dLoop g tb C (items.drop (i + 1)) E δ3 G3, fun σ' H' ⟨G3, δ3, e3, s3, q3⟩ => ⟨items.length - (i + 1), by omega, G3, δ3, e3, s3, hlt, rfl, q3⟩, fun x H' y => ?_⟩
      obtain ⟨ey, sy, ry⟩ := hy i items[i] x H' (by simp [hlt]) y
      refine ⟨Z, G2, δ2, items[i], _, s2.mono ey sy, ry, q2, fun δ3 σ3 G3 H3 e3 s3 _ q3 => ⟨Z, G3, δ3, _, s3, q3, ?_⟩⟩
      have ee : Ext G1 H1 G3 H3 := (e2.trans ey).trans e3
      have el : Ext G H G3 H3 := e1.trans ee
      exact ⟨fun δ' σ' G' H' e' s' q' => ⟨G', δ', ee.trans e', s', q'⟩, (l.later el).rt, (l.later el).nx, fun δ' σ' G' H' e' s' q' => ⟨G', δ', ee.trans e', s', q'⟩⟩
    · have e : i = items.length := by omega
      subst e
      rw [List.drop_length] at q2
      obtain ⟨c2, q2⟩ := q2
      obtain ⟨hgo, hy, hstop⟩ := w1 ⟨X.K, Z⟩ G2 H2 e2.v s2.sim c2
      exact .inl ⟨hstop, l.nx δ2 σ2 G2 H2 (e1.trans e2) s2 q2⟩
/-- a list or a tuple that is only read while it is walked -/
theorem pi_seq {tg l : Expr} {tl : TE} (hl : PE X l tl) :
    PI X tg l (fun σ H R => tl σ H fun x H1 => ∃ a, x = .ref a ∧ ((∃ xs, SqL X.K H1 a xs) ∧ R (Itl X.K a) H1 ∨ (∃ xs, SqT X.K H1 a xs) ∧ R (Itt X.K a) H1)) := by
  refine ⟨fun pins s σ H R I h => thn (hl.run pins s σ H _ I h) ?_⟩
  rintro v s1 ⟨x, H1, I1, rx, a, rfl, hh⟩
  cases rx
  have fresh := I1.hok.fresh (Nat.le_refl s1.heap.objs.size)
  rcases hh with ⟨⟨xs, hx⟩, r⟩ | ⟨⟨xs, hx⟩, r⟩
  · obtain ⟨its, rv, pl, _⟩ := I1.list hx
    refine wpAny_pyIter_list pl.isList ⟨s1.heap.objs.size, [s1.heap.objs.size], _, _, H1, rfl, I1.kept (t' := s1.toks) (fun b o e => Heap.get?_push_of_some _ e), turn_list a _, ⟨_, Heap.get?_push_size _ rfl, rfl, rfl⟩, ?_, r⟩
    intro b hb
    rw [List.mem_singleton.mp hb]
    exact I1.fpOk (Nat.le_refl _) fresh
  · obtain ⟨its, rv, pt, _⟩ := I1.tuple hx
    refine wpAny_pyIter_tuple (show s1.heap.IsTuple a its.toArray from pt) ⟨s1.heap.objs.size, [s1.heap.objs.size], _, _, H1, rfl, I1.kept (t' := s1.toks) (fun b o e => Heap.get?_push_of_some _ e), turn_tuple a _, ⟨_, Heap.get?_push_size _ rfl, rfl, rfl⟩, ?_, r⟩
    intro b hb
    rw [List.mem_singleton.mp hb]
    exact I1.fpOk (Nat.le_refl _) fresh
/-- the items of a list or tuple by value (a tracked list is a value from then on) -/
def dItems (te : DE) : DI := fun δ G Q => te δ G fun x G1 => match x with
  | .lst xs => Q xs cFree G1
  | .tup xs => Q xs cFree G1
  | .ro xs => Q xs cFree G1
  | .ref a => match G1 a with
    | some (.lst xs) => Q xs (fun G => G a = some (.lst xs)) G1
    | _ => False
  | _ => False
theorem walk_trk {B : Bd} {G : Hd} {H : Hp} {a : Addr} {ds : List D} : Walk B G H ds (fun G => G a = some (.lst ds)) (Itl B.K a) := by
  intro B' G' H' e s c
  obtain ⟨xs, h', r'⟩ := s.at_ a _ c
  have hs : SqL B.K H' a xs := SqL.of h'
  refine ⟨fun i hi => ?_, fun i d x H2 hd y => ?_, xs, hs, Nat.le_of_eq r'.size⟩
  · have hi' : i < xs.length := by rw [r'.size]; exact hi
    exact ⟨xs, xs[i], hs, by simp [hi']⟩
  · obtain ⟨rfl, hy⟩ := y
    obtain ⟨v, hv, rv⟩ := r'.get hd
    have := hy xs hs
    rw [hv] at this
    cases this
    exact ⟨.refl, s, rv⟩
theorem walk_lst {B : Bd} {G : Hd} {H : Hp} {a : Addr} {xs : List V} {ds : List D} {C : Hd → Prop} (h : H a = some (.lst xs)) (g : G a = none) (z : ¬ B.Z a) (r : RpL B G H ds xs) : Walk B G H ds C (Itl B.K a) := by
  intro B' G' H' e s _
  obtain ⟨h', _, _⟩ := e.2 a _ h g z
  have hs : SqL B.K H' a xs := SqL.of h'
  have r' := r.vmono e
  refine ⟨fun i hi => ?_, fun i d x H2 hd y => ?_, xs, hs, Nat.le_of_eq r.size⟩
  · have hi' : i < xs.length := by rw [r.size]; exact hi
    exact ⟨xs, xs[i], hs, by simp [hi']⟩
  · obtain ⟨rfl, hy⟩ := y
    obtain ⟨v, hv, rv⟩ := r'.get hd
    have := hy xs hs
    rw [hv] at this
    cases this
    exact ⟨.refl, s, rv⟩
theorem walk_ro {B : Bd} {G : Hd} {H : Hp} {a : Addr} {xs : List V} {ds : List D} {C : Hd → Prop} (h : RoAt B G H a xs) (r : RpL B G H ds xs) : Walk B G H ds C (Itl B.K a) := by
  intro B' G' H' e s _
  have hs : SqL B.K H' a xs := by
    rcases h with ⟨h | ⟨u, h⟩, g, n⟩ | h
    · exact .inl (.inl (e.2 _ _ h g n).1)
    · exact .inl (.inr ⟨u, (e.2 _ _ h g n).1⟩)
    · exact .inr h
  have r' := r.vmono e
  refine ⟨fun i hi => ?_, fun i d x H2 hd y => ?_, xs, hs, Nat.le_of_eq r.size⟩
  · have hi' : i < xs.length := by rw [r.size]; exact hi
    exact ⟨xs, xs[i], hs, by simp [hi']⟩
  · obtain ⟨rfl, hy⟩ := y
    obtain ⟨v, hv, rv⟩ := r'.get hd
    have := hy xs hs
    rw [hv] at this
    cases this
    exact ⟨.refl, s, rv⟩
theorem walk_tup {B : Bd} {G : Hd} {H : Hp} {a : Addr} {xs : List V} {ds : List D} {C : Hd → Prop} (h : H a = some (.tup xs)) (g : G a = none) (z : ¬ B.Z a) (r : RpL B G H ds xs) : Walk B G H ds C (Itt B.K a) := by
  intro B' G' H' e s _
  obtain ⟨h', _, _⟩ := e.2 a _ h g z
  have hs : SqT B.K H' a xs := SqT.of h'
  have r' := r.vmono e
  refine ⟨fun i hi => ?_, fun i d x H2 hd y => ?_, xs, hs, Nat.le_of_eq r.size⟩
  · have hi' : i < xs.length := by rw [r.size]; exact hi
    exact ⟨xs, xs[i], hs, by simp [hi']⟩
  · obtain ⟨rfl, hy⟩ := y
    obtain ⟨v, hv, rv⟩ := r'.get hd
    have := hy xs hs
    rw [hv] at this
    cases this
    exact ⟨.refl, s, rv⟩
theorem qi_seq {tg l : Expr} {tl : DE} (hl : PE X l (lowE X.K tl)) : PI X tg l (lowI X.K (dItems tl)) :=
  qi_of (pi_seq hl) fun σ H Z G δ Q R ss q k => ⟨Z, G, δ, _, ss, q, fun d v G1 H1 e1 s1 r1 q1 => by
    cases r1 with
    | lst h g z r => exact ⟨_, rfl, .inl ⟨⟨_, SqL.of h⟩, k _ _ _ G1 H1 e1 s1 (walk_lst h g z r) q1⟩⟩
    | tup h g z r => exact ⟨_, rfl, .inr ⟨⟨_, SqT.of h⟩, k _ _ _ G1 H1 e1 s1 (walk_tup h g z r) q1⟩⟩
    | ro h r => exact ⟨_, rfl, .inl ⟨⟨_, h.sq⟩, k _ _ _ G1 H1 e1 s1 (walk_ro h r) q1⟩⟩
    | ref a =>
      simp only at q1
      split at q1
      · rename_i xs e
        obtain ⟨ys, h2, r2⟩ := s1.at_ a _ e
        exact ⟨a, rfl, .inl ⟨⟨_, SqL.of h2⟩, k _ _ _ G1 H1 e1 s1 walk_trk q1⟩⟩
      · exact q1.elim
    | _ => exact q1.elim⟩
/-- range -/
def rangeD (lo hi : Int) : List D := (List.range (hi - lo).toNat).map fun i => .int (lo + (i : Nat))
theorem rangeD_length (lo hi : Int) : (rangeD lo hi).length = (hi - lo).toNat := by unfold rangeD; simp
theorem walk_range {B : Bd} {G : Hd} {H : Hp} {lo hi : Int} {n : Nat} {C : Hd → Prop} (hn : n = (hi - lo).toNat) : Walk B G H (rangeD lo hi) C (Itr lo n) := by
  intro B' G' H' e s _
  subst hn
  refine ⟨fun i hi' => by rw [rangeD_length] at hi'; exact hi', fun i d x H2 hd y => ?_, by rw [rangeD_length]; exact Nat.le_refl _⟩
  obtain ⟨rfl, rfl⟩ := y
  unfold rangeD at hd
  rw [List.getElem?_map] at hd
  cases h : (List.range (hi - lo).toNat)[i]? with
  | none => rw [h] at hd; cases hd
  | some j =>
    rw [h] at hd
    obtain ⟨h1, h2⟩ := List.getElem?_eq_some_iff.mp h
    simp at h2
    subst h2
    cases hd
    exact ⟨.refl, s, .int _⟩
def dRange1 (ta : DE) : DI := fun δ G Q => ta δ G fun x G1 => match x with
  | .int j => (-(2 ^ 62) ≤ j ∧ j < 2 ^ 62) ∧ Q (rangeD 0 j) cFree G1
  | _ => False
def dRange2 (ta tb : DE) : DI := fun δ G Q => ta δ G fun x G1 => tb δ G1 fun y G2 => match x, y with
  | .int i, .int j => (-(2 ^ 62) ≤ i ∧ i < 2 ^ 62 ∧ -(2 ^ 62) ≤ j ∧ j < 2 ^ 62) ∧ Q (rangeD i j) cFree G2
  | _, _ => False
theorem low1 {K : PySem.W.Frag} {Z : Addr → Prop} {te : DE} {σ : St} {H : Hp} {G : Hd} {δ : SD} {Q : KD} {Kc : List V → Hp → Prop} (ss : SS ⟨K, Z⟩ G H δ σ) (q : te δ G Q)
    (k : ∀ d v G' H', Ext G H G' H' → Sim ⟨K, Z⟩ G' H' → Rp ⟨K, Z⟩ G' H' d v → Q d G' → Kc [v] H') : tCons (lowE K te) tNil σ H Kc :=
  ⟨Z, G, δ, Q, ss, q, fun d v G' H' e s r q => k d v G' H' e s r q⟩
theorem qi_range1 {tg a : Expr} {ta : DE} {p : Pos} (hg : Gl X "range") (hm : X.mg "range" = none) (ha : PE X a (lowE X.K ta)) (hs : starEach [a] X.env = [(false, eval a X.env)] := by rfl) : PI X tg (.Call (.Name "range" p) [a] [] pos) (lowI X.K (dRange1 ta)) :=
  qi_of (pi_range1 hg hm (pa_cons ha pa_nil (by rw [hs]; rfl)) hs) fun σ H Z G δ Q R ss q k => low1 ss q fun d v G1 H1 e1 s1 r1 q1 => by
    cases r1 with
    | int j => exact ⟨j, rfl, q1.1.1, q1.1.2, k _ _ _ G1 H1 e1 s1 (walk_range (by omega)) q1.2⟩
    | _ => exact q1.elim
theorem qi_range2 {tg a b : Expr} {ta tb : DE} {p : Pos} (hg : Gl X "range") (hm : X.mg "range" = none) (ha : PE X a (lowE X.K ta)) (hb : PE X b (lowE X.K tb)) (hs : starEach [a, b] X.env = [(false, eval a X.env), (false, eval b X.env)] := by rfl) (hs2 : starEach [b] X.env = [(false, eval b X.env)] := by rfl) :
    PI X tg (.Call (.Name "range" p) [a, b] [] pos) (lowI X.K (dRange2 ta tb)) :=
  qi_of (pi_range2 hg hm (pa_cons ha (pa_cons hb pa_nil (by rw [hs2]; rfl)) (by rw [hs, hs2])) hs hs2) fun σ H Z G δ Q R ss q k => ⟨Z, G, δ, _, ss, q, fun d v G1 H1 e1 s1 r1 q1 => ⟨Z, G1, δ, _, ss.mono e1 s1, q1, fun d2 v2 G2 H2 e2 s2 r2 q2 => by
    cases r1 with
    | int i =>
      cases r2 with
      | int j => exact ⟨i, j, rfl, q2.1, k _ _ _ G2 H2 (e1.trans e2) s2 (walk_range rfl) q2.2⟩
      | _ => exact q2.elim
    | _ => exact q2.elim⟩⟩
end
end VL
set_option Elab.async false
set_option linter.all false
set_option maxRecDepth 100000
set_option maxHeartbeats 4000000
/-! Comprehensions by values. -/
namespace VL
open PySem L2

theorem SS.v {B B' : Bd} {G G' : Hd} {H H' : Hp} {δ : SD} {σ : St} (s : SS B G H δ σ) (e : VExt B G H B' G' H') (m : Sim B' G' H') : SS B' G' H' δ σ :=
  ⟨s.len, fun i d h => let ⟨v, a, b⟩ := s.slot i d h; ⟨v, a, b.vmono e⟩, m⟩
def wipeD (δ : SD) : List Nat → SD
  | [] => δ
  | v :: vs => (wipeD δ vs).set v none
theorem SS.wipe {B : Bd} {G : Hd} {H : Hp} {δ : SD} {σ : St} (s : SS B G H δ σ) : ∀ vs : List Nat, SS B G H (wipeD δ vs) (wipe σ vs)
  | [] => s
  | v :: vs => (s.wipe vs).unset v
theorem wipe_get (σ : St) (i : Nat) : ∀ vs : List Nat, (wipe σ vs)[i]? = if i ∈ vs then (if i < σ.length then some none else none) else σ[i]?
  | [] => by simp [wipe]
  | v :: vs => by
    unfold wipe
    by_cases h : v = i
    · subst h
      rw [if_pos (List.mem_cons_self)]
      by_cases hl : v < σ.length
      · rw [if_pos hl, List.getElem?_set_self (by rw [wipe_length]; exact hl)]
      · rw [if_neg hl, List.getElem?_eq_none (by rw [List.length_set, wipe_length]; omega)]
    · rw [List.getElem?_set_ne h, wipe_get σ i vs]
      by_cases hm : i ∈ vs
      · rw [if_pos hm, if_pos (List.mem_cons_of_mem _ hm)]
      · rw [if_neg hm, if_neg (by simp only [List.mem_cons, not_or]; exact ⟨fun e => h e.symm, hm⟩)]
theorem wipe_out {σ σ2 : St} {vs fp : List Nat} (o : Out fp (wipe σ vs) σ2) (h : ∀ i ∈ fp, i ∈ vs) : wipe σ2 vs = wipe σ vs := by
  have hl : σ2.length = σ.length := by rw [o.1, wipe_length]
  refine List.ext_getElem? fun i => ?_
  rw [wipe_get, wipe_get, hl]
  by_cases hm : i ∈ vs
  · rw [if_pos hm, if_pos hm]
  · rw [if_neg hm, if_neg hm, o.2 i (fun q => hm (h i q)), wipe_get, if_neg hm]

def dCL (g : DG) (tt : DT) (te : DE) (δ0 : SD) (C : Hd → Prop) : List D → List D → Hd → (List D → Hd → Prop) → Prop
  | [], acc, G, Q => C G ∧ Q acc G
  | d :: r, acc, G, Q => C G ∧ g d δ0 G fun δ2 G2 => tt δ2 G2 fun b G3 => if b = true then te δ2 G3 fun y G4 => acc.length < sizeLine ∧ dCL g tt te δ0 C r (acc ++ [y]) G4 Q else dCL g tt te δ0 C r acc G3 Q
/-- [e for x in .. if ..], a value; one that is written later -/
def dLc (wi : DI) (g : DG) (tt : DT) (te : DE) (vs : List Nat) : DE := fun δ G Q => wi δ G fun items C G1 => dCL g tt te (wipeD δ vs) C items [] G1 fun acc G2 => Q (.lst acc) G2
def dLcM (wi : DI) (g : DG) (tt : DT) (te : DE) (vs : List Nat) : DE := fun δ G Q => wi δ G fun items C G1 => dCL g tt te (wipeD δ vs) C items [] G1 fun acc G2 => ∀ p, G2 p = none → Q (.ref p) (updD G2 p (.lst acc))
def dYes : DT := fun _ G Q => Q true G

section
variable {K : PySem.W.Frag}
theorem lc_low {wi : DI} {g : DG} {tt : DT} {te : DE} {vs fp : List Nat} (hfp : ∀ i ∈ fp, i ∈ vs) {σ : St} {H : Hp} {Z : Addr → Prop} {G : Hd} {δ : SD} {Qf : List D → Hd → Prop} {Kc : VK} (ss : SS ⟨K, Z⟩ G H δ σ)
    (q : wi δ G fun items C G1 => dCL g tt te (wipeD δ vs) C items [] G1 Qf)
    (k : ∀ (D' : Addr) (acc : List D) (xs : List V) (G0 : Hd) (H0 : Hp) (G2 : Hd) (H2 : Hp), Ext G H G0 H0 → H0 D' = none → ¬ Z D' → Ext G0 H0 G2 H2 → Sim (Bd.hide ⟨K, Z⟩ D') G2 H2 → H2 D' = some (.lst xs) → RpL (Bd.hide ⟨K, Z⟩ D') G2 H2 acc xs → Qf acc G2 → Kc (.ref D') H2) :
    tLc (lowI K wi) (lowG K fp g) (lowT K tt) (lowE K te) vs σ H Kc := by
  refine ⟨Z, G, δ, _, ss, q, fun items C J G1 H1 e1 s1 w1 q1 D' hD => ?_⟩
  have hz : ¬ Z D' := s1.seen hD
  have v0 : VExt ⟨K, Z⟩ G1 H1 (Bd.hide ⟨K, Z⟩ D') G1 (upd H1 D' (.lst [])) := VExt.hide hD
  refine ⟨fun i m Hi => ∃ Gi acc xs, Ext G1 H1 Gi Hi ∧ VExt ⟨K, Z⟩ G1 H1 (Bd.hide ⟨K, Z⟩ D') Gi Hi ∧ Sim (Bd.hide ⟨K, Z⟩ D') Gi Hi ∧ Hi D' = some (.lst xs) ∧ RpL (Bd.hide ⟨K, Z⟩ D') Gi Hi acc xs ∧ i ≤ items.length ∧ m = items.length - i ∧
    dCL g tt te (wipeD δ vs) C (items.drop i) acc Gi Qf, ⟨items.length, G1, [], [], Ext.laid hD, v0, s1.hide hD, upd_same, .nil, Nat.zero_le _, rfl, q1⟩, ?_⟩
  rintro i m Hi ⟨Gi, acc, xs, ei, vi, si, hDi, ri, hi, rfl, qi⟩
  by_cases hlt : i < items.length
  · have ed : items.drop i = items[i] :: items.drop (i + 1) := List.drop_eq_getElem_cons hlt
    rw [ed] at qi
    obtain ⟨ci, qi⟩ := qi
    obtain ⟨hgo, hy, hstop⟩ := w1 _ Gi Hi vi si ci
    refine .inr ⟨hgo i hlt, fun H' => ∃ Gi acc xs, Ext G1 H1 Gi H' ∧ VExt ⟨K, Z⟩ G1 H1 (Bd.hide ⟨K, Z⟩ D') Gi H' ∧ Sim (Bd.hide ⟨K, Z⟩ D') Gi H' ∧ H' D' = some (.lst xs) ∧ RpL (Bd.hide ⟨K, Z⟩ D') Gi H' acc xs ∧ dCL g tt te (wipeD δ vs) C (items.drop (i + 1)) acc Gi Qf,
      fun H' ⟨G', acc', xs', e', v', s', h', r', q'⟩ => ⟨items.length - (i + 1), by omega, G', acc', xs', e', v', s', h', r', hlt, rfl, q'⟩, fun x H' y => ?_⟩
    obtain ⟨ey, sy, ry⟩ := hy i items[i] x H' (by simp [hlt]) y
    have vy : VExt ⟨K, Z⟩ G1 H1 (Bd.hide ⟨K, Z⟩ D') Gi H' := vi.trans ey.v
    have gD : Gi D' = none := (si.hid D' (.inr rfl)).1
    have ssi : SS (Bd.hide ⟨K, Z⟩ D') Gi H' (wipeD δ vs) (wipe σ vs) := ((ss.mono e1 s1).v vy sy).wipe vs
    refine ⟨(Bd.hide ⟨K, Z⟩ D').Z, Gi, wipeD δ vs, items[i], _, ssi, ry, qi, fun δ2 σ2 G2 H2 e2 s2 o2 q2 => ⟨wipe_out o2 hfp, (Bd.hide ⟨K, Z⟩ D').Z, G2, δ2, _, s2, q2, fun b G3 H3 e3 s3 q3 => ?_⟩⟩
    have e03 : Ext Gi Hi G3 H3 := (ey.trans e2).trans e3
    have h3 : H3 D' = some (.lst xs) := (e03 _ _ hDi gD).1
    have ss3 := s2.mono e3 s3
    cases b with
    | true =>
      dsimp only at q3 ⊢
      rw [if_pos rfl] at q3 ⊢
      refine ⟨(Bd.hide ⟨K, Z⟩ D').Z, G3, δ2, _, ss3, q3, fun d v G4 H4 e4 s4 r4 q4 => ?_⟩
      have gD3 : G3 D' = none := (e03 _ _ hDi gD).2
      have h4 : H4 D' = some (.lst xs) := (e4 _ _ h3 gD3).1
      have z' : (Bd.hide ⟨K, Z⟩ D').Z D' := .inr rfl
      have r4' : RpL (Bd.hide ⟨K, Z⟩ D') G4 H4 acc xs := ri.mono (e03.trans e4)
      refine ⟨xs, h4, by rw [ri.size]; exact q4.1, G4, acc ++ [d], xs ++ [v], fun b o hb gb => ?_, (vi.trans (e03.trans e4).v).trans (VExt.hidden z'), s4.hidden z', upd_same, (r4'.append (.cons r4 .nil)).hidden z', q4.2⟩
      obtain ⟨p1, p2⟩ := (ei.trans (e03.trans e4)) b o hb gb
      exact ⟨(upd_ne (ne_of_none hb hD)).trans p1, p2⟩
    | false =>
      dsimp only at q3 ⊢
      rw [if_neg Bool.false_ne_true] at q3 ⊢
      exact ⟨G3, acc, xs, ei.trans e03, vi.trans e03.v, s3, h3, ri.mono e03, q3⟩
  · have e : i = items.length := by omega
    subst e
    rw [List.drop_length] at qi
    obtain ⟨ci, qi⟩ := qi
    obtain ⟨hgo, hy, hstop⟩ := w1 _ Gi Hi vi si ci
    exact .inl ⟨hstop, k D' acc xs G1 H1 Gi Hi e1 hD hz ei si hDi ri qi⟩
theorem lc_val {Z : Addr → Prop} {G : Hd} {H : Hp} {Q : KD} {Kc : VK} (kc : ∀ d v G' H', Ext G H G' H' → Sim ⟨K, Z⟩ G' H' → Rp ⟨K, Z⟩ G' H' d v → Q d G' → Kc v H') :
    ∀ (D' : Addr) (acc : List D) (xs : List V) (G0 : Hd) (H0 : Hp) (G2 : Hd) (H2 : Hp), Ext G H G0 H0 → H0 D' = none → ¬ Z D' → Ext G0 H0 G2 H2 → Sim (Bd.hide ⟨K, Z⟩ D') G2 H2 → H2 D' = some (.lst xs) → RpL (Bd.hide ⟨K, Z⟩ D') G2 H2 acc xs → Q (.lst acc) G2 → Kc (.ref D') H2 := by
  intro D' acc xs G0 H0 G2 H2 e0 h0 hz e2 s2 h2 r2 q
  have less : ∀ a, (⟨K, Z⟩ : Bd).Z a → (Bd.hide ⟨K, Z⟩ D').Z a := fun a z => .inl z
  exact kc _ _ G2 H2 (e0.trans e2) (Sim.less (B := Bd.hide ⟨K, Z⟩ D') (B' := ⟨K, Z⟩) rfl less s2) (.lst h2 (s2.hid D' (.inr rfl)).1 hz (RpL.less (B := Bd.hide ⟨K, Z⟩ D') (B' := ⟨K, Z⟩) rfl less r2)) q
theorem lc_trk {Z : Addr → Prop} {G : Hd} {H : Hp} {Q : KD} {Kc : VK} (kc : ∀ d v G' H', Ext G H G' H' → Sim ⟨K, Z⟩ G' H' → Rp ⟨K, Z⟩ G' H' d v → Q d G' → Kc v H') :
    ∀ (D' : Addr) (acc : List D) (xs : List V) (G0 : Hd) (H0 : Hp) (G2 : Hd) (H2 : Hp), Ext G H G0 H0 → H0 D' = none → ¬ Z D' → Ext G0 H0 G2 H2 → Sim (Bd.hide ⟨K, Z⟩ D') G2 H2 → H2 D' = some (.lst xs) → RpL (Bd.hide ⟨K, Z⟩ D') G2 H2 acc xs →
      (∀ p, G2 p = none → Q (.ref p) (updD G2 p (.lst acc))) → Kc (.ref D') H2 := by
  intro D' acc xs G0 H0 G2 H2 e0 h0 hz e2 s2 h2 r2 q
  have gD := (s2.hid D' (.inr rfl)).1
  have v : VExt (Bd.hide ⟨K, Z⟩ D') G2 H2 ⟨K, Z⟩ (updD G2 D' (.lst acc)) H2 := ⟨rfl, fun b o h g z => ⟨h, by rw [updD_ne (fun e => z (.inr e))]; exact g, fun q => z (.inl q)⟩⟩
  refine kc _ _ (updD G2 D' (.lst acc)) H2 (fun b o h g => ?_) ⟨fun a u h => ?_, fun a z => ?_⟩ (.ref D') (q D' gD)
  · obtain ⟨h', g'⟩ := (e0 b o h g)
    obtain ⟨h2', g2'⟩ := e2 b o h' g'
    exact ⟨h2', by rw [updD_ne (ne_of_none h' h0)]; exact g2'⟩
  · by_cases ea : a = D'
    · subst ea
      rw [updD_same] at h
      cases h
      exact ⟨xs, h2, r2.vmono v⟩
    · rw [updD_ne ea] at h
      have so := s2.at_ a u h
      cases u with
      | lst ds => obtain ⟨ys, h1, r⟩ := so; exact ⟨ys, h1, r.vmono v⟩
      | dT ds =>
        obtain ⟨ys, h1, r⟩ := so
        exact ⟨ys, h1, by
          clear h1 h
          induction r with
          | nil => exact .nil
          | cons a b ih => exact .cons (a.vmono v) ih⟩
      | ins C fs =>
        obtain ⟨dx, ys, h1, r⟩ := so
        exact ⟨dx, ys, h1, by
          clear h1 h
          induction r with
          | nil => exact .nil
          | cons a b ih => exact .cons (a.vmono v) ih⟩
  · obtain ⟨g', o, h'⟩ := s2.hid a (.inl z)
    have ne : a ≠ D' := fun e => hz (e ▸ z)
    exact ⟨by rw [updD_ne ne]; exact g', o, h'⟩
end
section
variable {X : Cx}
abbrev Blk (X : Cx) (scope : Scope) (s : Shared) (H : Hp) (C : Addr) (cl : List (Str × Addr)) (fp : List Addr) : Cx := X.blk s H scope (compEnvC scope cl C X.env) fp
theorem qts_nil : PTs X [] (lowT X.K dYes) := ⟨fun pins s σ H Q I ⟨Z, G, δ, Q', ss, q, k⟩ => pts_nil.run pins s σ H Q I (k _ G H .refl ss.sim q)⟩
theorem qts_one {c : Expr} {t : DT} (h : PT X c (lowT X.K t)) : PTs X [c] (lowT X.K t) := pts_one h
theorem q_lc (own : List (Str × Nat)) {elt tg iter : Expr} {ifs : List Expr} {scope : Scope} {pos : Pos} {wi : DI} {fpg : List Nat} {g : DG} {tt : DT} {te : DE} (hc : X.calm = true) (hN : X.N.Nodup) (hi : PI X tg iter (lowI X.K wi)) (ok : BlkOk X.N X.env.scope scope own)
    (hg : ∀ (s : Shared) (H : Hp) (C : Addr) (cl : List (Str × Addr)) (fp : List Addr), PG (Blk X scope s H C cl fp) tg (lowG X.K fpg g)) (ht : ∀ (s : Shared) (H : Hp) (C : Addr) (cl : List (Str × Addr)) (fp : List Addr), PTs (Blk X scope s H C cl fp) ifs (lowT X.K tt))
    (he : ∀ (s : Shared) (H : Hp) (C : Addr) (cl : List (Str × Addr)) (fp : List Addr), PE (Blk X scope s H C cl fp) elt (lowE X.K te)) (hfp : ∀ i ∈ fpg, i ∈ own.map (·.2) := by decide) (hs : ∀ x, foldedSetIterable iter X.env x = pure x := by intro _; rfl) :
    PE X (.ListComp elt [⟨tg, iter, ifs, 0⟩] scope pos) (lowE X.K (dLc wi g tt te (own.map (·.2)))) :=
  qe_of (pe_lc hc hN hi ok hg ht he hs) fun σ H Z G δ Q Kc ss q k => lc_low hfp ss q (lc_val k)
theorem q_lcM (own : List (Str × Nat)) {elt tg iter : Expr} {ifs : List Expr} {scope : Scope} {pos : Pos} {wi : DI} {fpg : List Nat} {g : DG} {tt : DT} {te : DE} (hc : X.calm = true) (hN : X.N.Nodup) (hi : PI X tg iter (lowI X.K wi)) (ok : BlkOk X.N X.env.scope scope own)
    (hg : ∀ (s : Shared) (H : Hp) (C : Addr) (cl : List (Str × Addr)) (fp : List Addr), PG (Blk X scope s H C cl fp) tg (lowG X.K fpg g)) (ht : ∀ (s : Shared) (H : Hp) (C : Addr) (cl : List (Str × Addr)) (fp : List Addr), PTs (Blk X scope s H C cl fp) ifs (lowT X.K tt))
    (he : ∀ (s : Shared) (H : Hp) (C : Addr) (cl : List (Str × Addr)) (fp : List Addr), PE (Blk X scope s H C cl fp) elt (lowE X.K te)) (hfp : ∀ i ∈ fpg, i ∈ own.map (·.2) := by decide) (hs : ∀ x, foldedSetIterable iter X.env x = pure x := by intro _; rfl) :
    PE X (.ListComp elt [⟨tg, iter, ifs, 0⟩] scope pos) (lowE X.K (dLcM wi g tt te (own.map (·.2)))) :=
  qe_of (pe_lc hc hN hi ok hg ht he hs) fun σ H Z G δ Q Kc ss q k => lc_low hfp ss q (lc_trk k)
/-- name = [..] -/
theorem qs_setLc (i : Nat) (own : List (Str × Nat)) {y : Str} {py spos : Pos} {elt tg iter : Expr} {ifs : List Expr} {scope : Scope} {pos : Pos} {wi : DI} {fpg : List Nat} {g : DG} {tt : DT} {te : DE} (hc : X.calm = true) (hN : X.N.Nodup) (hi : PI X tg iter (lowI X.K wi)) (ok : BlkOk X.N X.env.scope scope own)
    (hg : ∀ (s : Shared) (H : Hp) (C : Addr) (cl : List (Str × Addr)) (fp : List Addr), PG (Blk X scope s H C cl fp) tg (lowG X.K fpg g)) (ht : ∀ (s : Shared) (H : Hp) (C : Addr) (cl : List (Str × Addr)) (fp : List Addr), PTs (Blk X scope s H C cl fp) ifs (lowT X.K tt))
    (he : ∀ (s : Shared) (H : Hp) (C : Addr) (cl : List (Str × Addr)) (fp : List Addr), PE (Blk X scope s H C cl fp) elt (lowE X.K te)) (hsw : swapsWith (.ListComp elt [⟨tg, iter, ifs, 0⟩] scope pos) (some (.Name y py)) spos.line X.env = pure true)
    (hy : X.N[i]? = some y := by rfl) (hyl : X.env.scope.names.lookup y = some .local := by rfl) (hfp : ∀ i ∈ fpg, i ∈ own.map (·.2) := by decide) (hs : ∀ x, foldedSetIterable iter X.env x = pure x := by intro _; rfl) :
    PS X (.Assign [.Name y py] (.ListComp elt [⟨tg, iter, ifs, 0⟩] scope pos) spos) (lowS X.K (dAsg (dLc wi g tt te (own.map (·.2))) (eName i))) :=
  qs_of (ps_setLc hc hN hy hyl hsw hi ok hg ht he hs) fun D' σ H Z G δ E ss q l => lc_low hfp ss q (lc_val fun d v G' H' e s r q => l.nx _ _ G' H' e ((ss.mono e s).set r i) q)
theorem qs_setLcM (i : Nat) (own : List (Str × Nat)) {y : Str} {py spos : Pos} {elt tg iter : Expr} {ifs : List Expr} {scope : Scope} {pos : Pos} {wi : DI} {fpg : List Nat} {g : DG} {tt : DT} {te : DE} (hc : X.calm = true) (hN : X.N.Nodup) (hi : PI X tg iter (lowI X.K wi)) (ok : BlkOk X.N X.env.scope scope own)
    (hg : ∀ (s : Shared) (H : Hp) (C : Addr) (cl : List (Str × Addr)) (fp : List Addr), PG (Blk X scope s H C cl fp) tg (lowG X.K fpg g)) (ht : ∀ (s : Shared) (H : Hp) (C : Addr) (cl : List (Str × Addr)) (fp : List Addr), PTs (Blk X scope s H C cl fp) ifs (lowT X.K tt))
    (he : ∀ (s : Shared) (H : Hp) (C : Addr) (cl : List (Str × Addr)) (fp : List Addr), PE (Blk X scope s H C cl fp) elt (lowE X.K te)) (hsw : swapsWith (.ListComp elt [⟨tg, iter, ifs, 0⟩] scope pos) (some (.Name y py)) spos.line X.env = pure true)
    (hy : X.N[i]? = some y := by rfl) (hyl : X.env.scope.names.lookup y = some .local := by rfl) (hfp : ∀ i ∈ fpg, i ∈ own.map (·.2) := by decide) (hs : ∀ x, foldedSetIterable iter X.env x = pure x := by intro _; rfl) :
    PS X (.Assign [.Name y py] (.ListComp elt [⟨tg, iter, ifs, 0⟩] scope pos) spos) (lowS X.K (dAsg (dLcM wi g tt te (own.map (·.2))) (eName i))) :=
  qs_of (ps_setLc hc hN hy hyl hsw hi ok hg ht he hs) fun D' σ H Z G δ E ss q l => lc_low hfp ss q (lc_trk fun d v G' H' e s r q => l.nx _ _ G' H' e ((ss.mono e s).set r i) q)
end
end VL
set_option Elab.async false
set_option linter.all false
set_option maxRecDepth 100000
set_option maxHeartbeats 4000000
/-! Functions, methods, classes by values. -/
namespace VL
open PySem L2

/-- no guard of repr's is up -/
abbrev GA (A : Around) : Prop := A.guards = some []
theorem GA.deeper {A : Around} (g : GA A) (env : Env) : GA (A.deeper env) := g
theorem GA.make {A : Around} (g : GA A) (C : Addr) (us : List Value) (kw : List (Str × Value)) : GA (A.under (.builtin "type.__call__" ⟨.ref C :: us, kw⟩)) := by
  have h : ¬ "type.__call__" ∈ guardIds := by decide +kernel
  unfold GA Around.under
  rw [show A.guards = some [] from g]
  simp [Code.guards, Code.isGuard, h, pushGuards]

/-- a promise by values: the arguments, the tracked objects, what is wanted -/
abbrev SpD := List D → Hd → KD → Prop
def kEnd (K : PySem.W.Frag) (Z : Addr → Prop) (G : Hd) (H : Hp) (Q : KD) : VK := fun v H' => ∃ d G', Ext G H G' H' ∧ Sim ⟨K, Z⟩ G' H' ∧ Rp ⟨K, Z⟩ G' H' d v ∧ Q d G'
structure FnA (P : Program) (w : World) (K : PySem.W.Frag) (mg : Str → Option Value) (base : Heap) (k : Nat) (f : Addr) (fd : FuncData) (ps : List Str) (S : SpD) : Prop where
  len : ∀ ds G Q, S ds G Q → ds.length = ps.length
  run : ∀ (A : Around) (outer : List Env) (s : Shared) (H : Hp) (args : Args) (us : List Value) (vs : List V) (Z : Addr → Prop) (ds : List D) (G : Hd) (Q : KD), Room k A → GA A → Env0 P w K mg base A outer s H →
    BindsTo s fd args (ps.zip us) → Vals vs us → RpL ⟨K, Z⟩ G H ds vs → Sim ⟨K, Z⟩ G H → S ds G Q → codeAny (model P w) A (.call (.ref f) args) (CR CX0 outer P w H s (kEnd K Z G H Q) E0) s
section
variable {P : Program} {w : World} {K : PySem.W.Frag} {mg : Str → Option Value} {base : Heap} {k : Nat} {f : Addr} {fd : FuncData} {ps : List Str} {S S' : SpD}
theorem FnA.mono {j : Nat} (F : FnA P w K mg base j f fd ps S) (h : j ≤ k) : FnA P w K mg base k f fd ps S := ⟨F.len, fun A outer s H args us vs Z ds G Q hr => F.run A outer s H args us vs Z ds G Q (hr.mono h)⟩
theorem FnA.imp (F : FnA P w K mg base k f fd ps S) (h : ∀ ds G Q, S' ds G Q → S ds G Q) : FnA P w K mg base k f fd ps S' :=
  ⟨fun ds G Q q => F.len ds G Q (h _ _ _ q), fun A outer s H args us vs Z ds G Q hr hg he hb rv r ss q => F.run A outer s H args us vs Z ds G Q hr hg he hb rv r ss (h _ _ _ q)⟩
/-- the slots at a body's start -/
def startD (N : List Str) (ds : List D) : SD := ds.map some ++ List.replicate (N.length - ds.length) none
theorem start_ss {B : Bd} {G : Hd} {H : Hp} {N : List Str} {ds : List D} {vs : List V} (s : Sim B G H) (r : RpL B G H ds vs) : SS B G H (startD N ds) (L2.start N vs) := by
  refine ⟨?_, fun i d h => ?_, s⟩
  · unfold startD L2.start
    simp [r.length]
  · unfold startD at h
    unfold L2.start
    by_cases hi : i < ds.length
    · rw [List.getElem?_append_left (by simpa using hi), List.getElem?_map] at h
      cases e : ds[i]? with
      | none => rw [e] at h; cases h
      | some d' =>
        rw [e] at h
        cases h
        obtain ⟨v, hv, rv⟩ := r.get e
        refine ⟨v, ?_, rv⟩
        rw [List.getElem?_append_left (by rw [List.length_map, r.size]; exact hi), List.getElem?_map, hv]
        rfl
    · rw [List.getElem?_append_right (by simpa using hi), List.getElem?_replicate] at h
      split at h <;> cases h
/-- THE RULE for a def -/
theorem Fun.okA {x qual : Str} {st : Stmt} {N : List Str} (F : Fun K x qual st f fd) (sc : FnScope N ps (defScope st)) (len : ∀ ds G Q, S ds G Q → ds.length = ps.length)
    (hbody : ∀ (cdv : Value) (A : Around) (outer : List Env) (s : Shared) (H : Hp) (E : XK), Room k (A.deeper (PyProof.Rows.envOfC qual (defScope st) s.heap.objs.size f cdv)) → GA (A.deeper (PyProof.Rows.envOfC qual (defScope st) s.heap.objs.size f cdv)) →
      ∃ T : DS, PSs (cxOf CX0 P w K mg base N qual (defScope st) f cdv A outer s H E).nox (defBody st) (lowS K T) ∧ ∀ ds G Q, S ds G Q → T { nx := fun _ G' => Q .non G', rt := Q } (startD N ds) G) :
    FnA P w K mg base (k + 1) f fd ps S := by
  refine ⟨len, fun A outer s H args us vs Z ds G Q hr hga e0 hb rv r ss hS => ?_⟩
  obtain ⟨oc, od, kV, doc, pm, an, cdv, ct, osl, rfl, lk, hcd⟩ := F.ex
  have hlen : vs.length = ps.length := by rw [r.size]; exact len _ _ _ hS
  have KX : K.In s.heap := e0.mod.kin.keeps fun b o q => (e0.bs b o q).1
  refine codeAny_call_function hr.depth (KX _ _ lk) rfl sc.co sc.gen rfl (PySem.W.codeRec_of KX hcd) (hb _ _ _ _ ?_)
  refine wpAny_newFunctionEnv_cells sc.kind (fun y hy => ?_) fun env he s1 x => ?_
  · rcases sc.par y.1 (List.of_mem_zip (show (y.1, y.2) ∈ ps.zip us from hy)).1 with q | q
    · exact .inl q
    · exact .inr ⟨q, PySem.W.cellsFrom_some _ _ _ (.inl q)⟩
  · subst he
    refine ⟨(e0.mod.nolimit.keeps fun b o q => (e0.bs b o q).1).keeps x.toInCall.keep, codeAny_func ?_⟩
    obtain ⟨T, hT, hq⟩ := hbody cdv A outer s H E0 (hr.deeper _) (hga.deeper _)
    have I : Inv (cxOf CX0 P w K mg base N qual (defScope st) f cdv A outer s H E0) [] (L2.start N vs) H s1 := inv_start sc hr.hd e0 hlen rv x
    have low : lowS K T { nx := fun _ H' => kEnd K Z G H Q .non H', rt := kEnd K Z G H Q } (L2.start N vs) H :=
      ⟨Z, G, startD N ds, _, start_ss ss r, hq ds G Q hS, ⟨fun δ' σ' G' H' e s q => ⟨.non, G', e, s.sim, .non, q⟩, fun d v G' H' e s r q => ⟨d, G', e, s, r, q⟩, fun _ _ _ _ _ _ q => q.elim, fun _ _ _ _ _ _ q => q.elim⟩⟩
    refine wpAny_mono (hT.nox.run [] s1 (start N vs) H _ I low) (fun fl s' h => ?_) fun e s' h => h
    cases fl with
    | ret u => obtain ⟨v, σ', H', J, rr, q⟩ := h; exact ⟨v, H', J.os, J.bare, J.base, J.hok, rr, q⟩
    | next => obtain ⟨σ', H', J, q⟩ := h; exact ⟨.non, H', J.os, J.bare, J.base, J.hok, rfl, q⟩
    | brk => obtain ⟨_, _, _, q⟩ := h; exact q.elim
    | cont => obtain ⟨_, _, _, q⟩ := h; exact q.elim
end

/-! ### calls -/
def dCall (S : SpD) (t : DA) : DE := fun δ G Q => t δ G fun ds G1 => S ds G1 Q
/-- keywords: the i-th parameter is the js[i]-th of the positional arguments and the keywords' values -/
def pick {α : Type} (js : List Nat) (us : List α) : List α := js.filterMap fun j => us[j]?
def dCallK (S : SpD) (js : List Nat) (t tk : DA) : DE := fun δ G Q => t δ G fun ds G1 => tk δ G1 fun es G2 => S (pick js (ds ++ es)) G2 Q
structure KB (fd : FuncData) (ps ks : List Str) (n : Nat) (js : List Nat) : Prop where
  to : ∀ (s : Shared) (us ws : List Value), us.length = n → ws.length = ks.length → BindsTo s fd ⟨us, ks.zip ws⟩ (ps.zip (pick js (us ++ ws)))
theorem pick_rp {B : Bd} {G : Hd} {H : Hp} {ds : List D} {vs : List V} (r : RpL B G H ds vs) : ∀ js : List Nat, RpL B G H (pick js ds) (pick js vs)
  | [] => .nil
  | j :: js => by
    have ih := pick_rp r js
    unfold pick at *
    cases h : ds[j]? with
    | none =>
      have h' : vs[j]? = none := List.getElem?_eq_none (by rw [r.size]; exact List.getElem?_eq_none_iff.mp h)
      rw [List.filterMap_cons_none h, List.filterMap_cons_none h']
      exact ih
    | some d =>
      obtain ⟨v, hv, rv⟩ := r.get h
      rw [List.filterMap_cons_some h, List.filterMap_cons_some hv]
      exact .cons rv ih
theorem pick_vals {vs : List V} {us : List Value} (r : Vals vs us) : ∀ js : List Nat, Vals (pick js vs) (pick js us)
  | [] => .nil
  | j :: js => by
    have ih := pick_vals r js
    unfold pick at *
    cases h : vs[j]? with
    | none => rw [List.filterMap_cons_none h, List.filterMap_cons_none (r.none_of h)]; exact ih
    | some d =>
      obtain ⟨u, hu, ru⟩ := r.get h
      rw [List.filterMap_cons_some h, List.filterMap_cons_some hu]
      exact .cons ru ih
section
variable {X : Cx} {k : Nat} {f C : Addr} {fd : FuncData} {ps : List Str} {S : SpD} {x m : Str} {p pos apos : Pos} {e o : Expr} {es : List Expr} {ta : DE} {t tk : DA}
theorem run_fnA {pins : List (Addr × Obj)} {σ : St} {H : Hp} {s : Shared} {Kc : VK} {args : Args} {us : List Value} {vs : List V} {Z : Addr → Prop} {ds : List D} {G : Hd} {Q : KD} (F : FnA X.prog X.w X.K X.mg X.base k f fd ps S) (hr : Room k X.A) (hga : GA X.A)
    (I : Inv X pins σ H s) (hb : BindsTo s fd args (ps.zip us)) (rv : Vals vs us) (r : RpL ⟨X.K, Z⟩ G H ds vs) (ss : Sim ⟨X.K, Z⟩ G H) (h : S ds G Q) (kc : ∀ d v G' H', Ext G H G' H' → Sim ⟨X.K, Z⟩ G' H' → Rp ⟨X.K, Z⟩ G' H' d v → Q d G' → Kc v H') :
    wpAny (model X.prog X.w) X.A (call (.ref f) args.pos args.kw) (EP X pins σ Kc) X.xe s := by
  refine wpAny_call (codeAny_mono (F.run X.A X.stack s H args us vs Z ds G Q hr hga I.env0 hb rv r ss h) fun r s' hq => ?_)
  cases r with
  | error e => exact hq.elim
  | ok fl =>
    cases fl with
    | ret u =>
      obtain ⟨v, H', I', rv', d, G', e1, s1, r1, q1⟩ := I.after hq
      exact ⟨v, H', I', rv', kc d v G' H' e1 s1 r1 q1⟩
    | next => exact False.elim hq
    | brk => exact False.elim hq
    | cont => exact False.elim hq
theorem q_call (F : FnA X.prog X.w X.K X.mg X.base k f fd ps S) (hr : Room k X.A) (hga : GA X.A) (hg : Gl X x) (hm : X.mg x = some (.ref f)) (hk : PySem.W.keepIn X.K (.ref f) = true) (hb : Binds X.K fd ps []) (ha : PA X (e :: es) (lowA X.K t))
    (hdb : (x == ("__debug__" : Str)) = false := by decide) (he : starEach (e :: es) X.env = (false, eval e X.env) :: starEach es X.env := by rfl) (hpl : (backTo pos (starEach es X.env)).any (·.1) = false := by rfl) : PE X (.Call (.Name x p) (e :: es) [] pos) (lowE X.K (dCall S t)) := by
  refine ⟨fun pins s σ H Kc I ⟨Z, G, δ, Q, ss, q, kc⟩ => wpAny_Call_Name_kw (ld_glob I hg hm ?_ hdb)⟩
  refine PySem.W.callWith_K (h₀ := X.base) I.ok.mod.kin hk (thn (ha.run pos pins s σ H _ I ⟨Z, G, δ, _, ss, q, fun ds vs G1 H1 e1 s1 r1 q1 => (⟨ds, G1, e1, s1, r1, q1⟩ : ∃ ds G1, Ext G H G1 H1 ∧ Sim ⟨X.K, Z⟩ G1 H1 ∧ RpL ⟨X.K, Z⟩ G1 H1 ds vs ∧ S ds G1 Q)⟩)
    fun us s1 ⟨vs, H1, I1, rv, ds, G1, e1, s1', r1, q1⟩ => ⟨I1.kIn, ?_⟩) he hpl
  have hl : (us ++ []).length = ps.length := by rw [List.append_nil, ← rv.length, r1.size]; exact F.len _ _ _ q1
  have b := hb s1 us I1.kIn hl
  rw [List.append_nil] at b
  exact run_fnA (args := ⟨us, []⟩) F hr hga I1 b rv r1 s1' q1 fun d v G' H' e s r q => kc d v G' H' (e1.trans e) s r q
theorem q_call0 (F : FnA X.prog X.w X.K X.mg X.base k f fd ps S) (hr : Room k X.A) (hga : GA X.A) (hg : Gl X x) (hm : X.mg x = some (.ref f)) (hk : PySem.W.keepIn X.K (.ref f) = true) (hb : Binds X.K fd ps [])
    (hdb : (x == ("__debug__" : Str)) = false := by decide) : PE X (.Call (.Name x p) [] [] pos) (lowE X.K (dCall S dNil)) := by
  refine ⟨fun pins s σ H Kc I ⟨Z, G, δ, Q, ss, q, kc⟩ => wpAny_Call_Name_kw (ld_glob I hg hm (PySem.W.callWith_K0 I.kIn hk ?_) hdb)⟩
  have hl : (([] : List Value) ++ []).length = ps.length := F.len _ _ _ q
  have b := hb s [] I.kIn hl
  exact run_fnA (args := ⟨[], []⟩) F hr hga I b .nil .nil ss.sim q kc
/-- arguments whose number is known -/
def lowAn (K : PySem.W.Frag) (n : Nat) (t : DA) : TA := fun σ H Kc => ∃ (Z : Addr → Prop) (G : Hd) (δ : SD) (Q : List D → Hd → Prop), SS ⟨K, Z⟩ G H δ σ ∧ t δ G Q ∧ ∀ ds vs G' H', ds.length = n → Ext G H G' H' → Sim ⟨K, Z⟩ G' H' → RpL ⟨K, Z⟩ G' H' ds vs → Q ds G' → Kc vs H'
theorem qn_nil : PA X [] (lowAn X.K 0 dNil) := pa_nil.imp fun σ H Kc ⟨Z, G, δ, Q, ss, q, k⟩ => k _ _ G H rfl .refl ss.sim .nil q
theorem qn_cons {n : Nat} (ha : PE X e (lowE X.K ta)) (hr : PA X es (lowAn X.K n t)) (hs : starEach (e :: es) X.env = (false, eval e X.env) :: starEach es X.env := by rfl) : PA X (e :: es) (lowAn X.K (n + 1) (dCons ta t)) :=
  (pa_cons ha hr hs).imp fun σ H Kc ⟨Z, G, δ, Q, ss, q, k⟩ => ⟨Z, G, δ, _, ss, q, fun d1 v1 G1 H1 e1 s1 r1 h1 => ⟨Z, G1, δ, _, ss.mono e1 s1, h1, fun ds vs G2 H2 hl e2 s2 r2 h2 =>
    k _ _ G2 H2 (by rw [List.length_cons, hl]) (e1.trans e2) s2 (.cons (r1.mono e2) r2) h2⟩⟩
theorem qk_nil : PK X [] (lowAn X.K 0 dNil) := ⟨fun pos pins s σ H Q I ⟨Z, G, δ, Q', ss, q, k⟩ => pk_nil.run pos pins s σ H Q I (k _ _ G H rfl .refl ss.sim .nil q)⟩
theorem qk_cons {n : Nat} {kws : List Keyword} {nm : Option Str} {kpos : Pos} (ha : PE X e (lowE X.K ta)) (hr : PK X kws (lowAn X.K n t)) : PK X (⟨nm, e, kpos⟩ :: kws) (lowAn X.K (n + 1) (dCons ta t)) :=
  ⟨fun pos pins s σ H Q I ⟨Z, G, δ, Q', ss, q, k⟩ => (pk_cons ha hr).run pos pins s σ H Q I ⟨Z, G, δ, _, ss, q, fun d1 v1 G1 H1 e1 s1 r1 h1 => ⟨Z, G1, δ, _, ss.mono e1 s1, h1, fun ds vs G2 H2 hl e2 s2 r2 h2 =>
    k _ _ G2 H2 (by rw [List.length_cons, hl]) (e1.trans e2) s2 (.cons (r1.mono e2) r2) h2⟩⟩⟩
theorem q_callK (js : List Nat) {kws : List Keyword} {ks : List Str} (F : FnA X.prog X.w X.K X.mg X.base k f fd ps S) (hr : Room k X.A) (hga : GA X.A) (hg : Gl X x) (hm : X.mg x = some (.ref f)) (hk : PySem.W.keepIn X.K (.ref f) = true) {n : Nat} (hb : KB fd ps ks n js) (ha : PA X (e :: es) (lowAn X.K n t)) (hkw : PK X kws (lowAn X.K ks.length tk))
    (hall : (backToKw pos (keywordEach kws X.env)).all (·.1.isSome) = true := by rfl) (hks : (backToKw pos (keywordEach kws X.env)).filterMap (·.1) = ks := by rfl)
    (hdb : (x == ("__debug__" : Str)) = false := by decide) (he : starEach (e :: es) X.env = (false, eval e X.env) :: starEach es X.env := by rfl)
    (hpl : ((backTo pos (starEach (e :: es) X.env)).any (·.1) || (backToKw pos (keywordEach kws X.env)).any (·.1.isNone)) = false := by rfl) :
    PE X (.Call (.Name x p) (e :: es) kws pos) (lowE X.K (dCallK S js t tk)) := by
  refine ⟨fun pins s σ H Kc I ⟨Z, G, δ, Q, ss, q, kc⟩ => wpAny_Call_Name_kw (ld_glob I hg hm ?_ hdb)⟩
  refine PySem.W.callWith_KW (h₀ := X.base) I.ok.mod.kin hk hall (thn (ha.run pos pins s σ H (fun vs H1 => ∃ ds G1, ds.length = n ∧ Ext G H G1 H1 ∧ Sim ⟨X.K, Z⟩ G1 H1 ∧ RpL ⟨X.K, Z⟩ G1 H1 ds vs ∧ tk δ G1 fun es G2 => S (pick js (ds ++ es)) G2 Q) I
    ⟨Z, G, δ, _, ss, q, fun ds vs G1 H1 hl e1 s1 r1 q1 => ⟨ds, G1, hl, e1, s1, r1, q1⟩⟩) fun us s1 ⟨vs, H1, I1, rv, ds, G1, q0, e1, s1', r1, q1⟩ => ?_) hpl he
  refine thn (hkw.run pos pins s1 σ H1 (fun zs H2 => ∃ ds' G2, ds'.length = ks.length ∧ Ext G1 H1 G2 H2 ∧ Sim ⟨X.K, Z⟩ G2 H2 ∧ RpL ⟨X.K, Z⟩ G2 H2 ds' zs ∧ S (pick js (ds ++ ds')) G2 Q) I1
    ⟨Z, G1, δ, _, ss.mono e1 s1', q1, fun ds' vs' G2 H2 hl e2 s2 r2 q2 => ⟨ds', G2, hl, e2, s2, r2, q2⟩⟩) fun ws s2 ⟨zs, H2, I2, rz, ds', G2, q0', e2, s2', r2, q2⟩ => ⟨I2.kIn, ?_⟩
  rw [hks]
  have b := hb.to s2 us ws (by rw [← rv.length, r1.size]; exact q0) (by rw [← rz.length, r2.size]; exact q0')
  exact run_fnA (args := ⟨us, ks.zip ws⟩) F hr hga I2 b (pick_vals (rv.append rz) js) (pick_rp ((r1.mono e2).append r2) js) s2' q2 fun d v G' H' e s r q => kc d v G' H' ((e1.trans e2).trans e) s r q
end
end VL
set_option Elab.async false
set_option linter.all false
set_option maxRecDepth 100000
set_option maxHeartbeats 4000000
/-! Keyword calls without positional arguments, methods, instances, fields. -/
namespace VL
open PySem L2

section
variable {X : Cx} {k : Nat} {f C : Addr} {fd : FuncData} {ps : List Str} {S : SpD} {x m : Str} {p pos apos : Pos} {e o value : Expr} {es : List Expr} {ta tv : DE} {t tk : DA}
theorem q_callK0 (js : List Nat) {kws : List Keyword} {ks : List Str} (F : FnA X.prog X.w X.K X.mg X.base k f fd ps S) (hr : Room k X.A) (hga : GA X.A) (hg : Gl X x) (hm : X.mg x = some (.ref f)) (hk : PySem.W.keepIn X.K (.ref f) = true) (hb : KB fd ps ks 0 js) (hkw : PK X kws (lowAn X.K ks.length tk))
    (hall : (backToKw pos (keywordEach kws X.env)).all (·.1.isSome) = true := by rfl) (hks : (backToKw pos (keywordEach kws X.env)).filterMap (·.1) = ks := by rfl) (hdb : (x == ("__debug__" : Str)) = false := by decide)
    (hpl : ((backTo pos (starEach [] X.env)).any (·.1) || (backToKw pos (keywordEach kws X.env)).any (·.1.isNone)) = false := by rfl) :
    PE X (.Call (.Name x p) [] kws pos) (lowE X.K (dCallK S js dNil tk)) := by
  refine ⟨fun pins s σ H Kc I ⟨Z, G, δ, Q, ss, q, kc⟩ => wpAny_Call_Name_kw (ld_glob I hg hm ?_ hdb)⟩
  refine PySem.W.callWith_KW0 (h₀ := X.base) I.ok.mod.kin hk hall ?_ hpl
  refine thn (hkw.run pos pins s σ H (fun zs H2 => ∃ ds' G2, ds'.length = ks.length ∧ Ext G H G2 H2 ∧ Sim ⟨X.K, Z⟩ G2 H2 ∧ RpL ⟨X.K, Z⟩ G2 H2 ds' zs ∧ S (pick js ([] ++ ds')) G2 Q) I
    ⟨Z, G, δ, _, ss, q, fun ds' vs' G2 H2 hl e2 s2 r2 q2 => ⟨ds', G2, hl, e2, s2, r2, q2⟩⟩) fun ws s2 ⟨zs, H2, I2, rz, ds', G2, q0', e2, s2', r2, q2⟩ => ⟨I2.kIn, ?_⟩
  rw [hks]
  have b := hb.to s2 [] ws rfl (by rw [← rz.length, r2.size]; exact q0')
  exact run_fnA (args := ⟨[], ks.zip ws⟩) F hr hga I2 b (pick_vals rz js) (pick_rp r2 js) s2' q2 fun d v G' H' e s r q => kc d v G' H' (e2.trans e) s r q

/-! ### instances -/
/-- e.f of an instance of the class at C -/
def dFld (C : Addr) (f : Str) (te : DE) : DE := fun δ G Q => te δ G fun x G1 => match x with
  | .ref a => match G1 a with
    | some (.ins C' fs) => C' = C ∧ match fs.lookup f with
      | some d => Q d G1
      | none => False
    | _ => False
  | _ => False
theorem q_fld {f : Str} (he : PE X e (lowE X.K ta)) (c : Cls X.K C) (n : NoAttr X.K C f) (hb : attributeBase e f X.env (eval e X.env) = eval e X.env := by rfl) : PE X (.Attribute e f pos) (lowE X.K (dFld C f ta)) :=
  qe_of (pe_fld he hb) fun σ H Z G δ Q Kc ss q k => ⟨Z, G, δ, _, ss, q, fun d v G1 H1 e1 s1 r1 q1 => by
    cases r1 with
    | ref a =>
      simp only at q1
      split at q1
      · rename_i C' fs e
        obtain ⟨rfl, q1⟩ := q1
        split at q1
        · rename_i d el
          obtain ⟨dx, xs, h1, r⟩ := s1.at_ a _ e
          rcases r.lookup f with ⟨z, _⟩ | ⟨d', v', z1, z2, rd⟩
          · rw [el] at z; cases z
          · rw [el] at z1
            cases z1
            exact ⟨a, _, dx, xs, v', rfl, h1, c, n, z2, k _ _ G1 H1 e1 s1 rd q1⟩
        · exact q1.elim
      · exact q1.elim
    | _ => exact q1.elim⟩
/-- a field put by value -/
def putD (f : Str) (d : D) : List (Str × D) → List (Str × D)
  | [] => [(f, d)]
  | (g, e) :: r => if g = f then (g, d) :: r else (g, e) :: putD f d r
theorem putF_cons (f g : Str) (v w : V) (r : List (Str × V)) : putF f v ((g, w) :: r) = if g = f then (g, v) :: r else (g, w) :: putF f v r := rfl
theorem putF_nil (f : Str) (v : V) : putF f v [] = [(f, v)] := rfl
theorem put_rp {B : Bd} {G : Hd} {H : Hp} {f : Str} {d : D} {v : V} (rd : Rp B G H d v) : ∀ {ds : List (Str × D)} {vs : List (Str × V)}, RpF B G H ds vs → RpF B G H (putD f d ds) (putF f v vs)
  | _, _, .nil => .cons rd .nil
  | _, _, .cons (k := g) a b => by
    unfold putD
    rw [putF_cons]
    by_cases h : g = f
    · rw [if_pos h, if_pos h]; exact .cons rd b
    · rw [if_neg h, if_neg h]; exact .cons a (put_rp rd b)
/-- e.f = value -/
def dSetFld (C : Addr) (f : Str) (te tv : DE) : DS := fun E δ G => tv δ G fun d G1 => te δ G1 fun x G2 => match x with
  | .ref a => match G2 a with
    | some (.ins C' fs) => C' = C ∧ fs.length < 1000 ∧ E.nx δ (updD G2 a (.ins C (putD f d fs)))
    | _ => False
  | _ => False
theorem qs_fld {f : Str} {pos' : Pos} (ha : PE X o (lowE X.K ta)) (hv : PE X value (lowE X.K tv)) (c : Cls X.K C) (n : NoAttr X.K C f) (hs : swapsWith value (some (.Attribute o f pos')) pos.line X.env = pure false := by rfl) :
    PS X (.Assign [.Attribute o f pos'] value pos) (lowS X.K (dSetFld C f ta tv)) :=
  qs_of (ps_fld ha hv hs) fun D' σ H Z G δ E ss q l => ⟨Z, G, δ, _, ss, q, fun d v G1 H1 e1 s1 r1 q1 => ⟨Z, G1, δ, _, ss.mono e1 s1, q1, fun d2 v2 G2 H2 e2 s2 r2 q2 => by
    cases r2 with
    | ref a =>
      simp only at q2
      split at q2
      · rename_i C' fs e
        obtain ⟨rfl, hl, q2⟩ := q2
        obtain ⟨dx, xs, h1, r⟩ := s2.at_ a _ e
        have rd := r1.mono e2
        refine ⟨a, _, dx, xs, rfl, h1, c, n, by rw [← r.length]; exact hl, ?_⟩
        have sw : Sim ⟨X.K, Z⟩ (updD G2 a (.ins C' (putD f d fs))) (upd H2 a (.ins C' dx (putF f v xs))) := s2.wrote e fun ex => ⟨dx, _, upd_same, (put_rp rd r).mono ex⟩
        have ex : Ext G H (updD G2 a (.ins C' (putD f d fs))) (upd H2 a (.ins C' dx (putF f v xs))) := (e1.trans e2).trans (Ext.wrote e)
        exact l.nx δ σ _ _ ex (ss.mono ex sw) q2
      · exact q2.elim
    | _ => exact q2.elim⟩⟩
/-- C(..) -/
def dMake (C : Addr) (S : SpD) (t : DA) : DE := fun δ G Q => t δ G fun ds G1 => ∀ a, G1 a = none → S (.ref a :: ds) (updD G1 a (.ins C [])) fun d G2 => d = .non ∧ Q (.ref a) G2
theorem run_makeA {pins : List (Addr × Obj)} {σ : St} {H : Hp} {s : Shared} {Kc : VK} {us : List Value} {vs : List V} {Z : Addr → Prop} {ds : List D} {G : Hd} {Q : KD} (M : Mk X.K C f) (F : FnA X.prog X.w X.K X.mg X.base k f fd ps S) (hr : Room (k + 1) X.A) (hga : GA X.A) (hb : Binds X.K fd ps [])
    (I : Inv X pins σ H s) (rv : Vals vs us) (r : RpL ⟨X.K, Z⟩ G H ds vs) (ss : Sim ⟨X.K, Z⟩ G H) (h : ∀ a, G a = none → S (.ref a :: ds) (updD G a (.ins C [])) fun d G2 => d = .non ∧ Q (.ref a) G2)
    (kc : ∀ d v G' H', Ext G H G' H' → Sim ⟨X.K, Z⟩ G' H' → Rp ⟨X.K, Z⟩ G' H' d v → Q d G' → Kc v H') : wpAny (model X.prog X.w) X.A (call (.ref C) us) (EP X pins σ Kc) X.xe s := by
  let n := s.heap.objs.size
  have h1 : H n = none := I.hok.fresh (Nat.le_refl _)
  have h2 : H (n + 1) = none := I.hok.fresh (Nat.le_succ _)
  have ne : n + 1 ≠ n := Nat.succ_ne_self n
  have h3 : upd H n (.own (n + 1)) (n + 1) = none := by rw [upd_ne ne]; exact h2
  have e1 : Ext G H G (upd H n (.own (n + 1))) := Ext.laid h1
  have s1 : Sim ⟨X.K, Z⟩ G (upd H n (.own (n + 1))) := ss.laid h1
  have e2 : Ext G H (updD G (n + 1) (.ins C [])) (upd (upd H n (.own (n + 1))) (n + 1) (.ins C n [])) := e1.trans (Ext.laidT h3)
  have s2 : Sim ⟨X.K, Z⟩ (updD G (n + 1) (.ins C [])) (upd (upd H n (.own (n + 1))) (n + 1) (.ins C n [])) := s1.laidT h3 fun _ => ⟨n, [], upd_same, .nil⟩
  have I2 := Inv.made (C := C) I
  have q := h (n + 1) (ss.free h2)
  have rr : RpL ⟨X.K, Z⟩ (updD G (n + 1) (.ins C [])) (upd (upd H n (.own (n + 1))) (n + 1) (.ins C n [])) (.ref (n + 1) :: ds) (.ref (n + 1) :: vs) := .cons (.ref _) (r.mono e2)
  have rvv : Vals (V.ref (n + 1) :: vs) (Value.ref (n + 1) :: us) := .cons rfl rv
  have hl : ((Value.ref (n + 1) :: us) ++ []).length = ps.length := by
    rw [List.append_nil, ← rvv.length, rr.size]
    exact F.len _ _ _ q
  have b := hb _ (Value.ref (n + 1) :: us) I2.kIn hl
  rw [List.append_nil] at b
  refine wpAny_call (make_map (f := f) I.kIn M.makes M.init (beq_iff_eq.mp M.fn) (codeAny_mono (F.run _ X.stack _ _ ⟨Value.ref (n + 1) :: us, []⟩ (Value.ref (n + 1) :: us) _ Z _ _ _ (hr.make C us []) (hga.make C us []) (I2.env0.make C us []) b rvv rr s2 q) fun r s' hq => ?_))
  cases r with
  | error e => exact hq.elim
  | ok fl =>
    cases fl with
    | ret u =>
      obtain ⟨v, H', I3, rv3, d, G', e3, s3, r3, rfl, q3⟩ := I2.after hq
      cases r3
      exact ⟨rv3, .ref (n + 1), H', I3, rfl, kc _ _ G' H' (e2.trans e3) s3 (.ref _) q3⟩
    | next => exact False.elim hq
    | brk => exact False.elim hq
    | cont => exact False.elim hq
theorem q_make (M : Mk X.K C f) (F : FnA X.prog X.w X.K X.mg X.base k f fd ps S) (hr : Room (k + 1) X.A) (hga : GA X.A) (hg : Gl X x) (hm : X.mg x = some (.ref C)) (hb : Binds X.K fd ps []) (ha : PA X (e :: es) (lowA X.K t))
    (hdb : (x == ("__debug__" : Str)) = false := by decide) (he : starEach (e :: es) X.env = (false, eval e X.env) :: starEach es X.env := by rfl) (hpl : (backTo pos (starEach es X.env)).any (·.1) = false := by rfl) : PE X (.Call (.Name x p) (e :: es) [] pos) (lowE X.K (dMake C S t)) := by
  refine ⟨fun pins s σ H Kc I ⟨Z, G, δ, Q, ss, q, kc⟩ => wpAny_Call_Name_kw (ld_glob I hg hm ?_ hdb)⟩
  refine PySem.W.callWith_K (h₀ := X.base) I.ok.mod.kin M.kp (thn (ha.run pos pins s σ H (fun vs H1 => ∃ ds G1, Ext G H G1 H1 ∧ Sim ⟨X.K, Z⟩ G1 H1 ∧ RpL ⟨X.K, Z⟩ G1 H1 ds vs ∧ ∀ a, G1 a = none → S (.ref a :: ds) (updD G1 a (.ins C [])) fun d G2 => d = .non ∧ Q (.ref a) G2) I
    ⟨Z, G, δ, _, ss, q, fun ds vs G1 H1 e1 s1 r1 q1 => ⟨ds, G1, e1, s1, r1, q1⟩⟩) fun us s1 ⟨vs, H1, I1, rv, ds, G1, e1, s1', r1, q1⟩ => ⟨I1.kIn, ?_⟩) he hpl
  exact run_makeA M F hr hga hb I1 rv r1 s1' q1 fun d v G' H' e s r q => kc d v G' H' (e1.trans e) s r q
/-- o.m(..) of an instance of the class at C -/
def dMeth (C : Addr) (m : Str) (S : SpD) (te : DE) (t : DA) : DE := fun δ G Q => te δ G fun x G1 => match x with
  | .ref a => match G1 a with
    | some (.ins C' fs) => C' = C ∧ fs.lookup m = none ∧ t δ G1 fun ds G2 => S (.ref a :: ds) G2 Q
    | _ => False
  | _ => False
theorem q_meth {pl : Sem Bool} (he : PE X o (lowE X.K ta)) (c : Cls X.K C) (hm : Meth X.K C m f) (F : FnA X.prog X.w X.K X.mg X.base k f fd ps S) (hr : Room k X.A) (hga : GA X.A) (hb : Binds X.K fd ps []) (ha : PA X (e :: es) (lowA X.K t))
    (hst : starEach (e :: es) X.env = (false, eval e X.env) :: starEach es X.env := by rfl) (hpl : (backTo pos (starEach es X.env)).any (·.1) = false := by rfl)
    (ht : eval (.Call (.Attribute o m apos) (e :: es) [] pos) X.env = (do
      let ov ← eval o X.env
      standAt apos.atName
      let (f, first) ← holding [ov] (getMethod ov m pl)
      callWith pos f first (backTo pos (starEach (e :: es) X.env)) (backToKw pos (keywordEach [] X.env))) := by rfl) :
    PE X (.Call (.Attribute o m apos) (e :: es) [] pos) (lowE X.K (dMeth C m S ta t)) := by
  refine ⟨fun pins s σ H Kc I ⟨Z, G, δ, Q, ss, q, kc⟩ => ?_⟩
  refine PySem.W.methodCall_KW (pl := pl) (thn (he.run pins s σ H (fun v H1 => ∃ a G1 dx xs fs, v = .ref a ∧ Ext G H G1 H1 ∧ Sim ⟨X.K, Z⟩ G1 H1 ∧ H1 a = some (.ins C dx xs) ∧ RpF ⟨X.K, Z⟩ G1 H1 fs xs ∧ fs.lookup m = none ∧ t δ G1 fun ds G2 => S (.ref a :: ds) G2 Q) I
    ⟨Z, G, δ, _, ss, q, fun d v G1 H1 e1 s1 r1 q1 => ?_⟩) fun u s1 ⟨v, H1, I1, rx, a, G1, dx, xs, fs, ev, e1, s1', h1, rf, hl, q1⟩ => ?_) ht
  · cases r1 with
    | ref a =>
      simp only at q1
      split at q1
      · rename_i C' fs e
        obtain ⟨rfl, hl, q1⟩ := q1
        obtain ⟨dx, xs, h1, r⟩ := s1.at_ a _ e
        exact ⟨a, G1, dx, xs, fs, rfl, e1, s1, h1, r, hl, q1⟩
      · exact q1.elim
    | _ => exact q1.elim
  · subst ev
    obtain rfl : u = Value.ref a := rx
    have hl' : xs.lookup m = none := by
      rcases rf.lookup m with ⟨_, z⟩ | ⟨d, v, z, _⟩
      · exact z
      · rw [hl] at z; cases z
    refine getmeth_ok I1 h1 c hm hl' ?_
    refine PySem.W.callWith_K (first := [.ref a]) (h₀ := X.base) I.ok.mod.kin hm.kp (thn (ha.run pos pins s1 σ H1 (fun vs H2 => ∃ ds G2, Ext G1 H1 G2 H2 ∧ Sim ⟨X.K, Z⟩ G2 H2 ∧ RpL ⟨X.K, Z⟩ G2 H2 ds vs ∧ S (.ref a :: ds) G2 Q) I1
      ⟨Z, G1, δ, _, ss.mono e1 s1', q1, fun ds vs G2 H2 e2 s2 r2 q2 => ⟨ds, G2, e2, s2, r2, q2⟩⟩) fun us s2 ⟨vs, H2, I2, rv, ds, G2, e2, s2', r2, q2⟩ => ⟨I2.kIn, ?_⟩) hst hpl
    have rvv : Vals (V.ref a :: vs) (Value.ref a :: us) := .cons rfl rv
    have hlen : ((Value.ref a :: us) ++ []).length = ps.length := by
      rw [List.append_nil, ← rvv.length, List.length_cons, r2.size]
      exact F.len _ _ _ q2
    have b := hb s2 (Value.ref a :: us) I2.kIn hlen
    rw [List.append_nil] at b
    exact run_fnA (args := ⟨.ref a :: us, []⟩) F hr hga I2 b rvv (.cons (.ref a) r2) s2' q2 fun d v G' H' e s r q => kc d v G' H' ((e1.trans e2).trans e) s r q
theorem q_meth0 {pl : Sem Bool} (he : PE X o (lowE X.K ta)) (c : Cls X.K C) (hm : Meth X.K C m f) (F : FnA X.prog X.w X.K X.mg X.base k f fd ps S) (hr : Room k X.A) (hga : GA X.A) (hb : Binds X.K fd ps [])
    (ht : eval (.Call (.Attribute o m apos) [] [] pos) X.env = (do
      let ov ← eval o X.env
      standAt apos.atName
      let (f, first) ← holding [ov] (getMethod ov m pl)
      callWith pos f first (backTo pos (starEach [] X.env)) (backToKw pos (keywordEach [] X.env))) := by rfl) :
    PE X (.Call (.Attribute o m apos) [] [] pos) (lowE X.K (dMeth C m S ta dNil)) := by
  refine ⟨fun pins s σ H Kc I ⟨Z, G, δ, Q, ss, q, kc⟩ => ?_⟩
  refine PySem.W.methodCall_KW (pl := pl) (thn (he.run pins s σ H (fun v H1 => ∃ a G1 dx xs fs, v = .ref a ∧ Ext G H G1 H1 ∧ Sim ⟨X.K, Z⟩ G1 H1 ∧ H1 a = some (.ins C dx xs) ∧ RpF ⟨X.K, Z⟩ G1 H1 fs xs ∧ fs.lookup m = none ∧ S [.ref a] G1 Q) I
    ⟨Z, G, δ, _, ss, q, fun d v G1 H1 e1 s1 r1 q1 => ?_⟩) fun u s1 ⟨v, H1, I1, rx, a, G1, dx, xs, fs, ev, e1, s1', h1, rf, hl, q1⟩ => ?_) ht
  · cases r1 with
    | ref a =>
      simp only at q1
      split at q1
      · rename_i C' fs e
        obtain ⟨rfl, hl, q1⟩ := q1
        obtain ⟨dx, xs, h1, r⟩ := s1.at_ a _ e
        exact ⟨a, G1, dx, xs, fs, rfl, e1, s1, h1, r, hl, q1⟩
      · exact q1.elim
    | _ => exact q1.elim
  · subst ev
    obtain rfl : u = Value.ref a := rx
    have hl' : xs.lookup m = none := by
      rcases rf.lookup m with ⟨_, z⟩ | ⟨d, v, z, _⟩
      · exact z
      · rw [hl] at z; cases z
    refine getmeth_ok I1 h1 c hm hl' (PySem.W.callWith_K0 (first := [.ref a]) I1.kIn hm.kp ?_)
    have hlen : ([Value.ref a] ++ []).length = ps.length := F.len _ _ _ q1
    have b := hb s1 [Value.ref a] I1.kIn hlen
    exact run_fnA (args := ⟨[.ref a], []⟩) F hr hga I1 b (.cons (show RelV (V.ref a) (Value.ref a) from rfl) .nil) (.cons (.ref a) .nil) s1' q1 fun d v G' H' e s r q => kc d v G' H' (e1.trans e) s r q
end
end VL
set_option Elab.async false
set_option linter.all false
set_option maxRecDepth 100000
set_option maxHeartbeats 4000000
/-! enumerate and zip over lists and tuples, in any mix. -/
namespace VX
open PySem L2

/-- b: a list; otherwise a tuple -/
def SIt (b : Bool) (h : Heap) (it a : Addr) (i : Nat) : Prop := match b with
  | true => h.IsListIter it a i
  | false => h.IsTupleIter it a i
def Src (b : Bool) (h : Heap) (a : Addr) (items : Array Value) : Prop := match b with
  | true => h.IsList a items
  | false => h.IsTuple a items
def SqX (b : Bool) (K : PySem.W.Frag) (H : Hp) (a : Addr) (xs : List V) : Prop := match b with
  | true => SqL K H a xs
  | false => SqT K H a xs
def itO (b : Bool) (a : Addr) : Obj := match b with
  | true => { cls := .type "list_iterator", data := .fields #[.ref a, .int 0 0] }
  | false => { cls := .type "tuple_iterator", data := .fields #[.ref a, .int 0 0] }
theorem draws {prog : Program} {w : World} {A : Around} (b : Bool) (hh : A.handled = none) (it a : Addr) (hne : a ≠ it) (items : Array Value) :
    Draws prog w A it [it, a] items.size (fun i v => items[i]? = some v) (fun i h => SIt b h it a i ∧ Src b h a items) := by
  cases b with
  | true => exact Draws.list hh it a hne items
  | false => exact Draws.tuple hh it a hne items
theorem begins (b : Bool) (a : Addr) (items : Array Value) : Begins (.ref a) (itO b a) fun h => Src b h a items := by
  cases b with
  | true => exact begins_list a items
  | false => exact begins_tuple a items
theorem SIt.new {b : Bool} {h : Heap} {it a : Addr} (e : h.get? it = some (itO b a)) : SIt b h it a 0 := by
  cases b with
  | true => exact ⟨_, e, rfl, rfl⟩
  | false => exact ⟨_, e, rfl, rfl⟩
theorem SIt.at_ {b : Bool} {h h' : Heap} {it a : Addr} {i : Nat} (x : SIt b h it a i) (k : ∀ o, h.get? it = some o → h'.get? it = some o) : SIt b h' it a i := by
  cases b with
  | true => exact Heap.IsListIter.at x k
  | false => exact Heap.IsTupleIter.at x k
theorem SIt.ob {b : Bool} {h : Heap} {it a : Addr} {i : Nat} (x : SIt b h it a i) : ∃ o, h.get? it = some o ∧ ∀ v, o.data ≠ .cell v := by
  cases b with
  | true => obtain ⟨o, e, _, d⟩ := x; exact ⟨o, e, fun v z => by rw [d] at z; cases z⟩
  | false => obtain ⟨o, e, _, d⟩ := x; exact ⟨o, e, fun v z => by rw [d] at z; cases z⟩
section
variable {X : Cx} {pins : List (Addr × Obj)} {σ : L2.St} {H : Hp} {s : Shared} {a : Addr} {xs ys : List V} {b : Bool}
theorem seqX (I : Inv X pins σ H s) (h : SqX b X.K H a xs) : ∃ its : List Value, Vals xs its ∧ Src b s.heap a its.toArray ∧ xs.length ≤ sizeLine := by
  cases b with
  | true => obtain ⟨its, r, p, z⟩ := I.list h; exact ⟨its, r, p.isList, z⟩
  | false => obtain ⟨its, r, p, z⟩ := I.tuple h; exact ⟨its, r, p, z⟩
theorem seqX_inj (I : Inv X pins σ H s) (h : SqX b X.K H a xs) (h' : SqX b X.K H a ys) : xs = ys := by
  cases b with
  | true => exact I.list_inj h h'
  | false => exact I.tuple_inj h h'
theorem Src.lt {h : Heap} {items : Array Value} (x : Src b h a items) : a < h.objs.size := by
  cases b with
  | true => obtain ⟨o, e, _⟩ := x; exact Heap.lt_size e
  | false => obtain ⟨o, e, _⟩ := x; exact Heap.lt_size e
end

/-! ### enumerate -/
/-- enumerate(v) of one argument -/
theorem meets_enum1 {v : Value} {o : Obj} {H : Heap → Prop} (B : Begins v o H) :
    Meets (Builtin.«enumerate.__new__» ⟨[.type "enumerate", v], []⟩) (fun _ R s => H s.heap ∧
      R (.ok (.ret (.ref (s.heap.push o).objs.size))) { s with heap := (s.heap.push o).push { cls := .type "enumerate", data := .fields #[.none, .bool false, .ref s.heap.objs.size, rawInt 0, .none, .none] } }) :=
  .of_wp fun prog w A R s hyp => by
    obtain ⟨hp, g, d, tk, os⟩ := s
    obtain ⟨h1, fin⟩ := hyp
    have subE := sub_enumerate
    have itv : ∀ {A' : Around} {E : Value → Shared → Prop} {Q : Value → Shared → Prop}, Q (.ref hp.objs.size) ⟨hp.push o, g, d, tk, os⟩ → wpAny (model prog w) A' (pyIter v) Q E ⟨hp, g, d, tk, os⟩ :=
      fun z => B.iter prog w _ _ ⟨hp, g, d, tk, os⟩ _ h1 z
    wp_walk using itv
    refine wpAny_stack_any fun st => wpAny_pure ?_
    split
    · rename_i c _ _ _ _ _
      cases (c == Value.type "enumerate") <;> (wp_walk using itv; exact ⟨_, rfl, fin⟩)
    · wp_walk using itv
      exact ⟨_, rfl, fin⟩
theorem call_enum1 {prog : Program} {w : World} {A : Around} {E : Value → Shared → Prop} {s : Shared} {v : Value} {o : Obj} {H : Heap → Prop} {Q : Value → Shared → Prop} (B : Begins v o H) (h1 : H s.heap)
    (h : ∀ h', IsEnum h' (s.heap.objs.size + 1) s.heap.objs.size 0 .none → h'.get? s.heap.objs.size = some o → (∀ b u, s.heap.get? b = some u → h'.get? b = some u) → Q (.ref (s.heap.objs.size + 1)) { s with heap := h' }) :
    wpAny (model prog w) A (call (.type "enumerate") [v]) Q E s := by
  refine callType_new F.called_enumerate (by decide) (F.typeCall_enumerate_1 _) (F.newCall_enumerate_1 _) (fun obj => F.args_object_init_2 obj _) F.entry_enumerate_new (meets_enum1 B) ⟨h1, ?_⟩
  have hz : (s.heap.push o).objs.size = s.heap.objs.size + 1 := Heap.size_push ..
  have he : IsEnum ((s.heap.push o).push { cls := .type "enumerate", data := .fields #[.none, .bool false, .ref s.heap.objs.size, rawInt 0, .none, .none] }) (s.heap.objs.size + 1) s.heap.objs.size 0 .none := by
    have q := Heap.get?_push_size (s.heap.push o) (o := { cls := .type "enumerate", data := .fields #[.none, .bool false, .ref s.heap.objs.size, rawInt 0, .none, .none] }) rfl
    rw [hz] at q
    exact q
  show _ ∧ _
  rw [hz]
  exact ⟨⟨_, he, rfl⟩, h _ he (Heap.get?_push_of_some _ (Heap.get?_push_size _ B.free)) fun b u x => Heap.get?_push_of_some _ (Heap.get?_push_of_some _ x)⟩

/-- pairs of a count and an item of a list or tuple -/
def IteX (b : Bool) (K : PySem.W.Frag) (a : Addr) : It :=
  ⟨fun i H => ∃ (xs : List V) (x : V), SqX b K H a xs ∧ xs[i]? = some x, fun i H v H' => ∃ T x, v = .ref T ∧ H T = none ∧ H' = upd H T (.tup [.int (i : Nat), x]) ∧ ∀ xs, SqX b K H a xs → xs[i]? = some x, fun i H => ∃ xs : List V, SqX b K H a xs ∧ xs.length = i⟩
theorem turn_enumX {P : Program} {w : World} {K : PySem.W.Frag} {elts : List Expr} {kk : Nat} {tpos : Pos} (b : Bool) (a e it : Addr) (hei : e ≠ it) (hai : a ≠ it) (hae : e ≠ a) :
    Turn P w K (.Tuple elts kk tpos) (IteX b K a) [e, it] e (fun i h => (∃ old, IsEnum h e it (0 + ((i : Nat) : Int)) old) ∧ SIt b h it a i) where
  mem := List.mem_cons_self
  obj := fun i h st c hc => by
    obtain ⟨⟨old, he⟩, hi⟩ := st
    rcases List.mem_cons.mp hc with z | z
    · rw [z]; exact ⟨_, he, fun v q => nomatch q⟩
    · rw [List.mem_singleton.mp z]; exact hi.ob
  keep := fun i h h' st k => let ⟨⟨old, he⟩, hi⟩ := st; ⟨⟨old, k e (by simp) _ he⟩, hi.at_ fun o q => k it (by simp) o q⟩
  item := by
    intro X hP hw hK hc i pins s σ H E I hf st hg
    subst hP hw hK
    obtain ⟨xs, x, hq, hx⟩ := hg
    obtain ⟨its, rv, src, hz⟩ := seqX I hq
    obtain ⟨u, hu, ru⟩ := rv.get hx
    have hlt : i < its.toArray.size := by simpa using (List.getElem?_eq_some_iff.mp hu).1
    have W := WalksT.enumFrom (A := X.A) 0 (draws (prog := X.prog) (w := X.w) (A := X.A.in1) b (I.ok.hd hc) it a hai its.toArray) e hei (by simp [hei, hae]) (by simp)
    refine W.item i s _ E hlt ⟨st.1, st.2, src⟩ fun T vals h' tk pt hT isT mid keep => ⟨_, rfl, W.go elts kk tpos i T _ _ E mid fun h'' st'' keep'' => ?_⟩
    obtain ⟨t, y, hy, rfl⟩ := pt
    have ey : y = u := by
      have h1 : its.toArray[i]? = some u := by simpa using hu
      rw [h1] at hy
      exact (Option.some.inj hy).symm
    subst ey
    have nT : T ∉ [e, it] := W.apart i T h' mid
    obtain ⟨oT, eT, cT, nn, dT⟩ := isT
    have new : ObjOk X.prog X.w (upd H T (.tup [.int (i : Nat), x])) h'' T (.tup [.int (i : Nat), x]) :=
      ⟨by show 2 ≤ sizeLine; decide, [.int (0 + (i : Int)) t, y], .cons ⟨t, by rw [Int.zero_add]⟩ (.cons ru .nil), ⟨oT, keep'' T oT nT eT, cT, nn, dT⟩⟩
    have I1 : Inv X pins σ (upd H T (.tup [.int (i : Nat), x])) { s with heap := h'', toks := tk } :=
      I.turnedNew (ch := [e, it]) (fun c o hb q => keep'' c o hb (keep c o hb q)) hf hT new
    refine ⟨.ref T, _, I1, rfl, ⟨T, x, rfl, I.hok.fresh hT, rfl, fun l hl => by rw [seqX_inj I hl hq]; exact hx⟩, ⟨st''.1, st''.2.1⟩, fun c hcm => ?_⟩
    rw [upd_ne (show c ≠ T from fun z => nT (by rw [← z]; exact hcm))]
    exact (hf c hcm).1
  done := by
    intro X hP hw hK hc i pins s σ H E I hf st hg
    subst hP hw hK
    obtain ⟨xs, hq, hx⟩ := hg
    obtain ⟨its, rv, src, hz⟩ := seqX I hq
    have hl : its.toArray.size = i := by
      have := rv.length
      simp
      omega
    have W := WalksT.enumFrom (A := X.A) 0 (draws (prog := X.prog) (w := X.w) (A := X.A.in1) b (I.ok.hd hc) it a hai its.toArray) e hei (by simp [hei, hae]) (by simp)
    rw [hl] at W
    exact W.done s _ E ⟨st.1, st.2, src⟩ fun h' tk k => ⟨rfl, I.turnedL (ch := [e, it]) k hf⟩
  self := fun A i s Q E st h => let ⟨⟨_, he⟩, _⟩ := st; wpAny_pyIter_enum he h
def iEnumX (K : PySem.W.Frag) (ta : TA) : TI := fun σ H R => ta σ H fun vs H1 => ∃ b a xs, vs = [.ref a] ∧ SqX b K H1 a xs ∧ R (IteX b K a) H1
theorem pi_enumX {X : Cx} {e : Expr} {ta : TA} {p pos tpos : Pos} {elts : List Expr} {kk : Nat} (hg : Gl X "enumerate") (hm : X.mg "enumerate" = none) (ha : PA X [e] ta) (hs : starEach [e] X.env = [(false, eval e X.env)]) :
    PI X (.Tuple elts kk tpos) (.Call (.Name "enumerate" p) [e] [] pos) (iEnumX X.K ta) := by
  refine ⟨fun pins s σ H R I h => PyProof.Rows.Call_ (ld_blt I hg hm PyProof.Rows.boot_enumerate (PyProof.Rows.callWith_type1 (thn (ha.run pos pins s σ H _ I h) ?_) hs rfl))⟩
  rintro us s1 ⟨vs, H1, I1, r1, b, a, xs, rfl, hq, q⟩
  cases r1 with
  | cons r rr =>
    cases rr
    cases r
    obtain ⟨its, rv, src, hz⟩ := seqX I1 hq
    refine call_enum1 (begins b a its.toArray) src fun h' he hit hk => wpAny_pyIter_enum he ?_
    have la := src.lt
    have n1 : s1.heap.objs.size + 1 ≠ s1.heap.objs.size := Nat.succ_ne_self _
    refine ⟨s1.heap.objs.size + 1, [s1.heap.objs.size + 1, s1.heap.objs.size], _, _, H1, rfl, I1.kept (t' := s1.toks) hk, turn_enumX b a (s1.heap.objs.size + 1) s1.heap.objs.size n1 (Nat.ne_of_lt la) (Nat.ne_of_gt (Nat.lt_succ_of_lt la)), ⟨⟨.none, he⟩, SIt.new hit⟩, fun c hcm => ?_, q⟩
    have hle : s1.heap.objs.size ≤ c := by
      rcases List.mem_cons.mp hcm with z | z
      · rw [z]; exact Nat.le_succ _
      · rw [List.mem_singleton.mp z]; exact Nat.le_refl _
    exact I1.fpOk hle (I1.hok.fresh hle)

/-! ### zip -/
def ItzX (b b' : Bool) (K : PySem.W.Frag) (a a' : Addr) : It :=
  ⟨fun i H => ∃ (xs ys : List V) (x y : V), SqX b K H a xs ∧ SqX b' K H a' ys ∧ xs[i]? = some x ∧ ys[i]? = some y,
    fun i H v H' => ∃ T x y, v = .ref T ∧ H T = none ∧ H' = upd H T (.tup [x, y]) ∧ (∀ xs, SqX b K H a xs → xs[i]? = some x) ∧ ∀ ys, SqX b' K H a' ys → ys[i]? = some y,
    fun i H => ∃ xs ys : List V, SqX b K H a xs ∧ SqX b' K H a' ys ∧ min xs.length ys.length = i⟩
theorem turn_zipX {P : Program} {w : World} {K : PySem.W.Frag} {elts : List Expr} {kk : Nat} {tpos : Pos} (b b' : Bool) {a a' z TI TO i1 i2 : Addr} (D : ZipSep2 z TI TO i1 i2 [i1, a] [i2, a']) (h1 : a ≠ i1) (h2 : a' ≠ i2) :
    Turn P w K (.Tuple elts kk tpos) (ItzX b b' K a a') [z, TI, TO, i1, i2] z (fun i h => IsZip h z TI TO .none ∧ IsTupOf2 h TI (.ref i1) (.ref i2) ∧ (∃ x y, IsTupOf2 h TO x y) ∧ SIt b h i1 a i ∧ SIt b' h i2 a' i) where
  mem := List.mem_cons_self
  obj := fun i h st c hc => by
    obtain ⟨hz, hTI, ⟨x, y, hTO⟩, s1, s2⟩ := st
    have hc' : c = z ∨ c = TI ∨ c = TO ∨ c = i1 ∨ c = i2 := by simpa using hc
    rcases hc' with q | q | q | q | q
    · rw [q]; exact ⟨_, hz, fun v q => nomatch q⟩
    · rw [q]; exact ⟨_, hTI, fun v q => nomatch q⟩
    · rw [q]; exact ⟨_, hTO, fun v q => nomatch q⟩
    · rw [q]; exact s1.ob
    · rw [q]; exact s2.ob
  keep := fun i h h' st k => by
    obtain ⟨hz, hTI, ⟨x, y, hTO⟩, s1, s2⟩ := st
    exact ⟨k z (by simp) _ hz, k TI (by simp) _ hTI, ⟨x, y, k TO (by simp) _ hTO⟩, s1.at_ fun o q => k i1 (by simp) o q, s2.at_ fun o q => k i2 (by simp) o q⟩
  item := by
    intro X hP hw hK hc i pins s σ H E I hf st hg
    subst hP hw hK
    obtain ⟨hzp, hTI, hTO, t1, t2⟩ := st
    obtain ⟨xs, ys, x, y, hqx, hqy, hx, hy⟩ := hg
    obtain ⟨its, rv, src, _⟩ := seqX I hqx
    obtain ⟨its', rv', src', _⟩ := seqX I hqy
    obtain ⟨u, hu, ru⟩ := rv.get hx
    obtain ⟨u', hu', ru'⟩ := rv'.get hy
    have l1 : i < its.toArray.size := by simpa using (List.getElem?_eq_some_iff.mp hu).1
    have l2 : i < its'.toArray.size := by simpa using (List.getElem?_eq_some_iff.mp hu').1
    have W := WalksT.zipD2 (A := X.A) D (draws (prog := X.prog) (w := X.w) (A := X.A.in1) b (I.ok.hd hc) i1 a h1 its.toArray) (draws (prog := X.prog) (w := X.w) (A := X.A.in1) b' (I.ok.hd hc) i2 a' h2 its'.toArray)
    refine W.item i s _ E (Nat.lt_min.mpr ⟨l1, l2⟩) ⟨hzp, hTI, hTO, ⟨t1, src⟩, ⟨t2, src'⟩⟩ fun T vals h' tk pt hT isT mid keep => ⟨_, rfl, W.go elts kk tpos i T _ _ E mid fun h'' st'' keep'' => ?_⟩
    obtain ⟨v1, v2, e1, e2, rfl⟩ := pt
    have q1 : v1 = u := by
      have q : its.toArray[i]? = some u := by simpa using hu
      rw [q] at e1
      exact (Option.some.inj e1).symm
    have q2 : v2 = u' := by
      have q : its'.toArray[i]? = some u' := by simpa using hu'
      rw [q] at e2
      exact (Option.some.inj e2).symm
    subst q1 q2
    have nT : T ∉ [z, TO, i1, i2] := W.apart i T h' mid
    obtain ⟨oT, eT, cT, nn, dT⟩ := isT
    have new : ObjOk X.prog X.w (upd H T (.tup [x, y])) h'' T (.tup [x, y]) :=
      ⟨by show 2 ≤ sizeLine; decide, [v1, v2], .cons ru (.cons ru' .nil), ⟨oT, keep'' T oT nT eT, cT, nn, dT⟩⟩
    have sub : ∀ {c : Addr}, c ∉ [z, TI, TO, i1, i2] → c ∉ [z, TO, i1, i2] := fun {c} n m => n (by
      have hm : c = z ∨ c = TO ∨ c = i1 ∨ c = i2 := by simpa using m
      rcases hm with q | q | q | q <;> simp [q])
    have I1 : Inv X pins σ (upd H T (.tup [x, y])) { s with heap := h'', toks := tk } :=
      I.turnedNew (ch := [z, TI, TO, i1, i2]) (fun c o hb q => keep'' c o (sub hb) (keep c o (sub hb) q)) hf hT new
    refine ⟨.ref T, _, I1, rfl, ⟨T, x, y, rfl, I.hok.fresh hT, rfl, fun l hl => by rw [seqX_inj I hl hqx]; exact hx, fun l hl => by rw [seqX_inj I hl hqy]; exact hy⟩, ⟨st''.1, st''.2.1, st''.2.2.1, st''.2.2.2.1.1, st''.2.2.2.2.1⟩, fun c hcm => ?_⟩
    have hlt : c < s.heap.objs.size := by
      have hc' : c = z ∨ c = TI ∨ c = TO ∨ c = i1 ∨ c = i2 := by simpa using hcm
      obtain ⟨x0, y0, hTO⟩ := hTO
      rcases hc' with q | q | q | q | q
      · rw [q]; exact Heap.lt_size hzp
      · rw [q]; exact Heap.lt_size hTI
      · rw [q]; exact Heap.lt_size hTO
      · rw [q]; obtain ⟨_, e, _⟩ := t1.ob; exact Heap.lt_size e
      · rw [q]; obtain ⟨_, e, _⟩ := t2.ob; exact Heap.lt_size e
    rw [upd_ne (Nat.ne_of_lt (Nat.lt_of_lt_of_le hlt hT))]
    exact (hf c hcm).1
  done := by
    intro X hP hw hK hc i pins s σ H E I hf st hg
    subst hP hw hK
    obtain ⟨hzp, hTI, hTO, t1, t2⟩ := st
    obtain ⟨xs, ys, hqx, hqy, hend⟩ := hg
    obtain ⟨its, rv, src, _⟩ := seqX I hqx
    obtain ⟨its', rv', src', _⟩ := seqX I hqy
    have hl : min its.toArray.size its'.toArray.size = i := by
      have z1 := rv.length
      have z2 := rv'.length
      simp only [List.size_toArray]
      omega
    have W := WalksT.zipD2 (A := X.A) D (draws (prog := X.prog) (w := X.w) (A := X.A.in1) b (I.ok.hd hc) i1 a h1 its.toArray) (draws (prog := X.prog) (w := X.w) (A := X.A.in1) b' (I.ok.hd hc) i2 a' h2 its'.toArray)
    rw [hl] at W
    refine W.done s _ E ⟨hzp, hTI, hTO, ⟨t1, src⟩, ⟨t2, src'⟩⟩ fun h' tk k => ⟨rfl, I.turnedL (ch := [z, TI, TO, i1, i2]) (fun c o hb q => k c o (fun m => hb ?_) q) hf⟩
    have hm : c = z ∨ c = TO ∨ c = i1 ∨ c = i2 := by simpa using m
    rcases hm with q | q | q | q <;> simp [q]
  self := fun A i s Q E st h => wpAny_pyIter_zip st.1 h
def iZipX (K : PySem.W.Frag) (ta : TA) : TI := fun σ H R => ta σ H fun vs H1 => ∃ b b' a a' xs ys, vs = [.ref a, .ref a'] ∧ SqX b K H1 a xs ∧ SqX b' K H1 a' ys ∧ R (ItzX b b' K a a') H1
theorem pi_zipX {X : Cx} {e e2 : Expr} {ta : TA} {p pos tpos : Pos} {elts : List Expr} {kk : Nat} (hg : Gl X "zip") (hm : X.mg "zip" = none) (ha : PA X [e, e2] ta) (hs : starEach [e, e2] X.env = (false, eval e X.env) :: starEach [e2] X.env := by rfl)
    (hpl : (backTo pos (starEach [e2] X.env)).any (·.1) = false := by rfl) : PI X (.Tuple elts kk tpos) (.Call (.Name "zip" p) [e, e2] [] pos) (iZipX X.K ta) := by
  refine ⟨fun pins s σ H R I h => PyProof.Rows.Call_ (ld_blt I hg hm PyProof.Rows.boot_zip (PyProof.Rows.callWith_type1 (thn (ha.run pos pins s σ H _ I h) ?_) hs hpl))⟩
  rintro us s1 ⟨vs, H1, I1, r1, b, b', a, a', xs, ys, rfl, hqx, hqy, q⟩
  cases r1 with
  | cons r rr =>
    cases rr with
    | cons r' rr =>
      cases rr
      cases r
      cases r'
      obtain ⟨its, rv, src, _⟩ := seqX I1 hqx
      obtain ⟨its', rv', src', _⟩ := seqX I1 hqy
      refine zip_begins2 (begins b a its.toArray) (begins b' a' its'.toArray) src src' fun h' hz hTI hTO o1 o2 hsz hk => wpAny_pyIter_zip hz ?_
      have la := src.lt
      have la' := src'.lt
      refine ⟨s1.heap.objs.size + 4, [s1.heap.objs.size + 4, s1.heap.objs.size + 2, s1.heap.objs.size + 3, s1.heap.objs.size, s1.heap.objs.size + 1], _, _, H1, rfl, I1.kept (t' := s1.toks) hk,
        turn_zipX b b' (zip_sep2 (fun c hc => by rw [List.mem_singleton.mp hc]; exact la) (fun c hc => by rw [List.mem_singleton.mp hc]; exact la')) (Nat.ne_of_lt la) (Nat.ne_of_lt (Nat.lt_succ_of_lt la')), ⟨hz, hTI, ⟨_, _, hTO⟩, SIt.new o1, SIt.new o2⟩, fun c hcm => ?_, q⟩
      have hc' : c = s1.heap.objs.size + 4 ∨ c = s1.heap.objs.size + 2 ∨ c = s1.heap.objs.size + 3 ∨ c = s1.heap.objs.size ∨ c = s1.heap.objs.size + 1 := by simpa using hcm
      have hle : s1.heap.objs.size ≤ c := by
        rcases hc' with z | z | z | z | z <;> rw [z]
        · exact Nat.le_add_right _ _
        · exact Nat.le_add_right _ _
        · exact Nat.le_add_right _ _
        · exact Nat.le_refl _
        · exact Nat.le_add_right _ _
      exact I1.fpOk hle (I1.hok.fresh hle)
end VX
set_option Elab.async false
set_option linter.all false
set_option maxRecDepth 100000
set_option maxHeartbeats 4000000
/-! sum of a tuple, repr, remove by ==. -/
namespace VX
open PySem PyProof.Rows L2

theorem sum_tup {prog : Program} {w : World} {A : Around} {E : Value → Shared → Prop} {s : Shared} {t : Addr} {its : List Value} {ns : List Int} {Q : Value → Shared → Prop} (hh : A.handled = none) (ht : s.heap.IsTuple t its.toArray) (hi : IntsAre its ns)
    (h : ∀ h' tk u, (∀ b o, s.heap.get? b = some o → h'.get? b = some o) → Q (.int ns.sum u) { s with heap := h', toks := tk }) : wpAny (model prog w) A (call (.builtin "sum") [.ref t]) Q E s := by
  obtain ⟨xs, e⟩ := hi.allInts.items
  have hn : numsOf (intItems xs).toList = ns := by rw [← e]; exact hi.numsOf
  rw [nums_intItems] at hn
  have ht0 := ht
  rw [e] at ht0
  have hlt : t < s.heap.objs.size := Src.lt (b := false) ht
  refine call_sum_walkG (wpAny_pyIter_tuple ht ?_)
  have hk0 : ∀ b o, s.heap.get? b = some o → (s.heap.push (itO false t)).get? b = some o := fun b o q => Heap.get?_push_of_some _ q
  refine ⟨s.heap.objs.size, [s.heap.objs.size, t], [s.heap.objs.size], _, _, _, numAt xs, rfl, Walks.tuple (A := A.in1) hh s.heap.objs.size t (Nat.ne_of_lt hlt) (intItems xs), ⟨⟨_, Heap.get?_push_size _ rfl, rfl, rfl⟩, ?_⟩, fun b hb => ?_, (fun _ _ => intItems_at), fun h' tk u hk => ?_⟩
  · obtain ⟨o, h1, h2⟩ := ht0
    exact ⟨o, hk0 _ _ h1, h2⟩
  · have hz : (s.heap.push (itO false t)).objs.size = s.heap.objs.size + 1 := Heap.size_push ..
    show b < (s.heap.push (itO false t)).objs.size
    rw [hz]
    rcases List.mem_cons.mp hb with q | q
    · rw [q]; exact Nat.lt_succ_self _
    · rw [List.mem_singleton.mp q]; exact Nat.lt_succ_of_lt hlt
  · have q := h h' tk u fun b o z => hk b o (fun m => absurd (Heap.lt_size z) (by rw [List.mem_singleton.mp m]; exact Nat.lt_irrefl _)) (hk0 b o z)
    rw [preSum_eq, List.take_of_length_le (by simp [intItems]), hn]
    exact q
/-- sum(xs), a list or tuple of ints -/
def rSumX (K : PySem.W.Frag) : List V → Hp → VK → Prop := fun vs H Q => ∃ (b : Bool) (a : Addr) (ns : List Int), vs = [V.ref a] ∧ SqX b K H a (ns.map V.int) ∧ Q (.int ns.sum) H
theorem cr_sumX {X : Cx} (hc : X.calm = true) : CallR X (.builtin "sum") (rSumX X.K) := by
  intro pins s σ H vs us Q I r h
  obtain ⟨b, a, ns, rfl, hs, q⟩ := h
  cases b with
  | true => exact cr_sum hc pins s σ H _ us Q I r ⟨a, ns, rfl, hs, q⟩
  | false =>
    obtain ⟨its, rv, hl, _⟩ := I.tuple hs
    rw [Vals.ref1 r]
    exact sum_tup (I.ok.hd hc) hl rv.ints fun h' tk t' hk => ⟨.int _, H, I.kept hk, ⟨_, rfl⟩, q⟩

/-! ### repr -/
def rRepr (K : PySem.W.Frag) : List V → Hp → VK → Prop := fun xs H Q => ∃ x d, xs = [x] ∧ Dp K H x d ∧ d.showable = true ∧ d.hasDict = false ∧ d.depth ≤ 60 ∧ d.shown.length ≤ sizeLine ∧ Q (.str d.shown) H
theorem call_repr {X : Cx} (hg : X.A.guards = some []) (hu : X.A.units + 64 < cLine) : CallR X (.builtin "repr") (rRepr X.K) := by
  intro pins s σ H xs us Q I r h
  obtain ⟨x, d, rfl, dp, hs, hd, hdp, hz, q⟩ := h
  obtain ⟨u, rfl, ru⟩ := vals1 r
  obtain ⟨as, rr⟩ := Dp.reads I d x u dp ru
  cases rr with
  | none => exact PySem.P.repr_of_none ⟨.str _, H, I.tok _, ⟨_, rfl⟩, q⟩
  | bool b => exact PySem.P.repr_of_bool ⟨.str _, H, I.tok _, ⟨_, rfl⟩, q⟩
  | int i t => exact PySem.P.repr_of_int (by simpa [PyData.showable] using hs) ⟨.str _, H, I.tok _, ⟨_, rfl⟩, q⟩
  | str z t => exact PySem.P.repr_of_str ⟨.str _, H, I.tok _, ⟨_, rfl⟩, q⟩ hz
  | list h1 h2 h3 h4 => exact repr_of_reads' (.list h1 h2 h3 h4) hs (fun z => by rw [hd] at z; cases z) hg (by omega) (fun _ _ e => e) (fun h' t tk hk => ⟨.str _, H, I.kept hk, ⟨_, rfl⟩, q⟩) hz
  | tuple h1 h2 h3 h4 => exact repr_of_reads' (.tuple h1 h2 h3 h4) hs (fun z => by rw [hd] at z; cases z) hg (by omega) (fun _ _ e => e) (fun h' t tk hk => ⟨.str _, H, I.kept hk, ⟨_, rfl⟩, q⟩) hz
  | dict _ _ _ _ _ => simp [PyData.hasDict] at hd

/-! ### xs.remove(x), items by == -/
open AutoSeq1 (wpAny_loadPart') in
theorem remove_from (l : Addr) (items : Array Value) (n : Nat) (x : Value) (e : Value → Bool) (j : Nat) (hj : j < items.size) (hit : e items[j] = true) (hsz : items.size ≤ sizeLine) (k : Nat) :
    ∀ i : Nat, j - i = k → i ≤ j → (∀ m (hm : m < items.size), i ≤ m → m < j → e items[m] = false) → Meets (Builtin.«list.remove.loop» ⟨[.ref l, x, rawInt i], []⟩)
      (fun A R s => s.heap.get? l = some { cls := .type "list", dict := none, data := .seq items n, slots := #[] } ∧ (∀ y, y ∈ items → SeqAt.EqAt A.in1 s y x (e y)) ∧
        R (.ok (.ret .none)) { s with heap := s.heap.update l (Obj.mapSeq fun xs => xs.eraseIdxIfInBounds j) }) := by
  induction k with
  | zero =>
    intro i hk hij hno prog w A R s hyp
    obtain ⟨hp, g, d, tk, os⟩ := s
    obtain ⟨hl, he, fin⟩ := hyp
    have eij : i = j := by omega
    subst eij
    wp_walk using wpAny_loadPart' hl
    rw [show items[((i : Nat) : Int).toNat]? = some items[i] by simp [hj]]
    refine wpAny_bind (he _ (Array.getElem_mem hj) prog w _ _ ?_)
    rw [hit]
    have hless : (items.eraseIdxIfInBounds i).size ≤ sizeLine + 1 := Nat.le_trans (MeetsSeq.size_erased items _) (Nat.le_succ_of_le hsz)
    wp_walk using (wpAny_updateSeq hl rfl (hz := hsz) (_hz' := hless)), wpAny_loadPart' hl
    simpa using fin
  | succ k ih =>
    intro i hk hij hno prog w A R s hyp
    obtain ⟨hp, g, d, tk, os⟩ := s
    obtain ⟨hl, he, fin⟩ := hyp
    have hlt : i < items.size := by omega
    wp_walk using wpAny_loadPart' hl
    rw [show items[((i : Nat) : Int).toNat]? = some items[i] by simp [hlt]]
    refine wpAny_bind (he _ (Array.getElem_mem hlt) prog w _ _ ?_)
    rw [hno i hlt (Nat.le_refl _) (by omega)]
    wp_walk
    rw [show ((i : Int) + 1) = ((i + 1 : Nat) : Int) by push_cast; rfl]
    refine ⟨plainId_quiet MeetsSeq.plain_remove_loop _, codeAny_builtin MeetsSeq.entry_remove_loop ?_⟩
    rw [Around.under_plainId MeetsSeq.plain_remove_loop _]
    exact ih (i + 1) (by omega) (by omega) (fun m hm h1 h2 => hno m hm (by omega) h2) prog w A R _ ⟨hl, he, fin⟩
theorem remove_eq (l : Addr) (items : Array Value) (n : Nat) (x : Value) (e : Value → Bool) (j : Nat) (hj : j < items.size) (hit : e items[j] = true) (hno : ∀ m (hm : m < items.size), m < j → e items[m] = false) (hsz : items.size ≤ sizeLine) :
    Meets (Builtin.«list.remove» ⟨[.ref l, x], []⟩) (fun A R s => s.heap.get? l = some { cls := .type "list", dict := none, data := .seq items n, slots := #[] } ∧ (∀ y, y ∈ items → SeqAt.EqAt A.in1 s y x (e y)) ∧
      R (.ok (.ret .none)) { s with heap := s.heap.update l (Obj.mapSeq fun xs => xs.eraseIdxIfInBounds j) }) := by
  intro prog w A R s hyp
  obtain ⟨hp, g, d, tk, os⟩ := s
  obtain ⟨hl, he, fin⟩ := hyp
  wp_walk using AutoSeq1.wpAny_loadPart' hl
  refine ⟨plainId_quiet MeetsSeq.plain_remove_loop _, codeAny_builtin MeetsSeq.entry_remove_loop ?_⟩
  rw [Around.under_plainId MeetsSeq.plain_remove_loop _]
  exact remove_from l items n x e j hj hit hsz _ 0 rfl (Nat.zero_le _) (fun m hm _ h2 => hno m hm h2) prog w A R _ ⟨hl, he, fin⟩
def rRemD (K : PySem.W.Frag) : V → List V → Hp → VK → Prop := fun x xs H Q => ∃ (l : Addr) (y : V) (vs : List V) (d : PyData) (ds : List PyData) (j : Nat) (z : PyData), x = .ref l ∧ xs = [y] ∧ H l = some (.lst vs) ∧ DpAll K H vs ds ∧ Dp K H y d ∧
  SeqAt.shaped (.list ds) = true ∧ SeqAt.shaped d = true ∧ ds[j]? = some z ∧ PyData.eqv z d = true ∧ (∀ (m : Nat) (z' : PyData), m < j → ds[m]? = some z' → PyData.eqv z' d = false) ∧ Q .non (upd H l (.lst (vs.eraseIdx j)))
theorem mt_removeD {X : Cx} (hu : X.A.units + 70 < cLine) : MtM X "list.remove" (rRemD X.K) := by
  intro pins s σ H x xs v us Q I rx rxs h
  obtain ⟨l, y, vs, d, ds, j, z, rfl, rfl, hH, hds, hy, sl, sd, hz, hzj, hno, q⟩ := h
  cases rx
  obtain ⟨uy, rfl, ry⟩ := rxs.one
  obtain ⟨bs, r1⟩ := Dp.reads I d y uy hy ry
  obtain ⟨z0, its, n, r, hl, e⟩ := I.lstM hH
  obtain ⟨as, h4⟩ := Dp.readsAll I ds vs its hds r
  have hxs : PyData.canLayAll0 ds = true := by
    have q := SeqAt.canLay_of_shaped sl
    simpa [PyData.canLay0] using q
  have hroom : X.A.units + 1 + min (PyData.depthAll ds) d.depth < cLine := by
    have h1 := SeqAt.depth_of_shaped sd
    have h2 := Nat.min_le_right (PyData.depthAll ds) d.depth
    omega
  have hn : its.length = ds.length := SeqAt.ReadsAll.length ds its as h4
  have hmap : its.map (SeqAt.readOf s.heap) = ds := SeqAt.readsAll_map ds its as hxs h4
  have at_ : ∀ (m : Nat) (hm : m < its.toArray.size) (z' : PyData), ds[m]? = some z' → SeqAt.readOf s.heap its.toArray[m] = z' := by
    intro m hm z' hz'
    have hml : m < its.length := by simpa using hm
    rw [← hmap, List.getElem?_map, List.getElem?_eq_getElem hml] at hz'
    simpa using Option.some.inj hz'
  have hjd : j < ds.length := (List.getElem?_eq_some_iff.mp hz).1
  have hj : j < its.toArray.size := by simpa using (by omega : j < its.length)
  have hlen : vs.length ≤ sizeLine := z0
  refine call_meets PySem.F.slot_list_remove ⟨_, e, rfl⟩ PySem.F.entry_list_remove (PySem.F.args_list_remove_2 _ _)
    (remove_eq l its.toArray n uy (fun u => PyData.eqv (SeqAt.readOf s.heap u) d) j hj ?_ ?_ (by rw [List.size_toArray]; omega)) ⟨e, SeqAt.items_eqAt (A := X.A) (show ReadsAll s.heap its.toArray.toList ds as from h4) r1 hxs (SeqAt.canLay_of_shaped sd) hroom, ?_⟩
  · show PyData.eqv (SeqAt.readOf s.heap its.toArray[j]) d = true
    rw [at_ j hj z hz]
    exact hzj
  · intro m hm hmj
    have hmd : m < ds.length := by omega
    show PyData.eqv (SeqAt.readOf s.heap its.toArray[m]) d = false
    rw [at_ m hm _ (List.getElem?_eq_getElem hmd)]
    exact hno m _ hmj (List.getElem?_eq_getElem hmd)
  · refine ⟨.non, _, I.lset (its' := its.eraseIdx j) (t' := s.toks) hH e ?_ (r.eraseIdx j) ?_, rfl, q⟩
    · show its.toArray.eraseIdxIfInBounds j = (its.eraseIdx j).toArray
      rw [List.eraseIdxIfInBounds_toArray]
    · exact Nat.le_trans (List.length_eraseIdx_le ..) hlen
end VX
set_option Elab.async false
set_option linter.all false
set_option maxRecDepth 100000
set_option maxHeartbeats 4000000
/-! Built-in functions and methods by values. -/
namespace VL
open PySem L2

abbrev DCf := List D → Hd → KD → Prop
def RefC (K : PySem.W.Frag) (r : DCf) (rv : List V → Hp → VK → Prop) : Prop := ∀ (Z : Addr → Prop) (ds : List D) (vs : List V) (G : Hd) (H : Hp) (Q : KD) (Kc : VK), Sim ⟨K, Z⟩ G H → RpL ⟨K, Z⟩ G H ds vs → r ds G Q →
  (∀ d v G' H', Ext G H G' H' → Sim ⟨K, Z⟩ G' H' → Rp ⟨K, Z⟩ G' H' d v → Q d G' → Kc v H') → rv vs H Kc
def dCB (r : DCf) (t : DA) : DE := fun δ G Q => t δ G fun ds G1 => r ds G1 Q
section
variable {X : Cx} {x : Str} {p pos : Pos} {e : Expr} {es : List Expr} {t : DA} {id T : String} {r : DCf} {rv : List V → Hp → VK → Prop}
theorem lowCB (hr : RefC X.K r rv) {σ : St} {H : Hp} {Z : Addr → Prop} {G : Hd} {δ : SD} {Q : KD} {Kc : VK} (ss : SS ⟨X.K, Z⟩ G H δ σ) (q : dCB r t δ G Q) (k : ∀ d v G' H', Ext G H G' H' → Sim ⟨X.K, Z⟩ G' H' → Rp ⟨X.K, Z⟩ G' H' d v → Q d G' → Kc v H') :
    tCB rv (lowA X.K t) σ H Kc := ⟨Z, G, δ, _, ss, q, fun ds vs G1 H1 e1 s1 r1 q1 => hr Z ds vs G1 H1 Q Kc s1 r1 q1 fun d v G' H' e s r q => k d v G' H' (e1.trans e) s r q⟩
theorem q_callB (hc : CallR X (.builtin id) rv) (hr : RefC X.K r rv) (hg : Gl X x) (hm : X.mg x = none) (hv : bootBuiltins x = some (.builtin id)) (ha : PA X (e :: es) (lowA X.K t)) (hn : x ≠ "__name__" := by decide) (hdb : (x == ("__debug__" : Str)) = false := by decide)
    (he : starEach (e :: es) X.env = (false, eval e X.env) :: starEach es X.env := by rfl) (hpl : (backTo pos (starEach es X.env)).any (·.1) = false := by rfl) : PE X (.Call (.Name x p) (e :: es) [] pos) (lowE X.K (dCB r t)) :=
  qe_of (pe_callB hc hg hm hv ha hn hdb he hpl) fun σ H Z G δ Q Kc ss q k => lowCB hr ss q k
theorem q_callTy (hc : CallR X (.type T) rv) (hr : RefC X.K r rv) (hg : Gl X x) (hm : X.mg x = none) (hv : bootBuiltins x = some (.type T)) (ha : PA X (e :: es) (lowA X.K t)) (hn : x ≠ "__name__" := by decide) (hdb : (x == ("__debug__" : Str)) = false := by decide)
    (he : starEach (e :: es) X.env = (false, eval e X.env) :: starEach es X.env := by rfl) (hpl : (backTo pos (starEach es X.env)).any (·.1) = false := by rfl) : PE X (.Call (.Name x p) (e :: es) [] pos) (lowE X.K (dCB r t)) :=
  qe_of (pe_callTy hc hg hm hv ha hn hdb he hpl) fun σ H Z G δ Q Kc ss q k => lowCB hr ss q k
theorem q_callFun (hc : CallR X (.builtin id) rv) (hr : RefC X.K r rv) (hg : Gl X x) (hm : X.mg x = some (.builtin id)) (ha : PA X (e :: es) (lowA X.K t)) (hdb : (x == ("__debug__" : Str)) = false := by decide)
    (he : starEach (e :: es) X.env = (false, eval e X.env) :: starEach es X.env := by rfl) (hpl : (backTo pos (starEach es X.env)).any (·.1) = false := by rfl) : PE X (.Call (.Name x p) (e :: es) [] pos) (lowE X.K (dCB r t)) :=
  qe_of (pe_callBfun hc hg hm ha hdb he hpl) fun σ H Z G δ Q Kc ss q k => lowCB hr ss q k
end

/-! ### their readings -/
def c1 (g : Int → Int) : DCf := fun ds G Q => match ds with
  | [.int i] => Q (.int (g i)) G
  | _ => False
def c2 (C : Int → Int → Prop) (g : Int → Int → D) : DCf := fun ds G Q => match ds with
  | [.int i, .int j] => C i j ∧ Q (g i j) G
  | _ => False
section
variable {K : PySem.W.Frag}
theorem rp1 {B : Bd} {G : Hd} {H : Hp} {ds : List D} {vs : List V} (r : RpL B G H ds vs) {d : D} (e : ds = [d]) : ∃ v, vs = [v] ∧ Rp B G H d v := by
  subst e
  cases r with
  | cons a b => cases b; exact ⟨_, rfl, a⟩
theorem rp2 {B : Bd} {G : Hd} {H : Hp} {ds : List D} {vs : List V} (r : RpL B G H ds vs) {d e : D} (h : ds = [d, e]) : ∃ v u, vs = [v, u] ∧ Rp B G H d v ∧ Rp B G H e u := by
  subst h
  cases r with
  | cons a b =>
    cases b with
    | cons b c => cases c; exact ⟨_, _, rfl, a, b⟩
theorem ref_c1 {g : Int → Int} : RefC K (c1 g) (fun xs H Q => ∃ i, xs = [.int i] ∧ Q (.int (g i)) H) := by
  intro Z ds vs G H Q Kc s r h k
  unfold c1 at h
  split at h
  · obtain ⟨v, rfl, rv⟩ := rp1 r rfl
    cases rv
    exact ⟨_, rfl, k _ _ G H .refl s (.int _) h⟩
  · exact h.elim
abbrev cAbs : DCf := c1 fun i => if i < 0 then -i else i
abbrev cMax : DCf := c2 (fun _ _ => True) fun i j => .int (if j > i then j else i)
abbrev cMin : DCf := c2 (fun _ _ => True) fun i j => .int (if j < i then j else i)
abbrev cGcd : DCf := c2 (fun _ _ => True) fun i j => .int ((Nat.gcd i.natAbs j.natAbs : Nat) : Int)
theorem ref_c2 {g : Int → Int → Int} {rv : List V → Hp → VK → Prop} (w : ∀ i j H Kc, Kc (.int (g i j)) H → rv [.int i, .int j] H Kc) : RefC K (c2 (fun _ _ => True) fun i j => .int (g i j)) rv := by
  intro Z ds vs G H Q Kc s r h k
  unfold c2 at h
  split at h
  · obtain ⟨v, u, rfl, r1, r2⟩ := rp2 r rfl
    cases r1; cases r2
    exact w _ _ H Kc (k _ _ G H .refl s (.int _) h.2)
  · exact h.elim
theorem ref_max : RefC K cMax (fun xs H Q => ∃ i j, xs = [.int i, .int j] ∧ Q (.int (if j > i then j else i)) H) := ref_c2 fun i j H Kc q => ⟨i, j, rfl, q⟩
theorem ref_min : RefC K cMin (fun xs H Q => ∃ i j, xs = [.int i, .int j] ∧ Q (.int (if j < i then j else i)) H) := ref_c2 fun i j H Kc q => ⟨i, j, rfl, q⟩
theorem ref_gcd : RefC K cGcd rGcd := ref_c2 fun i j H Kc q => ⟨i, j, rfl, q⟩
def cDivmod : DCf := c2 CDiv fun i j => .tup [.int (i / j), .int (i % j)]
theorem ref_divmod : RefC K cDivmod (fun xs H Q => ∃ i j, xs = [.int i, .int j] ∧ CDiv i j ∧ ∀ p, H p = none → Q (.ref p) (upd H p (.tup [.int (i / j), .int (i % j)]))) := by
  intro Z ds vs G H Q Kc s r h k
  unfold cDivmod c2 at h
  split at h
  · obtain ⟨v, u, rfl, r1, r2⟩ := rp2 r rfl
    cases r1; cases r2
    exact ⟨_, _, rfl, h.1, fun p hp => k _ _ G _ (Ext.laid hp) (s.laid hp) (newTup s hp (.cons (.int _) (.cons (.int _) .nil))) h.2⟩
  · exact h.elim
def cInt : DCf := fun ds G Q => match ds with
  | [.int i] => Q (.int i) G
  | [.bl b] => Q (.int (if b then 1 else 0)) G
  | _ => False
theorem ref_int : RefC K cInt (fun xs H Q => (∃ i, xs = [.int i] ∧ Q (.int i) H) ∨ ∃ k, xs = [.bl k] ∧ Q (.int (if k then 1 else 0)) H) := by
  intro Z ds vs G H Q Kc s r h k
  unfold cInt at h
  split at h
  · obtain ⟨v, rfl, rv⟩ := rp1 r rfl
    cases rv
    exact .inl ⟨_, rfl, k _ _ G H .refl s (.int _) h⟩
  · obtain ⟨v, rfl, rv⟩ := rp1 r rfl
    cases rv
    exact .inr ⟨_, rfl, k _ _ G H .refl s (.int _) h⟩
  · exact h.elim
def cLen : DCf := fun ds G Q => match ds with
  | [x] => match seqOf G x with
    | some xs => Q (.int xs.length) G
    | none => False
  | _ => False
theorem ref_len : RefC K cLen (fun xs H Q => ∃ p ys, xs = [.ref p] ∧ (SqL K H p ys ∨ SqT K H p ys) ∧ Q (.int ys.length) H) := by
  intro Z ds vs G H Q Kc s r h k
  unfold cLen at h
  split at h
  · split at h
    · rename_i xs e
      obtain ⟨v, rfl, rv⟩ := rp1 r rfl
      obtain ⟨a, ys, rfl, hq, rr⟩ := seqOf_rp s rv e
      exact ⟨a, ys, rfl, hq, by rw [rr.size]; exact k _ _ G H .refl s (.int _) h⟩
    · exact h.elim
  · exact h.elim
/-- ints, bools of a list -/
def intsOf : List D → Option (List Int)
  | [] => some []
  | .int i :: r => (intsOf r).map (i :: ·)
  | _ :: _ => none
theorem intsOf_map : ∀ ns : List Int, intsOf (ns.map D.int) = some ns
  | [] => rfl
  | n :: ns => by simp [intsOf, intsOf_map ns]
theorem intsOf_some : ∀ {ds : List D} {ns : List Int}, intsOf ds = some ns → ds = ns.map D.int
  | [], ns, h => by cases h; rfl
  | .int i :: r, ns, h => by
    unfold intsOf at h
    cases e : intsOf r with
    | none => rw [e] at h; cases h
    | some ms => rw [e] at h; cases h; rw [intsOf_some e]; rfl
  | .non :: _, _, h => by cases h
  | .bl _ :: _, _, h => by cases h
  | .str _ :: _, _, h => by cases h
  | .ty _ :: _, _, h => by cases h
  | .ref _ :: _, _, h => by cases h
  | .tup _ :: _, _, h => by cases h
  | .lst _ :: _, _, h => by cases h
  | .ro _ :: _, _, h => by cases h
  | .edic :: _, _, h => by cases h
def blsOf : List D → Option (List Bool)
  | [] => some []
  | .bl i :: r => (blsOf r).map (i :: ·)
  | _ :: _ => none
theorem blsOf_map : ∀ ns : List Bool, blsOf (ns.map D.bl) = some ns
  | [] => rfl
  | n :: ns => by simp [blsOf, blsOf_map ns]
theorem blsOf_some : ∀ {ds : List D} {ns : List Bool}, blsOf ds = some ns → ds = ns.map D.bl
  | [], ns, h => by cases h; rfl
  | .bl i :: r, ns, h => by
    unfold blsOf at h
    cases e : blsOf r with
    | none => rw [e] at h; cases h
    | some ms => rw [e] at h; cases h; rw [blsOf_some e]; rfl
  | .non :: _, _, h => by cases h
  | .int _ :: _, _, h => by cases h
  | .str _ :: _, _, h => by cases h
  | .ty _ :: _, _, h => by cases h
  | .ref _ :: _, _, h => by cases h
  | .tup _ :: _, _, h => by cases h
  | .lst _ :: _, _, h => by cases h
  | .ro _ :: _, _, h => by cases h
  | .edic :: _, _, h => by cases h
/-- what sum, all, any walk -/
def lstR (G : Hd) : D → Option (List D)
  | .ro xs => some xs
  | x => lstOf G x
theorem lstR_rp {B : Bd} {G : Hd} {H : Hp} {d : D} {v : V} {ds : List D} (s : Sim B G H) (r : Rp B G H d v) (h : lstR G d = some ds) : ∃ a xs, v = .ref a ∧ SqL B.K H a xs ∧ RpL B G H ds xs := by
  cases r with
  | ro h1 r => cases h; exact ⟨_, _, rfl, h1.sq, r⟩
  | lst h1 g z r => obtain ⟨a, xs, e, q, rr⟩ := lstOf_rp s (.lst h1 g z r) h; exact ⟨a, xs, e, SqL.of q, rr⟩
  | ref a => obtain ⟨a, xs, e, q, rr⟩ := lstOf_rp s (.ref a) h; exact ⟨a, xs, e, SqL.of q, rr⟩
  | _ => cases h
def cSum : DCf := fun ds G Q => match ds with
  | [x] => match lstR G x with
    | some xs => match intsOf xs with
      | some ns => Q (.int ns.sum) G
      | none => False
    | none => False
  | _ => False
theorem ref_sum : RefC K cSum (rSum K) := by
  intro Z ds vs G H Q Kc s r h k
  unfold cSum at h
  split at h
  · split at h
    · rename_i xs e
      split at h
      · rename_i ns e2
        obtain ⟨v, rfl, rv⟩ := rp1 r rfl
        obtain ⟨a, ys, rfl, hq, rr⟩ := lstR_rp s rv e
        rw [intsOf_some e2] at rr
        rw [rr.of_int] at hq
        exact ⟨a, ns, rfl, hq, k _ _ G H .refl s (.int _) h⟩
      · exact h.elim
    · exact h.elim
  · exact h.elim
def cBools (g : List Bool → Bool) : DCf := fun ds G Q => match ds with
  | [x] => match lstR G x with
    | some xs => match blsOf xs with
      | some ns => Q (.bl (g ns)) G
      | none => False
    | none => False
  | _ => False
theorem ref_bools {g : List Bool → Bool} : RefC K (cBools g) (fun vs H Q => ∃ (a : Addr) (bs : List Bool), vs = [V.ref a] ∧ SqL K H a (bs.map V.bl) ∧ Q (.bl (g bs)) H) := by
  intro Z ds vs G H Q Kc s r h k
  unfold cBools at h
  split at h
  · split at h
    · rename_i xs e
      split at h
      · rename_i ns e2
        obtain ⟨v, rfl, rv⟩ := rp1 r rfl
        obtain ⟨a, ys, rfl, hq, rr⟩ := lstR_rp s rv e
        rw [blsOf_some e2] at rr
        rw [rr.of_bl] at hq
        exact ⟨a, ns, rfl, hq, k _ _ G H .refl s (.bl _) h⟩
      · exact h.elim
    · exact h.elim
  · exact h.elim
abbrev cAll : DCf := cBools fun bs => bs.all id
abbrev cAny : DCf := cBools fun bs => bs.any id
def cList : DCf := fun ds G Q => match ds with
  | [x] => match seqOf G x with
    | some xs => Q (.lst xs) G
    | none => False
  | _ => False
def cListM : DCf := fun ds G Q => match ds with
  | [x] => match seqOf G x with
    | some xs => ∀ p, G p = none → Q (.ref p) (updD G p (.lst xs))
    | none => False
  | _ => False
abbrev rListOf (K : PySem.W.Frag) : List V → Hp → VK → Prop := fun xs H Q => ∃ p ys, xs = [.ref p] ∧ (SqL K H p ys ∨ SqT K H p ys) ∧ ∀ l, H l = none → Q (.ref l) (upd H l (.lst ys))
theorem ref_list : RefC K cList (rListOf K) := by
  intro Z ds vs G H Q Kc s r h k
  unfold cList at h
  split at h
  · split at h
    · rename_i xs e
      obtain ⟨v, rfl, rv⟩ := rp1 r rfl
      obtain ⟨a, ys, rfl, hq, rr⟩ := seqOf_rp s rv e
      exact ⟨a, ys, rfl, hq, fun l hl => k _ _ G _ (Ext.laid hl) (s.laid hl) (newLst s hl rr) h⟩
    · exact h.elim
  · exact h.elim
theorem ref_listM : RefC K cListM (rListOf K) := by
  intro Z ds vs G H Q Kc s r h k
  unfold cListM at h
  split at h
  · split at h
    · rename_i xs e
      obtain ⟨v, rfl, rv⟩ := rp1 r rfl
      obtain ⟨a, ys, rfl, hq, rr⟩ := seqOf_rp s rv e
      exact ⟨a, ys, rfl, hq, fun l hl => k _ _ _ _ (Ext.laidT hl) (simLst s hl rr) (.ref l) (h l (s.free hl))⟩
    · exact h.elim
  · exact h.elim
def cTuple : DCf := fun ds G Q => match ds with
  | [x] => match seqOf G x with
    | some xs => Q (.tup xs) G
    | none => False
  | _ => False
theorem ref_tuple : RefC K cTuple (fun xs H Q => ∃ p ys, xs = [.ref p] ∧ ((SqL K H p ys ∧ ∀ l, H l = none → Q (.ref l) (upd H l (.tup ys))) ∨ (SqT K H p ys ∧ Q (.ref p) H))) := by
  intro Z ds vs G H Q Kc s r h k
  unfold cTuple at h
  split at h
  · split at h
    · rename_i x xs e
      obtain ⟨v, rfl, rv⟩ := rp1 r rfl
      cases rv with
      | tup h1 g z rr =>
        cases e
        exact ⟨_, _, rfl, .inr ⟨SqT.of h1, k _ _ G H .refl s (.tup h1 g z rr) h⟩⟩
      | lst h1 g z rr =>
        cases e
        exact ⟨_, _, rfl, .inl ⟨SqL.of h1, fun l hl => k _ _ G _ (Ext.laid hl) (s.laid hl) (newTup s hl rr) h⟩⟩
      | ro h1 rr =>
        cases e
        exact ⟨_, _, rfl, .inl ⟨h1.sq, fun l hl => k _ _ G _ (Ext.laid hl) (s.laid hl) (newTup s hl rr) h⟩⟩
      | ref a =>
        obtain ⟨ys, h1, rr⟩ := s.at_ a _ (trkL_some e)
        exact ⟨_, _, rfl, .inl ⟨SqL.of h1, fun l hl => k _ _ G _ (Ext.laid hl) (s.laid hl) (newTup s hl rr) h⟩⟩
      | _ => cases e
    · exact h.elim
  · exact h.elim
/-! isinstance -/
def tyD (G : Hd) : D → Option String
  | .non => some "NoneType"
  | .bl _ => some "bool"
  | .int _ => some "int"
  | .str _ => some "str"
  | .tup _ => some "tuple"
  | .lst _ => some "list"
  | .edic => some "dict"
  | .ref a => match G a with
    | some (.lst _) => some "list"
    | some (.dT _) => some "dict"
    | _ => none
  | _ => none
theorem tyD_rp {B : Bd} {G : Hd} {H : Hp} {d : D} {v : V} {t : String} (s : Sim B G H) (r : Rp B G H d v) (h : tyD G d = some t) : TyX B.K H v (.type t) := by
  cases r with
  | non => cases h; exact .base .non
  | bl b => cases h; exact .base (.bl b)
  | int i => cases h; exact .base (.int i)
  | str z => cases h; exact .base (.str z)
  | tup h1 g z r => cases h; exact .base (.tup h1)
  | lst h1 g z r => cases h; exact .base (.lst h1)
  | edic h1 g z => cases h; exact .base (.dK h1)
  | ref a =>
    simp only [tyD] at h
    cases e : G a with
    | none => rw [e] at h; cases h
    | some u =>
      rw [e] at h
      have so := s.at_ a u e
      cases u with
      | lst ds => cases h; obtain ⟨xs, h1, _⟩ := so; exact .base (.lst h1)
      | dT ds => cases h; obtain ⟨xs, h1, _⟩ := so; exact .base (.dT h1)
      | ins C fs => cases h
  | _ => cases h
/-- is a built-in type under another one -/
def isB (a b : String) : Bool := a == b || (a == "bool" && b == "int")
def tysA : List String := ["NoneType", "bool", "int", "str", "tuple", "list", "dict"]
def tysB : List String := ["bool", "int", "str", "tuple", "list", "dict"]
theorem kitB_ok : (tysA.all fun a => tysB.all fun b => decide (kitB a b = some (isB a b))) = true := by decide +kernel
theorem kitB_is {a b : String} (ha : a ∈ tysA) (hb : b ∈ tysB) : kitB a b = some (isB a b) := by
  have h := kitB_ok
  rw [List.all_eq_true] at h
  have h2 := h a ha
  rw [List.all_eq_true] at h2
  exact of_decide_eq_true (h2 b hb)
theorem tyD_mem {G : Hd} {d : D} {t : String} (h : tyD G d = some t) : t ∈ tysA := by
  cases d with
  | ref a =>
    simp only [tyD] at h
    split at h <;> cases h <;> decide
  | ty n => cases h
  | ro xs => cases h
  | _ => cases h; decide
def cIsi : DCf := fun ds G Q => match ds with
  | [x, .ty b] => match tyD G x with
    | some a => b ∈ tysB ∧ Q (.bl (isB a b)) G
    | none => False
  | _ => False
theorem ref_isi : RefC K cIsi (rIsi K) := by
  intro Z ds vs G H Q Kc s r h k
  unfold cIsi at h
  split at h
  · split at h
    · rename_i a e
      obtain ⟨v, u, rfl, r1, r2⟩ := rp2 r rfl
      cases r2
      exact ⟨v, _, _, _, _, rfl, .ty _, tyD_rp s r1 e, kit_ty (kitB_is (tyD_mem e) h.1), k _ _ G H .refl s (.bl _) h.2⟩
    · exact h.elim
  · exact h.elim
def tysOf : List D → Option (List String)
  | [] => some []
  | .ty i :: r => (tysOf r).map (i :: ·)
  | _ :: _ => none
theorem tysOf_rp {B : Bd} {G : Hd} {H : Hp} : ∀ {ds : List D} {vs : List V} {ns : List String}, RpL B G H ds vs → tysOf ds = some ns → vs = ns.map V.ty
  | _, _, _, .nil, h => by cases h; rfl
  | _, _, ns, .cons (.ty n) b, h => by
    unfold tysOf at h
    rename_i ds vs
    cases e : tysOf ds with
    | none => rw [e] at h; cases h
    | some ms => rw [e] at h; cases h; rw [tysOf_rp b e]; rfl
  | _, _, _, .cons .non _, h => by cases h
  | _, _, _, .cons (.bl _) _, h => by cases h
  | _, _, _, .cons (.int _) _, h => by cases h
  | _, _, _, .cons (.str _) _, h => by cases h
  | _, _, _, .cons (.ref _) _, h => by cases h
  | _, _, _, .cons (.tup _ _ _ _) _, h => by cases h
  | _, _, _, .cons (.lst _ _ _ _) _, h => by cases h
  | _, _, _, .cons (.ro _ _) _, h => by cases h
  | _, _, _, .cons (.edic _ _ _) _, h => by cases h
theorem clsVs : ∀ ns : List String, Paired ClsV (ns.map V.ty) (ns.map Value.type)
  | [] => .nil
  | n :: ns => .cons (.ty n) (clsVs ns)
theorem kitAny_is {a : String} (ha : a ∈ tysA) : ∀ ns : List String, (∀ b ∈ ns, b ∈ tysB) → PySem.W.kitAny K (.type a) (ns.map Value.type) = some (ns.any (isB a))
  | [], _ => rfl
  | n :: ns, h => by
    rw [List.map_cons, List.any_cons]
    refine kitAny_cons (kit_ty (kitB_is ha (h n List.mem_cons_self))) (fun e => ?_) fun e => ?_
    · rw [e, Bool.false_or]; exact kitAny_is ha ns fun b hb => h b (List.mem_cons_of_mem _ hb)
    · rw [e, Bool.true_or]
def cIsiT : DCf := fun ds G Q => match ds with
  | [x, .tup bs] => match tyD G x, tysOf bs with
    | some a, some ns => (ns.all fun b => tysB.contains b) = true ∧ Q (.bl (ns.any (isB a))) G
    | _, _ => False
  | _ => False
theorem ref_isiT : RefC K cIsiT (rIsiT K) := by
  intro Z ds vs G H Q Kc s r h k
  unfold cIsiT at h
  split at h
  · split at h
    · rename_i a ns e1 e2
      obtain ⟨v, u, rfl, r1, r2⟩ := rp2 r rfl
      cases r2 with
      | tup h1 g z r2 =>
        have ev := tysOf_rp r2 e2
        subst ev
        have hb : ∀ b ∈ ns, b ∈ tysB := fun b hb => by
          have q := h.1
          rw [List.all_eq_true] at q
          have := q b hb
          simpa using this
        exact ⟨v, _, _, _, _, _, rfl, h1, clsVs ns, tyD_rp s r1 e1, kitAny_is (tyD_mem e1) ns hb, k _ _ G H .refl s (.bl _) h.2⟩
    · exact h.elim
  · exact h.elim
end
end VL
set_option Elab.async false
set_option linter.all false
set_option maxRecDepth 100000
set_option maxHeartbeats 4000000
/-! enumerate, zip, sum, repr, list methods by values. -/
namespace VL
open PySem L2 VX

/-! ### a sequence that stays while it is walked -/
def keepD (G : Hd) : D → Hd → Prop
  | .ref a => fun G' => G' a = G a
  | _ => cFree
def Stay (B0 : Bd) (G0 : Hd) (H0 : Hp) (C : Hd → Prop) (b : Bool) (a : Addr) (ds : List D) : Prop := ∀ (B : Bd) (G : Hd) (H : Hp), VExt B0 G0 H0 B G H → Sim B G H → C G → ∃ xs, SqX b B0.K H a xs ∧ RpL B G H ds xs
theorem keepD_self {G : Hd} {d : D} : keepD G d G := by cases d <;> first | exact True.intro | exact rfl
theorem stay_of {B : Bd} {G : Hd} {H : Hp} {d : D} {v : V} {ds : List D} (s : Sim B G H) (r : Rp B G H d v) (h : seqOf G d = some ds) : ∃ b a, v = .ref a ∧ Stay B G H (keepD G d) b a ds := by
  cases r with
  | lst h1 g z r =>
    cases h
    exact ⟨true, _, rfl, fun B' G' H' e s' _ => ⟨_, SqL.of (e.2 _ _ h1 g z).1, r.vmono e⟩⟩
  | tup h1 g z r =>
    cases h
    exact ⟨false, _, rfl, fun B' G' H' e s' _ => ⟨_, SqT.of (e.2 _ _ h1 g z).1, r.vmono e⟩⟩
  | ro h1 r =>
    cases h
    refine ⟨true, _, rfl, fun B' G' H' e s' _ => ⟨_, ?_, r.vmono e⟩⟩
    rcases h1 with ⟨h | ⟨u, h⟩, g, n⟩ | h
    · exact .inl (.inl (e.2 _ _ h g n).1)
    · exact .inl (.inr ⟨u, (e.2 _ _ h g n).1⟩)
    · exact .inr h
  | ref a =>
    refine ⟨true, a, rfl, fun B' G' H' e s' c => ?_⟩
    have c' : G' a = G a := c
    have q : G a = some (.lst ds) := trkL_some h
    rw [q] at c'
    obtain ⟨ys, h1, r1⟩ := s'.at_ a _ c'
    exact ⟨ys, SqL.of h1, r1⟩
  | _ => cases h
theorem Stay.imp {B : Bd} {G : Hd} {H : Hp} {C C' : Hd → Prop} {b : Bool} {a : Addr} {ds : List D} (s : Stay B G H C b a ds) (h : ∀ G, C' G → C G) : Stay B G H C' b a ds := fun B' G' H' e s' c => s B' G' H' e s' (h _ c)
theorem Stay.later {B B' : Bd} {G G' : Hd} {H H' : Hp} {C : Hd → Prop} {b : Bool} {a : Addr} {ds : List D} (s : Stay B G H C b a ds) (e : VExt B G H B' G' H') : Stay B' G' H' C b a ds := fun B2 G2 H2 e2 s2 c => by
  obtain ⟨xs, q, r⟩ := s B2 G2 H2 (e.trans e2) s2 c
  exact ⟨xs, by rw [← e.1]; exact q, r⟩

def enumD : Nat → List D → List D
  | _, [] => []
  | i, x :: r => .tup [.int i, x] :: enumD (i + 1) r
theorem enumD_length : ∀ (i : Nat) (xs : List D), (enumD i xs).length = xs.length
  | _, [] => rfl
  | i, x :: r => by unfold enumD; rw [List.length_cons, List.length_cons, enumD_length]
theorem enumD_get : ∀ (i j : Nat) (xs : List D) (d : D), (enumD i xs)[j]? = some d → ∃ x, xs[j]? = some x ∧ d = .tup [.int ((i + j : Nat) : Int), x]
  | _, _, [], _, h => by simp [enumD] at h
  | i, 0, x :: r, d, h => by
    simp [enumD] at h
    subst h
    exact ⟨x, rfl, rfl⟩
  | i, j + 1, x :: r, d, h => by
    have h' : (enumD (i + 1) r)[j]? = some d := by simpa [enumD] using h
    obtain ⟨y, h1, h2⟩ := enumD_get (i + 1) j r d h'
    exact ⟨y, by simpa using h1, by rw [h2, show i + 1 + j = i + (j + 1) by omega]⟩
def zipD : List D → List D → List D
  | x :: xs, y :: ys => .tup [x, y] :: zipD xs ys
  | _, _ => []
theorem zipD_length : ∀ (xs ys : List D), (zipD xs ys).length = min xs.length ys.length
  | [], ys => by simp [zipD]
  | x :: xs, [] => by simp [zipD]
  | x :: xs, y :: ys => by unfold zipD; rw [List.length_cons, List.length_cons, List.length_cons, zipD_length]; omega
theorem zipD_get : ∀ (j : Nat) (xs ys : List D) (d : D), (zipD xs ys)[j]? = some d → ∃ x y, xs[j]? = some x ∧ ys[j]? = some y ∧ d = .tup [x, y]
  | _, [], ys, _, h => by simp [zipD] at h
  | _, x :: xs, [], _, h => by simp [zipD] at h
  | 0, x :: xs, y :: ys, d, h => by
    simp [zipD] at h
    subst h
    exact ⟨x, y, rfl, rfl, rfl⟩
  | j + 1, x :: xs, y :: ys, d, h => by
    obtain ⟨a, b, h1, h2, h3⟩ := zipD_get j xs ys d (by simpa [zipD] using h)
    exact ⟨a, b, by simpa using h1, by simpa using h2, h3⟩
theorem pair_rp {B : Bd} {G : Hd} {H : Hp} {T : Addr} {x y : V} {d e : D} (s : Sim B G H) (hT : H T = none) (r : Rp B G H d x) (q : Rp B G H e y) :
    Ext G H G (upd H T (.tup [x, y])) ∧ Sim B G (upd H T (.tup [x, y])) ∧ Rp B G (upd H T (.tup [x, y])) (.tup [d, e]) (.ref T) :=
  ⟨Ext.laid hT, s.laid hT, newTup s hT (.cons r (.cons q .nil))⟩
theorem walk_enum {B : Bd} {G : Hd} {H : Hp} {C : Hd → Prop} {b : Bool} {a : Addr} {ds : List D} (st : Stay B G H C b a ds) : Walk B G H (enumD 0 ds) C (IteX b B.K a) := by
  intro B' G' H' e s c
  obtain ⟨xs, hq, rl⟩ := st B' G' H' e s c
  rw [enumD_length]
  refine ⟨fun i hi => ?_, fun i d x H2 hd y => ?_, xs, hq, rl.size⟩
  · have hi' : i < xs.length := by rw [rl.size]; exact hi
    exact ⟨xs, xs[i], hq, by simp [hi']⟩
  · obtain ⟨T, z, rfl, hT, rfl, hy⟩ := y
    obtain ⟨w, hw, rfl⟩ := enumD_get 0 i ds d hd
    obtain ⟨v, hv, rv⟩ := rl.get hw
    have := hy xs hq
    rw [hv] at this
    cases this
    rw [Nat.zero_add]
    exact pair_rp s hT (.int _) rv
theorem walk_zip {B : Bd} {G : Hd} {H : Hp} {C C' : Hd → Prop} {b b' : Bool} {a a' : Addr} {ds es : List D} (st : Stay B G H C b a ds) (st' : Stay B G H C' b' a' es) : Walk B G H (zipD ds es) (fun G => C G ∧ C' G) (ItzX b b' B.K a a') := by
  intro B' G' H' e s c
  obtain ⟨xs, hq, rl⟩ := st B' G' H' e s c.1
  obtain ⟨ys, hq', rl'⟩ := st' B' G' H' e s c.2
  rw [zipD_length]
  refine ⟨fun i hi => ?_, fun i d x H2 hd y => ?_, xs, ys, hq, hq', by rw [rl.size, rl'.size]⟩
  · have hi1 : i < xs.length := by rw [rl.size]; omega
    have hi2 : i < ys.length := by rw [rl'.size]; omega
    exact ⟨xs, ys, xs[i], ys[i], hq, hq', by simp [hi1], by simp [hi2]⟩
  · obtain ⟨T, z, z', rfl, hT, rfl, hy, hy'⟩ := y
    obtain ⟨w, w', hw, hw', rfl⟩ := zipD_get i ds es d hd
    obtain ⟨v, hv, rv⟩ := rl.get hw
    obtain ⟨v', hv', rv'⟩ := rl'.get hw'
    have t1 := hy xs hq
    rw [hv] at t1
    cases t1
    have t2 := hy' ys hq'
    rw [hv'] at t2
    cases t2
    exact pair_rp s hT rv rv'
theorem stay_sq {B : Bd} {G : Hd} {H : Hp} {C : Hd → Prop} {b : Bool} {a : Addr} {ds : List D} (st : Stay B G H C b a ds) (s : Sim B G H) (c : C G) : ∃ xs, SqX b B.K H a xs := (st B G H .refl s c).imp fun _ h => h.1
def dEnum (t : DE) : DI := fun δ G Q => t δ G fun x G1 => match seqOf G1 x with
  | some xs => Q (enumD 0 xs) (keepD G1 x) G1
  | none => False
def dZip (t u : DE) : DI := fun δ G Q => t δ G fun x G1 => u δ G1 fun y G2 => match seqOf G2 x, seqOf G2 y with
  | some xs, some ys => Q (zipD xs ys) (fun G => keepD G2 x G ∧ keepD G2 y G) G2
  | _, _ => False
section
variable {X : Cx} {p pos tpos : Pos} {e e2 : Expr} {te te2 : DE} {elts : List Expr} {kk : Nat}
theorem qi_enum (hg : Gl X "enumerate") (hm : X.mg "enumerate" = none) (ha : PE X e (lowE X.K te)) (hs : starEach [e] X.env = [(false, eval e X.env)] := by rfl) : PI X (.Tuple elts kk tpos) (.Call (.Name "enumerate" p) [e] [] pos) (lowI X.K (dEnum te)) :=
  qi_of (pi_enumX hg hm (pa_cons ha pa_nil (by rw [hs]; rfl)) hs) fun σ H Z G δ Q R ss q k => low1 ss q fun d v G1 H1 e1 s1 r1 q1 => by
    split at q1
    · rename_i xs hx
      obtain ⟨b, a, rfl, st⟩ := stay_of s1 r1 hx
      obtain ⟨ys, hq⟩ := stay_sq st s1 keepD_self
      exact ⟨b, a, ys, rfl, hq, k _ _ _ G1 H1 e1 s1 (walk_enum st) q1⟩
    · exact q1.elim
theorem qi_zip (hg : Gl X "zip") (hm : X.mg "zip" = none) (ha : PE X e (lowE X.K te)) (hb : PE X e2 (lowE X.K te2)) (hs : starEach [e, e2] X.env = (false, eval e X.env) :: starEach [e2] X.env := by rfl) (hs2 : starEach [e2] X.env = (false, eval e2 X.env) :: starEach [] X.env := by rfl)
    (hpl : (backTo pos (starEach [e2] X.env)).any (·.1) = false := by rfl) : PI X (.Tuple elts kk tpos) (.Call (.Name "zip" p) [e, e2] [] pos) (lowI X.K (dZip te te2)) :=
  qi_of (pi_zipX hg hm (pa_cons ha (pa_cons hb pa_nil hs2) hs) hs hpl) fun σ H Z G δ Q R ss q k => ⟨Z, G, δ, _, ss, q, fun d v G1 H1 e1 s1 r1 q1 => ⟨Z, G1, δ, _, ss.mono e1 s1, q1, fun d2 v2 G2 H2 e2 s2 r2 q2 => by
    split at q2
    · rename_i xs ys hx hy
      obtain ⟨b, a, rfl, st⟩ := stay_of s2 (r1.mono e2) hx
      obtain ⟨b', a', rfl, st'⟩ := stay_of s2 r2 hy
      obtain ⟨us, hq⟩ := stay_sq st s2 keepD_self
      obtain ⟨us', hq'⟩ := stay_sq st' s2 keepD_self
      exact ⟨b, b', a, a', us, us', rfl, hq, hq', k _ _ _ G2 H2 (e1.trans e2) s2 (walk_zip st st') q2⟩
    · exact q2.elim⟩⟩
end

/-! ### sum, repr -/
section
variable {K : PySem.W.Frag}
def cSumX : DCf := fun ds G Q => match ds with
  | [x] => match seqOf G x with
    | some xs => match intsOf xs with
      | some ns => Q (.int ns.sum) G
      | none => False
    | none => False
  | _ => False
theorem ref_sumX : RefC K cSumX (rSumX K) := by
  intro Z ds vs G H Q Kc s r h k
  unfold cSumX at h
  split at h
  · split at h
    · rename_i xs e
      split at h
      · rename_i ns e2
        obtain ⟨v, rfl, rv⟩ := rp1 r rfl
        obtain ⟨b, a, rfl, st⟩ := stay_of s rv e
        obtain ⟨ys, hq, rr⟩ := st _ _ _ .refl s keepD_self
        rw [intsOf_some e2] at rr
        rw [rr.of_int] at hq
        exact ⟨b, a, ns, rfl, hq, k _ _ G H .refl s (.int _) h⟩
      · exact h.elim
    · exact h.elim
  · exact h.elim
def cRepr : DCf := fun ds G Q => match ds with
  | [x] => pureD (rdD G x) = true ∧ (toP (rdD G x)).showable = true ∧ (toP (rdD G x)).hasDict = false ∧ (toP (rdD G x)).depth ≤ 60 ∧ (toP (rdD G x)).shown.length ≤ sizeLine ∧ Q (.str (toP (rdD G x)).shown) G
  | _ => False
theorem ref_repr : RefC K cRepr (rRepr K) := by
  intro Z ds vs G H Q Kc s r h k
  unfold cRepr at h
  split at h
  · obtain ⟨v, rfl, rv⟩ := rp1 r rfl
    obtain ⟨h1, h2, h3, h4, h5, q⟩ := h
    exact ⟨v, _, rfl, rdD_dp s rv h1, h2, h3, h4, h5, k _ _ G H .refl s (.str _) q⟩
  · exact h.elim
end
/-- list(range(..)) -/
def dLstRg (t : DE) : DE := fun δ G Q => t δ G fun x G1 => match x with
  | .int j => (-(2 ^ 62) ≤ j ∧ j ≤ 2 ^ 24) ∧ Q (.lst (rangeD 0 j)) G1
  | _ => False
def dLstRg2 (t u : DE) : DE := fun δ G Q => t δ G fun x G1 => u δ G1 fun y G2 => match x, y with
  | .int i, .int j => (0 ≤ i ∧ i ≤ 2 ^ 24 ∧ -(2 ^ 62) ≤ j ∧ j ≤ 2 ^ 24) ∧ Q (.lst (rangeD i j)) G2
  | _, _ => False
theorem rg_rp {B : Bd} {G : Hd} {H : Hp} (i j : Int) : RpL B G H (rangeD i j) (rgV i j) := by
  have h := RpL.map_int (B := B) (G := G) (H := H) ((List.range (j - i).toNat).map fun k => i + (k : Nat))
  rw [List.map_map, List.map_map] at h
  exact h
section
variable {X : Cx} {p p2 pos pos2 : Pos} {e e2 : Expr} {te te2 : DE}
theorem q_lstRg2 (hc : X.calm = true) (hg : Gl X "list") (hm : X.mg "list" = none) (hgr : Gl X "range") (hmr : X.mg "range" = none) (ha : PE X e (lowE X.K te)) (hb : PE X e2 (lowE X.K te2))
    (na : starEach [e, e2] X.env = (false, eval e X.env) :: starEach [e2] X.env := by rfl) (nb : starEach [e2] X.env = (false, eval e2 X.env) :: starEach [] X.env := by rfl) (hp : (backTo pos2 (starEach [e2] X.env)).any (·.1) = false := by rfl)
    (nc : starEach [.Call (.Name "range" p2) [e, e2] [] pos2] X.env = (false, eval (.Call (.Name "range" p2) [e, e2] [] pos2) X.env) :: starEach [] X.env := by rfl) :
    PE X (.Call (.Name "list" p) [.Call (.Name "range" p2) [e, e2] [] pos2] [] pos) (lowE X.K (dLstRg2 te te2)) :=
  qe_of (pe_listRg hc hg hm (prg_2 hgr hmr ha hb na nb hp) nc) fun σ H Z G δ Q Kc ss q k => ⟨Z, G, δ, _, ss, q, fun d v G1 H1 e1 s1 r1 q1 => ⟨Z, G1, δ, _, ss.mono e1 s1, q1, fun d2 v2 G2 H2 e2 s2 r2 q2 => by
    cases r1 with
    | int i =>
      cases r2 with
      | int j =>
        refine ⟨i, j, rfl, rfl, ⟨by omega, by omega, by omega, by omega, by omega⟩, fun l hl => k _ _ G2 _ ((e1.trans e2).trans (Ext.laid hl)) (s2.laid hl) (newLst s2 hl (rg_rp i j)) q2.2⟩
      | _ => exact q2.elim
    | _ => exact q2.elim⟩⟩
end

/-! ### methods of lists -/
abbrev DM := D → List D → Hd → KD → Prop
def dBM (r : DM) (to : DE) (t : DA) : DE := fun δ G Q => to δ G fun x G1 => match x with
  | .ref a => (∃ xs, G1 a = some (.lst xs)) ∧ t δ G1 fun ds G2 => r (.ref a) ds G2 Q
  | _ => False
def RefM (K : PySem.W.Frag) (r : DM) (rv : V → List V → Hp → VK → Prop) : Prop := ∀ (Z : Addr → Prop) (x : D) (ds : List D) (vx : V) (vs : List V) (G : Hd) (H : Hp) (Q : KD) (Kc : VK), Sim ⟨K, Z⟩ G H → Rp ⟨K, Z⟩ G H x vx → RpL ⟨K, Z⟩ G H ds vs → r x ds G Q →
  (∀ d v G' H', Ext G H G' H' → Sim ⟨K, Z⟩ G' H' → Rp ⟨K, Z⟩ G' H' d v → Q d G' → Kc v H') → rv vx vs H Kc
def mAppend : DM := fun x ds G Q => match x, ds with
  | .ref a, [d] => match G a with
    | some (.lst xs) => xs.length < sizeLine ∧ Q .non (updD G a (.lst (xs ++ [d])))
    | _ => False
  | _, _ => False
def mPop0 : DM := fun x ds G Q => match x, ds with
  | .ref a, [.int i] => match G a with
    | some (.lst (d :: r)) => i = 0 ∧ Q d (updD G a (.lst r))
    | _ => False
  | _, _ => False
def findD (y : D) : List D → Option Nat
  | [] => none
  | x :: r => if PyData.eqv (toP x) (toP y) = true then some 0 else (findD y r).map (· + 1)
def mRemove : DM := fun x ds G Q => match x, ds with
  | .ref a, [d] => match G a with
    | some (.lst xs) => okD (.lst xs) = true ∧ okD d = true ∧ match findD d xs with
      | some j => Q .non (updD G a (.lst (xs.eraseIdx j)))
      | none => False
    | _ => False
  | _, _ => False
section
variable {K : PySem.W.Frag}
theorem ref_append : RefM K mAppend rAppend := by
  intro Z x ds vx vs G H Q Kc s rx r h k
  unfold mAppend at h
  split at h
  · rename_i a d
    split at h
    · rename_i xs e
      cases rx
      obtain ⟨v, rfl, rv⟩ := rp1 r rfl
      obtain ⟨ys, h1, r1⟩ := s.at_ a _ e
      exact ⟨a, ys, v, rfl, rfl, h1, by rw [r1.size]; exact h.1, k _ _ _ _ (Ext.wrote e) (wroteLst s e (r1.append (.cons rv .nil))) .non h.2⟩
    · exact h.elim
  · exact h.elim
theorem ref_pop0 : RefM K mPop0 rPopAt := by
  intro Z x ds vx vs G H Q Kc s rx r h k
  unfold mPop0 at h
  split at h
  · rename_i a i
    split at h
    · rename_i d xs e
      cases rx
      obtain ⟨v, rfl, rv⟩ := rp1 r rfl
      cases rv
      obtain ⟨ys, h1, r1⟩ := s.at_ a _ e
      obtain ⟨rfl, q⟩ := h
      cases r1 with
      | cons r0 r1 =>
        rename_i v vs
        refine ⟨a, v :: vs, 0, 0, v, rfl, rfl, h1, by decide, by decide, ?_, rfl, k _ _ _ _ (Ext.wrote e) (wroteLst s e r1) (r0.mono (Ext.wrote e)) q⟩
        unfold seqIndex?
        simp
    · exact h.elim
  · exact h.elim
theorem findD_ok {y : D} : ∀ {xs : List D} {j : Nat}, findD y xs = some j → (∃ z, (toPs xs)[j]? = some z ∧ PyData.eqv z (toP y) = true) ∧ ∀ (m : Nat) (z' : PyData), m < j → (toPs xs)[m]? = some z' → PyData.eqv z' (toP y) = false
  | [], j, h => by cases h
  | x :: r, j, h => by
    unfold findD at h
    simp only [toPs]
    split at h
    · rename_i hx
      cases h
      exact ⟨⟨_, rfl, hx⟩, fun m z' hm => absurd hm (Nat.not_lt_zero _)⟩
    · rename_i hx
      cases e : findD y r with
      | none => rw [e] at h; cases h
      | some i =>
        rw [e] at h
        cases h
        obtain ⟨⟨z, h1, h2⟩, h3⟩ := findD_ok e
        refine ⟨⟨z, by simpa using h1, h2⟩, fun m z' hm hz => ?_⟩
        cases m with
        | zero =>
          simp at hz
          subst hz
          exact Bool.eq_false_iff.mpr hx
        | succ m => exact h3 m z' (by simpa using hm) (by simpa using hz)
theorem ref_remove : RefM K mRemove (rRemD K) := by
  intro Z x ds vx vs G H Q Kc s rx r h k
  unfold mRemove at h
  split at h
  · rename_i a d
    split at h
    · rename_i xs e
      cases rx
      obtain ⟨v, rfl, rv⟩ := rp1 r rfl
      obtain ⟨ys, h1, r1⟩ := s.at_ a _ e
      obtain ⟨o1, o2, h⟩ := h
      split at h
      · rename_i j ej
        unfold okD at o1 o2
        rw [Bool.and_eq_true] at o1 o2
        obtain ⟨⟨z, z1, z2⟩, z3⟩ := findD_ok ej
        have p1 : pureDs xs = true := by simpa only [pureD] using o1.1
        have sh : SeqAt.shaped (.list (toPs xs)) = true := by simpa only [toP] using o1.2
        exact ⟨a, v, ys, toP d, toPs xs, j, z, rfl, rfl, h1, RpL.dp r1 p1, rv.dp o2.1, sh, o2.2, z1, z2, z3, k _ _ _ _ (Ext.wrote e) (wroteLst s e (r1.eraseIdx j)) .non h⟩
      · exact h.elim
    · exact h.elim
  · exact h.elim
end
section
variable {X : Cx} {o e : Expr} {es : List Expr} {to : DE} {t : DA} {name : Str} {apos cpos : Pos} {id : String} {r : DM} {rv : V → List V → Hp → VK → Prop}
theorem q_bm (slot : Slot "list" name id) (hty : typeOf (.builtin id) = pure (.type "method_descriptor")) (hm : MtM X id rv) (hr : RefM X.K r rv) (ho : PE X o (lowE X.K to)) (ha : PA X (e :: es) (lowA X.K t))
    (hbase : attributeBase o name X.env (eval o X.env) = eval o X.env := by rfl)
    (hfew : ((backTo cpos (starEach (e :: es) X.env)).all (fun x => !x.1) && (backToKw cpos (keywordEach [] X.env)).all (fun x => x.1.isSome)
      && decide ((e :: es).length + ([] : List Keyword).length + (if ([] : List Keyword).isEmpty then 0 else 1) < 30)) = true := by rfl)
    (hline : (apos.endLine == cpos.line) = true := by rfl) (hs : starEach (e :: es) X.env = (false, eval e X.env) :: starEach es X.env := by rfl) (hplain : (backTo cpos (starEach es X.env)).any (·.1) = false := by rfl) :
    PE X (.Call (.Attribute o name apos) (e :: es) [] cpos) (lowE X.K (dBM r to t)) :=
  qe_of (pe_bm PySem.F.plainAttrs_list slot hty hm ho ha hbase hfew hline hs hplain) fun σ H Z G δ Q Kc ss q k => ⟨Z, G, δ, _, ss, q, fun d v G1 H1 e1 s1 r1 q1 => by
    cases r1 with
    | ref a =>
      obtain ⟨⟨xs, hx⟩, q1⟩ := q1
      obtain ⟨ys, h1, _⟩ := s1.at_ a _ hx
      exact ⟨.inl ⟨rfl, ys, SqL.of h1⟩, Z, G1, δ, _, ss.mono e1 s1, q1, fun ds vs G2 H2 e2 s2 r2 q2 => hr Z _ _ _ _ G2 H2 Q Kc s2 (.ref a) r2 q2 fun d v G' H' e s r q => k d v G' H' ((e1.trans e2).trans e) s r q⟩
    | _ => exact q1.elim⟩
end
end VL
set_option Elab.async false
set_option linter.all false
set_option maxRecDepth 100000
set_option maxHeartbeats 4000000
/-! Dicts whose keys are tuples, by values. -/
namespace VL
open PySem L2

/-! ### pairs as tables -/
section
variable {α : Type}
def getA (kvs : List (List Key × α)) (k : List Key) : Option α := (kvs.find? fun kv => decide (kv.1 = k)).map (·.2)
def setA (kvs : List (List Key × α)) (k : List Key) (v : α) : List (List Key × α) :=
  if (kvs.any fun kv => decide (kv.1 = k)) = true then kvs.map (fun kv => if kv.1 = k then (kv.1, v) else kv) else kvs ++ [(k, v)]
theorem getA_nil {k : List Key} : getA ([] : List (List Key × α)) k = none := rfl
theorem getA_pos {p : List Key × α} {r : List (List Key × α)} {k : List Key} (e : p.1 = k) : getA (p :: r) k = some p.2 := by simp [getA, List.find?_cons, e]
theorem getA_neg {p : List Key × α} {r : List (List Key × α)} {k : List Key} (e : ¬ p.1 = k) : getA (p :: r) k = getA r k := by simp [getA, List.find?_cons, e]
theorem getA_any (k : List Key) : ∀ kvs : List (List Key × α), (kvs.any fun kv => decide (kv.1 = k)) = (getA kvs k).isSome
  | [] => rfl
  | p :: r => by
    rw [List.any_cons]
    by_cases e : p.1 = k
    · simp only [getA_pos e, decide_eq_true e, Bool.true_or, Option.isSome_some]
    · rw [getA_neg e, decide_eq_false e, Bool.false_or]; exact getA_any k r
theorem getA_map (k j : List Key) (y : α) : ∀ kvs : List (List Key × α), getA (kvs.map fun kv => if kv.1 = k then (kv.1, y) else kv) j = (getA kvs j).map fun x => if j = k then y else x
  | [] => rfl
  | p :: r => by
    rw [List.map_cons]
    by_cases h : p.1 = k
    · rw [if_pos h]
      by_cases e : p.1 = j
      · rw [getA_pos (p := (p.1, y)) e, getA_pos e, Option.map_some, if_pos (e.symm.trans h)]
      · rw [getA_neg (p := (p.1, y)) e, getA_neg e, getA_map k j y r]
    · rw [if_neg h]
      by_cases e : p.1 = j
      · rw [getA_pos (p := p) e, getA_pos e, Option.map_some, if_neg (fun z => h (e.trans z))]
      · rw [getA_neg (p := p) e, getA_neg e, getA_map k j y r]
theorem getA_snoc (k j : List Key) (y : α) : ∀ kvs : List (List Key × α), getA kvs k = none → getA (kvs ++ [(k, y)]) j = if j = k then some y else getA kvs j
  | [], _ => by
    by_cases e : k = j
    · rw [if_pos e.symm]; exact getA_pos (p := (k, y)) e
    · rw [if_neg (fun z => e z.symm)]; exact getA_neg (p := (k, y)) e
  | p :: r, hn => by
    rw [List.cons_append]
    have hk : ¬ p.1 = k := fun z => by rw [getA_pos z] at hn; cases hn
    rw [getA_neg hk] at hn
    by_cases e : p.1 = j
    · rw [getA_pos e, getA_pos e, if_neg (fun z => hk (e.trans z))]
    · rw [getA_neg e, getA_neg e, getA_snoc k j y r hn]
theorem getA_set (kvs : List (List Key × α)) (k j : List Key) (y : α) : getA (setA kvs k y) j = if j = k then some y else getA kvs j := by
  unfold setA
  by_cases a : (kvs.any fun kv => decide (kv.1 = k)) = true
  · rw [if_pos a, getA_map]
    rw [getA_any] at a
    by_cases e : j = k
    · obtain ⟨x, hx⟩ := Option.isSome_iff_exists.mp a
      rw [if_pos e, e, hx, Option.map_some, if_pos rfl]
    · rw [if_neg e]
      cases getA kvs j with
      | none => rfl
      | some x => rw [Option.map_some, if_neg e]
  · rw [if_neg a]
    refine getA_snoc k j y kvs ?_
    rw [getA_any] at a
    cases q : getA kvs k with
    | none => rfl
    | some x => rw [q] at a; exact (a rfl).elim
theorem setA_length (kvs : List (List Key × α)) (k : List Key) (y : α) : (setA kvs k y).length = if (getA kvs k).isSome = true then kvs.length else kvs.length + 1 := by
  unfold setA
  rw [getA_any]
  split <;> simp
end
section
variable {B : Bd} {G : Hd} {H : Hp}
theorem RpF.get {k : List Key} : ∀ {ds : List (List Key × D)} {vs : List (List Key × V)}, RpF B G H ds vs →
    (getA ds k = none ∧ valV vs k = none) ∨ ∃ d v, getA ds k = some d ∧ valV vs k = some v ∧ Rp B G H d v
  | _, _, .nil => .inl ⟨rfl, rfl⟩
  | _, _, .cons (k := k') a b => by
    by_cases e : k' = k
    · exact .inr ⟨_, _, getA_pos e, valV_pos e, a⟩
    · rw [getA_neg e, valV_neg e]
      exact RpF.get b
theorem RpF.repl {k : List Key} {d : D} {v : V} (r : Rp B G H d v) : ∀ {ds : List (List Key × D)} {vs : List (List Key × V)}, RpF B G H ds vs →
    RpF B G H (ds.map fun kv => if kv.1 = k then (kv.1, d) else kv) (vs.map fun kv => if kv.1 = k then (kv.1, v) else kv)
  | _, _, .nil => .nil
  | _, _, .cons (k := k') a b => by
    rw [List.map_cons, List.map_cons]
    by_cases e : k' = k
    · rw [if_pos e, if_pos e]; exact .cons r (RpF.repl r b)
    · rw [if_neg e, if_neg e]; exact .cons a (RpF.repl r b)
theorem RpF.snoc {κ : Type} {k : κ} {d : D} {v : V} (r : Rp B G H d v) : ∀ {ds : List (κ × D)} {vs : List (κ × V)}, RpF B G H ds vs → RpF B G H (ds ++ [(k, d)]) (vs ++ [(k, v)])
  | _, _, .nil => .cons r .nil
  | _, _, .cons a b => .cons a (RpF.snoc r b)
theorem RpF.put {k : List Key} {d : D} {v : V} (r : Rp B G H d v) {ds : List (List Key × D)} {vs : List (List Key × V)} (q : RpF B G H ds vs) : RpF B G H (setA ds k d) (putK vs k v) := by
  have e : (ds.any fun kv => decide (kv.1 = k)) = vs.any fun kv => decide (kv.1 = k) := by
    rw [getA_any, valV_any]
    rcases q.get (k := k) with ⟨a, b⟩ | ⟨_, _, a, b, _⟩ <;> rw [a, b] <;> rfl
  unfold setA putK
  rw [e]
  split
  · exact q.repl r
  · exact q.snoc r
end

/-! ### keys -/
def keyD : D → Option Key
  | .int i => some (.inl i)
  | .str x => some (.inr x)
  | _ => none
def keysD : List D → Option (List Key)
  | [] => some []
  | d :: r => match keyD d, keysD r with
    | some k, some ks => some (k :: ks)
    | _, _ => none
def keyT : D → Option (List Key)
  | .tup ds => keysD ds
  | _ => none
theorem keyD_rp {B : Bd} {G : Hd} {H : Hp} {d : D} {v : V} {k : Key} (r : Rp B G H d v) (h : keyD d = some k) : v = kV k := by
  cases r with
  | int i => cases h; rfl
  | str x => cases h; rfl
  | _ => cases h
theorem keysD_rp {B : Bd} {G : Hd} {H : Hp} : ∀ {ds : List D} {vs : List V} {ks : List Key}, RpL B G H ds vs → keysD ds = some ks → vs = ks.map kV
  | _, _, _, .nil, h => by cases h; rfl
  | _, _, ks, .cons a b, h => by
    unfold keysD at h
    split at h
    · rename_i k' ks' e1 e2
      cases h
      rw [List.map_cons, keyD_rp a e1, keysD_rp b e2]
    · cases h
theorem keyT_rp {B : Bd} {G : Hd} {H : Hp} {d : D} {v : V} {ks : List Key} (r : Rp B G H d v) (h : keyT d = some ks) : ∃ b, v = .ref b ∧ H b = some (.tup (ks.map kV)) := by
  cases r with
  | tup h1 g z r =>
    refine ⟨_, rfl, ?_⟩
    rw [h1, keysD_rp r h]
  | _ => cases h
theorem keyT2 {i j : Int} : keyT (.tup [.int i, .int j]) = some [.inl i, .inl j] := rfl

/-- what a tracked dict says at a key -/
def dictOf (G : Hd) : D → Option (List (List Key × D))
  | .ref a => match G a with
    | some (.dT kvs) => some kvs
    | _ => none
  | _ => none
theorem dictOf_rp {B : Bd} {G : Hd} {H : Hp} {d : D} {v : V} {kvs : List (List Key × D)} (s : Sim B G H) (r : Rp B G H d v) (h : dictOf G d = some kvs) : ∃ a xs, d = .ref a ∧ v = .ref a ∧ G a = some (.dT kvs) ∧ H a = some (.dT xs) ∧ RpF B G H kvs xs := by
  cases r with
  | ref a =>
    simp only [dictOf] at h
    split at h
    · rename_i ks e
      cases h
      obtain ⟨xs, h1, r1⟩ := s.at_ a _ e
      exact ⟨a, xs, rfl, rfl, e, h1, r1⟩
    · cases h
  | _ => cases h
def dDGet2 (td ty tx : DE) : DE := fun δ G Q => td δ G fun x G1 => (dictOf G1 x).isSome = true ∧ ty δ G1 fun y G2 => tx δ G2 fun z G3 => match dictOf G3 x, keyT y with
  | some kvs, some ks => Q ((getA kvs ks).getD z) G3
  | _, _ => False
def dDGet (td ty : DE) : DE := fun δ G Q => td δ G fun x G1 => ty δ G1 fun y G2 => match dictOf G2 x, keyT y with
  | some kvs, some ks => match getA kvs ks with
    | some d => Q d G2
    | none => False
  | _, _ => False
def dDIn (neg : Bool) (ty td : DE) : DE := fun δ G Q => ty δ G fun y G1 => td δ G1 fun x G2 => match dictOf G2 x, keyT y with
  | some kvs, some ks => Q (.bl (if neg then !(getA kvs ks).isSome else (getA kvs ks).isSome)) G2
  | _, _ => False
def dDPut (td ty tv : DE) : DS := fun E δ G => tv δ G fun v G1 => td δ G1 fun x G2 => ty δ G2 fun y G3 => match x with
  | .ref a => match G3 a, keyT y with
    | some (.dT kvs), some ks => kvs.length < sizeLine ∧ E.nx δ (updD G3 a (.dT (setA kvs ks v)))
    | _, _ => False
  | _ => False
def dDNew : DE := fun δ G Q => ∀ p, G p = none → Q (.ref p) (updD G p (.dT []))
def dDisp1 (tk tv : DE) : DE := fun δ G Q => ∀ p, G p = none → tk δ (updD G p (.dT [])) fun x G1 => tv δ G1 fun y G2 => match G2 p, keyT x with
  | some (.dT []), some ks => Q (.ref p) (updD G2 p (.dT [(ks, y)]))
  | _, _ => False
section
variable {X : Cx} {o e f value : Expr} {apos cpos pos pos' : Pos} {td ty tx tv : DE}
theorem q_dget2 (hu : X.A.units + 64 < cLine) (ho : PE X o (lowE X.K td)) (he : PE X e (lowE X.K ty)) (hf : PE X f (lowE X.K tx)) (m : M2 X o "get" apos e f cpos) : PE X (.Call (.Attribute o "get" apos) [e, f] [] cpos) (lowE X.K (dDGet2 td ty tx)) :=
  qe_of (pe_dget2 (by omega) ho he hf m) fun σ H Z G δ Q Kc ss q k => ⟨Z, G, δ, _, ss, q, fun d1 v1 G1 H1 e1 s1 r1 q1 => by
    obtain ⟨h0, q1⟩ := q1
    obtain ⟨kvs0, h0⟩ := Option.isSome_iff_exists.mp h0
    obtain ⟨a, xs0, rfl, rfl, g0, hH0, _⟩ := dictOf_rp s1 r1 h0
    refine ⟨a, rfl, .inr ⟨xs0, .inl hH0⟩, Z, G1, δ, _, ss.mono e1 s1, q1, fun d2 v2 G2 H2 e2 s2 r2 q2 => ⟨Z, G2, δ, _, (ss.mono e1 s1).mono e2 s2, q2, fun d3 v3 G3 H3 e3 s3 r3 q3 => ?_⟩⟩
    split at q3
    · rename_i kvs ks h1 h2
      obtain ⟨a', xs, ea, _, g1, hH, rf⟩ := dictOf_rp s3 (.ref a) h1
      cases ea
      obtain ⟨b, rfl, hb⟩ := keyT_rp (r2.mono e3) h2
      refine ⟨valV xs ks, .inr ⟨xs, ks, b, .inl hH, rfl, hb, rfl⟩, ?_⟩
      have ee := (e1.trans e2).trans e3
      rcases rf.get (k := ks) with ⟨z1, z2⟩ | ⟨d, v, z1, z2, rd⟩
      · rw [z1] at q3
        rw [z2]
        exact k _ _ G3 H3 ee s3 r3 q3
      · rw [z1] at q3
        rw [z2]
        exact k _ _ G3 H3 ee s3 rd q3
    · exact q3.elim⟩
theorem q_dget (hu : X.A.units + 64 < cLine) (ho : PE X o (lowE X.K td)) (he : PE X e (lowE X.K ty)) (hs : NoSl e) : PE X (.Subscript o e pos) (lowE X.K (dDGet td ty)) :=
  qe_of (pe_dget (by omega) ho he hs) fun σ H Z G δ Q Kc ss q k => ⟨Z, G, δ, _, ss, q, fun d1 v1 G1 H1 e1 s1 r1 q1 => ⟨Z, G1, δ, _, ss.mono e1 s1, q1, fun d2 v2 G2 H2 e2 s2 r2 q2 => by
    split at q2
    · rename_i kvs ks h1 h2
      split at q2
      · rename_i d hd
        obtain ⟨a, xs, rfl, rfl, g1, hH, rf⟩ := dictOf_rp s2 (r1.mono e2) h1
        obtain ⟨b, rfl, hb⟩ := keyT_rp r2 h2
        rcases rf.get (k := ks) with ⟨z1, z2⟩ | ⟨d', v, z1, z2, rd⟩
        · rw [hd] at z1; cases z1
        · rw [hd] at z1
          cases z1
          exact ⟨a, v, rfl, .inr ⟨xs, ks, b, .inl hH, rfl, hb, z2.symm⟩, k _ _ G2 H2 (e1.trans e2) s2 rd q2⟩
      · exact q2.elim
    · exact q2.elim⟩⟩
theorem in_low {neg : Bool} {K : PySem.W.Frag} {Z : Addr → Prop} {x y : D} {vx vy : V} {G : Hd} {H : Hp} {Q : KD} (s : Sim ⟨K, Z⟩ G H) (rx : Rp ⟨K, Z⟩ G H x vx) (ry : Rp ⟨K, Z⟩ G H y vy)
    (h : match dictOf G x, keyT y with
      | some kvs, some ks => Q (.bl (if neg then !(getA kvs ks).isSome else (getA kvs ks).isSome)) G
      | _, _ => False) : ∃ a o, vx = .ref a ∧ DGet H a vy o ∧ Q (.bl (if neg then !o.isSome else o.isSome)) G := by
  split at h
  · rename_i kvs ks h1 h2
    obtain ⟨a, xs, rfl, rfl, g1, hH, rf⟩ := dictOf_rp s rx h1
    obtain ⟨b, rfl, hb⟩ := keyT_rp ry h2
    refine ⟨a, valV xs ks, rfl, .inr ⟨xs, ks, b, .inl hH, rfl, hb, rfl⟩, ?_⟩
    rcases rf.get (k := ks) with ⟨z1, z2⟩ | ⟨d', v, z1, z2, rd⟩ <;> rw [z1] at h <;> rw [z2] <;> exact h
  · exact h.elim
theorem qt_din (hu : X.A.units + 64 < cLine) (he : PE X e (lowE X.K ty)) (ho : PE X o (lowE X.K td)) (hm : behindInMarks .In o = false := by rfl) : PT X (.Compare e [.In] [o] pos) (lowT X.K (dTest (dDIn false ty td))) :=
  qt_of (pt_cmp (pc_din (by omega) he ho) hm) fun σ H Z G δ Q Kc ss q k => ⟨Z, G, δ, _, ss, q, fun d1 v1 G1 H1 e1 s1 r1 q1 => ⟨Z, G1, δ, _, ss.mono e1 s1, q1, fun d2 v2 G2 H2 e2 s2 r2 q2 => by
    obtain ⟨a, ov, rfl, g, q⟩ := in_low (neg := false) (Q := fun x G' => match x with | .bl k => Q k G' | _ => False) s2 r2 (r1.mono e2) q2
    exact ⟨a, ov, rfl, g, ov.isSome, rfl, k _ G2 H2 (e1.trans e2) s2 q⟩⟩⟩
theorem qt_dnotin (hu : X.A.units + 64 < cLine) (he : PE X e (lowE X.K ty)) (ho : PE X o (lowE X.K td)) (hm : behindInMarks .NotIn o = false := by rfl) : PT X (.Compare e [.NotIn] [o] pos) (lowT X.K (dTest (dDIn true ty td))) :=
  qt_of (pt_cmp (pc_dnotin (by omega) he ho) hm) fun σ H Z G δ Q Kc ss q k => ⟨Z, G, δ, _, ss, q, fun d1 v1 G1 H1 e1 s1 r1 q1 => ⟨Z, G1, δ, _, ss.mono e1 s1, q1, fun d2 v2 G2 H2 e2 s2 r2 q2 => by
    obtain ⟨a, ov, rfl, g, q⟩ := in_low (neg := true) (Q := fun x G' => match x with | .bl k => Q k G' | _ => False) s2 r2 (r1.mono e2) q2
    exact ⟨a, ov, rfl, g, !ov.isSome, rfl, k _ G2 H2 (e1.trans e2) s2 q⟩⟩⟩
theorem qs_dput (hu : X.A.units + 64 < cLine) (ho : PE X o (lowE X.K td)) (he : PE X e (lowE X.K ty)) (hv : PE X value (lowE X.K tv)) (hs : swapsWith value (some (.Subscript o e pos')) pos.line X.env = pure false := by rfl) :
    PS X (.Assign [.Subscript o e pos'] value pos) (lowS X.K (dDPut td ty tv)) :=
  qs_of (ps_dput (by omega) ho he hv hs) fun D' σ H Z G δ E ss q l => ⟨Z, G, δ, _, ss, q, fun d0 v0 G1 H1 e1 s1 r1 q1 => ⟨Z, G1, δ, _, ss.mono e1 s1, q1, fun d2 v2 G2 H2 e2 s2 r2 q2 => ⟨Z, G2, δ, _, (ss.mono e1 s1).mono e2 s2, q2, fun d3 v3 G3 H3 e3 s3 r3 q3 => by
    have r2' := r2.mono e3
    cases r2' with
    | ref a =>
      dsimp only at q3
      split at q3
      · rename_i kvs ks h1 h2
        obtain ⟨xs, hH, rf⟩ := s3.at_ a _ h1
        obtain ⟨b, rfl, hb⟩ := keyT_rp r3 h2
        have ee := (e1.trans e2).trans e3
        have r0 := (r1.mono e2).mono e3
        have ex : Ext G3 H3 (updD G3 a (.dT (setA kvs ks d0))) (upd H3 a (.dT (putK xs ks v0))) := Ext.wrote h1
        have sw : Sim ⟨X.K, Z⟩ (updD G3 a (.dT (setA kvs ks d0))) (upd H3 a (.dT (putK xs ks v0))) := s3.wrote h1 fun ex => ⟨_, upd_same, (rf.put r0).mono ex⟩
        exact ⟨a, _, rfl, .inr ⟨xs, ks, b, hH, rfl, hb, by rw [← rf.length]; exact q3.1, rfl⟩, l.nx δ σ _ _ (ee.trans ex) (ss.mono (ee.trans ex) sw) q3.2⟩
      · exact q3.elim
    | _ => exact q3.elim⟩⟩⟩
theorem q_dnew : PE X (.Dict [] [] pos) (lowE X.K dDNew) :=
  qe_of pe_dnewT fun σ H Z G δ Q Kc ss q k => fun p hp => k _ _ (updD G p (.dT [])) _ (Ext.laidT hp) (ss.sim.laidT hp (u := .dT []) fun _ => ⟨[], upd_same, .nil⟩) (.ref p) (q p (ss.sim.free hp))
/-- {k: v}, k a tuple -/
theorem pe_dispT1 {k v : Expr} {tk tv : TE} (hu : X.A.units + 64 < cLine) (hk : PE X k tk) (hv : PE X v tv) : PE X (.Dict [some k] [v] pos) (fun σ H Q => ∀ p, H p = none → tk σ (upd H p (.dT [])) fun x H1 => tv σ H1 fun y H2 => H2 p = some (.dT []) ∧ ∃ b ks, x = .ref b ∧ H2 b = some (.tup (ks.map kV)) ∧ Q (.ref p) (upd H2 p (.dT [(ks, y)]))) := by
  refine ⟨fun pins s σ H Q I q => ?_⟩
  have hn := I.hok.fresh (Nat.le_refl s.heap.objs.size)
  have I1 := I.laid (a := s.heap.objs.size) (o := .dT []) (h' := s.heap.push { cls := .type "dict", data := .dict #[] }) (t' := s.toks) (fun _ _ q => Heap.get?_push_of_some _ q) (Nat.le_refl _) (dt_empty s.heap I.big)
  rw [arm_eval_Dict, zip_pairTrees [some k] [v] X.env pos rfl rfl, dictDisplay_pairs (pairTrees [some k] [v] X.env pos) (by intro h; cases h) (by show 1 < 17; decide)]
  have hroom : (tupleKind (mixKind X.prog X.w)).room X.A := show X.A.units < cLine by omega
  refine wpAny_bind (wpAny_standAt (wpAny_bind (wpAny_subDictH (knd := tupleKind (mixKind X.prog X.w)) (Q := fun d s' => wpAny (model X.prog X.w) X.A (pure (Value.ref d)) (EP X pins σ Q) X.xe s') hroom (by show 1 ≤ 15; decide)
    (pairTrees_cons_walk (thn (hk.run pins _ σ _ _ I1 (q _ hn)) fun u s1 ⟨x, H1, I2, rx, q1⟩ => thn (hv.run pins s1 σ H1 _ I2 q1) fun w2 s2 ⟨y, H2, I3, ry, e, b, ks, ex, eb, q2⟩ => pairTrees_nil_walk ?_)))))
  subst ex
  obtain rfl : u = Value.ref b := rx
  obtain ⟨z, hd, xs0, r0, dd⟩ := dt_of I3.hok e
  cases r0
  refine ⟨[(ks, b, w2)], ⟨rfl, rfl, key_of I3.hok eb, trivial⟩, dd, fun h' tk dd' hs => wpAny_pure ⟨.ref s.heap.objs.size, _, ?_, rfl, q2⟩⟩
  obtain ⟨qo, es, ep, hq, h2, h3, h4, _, h5⟩ := dd'
  refine d_write I3 (by rw [e]; exact True.intro) hs ⟨qo, hq⟩ ⟨by show 1 ≤ sizeLine; decide, hd, _, (?_ : KT _ [(ks, y)] [(ks, b, w2)]), qo, es, ep, hq, h2, h3, h4, h5⟩
  refine .cons ⟨rfl, ?_, ry⟩ .nil
  show upd H2 s.heap.objs.size _ b = _
  rw [upd_ne (ne_of eb e (fun z => nomatch z))]
  exact eb
theorem q_disp1 {k v : Expr} {tk tv : DE} (hu : X.A.units + 64 < cLine) (hk : PE X k (lowE X.K tk)) (hv : PE X v (lowE X.K tv)) : PE X (.Dict [some k] [v] pos) (lowE X.K (dDisp1 tk tv)) :=
  qe_of (pe_dispT1 hu hk hv) fun σ H Z G δ Q Kc ss q kk => fun p hp => by
    have e0 : Ext G H (updD G p (.dT [])) (upd H p (.dT [])) := Ext.laidT hp
    have s0 : Sim ⟨X.K, Z⟩ (updD G p (.dT [])) (upd H p (.dT [])) := ss.sim.laidT hp fun _ => ⟨[], upd_same, .nil⟩
    refine ⟨Z, _, δ, _, ss.mono e0 s0, q p (ss.sim.free hp), fun d1 v1 G1 H1 e1 s1 r1 q1 => ⟨Z, G1, δ, _, (ss.mono e0 s0).mono e1 s1, q1, fun d2 v2 G2 H2 e2 s2 r2 q2 => ?_⟩⟩
    split at q2
    · rename_i ks h1 h2
      obtain ⟨xs, hH, rf⟩ := s2.at_ p _ h1
      cases rf
      obtain ⟨b, rfl, hb⟩ := keyT_rp (r1.mono e2) h2
      have ex : Ext G2 H2 (updD G2 p (.dT [(ks, d2)])) (upd H2 p (.dT [(ks, v2)])) := Ext.wrote h1
      have sw : Sim ⟨X.K, Z⟩ (updD G2 p (.dT [(ks, d2)])) (upd H2 p (.dT [(ks, v2)])) := s2.wrote h1 fun ex => ⟨_, upd_same, .cons (r2.mono ex) .nil⟩
      exact ⟨hH, b, ks, rfl, hb, kk _ _ _ _ (((e0.trans e1).trans e2).trans ex) sw (.ref p) q2⟩
    · exact q2.elim
end
end VL
set_option Elab.async false
set_option linter.all false
set_option maxRecDepth 100000
set_option maxHeartbeats 4000000
/-! Three names at once. -/
namespace VL
open PySem L2
def dPar3 (i j k : Nat) (ta : DA) : DS := fun E δ G => ta δ G fun ds G1 => match ds with
  | [d, e, f] => E.nx (((δ.set i (some d)).set j (some e)).set k (some f)) G1
  | _ => False
theorem qs_par3 {X : Cx} (i j k : Nat) {x y z : Str} {a b c : Expr} {ta : DA} {pos px py pz pt : Pos} {kt k2 pt2} (hc : X.calm = true) (hN : X.N.Nodup) (hij : i ≠ j) (hik : i ≠ k) (hjk : j ≠ k) (ha : PA X [a, b, c] (lowA X.K ta)) (hi : X.N[i]? = some x := by rfl) (hj : X.N[j]? = some y := by rfl) (hk : X.N[k]? = some z := by rfl)
    (hx : X.env.scope.names.lookup x = some .local := by rfl) (hy : X.env.scope.names.lookup y = some .local := by rfl) (hz : X.env.scope.names.lookup z = some .local := by rfl)
    (hw : swappedStores [.Tuple [.Name x px, .Name y py, .Name z pz] kt pt] (.Tuple [a, b, c] k2 pt2) X.env = pure (some [x, y, z]) := by rfl)
    (hs : swapsWithSole [.Tuple [.Name x px, .Name y py, .Name z pz] kt pt] (.Tuple [a, b, c] k2 pt2) pos.line X.env = pure false := by rfl) :
    PS X (.Assign [.Tuple [.Name x px, .Name y py, .Name z pz] kt pt] (.Tuple [a, b, c] k2 pt2) pos) (lowS X.K (dPar3 i j k ta)) :=
  qs_of (ps_par3 hc hN hi hj hk hij hik hjk hx hy hz ha hw hs) fun D' σ H Z G δ E ss q l => ⟨Z, G, δ, _, ss, q, fun ds vs G1 H1 e1 s1 r1 q1 => by
    cases r1 with
    | nil => exact q1.elim
    | cons a b =>
      cases b with
      | nil => exact q1.elim
      | cons b c =>
        cases c with
        | nil => exact q1.elim
        | cons c d =>
          cases d with
          | cons _ _ => exact q1.elim
          | nil => exact ⟨_, _, _, rfl, l.nx _ _ G1 H1 e1 ((((ss.mono e1 s1).set a i).set b j).set c k) q1⟩⟩
end VL
set_option Elab.async false
set_option linter.all false
set_option maxRecDepth 100000
set_option maxHeartbeats 4000000
/-! The end: the law's def, called with the script. -/
namespace VL
open PySem L2 PyProof.Rows
section
variable {P : Program} {w : World} {K : PySem.W.Frag} {mg mb : Str → Option Value} {k : Nat} {fa sa : Addr} {fd : FuncData} {x : Str} {S : SpD} {sh : Shared} {raw : List Value} {ns : List Int}
/-- the world behind the top, told by an abstract heap that knows the script at most -/
structure EndAt (K : PySem.W.Frag) (P : Program) (w : World) (sh : Shared) (sa : Addr) (raw : List Value) (ns : List Int) (H : Hp) : Prop where
  only : ∀ b u, H b = some u → b = sa ∧ u = .frz { cls := .type "list", data := .seq raw.toArray } (.lst (ns.map V.int)) ∧ K.lookup sa = none
  seq : RoAt ⟨K, fun _ => False⟩ (fun _ => none) H sa (ns.map V.int)
  ok : HOk P w H sh.heap
theorem end_run {H : Hp} (e : EndAt K P w sh sa raw ns H) (KX : K.In sh.heap) (hns : sh.heap.Ns mainGlobals mg) (hb : sh.heap.Ns builtinsNs mb) (hbb : ∀ x : Str, x ≠ "__name__" → mb x = bootBuiltins x) (hlim : sh.heap.NoLimit) (hg : sh.gens = #[])
    (hsa : sh.heap.get? sa = some { cls := .type "list", data := .seq raw.toArray }) (hr : Room k callerA) (F : ∀ base : Heap, K.In base → base.Ns mainGlobals mg → FnA P w K mg base k fa fd [x] S) (hbind : ∀ (s : Shared) (u : Value), BindsTo s fd ⟨[u], []⟩ [(x, u)])
    (hS : S [.ro (ns.map .int)] (fun _ => none) fun d _ => d = .bl true) : codeAny (model P w) callerA (.call (.ref fa) ⟨[.ref sa], []⟩) (fun r s' => r = .ok (.ret (.bool true)) ∧ OldK sh.heap s'.heap ∧ s'.os = sh.os ∧ AllBare s'.gens) sh := by
  have out : ∀ {b : Addr} {o : Obj}, sh.heap.get? b = some o → (b = sa → K.lookup sa = none → False) → (hidT sh.heap H).get? b = some o := fun {b o} q no => hidT_get q (by
    cases z : H b with
    | none => rfl
    | some u => obtain ⟨z1, _, z3⟩ := e.only b u z; exact False.elim (no z1 z3))
  have isd : ∀ {b : Addr} {m : Str → Option Value}, sh.heap.Ns b m → (hidT sh.heap H).Ns b m := fun {b m} ⟨o, es, ep, q, d, r⟩ => ⟨o, es, ep, out q (fun z _ => by
    subst z
    rw [hsa] at q
    cases q
    exact nomatch (show Data.seq raw.toArray _ = Data.dict es ep from d)), d, r⟩
  have kin : K.In (hidT sh.heap H) := fun b o q => out (KX b o q) fun z n => by
    subst z
    rw [n] at q
    cases q
  have md : Mod K mg (hidT sh.heap H) := ⟨kin, isd hns, ⟨mb, isd hb, hbb⟩, (let ⟨mc, m1, m2⟩ := hlim; ⟨mc, isd m1, m2⟩)⟩
  have nil_ : ∀ {b : Addr}, b ∈ ([] : List Addr) → False := fun h => nomatch h
  have env : Env0 P w K mg (hidT sh.heap H) callerA [] sh H := ⟨rfl, md, fun _ _ q => of_hidT q, Nat.le_of_eq (hidT_size _ _), trivial, fun _ q => False.elim (nil_ q), e.ok, .of_eq hg⟩
  have sim : Sim ⟨K, fun _ => False⟩ (fun _ => none) H := ⟨fun _ _ q => (nomatch q), fun _ z => False.elim z⟩
  refine codeAny_mono ((F _ kin (isd hns)).run callerA [] sh H ⟨[.ref sa], []⟩ [.ref sa] [.ref sa] (fun _ => False) _ _ _ hr rfl env (hbind sh (.ref sa)) (.cons rfl .nil) (.cons (.ro e.seq (RpL.map_int ns)) .nil) sim hS) fun r s' h => ?_
  cases r with
  | error _ => exact False.elim h
  | ok f => cases f with
    | next => exact False.elim h
    | brk => exact False.elim h
    | cont => exact False.elim h
    | ret u =>
      obtain ⟨v, H', os, bare, un, ok', rv, d, G', _, _, rd, ed⟩ := h
      subst ed
      cases rd
      cases (show u = Value.bool true from rv)
      refine ⟨rfl, OldK.of_keep fun b o q => ?_, os, bare⟩
      cases z : H b with
      | none => exact un.keep b o q z (fun m => False.elim (nil_ m)) (fun m => by cases m)
      | some t =>
        obtain ⟨_, rfl, _⟩ := e.only b t z
        have t1 := (e.ok b _ z).1
        have t2 := (ok' b _ (un.frzs b _ _ z)).1
        rw [q] at t1
        cases t1
        exact t2
theorem end_at (KX : K.In sh.heap) (hsa : sh.heap.get? sa = some { cls := .type "list", data := .seq raw.toArray }) (hi : IntsAre raw ns) (hl : ns.length ≤ sizeLine) : ∃ H, EndAt K P w sh sa raw ns H := by
  have rv := vals_ints hi
  have hz := hi.length
  cases hk : K.lookup sa with
  | some o =>
    have q := KX sa o hk
    rw [hsa] at q
    cases q
    exact ⟨fun _ => none, fun b u z => (nomatch z), .inr ⟨_, raw.toArray, _, hk, rfl, rfl, rfl, by rw [List.size_toArray]; omega, by simpa using rv⟩, fun b u z => (nomatch z)⟩
  | none =>
    refine ⟨fun b => if b = sa then some (.frz { cls := .type "list", data := .seq raw.toArray } (.lst (ns.map V.int))) else none, fun b u z => ?_, .inl ⟨.inr ⟨_, if_pos rfl⟩, rfl, id⟩, fun b u z => ?_⟩
    · split at z
      · cases z; exact ⟨by assumption, rfl, hk⟩
      · cases z
    · split at z
      · rename_i eb
        cases z
        subst eb
        exact ⟨hsa, by rw [List.length_map]; exact hl, raw, _, rv, hsa⟩
      · cases z
theorem walk_ofA {l : PySem.W.OpenLaw} {n : Nat} {q : Program} {loose : List Str} {XP : (Str → Option Value) → Heap → Prop} {YP : World → Heap → Prop} {d : DefRec} {K : Params → PySem.W.Frag} (hn : l.most = some n) (hn2 : n ≤ sizeLine) (hdf : d.params.defaults = []) (hr : Room k callerA)
    (hY : ∀ (w : World) (h : Heap), YP w h → (K w.params).In h)
    (F : ∀ (w : World) (mg : Str → Option Value) (fa : Addr) (h : Heap), XP mg h → YP w h → h.Ns mainGlobals mg → mg d.name = some (.ref fa) → ∃ fd : FuncData, (∀ (s : Shared) (u : Value), BindsTo s fd ⟨[u], []⟩ [(x, u)]) ∧
      ∀ base : Heap, (K w.params).In base → base.Ns mainGlobals mg → FnA l.prog w (K w.params) mg base k fa fd [x] S)
    (hS : ∀ ns : List Int, ns.length ≤ n → (∀ z ∈ ns, Builtin.Int.intBits z ≤ 1048576) → S [.ro (ns.map .int)] (fun _ => none) fun d _ => d = .bl true) :
    PySem.W.WalkO q loose XP YP l.row.toRowW d [] (fun f vs => PySem.call f vs) := by
  refine Att.attach_callB hn hdf fun w s₀ sh mg mb fa o pm cd doc sa raw ns G Y _ _ _ hmg hobj hints hlen hbits hg => ?_
  obtain ⟨fd, hb, hF⟩ := F w mg fa _ G.X Y G.T.g hmg
  obtain ⟨H, e⟩ := end_at (P := l.prog) (w := w) (hY w _ Y) hobj hints (Nat.le_trans hlen hn2)
  exact end_run e (hY w _ Y) G.T.g G.T.b G.T.builtins G.T.nolimit hg hobj hr hF hb (hS ns hlen hbits)
end
end VL
set_option Elab.async false
set_option linter.all false
set_option maxRecDepth 100000
set_option maxHeartbeats 4000000
/-! Loops, comprehensions by what stays. -/
namespace VL
open PySem L2

theorem loop_ind {g : DG} {tb : DS} {C : Hd → Prop} {E : DEnds} (I : List D → SD → Hd → Prop) (hnil : ∀ δ G, I [] δ G → C G ∧ E.nx δ G)
    (hcons : ∀ d r δ G (nx : SD → Hd → Prop), I (d :: r) δ G → (∀ δ' G', I r δ' G' → nx δ' G') → C G ∧ g d δ G fun δ' G' => tb { nx := nx, rt := E.rt, ct := nx, bk := E.nx } δ' G') :
    ∀ items δ G, I items δ G → dLoop g tb C items E δ G
  | [], δ, G, h => hnil δ G h
  | d :: r, δ, G, h => hcons d r δ G _ h (loop_ind I hnil hcons r)
/-- the loop with a place in the list -/
theorem loop_at {g : DG} {tb : DS} {C : Hd → Prop} {E : DEnds} {items : List D} (I : Nat → SD → Hd → Prop) (hend : ∀ δ G, I items.length δ G → C G ∧ E.nx δ G)
    (hstep : ∀ i d δ G (nx : SD → Hd → Prop), items[i]? = some d → I i δ G → (∀ δ' G', I (i + 1) δ' G' → nx δ' G') → C G ∧ g d δ G fun δ' G' => tb { nx := nx, rt := E.rt, ct := nx, bk := E.nx } δ' G') {δ : SD} {G : Hd} (h0 : I 0 δ G) :
    dLoop g tb C items E δ G := by
  have key : ∀ (r : List D) (i : Nat), r = items.drop i → i + r.length = items.length → ∀ δ G, I i δ G → dLoop g tb C r E δ G := by
    intro r
    induction r with
    | nil =>
      intro i _ hl δ G h
      have e : i = items.length := by simpa using hl
      rw [e] at h
      exact hend δ G h
    | cons d r ih =>
      intro i hr hl δ G h
      have hg : items[i]? = some d := by
        have q : (items.drop i)[0]? = some d := by rw [← hr]; rfl
        rw [List.getElem?_drop] at q
        simpa using q
      have ht : r = items.drop (i + 1) := by
        have q : (items.drop i).tail = r := by rw [← hr]; rfl
        rw [List.tail_drop] at q
        exact q.symm
      exact hstep i d δ G _ hg h (ih (i + 1) ht (by rw [List.length_cons] at hl; omega))
  exact key items 0 (by simp) (by simp) δ G h0
theorem comp_ind {g : DG} {tt : DT} {te : DE} {δ0 : SD} {C : Hd → Prop} {Q : List D → Hd → Prop} (I : List D → List D → Hd → Prop) (hnil : ∀ acc G, I [] acc G → C G ∧ Q acc G)
    (hcons : ∀ d r acc G (nx : List D → Hd → Prop), I (d :: r) acc G → (∀ acc' G', I r acc' G' → nx acc' G') → C G ∧ g d δ0 G fun δ2 G2 => tt δ2 G2 fun b G3 => if b = true then te δ2 G3 fun y G4 => acc.length < sizeLine ∧ nx (acc ++ [y]) G4 else nx acc G3) :
    ∀ items acc G, I items acc G → dCL g tt te δ0 C items acc G Q
  | [], acc, G, h => hnil acc G h
  | d :: r, acc, G, h => hcons d r acc G (fun acc' G' => dCL g tt te δ0 C r acc' G' Q) h (comp_ind I hnil hcons r)
/-- a comprehension that leaves the tracked objects alone -/
theorem comp_map {g : DG} {tt : DT} {te : DE} {δ0 : SD} {C : Hd → Prop} {Q : List D → Hd → Prop} {G : Hd} (F : D → Option D) : ∀ (items acc : List D), C G → acc.length + items.length ≤ sizeLine →
    (∀ d ∈ items, ∀ (k : Option D → Hd → Prop), k (F d) G → g d δ0 G fun δ2 G2 => tt δ2 G2 fun b G3 => if b = true then te δ2 G3 fun y G4 => k (some y) G4 else k none G3) → Q (acc ++ items.filterMap F) G → dCL g tt te δ0 C items acc G Q
  | [], acc, c, _, _, h => ⟨c, by simpa using h⟩
  | d :: r, acc, c, hl, step, h => by
    refine ⟨c, step d List.mem_cons_self (fun o G' => match o with
      | some y => acc.length < sizeLine ∧ dCL g tt te δ0 C r (acc ++ [y]) G' Q
      | none => dCL g tt te δ0 C r acc G' Q) ?_⟩
    rw [List.length_cons] at hl
    cases e : F d with
    | none =>
      refine comp_map F r acc c (by omega) (fun d hd => step d (List.mem_cons_of_mem _ hd)) ?_
      rw [List.filterMap_cons_none e] at h
      exact h
    | some y =>
      refine ⟨by omega, comp_map F r (acc ++ [y]) c (by rw [List.length_append, List.length_singleton]; omega) (fun d hd => step d (List.mem_cons_of_mem _ hd)) ?_⟩
      rw [List.filterMap_cons_some e] at h
      rw [List.append_assoc]
      exact h
theorem comp_all {g : DG} {te : DE} {δ0 : SD} {C : Hd → Prop} {Q : List D → Hd → Prop} {G : Hd} (F : D → D) (items : List D) (c : C G) (hl : items.length ≤ sizeLine)
    (step : ∀ d ∈ items, ∀ (k : D → Hd → Prop), k (F d) G → g d δ0 G fun δ2 G2 => te δ2 G2 k) (h : Q (items.map F) G) : dCL g dYes te δ0 C items [] G Q := by
  refine comp_map (fun d => some (F d)) items [] c (by simpa using hl) (fun d hd k hk => ?_) ?_
  · exact step d hd (fun y G4 => k (some y) G4) hk
  · rw [List.nil_append, show (fun d => some (F d)) = some ∘ F from rfl, List.filterMap_eq_map]
    exact h
theorem while_ind {c : DT} {b : DS} {E : DEnds} (I : Nat → SD → Hd → Prop)
    (step : ∀ m δ G (nx : SD → Hd → Prop), I m δ G → (∀ m' δ' G', m' < m → I m' δ' G' → nx δ' G') → c δ G fun k G1 => if k = true then b { nx := nx, rt := E.rt, ct := nx, bk := E.nx } δ G1 else E.nx δ G1) {m : Nat} {δ : SD} {G : Hd} (h : I m δ G) :
    dWhile c b E δ G := by
  have key : ∀ n m δ G, m < n → I m δ G → dWN c b n E δ G := by
    intro n
    induction n with
    | zero => intro m δ G hm; exact absurd hm (Nat.not_lt_zero _)
    | succ n ih =>
      intro m δ G hm hI
      exact step m δ G (dWN c b n E) hI fun m' δ' G' hlt h' => ih m' δ' G' (by omega) h'
  exact ⟨m + 1, key (m + 1) m δ G (Nat.lt_succ_self m) h⟩
theorem sp1 {S : SpD} {T : D → Hd → KD → Prop} (e : ∀ ds G Q, S ds G Q → ∃ x, ds = [x] ∧ T x G Q) : ∀ ds G Q, S ds G Q → ds.length = 1 := fun ds G Q h => by
  obtain ⟨x, rfl, _⟩ := e ds G Q h
  rfl
/-- promises by the number of arguments -/
def sp (n : Nat) (T : List D → Hd → KD → Prop) : SpD := fun ds G Q => ds.length = n ∧ T ds G Q
theorem sp_len {n : Nat} {T : List D → Hd → KD → Prop} : ∀ ds G Q, sp n T ds G Q → ds.length = n := fun _ _ _ h => h.1
end VL
set_option Elab.async false
set_option linter.all false
set_option maxRecDepth 100000
set_option maxHeartbeats 4000000
/-! Data that == and repr know: lists of flat things. -/
namespace VL
open PySem L2
theorem lay_all : ∀ {xs : List PyData}, (∀ x ∈ xs, x.canLay0 = true) → PyData.canLayAll0 xs = true
  | [], _ => by simp [PyData.canLayAll0]
  | x :: xs, h => by
    have ih := lay_all (xs := xs) fun y hy => h y (List.mem_cons_of_mem _ hy)
    have h1 := h x List.mem_cons_self
    simp [PyData.canLayAll0, ih, h1]
theorem deep_all {n : Nat} : ∀ {xs : List PyData}, (∀ x ∈ xs, x.depth ≤ n) → PyData.depthAll xs ≤ n
  | [], _ => by simp [PyData.depthAll]
  | x :: xs, h => by
    have ih := deep_all (xs := xs) fun y hy => h y (List.mem_cons_of_mem _ hy)
    have h1 := h x List.mem_cons_self
    simp [PyData.depthAll]
    omega
theorem toPs_map : ∀ xs : List D, toPs xs = xs.map toP
  | [] => rfl
  | x :: xs => by rw [toPs, toPs_map xs]; rfl
theorem pureDs_all : ∀ xs : List D, pureDs xs = xs.all pureD
  | [] => rfl
  | x :: xs => by rw [pureDs, pureDs_all xs]; rfl
/-- data of at most n levels, its texts short -/
def lowD : Nat → D → Bool
  | _, .non => true
  | _, .bl _ => true
  | _, .int _ => true
  | n + 1, .tup xs => xs.all (lowD n)
  | n + 1, .lst xs => xs.all (lowD n)
  | _, _ => false
theorem lowD_facts : ∀ (n : Nat) (d : D), lowD n d = true → pureD d = true ∧ (toP d).canLay0 = true ∧ (toP d).depth ≤ n + 1 ∧ (toP d).hasDict = false
  | n, .non, _ => by simp [pureD, toP, PyData.canLay0, PyData.depth, PyData.hasDict]
  | n, .bl _, _ => by simp [pureD, toP, PyData.canLay0, PyData.depth, PyData.hasDict]
  | n, .int _, _ => by simp [pureD, toP, PyData.canLay0, PyData.depth, PyData.hasDict]
  | n, .str _, h => by simp [lowD] at h
  | n, .ty _, h => by simp [lowD] at h
  | n, .ref _, h => by simp [lowD] at h
  | n, .ro _, h => by simp [lowD] at h
  | n, .edic, h => by simp [lowD] at h
  | 0, .tup _, h => by simp [lowD] at h
  | 0, .lst _, h => by simp [lowD] at h
  | n + 1, .tup xs, h => by
    have h' : xs.all (lowD n) = true := by simpa [lowD] using h
    rw [List.all_eq_true] at h'
    have f := fun x hx => lowD_facts n x (h' x hx)
    refine ⟨?_, ?_, ?_, ?_⟩
    · simp only [pureD]; rw [pureDs_all, List.all_eq_true]; exact fun x hx => (f x hx).1
    · have := lay_all (xs := xs.map toP) fun y hy => by obtain ⟨x, hx, rfl⟩ := List.mem_map.mp hy; exact (f x hx).2.1
      simpa [toP, toPs_map, PyData.canLay0] using this
    · have := deep_all (n := n + 1) (xs := xs.map toP) fun y hy => by obtain ⟨x, hx, rfl⟩ := List.mem_map.mp hy; exact (f x hx).2.2.1
      simp only [toP, toPs_map, PyData.depth]
      omega
    · have : ∀ ys : List PyData, (∀ y ∈ ys, y.hasDict = false) → PyData.hasDictAll ys = false := by
        intro ys
        induction ys with
        | nil => intro _; simp [PyData.hasDictAll]
        | cons y ys ih => intro q; simp [PyData.hasDictAll, q y List.mem_cons_self, ih fun z hz => q z (List.mem_cons_of_mem _ hz)]
      simp only [toP, toPs_map, PyData.hasDict]
      exact this _ fun y hy => by obtain ⟨x, hx, rfl⟩ := List.mem_map.mp hy; exact (f x hx).2.2.2
  | n + 1, .lst xs, h => by
    have h' : xs.all (lowD n) = true := by simpa [lowD] using h
    rw [List.all_eq_true] at h'
    have f := fun x hx => lowD_facts n x (h' x hx)
    refine ⟨?_, ?_, ?_, ?_⟩
    · simp only [pureD]; rw [pureDs_all, List.all_eq_true]; exact fun x hx => (f x hx).1
    · have := lay_all (xs := xs.map toP) fun y hy => by obtain ⟨x, hx, rfl⟩ := List.mem_map.mp hy; exact (f x hx).2.1
      simpa [toP, toPs_map, PyData.canLay0] using this
    · have := deep_all (n := n + 1) (xs := xs.map toP) fun y hy => by obtain ⟨x, hx, rfl⟩ := List.mem_map.mp hy; exact (f x hx).2.2.1
      simp only [toP, toPs_map, PyData.depth]
      omega
    · have : ∀ ys : List PyData, (∀ y ∈ ys, y.hasDict = false) → PyData.hasDictAll ys = false := by
        intro ys
        induction ys with
        | nil => intro _; simp [PyData.hasDictAll]
        | cons y ys ih => intro q; simp [PyData.hasDictAll, q y List.mem_cons_self, ih fun z hz => q z (List.mem_cons_of_mem _ hz)]
      simp only [toP, toPs_map, PyData.hasDict]
      exact this _ fun y hy => by obtain ⟨x, hx, rfl⟩ := List.mem_map.mp hy; exact (f x hx).2.2.2
theorem okD_low {n : Nat} {d : D} (h : lowD n d = true) (hn : n ≤ 60) : okD d = true := by
  obtain ⟨a, b, c, _⟩ := lowD_facts n d h
  unfold okD SeqAt.shaped
  rw [a, b, decide_eq_true (show (toP d).depth ≤ 64 by omega)]
  rfl
theorem eqv_nil (xs : List D) : PyData.eqv (toP (.lst xs)) (toP (.lst [])) = decide (xs = []) := by
  cases xs with
  | nil => rfl
  | cons x xs => rfl
/-- xs == [], for a list by value -/
theorem bEq_nil {n : Nat} {xs : List D} {G : Hd} {Q : KD} (h : lowD n (.lst xs) = true) (hn : n ≤ 60) (q : Q (.bl (decide (xs = []))) G) : bEq (.lst xs) (.lst []) G Q :=
  ⟨okD_low h hn, okD_low (n := 1) rfl (by decide), by
    show Q (.bl (PyData.eqv (toP (.lst xs)) (toP (.lst [])))) G
    rw [eqv_nil]
    exact q⟩
theorem bEq_nilR {n : Nat} {a : Addr} {xs : List D} {G : Hd} {Q : KD} (g : G a = some (.lst xs)) (h : lowD n (.lst xs) = true) (hn : n ≤ 60) (q : Q (.bl (decide (xs = []))) G) : bEq (.ref a) (.lst []) G Q := by
  have e : rdD G (.ref a) = .lst xs := by
    have l : lstOf G (.ref a) = some xs := by
      show trkL (G a) = some xs
      rw [g]
      rfl
    unfold rdD
    rw [l]
  show okD (rdD G (.ref a)) = true ∧ _ ∧ _
  rw [e]
  exact ⟨okD_low h hn, okD_low (n := 1) rfl (by decide), by
    show Q (.bl (PyData.eqv (toP (.lst xs)) (toP (.lst [])))) G
    rw [eqv_nil]
    exact q⟩
end VL
set_option Elab.async false
set_option linter.all false
set_option maxRecDepth 100000
set_option maxHeartbeats 4000000
/-! repr of lists of rows of small ints. -/
namespace VL
open PySem L2
/-- None, a bool, a small int -/
def tinyD : D → Bool
  | .non => true
  | .bl _ => true
  | .int i => decide (i.natAbs < 2097152)
  | _ => false
/-- one of these, or a list or tuple of at most 64 of them -/
def rowsD : D → Bool
  | .tup xs => xs.all tinyD && decide (xs.length ≤ 64)
  | .lst xs => xs.all tinyD && decide (xs.length ≤ 64)
  | d => tinyD d
theorem tiny_facts {d : D} (h : tinyD d = true) : lowD 0 d = true ∧ (toP d).showable = true ∧ (toP d).intsShort 13 = true ∧ (toP d).weight ≤ 22 := by
  cases d with
  | non => simp [lowD, toP, PyData.showable, PyData.intsShort, PyData.weight]
  | bl b => simp [lowD, toP, PyData.showable, PyData.intsShort, PyData.weight]
  | int i =>
    have hi : i.natAbs < 2097152 := of_decide_eq_true h
    have l : i.natAbs.log2 < 21 := by
      by_cases z : i.natAbs = 0
      · rw [z]; decide
      · exact (Nat.log2_lt z).mpr (by omega)
    refine ⟨by simp [lowD], ?_, ?_, ?_⟩
    · simp [toP, PyData.showable]; omega
    · have e := int_text_length_le10 (a := i) (k := 7) (by decide) (by omega)
      have e2 : (PyData.shown (.int i)).length = (toString i).length := ofString_length _
      simp only [toP, PyData.intsShort, decide_eq_true_eq]
      omega
    · simp only [toP, PyData.weight]
      split <;> omega
  | _ => cases h
theorem tinys {xs : List D} (h : ∀ x ∈ xs, tinyD x = true) (hl : xs.length ≤ 64) : PyData.showableAll (toPs xs) = true ∧ PyData.intsShortAll 13 (toPs xs) = true ∧ PyData.weightAll (toPs xs) ≤ 23 * xs.length := by
  clear hl
  induction xs with
  | nil => simp [toPs, PyData.showableAll, PyData.intsShortAll, PyData.weightAll]
  | cons x xs ih =>
    obtain ⟨_, a, b, c⟩ := tiny_facts (h x List.mem_cons_self)
    obtain ⟨a2, b2, c2⟩ := ih fun y hy => h y (List.mem_cons_of_mem _ hy)
    refine ⟨by simp [toPs, PyData.showableAll, a, a2], by simp [toPs, PyData.intsShortAll, b, b2], ?_⟩
    simp only [toPs, PyData.weightAll, List.length_cons]
    omega
theorem row_facts {d : D} (h : rowsD d = true) : lowD 1 d = true ∧ (toP d).showable = true ∧ (toP d).intsShort 13 = true ∧ (toP d).weight ≤ 1472 := by
  have seq : ∀ xs : List D, (xs.all tinyD && decide (xs.length ≤ 64)) = true → (xs.all (lowD 0)) = true ∧ PyData.showableAll (toPs xs) = true ∧ PyData.intsShortAll 13 (toPs xs) = true ∧ PyData.weightAll (toPs xs) ≤ 1472 := fun xs hx => by
    rw [Bool.and_eq_true, List.all_eq_true, decide_eq_true_eq] at hx
    obtain ⟨a, b, c⟩ := tinys hx.1 hx.2
    refine ⟨?_, a, b, by omega⟩
    rw [List.all_eq_true]
    exact fun x m => (tiny_facts (hx.1 x m)).1
  cases d with
  | tup xs =>
    obtain ⟨a, b, c, e⟩ := seq xs h
    exact ⟨by simpa [lowD] using a, by simpa [toP, PyData.showable] using b, by simpa [toP, PyData.intsShort] using c, by simpa [toP, PyData.weight] using e⟩
  | lst xs =>
    obtain ⟨a, b, c, e⟩ := seq xs h
    exact ⟨by simpa [lowD] using a, by simpa [toP, PyData.showable] using b, by simpa [toP, PyData.intsShort] using c, by simpa [toP, PyData.weight] using e⟩
  | non => simp [lowD, toP, PyData.showable, PyData.intsShort, PyData.weight]
  | bl b => simp [lowD, toP, PyData.showable, PyData.intsShort, PyData.weight]
  | int i =>
    obtain ⟨_, a, b, c⟩ := tiny_facts (d := .int i) h
    exact ⟨by simp [lowD], a, b, by omega⟩
  | _ => cases h
theorem rows_facts {xs : List D} (h : ∀ x ∈ xs, rowsD x = true) : PyData.showableAll (toPs xs) = true ∧ PyData.intsShortAll 13 (toPs xs) = true ∧ PyData.weightAll (toPs xs) ≤ 1473 * xs.length := by
  induction xs with
  | nil => simp [toPs, PyData.showableAll, PyData.intsShortAll, PyData.weightAll]
  | cons x xs ih =>
    obtain ⟨_, a, b, c⟩ := row_facts (h x List.mem_cons_self)
    obtain ⟨a2, b2, c2⟩ := ih fun y hy => h y (List.mem_cons_of_mem _ hy)
    refine ⟨by simp [toPs, PyData.showableAll, a, a2], by simp [toPs, PyData.intsShortAll, b, b2], ?_⟩
    simp only [toPs, PyData.weightAll, List.length_cons]
    omega
/-- repr of a list or tuple of rows -/
theorem repr_rows {v : D} {xs : List D} {G : Hd} {Q : KD} (hv : v = .lst xs ∨ v = .tup xs) (h : ∀ x ∈ xs, rowsD x = true) (hl : xs.length ≤ 500) (q : Q (.str (toP v).shown) G) : cRepr [v] G Q := by
  obtain ⟨a, b, c⟩ := rows_facts h
  have low : (xs.all (lowD 1)) = true := by
    rw [List.all_eq_true]
    exact fun x m => (row_facts (h x m)).1
  have rd : rdD G v = v := by rcases hv with rfl | rfl <;> rfl
  have lv : lowD 2 v = true := by rcases hv with rfl | rfl <;> simpa [lowD] using low
  have sh : (toP v).showable = true := by rcases hv with rfl | rfl <;> simpa [toP, PyData.showable] using a
  have si : (toP v).intsShort 13 = true := by rcases hv with rfl | rfl <;> simpa [toP, PyData.intsShort] using b
  have wt : (toP v).weight ≤ 736500 := by rcases hv with rfl | rfl <;> simp only [toP, PyData.weight] <;> omega
  obtain ⟨p1, p2, p3, p4⟩ := lowD_facts 2 v lv
  show pureD (rdD G v) = true ∧ _
  rw [rd]
  refine ⟨p1, sh, p4, by omega, ?_, q⟩
  have ly : PyData.layable0 (toP v) = true := by
    show (PyData.canLay0 (toP v) && decide (PyData.depth (toP v) ≤ 64) && decide (PyData.weight (toP v) ≤ 2 ^ 20)) = true
    rw [p2, decide_eq_true (show (toP v).depth ≤ 64 by omega), decide_eq_true (show (toP v).weight ≤ 2 ^ 20 by omega)]
    rfl
  have := PyProof.Rows.shown_le13 ly si
  have sz : sizeLine = 16777216 := by decide
  omega
end VL
set_option Elab.async false
set_option linter.all false
set_option maxRecDepth 100000
set_option maxHeartbeats 4000000
namespace K84
open PySem L2 VL
theorem hu64 {k : Nat} {A : Around} (h : Room k A) : A.units + 64 < cLine := by have := h.un; omega
theorem bb_int : bootBuiltins "int" = some (.type "int") := by decide +kernel
theorem bb_bool : bootBuiltins "bool" = some (.type "bool") := by decide +kernel
theorem bb_list : bootBuiltins "list" = some (.type "list") := by decide +kernel
theorem bb_tuple : bootBuiltins "tuple" = some (.type "tuple") := by decide +kernel
theorem bb_len : bootBuiltins "len" = some (.builtin "len") := by decide +kernel
theorem bb_abs : bootBuiltins "abs" = some (.builtin "abs") := by decide +kernel
theorem bb_max : bootBuiltins "max" = some (.builtin "max") := by decide +kernel
theorem bb_min : bootBuiltins "min" = some (.builtin "min") := by decide +kernel
theorem bb_divmod : bootBuiltins "divmod" = some (.builtin "divmod") := by decide +kernel
theorem bb_sum : bootBuiltins "sum" = some (.builtin "sum") := by decide +kernel
theorem bb_all : bootBuiltins "all" = some (.builtin "all") := by decide +kernel
theorem bb_any : bootBuiltins "any" = some (.builtin "any") := by decide +kernel
theorem bb_repr : bootBuiltins "repr" = some (.builtin "repr") := by decide +kernel
theorem bb_isinstance : bootBuiltins "isinstance" = some (.builtin "isinstance") := by decide +kernel
theorem hu70 {k : Nat} {A : Around} (h : Room k A) : A.units + 70 < cLine := by have := h.un; omega
def top (i : Nat) : Stmt := PySem.Challenge.pw_carryoffice_k84_whole_rounds_at_once.main.body.getD i (.Pass ⟨0, 0, 0, 0⟩)
abbrev t_is_integer : Stmt := top 8
abbrev t_is_count : Stmt := top 9
abbrev t_is_list : Stmt := top 10
abbrev t_is_row : Stmt := top 11
abbrev t_want_at_most : Stmt := top 12
abbrev t_is_ratio : Stmt := top 15
abbrev t_common_part : Stmt := top 18
abbrev t_common_under : Stmt := top 19
abbrev t_total_over : Stmt := top 20
abbrev t_want_many : Stmt := top 21
abbrev t_are_ratios_above : Stmt := top 22
abbrev t_window_begin : Stmt := top 23
abbrev t_window_end : Stmt := top 24
abbrev t_are_whole_ratios : Stmt := top 28
abbrev t_want_ratios : Stmt := top 29
abbrev t_sum_of : Stmt := top 30
abbrev t_spread : Stmt := top 32
abbrev t_rounds_of : Stmt := top 33
abbrev t_is_round : Stmt := top 34
abbrev t_is_rounds : Stmt := top 35
abbrev t__law_pot : Stmt := top 37
abbrev t__law_draw : Stmt := top 38
abbrev t__law_pick : Stmt := top 39
abbrev t__law_low : Stmt := top 40
abbrev t__law_sum : Stmt := top 41
abbrev t__law_ratios : Stmt := top 42
abbrev t__law_is_round : Stmt := top 43
abbrev t__law_is_table : Stmt := top 44
abbrev t__law_bent : Stmt := top 45
abbrev t__law_right : Stmt := top 46
abbrev t_law : Stmt := top 47
abbrev t_Spread___init__ : Stmt := inClass (top 31) 0
abbrev t_Spread_pieces : Stmt := inClass (top 31) 1
abbrev t_Spread_window : Stmt := inClass (top 31) 2
abbrev t_Spread_in_the_way : Stmt := inClass (top 31) 3
abbrev t_Spread_put : Stmt := inClass (top 31) 4
abbrev t_Spread_place : Stmt := inClass (top 31) 5
/-- what the top has written -/
structure Txt (K : PySem.W.Frag) (mg : Str → Option Value) where
  C_Spread : Addr
  m_Spread : mg "Spread" = some (.ref C_Spread)
  cl_Spread : Cls K C_Spread
  f_is_integer : Addr
  d_is_integer : FuncData
  F_is_integer : Fun K "is_integer" "is_integer" t_is_integer f_is_integer d_is_integer
  b_is_integer : Binds K d_is_integer ["value"] []
  m_is_integer : mg "is_integer" = some (.ref f_is_integer)
  kp_is_integer : PySem.W.keepIn K (.ref f_is_integer) = true
  f_is_count : Addr
  d_is_count : FuncData
  F_is_count : Fun K "is_count" "is_count" t_is_count f_is_count d_is_count
  b_is_count : Binds K d_is_count ["value"] []
  m_is_count : mg "is_count" = some (.ref f_is_count)
  kp_is_count : PySem.W.keepIn K (.ref f_is_count) = true
  f_is_list : Addr
  d_is_list : FuncData
  F_is_list : Fun K "is_list" "is_list" t_is_list f_is_list d_is_list
  b_is_list : Binds K d_is_list ["value"] []
  m_is_list : mg "is_list" = some (.ref f_is_list)
  kp_is_list : PySem.W.keepIn K (.ref f_is_list) = true
  f_is_row : Addr
  d_is_row : FuncData
  F_is_row : Fun K "is_row" "is_row" t_is_row f_is_row d_is_row
  b_is_row : Binds K d_is_row ["value", "many"] []
  m_is_row : mg "is_row" = some (.ref f_is_row)
  kp_is_row : PySem.W.keepIn K (.ref f_is_row) = true
  f_want_at_most : Addr
  d_want_at_most : FuncData
  F_want_at_most : Fun K "want_at_most" "want_at_most" t_want_at_most f_want_at_most d_want_at_most
  b_want_at_most : Binds K d_want_at_most ["what", "limit", "number"] []
  m_want_at_most : mg "want_at_most" = some (.ref f_want_at_most)
  kp_want_at_most : PySem.W.keepIn K (.ref f_want_at_most) = true
  f_is_ratio : Addr
  d_is_ratio : FuncData
  F_is_ratio : Fun K "is_ratio" "is_ratio" t_is_ratio f_is_ratio d_is_ratio
  b_is_ratio : Binds K d_is_ratio ["value"] []
  m_is_ratio : mg "is_ratio" = some (.ref f_is_ratio)
  kp_is_ratio : PySem.W.keepIn K (.ref f_is_ratio) = true
  f_common_part : Addr
  d_common_part : FuncData
  F_common_part : Fun K "common_part" "common_part" t_common_part f_common_part d_common_part
  b_common_part : Binds K d_common_part ["one", "other"] []
  m_common_part : mg "common_part" = some (.ref f_common_part)
  kp_common_part : PySem.W.keepIn K (.ref f_common_part) = true
  f_common_under : Addr
  d_common_under : FuncData
  F_common_under : Fun K "common_under" "common_under" t_common_under f_common_under d_common_under
  b_common_under : Binds K d_common_under ["ratios"] []
  m_common_under : mg "common_under" = some (.ref f_common_under)
  kp_common_under : PySem.W.keepIn K (.ref f_common_under) = true
  f_total_over : Addr
  d_total_over : FuncData
  F_total_over : Fun K "total_over" "total_over" t_total_over f_total_over d_total_over
  b_total_over : Binds K d_total_over ["ratios", "whole"] []
  m_total_over : mg "total_over" = some (.ref f_total_over)
  kp_total_over : PySem.W.keepIn K (.ref f_total_over) = true
  f_want_many : Addr
  d_want_many : FuncData
  F_want_many : Fun K "want_many" "want_many" t_want_many f_want_many d_want_many
  b_want_many : Binds K d_want_many ["value", "least", "most"] []
  m_want_many : mg "want_many" = some (.ref f_want_many)
  kp_want_many : PySem.W.keepIn K (.ref f_want_many) = true
  f_are_ratios_above : Addr
  d_are_ratios_above : FuncData
  F_are_ratios_above : Fun K "are_ratios_above" "are_ratios_above" t_are_ratios_above f_are_ratios_above d_are_ratios_above
  b_are_ratios_above : Binds K d_are_ratios_above ["value"] []
  m_are_ratios_above : mg "are_ratios_above" = some (.ref f_are_ratios_above)
  kp_are_ratios_above : PySem.W.keepIn K (.ref f_are_ratios_above) = true
  f_window_begin : Addr
  d_window_begin : FuncData
  F_window_begin : Fun K "window_begin" "window_begin" t_window_begin f_window_begin d_window_begin
  b_window_begin : Binds K d_window_begin ["share", "turn"] []
  m_window_begin : mg "window_begin" = some (.ref f_window_begin)
  kp_window_begin : PySem.W.keepIn K (.ref f_window_begin) = true
  f_window_end : Addr
  d_window_end : FuncData
  F_window_end : Fun K "window_end" "window_end" t_window_end f_window_end d_window_end
  b_window_end : Binds K d_window_end ["share", "turn"] []
  m_window_end : mg "window_end" = some (.ref f_window_end)
  kp_window_end : PySem.W.keepIn K (.ref f_window_end) = true
  f_are_whole_ratios : Addr
  d_are_whole_ratios : FuncData
  F_are_whole_ratios : Fun K "are_whole_ratios" "are_whole_ratios" t_are_whole_ratios f_are_whole_ratios d_are_whole_ratios
  b_are_whole_ratios : Binds K d_are_whole_ratios ["value"] []
  m_are_whole_ratios : mg "are_whole_ratios" = some (.ref f_are_whole_ratios)
  kp_are_whole_ratios : PySem.W.keepIn K (.ref f_are_whole_ratios) = true
  f_want_ratios : Addr
  d_want_ratios : FuncData
  F_want_ratios : Fun K "want_ratios" "want_ratios" t_want_ratios f_want_ratios d_want_ratios
  b_want_ratios : Binds K d_want_ratios ["value"] []
  m_want_ratios : mg "want_ratios" = some (.ref f_want_ratios)
  kp_want_ratios : PySem.W.keepIn K (.ref f_want_ratios) = true
  f_sum_of : Addr
  d_sum_of : FuncData
  F_sum_of : Fun K "sum_of" "sum_of" t_sum_of f_sum_of d_sum_of
  b_sum_of : Binds K d_sum_of ["ratios"] []
  m_sum_of : mg "sum_of" = some (.ref f_sum_of)
  kp_sum_of : PySem.W.keepIn K (.ref f_sum_of) = true
  f_spread : Addr
  d_spread : FuncData
  F_spread : Fun K "spread" "spread" t_spread f_spread d_spread
  b_spread : Binds K d_spread ["parts", "lines", "many"] []
  m_spread : mg "spread" = some (.ref f_spread)
  kp_spread : PySem.W.keepIn K (.ref f_spread) = true
  f_rounds_of : Addr
  d_rounds_of : FuncData
  F_rounds_of : Fun K "rounds_of" "rounds_of" t_rounds_of f_rounds_of d_rounds_of
  b_rounds_of : Binds K d_rounds_of ["ratios", "many"] []
  m_rounds_of : mg "rounds_of" = some (.ref f_rounds_of)
  kp_rounds_of : PySem.W.keepIn K (.ref f_rounds_of) = true
  f_is_round : Addr
  d_is_round : FuncData
  F_is_round : Fun K "is_round" "is_round" t_is_round f_is_round d_is_round
  b_is_round : Binds K d_is_round ["ratios", "value"] []
  m_is_round : mg "is_round" = some (.ref f_is_round)
  kp_is_round : PySem.W.keepIn K (.ref f_is_round) = true
  f_is_rounds : Addr
  d_is_rounds : FuncData
  F_is_rounds : Fun K "is_rounds" "is_rounds" t_is_rounds f_is_rounds d_is_rounds
  b_is_rounds : Binds K d_is_rounds ["ratios", "value"] []
  m_is_rounds : mg "is_rounds" = some (.ref f_is_rounds)
  kp_is_rounds : PySem.W.keepIn K (.ref f_is_rounds) = true
  f__law_pot : Addr
  d__law_pot : FuncData
  F__law_pot : Fun K "_law_pot" "_law_pot" t__law_pot f__law_pot d__law_pot
  b__law_pot : Binds K d__law_pot ["script", "k"] []
  m__law_pot : mg "_law_pot" = some (.ref f__law_pot)
  kp__law_pot : PySem.W.keepIn K (.ref f__law_pot) = true
  f__law_draw : Addr
  d__law_draw : FuncData
  F__law_draw : Fun K "_law_draw" "_law_draw" t__law_draw f__law_draw d__law_draw
  b__law_draw : Binds K d__law_draw ["pot", "many"] []
  m__law_draw : mg "_law_draw" = some (.ref f__law_draw)
  kp__law_draw : PySem.W.keepIn K (.ref f__law_draw) = true
  f__law_pick : Addr
  d__law_pick : FuncData
  F__law_pick : Fun K "_law_pick" "_law_pick" t__law_pick f__law_pick d__law_pick
  b__law_pick : Binds K d__law_pick ["pot", "some"] []
  m__law_pick : mg "_law_pick" = some (.ref f__law_pick)
  kp__law_pick : PySem.W.keepIn K (.ref f__law_pick) = true
  f__law_low : Addr
  d__law_low : FuncData
  F__law_low : Fun K "_law_low" "_law_low" t__law_low f__law_low d__law_low
  b__law_low : Binds K d__law_low ["number", "under"] []
  m__law_low : mg "_law_low" = some (.ref f__law_low)
  kp__law_low : PySem.W.keepIn K (.ref f__law_low) = true
  f__law_sum : Addr
  d__law_sum : FuncData
  F__law_sum : Fun K "_law_sum" "_law_sum" t__law_sum f__law_sum d__law_sum
  b__law_sum : Binds K d__law_sum ["pairs"] []
  m__law_sum : mg "_law_sum" = some (.ref f__law_sum)
  kp__law_sum : PySem.W.keepIn K (.ref f__law_sum) = true
  f__law_ratios : Addr
  d__law_ratios : FuncData
  F__law_ratios : Fun K "_law_ratios" "_law_ratios" t__law_ratios f__law_ratios d__law_ratios
  b__law_ratios : Binds K d__law_ratios ["pot"] []
  m__law_ratios : mg "_law_ratios" = some (.ref f__law_ratios)
  kp__law_ratios : PySem.W.keepIn K (.ref f__law_ratios) = true
  f__law_is_round : Addr
  d__law_is_round : FuncData
  F__law_is_round : Fun K "_law_is_round" "_law_is_round" t__law_is_round f__law_is_round d__law_is_round
  b__law_is_round : Binds K d__law_is_round ["ratios", "value"] []
  m__law_is_round : mg "_law_is_round" = some (.ref f__law_is_round)
  kp__law_is_round : PySem.W.keepIn K (.ref f__law_is_round) = true
  f__law_is_table : Addr
  d__law_is_table : FuncData
  F__law_is_table : Fun K "_law_is_table" "_law_is_table" t__law_is_table f__law_is_table d__law_is_table
  b__law_is_table : Binds K d__law_is_table ["ratios", "value"] []
  m__law_is_table : mg "_law_is_table" = some (.ref f__law_is_table)
  kp__law_is_table : PySem.W.keepIn K (.ref f__law_is_table) = true
  f__law_bent : Addr
  d__law_bent : FuncData
  F__law_bent : Fun K "_law_bent" "_law_bent" t__law_bent f__law_bent d__law_bent
  b__law_bent : Binds K d__law_bent ["pot", "rows"] []
  m__law_bent : mg "_law_bent" = some (.ref f__law_bent)
  kp__law_bent : PySem.W.keepIn K (.ref f__law_bent) = true
  f__law_right : Addr
  d__law_right : FuncData
  F__law_right : Fun K "_law_right" "_law_right" t__law_right f__law_right d__law_right
  b__law_right : Binds K d__law_right ["pot"] []
  m__law_right : mg "_law_right" = some (.ref f__law_right)
  kp__law_right : PySem.W.keepIn K (.ref f__law_right) = true
  f_law : Addr
  d_law : FuncData
  F_law : Fun K "law" "law" t_law f_law d_law
  b_law : Binds K d_law ["script"] []
  m_law : mg "law" = some (.ref f_law)
  kp_law : PySem.W.keepIn K (.ref f_law) = true
  f_Spread___init__ : Addr
  d_Spread___init__ : FuncData
  F_Spread___init__ : Fun K "__init__" "Spread.__init__" t_Spread___init__ f_Spread___init__ d_Spread___init__
  b_Spread___init__ : Binds K d_Spread___init__ ["self", "parts", "lines", "many"] []
  mk_Spread : Mk K C_Spread f_Spread___init__
  f_Spread_pieces : Addr
  d_Spread_pieces : FuncData
  F_Spread_pieces : Fun K "pieces" "Spread.pieces" t_Spread_pieces f_Spread_pieces d_Spread_pieces
  b_Spread_pieces : Binds K d_Spread_pieces ["self"] []
  me_Spread_pieces : Meth K C_Spread "pieces" f_Spread_pieces
  f_Spread_window : Addr
  d_Spread_window : FuncData
  F_Spread_window : Fun K "window" "Spread.window" t_Spread_window f_Spread_window d_Spread_window
  b_Spread_window : Binds K d_Spread_window ["self", "piece"] []
  me_Spread_window : Meth K C_Spread "window" f_Spread_window
  f_Spread_in_the_way : Addr
  d_Spread_in_the_way : FuncData
  F_Spread_in_the_way : Fun K "in_the_way" "Spread.in_the_way" t_Spread_in_the_way f_Spread_in_the_way d_Spread_in_the_way
  b_Spread_in_the_way : Binds K d_Spread_in_the_way ["self", "piece", "turn"] []
  me_Spread_in_the_way : Meth K C_Spread "in_the_way" f_Spread_in_the_way
  f_Spread_put : Addr
  d_Spread_put : FuncData
  F_Spread_put : Fun K "put" "Spread.put" t_Spread_put f_Spread_put d_Spread_put
  b_Spread_put : Binds K d_Spread_put ["self", "piece", "turn", "ahead"] []
  me_Spread_put : Meth K C_Spread "put" f_Spread_put
  f_Spread_place : Addr
  d_Spread_place : FuncData
  F_Spread_place : Fun K "place" "Spread.place" t_Spread_place f_Spread_place d_Spread_place
  b_Spread_place : Binds K d_Spread_place ["self", "first"] []
  me_Spread_place : Meth K C_Spread "place" f_Spread_place
  tk_BEYOND : Tok
  m_BEYOND : mg "BEYOND" = some (.int 10000000000000000000000000000000000000000000000000000000000000000000000000000000000000000000000000000000000000000000000000000000000000000000000000000000000000000000000000000000000000000000000000000000000000000000000000000000000000000000000000000000000000000000000000000000000000000000000000000000000000000000000000000000000000000000000000000000000000000000000000000000000000000000000000000000000000000 tk_BEYOND)
  tk_MOST_CELLS : Tok
  m_MOST_CELLS : mg "MOST_CELLS" = some (.int 2400 tk_MOST_CELLS)
  tk_MOST_ROUNDS : Tok
  m_MOST_ROUNDS : mg "MOST_ROUNDS" = some (.int 60 tk_MOST_ROUNDS)
  tk_MOST_SHARES : Tok
  m_MOST_SHARES : mg "MOST_SHARES" = some (.int 500 tk_MOST_SHARES)
  n_abs : mg "abs" = none
  n_all : mg "all" = none
  n_bool : mg "bool" = none
  n_divmod : mg "divmod" = none
  n_enumerate : mg "enumerate" = none
  m_gcd : mg "gcd" = some (.builtin "math.gcd")
  n_int : mg "int" = none
  n_isinstance : mg "isinstance" = none
  k_is_rounds_value_ratios : KB d_is_rounds ["ratios", "value"] ["value", "ratios"] 0 [1, 0]
  k_rounds_of_many_ratios : KB d_rounds_of ["ratios", "many"] ["many", "ratios"] 0 [1, 0]
  n_len : mg "len" = none
  n_list : mg "list" = none
  n_max : mg "max" = none
  n_min : mg "min" = none
  no_own_lines : NoAttr K C_Spread "own_lines"
  no_own_lots : NoAttr K C_Spread "own_lots"
  no_own_many : NoAttr K C_Spread "own_many"
  no_own_parts : NoAttr K C_Spread "own_parts"
  no_own_places : NoAttr K C_Spread "own_places"
  n_range : mg "range" = none
  n_repr : mg "repr" = none
  n_sum : mg "sum" = none
  n_tuple : mg "tuple" = none
  n_zip : mg "zip" = none
theorem sc_is_integer : FnScope ["value"] ["value"] (defScope t_is_integer) := ⟨rfl, rfl, rfl, by decide +kernel, rfl, by decide +kernel, by decide +kernel⟩
theorem sc_is_count : FnScope ["value"] ["value"] (defScope t_is_count) := ⟨rfl, rfl, rfl, by decide +kernel, rfl, by decide +kernel, by decide +kernel⟩
theorem sc_is_list : FnScope ["value"] ["value"] (defScope t_is_list) := ⟨rfl, rfl, rfl, by decide +kernel, rfl, by decide +kernel, by decide +kernel⟩
theorem sc_is_row : FnScope ["value", "many"] ["value", "many"] (defScope t_is_row) := ⟨rfl, rfl, rfl, by decide +kernel, rfl, by decide +kernel, by decide +kernel⟩
theorem sc_want_at_most : FnScope ["what", "limit", "number"] ["what", "limit", "number"] (defScope t_want_at_most) := ⟨rfl, rfl, rfl, by decide +kernel, rfl, by decide +kernel, by decide +kernel⟩
theorem sc_is_ratio : FnScope ["value"] ["value"] (defScope t_is_ratio) := ⟨rfl, rfl, rfl, by decide +kernel, rfl, by decide +kernel, by decide +kernel⟩
theorem sc_common_part : FnScope ["one", "other"] ["one", "other"] (defScope t_common_part) := ⟨rfl, rfl, rfl, by decide +kernel, rfl, by decide +kernel, by decide +kernel⟩
theorem sc_common_under : FnScope ["ratios", "found", "number", "under"] ["ratios"] (defScope t_common_under) := ⟨rfl, rfl, rfl, by decide +kernel, rfl, by decide +kernel, by decide +kernel⟩
theorem sc_total_over : FnScope ["ratios", "whole", "number", "under"] ["ratios", "whole"] (defScope t_total_over) := ⟨rfl, rfl, rfl, by decide +kernel, rfl, by decide +kernel, by decide +kernel⟩
theorem sc_want_many : FnScope ["value", "least", "most"] ["value", "least", "most"] (defScope t_want_many) := ⟨rfl, rfl, rfl, by decide +kernel, rfl, by decide +kernel, by decide +kernel⟩
theorem sc_are_ratios_above : FnScope ["value", "one"] ["value"] (defScope t_are_ratios_above) := ⟨rfl, rfl, rfl, by decide +kernel, rfl, by decide +kernel, by decide +kernel⟩
theorem sc_window_begin : FnScope ["share", "turn"] ["share", "turn"] (defScope t_window_begin) := ⟨rfl, rfl, rfl, by decide +kernel, rfl, by decide +kernel, by decide +kernel⟩
theorem sc_window_end : FnScope ["share", "turn"] ["share", "turn"] (defScope t_window_end) := ⟨rfl, rfl, rfl, by decide +kernel, rfl, by decide +kernel, by decide +kernel⟩
theorem sc_are_whole_ratios : FnScope ["value", "whole"] ["value"] (defScope t_are_whole_ratios) := ⟨rfl, rfl, rfl, by decide +kernel, rfl, by decide +kernel, by decide +kernel⟩
theorem sc_want_ratios : FnScope ["value"] ["value"] (defScope t_want_ratios) := ⟨rfl, rfl, rfl, by decide +kernel, rfl, by decide +kernel, by decide +kernel⟩
theorem sc_sum_of : FnScope ["ratios", "whole"] ["ratios"] (defScope t_sum_of) := ⟨rfl, rfl, rfl, by decide +kernel, rfl, by decide +kernel, by decide +kernel⟩
theorem sc_spread : FnScope ["parts", "lines", "many", "found", "musts", "others", "piece", "lot", "position", "turn"] ["parts", "lines", "many"] (defScope t_spread) := ⟨rfl, rfl, rfl, by decide +kernel, rfl, by decide +kernel, by decide +kernel⟩
theorem sc_rounds_of : FnScope ["ratios", "many", "wholes", "parts", "lots", "number", "under", "lot", "position", "whole"] ["ratios", "many"] (defScope t_rounds_of) := ⟨rfl, rfl, rfl, by decide +kernel, rfl, by decide +kernel, by decide +kernel⟩
theorem sc_is_round : FnScope ["ratios", "value", "one", "number", "under"] ["ratios", "value"] (defScope t_is_round) := ⟨rfl, rfl, rfl, by decide +kernel, rfl, by decide +kernel, by decide +kernel⟩
theorem sc_is_rounds : FnScope ["ratios", "value", "totals", "turn", "one", "total", "number", "under", "more"] ["ratios", "value"] (defScope t_is_rounds) := ⟨rfl, rfl, rfl, by decide +kernel, rfl, by decide +kernel, by decide +kernel⟩
theorem sc__law_pot : FnScope ["script", "k", "cell"] ["script", "k"] (defScope t__law_pot) := ⟨rfl, rfl, rfl, by decide +kernel, rfl, by decide +kernel, by decide +kernel⟩
theorem sc__law_draw : FnScope ["pot", "many", "digit"] ["pot", "many"] (defScope t__law_draw) := ⟨rfl, rfl, rfl, by decide +kernel, rfl, by decide +kernel, by decide +kernel⟩
theorem sc__law_pick : FnScope ["pot", "some"] ["pot", "some"] (defScope t__law_pick) := ⟨rfl, rfl, rfl, by decide +kernel, rfl, by decide +kernel, by decide +kernel⟩
theorem sc__law_low : FnScope ["number", "under", "near", "far"] ["number", "under"] (defScope t__law_low) := ⟨rfl, rfl, rfl, by decide +kernel, rfl, by decide +kernel, by decide +kernel⟩
theorem sc__law_sum : FnScope ["pairs", "found", "number", "under"] ["pairs"] (defScope t__law_sum) := ⟨rfl, rfl, rfl, by decide +kernel, rfl, by decide +kernel, by decide +kernel⟩
theorem sc__law_ratios : FnScope ["pot", "many", "under", "top", "found", "number", "low", "turn"] ["pot"] (defScope t__law_ratios) := ⟨rfl, rfl, rfl, by decide +kernel, rfl, by decide +kernel, by decide +kernel⟩
theorem sc__law_is_round : FnScope ["ratios", "value", "one", "number", "under"] ["ratios", "value"] (defScope t__law_is_round) := ⟨rfl, rfl, rfl, by decide +kernel, rfl, by decide +kernel, by decide +kernel⟩
theorem sc__law_is_table : FnScope ["ratios", "value", "position", "number", "under", "total", "turn", "one"] ["ratios", "value"] (defScope t__law_is_table) := ⟨rfl, rfl, rfl, by decide +kernel, rfl, by decide +kernel, by decide +kernel⟩
theorem sc__law_bent : FnScope ["pot", "rows", "at", "other", "way", "row", "more", "less", "odd"] ["pot", "rows"] (defScope t__law_bent) := ⟨rfl, rfl, rfl, by decide +kernel, rfl, by decide +kernel, by decide +kernel⟩
theorem sc__law_right : FnScope ["pot", "ratios", "many", "told", "rows", "late", "values", "turn", "value", "shown", "due"] ["pot"] (defScope t__law_right) := ⟨rfl, rfl, rfl, by decide +kernel, rfl, by decide +kernel, by decide +kernel⟩
theorem sc_law : FnScope ["script"] ["script"] (defScope t_law) := ⟨rfl, rfl, rfl, by decide +kernel, rfl, by decide +kernel, by decide +kernel⟩
theorem sc_Spread___init__ : FnScope ["self", "parts", "lines", "many", "turn"] ["self", "parts", "lines", "many"] (defScope t_Spread___init__) := ⟨rfl, rfl, rfl, by decide +kernel, rfl, by decide +kernel, by decide +kernel⟩
theorem sc_Spread_pieces : FnScope ["self", "musts", "others", "position", "part", "turn"] ["self"] (defScope t_Spread_pieces) := ⟨rfl, rfl, rfl, by decide +kernel, rfl, by decide +kernel, by decide +kernel⟩
theorem sc_Spread_window : FnScope ["self", "piece", "part"] ["self", "piece"] (defScope t_Spread_window) := ⟨rfl, rfl, rfl, by decide +kernel, rfl, by decide +kernel, by decide +kernel⟩
theorem sc_Spread_in_the_way : FnScope ["self", "piece", "turn", "lot", "same", "other"] ["self", "piece", "turn"] (defScope t_Spread_in_the_way) := ⟨rfl, rfl, rfl, by decide +kernel, rfl, by decide +kernel, by decide +kernel⟩
theorem sc_Spread_put : FnScope ["self", "piece", "turn", "ahead", "old"] ["self", "piece", "turn", "ahead"] (defScope t_Spread_put) := ⟨rfl, rfl, rfl, by decide +kernel, rfl, by decide +kernel, by decide +kernel⟩
theorem sc_Spread_place : FnScope ["self", "first", "ahead", "left", "piece", "turn", "others", "other"] ["self", "first"] (defScope t_Spread_place) := ⟨rfl, rfl, rfl, by decide +kernel, rfl, by decide +kernel, by decide +kernel⟩
section
variable {P : Program} {w : World} {K : PySem.W.Frag} {mg : Str → Option Value} {base : Heap} {k : Nat}
def w_is_integer (T : Txt K mg) {S : SpD} (len : ∀ ds G Q, S ds G Q → ds.length = 1) : 
    { D : DS // ((∀ ds G Q, S ds G Q → D { nx := fun _ G' => Q .non G', rt := Q } (startD ["value"] ds) G) → FnA P w K mg base (k + 1) T.f_is_integer T.d_is_integer ["value"] S) } := by
  have sc := sc_is_integer
  exact ⟨_, fun hq => VL.Fun.okA T.F_is_integer sc len fun cdv A outer s H E hr hga => ⟨_, (qss_one (qs_ret (q_and (q_callB call_isi ref_isi (by rfl) T.n_isinstance bb_isinstance (qa_cons (qv 0) (qa_cons (q_bty (by rfl) T.n_int bb_int) qa_nil))) (q_one (q_not (q_callB call_isi ref_isi (by rfl) T.n_isinstance bb_isinstance (qa_cons (qv 0) (qa_cons (q_bty (by rfl) T.n_bool bb_bool) qa_nil)))))))), hq⟩⟩
def w_is_count (T : Txt K mg) {S_is_integer : SpD} (G_is_integer : FnA P w K mg base k T.f_is_integer T.d_is_integer ["value"] S_is_integer) {S : SpD} (len : ∀ ds G Q, S ds G Q → ds.length = 1) : 
    { D : DS // ((∀ ds G Q, S ds G Q → D { nx := fun _ G' => Q .non G', rt := Q } (startD ["value"] ds) G) → FnA P w K mg base (k + 1) T.f_is_count T.d_is_count ["value"] S) } := by
  have sc := sc_is_count
  exact ⟨_, fun hq => VL.Fun.okA T.F_is_count sc len fun cdv A outer s H E hr hga => ⟨_, (qss_one (qs_ret (q_and (q_call G_is_integer (hr.mono (by omega)) hga (by rfl) T.m_is_integer T.kp_is_integer T.b_is_integer (qa_cons (qv 0) qa_nil)) (q_one (q_cmp op_ge ref_B0 (qv 0) q_int (nomark _)))))), hq⟩⟩
def w_is_list (T : Txt K mg) {S : SpD} (len : ∀ ds G Q, S ds G Q → ds.length = 1) : 
    { D : DS // ((∀ ds G Q, S ds G Q → D { nx := fun _ G' => Q .non G', rt := Q } (startD ["value"] ds) G) → FnA P w K mg base (k + 1) T.f_is_list T.d_is_list ["value"] S) } := by
  have sc := sc_is_list
  exact ⟨_, fun hq => VL.Fun.okA T.F_is_list sc len fun cdv A outer s H E hr hga => ⟨_, (qss_one (qs_ret (q_callB call_isiT ref_isiT (by rfl) T.n_isinstance bb_isinstance (qa_cons (qv 0) (qa_cons (q_tup (qa_cons (q_bty (by rfl) T.n_list bb_list) (qa_cons (q_bty (by rfl) T.n_tuple bb_tuple) qa_nil))) qa_nil))))), hq⟩⟩
def w_is_row (T : Txt K mg) {S : SpD} (len : ∀ ds G Q, S ds G Q → ds.length = 2) : 
    { D : DS // ((∀ ds G Q, S ds G Q → D { nx := fun _ G' => Q .non G', rt := Q } (startD ["value", "many"] ds) G) → FnA P w K mg base (k + 1) T.f_is_row T.d_is_row ["value", "many"] S) } := by
  have sc := sc_is_row
  exact ⟨_, fun hq => VL.Fun.okA T.F_is_row sc len fun cdv A outer s H E hr hga => ⟨_, (qss_one (qs_ret (q_and (q_callB call_isi ref_isi (by rfl) T.n_isinstance bb_isinstance (qa_cons (qv 0) (qa_cons (q_bty (by rfl) T.n_tuple bb_tuple) qa_nil))) (q_one (q_cmp (op_eqAll (hu64 hr)) ref_eq (q_callB call_len_seq ref_len (by rfl) T.n_len bb_len (qa_cons (qv 0) qa_nil)) (qv 1) (nomark _)))))), hq⟩⟩
def w_want_at_most (T : Txt K mg) {S : SpD} (len : ∀ ds G Q, S ds G Q → ds.length = 3) : 
    { D : DS // ((∀ ds G Q, S ds G Q → D { nx := fun _ G' => Q .non G', rt := Q } (startD ["what", "limit", "number"] ds) G) → FnA P w K mg base (k + 1) T.f_want_at_most T.d_want_at_most ["what", "limit", "number"] S) } := by
  have sc := sc_want_at_most
  exact ⟨_, fun hq => VL.Fun.okA T.F_want_at_most sc len fun cdv A outer s H E hr hga => ⟨_, (qss_one (qs_if (qt_cmp op_gt ref_B0 (qv 2) (qv 1) (nomark _)) (qss_one qs_never) qss_nil)), hq⟩⟩
def w_is_ratio (T : Txt K mg) {S_is_integer : SpD} (G_is_integer : FnA P w K mg base k T.f_is_integer T.d_is_integer ["value"] S_is_integer) {S_is_row : SpD} (G_is_row : FnA P w K mg base k T.f_is_row T.d_is_row ["value", "many"] S_is_row) {S : SpD} (len : ∀ ds G Q, S ds G Q → ds.length = 1) : 
    { D : DS // ((∀ ds G Q, S ds G Q → D { nx := fun _ G' => Q .non G', rt := Q } (startD ["value"] ds) G) → FnA P w K mg base (k + 1) T.f_is_ratio T.d_is_ratio ["value"] S) } := by
  have sc := sc_is_ratio
  exact ⟨_, fun hq => VL.Fun.okA T.F_is_ratio sc len fun cdv A outer s H E hr hga => ⟨_, (qss_cons (qs_if (qw_or (qt_not (qt_val (q_call G_is_row (hr.mono (by omega)) hga (by rfl) T.m_is_row T.kp_is_row T.b_is_row (qa_cons (qv 0) (qa_cons q_int qa_nil))))) (qw_or (qt_not (qt_val (q_call G_is_integer (hr.mono (by omega)) hga (by rfl) T.m_is_integer T.kp_is_integer T.b_is_integer (qa_cons (q_ix (qv 0) q_int) qa_nil)))) (qw_or1 (qt_not (qt_val (q_call G_is_integer (hr.mono (by omega)) hga (by rfl) T.m_is_integer T.kp_is_integer T.b_is_integer (qa_cons (q_ix (qv 0) q_int) qa_nil))))))).pt (qss_one (qs_ret q_bl)) qss_nil) (qss_one (qs_ret (q_and (q_chain op_lt ref_B0 op_lt ref_B0 q_int (q_ix (qv 0) q_int) (q_globI (by rfl) T.m_BEYOND)) (q_and (q_chain op_lt ref_B0 op_lt ref_B0 (q_un un_neg ref_neg (q_globI (by rfl) T.m_BEYOND)) (q_ix (qv 0) q_int) (q_globI (by rfl) T.m_BEYOND)) (q_one (q_cmp (op_eqAll (hu64 hr)) ref_eq (q_callFun cr_gcd ref_gcd (by rfl) T.m_gcd (qa_cons (q_ix (qv 0) q_int) (qa_cons (q_ix (qv 0) q_int) qa_nil))) q_int (nomark _)))))))), hq⟩⟩
def w_common_part (T : Txt K mg) {S : SpD} (len : ∀ ds G Q, S ds G Q → ds.length = 2) : 
    { D : DS // ((∀ ds G Q, S ds G Q → D { nx := fun _ G' => Q .non G', rt := Q } (startD ["one", "other"] ds) G) → FnA P w K mg base (k + 1) T.f_common_part T.d_common_part ["one", "other"] S) } := by
  have sc := sc_common_part
  exact ⟨_, fun hq => VL.Fun.okA T.F_common_part sc len fun cdv A outer s H E hr hga => ⟨_, (qss_cons (qs_while PassesOwn.never (qt_cmp op_gt ref_B0 (qv 1) q_int (nomark _)) (qss_one (qs_par 0 1 rfl sc.nd (by decide) (qa_cons (qv 1) (qa_cons (q_bin op_mod ref_I (qv 0) (qv 1)) qa_nil))))) (qss_one (qs_ret (qv 0)))), hq⟩⟩
def w_common_under (T : Txt K mg) {S_common_part : SpD} (G_common_part : FnA P w K mg base k T.f_common_part T.d_common_part ["one", "other"] S_common_part) {S : SpD} (len : ∀ ds G Q, S ds G Q → ds.length = 1) : 
    { D : DS // ((∀ ds G Q, S ds G Q → D { nx := fun _ G' => Q .non G', rt := Q } (startD ["ratios", "found", "number", "under"] ds) G) → FnA P w K mg base (k + 1) T.f_common_under T.d_common_under ["ratios"] S) } := by
  have sc := sc_common_under
  exact ⟨_, fun hq => VL.Fun.okA T.F_common_under sc len fun cdv A outer s H E hr hga => ⟨_, (qss_cons (qs_set 1 sc.nd q_int) (qss_cons (qs_for PassesOwn.never rfl (qi_seq (qv 0)) (qg_tup (n := 2) rfl (qgs_cons (qg_name 2 sc.nd) (qgs_cons (qg_name 3 sc.nd) qgs_nil))) (qss_one (qs_set 1 sc.nd (q_bin op_mulAll ref_mul (q_bin op_fdiv ref_I (qv 1) (q_call G_common_part (hr.mono (by omega)) hga (by rfl) T.m_common_part T.kp_common_part T.b_common_part (qa_cons (qv 1) (qa_cons (qv 3) qa_nil)))) (qv 3))))) (qss_one (qs_ret (qv 1))))), hq⟩⟩
def w_total_over (T : Txt K mg) {S : SpD} (len : ∀ ds G Q, S ds G Q → ds.length = 2) : 
    { D : DS // ((∀ ds G Q, S ds G Q → D { nx := fun _ G' => Q .non G', rt := Q } (startD ["ratios", "whole", "number", "under"] ds) G) → FnA P w K mg base (k + 1) T.f_total_over T.d_total_over ["ratios", "whole"] S) } := by
  have sc := sc_total_over
  exact ⟨_, fun hq => VL.Fun.okA T.F_total_over sc len fun cdv A outer s H E hr hga => ⟨_, (qss_one (qs_ret (q_callB (VX.cr_sumX rfl) ref_sumX (by rfl) T.n_sum bb_sum (qa_cons (q_lc [("number", 2), ("under", 3)] rfl sc.nd (qi_seq (qv 0)) (show BlkOk ["ratios", "whole", "number", "under"] (defScope t_total_over) _ [("number", 2), ("under", 3)] from ⟨by rfl, by decide +kernel, by decide +kernel, by decide +kernel, by decide +kernel⟩) (fun s H C cl fp => (qg_tup (n := 2) rfl (qgs_cons (qg_name 2 sc.nd) (qgs_cons (qg_name 3 sc.nd) qgs_nil)))) (fun s H C cl fp => qts_nil) (fun s H C cl fp => (q_bin op_mulAll ref_mul (qv 2) (q_bin op_fdiv ref_I (qv 1) (qv 3))))) qa_nil)))), hq⟩⟩
def w_want_many (T : Txt K mg) {S_is_count : SpD} (G_is_count : FnA P w K mg base k T.f_is_count T.d_is_count ["value"] S_is_count) {S : SpD} (len : ∀ ds G Q, S ds G Q → ds.length = 3) : 
    { D : DS // ((∀ ds G Q, S ds G Q → D { nx := fun _ G' => Q .non G', rt := Q } (startD ["value", "least", "most"] ds) G) → FnA P w K mg base (k + 1) T.f_want_many T.d_want_many ["value", "least", "most"] S) } := by
  have sc := sc_want_many
  exact ⟨_, fun hq => VL.Fun.okA T.F_want_many sc len fun cdv A outer s H E hr hga => ⟨_, (qss_one (qs_if (qw_or (qt_not (qt_val (q_call G_is_count (hr.mono (by omega)) hga (by rfl) T.m_is_count T.kp_is_count T.b_is_count (qa_cons (qv 0) qa_nil)))) (qw_or1 (qt_not (qt_chain op_le ref_B0 op_le ref_B0 (qv 1) (qv 0) (qv 2))))).pt (qss_one qs_never) qss_nil)), hq⟩⟩
def w_are_ratios_above (T : Txt K mg) {S_is_ratio : SpD} (G_is_ratio : FnA P w K mg base k T.f_is_ratio T.d_is_ratio ["value"] S_is_ratio) {S : SpD} (len : ∀ ds G Q, S ds G Q → ds.length = 1) : 
    { D : DS // ((∀ ds G Q, S ds G Q → D { nx := fun _ G' => Q .non G', rt := Q } (startD ["value", "one"] ds) G) → FnA P w K mg base (k + 1) T.f_are_ratios_above T.d_are_ratios_above ["value"] S) } := by
  have sc := sc_are_ratios_above
  exact ⟨_, fun hq => VL.Fun.okA T.F_are_ratios_above sc len fun cdv A outer s H E hr hga => ⟨_, (qss_cons (qs_if (qw_or (qt_not (qt_val (q_callB call_isi ref_isi (by rfl) T.n_isinstance bb_isinstance (qa_cons (qv 0) (qa_cons (q_bty (by rfl) T.n_tuple bb_tuple) qa_nil))))) (qw_or1 (qt_not (qt_chain op_le ref_B0 op_le ref_B0 q_int (q_callB call_len_seq ref_len (by rfl) T.n_len bb_len (qa_cons (qv 0) qa_nil)) (q_globI (by rfl) T.m_MOST_SHARES))))).pt (qss_one (qs_ret q_bl)) qss_nil) (qss_one (qs_ret (q_callB (cr_all rfl) ref_bools (by rfl) T.n_all bb_all (qa_cons (q_lc [("one", 1)] rfl sc.nd (qi_seq (qv 0)) (show BlkOk ["value", "one"] (defScope t_are_ratios_above) _ [("one", 1)] from ⟨by rfl, by decide +kernel, by decide +kernel, by decide +kernel, by decide +kernel⟩) (fun s H C cl fp => (qg_name 1 sc.nd)) (fun s H C cl fp => qts_nil) (fun s H C cl fp => (q_and (q_call G_is_ratio (hr.mono (by omega)) hga (by rfl) T.m_is_ratio T.kp_is_ratio T.b_is_ratio (qa_cons (qv 1) qa_nil)) (q_one (q_cmp op_gt ref_B0 (q_ix (qv 1) q_int) q_int (nomark _)))))) qa_nil))))), hq⟩⟩
def w_window_begin (T : Txt K mg) {S : SpD} (len : ∀ ds G Q, S ds G Q → ds.length = 2) : 
    { D : DS // ((∀ ds G Q, S ds G Q → D { nx := fun _ G' => Q .non G', rt := Q } (startD ["share", "turn"] ds) G) → FnA P w K mg base (k + 1) T.f_window_begin T.d_window_begin ["share", "turn"] S) } := by
  have sc := sc_window_begin
  exact ⟨_, fun hq => VL.Fun.okA T.F_window_begin sc len fun cdv A outer s H E hr hga => ⟨_, (qss_one (qs_ret (q_bin op_fdiv ref_I (q_bin op_mulAll ref_mul (q_bin op_sub ref_I0 (qv 1) q_int) (q_ix (qv 0) q_int)) (q_ix (qv 0) q_int)))), hq⟩⟩
def w_window_end (T : Txt K mg) {S : SpD} (len : ∀ ds G Q, S ds G Q → ds.length = 2) : 
    { D : DS // ((∀ ds G Q, S ds G Q → D { nx := fun _ G' => Q .non G', rt := Q } (startD ["share", "turn"] ds) G) → FnA P w K mg base (k + 1) T.f_window_end T.d_window_end ["share", "turn"] S) } := by
  have sc := sc_window_end
  exact ⟨_, fun hq => VL.Fun.okA T.F_window_end sc len fun cdv A outer s H E hr hga => ⟨_, (qss_one (qs_ret (q_bin op_fdiv ref_I (q_bin op_sub ref_I0 (q_bin op_addAll ref_add (q_bin op_mulAll ref_mul (qv 1) (q_ix (qv 0) q_int)) (q_ix (qv 0) q_int)) q_int) (q_ix (qv 0) q_int)))), hq⟩⟩
def w_are_whole_ratios (T : Txt K mg) {S_total_over : SpD} (G_total_over : FnA P w K mg base k T.f_total_over T.d_total_over ["ratios", "whole"] S_total_over) {S_common_under : SpD} (G_common_under : FnA P w K mg base k T.f_common_under T.d_common_under ["ratios"] S_common_under) {S_are_ratios_above : SpD} (G_are_ratios_above : FnA P w K mg base k T.f_are_ratios_above T.d_are_ratios_above ["value"] S_are_ratios_above) {S : SpD} (len : ∀ ds G Q, S ds G Q → ds.length = 1) : 
    { D : DS // ((∀ ds G Q, S ds G Q → D { nx := fun _ G' => Q .non G', rt := Q } (startD ["value", "whole"] ds) G) → FnA P w K mg base (k + 1) T.f_are_whole_ratios T.d_are_whole_ratios ["value"] S) } := by
  have sc := sc_are_whole_ratios
  exact ⟨_, fun hq => VL.Fun.okA T.F_are_whole_ratios sc len fun cdv A outer s H E hr hga => ⟨_, (qss_cons (qs_if (qt_not (qt_val (q_call G_are_ratios_above (hr.mono (by omega)) hga (by rfl) T.m_are_ratios_above T.kp_are_ratios_above T.b_are_ratios_above (qa_cons (qv 0) qa_nil)))) (qss_one (qs_ret q_bl)) qss_nil) (qss_cons (qs_set 1 sc.nd (q_call G_common_under (hr.mono (by omega)) hga (by rfl) T.m_common_under T.kp_common_under T.b_common_under (qa_cons (qv 0) qa_nil))) (qss_one (qs_ret (q_cmp (op_eqAll (hu64 hr)) ref_eq (q_bin op_mod ref_I (q_call G_total_over (hr.mono (by omega)) hga (by rfl) T.m_total_over T.kp_total_over T.b_total_over (qa_cons (qv 0) (qa_cons (qv 1) qa_nil))) (qv 1)) q_int (nomark _)))))), hq⟩⟩
def w_want_ratios (T : Txt K mg) {S_are_whole_ratios : SpD} (G_are_whole_ratios : FnA P w K mg base k T.f_are_whole_ratios T.d_are_whole_ratios ["value"] S_are_whole_ratios) {S : SpD} (len : ∀ ds G Q, S ds G Q → ds.length = 1) : 
    { D : DS // ((∀ ds G Q, S ds G Q → D { nx := fun _ G' => Q .non G', rt := Q } (startD ["value"] ds) G) → FnA P w K mg base (k + 1) T.f_want_ratios T.d_want_ratios ["value"] S) } := by
  have sc := sc_want_ratios
  exact ⟨_, fun hq => VL.Fun.okA T.F_want_ratios sc len fun cdv A outer s H E hr hga => ⟨_, (qss_cons (qs_if (qt_not (qt_val (q_call G_are_whole_ratios (hr.mono (by omega)) hga (by rfl) T.m_are_whole_ratios T.kp_are_whole_ratios T.b_are_whole_ratios (qa_cons (qv 0) qa_nil)))) (qss_one qs_never) qss_nil) (qss_one (qs_ret (qv 0)))), hq⟩⟩
def w_sum_of (T : Txt K mg) {S_total_over : SpD} (G_total_over : FnA P w K mg base k T.f_total_over T.d_total_over ["ratios", "whole"] S_total_over) {S_common_under : SpD} (G_common_under : FnA P w K mg base k T.f_common_under T.d_common_under ["ratios"] S_common_under) {S : SpD} (len : ∀ ds G Q, S ds G Q → ds.length = 1) : 
    { D : DS // ((∀ ds G Q, S ds G Q → D { nx := fun _ G' => Q .non G', rt := Q } (startD ["ratios", "whole"] ds) G) → FnA P w K mg base (k + 1) T.f_sum_of T.d_sum_of ["ratios"] S) } := by
  have sc := sc_sum_of
  exact ⟨_, fun hq => VL.Fun.okA T.F_sum_of sc len fun cdv A outer s H E hr hga => ⟨_, (qss_cons (qs_set 1 sc.nd (q_call G_common_under (hr.mono (by omega)) hga (by rfl) T.m_common_under T.kp_common_under T.b_common_under (qa_cons (qv 0) qa_nil))) (qss_one (qs_ret (q_bin op_fdiv ref_I (q_call G_total_over (hr.mono (by omega)) hga (by rfl) T.m_total_over T.kp_total_over T.b_total_over (qa_cons (qv 0) (qa_cons (qv 1) qa_nil))) (qv 1))))), hq⟩⟩
def w_spread (T : Txt K mg) {S_Spread_place : SpD} (G_Spread_place : FnA P w K mg base k T.f_Spread_place T.d_Spread_place ["self", "first"] S_Spread_place) {S_Spread_pieces : SpD} (G_Spread_pieces : FnA P w K mg base k T.f_Spread_pieces T.d_Spread_pieces ["self"] S_Spread_pieces) {S_Spread___init__ : SpD} (G_Spread___init__ : FnA P w K mg base k T.f_Spread___init__ T.d_Spread___init__ ["self", "parts", "lines", "many"] S_Spread___init__) {S : SpD} (len : ∀ ds G Q, S ds G Q → ds.length = 3) : 
    { D : DS // ((∀ ds G Q, S ds G Q → D { nx := fun _ G' => Q .non G', rt := Q } (startD ["parts", "lines", "many", "found", "musts", "others", "piece", "lot", "position", "turn"] ds) G) → FnA P w K mg base (k + 2) T.f_spread T.d_spread ["parts", "lines", "many"] S) } := by
  have sc := sc_spread
  exact ⟨_, fun hq => VL.Fun.okA T.F_spread sc len fun cdv A outer s H E hr hga => ⟨_, (qss_cons (qs_set 3 sc.nd (q_make T.mk_Spread G_Spread___init__ (hr.mono (by omega)) hga (by rfl) T.m_Spread T.b_Spread___init__ (qa_cons (qv 0) (qa_cons (qv 1) (qa_cons (qv 2) qa_nil))))) (qss_cons (qs_asg (q_meth0 (qv 3) T.cl_Spread T.me_Spread_pieces G_Spread_pieces (hr.mono (by omega)) hga T.b_Spread_pieces) (qg_tup (n := 2) rfl (qgs_cons (qg_name 4 sc.nd) (qgs_cons (qg_name 5 sc.nd) qgs_nil)))) (qss_cons (qs_for PassesOwn.never rfl (qi_seq (q_bin op_addAll ref_add (qv 4) (qv 5))) (qg_name 6 sc.nd) (qss_one (qs_expr (q_meth (qv 3) T.cl_Spread T.me_Spread_place G_Spread_place (hr.mono (by omega)) hga T.b_Spread_place (qa_cons (qv 6) qa_nil))))) (qss_one (qs_ret (q_lc [("lot", 7)] rfl sc.nd (qi_seq (q_fld (qv 3) T.cl_Spread T.no_own_lots)) (show BlkOk ["parts", "lines", "many", "found", "musts", "others", "piece", "lot", "position", "turn"] (defScope t_spread) _ [("lot", 7)] from ⟨by rfl, by decide +kernel, by decide +kernel, by decide +kernel, by decide +kernel⟩) (fun s H C cl fp => (qg_name 7 sc.nd)) (fun s H C cl fp => qts_nil) (fun s H C cl fp => (q_lc [("position", 8), ("turn", 9)] rfl sc.nd (qi_seq (qv 7)) (show BlkOk ["parts", "lines", "many", "found", "musts", "others", "piece", "lot", "position", "turn"] (relS _ (defScope t_spread)) _ [("position", 8), ("turn", 9)] from ⟨by rfl, by decide +kernel, by decide +kernel, by decide +kernel, by decide +kernel⟩) (fun s H C cl fp => (qg_tup (n := 2) rfl (qgs_cons (qg_name 8 sc.nd) (qgs_cons (qg_name 9 sc.nd) qgs_nil)))) (fun s H C cl fp => qts_nil) (fun s H C cl fp => (qv 8)))))))))), hq⟩⟩
def w_rounds_of (T : Txt K mg) {S_spread : SpD} (G_spread : FnA P w K mg base k T.f_spread T.d_spread ["parts", "lines", "many"] S_spread) {S_sum_of : SpD} (G_sum_of : FnA P w K mg base k T.f_sum_of T.d_sum_of ["ratios"] S_sum_of) {S_want_at_most : SpD} (G_want_at_most : FnA P w K mg base k T.f_want_at_most T.d_want_at_most ["what", "limit", "number"] S_want_at_most) {S_want_many : SpD} (G_want_many : FnA P w K mg base k T.f_want_many T.d_want_many ["value", "least", "most"] S_want_many) {S_want_ratios : SpD} (G_want_ratios : FnA P w K mg base k T.f_want_ratios T.d_want_ratios ["value"] S_want_ratios) {S : SpD} (len : ∀ ds G Q, S ds G Q → ds.length = 2) : 
    { D : DS // ((∀ ds G Q, S ds G Q → D { nx := fun _ G' => Q .non G', rt := Q } (startD ["ratios", "many", "wholes", "parts", "lots", "number", "under", "lot", "position", "whole"] ds) G) → FnA P w K mg base (k + 1) T.f_rounds_of T.d_rounds_of ["ratios", "many"] S) } := by
  have sc := sc_rounds_of
  exact ⟨_, fun hq => VL.Fun.okA T.F_rounds_of sc len fun cdv A outer s H E hr hga => ⟨_, (qss_cons (qs_expr (q_call G_want_ratios (hr.mono (by omega)) hga (by rfl) T.m_want_ratios T.kp_want_ratios T.b_want_ratios (qa_cons (qv 0) qa_nil))) (qss_cons (qs_expr (q_call G_want_many (hr.mono (by omega)) hga (by rfl) T.m_want_many T.kp_want_many T.b_want_many (qa_cons (qv 1) (qa_cons q_int (qa_cons (q_globI (by rfl) T.m_MOST_ROUNDS) qa_nil))))) (qss_cons (qs_expr (q_call G_want_at_most (hr.mono (by omega)) hga (by rfl) T.m_want_at_most T.kp_want_at_most T.b_want_at_most (qa_cons q_str (qa_cons (q_globI (by rfl) T.m_MOST_CELLS) (qa_cons (q_bin op_mulAll ref_mul (q_callB call_len_seq ref_len (by rfl) T.n_len bb_len (qa_cons (qv 0) qa_nil)) (qv 1)) qa_nil))))) (qss_cons (qs_set 2 sc.nd (q_lc [("number", 5), ("under", 6)] rfl sc.nd (qi_seq (qv 0)) (show BlkOk ["ratios", "many", "wholes", "parts", "lots", "number", "under", "lot", "position", "whole"] (defScope t_rounds_of) _ [("number", 5), ("under", 6)] from ⟨by rfl, by decide +kernel, by decide +kernel, by decide +kernel, by decide +kernel⟩) (fun s H C cl fp => (qg_tup (n := 2) rfl (qgs_cons (qg_name 5 sc.nd) (qgs_cons (qg_name 6 sc.nd) qgs_nil)))) (fun s H C cl fp => qts_nil) (fun s H C cl fp => (q_bin op_fdiv ref_I (qv 5) (qv 6))))) (qss_cons (qs_setLc 3 [("number", 5), ("under", 6)] rfl sc.nd (qi_seq (qv 0)) (show BlkOk ["ratios", "many", "wholes", "parts", "lots", "number", "under", "lot", "position", "whole"] (defScope t_rounds_of) _ [("number", 5), ("under", 6)] from ⟨by rfl, by decide +kernel, by decide +kernel, by decide +kernel, by decide +kernel⟩) (fun s H C cl fp => (qg_tup (n := 2) rfl (qgs_cons (qg_name 5 sc.nd) (qgs_cons (qg_name 6 sc.nd) qgs_nil)))) (fun s H C cl fp => qts_nil) (fun s H C cl fp => (q_tup (qa_cons (q_bin op_mod ref_I (qv 5) (qv 6)) (qa_cons (qv 6) qa_nil)))) (sw_true (by rfl) (by rfl) (by rfl) (by rfl))) (qss_cons (qs_set 4 sc.nd (q_call G_spread (hr.mono (by omega)) hga (by rfl) T.m_spread T.kp_spread T.b_spread (qa_cons (qv 3) (qa_cons (q_bin op_sub ref_I0 (q_call G_sum_of (hr.mono (by omega)) hga (by rfl) T.m_sum_of T.kp_sum_of T.b_sum_of (qa_cons (qv 0) qa_nil)) (q_callB (VX.cr_sumX rfl) ref_sumX (by rfl) T.n_sum bb_sum (qa_cons (qv 2) qa_nil))) (qa_cons (qv 1) qa_nil))))) (qss_one (qs_ret (q_lcM [("lot", 7)] rfl sc.nd (qi_seq (qv 4)) (show BlkOk ["ratios", "many", "wholes", "parts", "lots", "number", "under", "lot", "position", "whole"] (defScope t_rounds_of) _ [("lot", 7)] from ⟨by rfl, by decide +kernel, by decide +kernel, by decide +kernel, by decide +kernel⟩) (fun s H C cl fp => (qg_name 7 sc.nd)) (fun s H C cl fp => qts_nil) (fun s H C cl fp => (q_callTy call_tuple_of ref_tuple (by rfl) T.n_tuple bb_tuple (qa_cons (q_lc [("position", 8), ("whole", 9)] rfl sc.nd (qi_enum (by rfl) T.n_enumerate (qv 2)) (show BlkOk ["ratios", "many", "wholes", "parts", "lots", "number", "under", "lot", "position", "whole"] (relS _ (defScope t_rounds_of)) _ [("position", 8), ("whole", 9)] from ⟨by rfl, by decide +kernel, by decide +kernel, by decide +kernel, by decide +kernel⟩) (fun s H C cl fp => (qg_tup (n := 2) rfl (qgs_cons (qg_name 8 sc.nd) (qgs_cons (qg_name 9 sc.nd) qgs_nil)))) (fun s H C cl fp => qts_nil) (fun s H C cl fp => (q_bin op_addAll ref_add (qv 9) (q_callTy call_int1 ref_int (by rfl) T.n_int bb_int (qa_cons (q_cmp op_in_seq ref_in (qv 8) (qv 7) (by rfl)) qa_nil))))) qa_nil)))))))))))), hq⟩⟩
def w_is_round (T : Txt K mg) {S_sum_of : SpD} (G_sum_of : FnA P w K mg base k T.f_sum_of T.d_sum_of ["ratios"] S_sum_of) {S_is_count : SpD} (G_is_count : FnA P w K mg base k T.f_is_count T.d_is_count ["value"] S_is_count) {S : SpD} (len : ∀ ds G Q, S ds G Q → ds.length = 2) : 
    { D : DS // ((∀ ds G Q, S ds G Q → D { nx := fun _ G' => Q .non G', rt := Q } (startD ["ratios", "value", "one", "number", "under"] ds) G) → FnA P w K mg base (k + 1) T.f_is_round T.d_is_round ["ratios", "value"] S) } := by
  have sc := sc_is_round
  exact ⟨_, fun hq => VL.Fun.okA T.F_is_round sc len fun cdv A outer s H E hr hga => ⟨_, (qss_cons (qs_if (qw_or (qt_not (qt_val (q_callB call_isi ref_isi (by rfl) T.n_isinstance bb_isinstance (qa_cons (qv 1) (qa_cons (q_bty (by rfl) T.n_tuple bb_tuple) qa_nil))))) (qw_or (qt_cmp (op_neAll (hu64 hr)) ref_ne (q_callB call_len_seq ref_len (by rfl) T.n_len bb_len (qa_cons (qv 1) qa_nil)) (q_callB call_len_seq ref_len (by rfl) T.n_len bb_len (qa_cons (qv 0) qa_nil)) (nomark _)) (qw_or1 (qt_not (qt_val (q_callB (cr_all rfl) ref_bools (by rfl) T.n_all bb_all (qa_cons (q_lc [("one", 2)] rfl sc.nd (qi_seq (qv 1)) (show BlkOk ["ratios", "value", "one", "number", "under"] (defScope t_is_round) _ [("one", 2)] from ⟨by rfl, by decide +kernel, by decide +kernel, by decide +kernel, by decide +kernel⟩) (fun s H C cl fp => (qg_name 2 sc.nd)) (fun s H C cl fp => qts_nil) (fun s H C cl fp => (q_call G_is_count (hr.mono (by omega)) hga (by rfl) T.m_is_count T.kp_is_count T.b_is_count (qa_cons (qv 2) qa_nil)))) qa_nil))))))).pt (qss_one (qs_ret q_bl)) qss_nil) (qss_cons (qs_for PassesOwn.never rfl (qi_zip (by rfl) T.n_zip (qv 1) (qv 0)) (qg_tup (n := 2) rfl (qgs_cons (qg_name 2 sc.nd) (qgs_cons (qg_tup (n := 2) rfl (qgs_cons (qg_name 3 sc.nd) (qgs_cons (qg_name 4 sc.nd) qgs_nil))) qgs_nil))) (qss_one (qs_if (qt_cmp op_notIn_seq ref_in (q_bin op_sub ref_I0 (qv 2) (q_bin op_fdiv ref_I (qv 3) (qv 4))) (q_tup (qa_cons q_int (qa_cons (q_callTy call_int1 ref_int (by rfl) T.n_int bb_int (qa_cons (q_cmp op_gt ref_B0 (q_bin op_mod ref_I (qv 3) (qv 4)) q_int (nomark _)) qa_nil)) qa_nil))) (by rfl)) (qss_one (qs_ret q_bl)) qss_nil))) (qss_one (qs_ret (q_cmp (op_eqAll (hu64 hr)) ref_eq (q_callB (VX.cr_sumX rfl) ref_sumX (by rfl) T.n_sum bb_sum (qa_cons (qv 1) qa_nil)) (q_call G_sum_of (hr.mono (by omega)) hga (by rfl) T.m_sum_of T.kp_sum_of T.b_sum_of (qa_cons (qv 0) qa_nil)) (nomark _)))))), hq⟩⟩
def w_is_rounds (T : Txt K mg) {S_is_round : SpD} (G_is_round : FnA P w K mg base k T.f_is_round T.d_is_round ["ratios", "value"] S_is_round) {S_is_list : SpD} (G_is_list : FnA P w K mg base k T.f_is_list T.d_is_list ["value"] S_is_list) {S_want_ratios : SpD} (G_want_ratios : FnA P w K mg base k T.f_want_ratios T.d_want_ratios ["value"] S_want_ratios) {S : SpD} (len : ∀ ds G Q, S ds G Q → ds.length = 2) : 
    { D : DS // ((∀ ds G Q, S ds G Q → D { nx := fun _ G' => Q .non G', rt := Q } (startD ["ratios", "value", "totals", "turn", "one", "total", "number", "under", "more"] ds) G) → FnA P w K mg base (k + 1) T.f_is_rounds T.d_is_rounds ["ratios", "value"] S) } := by
  have sc := sc_is_rounds
  exact ⟨_, fun hq => VL.Fun.okA T.F_is_rounds sc len fun cdv A outer s H E hr hga => ⟨_, (qss_cons (qs_expr (q_call G_want_ratios (hr.mono (by omega)) hga (by rfl) T.m_want_ratios T.kp_want_ratios T.b_want_ratios (qa_cons (qv 0) qa_nil))) (qss_cons (qs_if (qw_or (qt_not (qt_val (q_call G_is_list (hr.mono (by omega)) hga (by rfl) T.m_is_list T.kp_is_list T.b_is_list (qa_cons (qv 1) qa_nil)))) (qw_or1 (qt_not (qt_val (q_callB (cr_all rfl) ref_bools (by rfl) T.n_all bb_all (qa_cons (q_lc [("one", 4)] rfl sc.nd (qi_seq (qv 1)) (show BlkOk ["ratios", "value", "totals", "turn", "one", "total", "number", "under", "more"] (defScope t_is_rounds) _ [("one", 4)] from ⟨by rfl, by decide +kernel, by decide +kernel, by decide +kernel, by decide +kernel⟩) (fun s H C cl fp => (qg_name 4 sc.nd)) (fun s H C cl fp => qts_nil) (fun s H C cl fp => (q_call G_is_round (hr.mono (by omega)) hga (by rfl) T.m_is_round T.kp_is_round T.b_is_round (qa_cons (qv 0) (qa_cons (qv 4) qa_nil))))) qa_nil)))))).pt (qss_one (qs_ret q_bl)) qss_nil) (qss_cons (qs_set 2 sc.nd (q_bin op_mulAll ref_mul (q_lst (qa_cons q_int qa_nil)) (q_callB call_len_seq ref_len (by rfl) T.n_len bb_len (qa_cons (qv 0) qa_nil)))) (qss_cons (qs_for PassesOwn.never rfl (qi_enum (by rfl) T.n_enumerate (qv 1)) (qg_tup (n := 2) rfl (qgs_cons (qg_name 3 sc.nd) (qgs_cons (qg_name 4 sc.nd) qgs_nil))) (qss_cons (qs_setLc 2 [("total", 5), ("more", 8)] rfl sc.nd (qi_zip (by rfl) T.n_zip (qv 2) (qv 4)) (show BlkOk ["ratios", "value", "totals", "turn", "one", "total", "number", "under", "more"] (defScope t_is_rounds) _ [("total", 5), ("more", 8)] from ⟨by rfl, by decide +kernel, by decide +kernel, by decide +kernel, by decide +kernel⟩) (fun s H C cl fp => (qg_tup (n := 2) rfl (qgs_cons (qg_name 5 sc.nd) (qgs_cons (qg_name 8 sc.nd) qgs_nil)))) (fun s H C cl fp => qts_nil) (fun s H C cl fp => (q_bin op_addAll ref_add (qv 5) (qv 8))) (sw_true (by rfl) (by rfl) (by rfl) (by rfl))) (qss_one (qs_for PassesOwn.never rfl (qi_zip (by rfl) T.n_zip (qv 2) (qv 0)) (qg_tup (n := 2) rfl (qgs_cons (qg_name 5 sc.nd) (qgs_cons (qg_tup (n := 2) rfl (qgs_cons (qg_name 6 sc.nd) (qgs_cons (qg_name 7 sc.nd) qgs_nil))) qgs_nil))) (qss_one (qs_if (qt_not (qt_chain op_lt ref_B0 op_lt ref_B0 (q_bin op_sub ref_I0 q_int (qv 7)) (q_bin op_sub ref_I0 (q_bin op_mulAll ref_mul (q_bin op_addAll ref_add (qv 3) q_int) (qv 6)) (q_bin op_mulAll ref_mul (qv 5) (qv 7))) (qv 7))) (qss_one (qs_ret q_bl)) qss_nil)))))) (qss_one (qs_ret q_bl)))))), hq⟩⟩
def w__law_pot (T : Txt K mg) {S : SpD} (len : ∀ ds G Q, S ds G Q → ds.length = 2) : 
    { D : DS // ((∀ ds G Q, S ds G Q → D { nx := fun _ G' => Q .non G', rt := Q } (startD ["script", "k", "cell"] ds) G) → FnA P w K mg base (k + 1) T.f__law_pot T.d__law_pot ["script", "k"] S) } := by
  have sc := sc__law_pot
  exact ⟨_, fun hq => VL.Fun.okA T.F__law_pot sc len fun cdv A outer s H E hr hga => ⟨_, (qss_cons (qs_set 2 sc.nd (q_if (qt_cmp op_lt ref_B0 (qv 1) (q_callB call_len_seq ref_len (by rfl) T.n_len bb_len (qa_cons (qv 0) qa_nil)) (nomark _)) (q_callB call_abs ref_c1 (by rfl) T.n_abs bb_abs (qa_cons (q_ix (qv 0) (qv 1)) qa_nil)) (q_bin op_addAll ref_add (q_bin op_addAll ref_add (q_bin op_mulAll ref_mul q_int (qv 1)) q_int) (q_bin op_mod ref_I (q_callB call_abs ref_c1 (by rfl) T.n_abs bb_abs (qa_cons (q_callB (VX.cr_sumX rfl) ref_sumX (by rfl) T.n_sum bb_sum (qa_cons (q_cut (qv 0) qo_none (qo_some q_int)) qa_nil)) qa_nil)) q_int)))) (qss_one (qs_ret (q_lstM (qa_cons (q_callB (call_max2 rfl) ref_max (by rfl) T.n_max bb_max (qa_cons q_int (qa_cons (q_bin op_sub ref_I0 (qv 2) (q_bin op_pow ref_I q_int q_int)) qa_nil))) (qa_cons (q_bin op_addAll ref_add (q_bin op_mod ref_I (q_callTy call_int1 ref_int (by rfl) T.n_int bb_int (qa_cons (q_bin op_addAll ref_add (q_bin op_addAll ref_add (q_bin op_mulAll ref_mul (q_bin op_mod ref_I (q_callTy call_int1 ref_int (by rfl) T.n_int bb_int (qa_cons (qv 2) qa_nil)) q_int) q_int) (q_bin op_mulAll ref_mul q_int (qv 1))) q_int) qa_nil)) q_int) q_int) qa_nil)))))), hq⟩⟩
def w__law_draw (T : Txt K mg) {S : SpD} (len : ∀ ds G Q, S ds G Q → ds.length = 2) : 
    { D : DS // ((∀ ds G Q, S ds G Q → D { nx := fun _ G' => Q .non G', rt := Q } (startD ["pot", "many", "digit"] ds) G) → FnA P w K mg base (k + 1) T.f__law_draw T.d__law_draw ["pot", "many"] S) } := by
  have sc := sc__law_draw
  exact ⟨_, fun hq => VL.Fun.okA T.F__law_draw sc len fun cdv A outer s H E hr hga => ⟨_, (qss_cons (qs_if (qt_cmp op_gt ref_B0 (q_ix (qv 0) q_int) q_int (nomark _)) (qss_cons (qs_asg (q_callB call_divmod ref_divmod (by rfl) T.n_divmod bb_divmod (qa_cons (q_ix (qv 0) q_int) (qa_cons (qv 1) qa_nil))) (qg_tup (n := 2) rfl (qgs_cons (qg_sub (qv 0) q_int) (qgs_cons (qg_name 2 sc.nd) qgs_nil)))) (qss_one (qs_ret (qv 2)))) qss_nil) (qss_cons (qs_asg (q_bin op_mod ref_I (q_callTy call_int1 ref_int (by rfl) T.n_int bb_int (qa_cons (q_bin op_addAll ref_add (q_bin op_mulAll ref_mul (q_ix (qv 0) q_int) q_int) q_int) qa_nil)) q_int) (qg_sub (qv 0) q_int)) (qss_one (qs_ret (q_bin op_mod ref_I (q_callTy call_int1 ref_int (by rfl) T.n_int bb_int (qa_cons (q_bin op_fdiv ref_I (q_bin op_mod ref_I (q_callTy call_int1 ref_int (by rfl) T.n_int bb_int (qa_cons (q_bin op_mulAll ref_mul (q_ix (qv 0) q_int) (q_ix (qv 0) q_int)) qa_nil)) q_int) q_int) qa_nil)) (qv 1)))))), hq⟩⟩
def w__law_pick (T : Txt K mg) {S__law_draw : SpD} (G__law_draw : FnA P w K mg base k T.f__law_draw T.d__law_draw ["pot", "many"] S__law_draw) {S : SpD} (len : ∀ ds G Q, S ds G Q → ds.length = 2) : 
    { D : DS // ((∀ ds G Q, S ds G Q → D { nx := fun _ G' => Q .non G', rt := Q } (startD ["pot", "some"] ds) G) → FnA P w K mg base (k + 1) T.f__law_pick T.d__law_pick ["pot", "some"] S) } := by
  have sc := sc__law_pick
  exact ⟨_, fun hq => VL.Fun.okA T.F__law_pick sc len fun cdv A outer s H E hr hga => ⟨_, (qss_one (qs_ret (q_ix (qv 1) (q_call G__law_draw (hr.mono (by omega)) hga (by rfl) T.m__law_draw T.kp__law_draw T.b__law_draw (qa_cons (qv 0) (qa_cons (q_callB call_len_seq ref_len (by rfl) T.n_len bb_len (qa_cons (qv 1) qa_nil)) qa_nil)))))), hq⟩⟩
def w__law_low (T : Txt K mg) {S : SpD} (len : ∀ ds G Q, S ds G Q → ds.length = 2) : 
    { D : DS // ((∀ ds G Q, S ds G Q → D { nx := fun _ G' => Q .non G', rt := Q } (startD ["number", "under", "near", "far"] ds) G) → FnA P w K mg base (k + 1) T.f__law_low T.d__law_low ["number", "under"] S) } := by
  have sc := sc__law_low
  exact ⟨_, fun hq => VL.Fun.okA T.F__law_low sc len fun cdv A outer s H E hr hga => ⟨_, (qss_cons (qs_par 2 3 rfl sc.nd (by decide) (qa_cons (q_callB call_abs ref_c1 (by rfl) T.n_abs bb_abs (qa_cons (qv 0) qa_nil)) (qa_cons (qv 1) qa_nil))) (qss_cons (qs_while PassesOwn.never (qt_cmp op_gt ref_B0 (qv 3) q_int (nomark _)) (qss_one (qs_par 2 3 rfl sc.nd (by decide) (qa_cons (qv 3) (qa_cons (q_bin op_mod ref_I (q_callTy call_int1 ref_int (by rfl) T.n_int bb_int (qa_cons (qv 2) qa_nil)) (qv 3)) qa_nil))))) (qss_one (qs_ret (q_tup (qa_cons (q_bin op_fdiv ref_I (qv 0) (qv 2)) (qa_cons (q_bin op_fdiv ref_I (qv 1) (qv 2)) qa_nil))))))), hq⟩⟩
def w__law_sum (T : Txt K mg) {S__law_low : SpD} (G__law_low : FnA P w K mg base k T.f__law_low T.d__law_low ["number", "under"] S__law_low) {S : SpD} (len : ∀ ds G Q, S ds G Q → ds.length = 1) : 
    { D : DS // ((∀ ds G Q, S ds G Q → D { nx := fun _ G' => Q .non G', rt := Q } (startD ["pairs", "found", "number", "under"] ds) G) → FnA P w K mg base (k + 1) T.f__law_sum T.d__law_sum ["pairs"] S) } := by
  have sc := sc__law_sum
  exact ⟨_, fun hq => VL.Fun.okA T.F__law_sum sc len fun cdv A outer s H E hr hga => ⟨_, (qss_cons (qs_set 1 sc.nd (q_tup (qa_cons q_int (qa_cons q_int qa_nil)))) (qss_cons (qs_for PassesOwn.never rfl (qi_seq (qv 0)) (qg_tup (n := 2) rfl (qgs_cons (qg_name 2 sc.nd) (qgs_cons (qg_name 3 sc.nd) qgs_nil))) (qss_one (qs_set 1 sc.nd (q_call G__law_low (hr.mono (by omega)) hga (by rfl) T.m__law_low T.kp__law_low T.b__law_low (qa_cons (q_bin op_addAll ref_add (q_bin op_mulAll ref_mul (q_ix (qv 1) q_int) (qv 3)) (q_bin op_mulAll ref_mul (qv 2) (q_ix (qv 1) q_int))) (qa_cons (q_bin op_mulAll ref_mul (q_ix (qv 1) q_int) (qv 3)) qa_nil)))))) (qss_one (qs_ret (qv 1))))), hq⟩⟩
def w__law_ratios (T : Txt K mg) {S__law_low : SpD} (G__law_low : FnA P w K mg base k T.f__law_low T.d__law_low ["number", "under"] S__law_low) {S__law_draw : SpD} (G__law_draw : FnA P w K mg base k T.f__law_draw T.d__law_draw ["pot", "many"] S__law_draw) {S__law_sum : SpD} (G__law_sum : FnA P w K mg base k T.f__law_sum T.d__law_sum ["pairs"] S__law_sum) {S__law_pick : SpD} (G__law_pick : FnA P w K mg base k T.f__law_pick T.d__law_pick ["pot", "some"] S__law_pick) {S : SpD} (len : ∀ ds G Q, S ds G Q → ds.length = 1) : 
    { D : DS // ((∀ ds G Q, S ds G Q → D { nx := fun _ G' => Q .non G', rt := Q } (startD ["pot", "many", "under", "top", "found", "number", "low", "turn"] ds) G) → FnA P w K mg base (k + 1) T.f__law_ratios T.d__law_ratios ["pot"] S) } := by
  have sc := sc__law_ratios
  exact ⟨_, fun hq => VL.Fun.okA T.F__law_ratios sc len fun cdv A outer s H E hr hga => ⟨_, (qss_cons (qs_asg (q_tup (qa_cons (q_call G__law_draw (hr.mono (by omega)) hga (by rfl) T.m__law_draw T.kp__law_draw T.b__law_draw (qa_cons (qv 0) (qa_cons q_int qa_nil))) (qa_cons (q_call G__law_pick (hr.mono (by omega)) hga (by rfl) T.m__law_pick T.kp__law_pick T.b__law_pick (qa_cons (qv 0) (qa_cons (q_lst (qa_cons q_int (qa_cons q_int (qa_cons q_int (qa_cons q_int (qa_cons q_int (qa_cons q_int (qa_cons q_int qa_nil)))))))) qa_nil))) qa_nil))) (qg_tup (n := 2) rfl (qgs_cons (qg_name 1 sc.nd) (qgs_cons (qg_name 2 sc.nd) qgs_nil)))) (qss_cons (qs_set 3 sc.nd (q_bin op_mulAll ref_mul (qv 2) (q_if (qt_cmp (op_eqAll (hu64 hr)) ref_eq (q_call G__law_draw (hr.mono (by omega)) hga (by rfl) T.m__law_draw T.kp__law_draw T.b__law_draw (qa_cons (qv 0) (qa_cons q_int qa_nil))) q_int (nomark _)) q_int (q_bin op_addAll ref_add q_int (q_call G__law_draw (hr.mono (by omega)) hga (by rfl) T.m__law_draw T.kp__law_draw T.b__law_draw (qa_cons (qv 0) (qa_cons q_int qa_nil))))))) (qss_cons (qs_setLcM 4 [("turn", 7)] rfl sc.nd (qi_range1 (by rfl) T.n_range (qv 1)) (show BlkOk ["pot", "many", "under", "top", "found", "number", "low", "turn"] (defScope t__law_ratios) _ [("turn", 7)] from ⟨by rfl, by decide +kernel, by decide +kernel, by decide +kernel, by decide +kernel⟩) (fun s H C cl fp => (qg_name 7 sc.nd)) (fun s H C cl fp => qts_nil) (fun s H C cl fp => (q_call G__law_low (hr.mono (by omega)) hga (by rfl) T.m__law_low T.kp__law_low T.b__law_low (qa_cons (q_bin op_addAll ref_add q_int (q_call G__law_draw (hr.mono (by omega)) hga (by rfl) T.m__law_draw T.kp__law_draw T.b__law_draw (qa_cons (qv 0) (qa_cons (qv 3) qa_nil)))) (qa_cons (qv 2) qa_nil)))) (sw_true (by rfl) (by rfl) (by rfl) (by rfl))) (qss_cons (qs_asg (q_call G__law_sum (hr.mono (by omega)) hga (by rfl) T.m__law_sum T.kp__law_sum T.b__law_sum (qa_cons (qv 4) qa_nil)) (qg_tup (n := 2) rfl (qgs_cons (qg_name 5 sc.nd) (qgs_cons (qg_name 6 sc.nd) qgs_nil)))) (qss_cons (qs_expr (q_bm PySem.F.slot_list_append PySem.F.type_list_append mt_append ref_append (qv 4) (qa_cons (q_call G__law_low (hr.mono (by omega)) hga (by rfl) T.m__law_low T.kp__law_low T.b__law_low (qa_cons (q_bin op_addAll ref_add (q_bin op_sub ref_I0 (qv 6) (q_bin op_mod ref_I (qv 5) (qv 6))) (q_bin op_mulAll ref_mul (qv 6) (q_call G__law_draw (hr.mono (by omega)) hga (by rfl) T.m__law_draw T.kp__law_draw T.b__law_draw (qa_cons (qv 0) (qa_cons q_int qa_nil))))) (qa_cons (qv 6) qa_nil))) qa_nil))) (qss_one (qs_ret (q_callTy call_tuple_of ref_tuple (by rfl) T.n_tuple bb_tuple (qa_cons (qv 4) qa_nil))))))))), hq⟩⟩
def w__law_is_round (T : Txt K mg) {S__law_sum : SpD} (G__law_sum : FnA P w K mg base k T.f__law_sum T.d__law_sum ["pairs"] S__law_sum) {S : SpD} (len : ∀ ds G Q, S ds G Q → ds.length = 2) : 
    { D : DS // ((∀ ds G Q, S ds G Q → D { nx := fun _ G' => Q .non G', rt := Q } (startD ["ratios", "value", "one", "number", "under"] ds) G) → FnA P w K mg base (k + 1) T.f__law_is_round T.d__law_is_round ["ratios", "value"] S) } := by
  have sc := sc__law_is_round
  exact ⟨_, fun hq => VL.Fun.okA T.F__law_is_round sc len fun cdv A outer s H E hr hga => ⟨_, (qss_cons (qs_if (qw_or (qt_not (qt_val (q_callB call_isi ref_isi (by rfl) T.n_isinstance bb_isinstance (qa_cons (qv 1) (qa_cons (q_bty (by rfl) T.n_tuple bb_tuple) qa_nil))))) (qw_or1 (qt_cmp (op_neAll (hu64 hr)) ref_ne (q_callB call_len_seq ref_len (by rfl) T.n_len bb_len (qa_cons (qv 1) qa_nil)) (q_callB call_len_seq ref_len (by rfl) T.n_len bb_len (qa_cons (qv 0) qa_nil)) (nomark _)))).pt (qss_one (qs_ret q_bl)) qss_nil) (qss_cons (qs_for PassesOwn.never rfl (qi_zip (by rfl) T.n_zip (qv 1) (qv 0)) (qg_tup (n := 2) rfl (qgs_cons (qg_name 2 sc.nd) (qgs_cons (qg_tup (n := 2) rfl (qgs_cons (qg_name 3 sc.nd) (qgs_cons (qg_name 4 sc.nd) qgs_nil))) qgs_nil))) (qss_one (qs_if (qw_or (qt_not (qt_val (q_callB call_isi ref_isi (by rfl) T.n_isinstance bb_isinstance (qa_cons (qv 2) (qa_cons (q_bty (by rfl) T.n_int bb_int) qa_nil))))) (qw_or (qt_val (q_callB call_isi ref_isi (by rfl) T.n_isinstance bb_isinstance (qa_cons (qv 2) (qa_cons (q_bty (by rfl) T.n_bool bb_bool) qa_nil)))) (qw_or (qt_cmp op_ge ref_B0 (q_callB call_abs ref_c1 (by rfl) T.n_abs bb_abs (qa_cons (q_bin op_sub ref_I0 (q_bin op_mulAll ref_mul (qv 2) (qv 4)) (qv 3)) qa_nil)) (qv 4) (nomark _)) (qw_or1 (qt_cmp op_lt ref_B0 (qv 2) q_int (nomark _)))))).pt (qss_one (qs_ret q_bl)) qss_nil))) (qss_one (qs_ret (q_cmp (op_eqAll (hu64 hr)) ref_eq (q_tup (qa_cons (q_callB (VX.cr_sumX rfl) ref_sumX (by rfl) T.n_sum bb_sum (qa_cons (qv 1) qa_nil)) (qa_cons q_int qa_nil))) (q_call G__law_sum (hr.mono (by omega)) hga (by rfl) T.m__law_sum T.kp__law_sum T.b__law_sum (qa_cons (qv 0) qa_nil)) (nomark _)))))), hq⟩⟩
def w__law_is_table (T : Txt K mg) {S__law_is_round : SpD} (G__law_is_round : FnA P w K mg base k T.f__law_is_round T.d__law_is_round ["ratios", "value"] S__law_is_round) {S : SpD} (len : ∀ ds G Q, S ds G Q → ds.length = 2) : 
    { D : DS // ((∀ ds G Q, S ds G Q → D { nx := fun _ G' => Q .non G', rt := Q } (startD ["ratios", "value", "position", "number", "under", "total", "turn", "one"] ds) G) → FnA P w K mg base (k + 1) T.f__law_is_table T.d__law_is_table ["ratios", "value"] S) } := by
  have sc := sc__law_is_table
  exact ⟨_, fun hq => VL.Fun.okA T.F__law_is_table sc len fun cdv A outer s H E hr hga => ⟨_, (qss_cons (qs_if (qw_or (qt_not (qt_val (q_callB call_isiT ref_isiT (by rfl) T.n_isinstance bb_isinstance (qa_cons (qv 1) (qa_cons (q_tup (qa_cons (q_bty (by rfl) T.n_list bb_list) (qa_cons (q_bty (by rfl) T.n_tuple bb_tuple) qa_nil))) qa_nil))))) (qw_or1 (qt_not (qt_val (q_callB (cr_all rfl) ref_bools (by rfl) T.n_all bb_all (qa_cons (q_lc [("one", 7)] rfl sc.nd (qi_seq (qv 1)) (show BlkOk ["ratios", "value", "position", "number", "under", "total", "turn", "one"] (defScope t__law_is_table) _ [("one", 7)] from ⟨by rfl, by decide +kernel, by decide +kernel, by decide +kernel, by decide +kernel⟩) (fun s H C cl fp => (qg_name 7 sc.nd)) (fun s H C cl fp => qts_nil) (fun s H C cl fp => (q_call G__law_is_round (hr.mono (by omega)) hga (by rfl) T.m__law_is_round T.kp__law_is_round T.b__law_is_round (qa_cons (qv 0) (qa_cons (qv 7) qa_nil))))) qa_nil)))))).pt (qss_one (qs_ret q_bl)) qss_nil) (qss_cons (qs_for PassesOwn.never rfl (qi_enum (by rfl) T.n_enumerate (qv 0)) (qg_tup (n := 2) rfl (qgs_cons (qg_name 2 sc.nd) (qgs_cons (qg_tup (n := 2) rfl (qgs_cons (qg_name 3 sc.nd) (qgs_cons (qg_name 4 sc.nd) qgs_nil))) qgs_nil))) (qss_cons (qs_set 5 sc.nd q_int) (qss_one (qs_for PassesOwn.never rfl (qi_enum (by rfl) T.n_enumerate (qv 1)) (qg_tup (n := 2) rfl (qgs_cons (qg_name 6 sc.nd) (qgs_cons (qg_name 7 sc.nd) qgs_nil))) (qss_cons (qs_set 5 sc.nd (q_bin op_addAll ref_add (qv 5) (q_ix (qv 7) (qv 2)))) (qss_one (qs_if (qt_cmp op_ge ref_B0 (q_callB call_abs ref_c1 (by rfl) T.n_abs bb_abs (qa_cons (q_bin op_sub ref_I0 (q_bin op_mulAll ref_mul (q_bin op_addAll ref_add (qv 6) q_int) (qv 3)) (q_bin op_mulAll ref_mul (qv 5) (qv 4))) qa_nil)) (qv 4) (nomark _)) (qss_one (qs_ret q_bl)) qss_nil))))))) (qss_one (qs_ret q_bl)))), hq⟩⟩
def w__law_bent (T : Txt K mg) {S__law_pick : SpD} (G__law_pick : FnA P w K mg base k T.f__law_pick T.d__law_pick ["pot", "some"] S__law_pick) {S__law_draw : SpD} (G__law_draw : FnA P w K mg base k T.f__law_draw T.d__law_draw ["pot", "many"] S__law_draw) {S : SpD} (len : ∀ ds G Q, S ds G Q → ds.length = 2) : 
    { D : DS // ((∀ ds G Q, S ds G Q → D { nx := fun _ G' => Q .non G', rt := Q } (startD ["pot", "rows", "at", "other", "way", "row", "more", "less", "odd"] ds) G) → FnA P w K mg base (k + 1) T.f__law_bent T.d__law_bent ["pot", "rows"] S) } := by
  have sc := sc__law_bent
  exact ⟨_, fun hq => VL.Fun.okA T.F__law_bent sc len fun cdv A outer s H E hr hga => ⟨_, (qss_cons (qs_if (qt_cmp (op_eqAll (hu64 hr)) ref_eq (qv 1) (q_lst qa_nil) (nomark _)) (qss_one (qs_ret (q_lst (qa_cons (q_tup qa_nil) qa_nil)))) qss_nil) (qss_cons (qs_par3 2 3 4 rfl sc.nd (by decide) (by decide) (by decide) (qa_cons (q_call G__law_draw (hr.mono (by omega)) hga (by rfl) T.m__law_draw T.kp__law_draw T.b__law_draw (qa_cons (qv 0) (qa_cons (q_callB call_len_seq ref_len (by rfl) T.n_len bb_len (qa_cons (qv 1) qa_nil)) qa_nil))) (qa_cons (q_call G__law_draw (hr.mono (by omega)) hga (by rfl) T.m__law_draw T.kp__law_draw T.b__law_draw (qa_cons (qv 0) (qa_cons (q_callB call_len_seq ref_len (by rfl) T.n_len bb_len (qa_cons (qv 1) qa_nil)) qa_nil))) (qa_cons (q_call G__law_draw (hr.mono (by omega)) hga (by rfl) T.m__law_draw T.kp__law_draw T.b__law_draw (qa_cons (qv 0) (qa_cons q_int qa_nil))) qa_nil)))) (qss_cons (qs_if (qt_cmp op_lt ref_B0 (qv 4) q_int (nomark _)) (qss_cons (qs_par3 5 6 7 rfl sc.nd (by decide) (by decide) (by decide) (qa_cons (q_callTy call_list_of ref_listM (by rfl) T.n_list bb_list (qa_cons (q_ix (qv 1) (qv 2)) qa_nil)) (qa_cons (q_call G__law_draw (hr.mono (by omega)) hga (by rfl) T.m__law_draw T.kp__law_draw T.b__law_draw (qa_cons (qv 0) (qa_cons (q_callB call_len_seq ref_len (by rfl) T.n_len bb_len (qa_cons (q_ix (qv 1) (qv 2)) qa_nil)) qa_nil))) (qa_cons (q_call G__law_draw (hr.mono (by omega)) hga (by rfl) T.m__law_draw T.kp__law_draw T.b__law_draw (qa_cons (qv 0) (qa_cons (q_callB call_len_seq ref_len (by rfl) T.n_len bb_len (qa_cons (q_ix (qv 1) (qv 2)) qa_nil)) qa_nil))) qa_nil)))) (qss_cons (qs_asg (q_bin op_addAll ref_add (q_ix (qv 5) (qv 6)) q_int) (qg_sub (qv 5) (qv 6))) (qss_cons (qs_asg (q_bin op_sub ref_I0 (q_ix (qv 5) (qv 7)) q_int) (qg_sub (qv 5) (qv 7))) (qss_one (qs_ret (q_bin op_addAll ref_add (q_bin op_addAll ref_add (q_cut (qv 1) qo_none (qo_some (qv 2))) (q_lst (qa_cons (q_callTy call_tuple_of ref_tuple (by rfl) T.n_tuple bb_tuple (qa_cons (qv 5) qa_nil)) qa_nil))) (q_cut (qv 1) (qo_some (q_bin op_addAll ref_add (qv 2) q_int)) qo_none))))))) qss_nil) (qss_cons (qs_if (qt_cmp (op_eqAll (hu64 hr)) ref_eq (qv 4) q_int (nomark _)) (qss_one (qs_ret (q_bin op_addAll ref_add (q_cut (qv 1) qo_none (qo_some (qv 2))) (q_cut (qv 1) (qo_some (q_bin op_addAll ref_add (qv 2) q_int)) qo_none)))) qss_nil) (qss_cons (qs_if (qt_cmp (op_eqAll (hu64 hr)) ref_eq (qv 4) q_int (nomark _)) (qss_one (qs_ret (q_bin op_addAll ref_add (q_bin op_addAll ref_add (q_cut (qv 1) qo_none (qo_some (qv 2))) (q_bin op_mulAll ref_mul (q_cut (qv 1) (qo_some (qv 2)) (qo_some (q_bin op_addAll ref_add (qv 2) q_int))) q_int)) (q_cut (qv 1) (qo_some (q_bin op_addAll ref_add (qv 2) q_int)) qo_none)))) qss_nil) (qss_cons (qs_if (qt_cmp (op_eqAll (hu64 hr)) ref_eq (qv 4) q_int (nomark _)) (qss_one (qs_ret (q_bin op_addAll ref_add (q_rev (qv 1)) (qv 1)))) qss_nil) (qss_cons (qs_set 8 sc.nd (q_call G__law_pick (hr.mono (by omega)) hga (by rfl) T.m__law_pick T.kp__law_pick T.b__law_pick (qa_cons (qv 0) (qa_cons (q_lst (qa_cons q_non (qa_cons (q_callTy call_list_of ref_list (by rfl) T.n_list bb_list (qa_cons (q_ix (qv 1) (qv 2)) qa_nil)) (qa_cons (q_cut (q_ix (qv 1) (qv 2)) qo_none (qo_some (q_un un_neg ref_neg q_int))) (qa_cons (q_bin op_addAll ref_add (q_ix (qv 1) (qv 2)) (q_tup (qa_cons q_int qa_nil))) (qa_cons (q_ix (qv 1) (qv 3)) qa_nil)))))) qa_nil)))) (qss_one (qs_ret (q_bin op_addAll ref_add (q_bin op_addAll ref_add (q_cut (qv 1) qo_none (qo_some (qv 2))) (q_lst (qa_cons (qv 8) qa_nil))) (q_cut (qv 1) (qo_some (q_bin op_addAll ref_add (qv 2) q_int)) qo_none))))))))))), hq⟩⟩
def w__law_right (T : Txt K mg) {S_is_rounds : SpD} (G_is_rounds : FnA P w K mg base k T.f_is_rounds T.d_is_rounds ["ratios", "value"] S_is_rounds) {S__law_is_table : SpD} (G__law_is_table : FnA P w K mg base k T.f__law_is_table T.d__law_is_table ["ratios", "value"] S__law_is_table) {S__law_bent : SpD} (G__law_bent : FnA P w K mg base k T.f__law_bent T.d__law_bent ["pot", "rows"] S__law_bent) {S__law_draw : SpD} (G__law_draw : FnA P w K mg base k T.f__law_draw T.d__law_draw ["pot", "many"] S__law_draw) {S_rounds_of : SpD} (G_rounds_of : FnA P w K mg base k T.f_rounds_of T.d_rounds_of ["ratios", "many"] S_rounds_of) {S__law_ratios : SpD} (G__law_ratios : FnA P w K mg base k T.f__law_ratios T.d__law_ratios ["pot"] S__law_ratios) {S : SpD} (len : ∀ ds G Q, S ds G Q → ds.length = 1) : 
    { D : DS // ((∀ ds G Q, S ds G Q → D { nx := fun _ G' => Q .non G', rt := Q } (startD ["pot", "ratios", "many", "told", "rows", "late", "values", "turn", "value", "shown", "due"] ds) G) → FnA P w K mg base (k + 1) T.f__law_right T.d__law_right ["pot"] S) } := by
  have sc := sc__law_right
  exact ⟨_, fun hq => VL.Fun.okA T.F__law_right sc len fun cdv A outer s H E hr hga => ⟨_, (qss_cons (qs_set 1 sc.nd (q_call G__law_ratios (hr.mono (by omega)) hga (by rfl) T.m__law_ratios T.kp__law_ratios T.b__law_ratios (qa_cons (qv 0) qa_nil))) (qss_cons (qs_set 2 sc.nd (q_if (qt_cmp (op_eqAll (hu64 hr)) ref_eq (q_call G__law_draw (hr.mono (by omega)) hga (by rfl) T.m__law_draw T.kp__law_draw T.b__law_draw (qa_cons (qv 0) (qa_cons q_int qa_nil))) q_int (nomark _)) q_int (q_call G__law_draw (hr.mono (by omega)) hga (by rfl) T.m__law_draw T.kp__law_draw T.b__law_draw (qa_cons (qv 0) (qa_cons q_int qa_nil))))) (qss_cons (qs_set 3 sc.nd (q_call G_rounds_of (hr.mono (by omega)) hga (by rfl) T.m_rounds_of T.kp_rounds_of T.b_rounds_of (qa_cons (qv 1) (qa_cons (qv 2) qa_nil)))) (qss_cons (qs_if (qw_or (qt_not (qt_val (q_callB call_isi ref_isi (by rfl) T.n_isinstance bb_isinstance (qa_cons (qv 3) (qa_cons (q_bty (by rfl) T.n_list bb_list) qa_nil))))) (qw_or (qt_cmp (op_neAll (hu64 hr)) ref_ne (q_callB call_len_seq ref_len (by rfl) T.n_len bb_len (qa_cons (qv 3) qa_nil)) (qv 2) (nomark _)) (qw_or1 (qt_not (qt_val (q_call G__law_is_table (hr.mono (by omega)) hga (by rfl) T.m__law_is_table T.kp__law_is_table T.b__law_is_table (qa_cons (qv 1) (qa_cons (qv 3) qa_nil)))))))).pt (qss_one (qs_ret q_bl)) qss_nil) (qss_cons (qs_set 4 sc.nd (q_callTy call_list_of ref_list (by rfl) T.n_list bb_list (qa_cons (qv 3) qa_nil))) (qss_cons (qs_expr (q_bm PySem.F.slot_list_append PySem.F.type_list_append mt_append ref_append (qv 3) (qa_cons q_non qa_nil))) (qss_cons (qs_set 5 sc.nd (q_callK0 [1, 0] G_rounds_of (hr.mono (by omega)) hga (by rfl) T.m_rounds_of T.kp_rounds_of T.k_rounds_of_many_ratios (qk_cons (qv 2) (qk_cons (qv 1) qk_nil)))) (qss_cons (qs_if (qw_or (qt_cmp (op_neAll (hu64 hr)) ref_ne (q_callB call_len_seq ref_len (by rfl) T.n_len bb_len (qa_cons (qv 5) qa_nil)) (qv 2) (nomark _)) (qw_or1 (qt_not (qt_val (q_call G__law_is_table (hr.mono (by omega)) hga (by rfl) T.m__law_is_table T.kp__law_is_table T.b__law_is_table (qa_cons (qv 1) (qa_cons (qv 5) qa_nil))))))).pt (qss_one (qs_ret q_bl)) qss_nil) (qss_cons (qs_set 6 sc.nd (q_lstM (qa_cons (qv 4) (qa_cons (q_cut (qv 4) qo_none (qo_some (q_call G__law_draw (hr.mono (by omega)) hga (by rfl) T.m__law_draw T.kp__law_draw T.b__law_draw (qa_cons (qv 0) (qa_cons (q_bin op_addAll ref_add (qv 2) q_int) qa_nil))))) (qa_cons (q_lst qa_nil) (qa_cons (q_callTy call_tuple_of ref_tuple (by rfl) T.n_tuple bb_tuple (qa_cons (qv 4) qa_nil)) qa_nil)))))) (qss_cons (qs_for PassesOwn.never rfl (qi_range1 (by rfl) T.n_range q_int) (qg_name 7 sc.nd) (qss_one (qs_expr (q_bm PySem.F.slot_list_append PySem.F.type_list_append mt_append ref_append (qv 6) (qa_cons (q_call G__law_bent (hr.mono (by omega)) hga (by rfl) T.m__law_bent T.kp__law_bent T.b__law_bent (qa_cons (qv 0) (qa_cons (qv 4) qa_nil))) qa_nil))))) (qss_cons (qs_for PassesOwn.never rfl (qi_seq (qv 6)) (qg_name 8 sc.nd) (qss_cons (qs_par 9 10 rfl sc.nd (by decide) (qa_cons (q_callB (VX.call_repr hga (hu64 hr)) ref_repr (by rfl) T.n_repr bb_repr (qa_cons (qv 8) qa_nil)) (qa_cons (q_call G__law_is_table (hr.mono (by omega)) hga (by rfl) T.m__law_is_table T.kp__law_is_table T.b__law_is_table (qa_cons (qv 1) (qa_cons (qv 8) qa_nil))) qa_nil))) (qss_cons (qs_if (qt_cmp (op_neAll (hu64 hr)) ref_ne (q_callB (VX.call_repr hga (hu64 hr)) ref_repr (by rfl) T.n_repr bb_repr (qa_cons (q_lst (qa_cons (q_call G_is_rounds (hr.mono (by omega)) hga (by rfl) T.m_is_rounds T.kp_is_rounds T.b_is_rounds (qa_cons (qv 1) (qa_cons (qv 8) qa_nil))) (qa_cons (q_callK0 [1, 0] G_is_rounds (hr.mono (by omega)) hga (by rfl) T.m_is_rounds T.kp_is_rounds T.k_is_rounds_value_ratios (qk_cons (qv 8) (qk_cons (qv 1) qk_nil))) qa_nil))) qa_nil)) (q_callB (VX.call_repr hga (hu64 hr)) ref_repr (by rfl) T.n_repr bb_repr (qa_cons (q_lst (qa_cons (qv 10) (qa_cons (qv 10) qa_nil))) qa_nil)) (nomark _)) (qss_one (qs_ret q_bl)) qss_nil) (qss_one (qs_if (qt_cmp (op_neAll (hu64 hr)) ref_ne (q_callB (VX.call_repr hga (hu64 hr)) ref_repr (by rfl) T.n_repr bb_repr (qa_cons (qv 8) qa_nil)) (qv 9) (nomark _)) (qss_one (qs_ret q_bl)) qss_nil))))) (qss_one (qs_ret q_bl))))))))))))), hq⟩⟩
def w_law (T : Txt K mg) {S__law_right : SpD} (G__law_right : FnA P w K mg base k T.f__law_right T.d__law_right ["pot"] S__law_right) {S__law_pot : SpD} (G__law_pot : FnA P w K mg base k T.f__law_pot T.d__law_pot ["script", "k"] S__law_pot) {S : SpD} (len : ∀ ds G Q, S ds G Q → ds.length = 1) : 
    { D : DS // ((∀ ds G Q, S ds G Q → D { nx := fun _ G' => Q .non G', rt := Q } (startD ["script"] ds) G) → FnA P w K mg base (k + 1) T.f_law T.d_law ["script"] S) } := by
  have sc := sc_law
  exact ⟨_, fun hq => VL.Fun.okA T.F_law sc len fun cdv A outer s H E hr hga => ⟨_, (qss_one (qs_ret (q_call G__law_right (hr.mono (by omega)) hga (by rfl) T.m__law_right T.kp__law_right T.b__law_right (qa_cons (q_call G__law_pot (hr.mono (by omega)) hga (by rfl) T.m__law_pot T.kp__law_pot T.b__law_pot (qa_cons (qv 0) (qa_cons q_int qa_nil))) qa_nil)))), hq⟩⟩
def w_Spread___init__ (T : Txt K mg) {S : SpD} (len : ∀ ds G Q, S ds G Q → ds.length = 4) : 
    { D : DS // ((∀ ds G Q, S ds G Q → D { nx := fun _ G' => Q .non G', rt := Q } (startD ["self", "parts", "lines", "many", "turn"] ds) G) → FnA P w K mg base (k + 1) T.f_Spread___init__ T.d_Spread___init__ ["self", "parts", "lines", "many"] S) } := by
  have sc := sc_Spread___init__
  exact ⟨_, fun hq => VL.Fun.okA T.F_Spread___init__ sc len fun cdv A outer s H E hr hga => ⟨_, (qss_cons (qs_fld (qv 0) (qv 1) T.cl_Spread T.no_own_parts) (qss_cons (qs_fld (qv 0) (qv 2) T.cl_Spread T.no_own_lines) (qss_cons (qs_fld (qv 0) (qv 3) T.cl_Spread T.no_own_many) (qss_cons (qs_fld (qv 0) q_dnew T.cl_Spread T.no_own_places) (qss_one (qs_fld (qv 0) (q_lc [("turn", 4)] rfl sc.nd (qi_range1 (by rfl) T.n_range (qv 3)) (show BlkOk ["self", "parts", "lines", "many", "turn"] (defScope t_Spread___init__) _ [("turn", 4)] from ⟨by rfl, by decide +kernel, by decide +kernel, by decide +kernel, by decide +kernel⟩) (fun s H C cl fp => (qg_name 4 sc.nd)) (fun s H C cl fp => qts_nil) (fun s H C cl fp => (q_lstM qa_nil))) T.cl_Spread T.no_own_lots)))))), hq⟩⟩
def w_Spread_pieces (T : Txt K mg) {S_window_begin : SpD} (G_window_begin : FnA P w K mg base k T.f_window_begin T.d_window_begin ["share", "turn"] S_window_begin) {S_window_end : SpD} (G_window_end : FnA P w K mg base k T.f_window_end T.d_window_end ["share", "turn"] S_window_end) {S : SpD} (len : ∀ ds G Q, S ds G Q → ds.length = 1) : 
    { D : DS // ((∀ ds G Q, S ds G Q → D { nx := fun _ G' => Q .non G', rt := Q } (startD ["self", "musts", "others", "position", "part", "turn"] ds) G) → FnA P w K mg base (k + 1) T.f_Spread_pieces T.d_Spread_pieces ["self"] S) } := by
  have sc := sc_Spread_pieces
  exact ⟨_, fun hq => VL.Fun.okA T.F_Spread_pieces sc len fun cdv A outer s H E hr hga => ⟨_, (qss_cons (qs_par 1 2 rfl sc.nd (by decide) (qa_cons (q_lstM qa_nil) (qa_cons (q_lstM qa_nil) qa_nil))) (qss_cons (qs_for PassesOwn.never rfl (qi_enum (by rfl) T.n_enumerate (q_fld (qv 0) T.cl_Spread T.no_own_parts)) (qg_tup (n := 2) rfl (qgs_cons (qg_name 3 sc.nd) (qgs_cons (qg_name 4 sc.nd) qgs_nil))) (qss_cons (qs_set 5 sc.nd q_int) (qss_one (qs_while PassesOwn.never (qw_and (qt_cmp op_gt ref_B0 (q_ix (qv 4) q_int) q_int (nomark _)) (qw_and1 (qt_cmp op_lt ref_B0 (q_call G_window_begin (hr.mono (by omega)) hga (by rfl) T.m_window_begin T.kp_window_begin T.b_window_begin (qa_cons (qv 4) (qa_cons (qv 5) qa_nil))) (q_fld (qv 0) T.cl_Spread T.no_own_many) (nomark _)))).pt (qss_cons (qs_if (qt_cmp op_le ref_B0 (q_call G_window_end (hr.mono (by omega)) hga (by rfl) T.m_window_end T.kp_window_end T.b_window_end (qa_cons (qv 4) (qa_cons (qv 5) qa_nil))) (q_fld (qv 0) T.cl_Spread T.no_own_many) (nomark _)) (qss_one (qs_expr (q_bm PySem.F.slot_list_append PySem.F.type_list_append mt_append ref_append (qv 1) (qa_cons (q_tup (qa_cons (qv 3) (qa_cons (qv 5) qa_nil))) qa_nil)))) (qss_one (qs_expr (q_bm PySem.F.slot_list_append PySem.F.type_list_append mt_append ref_append (qv 2) (qa_cons (q_tup (qa_cons (qv 3) (qa_cons (qv 5) qa_nil))) qa_nil))))) (qss_one (qs_set 5 sc.nd (q_bin op_addAll ref_add (qv 5) q_int)))))))) (qss_one (qs_ret (q_tup (qa_cons (qv 1) (qa_cons (qv 2) qa_nil))))))), hq⟩⟩
def w_Spread_window (T : Txt K mg) {S_window_begin : SpD} (G_window_begin : FnA P w K mg base k T.f_window_begin T.d_window_begin ["share", "turn"] S_window_begin) {S_window_end : SpD} (G_window_end : FnA P w K mg base k T.f_window_end T.d_window_end ["share", "turn"] S_window_end) {S : SpD} (len : ∀ ds G Q, S ds G Q → ds.length = 2) : 
    { D : DS // ((∀ ds G Q, S ds G Q → D { nx := fun _ G' => Q .non G', rt := Q } (startD ["self", "piece", "part"] ds) G) → FnA P w K mg base (k + 1) T.f_Spread_window T.d_Spread_window ["self", "piece"] S) } := by
  have sc := sc_Spread_window
  exact ⟨_, fun hq => VL.Fun.okA T.F_Spread_window sc len fun cdv A outer s H E hr hga => ⟨_, (qss_cons (qs_set 2 sc.nd (q_ix (q_fld (qv 0) T.cl_Spread T.no_own_parts) (q_ix (qv 1) q_int))) (qss_one (qs_ret (q_lstRg2 rfl (by rfl) T.n_list (by rfl) T.n_range (q_call G_window_begin (hr.mono (by omega)) hga (by rfl) T.m_window_begin T.kp_window_begin T.b_window_begin (qa_cons (qv 2) (qa_cons (q_ix (qv 1) q_int) qa_nil))) (q_callB (call_min2 rfl) ref_min (by rfl) T.n_min bb_min (qa_cons (q_fld (qv 0) T.cl_Spread T.no_own_many) (qa_cons (q_call G_window_end (hr.mono (by omega)) hga (by rfl) T.m_window_end T.kp_window_end T.b_window_end (qa_cons (qv 2) (qa_cons (q_ix (qv 1) q_int) qa_nil))) qa_nil))))))), hq⟩⟩
def w_Spread_in_the_way (T : Txt K mg) {S : SpD} (len : ∀ ds G Q, S ds G Q → ds.length = 3) : 
    { D : DS // ((∀ ds G Q, S ds G Q → D { nx := fun _ G' => Q .non G', rt := Q } (startD ["self", "piece", "turn", "lot", "same", "other"] ds) G) → FnA P w K mg base (k + 1) T.f_Spread_in_the_way T.d_Spread_in_the_way ["self", "piece", "turn"] S) } := by
  have sc := sc_Spread_in_the_way
  exact ⟨_, fun hq => VL.Fun.okA T.F_Spread_in_the_way sc len fun cdv A outer s H E hr hga => ⟨_, (qss_cons (qs_set 3 sc.nd (q_ix (q_fld (qv 0) T.cl_Spread T.no_own_lots) (qv 2))) (qss_cons (qs_setLc 4 [("other", 5)] rfl sc.nd (qi_seq (qv 3)) (show BlkOk ["self", "piece", "turn", "lot", "same", "other"] (defScope t_Spread_in_the_way) _ [("other", 5)] from ⟨by rfl, by decide +kernel, by decide +kernel, by decide +kernel, by decide +kernel⟩) (fun s H C cl fp => (qg_name 5 sc.nd)) (fun s H C cl fp => (qts_one (qt_cmp (op_eqAll (hu64 hr)) ref_eq (q_ix (qv 5) q_int) (q_ix (qv 1) q_int) (nomark _)))) (fun s H C cl fp => (qv 5)) (sw_true (by rfl) (by rfl) (by rfl) (by rfl))) (qss_cons (qs_if (qt_cmp (op_neAll (hu64 hr)) ref_ne (qv 4) (q_lst qa_nil) (nomark _)) (qss_one (qs_ret (qv 4))) qss_nil) (qss_one (qs_ret (q_if (qt_cmp op_ge ref_B0 (q_callB call_len_seq ref_len (by rfl) T.n_len bb_len (qa_cons (qv 3) qa_nil)) (q_fld (qv 0) T.cl_Spread T.no_own_lines) (nomark _)) (q_callTy call_list_of ref_list (by rfl) T.n_list bb_list (qa_cons (qv 3) qa_nil)) (q_lst qa_nil))))))), hq⟩⟩
def w_Spread_put (T : Txt K mg) {S : SpD} (len : ∀ ds G Q, S ds G Q → ds.length = 4) : 
    { D : DS // ((∀ ds G Q, S ds G Q → D { nx := fun _ G' => Q .non G', rt := Q } (startD ["self", "piece", "turn", "ahead", "old"] ds) G) → FnA P w K mg base (k + 1) T.f_Spread_put T.d_Spread_put ["self", "piece", "turn", "ahead"] S) } := by
  have sc := sc_Spread_put
  exact ⟨_, fun hq => VL.Fun.okA T.F_Spread_put sc len fun cdv A outer s H E hr hga => ⟨_, (qss_one (qs_while PassesOwn.never (qt_cmp op_notN ref_notN (qv 1) q_non (nomark _)) (qss_cons (qs_set 4 sc.nd (q_dget2 (hu64 hr) (q_fld (qv 0) T.cl_Spread T.no_own_places) (qv 1) q_non ⟨by rfl, by rfl, by rfl, by rfl⟩)) (qss_cons (qs_if (qt_cmp op_notN ref_notN (qv 4) q_non (nomark _)) (qss_one (qs_expr (q_bm PySem.F.slot_list_remove PySem.F.type_list_remove (VX.mt_removeD (hu70 hr)) ref_remove (q_ix (q_fld (qv 0) T.cl_Spread T.no_own_lots) (qv 4)) (qa_cons (qv 1) qa_nil)))) qss_nil) (qss_cons (qs_dput (hu64 hr) (q_fld (qv 0) T.cl_Spread T.no_own_places) (qv 1) (qv 2)) (qss_cons (qs_expr (q_bm PySem.F.slot_list_append PySem.F.type_list_append mt_append ref_append (q_ix (q_fld (qv 0) T.cl_Spread T.no_own_lots) (qv 2)) (qa_cons (qv 1) qa_nil))) (qss_one (qs_par 1 2 rfl sc.nd (by decide) (qa_cons (q_dget (hu64 hr) (qv 3) (qv 1) (by intro _ _; rfl)) (qa_cons (qv 4) qa_nil)))))))))), hq⟩⟩
def w_Spread_place (T : Txt K mg) {S_Spread_window : SpD} (G_Spread_window : FnA P w K mg base k T.f_Spread_window T.d_Spread_window ["self", "piece"] S_Spread_window) {S_Spread_put : SpD} (G_Spread_put : FnA P w K mg base k T.f_Spread_put T.d_Spread_put ["self", "piece", "turn", "ahead"] S_Spread_put) {S_Spread_in_the_way : SpD} (G_Spread_in_the_way : FnA P w K mg base k T.f_Spread_in_the_way T.d_Spread_in_the_way ["self", "piece", "turn"] S_Spread_in_the_way) {S : SpD} (len : ∀ ds G Q, S ds G Q → ds.length = 2) : 
    { D : DS // ((∀ ds G Q, S ds G Q → D { nx := fun _ G' => Q .non G', rt := Q } (startD ["self", "first", "ahead", "left", "piece", "turn", "others", "other"] ds) G) → FnA P w K mg base (k + 1) T.f_Spread_place T.d_Spread_place ["self", "first"] S) } := by
  have sc := sc_Spread_place
  exact ⟨_, fun hq => VL.Fun.okA T.F_Spread_place sc len fun cdv A outer s H E hr hga => ⟨_, (qss_cons (qs_par 2 3 rfl sc.nd (by decide) (qa_cons (q_disp1 (hu64 hr) (qv 1) q_non) (qa_cons (q_lstM (qa_cons (qv 1) qa_nil)) qa_nil))) (qss_cons (qs_while PassesOwn.never (qt_cmp (op_neAll (hu64 hr)) ref_ne (qv 3) (q_lst qa_nil) (nomark _)) (qss_cons (qs_set 4 sc.nd (q_bm PySem.F.slot_list_pop PySem.F.type_list_pop mt_popAt ref_pop0 (qv 3) (qa_cons q_int qa_nil))) (qss_one (qs_for PassesOwn.never rfl (qi_seq (q_meth (qv 0) T.cl_Spread T.me_Spread_window G_Spread_window (hr.mono (by omega)) hga T.b_Spread_window (qa_cons (qv 4) qa_nil))) (qg_name 5 sc.nd) (qss_cons (qs_if (qt_cmp (op_eqAll (hu64 hr)) ref_eq (q_dget2 (hu64 hr) (q_fld (qv 0) T.cl_Spread T.no_own_places) (qv 4) q_non ⟨by rfl, by rfl, by rfl, by rfl⟩) (qv 5) (nomark _)) (qss_one qs_cont) qss_nil) (qss_cons (qs_set 6 sc.nd (q_meth (qv 0) T.cl_Spread T.me_Spread_in_the_way G_Spread_in_the_way (hr.mono (by omega)) hga T.b_Spread_in_the_way (qa_cons (qv 4) (qa_cons (qv 5) qa_nil)))) (qss_cons (qs_if (qt_cmp (op_eqAll (hu64 hr)) ref_eq (qv 6) (q_lst qa_nil) (nomark _)) (qss_cons (qs_expr (q_meth (qv 0) T.cl_Spread T.me_Spread_put G_Spread_put (hr.mono (by omega)) hga T.b_Spread_put (qa_cons (qv 4) (qa_cons (qv 5) (qa_cons (qv 2) qa_nil))))) (qss_one (qs_ret q_bl))) qss_nil) (qss_one (qs_for PassesOwn.never rfl (qi_seq (qv 6)) (qg_name 7 sc.nd) (qss_one (qs_if (qt_dnotin (hu64 hr) (qv 7) (qv 2)) (qss_cons (qs_dput (hu64 hr) (qv 2) (qv 7) (qv 4)) (qss_one (qs_expr (q_bm PySem.F.slot_list_append PySem.F.type_list_append mt_append ref_append (qv 3) (qa_cons (qv 7) qa_nil))))) qss_nil))))))))))) (qss_one (qs_ret q_bl)))), hq⟩⟩
end
end K84
set_option Elab.async false
set_option linter.all false
set_option maxRecDepth 100000
set_option maxHeartbeats 4000000
/-! k84: what the small functions promise. -/
namespace K84
open PySem L2 VL
def isIntD : D → Bool
  | .int _ => true
  | _ => false
def isCountD : D → Bool
  | .int i => decide (0 ≤ i)
  | _ => false
def isRowD (m : Int) : D → Bool
  | .tup xs => decide ((xs.length : Int) = m)
  | _ => false
def isLstT (t : String) : Bool := t == "list" || t == "tuple"
def S_is_integer : SpD := fun ds G Q => ∃ x t, ds = [x] ∧ tyD G x = some t ∧ Q (.bl (isIntD x)) G
def S_is_count : SpD := fun ds G Q => ∃ x t, ds = [x] ∧ tyD G x = some t ∧ Q (.bl (isCountD x)) G
def S_is_list : SpD := fun ds G Q => ∃ x t, ds = [x] ∧ tyD G x = some t ∧ Q (.bl (isLstT t)) G
def S_is_row : SpD := fun ds G Q => ∃ x t m, ds = [x, .int m] ∧ tyD G x = some t ∧ Q (.bl (isRowD m x)) G
def S_want_at_most : SpD := fun ds G Q => ∃ x a b, ds = [x, .int a, .int b] ∧ b ≤ a ∧ Q .non G
theorem tyInt {G : Hd} {x : D} {t : String} (h : tyD G x = some t) : (isB t "int" && !isB t "bool") = isIntD x := by
  cases x with
  | ref a =>
    simp only [tyD] at h
    split at h <;> cases h <;> rfl
  | ty n => cases h
  | ro xs => cases h
  | _ => cases h; rfl
theorem tyBool {G : Hd} {x : D} {t : String} (h : tyD G x = some t) (hi : isB t "int" = true) (hb : isB t "bool" = false) : ∃ i, x = .int i := by
  cases x with
  | ref a =>
    simp only [tyD] at h
    split at h <;> cases h <;> exact absurd hi (by decide)
  | ty n => cases h
  | ro xs => cases h
  | int i => exact ⟨i, rfl⟩
  | bl b => cases h; exact absurd hb (by decide)
  | _ => cases h; exact absurd hi (by decide)
section
variable {P : Program} {w : World} {K : PySem.W.Frag} {mg : Str → Option Value} {base : Heap} {k : Nat}
theorem ok_is_integer (T : Txt K mg) : FnA P w K mg base 1 T.f_is_integer T.d_is_integer ["value"] S_is_integer := by
  refine (w_is_integer (k := 0) T (by rintro ds G Q ⟨x, t, rfl, _⟩; rfl)).2 fun ds G Q h => ?_
  obtain ⟨x, t, rfl, ht, q⟩ := h
  simp only [w_is_integer, cIsi, ht, startD, dRet, dRetN, dAndV, dOrV, dCB, dNotV, dCons, dNil, dVar, dC, dAnd, dOr, dNot, dTest, dBin, dUn, dChain, dIfS, dSeq, dAsg, eName, dPar, dPar3, dNext, dDrop, dNever, dCont, dBreak, dCall, dCallK, dTup, dLst, dLstM, dIf, dFor, dWhile, dItems, dRange1, dRange2, dEnum, dZip, dLc, dLcM, wipeD, eTup, eCons, eNil, eSub, dCut, dPart, dNoPart, dRev, dFld, dSetFld, dMake, dMeth, dBM, dDGet2, dDGet, dDIn, dDPut, dDNew, dDisp1, dLstRg2, bSub, bDiv, bMod, bPow, bLt, bLe, bGt, bGe, bI, bI0, bB0, bIsN, bNotN, VL.isNon, uNeg, List.map_cons, List.map_nil, List.length_cons, List.length_nil, List.replicate, List.cons_append, List.nil_append, List.getElem?_cons_zero, List.getElem?_cons_succ, List.set_cons_zero, List.set_cons_succ, Nat.reduceAdd, Nat.reduceSub, decide_eq_true_eq, if_true, if_false, Bool.false_eq_true, reduceIte, pick, List.filterMap_cons, List.filterMap_nil]
  rw [← tyInt ht] at q
  refine ⟨by decide, ?_⟩
  cases h1 : isB t "int" with
  | false => rw [h1] at q; exact q
  | true =>
    rw [h1] at q
    simp only [ht]
    exact ⟨by decide, q⟩
theorem ok_is_count (T : Txt K mg) : FnA P w K mg base 2 T.f_is_count T.d_is_count ["value"] S_is_count := by
  refine (w_is_count (k := 1) T (ok_is_integer T) (by rintro ds G Q ⟨x, t, rfl, _⟩; rfl)).2 fun ds G Q h => ?_
  obtain ⟨x, t, rfl, ht, q⟩ := h
  simp only [w_is_count, startD, dRet, dRetN, dAndV, dOrV, dCB, dNotV, dCons, dNil, dVar, dC, dAnd, dOr, dNot, dTest, dBin, dUn, dChain, dIfS, dSeq, dAsg, eName, dPar, dPar3, dNext, dDrop, dNever, dCont, dBreak, dCall, dCallK, dTup, dLst, dLstM, dIf, dFor, dWhile, dItems, dRange1, dRange2, dEnum, dZip, dLc, dLcM, wipeD, eTup, eCons, eNil, eSub, dCut, dPart, dNoPart, dRev, dFld, dSetFld, dMake, dMeth, dBM, dDGet2, dDGet, dDIn, dDPut, dDNew, dDisp1, dLstRg2, bSub, bDiv, bMod, bPow, bLt, bLe, bGt, bGe, bI, bI0, bB0, bIsN, bNotN, VL.isNon, uNeg, List.map_cons, List.map_nil, List.length_cons, List.length_nil, List.replicate, List.cons_append, List.nil_append, List.getElem?_cons_zero, List.getElem?_cons_succ, List.set_cons_zero, List.set_cons_succ, Nat.reduceAdd, Nat.reduceSub, decide_eq_true_eq, if_true, if_false, Bool.false_eq_true, reduceIte, pick, List.filterMap_cons, List.filterMap_nil]
  refine ⟨x, t, rfl, ht, ?_⟩
  cases x with
  | int i => exact q
  | _ => exact q
theorem ok_is_list (T : Txt K mg) : FnA P w K mg base 1 T.f_is_list T.d_is_list ["value"] S_is_list := by
  refine (w_is_list (k := 0) T (by rintro ds G Q ⟨x, t, rfl, _⟩; rfl)).2 fun ds G Q h => ?_
  obtain ⟨x, t, rfl, ht, q⟩ := h
  simp only [w_is_list, cIsiT, ht, tysOf, startD, dRet, dRetN, dAndV, dOrV, dCB, dNotV, dCons, dNil, dVar, dC, dAnd, dOr, dNot, dTest, dBin, dUn, dChain, dIfS, dSeq, dAsg, eName, dPar, dPar3, dNext, dDrop, dNever, dCont, dBreak, dCall, dCallK, dTup, dLst, dLstM, dIf, dFor, dWhile, dItems, dRange1, dRange2, dEnum, dZip, dLc, dLcM, wipeD, eTup, eCons, eNil, eSub, dCut, dPart, dNoPart, dRev, dFld, dSetFld, dMake, dMeth, dBM, dDGet2, dDGet, dDIn, dDPut, dDNew, dDisp1, dLstRg2, bSub, bDiv, bMod, bPow, bLt, bLe, bGt, bGe, bI, bI0, bB0, bIsN, bNotN, VL.isNon, uNeg, List.map_cons, List.map_nil, List.length_cons, List.length_nil, List.replicate, List.cons_append, List.nil_append, List.getElem?_cons_zero, List.getElem?_cons_succ, List.set_cons_zero, List.set_cons_succ, Nat.reduceAdd, Nat.reduceSub, decide_eq_true_eq, if_true, if_false, Bool.false_eq_true, reduceIte, pick, List.filterMap_cons, List.filterMap_nil]
  refine ⟨by decide, by decide, ?_⟩
  have e : ["list", "tuple"].any (isB t) = isLstT t := by
    have hm := tyD_mem ht
    clear ht q
    revert hm
    revert t
    decide
  rw [← e] at q
  exact q
theorem ok_is_row (T : Txt K mg) : FnA P w K mg base 1 T.f_is_row T.d_is_row ["value", "many"] S_is_row := by
  refine (w_is_row (k := 0) T (by rintro ds G Q ⟨x, t, m, rfl, _⟩; rfl)).2 fun ds G Q h => ?_
  obtain ⟨x, t, m, rfl, ht, q⟩ := h
  simp only [w_is_row, cIsi, ht, cLen, startD, dRet, dRetN, dAndV, dOrV, dCB, dNotV, dCons, dNil, dVar, dC, dAnd, dOr, dNot, dTest, dBin, dUn, dChain, dIfS, dSeq, dAsg, eName, dPar, dPar3, dNext, dDrop, dNever, dCont, dBreak, dCall, dCallK, dTup, dLst, dLstM, dIf, dFor, dWhile, dItems, dRange1, dRange2, dEnum, dZip, dLc, dLcM, wipeD, eTup, eCons, eNil, eSub, dCut, dPart, dNoPart, dRev, dFld, dSetFld, dMake, dMeth, dBM, dDGet2, dDGet, dDIn, dDPut, dDNew, dDisp1, dLstRg2, bSub, bDiv, bMod, bPow, bLt, bLe, bGt, bGe, bI, bI0, bB0, bIsN, bNotN, VL.isNon, uNeg, List.map_cons, List.map_nil, List.length_cons, List.length_nil, List.replicate, List.cons_append, List.nil_append, List.getElem?_cons_zero, List.getElem?_cons_succ, List.set_cons_zero, List.set_cons_succ, Nat.reduceAdd, Nat.reduceSub, decide_eq_true_eq, if_true, if_false, Bool.false_eq_true, reduceIte, pick, List.filterMap_cons, List.filterMap_nil]
  refine ⟨by decide, ?_⟩
  cases x with
  | tup xs =>
    cases ht
    exact q
  | ref a =>
    simp only [tyD] at ht
    split at ht <;> cases ht <;> exact q
  | ty n => cases ht
  | ro xs => cases ht
  | _ => cases ht; exact q
theorem ok_want_at_most (T : Txt K mg) : FnA P w K mg base 1 T.f_want_at_most T.d_want_at_most ["what", "limit", "number"] S_want_at_most := by
  refine (w_want_at_most (k := 0) T (by rintro ds G Q ⟨x, a, b, rfl, _⟩; rfl)).2 fun ds G Q h => ?_
  obtain ⟨x, a, b, rfl, hab, q⟩ := h
  simp only [w_want_at_most, startD, dRet, dRetN, dAndV, dOrV, dCB, dNotV, dCons, dNil, dVar, dC, dAnd, dOr, dNot, dTest, dBin, dUn, dChain, dIfS, dSeq, dAsg, eName, dPar, dPar3, dNext, dDrop, dNever, dCont, dBreak, dCall, dCallK, dTup, dLst, dLstM, dIf, dFor, dWhile, dItems, dRange1, dRange2, dEnum, dZip, dLc, dLcM, wipeD, eTup, eCons, eNil, eSub, dCut, dPart, dNoPart, dRev, dFld, dSetFld, dMake, dMeth, dBM, dDGet2, dDGet, dDIn, dDPut, dDNew, dDisp1, dLstRg2, bSub, bDiv, bMod, bPow, bLt, bLe, bGt, bGe, bI, bI0, bB0, bIsN, bNotN, VL.isNon, uNeg, List.map_cons, List.map_nil, List.length_cons, List.length_nil, List.replicate, List.cons_append, List.nil_append, List.getElem?_cons_zero, List.getElem?_cons_succ, List.set_cons_zero, List.set_cons_succ, Nat.reduceAdd, Nat.reduceSub, decide_eq_true_eq, if_true, if_false, Bool.false_eq_true, reduceIte, pick, List.filterMap_cons, List.filterMap_nil]
  rw [if_neg (by omega)]
  exact q
end
end K84
set_option Elab.async false
set_option linter.all false
set_option maxRecDepth 100000
set_option maxHeartbeats 4000000
/-! k84: ratios. -/
namespace K84
open PySem L2 VL
abbrev Rt := Int × Int
def ratD (r : Rt) : D := .tup [.int r.1, .int r.2]
def ratsD (rs : List Rt) : D := .tup (rs.map ratD)
def gI (a b : Int) : Int := ((Nat.gcd a.natAbs b.natAbs : Nat) : Int)
theorem gI_nat (m n : Nat) : gI m n = (Nat.gcd m n : Nat) := rfl
theorem gI_step {a b : Int} (ha : 0 ≤ a) (hb : 0 < b) : gI b (a % b) = gI a b := by
  obtain ⟨m, rfl⟩ := Int.eq_ofNat_of_zero_le ha
  obtain ⟨n, rfl⟩ := Int.eq_ofNat_of_zero_le (Int.le_of_lt hb)
  have e : ((m : Int) % (n : Int)) = ((m % n : Nat) : Int) := rfl
  rw [e, gI_nat, gI_nat, Nat.gcd_comm m n, Nat.gcd_rec n m, Nat.gcd_comm]
theorem gI_zero {a : Int} (ha : 0 ≤ a) : gI a 0 = a := by
  obtain ⟨m, rfl⟩ := Int.eq_ofNat_of_zero_le ha
  exact congrArg Int.ofNat (Nat.gcd_zero_right m)
theorem gI_pos {a b : Int} (hb : 0 < b) : 0 < gI a b := by
  unfold gI
  have : 0 < Nat.gcd a.natAbs b.natAbs := Nat.gcd_pos_of_pos_right _ (by omega)
  omega
theorem gI_le {a b : Int} (hb : 0 < b) : gI a b ≤ b := by
  unfold gI
  have : Nat.gcd a.natAbs b.natAbs ≤ b.natAbs := Nat.gcd_le_right _ (by omega)
  omega
theorem gI_dvdl {a b : Int} : gI a b ∣ a := by
  unfold gI
  exact Int.ofNat_dvd_left.mpr (Nat.gcd_dvd_left _ _)
theorem gI_dvdr {a b : Int} : gI a b ∣ b := by
  unfold gI
  exact Int.ofNat_dvd_left.mpr (Nat.gcd_dvd_right _ _)
/-- the least common multiple -/
def lI (f u : Int) : Int := f / gI f u * u
theorem lI_nat {m n : Nat} : lI m n = (Nat.lcm m n : Nat) := by
  unfold lI
  rw [gI_nat]
  have h : ((m : Int) / ((Nat.gcd m n : Nat) : Int)) = ((m / Nat.gcd m n : Nat) : Int) := rfl
  rw [h]
  have e : Nat.lcm m n = m / Nat.gcd m n * n := by
    rw [Nat.lcm, Nat.mul_comm, Nat.mul_div_assoc _ (Nat.gcd_dvd_left m n), Nat.mul_comm]
  rw [e]
  push_cast
  rfl
theorem lI_facts {f u U : Int} (hf : 0 < f) (hu : 0 < u) : 0 < lI f u ∧ f ∣ lI f u ∧ u ∣ lI f u ∧ (f ∣ U → u ∣ U → lI f u ∣ U) := by
  obtain ⟨m, rfl⟩ := Int.eq_ofNat_of_zero_le (Int.le_of_lt hf)
  obtain ⟨n, rfl⟩ := Int.eq_ofNat_of_zero_le (Int.le_of_lt hu)
  rw [lI_nat]
  refine ⟨?_, Int.natCast_dvd_natCast.mpr (Nat.dvd_lcm_left m n), Int.natCast_dvd_natCast.mpr (Nat.dvd_lcm_right m n), fun h1 h2 => ?_⟩
  · have := Nat.lcm_pos (m := m) (n := n) (by omega) (by omega)
    omega
  · rw [Int.ofNat_dvd_left] at h1 h2 ⊢
    exact Nat.lcm_dvd h1 h2
def W (rs : List Rt) (f : Int) : Int := rs.foldl (fun f r => lI f r.2) f
theorem W_facts {U : Int} : ∀ (rs : List Rt) (f : Int), 0 < f → f ∣ U → (∀ r ∈ rs, 0 < r.2 ∧ r.2 ∣ U) → 0 < W rs f ∧ W rs f ∣ U ∧ f ∣ W rs f ∧ ∀ r ∈ rs, r.2 ∣ W rs f
  | [], f, h, hU, _ => ⟨h, hU, Int.dvd_refl _, fun r hr => nomatch hr⟩
  | r :: rs, f, h, hU, hr => by
    obtain ⟨r1, r2⟩ := hr r List.mem_cons_self
    obtain ⟨a, b, c, d⟩ := lI_facts (U := U) h r1
    obtain ⟨e1, e2, e3, e4⟩ := W_facts rs (lI f r.2) a (d hU r2) fun s hs => hr s (List.mem_cons_of_mem _ hs)
    refine ⟨e1, e2, Int.dvd_trans b e3, fun s hs => ?_⟩
    rcases List.mem_cons.mp hs with q | q
    · rw [q]; exact Int.dvd_trans c e3
    · exact e4 s q
/-- the sum in units of 1/V -/
def A (V : Int) (rs : List Rt) : Int := (rs.map fun r => r.1 * (V / r.2)).sum
theorem A_scale {V U : Int} : ∀ (rs : List Rt), V ∣ U → 0 < V → (∀ r ∈ rs, r.2 ∣ V) → A V rs * (U / V) = A U rs
  | [], _, _, _ => by simp [A]
  | r :: rs, h, hV, hr => by
    have ih := A_scale rs h hV fun s hs => hr s (List.mem_cons_of_mem _ hs)
    unfold A at *
    rw [List.map_cons, List.map_cons, List.sum_cons, List.sum_cons, Int.add_mul, ih]
    congr 1
    obtain ⟨c, rfl⟩ := h
    have h2 := hr r List.mem_cons_self
    obtain ⟨d, rfl⟩ := h2
    by_cases z : r.2 = 0
    · rw [z]; simp
    · have q0 : r.2 * d ≠ 0 := by omega
      rw [Int.mul_ediv_cancel_left _ q0, Int.mul_ediv_cancel_left _ z, Int.mul_assoc r.2 d c, Int.mul_ediv_cancel_left _ z, Int.mul_assoc]
structure ROk (U : Int) (r : Rt) : Prop where
  n0 : 0 < r.1
  n1 : r.1 < 1000000
  u0 : 0 < r.2
  u1 : r.2 ∣ U
  g : gI r.1 r.2 = 1
structure RsOk (U : Int) (rs : List Rt) : Prop where
  U0 : 0 < U
  U1 : U ≤ 100
  len0 : 1 ≤ rs.length
  len1 : rs.length ≤ 7
  each : ∀ r ∈ rs, ROk U r
  whole : U ∣ A U rs
theorem ROk.u2 {U : Int} {r : Rt} (h : ROk U r) (h0 : 0 < U) (h1 : U ≤ 100) : r.2 ≤ 100 := Int.le_trans (Int.le_of_dvd h0 h.u1) h1
def Lsum (U : Int) (rs : List Rt) : Int := A U rs / U
theorem W_ok {U : Int} {rs : List Rt} (h : RsOk U rs) : 0 < W rs 1 ∧ W rs 1 ∣ U ∧ ∀ r ∈ rs, r.2 ∣ W rs 1 := by
  obtain ⟨a, b, _, d⟩ := W_facts (U := U) rs 1 (by decide) (Int.one_dvd U) fun r hr => ⟨(h.each r hr).u0, (h.each r hr).u1⟩
  exact ⟨a, b, d⟩
theorem A_W {U : Int} {rs : List Rt} (h : RsOk U rs) : A (W rs 1) rs = Lsum U rs * W rs 1 := by
  obtain ⟨w0, w1, w2⟩ := W_ok h
  have e := A_scale rs w1 w0 w2
  obtain ⟨c, hc⟩ := w1
  obtain ⟨l, hl⟩ := h.whole
  have hU := h.U0
  unfold Lsum
  rw [hl, Int.mul_ediv_cancel_left _ (by omega)]
  rw [hl] at e
  have e2 : U / W rs 1 = c := by rw [hc]; exact Int.mul_ediv_cancel_left _ (by omega)
  rw [e2] at e
  have hc0 : c ≠ 0 := by
    intro z
    rw [z, Int.mul_zero] at hc
    omega
  apply Int.eq_of_mul_eq_mul_right hc0
  rw [e, hc]
  rw [Int.mul_comm l, Int.mul_assoc, Int.mul_assoc, Int.mul_comm c]

def S_common_part : SpD := fun ds G Q => ∃ a b, ds = [.int a, .int b] ∧ 0 ≤ a ∧ 0 ≤ b ∧ Q (.int (gI a b)) G
def S_common_under : SpD := fun ds G Q => ∃ rs, ds = [ratsD rs] ∧ (∀ r ∈ rs, 0 < r.2 ∧ r.2 ≤ 100) ∧ Q (.int (W rs 1)) G
def S_total_over : SpD := fun ds G Q => ∃ rs v, ds = [ratsD rs, .int v] ∧ rs.length ≤ 7 ∧ (∀ r ∈ rs, 0 < r.2 ∧ r.2 ≤ 100 ∧ 0 < r.1 ∧ r.1 < 1000000) ∧ Q (.int (A v rs)) G
def S_want_many : SpD := fun ds G Q => ∃ v a b, ds = [.int v, .int a, .int b] ∧ 0 ≤ v ∧ a ≤ v ∧ v ≤ b ∧ Q .non G
def S_is_ratio : SpD := fun ds G Q => ∃ r U, ds = [ratD r] ∧ ROk U r ∧ r.2 ≤ 100 ∧ Q (.bl true) G
def S_are_ratios_above : SpD := fun ds G Q => ∃ rs U, ds = [ratsD rs] ∧ RsOk U rs ∧ Q (.bl true) G
def S_are_whole_ratios : SpD := fun ds G Q => ∃ rs U, ds = [ratsD rs] ∧ RsOk U rs ∧ Q (.bl true) G
def S_want_ratios : SpD := fun ds G Q => ∃ rs U, ds = [ratsD rs] ∧ RsOk U rs ∧ Q (ratsD rs) G
def S_sum_of : SpD := fun ds G Q => ∃ rs U, ds = [ratsD rs] ∧ RsOk U rs ∧ Q (.int (Lsum U rs)) G
def S_window_begin : SpD := fun ds G Q => ∃ r t, ds = [ratD r, .int t] ∧ 0 < r.1 ∧ r.1 < 1000000 ∧ 0 < r.2 ∧ r.2 ≤ 100 ∧ Q (.int ((t - 1) * r.2 / r.1)) G
def S_window_end : SpD := fun ds G Q => ∃ r t, ds = [ratD r, .int t] ∧ 0 < r.1 ∧ r.1 < 1000000 ∧ 0 < r.2 ∧ r.2 ≤ 100 ∧ Q (.int ((t * r.2 + r.1 - 1) / r.1)) G
section
variable {P : Program} {w : World} {K : PySem.W.Frag} {mg : Str → Option Value} {base : Heap} {k : Nat}
theorem ok_common_part (T : Txt K mg) : FnA P w K mg base 1 T.f_common_part T.d_common_part ["one", "other"] S_common_part := by
  refine (w_common_part (k := 0) T (by rintro ds G Q ⟨a, b, rfl, _⟩; rfl)).2 fun ds G Q h => ?_
  obtain ⟨a, b, rfl, ha, hb, q⟩ := h
  simp only [w_common_part, startD, dRet, dRetN, dAndV, dOrV, dCB, dNotV, dCons, dNil, dVar, dC, dAnd, dOr, dNot, dTest, dBin, dUn, dChain, dIfS, dSeq, dAsg, eName, dPar, dPar3, dNext, dDrop, dNever, dCont, dBreak, dCall, dCallK, dTup, dLst, dLstM, dIf, dFor, dItems, dRange1, dRange2, dEnum, dZip, dLc, dLcM, wipeD, eTup, eCons, eNil, eSub, dCut, dPart, dNoPart, dRev, dFld, dSetFld, dMake, dMeth, dBM, dDGet2, dDGet, dDIn, dDPut, dDNew, dDisp1, dLstRg2, bSub, bDiv, bMod, bPow, bLt, bLe, bGt, bGe, bI, bI0, bB0, bIsN, bNotN, VL.isNon, uNeg, List.map_cons, List.map_nil, List.length_cons, List.length_nil, List.replicate, List.cons_append, List.nil_append, List.getElem?_cons_zero, List.getElem?_cons_succ, List.set_cons_zero, List.set_cons_succ, Nat.reduceAdd, Nat.reduceSub, decide_eq_true_eq, if_true, if_false, Bool.false_eq_true, reduceIte, pick, List.filterMap_cons, List.filterMap_nil]
  refine while_ind (fun m δ G' => ∃ a' b', δ = [some (.int a'), some (.int b')] ∧ G' = G ∧ 0 ≤ a' ∧ 0 ≤ b' ∧ gI a' b' = gI a b ∧ m = b'.toNat) ?_ (m := b.toNat) ⟨a, b, rfl, rfl, ha, hb, rfl, rfl⟩
  rintro m δ G' nx ⟨a', b', rfl, rfl, ha', hb', hg, rfl⟩ hn
  simp only [startD, dRet, dRetN, dAndV, dOrV, dCB, dNotV, dCons, dNil, dVar, dC, dAnd, dOr, dNot, dTest, dBin, dUn, dChain, dIfS, dSeq, dAsg, eName, dPar, dPar3, dNext, dDrop, dNever, dCont, dBreak, dCall, dCallK, dTup, dLst, dLstM, dIf, dFor, dWhile, dItems, dRange1, dRange2, dEnum, dZip, dLc, dLcM, wipeD, eTup, eCons, eNil, eSub, dCut, dPart, dNoPart, dRev, dFld, dSetFld, dMake, dMeth, dBM, dDGet2, dDGet, dDIn, dDPut, dDNew, dDisp1, dLstRg2, bSub, bDiv, bMod, bPow, bLt, bLe, bGt, bGe, bI, bI0, bB0, bIsN, bNotN, VL.isNon, uNeg, List.map_cons, List.map_nil, List.length_cons, List.length_nil, List.replicate, List.cons_append, List.nil_append, List.getElem?_cons_zero, List.getElem?_cons_succ, List.set_cons_zero, List.set_cons_succ, Nat.reduceAdd, Nat.reduceSub, decide_eq_true_eq, if_true, if_false, Bool.false_eq_true, reduceIte, pick, List.filterMap_cons, List.filterMap_nil]
  by_cases hz : 0 < b'
  · rw [if_pos hz]
    refine ⟨hz, hn _ _ _ ?_ ⟨b', a' % b', rfl, rfl, hb', Int.emod_nonneg _ (by omega), (gI_step ha' hz).trans hg, rfl⟩⟩
    have := Int.emod_lt_of_pos a' hz
    have := Int.emod_nonneg a' (show b' ≠ 0 by omega)
    omega
  · rw [if_neg hz]
    have e : b' = 0 := by omega
    subst e
    rw [gI_zero ha'] at hg
    rw [hg]
    exact q
theorem ok_common_under (T : Txt K mg) : FnA P w K mg base 2 T.f_common_under T.d_common_under ["ratios"] S_common_under := by
  refine (w_common_under (k := 1) T (ok_common_part T) (by rintro ds G Q ⟨a, rfl, _⟩; rfl)).2 fun ds G Q h => ?_
  obtain ⟨rs, rfl, hr, q⟩ := h
  simp only [w_common_under, ratsD, startD, dRet, dRetN, dAndV, dOrV, dCB, dNotV, dCons, dNil, dVar, dC, dAnd, dOr, dNot, dTest, dBin, dUn, dChain, dIfS, dSeq, dAsg, eName, dPar, dPar3, dNext, dDrop, dNever, dCont, dBreak, dCall, dCallK, dTup, dLst, dLstM, dIf, dFor, dWhile, dItems, dRange1, dRange2, dEnum, dZip, dLc, dLcM, wipeD, eTup, eCons, eNil, eSub, dCut, dPart, dNoPart, dRev, dFld, dSetFld, dMake, dMeth, dBM, dDGet2, dDGet, dDIn, dDPut, dDNew, dDisp1, dLstRg2, bSub, bDiv, bMod, bPow, bLt, bLe, bGt, bGe, bI, bI0, bB0, bIsN, bNotN, VL.isNon, uNeg, List.map_cons, List.map_nil, List.length_cons, List.length_nil, List.replicate, List.cons_append, List.nil_append, List.getElem?_cons_zero, List.getElem?_cons_succ, List.set_cons_zero, List.set_cons_succ, Nat.reduceAdd, Nat.reduceSub, decide_eq_true_eq, if_true, if_false, Bool.false_eq_true, reduceIte, pick, List.filterMap_cons, List.filterMap_nil]
  refine loop_ind (fun items δ G' => ∃ rs' f x y, items = rs'.map ratD ∧ δ = [some (.tup (rs.map ratD)), some (.int f), x, y] ∧ G' = G ∧ (∀ r ∈ rs', 0 < r.2 ∧ r.2 ≤ 100) ∧ 0 < f ∧ W rs' f = W rs 1) ?_ ?_ _ _ _ ⟨rs, 1, _, _, rfl, rfl, rfl, hr, by decide, rfl⟩
  · rintro δ G' ⟨rs', f, x, y, h1, rfl, rfl, _, _, hW⟩
    have e : rs' = [] := by cases rs' with
      | nil => rfl
      | cons a b => cases h1
    subst e
    refine ⟨trivial, ?_⟩
    simp only [startD, dRet, dRetN, dAndV, dOrV, dCB, dNotV, dCons, dNil, dVar, dC, dAnd, dOr, dNot, dTest, dBin, dUn, dChain, dIfS, dSeq, dAsg, eName, dPar, dPar3, dNext, dDrop, dNever, dCont, dBreak, dCall, dCallK, dTup, dLst, dLstM, dIf, dFor, dWhile, dItems, dRange1, dRange2, dEnum, dZip, dLc, dLcM, wipeD, eTup, eCons, eNil, eSub, dCut, dPart, dNoPart, dRev, dFld, dSetFld, dMake, dMeth, dBM, dDGet2, dDGet, dDIn, dDPut, dDNew, dDisp1, dLstRg2, bSub, bDiv, bMod, bPow, bLt, bLe, bGt, bGe, bI, bI0, bB0, bIsN, bNotN, VL.isNon, uNeg, List.map_cons, List.map_nil, List.length_cons, List.length_nil, List.replicate, List.cons_append, List.nil_append, List.getElem?_cons_zero, List.getElem?_cons_succ, List.set_cons_zero, List.set_cons_succ, Nat.reduceAdd, Nat.reduceSub, decide_eq_true_eq, if_true, if_false, Bool.false_eq_true, reduceIte, pick, List.filterMap_cons, List.filterMap_nil]
    rw [show f = W rs 1 from hW]
    exact q
  · rintro d r δ G' nx ⟨rs', f, x, y, h1, rfl, rfl, hr', hf, hW⟩ hn
    cases rs' with
    | nil => cases h1
    | cons a rs' =>
      cases h1
      obtain ⟨u0, u1⟩ := hr' a List.mem_cons_self
      refine ⟨trivial, ?_⟩
      simp only [ratD, startD, dRet, dRetN, dAndV, dOrV, dCB, dNotV, dCons, dNil, dVar, dC, dAnd, dOr, dNot, dTest, dBin, dUn, dChain, dIfS, dSeq, dAsg, eName, dPar, dPar3, dNext, dDrop, dNever, dCont, dBreak, dCall, dCallK, dTup, dLst, dLstM, dIf, dFor, dWhile, dItems, dRange1, dRange2, dEnum, dZip, dLc, dLcM, wipeD, eTup, eCons, eNil, eSub, dCut, dPart, dNoPart, dRev, dFld, dSetFld, dMake, dMeth, dBM, dDGet2, dDGet, dDIn, dDPut, dDNew, dDisp1, dLstRg2, bSub, bDiv, bMod, bPow, bLt, bLe, bGt, bGe, bI, bI0, bB0, bIsN, bNotN, VL.isNon, uNeg, List.map_cons, List.map_nil, List.length_cons, List.length_nil, List.replicate, List.cons_append, List.nil_append, List.getElem?_cons_zero, List.getElem?_cons_succ, List.set_cons_zero, List.set_cons_succ, Nat.reduceAdd, Nat.reduceSub, decide_eq_true_eq, if_true, if_false, Bool.false_eq_true, reduceIte, pick, List.filterMap_cons, List.filterMap_nil]
      refine ⟨trivial, f, a.2, rfl, by omega, by omega, ⟨gI_pos u0, ?_⟩, .inr ⟨by omega, by omega⟩, hn _ _ ⟨rs', lI f a.2, _, _, rfl, rfl, rfl, fun s hs => hr' s (List.mem_cons_of_mem _ hs), (lI_facts (U := 1) hf u0).1, hW⟩⟩
      have := gI_le (a := f) u0
      omega
end
end K84
set_option Elab.async false
set_option linter.all false
set_option maxRecDepth 100000
set_option maxHeartbeats 4000000
/-! k84: ratios judged. -/
namespace K84
open PySem L2 VL
section
variable {P : Program} {w : World} {K : PySem.W.Frag} {mg : Str → Option Value} {base : Heap} {k : Nat}
def BY : Int := 10000000000000000000000000000000000000000000000000000000000000000000000000000000000000000000000000000000000000000000000000000000000000000000000000000000000000000000000000000000000000000000000000000000000000000000000000000000000000000000000000000000000000000000000000000000000000000000000000000000000000000000000000000000000000000000000000000000000000000000000000000000000000000000000000000000000000000
theorem atI_get {xs : List D} {i : Nat} {d : D} (h : xs[i]? = some d) : atI xs (i : Int) = some d := by
  have hl := (List.getElem?_eq_some_iff.mp h).1
  have e : ixN xs.length (i : Int) = some i := by
    unfold ixN
    rw [if_pos (by omega), if_pos (by omega)]
    rfl
  unfold atI
  rw [e]
  exact h
theorem at0 {a : D} {r : List D} : atI (a :: r) 0 = some a := atI_get (i := 0) rfl
theorem at1 {a b : D} {r : List D} : atI (a :: b :: r) 1 = some b := atI_get (i := 1) rfl
theorem ints_A (v : Int) : ∀ rs : List Rt, (rs.map ratD).map (fun d => match d with
    | .tup [.int n, .int u] => D.int (n * (v / u))
    | _ => D.non) = (rs.map fun r => r.1 * (v / r.2)).map D.int
  | [] => rfl
  | r :: rs => by
    rw [List.map_cons, List.map_cons, List.map_cons, List.map_cons, ints_A v rs]
    rfl
theorem ok_total_over (T : Txt K mg) : FnA P w K mg base 1 T.f_total_over T.d_total_over ["ratios", "whole"] S_total_over := by
  refine (w_total_over (k := 0) T (by rintro ds G Q ⟨a, b, rfl, _⟩; rfl)).2 fun ds G Q h => ?_
  obtain ⟨rs, v, rfl, hl, hr, q⟩ := h
  simp only [w_total_over, ratsD, startD, dRet, dRetN, dAndV, dOrV, dCB, dNotV, dCons, dNil, dVar, dC, dAnd, dOr, dNot, dTest, dBin, dUn, dChain, dIfS, dSeq, dAsg, eName, dPar, dPar3, dNext, dDrop, dNever, dCont, dBreak, dCall, dCallK, dTup, dLst, dLstM, dIf, dFor, dWhile, dItems, dRange1, dRange2, dEnum, dZip, dLc, dLcM, wipeD, eTup, eCons, eNil, eSub, dCut, dPart, dNoPart, dRev, dFld, dSetFld, dMake, dMeth, dBM, dDGet2, dDGet, dDIn, dDPut, dDNew, dDisp1, dLstRg2, bSub, bDiv, bMod, bPow, bLt, bLe, bGt, bGe, bI, bI0, bB0, bIsN, bNotN, VL.isNon, uNeg, List.map_cons, List.map_nil, List.length_cons, List.length_nil, List.replicate, List.cons_append, List.nil_append, List.getElem?_cons_zero, List.getElem?_cons_succ, List.set_cons_zero, List.set_cons_succ, Nat.reduceAdd, Nat.reduceSub, decide_eq_true_eq, if_true, if_false, Bool.false_eq_true, reduceIte, pick, List.filterMap_cons, List.filterMap_nil]
  refine comp_all (fun d => match d with
    | .tup [.int n, .int u] => D.int (n * (v / u))
    | _ => D.non) _ trivial (by rw [List.length_map]; show _ ≤ 16777216; omega) (fun d hd k hk => ?_) ?_
  · obtain ⟨r, hr0, rfl⟩ := List.mem_map.mp hd
    obtain ⟨u0, u1, n0, n1⟩ := hr r hr0
    simp only [ratD, startD, dRet, dRetN, dAndV, dOrV, dCB, dNotV, dCons, dNil, dVar, dC, dAnd, dOr, dNot, dTest, dBin, dUn, dChain, dIfS, dSeq, dAsg, eName, dPar, dPar3, dNext, dDrop, dNever, dCont, dBreak, dCall, dCallK, dTup, dLst, dLstM, dIf, dFor, dWhile, dItems, dRange1, dRange2, dEnum, dZip, dLc, dLcM, wipeD, eTup, eCons, eNil, eSub, dCut, dPart, dNoPart, dRev, dFld, dSetFld, dMake, dMeth, dBM, dDGet2, dDGet, dDIn, dDPut, dDNew, dDisp1, dLstRg2, bSub, bDiv, bMod, bPow, bLt, bLe, bGt, bGe, bI, bI0, bB0, bIsN, bNotN, VL.isNon, uNeg, List.map_cons, List.map_nil, List.length_cons, List.length_nil, List.replicate, List.cons_append, List.nil_append, List.getElem?_cons_zero, List.getElem?_cons_succ, List.set_cons_zero, List.set_cons_succ, Nat.reduceAdd, Nat.reduceSub, decide_eq_true_eq, if_true, if_false, Bool.false_eq_true, reduceIte, pick, List.filterMap_cons, List.filterMap_nil]
    exact ⟨trivial, ⟨u0, by omega⟩, .inl ⟨by omega, by omega⟩, hk⟩
  · rw [ints_A]
    simp only [cSumX, seqOf, intsOf_map, startD, dRet, dRetN, dAndV, dOrV, dCB, dNotV, dCons, dNil, dVar, dC, dAnd, dOr, dNot, dTest, dBin, dUn, dChain, dIfS, dSeq, dAsg, eName, dPar, dPar3, dNext, dDrop, dNever, dCont, dBreak, dCall, dCallK, dTup, dLst, dLstM, dIf, dFor, dWhile, dItems, dRange1, dRange2, dEnum, dZip, dLc, dLcM, wipeD, eTup, eCons, eNil, eSub, dCut, dPart, dNoPart, dRev, dFld, dSetFld, dMake, dMeth, dBM, dDGet2, dDGet, dDIn, dDPut, dDNew, dDisp1, dLstRg2, bSub, bDiv, bMod, bPow, bLt, bLe, bGt, bGe, bI, bI0, bB0, bIsN, bNotN, VL.isNon, uNeg, List.map_cons, List.map_nil, List.length_cons, List.length_nil, List.replicate, List.cons_append, List.nil_append, List.getElem?_cons_zero, List.getElem?_cons_succ, List.set_cons_zero, List.set_cons_succ, Nat.reduceAdd, Nat.reduceSub, decide_eq_true_eq, if_true, if_false, Bool.false_eq_true, reduceIte, pick, List.filterMap_cons, List.filterMap_nil]
    exact q
theorem ok_want_many (T : Txt K mg) : FnA P w K mg base 3 T.f_want_many T.d_want_many ["value", "least", "most"] S_want_many := by
  refine (w_want_many (k := 2) T (ok_is_count T) (by rintro ds G Q ⟨a, b, c, rfl, _⟩; rfl)).2 fun ds G Q h => ?_
  obtain ⟨v, a, b, rfl, h0, h1, h2, q⟩ := h
  simp only [w_want_many, startD, dRet, dRetN, dAndV, dOrV, dCB, dNotV, dCons, dNil, dVar, dC, dAnd, dOr, dNot, dTest, dBin, dUn, dChain, dIfS, dSeq, dAsg, eName, dPar, dPar3, dNext, dDrop, dNever, dCont, dBreak, dCall, dCallK, dTup, dLst, dLstM, dIf, dFor, dWhile, dItems, dRange1, dRange2, dEnum, dZip, dLc, dLcM, wipeD, eTup, eCons, eNil, eSub, dCut, dPart, dNoPart, dRev, dFld, dSetFld, dMake, dMeth, dBM, dDGet2, dDGet, dDIn, dDPut, dDNew, dDisp1, dLstRg2, bSub, bDiv, bMod, bPow, bLt, bLe, bGt, bGe, bI, bI0, bB0, bIsN, bNotN, VL.isNon, uNeg, List.map_cons, List.map_nil, List.length_cons, List.length_nil, List.replicate, List.cons_append, List.nil_append, List.getElem?_cons_zero, List.getElem?_cons_succ, List.set_cons_zero, List.set_cons_succ, Nat.reduceAdd, Nat.reduceSub, decide_eq_true_eq, if_true, if_false, Bool.false_eq_true, reduceIte, pick, List.filterMap_cons, List.filterMap_nil]
  refine ⟨_, _, rfl, rfl, ?_⟩
  simp only [isCountD, startD, dRet, dRetN, dAndV, dOrV, dCB, dNotV, dCons, dNil, dVar, dC, dAnd, dOr, dNot, dTest, dBin, dUn, dChain, dIfS, dSeq, dAsg, eName, dPar, dPar3, dNext, dDrop, dNever, dCont, dBreak, dCall, dCallK, dTup, dLst, dLstM, dIf, dFor, dWhile, dItems, dRange1, dRange2, dEnum, dZip, dLc, dLcM, wipeD, eTup, eCons, eNil, eSub, dCut, dPart, dNoPart, dRev, dFld, dSetFld, dMake, dMeth, dBM, dDGet2, dDGet, dDIn, dDPut, dDNew, dDisp1, dLstRg2, bSub, bDiv, bMod, bPow, bLt, bLe, bGt, bGe, bI, bI0, bB0, bIsN, bNotN, VL.isNon, uNeg, List.map_cons, List.map_nil, List.length_cons, List.length_nil, List.replicate, List.cons_append, List.nil_append, List.getElem?_cons_zero, List.getElem?_cons_succ, List.set_cons_zero, List.set_cons_succ, Nat.reduceAdd, Nat.reduceSub, decide_eq_true_eq, if_true, if_false, Bool.false_eq_true, reduceIte, pick, List.filterMap_cons, List.filterMap_nil]
  simp [h0, h1, h2, q]
theorem ok_is_ratio (T : Txt K mg) : FnA P w K mg base 3 T.f_is_ratio T.d_is_ratio ["value"] S_is_ratio := by
  refine (w_is_ratio (k := 2) T (VL.FnA.mono (k := 2) (ok_is_integer T) (by decide)) (VL.FnA.mono (k := 2) (ok_is_row T) (by decide)) (by rintro ds G Q ⟨a, b, rfl, _⟩; rfl)).2 fun ds G Q h => ?_
  obtain ⟨r, U, rfl, hr, hu, q⟩ := h
  simp only [w_is_ratio, ratD, startD, dRet, dRetN, dAndV, dOrV, dCB, dNotV, dCons, dNil, dVar, dC, dAnd, dOr, dNot, dTest, dBin, dUn, dChain, dIfS, dSeq, dAsg, eName, dPar, dPar3, dNext, dDrop, dNever, dCont, dBreak, dCall, dCallK, dTup, dLst, dLstM, dIf, dFor, dWhile, dItems, dRange1, dRange2, dEnum, dZip, dLc, dLcM, wipeD, eTup, eCons, eNil, eSub, dCut, dPart, dNoPart, dRev, dFld, dSetFld, dMake, dMeth, dBM, dDGet2, dDGet, dDIn, dDPut, dDNew, dDisp1, dLstRg2, bSub, bDiv, bMod, bPow, bLt, bLe, bGt, bGe, bI, bI0, bB0, bIsN, bNotN, VL.isNon, uNeg, List.map_cons, List.map_nil, List.length_cons, List.length_nil, List.replicate, List.cons_append, List.nil_append, List.getElem?_cons_zero, List.getElem?_cons_succ, List.set_cons_zero, List.set_cons_succ, Nat.reduceAdd, Nat.reduceSub, decide_eq_true_eq, if_true, if_false, Bool.false_eq_true, reduceIte, pick, List.filterMap_cons, List.filterMap_nil]
  refine ⟨_, _, _, rfl, rfl, ?_⟩
  simp only [bIx, seqOf, isRowD, at0, at1, startD, dRet, dRetN, dAndV, dOrV, dCB, dNotV, dCons, dNil, dVar, dC, dAnd, dOr, dNot, dTest, dBin, dUn, dChain, dIfS, dSeq, dAsg, eName, dPar, dPar3, dNext, dDrop, dNever, dCont, dBreak, dCall, dCallK, dTup, dLst, dLstM, dIf, dFor, dWhile, dItems, dRange1, dRange2, dEnum, dZip, dLc, dLcM, wipeD, eTup, eCons, eNil, eSub, dCut, dPart, dNoPart, dRev, dFld, dSetFld, dMake, dMeth, dBM, dDGet2, dDGet, dDIn, dDPut, dDNew, dDisp1, dLstRg2, bSub, bDiv, bMod, bPow, bLt, bLe, bGt, bGe, bI, bI0, bB0, bIsN, bNotN, VL.isNon, uNeg, List.map_cons, List.map_nil, List.length_cons, List.length_nil, List.replicate, List.cons_append, List.nil_append, List.getElem?_cons_zero, List.getElem?_cons_succ, List.set_cons_zero, List.set_cons_succ, Nat.reduceAdd, Nat.reduceSub, decide_eq_true_eq, if_true, if_false, Bool.false_eq_true, reduceIte, pick, List.filterMap_cons, List.filterMap_nil]
  refine ⟨_, _, rfl, rfl, ?_⟩
  simp only [isIntD, at1, at0, startD, dRet, dRetN, dAndV, dOrV, dCB, dNotV, dCons, dNil, dVar, dC, dAnd, dOr, dNot, dTest, dBin, dUn, dChain, dIfS, dSeq, dAsg, eName, dPar, dPar3, dNext, dDrop, dNever, dCont, dBreak, dCall, dCallK, dTup, dLst, dLstM, dIf, dFor, dWhile, dItems, dRange1, dRange2, dEnum, dZip, dLc, dLcM, wipeD, eTup, eCons, eNil, eSub, dCut, dPart, dNoPart, dRev, dFld, dSetFld, dMake, dMeth, dBM, dDGet2, dDGet, dDIn, dDPut, dDNew, dDisp1, dLstRg2, bSub, bDiv, bMod, bPow, bLt, bLe, bGt, bGe, bI, bI0, bB0, bIsN, bNotN, VL.isNon, uNeg, List.map_cons, List.map_nil, List.length_cons, List.length_nil, List.replicate, List.cons_append, List.nil_append, List.getElem?_cons_zero, List.getElem?_cons_succ, List.set_cons_zero, List.set_cons_succ, Nat.reduceAdd, Nat.reduceSub, decide_eq_true_eq, if_true, if_false, Bool.false_eq_true, reduceIte, pick, List.filterMap_cons, List.filterMap_nil]
  refine ⟨_, _, rfl, rfl, ?_⟩
  have b1 : r.2 < BY := by unfold BY; omega
  have b2 : (0 - BY) < r.1 := by have := hr.n0; unfold BY; omega
  have b3 : r.1 < BY := by have := hr.n1; unfold BY; omega
  unfold BY at b1 b2 b3
  simp only [isIntD, at1, at0, cGcd, c2, bEq, startD, dRet, dRetN, dAndV, dOrV, dCB, dNotV, dCons, dNil, dVar, dC, dAnd, dOr, dNot, dTest, dBin, dUn, dChain, dIfS, dSeq, dAsg, eName, dPar, dPar3, dNext, dDrop, dNever, dCont, dBreak, dCall, dCallK, dTup, dLst, dLstM, dIf, dFor, dWhile, dItems, dRange1, dRange2, dEnum, dZip, dLc, dLcM, wipeD, eTup, eCons, eNil, eSub, dCut, dPart, dNoPart, dRev, dFld, dSetFld, dMake, dMeth, dBM, dDGet2, dDGet, dDIn, dDPut, dDNew, dDisp1, dLstRg2, bSub, bDiv, bMod, bPow, bLt, bLe, bGt, bGe, bI, bI0, bB0, bIsN, bNotN, VL.isNon, uNeg, List.map_cons, List.map_nil, List.length_cons, List.length_nil, List.replicate, List.cons_append, List.nil_append, List.getElem?_cons_zero, List.getElem?_cons_succ, List.set_cons_zero, List.set_cons_succ, Nat.reduceAdd, Nat.reduceSub, decide_eq_true_eq, if_true, if_false, Bool.false_eq_true, reduceIte, pick, List.filterMap_cons, List.filterMap_nil]
  rw [Int.zero_sub] at b2
  simp only [hr.u0, b1, b2, b3, decide_true]
  have g : ((r.1.natAbs.gcd r.2.natAbs : Nat) : Int) = 1 := hr.g
  rw [g]
  exact ⟨trivial, q⟩
theorem rsTy (G : Hd) (rs : List Rt) : tyD G (ratsD rs) = some "tuple" := rfl
theorem bls_true : ∀ rs : List Rt, ((rs.map ratD).map fun _ => D.bl true) = (rs.map fun _ => true).map D.bl
  | [] => rfl
  | r :: rs => by rw [List.map_cons, List.map_cons, List.map_cons, List.map_cons, bls_true rs]
theorem all_true : ∀ rs : List Rt, (rs.map fun _ => true).all id = true
  | [] => rfl
  | r :: rs => by rw [List.map_cons, List.all_cons, all_true rs]; rfl
theorem ok_are_ratios_above (T : Txt K mg) : FnA P w K mg base 4 T.f_are_ratios_above T.d_are_ratios_above ["value"] S_are_ratios_above := by
  refine (w_are_ratios_above (k := 3) T (ok_is_ratio T) (by rintro ds G Q ⟨a, b, rfl, _⟩; rfl)).2 fun ds G Q h => ?_
  obtain ⟨rs, U, rfl, h, q⟩ := h
  have h0 := h.len0
  have h1 := h.len1
  simp only [w_are_ratios_above, cIsi, rsTy, startD, dRet, dRetN, dAndV, dOrV, dCB, dNotV, dCons, dNil, dVar, dC, dAnd, dOr, dNot, dTest, dBin, dUn, dChain, dIfS, dSeq, dAsg, eName, dPar, dPar3, dNext, dDrop, dNever, dCont, dBreak, dCall, dCallK, dTup, dLst, dLstM, dIf, dFor, dWhile, dItems, dRange1, dRange2, dEnum, dZip, dLc, dLcM, wipeD, eTup, eCons, eNil, eSub, dCut, dPart, dNoPart, dRev, dFld, dSetFld, dMake, dMeth, dBM, dDGet2, dDGet, dDIn, dDPut, dDNew, dDisp1, dLstRg2, bSub, bDiv, bMod, bPow, bLt, bLe, bGt, bGe, bI, bI0, bB0, bIsN, bNotN, VL.isNon, uNeg, List.map_cons, List.map_nil, List.length_cons, List.length_nil, List.replicate, List.cons_append, List.nil_append, List.getElem?_cons_zero, List.getElem?_cons_succ, List.set_cons_zero, List.set_cons_succ, Nat.reduceAdd, Nat.reduceSub, decide_eq_true_eq, if_true, if_false, Bool.false_eq_true, reduceIte, pick, List.filterMap_cons, List.filterMap_nil]
  refine ⟨by decide, ?_⟩
  simp only [cLen, ratsD, seqOf, startD, dRet, dRetN, dAndV, dOrV, dCB, dNotV, dCons, dNil, dVar, dC, dAnd, dOr, dNot, dTest, dBin, dUn, dChain, dIfS, dSeq, dAsg, eName, dPar, dPar3, dNext, dDrop, dNever, dCont, dBreak, dCall, dCallK, dTup, dLst, dLstM, dIf, dFor, dWhile, dItems, dRange1, dRange2, dEnum, dZip, dLc, dLcM, wipeD, eTup, eCons, eNil, eSub, dCut, dPart, dNoPart, dRev, dFld, dSetFld, dMake, dMeth, dBM, dDGet2, dDGet, dDIn, dDPut, dDNew, dDisp1, dLstRg2, bSub, bDiv, bMod, bPow, bLt, bLe, bGt, bGe, bI, bI0, bB0, bIsN, bNotN, VL.isNon, uNeg, List.map_cons, List.map_nil, List.length_cons, List.length_nil, List.replicate, List.cons_append, List.nil_append, List.getElem?_cons_zero, List.getElem?_cons_succ, List.set_cons_zero, List.set_cons_succ, Nat.reduceAdd, Nat.reduceSub, decide_eq_true_eq, if_true, if_false, Bool.false_eq_true, reduceIte, pick, List.filterMap_cons, List.filterMap_nil]
  have i1 : isB "tuple" "tuple" = true := by decide
  have e1 : decide ((1 : Int) ≤ (((rs.map ratD).length : Nat) : Int)) = true := by rw [List.length_map]; exact decide_eq_true (by omega)
  have e2 : decide ((((rs.map ratD).length : Nat) : Int) ≤ 500) = true := by rw [List.length_map]; exact decide_eq_true (by omega)
  simp only [i1, e1, e2, Bool.not_true, if_false, Bool.false_eq_true]
  refine comp_all (fun _ => .bl true) _ trivial (by rw [List.length_map]; show _ ≤ 16777216; omega) (fun d hd k hk => ?_) ?_
  · obtain ⟨r, hr0, rfl⟩ := List.mem_map.mp hd
    have ro := h.each r hr0
    simp only [startD, dRet, dRetN, dAndV, dOrV, dCB, dNotV, dCons, dNil, dVar, dC, dAnd, dOr, dNot, dTest, dBin, dUn, dChain, dIfS, dSeq, dAsg, eName, dPar, dPar3, dNext, dDrop, dNever, dCont, dBreak, dCall, dCallK, dTup, dLst, dLstM, dIf, dFor, dWhile, dItems, dRange1, dRange2, dEnum, dZip, dLc, dLcM, wipeD, eTup, eCons, eNil, eSub, dCut, dPart, dNoPart, dRev, dFld, dSetFld, dMake, dMeth, dBM, dDGet2, dDGet, dDIn, dDPut, dDNew, dDisp1, dLstRg2, bSub, bDiv, bMod, bPow, bLt, bLe, bGt, bGe, bI, bI0, bB0, bIsN, bNotN, VL.isNon, uNeg, List.map_cons, List.map_nil, List.length_cons, List.length_nil, List.replicate, List.cons_append, List.nil_append, List.getElem?_cons_zero, List.getElem?_cons_succ, List.set_cons_zero, List.set_cons_succ, Nat.reduceAdd, Nat.reduceSub, decide_eq_true_eq, if_true, if_false, Bool.false_eq_true, reduceIte, pick, List.filterMap_cons, List.filterMap_nil]
    refine ⟨r, U, rfl, ro, ro.u2 h.U0 h.U1, ?_⟩
    simp only [ratD, bIx, seqOf, at0, startD, dRet, dRetN, dAndV, dOrV, dCB, dNotV, dCons, dNil, dVar, dC, dAnd, dOr, dNot, dTest, dBin, dUn, dChain, dIfS, dSeq, dAsg, eName, dPar, dPar3, dNext, dDrop, dNever, dCont, dBreak, dCall, dCallK, dTup, dLst, dLstM, dIf, dFor, dWhile, dItems, dRange1, dRange2, dEnum, dZip, dLc, dLcM, wipeD, eTup, eCons, eNil, eSub, dCut, dPart, dNoPart, dRev, dFld, dSetFld, dMake, dMeth, dBM, dDGet2, dDGet, dDIn, dDPut, dDNew, dDisp1, dLstRg2, bSub, bDiv, bMod, bPow, bLt, bLe, bGt, bGe, bI, bI0, bB0, bIsN, bNotN, VL.isNon, uNeg, List.map_cons, List.map_nil, List.length_cons, List.length_nil, List.replicate, List.cons_append, List.nil_append, List.getElem?_cons_zero, List.getElem?_cons_succ, List.set_cons_zero, List.set_cons_succ, Nat.reduceAdd, Nat.reduceSub, decide_eq_true_eq, if_true, if_false, Bool.false_eq_true, reduceIte, pick, List.filterMap_cons, List.filterMap_nil]
    rw [decide_eq_true ro.n0]
    exact hk
  · rw [bls_true]
    simp only [cBools, lstR, lstOf, blsOf_map, startD, dRet, dRetN, dAndV, dOrV, dCB, dNotV, dCons, dNil, dVar, dC, dAnd, dOr, dNot, dTest, dBin, dUn, dChain, dIfS, dSeq, dAsg, eName, dPar, dPar3, dNext, dDrop, dNever, dCont, dBreak, dCall, dCallK, dTup, dLst, dLstM, dIf, dFor, dWhile, dItems, dRange1, dRange2, dEnum, dZip, dLc, dLcM, wipeD, eTup, eCons, eNil, eSub, dCut, dPart, dNoPart, dRev, dFld, dSetFld, dMake, dMeth, dBM, dDGet2, dDGet, dDIn, dDPut, dDNew, dDisp1, dLstRg2, bSub, bDiv, bMod, bPow, bLt, bLe, bGt, bGe, bI, bI0, bB0, bIsN, bNotN, VL.isNon, uNeg, List.map_cons, List.map_nil, List.length_cons, List.length_nil, List.replicate, List.cons_append, List.nil_append, List.getElem?_cons_zero, List.getElem?_cons_succ, List.set_cons_zero, List.set_cons_succ, Nat.reduceAdd, Nat.reduceSub, decide_eq_true_eq, if_true, if_false, Bool.false_eq_true, reduceIte, pick, List.filterMap_cons, List.filterMap_nil]
    rw [all_true]
    exact q
theorem all_u {U : Int} {rs : List Rt} (h : RsOk U rs) : ∀ r ∈ rs, 0 < r.2 ∧ r.2 ≤ 100 := fun r hr => ⟨(h.each r hr).u0, (h.each r hr).u2 h.U0 h.U1⟩
theorem all_nu {U : Int} {rs : List Rt} (h : RsOk U rs) : ∀ r ∈ rs, 0 < r.2 ∧ r.2 ≤ 100 ∧ 0 < r.1 ∧ r.1 < 1000000 := fun r hr => ⟨(h.each r hr).u0, (h.each r hr).u2 h.U0 h.U1, (h.each r hr).n0, (h.each r hr).n1⟩
theorem W_le {U : Int} {rs : List Rt} (h : RsOk U rs) : W rs 1 ≤ 100 := Int.le_trans (Int.le_of_dvd h.U0 (W_ok h).2.1) h.U1
theorem ok_are_whole_ratios (T : Txt K mg) : FnA P w K mg base 5 T.f_are_whole_ratios T.d_are_whole_ratios ["value"] S_are_whole_ratios := by
  refine (w_are_whole_ratios (k := 4) T (VL.FnA.mono (k := 4) (ok_total_over T) (by decide)) (VL.FnA.mono (k := 4) (ok_common_under T) (by decide)) (ok_are_ratios_above T) (by rintro ds G Q ⟨a, b, rfl, _⟩; rfl)).2 fun ds G Q h => ?_
  obtain ⟨rs, U, rfl, h, q⟩ := h
  simp only [w_are_whole_ratios, startD, dRet, dRetN, dAndV, dOrV, dCB, dNotV, dCons, dNil, dVar, dC, dAnd, dOr, dNot, dTest, dBin, dUn, dChain, dIfS, dSeq, dAsg, eName, dPar, dPar3, dNext, dDrop, dNever, dCont, dBreak, dCall, dCallK, dTup, dLst, dLstM, dIf, dFor, dWhile, dItems, dRange1, dRange2, dEnum, dZip, dLc, dLcM, wipeD, eTup, eCons, eNil, eSub, dCut, dPart, dNoPart, dRev, dFld, dSetFld, dMake, dMeth, dBM, dDGet2, dDGet, dDIn, dDPut, dDNew, dDisp1, dLstRg2, bSub, bDiv, bMod, bPow, bLt, bLe, bGt, bGe, bI, bI0, bB0, bIsN, bNotN, VL.isNon, uNeg, List.map_cons, List.map_nil, List.length_cons, List.length_nil, List.replicate, List.cons_append, List.nil_append, List.getElem?_cons_zero, List.getElem?_cons_succ, List.set_cons_zero, List.set_cons_succ, Nat.reduceAdd, Nat.reduceSub, decide_eq_true_eq, if_true, if_false, Bool.false_eq_true, reduceIte, pick, List.filterMap_cons, List.filterMap_nil]
  refine ⟨rs, U, rfl, h, ?_⟩
  simp only [startD, dRet, dRetN, dAndV, dOrV, dCB, dNotV, dCons, dNil, dVar, dC, dAnd, dOr, dNot, dTest, dBin, dUn, dChain, dIfS, dSeq, dAsg, eName, dPar, dPar3, dNext, dDrop, dNever, dCont, dBreak, dCall, dCallK, dTup, dLst, dLstM, dIf, dFor, dWhile, dItems, dRange1, dRange2, dEnum, dZip, dLc, dLcM, wipeD, eTup, eCons, eNil, eSub, dCut, dPart, dNoPart, dRev, dFld, dSetFld, dMake, dMeth, dBM, dDGet2, dDGet, dDIn, dDPut, dDNew, dDisp1, dLstRg2, bSub, bDiv, bMod, bPow, bLt, bLe, bGt, bGe, bI, bI0, bB0, bIsN, bNotN, VL.isNon, uNeg, List.map_cons, List.map_nil, List.length_cons, List.length_nil, List.replicate, List.cons_append, List.nil_append, List.getElem?_cons_zero, List.getElem?_cons_succ, List.set_cons_zero, List.set_cons_succ, Nat.reduceAdd, Nat.reduceSub, decide_eq_true_eq, if_true, if_false, Bool.false_eq_true, reduceIte, pick, List.filterMap_cons, List.filterMap_nil]
  refine ⟨rs, rfl, all_u h, ?_⟩
  simp only [startD, dRet, dRetN, dAndV, dOrV, dCB, dNotV, dCons, dNil, dVar, dC, dAnd, dOr, dNot, dTest, dBin, dUn, dChain, dIfS, dSeq, dAsg, eName, dPar, dPar3, dNext, dDrop, dNever, dCont, dBreak, dCall, dCallK, dTup, dLst, dLstM, dIf, dFor, dWhile, dItems, dRange1, dRange2, dEnum, dZip, dLc, dLcM, wipeD, eTup, eCons, eNil, eSub, dCut, dPart, dNoPart, dRev, dFld, dSetFld, dMake, dMeth, dBM, dDGet2, dDGet, dDIn, dDPut, dDNew, dDisp1, dLstRg2, bSub, bDiv, bMod, bPow, bLt, bLe, bGt, bGe, bI, bI0, bB0, bIsN, bNotN, VL.isNon, uNeg, List.map_cons, List.map_nil, List.length_cons, List.length_nil, List.replicate, List.cons_append, List.nil_append, List.getElem?_cons_zero, List.getElem?_cons_succ, List.set_cons_zero, List.set_cons_succ, Nat.reduceAdd, Nat.reduceSub, decide_eq_true_eq, if_true, if_false, Bool.false_eq_true, reduceIte, pick, List.filterMap_cons, List.filterMap_nil]
  refine ⟨rs, _, rfl, h.len1, all_nu h, ?_⟩
  simp only [bEq, startD, dRet, dRetN, dAndV, dOrV, dCB, dNotV, dCons, dNil, dVar, dC, dAnd, dOr, dNot, dTest, dBin, dUn, dChain, dIfS, dSeq, dAsg, eName, dPar, dPar3, dNext, dDrop, dNever, dCont, dBreak, dCall, dCallK, dTup, dLst, dLstM, dIf, dFor, dWhile, dItems, dRange1, dRange2, dEnum, dZip, dLc, dLcM, wipeD, eTup, eCons, eNil, eSub, dCut, dPart, dNoPart, dRev, dFld, dSetFld, dMake, dMeth, dBM, dDGet2, dDGet, dDIn, dDPut, dDNew, dDisp1, dLstRg2, bSub, bDiv, bMod, bPow, bLt, bLe, bGt, bGe, bI, bI0, bB0, bIsN, bNotN, VL.isNon, uNeg, List.map_cons, List.map_nil, List.length_cons, List.length_nil, List.replicate, List.cons_append, List.nil_append, List.getElem?_cons_zero, List.getElem?_cons_succ, List.set_cons_zero, List.set_cons_succ, Nat.reduceAdd, Nat.reduceSub, decide_eq_true_eq, if_true, if_false, Bool.false_eq_true, reduceIte, pick, List.filterMap_cons, List.filterMap_nil]
  rw [A_W h, Int.mul_emod_left]
  exact ⟨(W_ok h).1, q⟩
theorem ok_want_ratios (T : Txt K mg) : FnA P w K mg base 6 T.f_want_ratios T.d_want_ratios ["value"] S_want_ratios := by
  refine (w_want_ratios (k := 5) T (ok_are_whole_ratios T) (by rintro ds G Q ⟨a, b, rfl, _⟩; rfl)).2 fun ds G Q h => ?_
  obtain ⟨rs, U, rfl, h, q⟩ := h
  simp only [w_want_ratios, startD, dRet, dRetN, dAndV, dOrV, dCB, dNotV, dCons, dNil, dVar, dC, dAnd, dOr, dNot, dTest, dBin, dUn, dChain, dIfS, dSeq, dAsg, eName, dPar, dPar3, dNext, dDrop, dNever, dCont, dBreak, dCall, dCallK, dTup, dLst, dLstM, dIf, dFor, dWhile, dItems, dRange1, dRange2, dEnum, dZip, dLc, dLcM, wipeD, eTup, eCons, eNil, eSub, dCut, dPart, dNoPart, dRev, dFld, dSetFld, dMake, dMeth, dBM, dDGet2, dDGet, dDIn, dDPut, dDNew, dDisp1, dLstRg2, bSub, bDiv, bMod, bPow, bLt, bLe, bGt, bGe, bI, bI0, bB0, bIsN, bNotN, VL.isNon, uNeg, List.map_cons, List.map_nil, List.length_cons, List.length_nil, List.replicate, List.cons_append, List.nil_append, List.getElem?_cons_zero, List.getElem?_cons_succ, List.set_cons_zero, List.set_cons_succ, Nat.reduceAdd, Nat.reduceSub, decide_eq_true_eq, if_true, if_false, Bool.false_eq_true, reduceIte, pick, List.filterMap_cons, List.filterMap_nil]
  refine ⟨rs, U, rfl, h, ?_⟩
  simp only [startD, dRet, dRetN, dAndV, dOrV, dCB, dNotV, dCons, dNil, dVar, dC, dAnd, dOr, dNot, dTest, dBin, dUn, dChain, dIfS, dSeq, dAsg, eName, dPar, dPar3, dNext, dDrop, dNever, dCont, dBreak, dCall, dCallK, dTup, dLst, dLstM, dIf, dFor, dWhile, dItems, dRange1, dRange2, dEnum, dZip, dLc, dLcM, wipeD, eTup, eCons, eNil, eSub, dCut, dPart, dNoPart, dRev, dFld, dSetFld, dMake, dMeth, dBM, dDGet2, dDGet, dDIn, dDPut, dDNew, dDisp1, dLstRg2, bSub, bDiv, bMod, bPow, bLt, bLe, bGt, bGe, bI, bI0, bB0, bIsN, bNotN, VL.isNon, uNeg, List.map_cons, List.map_nil, List.length_cons, List.length_nil, List.replicate, List.cons_append, List.nil_append, List.getElem?_cons_zero, List.getElem?_cons_succ, List.set_cons_zero, List.set_cons_succ, Nat.reduceAdd, Nat.reduceSub, decide_eq_true_eq, if_true, if_false, Bool.false_eq_true, reduceIte, pick, List.filterMap_cons, List.filterMap_nil]
  exact q
theorem ok_sum_of (T : Txt K mg) : FnA P w K mg base 3 T.f_sum_of T.d_sum_of ["ratios"] S_sum_of := by
  refine (w_sum_of (k := 2) T (VL.FnA.mono (k := 2) (ok_total_over T) (by decide)) (VL.FnA.mono (k := 2) (ok_common_under T) (by decide)) (by rintro ds G Q ⟨a, b, rfl, _⟩; rfl)).2 fun ds G Q h => ?_
  obtain ⟨rs, U, rfl, h, q⟩ := h
  simp only [w_sum_of, startD, dRet, dRetN, dAndV, dOrV, dCB, dNotV, dCons, dNil, dVar, dC, dAnd, dOr, dNot, dTest, dBin, dUn, dChain, dIfS, dSeq, dAsg, eName, dPar, dPar3, dNext, dDrop, dNever, dCont, dBreak, dCall, dCallK, dTup, dLst, dLstM, dIf, dFor, dWhile, dItems, dRange1, dRange2, dEnum, dZip, dLc, dLcM, wipeD, eTup, eCons, eNil, eSub, dCut, dPart, dNoPart, dRev, dFld, dSetFld, dMake, dMeth, dBM, dDGet2, dDGet, dDIn, dDPut, dDNew, dDisp1, dLstRg2, bSub, bDiv, bMod, bPow, bLt, bLe, bGt, bGe, bI, bI0, bB0, bIsN, bNotN, VL.isNon, uNeg, List.map_cons, List.map_nil, List.length_cons, List.length_nil, List.replicate, List.cons_append, List.nil_append, List.getElem?_cons_zero, List.getElem?_cons_succ, List.set_cons_zero, List.set_cons_succ, Nat.reduceAdd, Nat.reduceSub, decide_eq_true_eq, if_true, if_false, Bool.false_eq_true, reduceIte, pick, List.filterMap_cons, List.filterMap_nil]
  refine ⟨rs, rfl, all_u h, ?_⟩
  simp only [startD, dRet, dRetN, dAndV, dOrV, dCB, dNotV, dCons, dNil, dVar, dC, dAnd, dOr, dNot, dTest, dBin, dUn, dChain, dIfS, dSeq, dAsg, eName, dPar, dPar3, dNext, dDrop, dNever, dCont, dBreak, dCall, dCallK, dTup, dLst, dLstM, dIf, dFor, dWhile, dItems, dRange1, dRange2, dEnum, dZip, dLc, dLcM, wipeD, eTup, eCons, eNil, eSub, dCut, dPart, dNoPart, dRev, dFld, dSetFld, dMake, dMeth, dBM, dDGet2, dDGet, dDIn, dDPut, dDNew, dDisp1, dLstRg2, bSub, bDiv, bMod, bPow, bLt, bLe, bGt, bGe, bI, bI0, bB0, bIsN, bNotN, VL.isNon, uNeg, List.map_cons, List.map_nil, List.length_cons, List.length_nil, List.replicate, List.cons_append, List.nil_append, List.getElem?_cons_zero, List.getElem?_cons_succ, List.set_cons_zero, List.set_cons_succ, Nat.reduceAdd, Nat.reduceSub, decide_eq_true_eq, if_true, if_false, Bool.false_eq_true, reduceIte, pick, List.filterMap_cons, List.filterMap_nil]
  refine ⟨rs, _, rfl, h.len1, all_nu h, ?_⟩
  simp only [startD, dRet, dRetN, dAndV, dOrV, dCB, dNotV, dCons, dNil, dVar, dC, dAnd, dOr, dNot, dTest, dBin, dUn, dChain, dIfS, dSeq, dAsg, eName, dPar, dPar3, dNext, dDrop, dNever, dCont, dBreak, dCall, dCallK, dTup, dLst, dLstM, dIf, dFor, dWhile, dItems, dRange1, dRange2, dEnum, dZip, dLc, dLcM, wipeD, eTup, eCons, eNil, eSub, dCut, dPart, dNoPart, dRev, dFld, dSetFld, dMake, dMeth, dBM, dDGet2, dDGet, dDIn, dDPut, dDNew, dDisp1, dLstRg2, bSub, bDiv, bMod, bPow, bLt, bLe, bGt, bGe, bI, bI0, bB0, bIsN, bNotN, VL.isNon, uNeg, List.map_cons, List.map_nil, List.length_cons, List.length_nil, List.replicate, List.cons_append, List.nil_append, List.getElem?_cons_zero, List.getElem?_cons_succ, List.set_cons_zero, List.set_cons_succ, Nat.reduceAdd, Nat.reduceSub, decide_eq_true_eq, if_true, if_false, Bool.false_eq_true, reduceIte, pick, List.filterMap_cons, List.filterMap_nil]
  have w0 := (W_ok h).1
  have w1 := W_le h
  refine ⟨⟨w0, by omega⟩, ?_⟩
  rw [A_W h, Int.mul_ediv_cancel _ (by omega)]
  exact q
theorem ok_window_begin (T : Txt K mg) : FnA P w K mg base 1 T.f_window_begin T.d_window_begin ["share", "turn"] S_window_begin := by
  refine (w_window_begin (k := 0) T (by rintro ds G Q ⟨a, b, rfl, _⟩; rfl)).2 fun ds G Q h => ?_
  obtain ⟨r, t, rfl, n0, n1, u0, u1, q⟩ := h
  simp only [w_window_begin, ratD, bIx, seqOf, at0, at1, bMul, bDiv, startD, dRet, dRetN, dAndV, dOrV, dCB, dNotV, dCons, dNil, dVar, dC, dAnd, dOr, dNot, dTest, dBin, dUn, dChain, dIfS, dSeq, dAsg, eName, dPar, dPar3, dNext, dDrop, dNever, dCont, dBreak, dCall, dCallK, dTup, dLst, dLstM, dIf, dFor, dWhile, dItems, dRange1, dRange2, dEnum, dZip, dLc, dLcM, wipeD, eTup, eCons, eNil, eSub, dCut, dPart, dNoPart, dRev, dFld, dSetFld, dMake, dMeth, dBM, dDGet2, dDGet, dDIn, dDPut, dDNew, dDisp1, dLstRg2, bSub, bDiv, bMod, bPow, bLt, bLe, bGt, bGe, bI, bI0, bB0, bIsN, bNotN, VL.isNon, uNeg, List.map_cons, List.map_nil, List.length_cons, List.length_nil, List.replicate, List.cons_append, List.nil_append, List.getElem?_cons_zero, List.getElem?_cons_succ, List.set_cons_zero, List.set_cons_succ, Nat.reduceAdd, Nat.reduceSub, decide_eq_true_eq, if_true, if_false, Bool.false_eq_true, reduceIte, pick, List.filterMap_cons, List.filterMap_nil]
  exact ⟨.inr ⟨by omega, by omega⟩, ⟨n0, by omega⟩, q⟩
theorem ok_window_end (T : Txt K mg) : FnA P w K mg base 1 T.f_window_end T.d_window_end ["share", "turn"] S_window_end := by
  refine (w_window_end (k := 0) T (by rintro ds G Q ⟨a, b, rfl, _⟩; rfl)).2 fun ds G Q h => ?_
  obtain ⟨r, t, rfl, n0, n1, u0, u1, q⟩ := h
  simp only [w_window_end, ratD, bIx, seqOf, at0, at1, bMul, bAdd, startD, dRet, dRetN, dAndV, dOrV, dCB, dNotV, dCons, dNil, dVar, dC, dAnd, dOr, dNot, dTest, dBin, dUn, dChain, dIfS, dSeq, dAsg, eName, dPar, dPar3, dNext, dDrop, dNever, dCont, dBreak, dCall, dCallK, dTup, dLst, dLstM, dIf, dFor, dWhile, dItems, dRange1, dRange2, dEnum, dZip, dLc, dLcM, wipeD, eTup, eCons, eNil, eSub, dCut, dPart, dNoPart, dRev, dFld, dSetFld, dMake, dMeth, dBM, dDGet2, dDGet, dDIn, dDPut, dDNew, dDisp1, dLstRg2, bSub, bDiv, bMod, bPow, bLt, bLe, bGt, bGe, bI, bI0, bB0, bIsN, bNotN, VL.isNon, uNeg, List.map_cons, List.map_nil, List.length_cons, List.length_nil, List.replicate, List.cons_append, List.nil_append, List.getElem?_cons_zero, List.getElem?_cons_succ, List.set_cons_zero, List.set_cons_succ, Nat.reduceAdd, Nat.reduceSub, decide_eq_true_eq, if_true, if_false, Bool.false_eq_true, reduceIte, pick, List.filterMap_cons, List.filterMap_nil]
  exact ⟨.inr ⟨by omega, by omega⟩, ⟨n0, by omega⟩, q⟩
end
end K84
set_option Elab.async false
set_option linter.all false
set_option maxRecDepth 100000
set_option maxHeartbeats 4000000
/-! Pieces in rounds: what a state is, one move, a row of moves. Plain Lean. -/
namespace M84
abbrev Pc := Int × Int
abbrev Pl := Pc → Option Int
def putF (f : Pl) (x : Pc) (r : Int) : Pl := fun y => if y = x then some r else f y
theorem putF_same {f : Pl} {x : Pc} {r : Int} : putF f x r x = some r := if_pos rfl
theorem putF_ne {f : Pl} {x y : Pc} {r : Int} (h : y ≠ x) : putF f x r y = f y := if_neg h
/-- what stands in the way of x in a round -/
def way (x : Pc) (lot : List Pc) (L : Int) : List Pc :=
  if lot.filter (fun o => decide (o.1 = x.1)) ≠ [] then lot.filter fun o => decide (o.1 = x.1) else if L ≤ lot.length then lot else []
structure Cons (N : Nat) (f : Pl) (lots : List (List Pc)) : Prop where
  len : lots.length = N
  nd : ∀ (r : Nat) l, lots[r]? = some l → l.Nodup
  iff : ∀ (r : Nat) l, lots[r]? = some l → ∀ x, x ∈ l ↔ f x = some (r : Int)
  rng : ∀ x t, f x = some t → 0 ≤ t ∧ t < N
/-- x is taken out of its old round -/
def outL (lots : List (List Pc)) (x : Pc) : Option Int → List (List Pc)
  | some o => lots.set o.toNat ((lots.getD o.toNat []).erase x)
  | none => lots
def inL (lots : List (List Pc)) (x : Pc) (r : Int) : List (List Pc) := lots.set r.toNat (lots.getD r.toNat [] ++ [x])
def mvL (lots : List (List Pc)) (f : Pl) (x : Pc) (r : Int) : List (List Pc) := inL (outL lots x (f x)) x r
theorem getD_of {l : List (List Pc)} {i : Nat} {a : List Pc} (h : l[i]? = some a) : l.getD i [] = a := by
  rw [List.getD_eq_getElem?_getD, h]; rfl
theorem outL_len {lots : List (List Pc)} {x : Pc} {o : Option Int} : (outL lots x o).length = lots.length := by
  unfold outL
  split
  · rw [List.length_set]
  · rfl
theorem mvL_len {lots : List (List Pc)} {f : Pl} {x : Pc} {r : Int} : (mvL lots f x r).length = lots.length := by
  unfold mvL inL
  rw [List.length_set, outL_len]
/-- the lots behind a move -/
theorem mvL_get {N : Nat} {f : Pl} {lots : List (List Pc)} (c : Cons N f lots) {x : Pc} {r : Int} (hr : 0 ≤ r ∧ r < N) (hx : f x ≠ some r) {i : Nat} {l : List Pc} (h : lots[i]? = some l) :
    (mvL lots f x r)[i]? = some (if (i : Int) = r then l ++ [x] else if f x = some (i : Int) then l.erase x else l) := by
  have hi : i < lots.length := (List.getElem?_eq_some_iff.mp h).1
  have ho : (outL lots x (f x))[i]? = some (if f x = some (i : Int) then l.erase x else l) := by
    unfold outL
    split
    · rename_i o e
      rw [e]
      obtain ⟨o0, o1⟩ := c.rng x o e
      by_cases q : o.toNat = i
      · subst q
        have e2 : some o = some ((o.toNat : Nat) : Int) := by rw [Int.toNat_of_nonneg o0]
        rw [if_pos e2, List.getElem?_set_self hi, getD_of h]
      · rw [List.getElem?_set_ne q, h, if_neg]
        intro z
        injection z with z
        exact q (by omega)
    · rename_i e
      rw [e, h]
      exact congrArg some (if_neg (by simp)).symm
  unfold mvL inL
  by_cases q : r.toNat = i
  · have e : (i : Int) = r := by omega
    rw [if_pos e, q]
    rw [List.getElem?_set_self (by rw [outL_len]; exact hi), getD_of ho]
    rw [if_neg (by rw [e]; exact hx)]
  · have e : ¬ (i : Int) = r := by omega
    rw [List.getElem?_set_ne q, ho, if_neg e]
theorem mv_cons {N : Nat} {f : Pl} {lots : List (List Pc)} (c : Cons N f lots) {x : Pc} {r : Int} (hr : 0 ≤ r ∧ r < N) (hx : f x ≠ some r) : Cons N (putF f x r) (mvL lots f x r) := by
  have get : ∀ (i : Nat) l', (mvL lots f x r)[i]? = some l' → ∃ l, lots[i]? = some l ∧ l' = if (i : Int) = r then l ++ [x] else if f x = some (i : Int) then l.erase x else l := by
    intro i l' h
    have hi : i < lots.length := by
      have := (List.getElem?_eq_some_iff.mp h).1
      rwa [mvL_len] at this
    refine ⟨lots[i], List.getElem?_eq_getElem hi, ?_⟩
    have := mvL_get c hr hx (List.getElem?_eq_getElem hi)
    rw [h] at this
    injection this
  refine ⟨by rw [mvL_len, c.len], fun i l' h => ?_, fun i l' h y => ?_, fun y t h => ?_⟩
  · obtain ⟨l, hl, rfl⟩ := get i l' h
    have n := c.nd i l hl
    split
    · rename_i e
      rw [List.nodup_append]
      refine ⟨n, by simp, fun a ha b hb => ?_⟩
      rw [List.mem_singleton.mp hb]
      intro z
      rw [z] at ha
      have := (c.iff i l hl x).mp ha
      rw [e] at this
      exact hx this
    · split
      · exact n.erase x
      · exact n
  · obtain ⟨l, hl, rfl⟩ := get i l' h
    have e0 := c.iff i l hl y
    have n := c.nd i l hl
    by_cases hy : y = x
    · subst hy
      rw [putF_same]
      split
      · rename_i e
        simp [e]
      · rename_i e
        have e3 : ¬ (some r = some (i : Int)) := fun z => e (by injection z with z; exact z.symm)
        split
        · rename_i e2
          rw [n.mem_erase_iff]
          simp [e3]
        · rename_i e2
          rw [e0]
          simp [e2, e3]
    · rw [putF_ne hy]
      split
      · rw [List.mem_append, List.mem_singleton, e0]
        simp [hy]
      · split
        · rw [n.mem_erase_iff, e0]
          simp [hy]
        · exact e0
  · by_cases hy : y = x
    · subst hy
      rw [putF_same] at h
      injection h with h
      rw [← h]
      exact hr
    · rw [putF_ne hy] at h
      exact c.rng y t h
theorem mv_len {N : Nat} {f : Pl} {lots : List (List Pc)} (c : Cons N f lots) {x : Pc} {r : Int} (hr : 0 ≤ r ∧ r < N) (hx : f x ≠ some r) {i : Nat} {l : List Pc} (h : lots[i]? = some l) :
    ∃ l', (mvL lots f x r)[i]? = some l' ∧ (l'.length : Int) = l.length + (if (i : Int) = r then 1 else 0) - (if f x = some (i : Int) then 1 else 0) := by
  refine ⟨_, mvL_get c hr hx h, ?_⟩
  by_cases e : (i : Int) = r
  · rw [if_pos e, if_pos e, if_neg (by rw [e]; exact hx), List.length_append]
    simp
  · rw [if_neg e, if_neg e]
    by_cases e2 : f x = some (i : Int)
    · rw [if_pos e2, if_pos e2]
      have hm := (c.iff i l h x).mpr e2
      rw [List.length_erase_of_mem hm]
      have := List.length_pos_of_mem hm
      omega
    · rw [if_neg e2, if_neg e2]
      simp
/-- a row of moves: x0 to r, x1 to where x0 was, .. -/
def putsF (f : Pl) : List Pc → Int → Pl
  | [], _ => f
  | x :: r, t => match f x with
    | some o => putsF (putF f x t) r o
    | none => putF f x t
def putsL (f : Pl) (lots : List (List Pc)) : List Pc → Int → List (List Pc)
  | [], _ => lots
  | x :: r, t => match f x with
    | some o => putsL (putF f x t) (mvL lots f x t) r o
    | none => mvL lots f x t
end M84
namespace M84
/-- the links from a piece to the first one -/
def chain (h : Pc → Option (Option Pc)) : List Pc → Prop
  | [] => True
  | [x] => h x = some none
  | x :: y :: r => h x = some (some y) ∧ chain h (y :: r)
/-- a row of moves may be made: to round r of N, then to the old places -/
def okTo (f : Pl) : List Pc → Int → Nat → Prop
  | [], _, _ => True
  | [x], r, N => (0 ≤ r ∧ r < N) ∧ f x = none
  | x :: y :: c, r, N => (0 ≤ r ∧ r < N) ∧ f x ≠ some r ∧ ∃ o, f x = some o ∧ okTo f (y :: c) o N
theorem okTo_put {f : Pl} {x : Pc} {t : Int} {N : Nat} : ∀ {c : List Pc} {r : Int}, x ∉ c → okTo f c r N → okTo (putF f x t) c r N
  | [], _, _, _ => True.intro
  | [y], r, hx, h => ⟨h.1, by rw [putF_ne (fun e => hx (by simp [e]))]; exact h.2⟩
  | y :: z :: c, r, hx, h => by
    have hy : y ≠ x := fun e => hx (by simp [e])
    obtain ⟨h1, h2, o, h3, h4⟩ := h
    exact ⟨h1, by rw [putF_ne hy]; exact h2, o, by rw [putF_ne hy]; exact h3, okTo_put (fun m => hx (List.mem_cons_of_mem _ m)) h4⟩
theorem okTo_ne {f : Pl} {x : Pc} {c : List Pc} {r : Int} {N : Nat} (h : okTo f (x :: c) r N) : (0 ≤ r ∧ r < N) ∧ f x ≠ some r := by
  cases c with
  | nil => exact ⟨h.1, by rw [h.2]; simp⟩
  | cons y c => exact ⟨h.1, h.2.1⟩
end M84
set_option Elab.async false
set_option linter.all false
set_option maxRecDepth 100000
set_option maxHeartbeats 4000000
/-! k84: the object Spread: made, windows, what stands in the way, a row of moves. -/
namespace K84
open PySem L2 VL M84
def pcD (p : Pc) : D := .tup [.int p.1, .int p.2]
def pcK (p : Pc) : List Key := [.inl p.1, .inl p.2]
theorem keyT_pc (p : Pc) : keyT (pcD p) = some (pcK p) := rfl
theorem pcK_inj {p q : Pc} (h : pcK p = pcK q) : p = q := by
  unfold pcK at h
  simp at h
  exact Prod.ext h.1 h.2
def box : List Pc := (List.range 7).flatMap fun (p : Nat) => (List.range 61).map fun (t : Nat) => ((p : Int), (t : Int))
theorem box_len : box.length = 427 := by decide +kernel
theorem box_mem {p t : Int} (h0 : 0 ≤ p) (h1 : p < 7) (h2 : 0 ≤ t) (h3 : t ≤ 60) : (p, t) ∈ box := by
  unfold box
  rw [List.mem_flatMap]
  refine ⟨p.toNat, List.mem_range.mpr (by omega), List.mem_map.mpr ⟨t.toNat, List.mem_range.mpr (by omega), ?_⟩⟩
  rw [Int.toNat_of_nonneg h0, Int.toNat_of_nonneg h2]
/-- a dict by pieces -/
structure Tab {α : Type} (emb : α → D) (kvs : List (List Key × D)) (f : Pc → Option α) : Prop where
  at_ : ∀ p, getA kvs (pcK p) = (f p).map emb
  nd : (kvs.map (·.1)).Nodup
  sub : ∀ k ∈ kvs.map (·.1), k ∈ box.map pcK
theorem Tab.len {α : Type} {emb : α → D} {kvs : List (List Key × D)} {f : Pc → Option α} (h : Tab emb kvs f) : kvs.length ≤ 427 := by
  have := h.nd.length_le_of_subset h.sub
  rw [List.length_map, List.length_map, box_len] at this
  exact this
theorem Tab.nil {α : Type} {emb : α → D} : Tab emb [] fun _ => none := ⟨fun _ => rfl, List.nodup_nil, fun k hk => by simp at hk⟩
theorem setA_keys (kvs : List (List Key × D)) (k : List Key) (d : D) : (k ∈ kvs.map (·.1) ∧ (setA kvs k d).map (·.1) = kvs.map (·.1)) ∨ (k ∉ kvs.map (·.1) ∧ (setA kvs k d).map (·.1) = kvs.map (·.1) ++ [k]) := by
  have hm : (kvs.any fun kv => decide (kv.1 = k)) = true ↔ k ∈ kvs.map (·.1) := by
    simp only [List.any_eq_true, decide_eq_true_eq, List.mem_map]
  unfold setA
  by_cases h : k ∈ kvs.map (·.1)
  · refine .inl ⟨h, ?_⟩
    rw [if_pos (hm.mpr h), List.map_map]
    apply List.map_congr_left
    intro kv _
    show (if kv.1 = k then (kv.1, d) else kv).1 = kv.1
    split <;> rfl
  · refine .inr ⟨h, ?_⟩
    rw [if_neg (fun z => h (hm.mp z)), List.map_append]
    rfl
theorem Tab.put {α : Type} {emb : α → D} {kvs : List (List Key × D)} {f : Pc → Option α} (h : Tab emb kvs f) {x : Pc} (hx : x ∈ box) (t : α) : Tab emb (setA kvs (pcK x) (emb t)) fun p => if p = x then some t else f p := by
  refine ⟨fun p => ?_, ?_, fun k hk => ?_⟩
  · rw [getA_set]
    by_cases e : p = x
    · rw [if_pos (by rw [e]), if_pos e]; rfl
    · rw [if_neg (fun z => e (pcK_inj z)), if_neg e]; exact h.at_ p
  · rcases setA_keys kvs (pcK x) (emb t) with ⟨_, e⟩ | ⟨hn, e⟩
    · rw [e]; exact h.nd
    · rw [e, List.nodup_append]
      refine ⟨h.nd, by simp, fun a ha b hb => ?_⟩
      rw [List.mem_singleton.mp hb]
      intro z
      exact hn (z ▸ ha)
  · rcases setA_keys kvs (pcK x) (emb t) with ⟨_, e⟩ | ⟨hn, e⟩
    · rw [e] at hk; exact h.sub k hk
    · rw [e] at hk
      rcases List.mem_append.mp hk with q | q
      · exact h.sub k q
      · rw [List.mem_singleton.mp q]
        exact List.mem_map.mpr ⟨x, hx, rfl⟩
def flds (pt : List Rt) (L N : Int) (pl : Addr) (la : List Addr) : List (Str × D) := [("own_parts", .lst (pt.map ratD)), ("own_lines", .int L), ("own_many", .int N), ("own_places", .ref pl), ("own_lots", .lst (la.map .ref))]
/-- the object at sp, over what was tracked before (G0) -/
structure SpAt (C : Addr) (G0 : Hd) (sp pl : Addr) (la : List Addr) (pt : List Rt) (L : Int) (N : Nat) (G : Hd) (f : Pl) (lots : List (List Pc)) : Prop where
  base : ∀ b o, G0 b = some o → G b = some o
  n1 : G0 sp = none
  n2 : G0 pl = none
  n3 : ∀ a ∈ la, G0 a = none
  ins : G sp = some (.ins C (flds pt L N pl la))
  pls : ∃ kvs, G pl = some (.dT kvs) ∧ Tab D.int kvs f
  len : la.length = N
  lot : ∀ (i : Nat) a l, la[i]? = some a → lots[i]? = some l → G a = some (.lst (l.map pcD))
  nd : la.Nodup
  cons : Cons N f lots
  dom : ∀ x t, f x = some t → x ∈ box
  N60 : N ≤ 60
  pt7 : pt.length ≤ 7
  pok : ∀ r ∈ pt, 0 ≤ r.1 ∧ r.1 < r.2 ∧ r.2 ≤ 100
def wB (r : Rt) (t : Int) : Int := (t - 1) * r.2 / r.1
def wE (r : Rt) (t : Int) : Int := (t * r.2 + r.1 - 1) / r.1
def cut (N : Nat) (e : Int) : Int := if e < (N : Int) then e else N
def S_Spread_window (C : Addr) : SpD := fun ds G Q => ∃ (G0 : Hd) (sp pl : Addr) (la : List Addr) (pt : List Rt) (L : Int) (N : Nat) (f : Pl) (lots : List (List Pc)) (p : Nat) (t : Int) (r : Rt), ds = [.ref sp, pcD ((p : Int), t)] ∧ SpAt C G0 sp pl la pt L N G f lots ∧ pt[p]? = some r ∧ 0 < r.1 ∧
  0 ≤ wB r t ∧ wB r t < 1000 ∧ 0 ≤ wE r t ∧ Q (.lst (rangeD (wB r t) (cut N (wE r t)))) G
def S_in_the_way (C : Addr) : SpD := fun ds G Q => ∃ (G0 : Hd) (sp pl : Addr) (la : List Addr) (pt : List Rt) (L : Int) (N : Nat) (f : Pl) (lots : List (List Pc)) (x : Pc) (i : Nat) (lot : List Pc), ds = [.ref sp, pcD x, .int (i : Int)] ∧ SpAt C G0 sp pl la pt L N G f lots ∧ lots[i]? = some lot ∧
  Q (.lst ((way x lot L).map pcD)) G
def S_put (C : Addr) : SpD := fun ds G Q => ∃ (G0 : Hd) (sp pl : Addr) (la : List Addr) (pt : List Rt) (L : Int) (N : Nat) (f : Pl) (lots : List (List Pc)) (x : Pc) (r : Int) (ah : Addr) (kvs : List (List Key × D)) (h : Pc → Option (Option Pc)) (ch : List Pc),
  ds = [.ref sp, pcD x, .int r, .ref ah] ∧ SpAt C G0 sp pl la pt L N G f lots ∧ G ah = some (.dT kvs) ∧ ah ≠ pl ∧ Tab (fun o => match o with | some q => pcD q | none => D.non) kvs h ∧ chain h (x :: ch) ∧ (x :: ch).Nodup ∧ (∀ y ∈ x :: ch, y ∈ box) ∧ okTo f (x :: ch) r N ∧
  ∀ G', SpAt C G0 sp pl la pt L N G' (putsF f (x :: ch) r) (putsL f lots (x :: ch) r) → Q .non G'
end K84
set_option Elab.async false
set_option linter.all false
set_option maxRecDepth 100000
set_option maxHeartbeats 4000000
/-! k84: Spread's methods window, in_the_way, put. -/
namespace K84
open PySem L2 VL M84
section
variable {pt : List Rt} {L N : Int} {pl : Addr} {la : List Addr}
theorem fl_parts : (flds pt L N pl la).lookup ("own_parts" : Str) = some (D.lst (pt.map ratD)) := rfl
theorem fl_lines : (flds pt L N pl la).lookup ("own_lines" : Str) = some (D.int L) := rfl
theorem fl_many : (flds pt L N pl la).lookup ("own_many" : Str) = some (D.int N) := rfl
theorem fl_places : (flds pt L N pl la).lookup ("own_places" : Str) = some (D.ref pl) := rfl
theorem fl_lots : (flds pt L N pl la).lookup ("own_lots" : Str) = some (D.lst (la.map .ref)) := rfl
end
theorem at_nat {xs : List D} {i : Nat} {d : D} (h : xs[i]? = some d) : atI xs (i : Int) = some d := atI_get h
section
variable {P : Program} {w : World} {K : PySem.W.Frag} {mg : Str → Option Value} {base : Heap} {k : Nat}
theorem ok_window (T : Txt K mg) : FnA P w K mg base 2 T.f_Spread_window T.d_Spread_window ["self", "piece"] (S_Spread_window T.C_Spread) := by
  refine (w_Spread_window (k := 1) T (ok_window_begin T) (ok_window_end T) (by rintro ds G Q ⟨_, _, _, _, _, _, _, _, _, _, _, _, rfl, _⟩; rfl)).2 fun ds G Q h => ?_
  obtain ⟨G0, sp, pl, la, pt, L, N, f, lots, p, t, r, rfl, hs, hp, r0, b0, b1, e0, q⟩ := h
  have hpt : atI (pt.map ratD) (p : Int) = some (ratD r) := at_nat (by rw [List.getElem?_map, hp]; rfl)
  have ro := hs.pok r (List.mem_of_getElem? hp)
  simp only [w_Spread_window, hs.ins, fl_parts, fl_many, bIx, pcD, seqOf, at0, at1, hpt, startD, dRet, dRetN, dAndV, dOrV, dCB, dNotV, dCons, dNil, dVar, dC, dAnd, dOr, dNot, dTest, dBin, dUn, dChain, dIfS, dSeq, dAsg, eName, dPar, dPar3, dNext, dDrop, dNever, dCont, dBreak, dCall, dCallK, dTup, dLst, dLstM, dIf, dFor, dWhile, dItems, dRange1, dRange2, dEnum, dZip, dLc, dLcM, wipeD, eTup, eCons, eNil, eSub, dCut, dPart, dNoPart, dRev, dFld, dSetFld, dMake, dMeth, dBM, dDGet2, dDGet, dDIn, dDPut, dDNew, dDisp1, dLstRg2, bSub, bDiv, bMod, bPow, bLt, bLe, bGt, bGe, bI, bI0, bB0, bIsN, bNotN, VL.isNon, uNeg, List.map_cons, List.map_nil, List.length_cons, List.length_nil, List.replicate, List.cons_append, List.nil_append, List.getElem?_cons_zero, List.getElem?_cons_succ, List.set_cons_zero, List.set_cons_succ, Nat.reduceAdd, Nat.reduceSub, decide_eq_true_eq, if_true, if_false, Bool.false_eq_true, reduceIte, pick, List.filterMap_cons, List.filterMap_nil]
  refine ⟨trivial, r, t, rfl, r0, by omega, by omega, by omega, ?_⟩
  simp only [hs.ins, fl_parts, fl_many, bIx, seqOf, at1, startD, dRet, dRetN, dAndV, dOrV, dCB, dNotV, dCons, dNil, dVar, dC, dAnd, dOr, dNot, dTest, dBin, dUn, dChain, dIfS, dSeq, dAsg, eName, dPar, dPar3, dNext, dDrop, dNever, dCont, dBreak, dCall, dCallK, dTup, dLst, dLstM, dIf, dFor, dWhile, dItems, dRange1, dRange2, dEnum, dZip, dLc, dLcM, wipeD, eTup, eCons, eNil, eSub, dCut, dPart, dNoPart, dRev, dFld, dSetFld, dMake, dMeth, dBM, dDGet2, dDGet, dDIn, dDPut, dDNew, dDisp1, dLstRg2, bSub, bDiv, bMod, bPow, bLt, bLe, bGt, bGe, bI, bI0, bB0, bIsN, bNotN, VL.isNon, uNeg, List.map_cons, List.map_nil, List.length_cons, List.length_nil, List.replicate, List.cons_append, List.nil_append, List.getElem?_cons_zero, List.getElem?_cons_succ, List.set_cons_zero, List.set_cons_succ, Nat.reduceAdd, Nat.reduceSub, decide_eq_true_eq, if_true, if_false, Bool.false_eq_true, reduceIte, pick, List.filterMap_cons, List.filterMap_nil]
  refine ⟨trivial, r, t, rfl, r0, by omega, by omega, by omega, ?_⟩
  simp only [cMin, c2, startD, dRet, dRetN, dAndV, dOrV, dCB, dNotV, dCons, dNil, dVar, dC, dAnd, dOr, dNot, dTest, dBin, dUn, dChain, dIfS, dSeq, dAsg, eName, dPar, dPar3, dNext, dDrop, dNever, dCont, dBreak, dCall, dCallK, dTup, dLst, dLstM, dIf, dFor, dWhile, dItems, dRange1, dRange2, dEnum, dZip, dLc, dLcM, wipeD, eTup, eCons, eNil, eSub, dCut, dPart, dNoPart, dRev, dFld, dSetFld, dMake, dMeth, dBM, dDGet2, dDGet, dDIn, dDPut, dDNew, dDisp1, dLstRg2, bSub, bDiv, bMod, bPow, bLt, bLe, bGt, bGe, bI, bI0, bB0, bIsN, bNotN, VL.isNon, uNeg, List.map_cons, List.map_nil, List.length_cons, List.length_nil, List.replicate, List.cons_append, List.nil_append, List.getElem?_cons_zero, List.getElem?_cons_succ, List.set_cons_zero, List.set_cons_succ, Nat.reduceAdd, Nat.reduceSub, decide_eq_true_eq, if_true, if_false, Bool.false_eq_true, reduceIte, pick, List.filterMap_cons, List.filterMap_nil]
  have N60 := hs.N60
  have e0' : 0 ≤ (t * r.2 + r.1 - 1) / r.1 := e0
  refine ⟨trivial, ⟨b0, by show wB r t ≤ _; omega, ?_, ?_⟩, ?_⟩
  · split <;> omega
  · split <;> omega
  · exact q
theorem low_pcs (n : Nat) (xs : List Pc) : lowD (n + 2) (.lst (xs.map pcD)) = true := by
  simp only [lowD]
  rw [List.all_eq_true]
  intro d hd
  obtain ⟨p, _, rfl⟩ := List.mem_map.mp hd
  simp [lowD, pcD]
theorem map_nil_dec {α β : Type} (g : α → β) (xs : List α) : (decide (xs = []) = true ↔ xs = []) := by simp
theorem ok_in_the_way (T : Txt K mg) : FnA P w K mg base 1 T.f_Spread_in_the_way T.d_Spread_in_the_way ["self", "piece", "turn"] (S_in_the_way T.C_Spread) := by
  refine (w_Spread_in_the_way (k := 0) T (by rintro ds G Q ⟨_, _, _, _, _, _, _, _, _, _, _, _, rfl, _⟩; rfl)).2 fun ds G Q h => ?_
  obtain ⟨G0, sp, pl, la, pt, L, N, f, lots, x, i, lot, rfl, hs, hl, q⟩ := h
  have hi : i < la.length := by
    have := (List.getElem?_eq_some_iff.mp hl).1
    rw [hs.len, ← hs.cons.len]
    exact this
  have hla : atI (la.map D.ref) (i : Int) = some (.ref la[i]) := at_nat (by rw [List.getElem?_map, List.getElem?_eq_getElem hi]; rfl)
  have hg := hs.lot i la[i] lot (List.getElem?_eq_getElem hi) hl
  simp only [w_Spread_in_the_way, hs.ins, fl_lots, bIx, pcD, seqOf, hla, hg, startD, dRet, dRetN, dAndV, dOrV, dCB, dNotV, dCons, dNil, dVar, dC, dAnd, dOr, dNot, dTest, dBin, dUn, dChain, dIfS, dSeq, dAsg, eName, dPar, dPar3, dNext, dDrop, dNever, dCont, dBreak, dCall, dCallK, dTup, dLst, dLstM, dIf, dFor, dWhile, dItems, dRange1, dRange2, dEnum, dZip, dLc, dLcM, wipeD, eTup, eCons, eNil, eSub, dCut, dPart, dNoPart, dRev, dFld, dSetFld, dMake, dMeth, dBM, dDGet2, dDGet, dDIn, dDPut, dDNew, dDisp1, dLstRg2, bSub, bDiv, bMod, bPow, bLt, bLe, bGt, bGe, bI, bI0, bB0, bIsN, bNotN, VL.isNon, uNeg, List.map_cons, List.map_nil, List.length_cons, List.length_nil, List.replicate, List.cons_append, List.nil_append, List.getElem?_cons_zero, List.getElem?_cons_succ, List.set_cons_zero, List.set_cons_succ, Nat.reduceAdd, Nat.reduceSub, decide_eq_true_eq, if_true, if_false, Bool.false_eq_true, reduceIte, pick, List.filterMap_cons, List.filterMap_nil]
  refine ⟨trivial, ?_⟩
  have ll : lot.length ≤ 427 := by
    have h1 := (hs.cons.nd i lot hl).length_le_of_subset (l₂ := box) fun y hy => hs.dom y _ ((hs.cons.iff i lot hl y).mp hy)
    rw [box_len] at h1
    exact h1
  have fm : ∀ l : List Pc, (l.map pcD).filterMap (fun d => match d with
      | .tup [.int a, .int b] => if a = x.1 then some (D.tup [.int a, .int b]) else none
      | _ => none) = (l.filter fun o => decide (o.1 = x.1)).map pcD := by
    intro l
    induction l with
    | nil => rfl
    | cons y l ih =>
      rw [List.map_cons]
      by_cases e : y.1 = x.1
      · rw [List.filter_cons_of_pos (by simpa using e), List.map_cons, List.filterMap_cons_some (b := pcD y) (by show (if y.1 = x.1 then _ else _) = _; rw [if_pos e]; rfl), ih]
      · rw [List.filter_cons_of_neg (by simpa using e), List.filterMap_cons_none (by show (if y.1 = x.1 then _ else _) = _; rw [if_neg e]), ih]
  refine comp_map (fun d => match d with
      | .tup [.int a, .int b] => if a = x.1 then some (D.tup [.int a, .int b]) else none
      | _ => none) _ [] hg (by rw [List.length_map]; show _ ≤ 16777216; simp; omega) (fun d hd k hk => ?_) ?_
  · obtain ⟨y, hy, rfl⟩ := List.mem_map.mp hd
    simp only [bIx, seqOf, pcD, at0, bEq, startD, dRet, dRetN, dAndV, dOrV, dCB, dNotV, dCons, dNil, dVar, dC, dAnd, dOr, dNot, dTest, dBin, dUn, dChain, dIfS, dSeq, dAsg, eName, dPar, dPar3, dNext, dDrop, dNever, dCont, dBreak, dCall, dCallK, dTup, dLst, dLstM, dIf, dFor, dWhile, dItems, dRange1, dRange2, dEnum, dZip, dLc, dLcM, wipeD, eTup, eCons, eNil, eSub, dCut, dPart, dNoPart, dRev, dFld, dSetFld, dMake, dMeth, dBM, dDGet2, dDGet, dDIn, dDPut, dDNew, dDisp1, dLstRg2, bSub, bDiv, bMod, bPow, bLt, bLe, bGt, bGe, bI, bI0, bB0, bIsN, bNotN, VL.isNon, uNeg, List.map_cons, List.map_nil, List.length_cons, List.length_nil, List.replicate, List.cons_append, List.nil_append, List.getElem?_cons_zero, List.getElem?_cons_succ, List.set_cons_zero, List.set_cons_succ, Nat.reduceAdd, Nat.reduceSub, decide_eq_true_eq, if_true, if_false, Bool.false_eq_true, reduceIte, pick, List.filterMap_cons, List.filterMap_nil]
    simp only [pcD] at hk
    by_cases e : y.1 = x.1
    · rw [if_pos e] at hk ⊢
      exact hk
    · rw [if_neg e] at hk ⊢
      exact hk
  · rw [fm, List.nil_append]
    have lt : (lot.map pcD).length = lot.length := List.length_map ..
    refine ⟨Nat.zero_le _, bEq_nil (n := 2) (low_pcs 0 _) (by decide) ?_⟩
    simp only [cLen, seqOf, hg, hs.ins, fl_lines, cList, lt, startD, dRet, dRetN, dAndV, dOrV, dCB, dNotV, dCons, dNil, dVar, dC, dAnd, dOr, dNot, dTest, dBin, dUn, dChain, dIfS, dSeq, dAsg, eName, dPar, dPar3, dNext, dDrop, dNever, dCont, dBreak, dCall, dCallK, dTup, dLst, dLstM, dIf, dFor, dWhile, dItems, dRange1, dRange2, dEnum, dZip, dLc, dLcM, wipeD, eTup, eCons, eNil, eSub, dCut, dPart, dNoPart, dRev, dFld, dSetFld, dMake, dMeth, dBM, dDGet2, dDGet, dDIn, dDPut, dDNew, dDisp1, dLstRg2, bSub, bDiv, bMod, bPow, bLt, bLe, bGt, bGe, bI, bI0, bB0, bIsN, bNotN, VL.isNon, uNeg, List.map_cons, List.map_nil, List.length_cons, List.length_nil, List.replicate, List.cons_append, List.nil_append, List.getElem?_cons_zero, List.getElem?_cons_succ, List.set_cons_zero, List.set_cons_succ, Nat.reduceAdd, Nat.reduceSub, decide_eq_true_eq, if_true, if_false, Bool.false_eq_true, reduceIte, pick, List.filterMap_cons, List.filterMap_nil]
    unfold way at q
    by_cases e : lot.filter (fun o => decide (o.1 = x.1)) = []
    · rw [if_neg (fun z => z e)] at q
      rw [e]
      simp only [List.map_nil, decide_true, Bool.not_true, Bool.false_eq_true, if_false]
      refine ⟨trivial, ?_⟩
      rw [lt]
      by_cases e2 : L ≤ (lot.length : Int)
      · rw [if_pos e2] at q ⊢
        exact q
      · rw [if_neg e2] at q ⊢
        exact ⟨Nat.zero_le _, q⟩
    · rw [if_pos e] at q
      have e3 : ¬ (lot.filter fun o => decide (o.1 = x.1)).map pcD = [] := fun z => e (List.map_eq_nil_iff.mp z)
      rw [decide_eq_false e3]
      simp only [Bool.not_false, if_true]
      exact q
end
end K84
set_option Elab.async false
set_option linter.all false
set_option maxRecDepth 100000
set_option maxHeartbeats 4000000
/-! k84: Spread.put. -/
namespace K84
open PySem L2 VL M84
theorem eqv_pc (x y : Pc) : PyData.eqv (toP (pcD y)) (toP (pcD x)) = decide (y = x) := by
  show ((y.1 == x.1) && ((y.2 == x.2) && true)) = _
  rw [Bool.and_true, Bool.eq_iff_iff]
  simp [Prod.ext_iff]
theorem find_pc {x : Pc} : ∀ {l : List Pc}, x ∈ l → ∃ j, findD (pcD x) (l.map pcD) = some j ∧ (l.map pcD).eraseIdx j = (l.erase x).map pcD
  | [], h => nomatch h
  | y :: l, h => by
    rw [List.map_cons]
    unfold findD
    rw [eqv_pc]
    by_cases e : y = x
    · rw [if_pos (by simpa using e)]
      refine ⟨0, rfl, ?_⟩
      rw [e, List.erase_cons_head]
      rfl
    · rw [if_neg (by simpa using e)]
      have hm : x ∈ l := by
        rcases List.mem_cons.mp h with q | q
        · exact absurd q.symm e
        · exact q
      obtain ⟨j, h1, h2⟩ := find_pc hm
      refine ⟨j + 1, by rw [h1]; rfl, ?_⟩
      rw [List.erase_cons_tail (by simpa using e), List.map_cons, List.eraseIdx_cons_succ, h2]
section
variable {C : Addr} {G0 : Hd} {sp pl : Addr} {la : List Addr} {pt : List Rt} {L : Int} {N : Nat} {G : Hd} {f : Pl} {lots : List (List Pc)}
theorem SpAt.sp_pl (h : SpAt C G0 sp pl la pt L N G f lots) : sp ≠ pl := fun e => by
  obtain ⟨kvs, g, _⟩ := h.pls
  rw [← e, h.ins] at g
  cases g
theorem SpAt.at_la (h : SpAt C G0 sp pl la pt L N G f lots) {a : Addr} (m : a ∈ la) : ∃ xs, G a = some (.lst xs) := by
  obtain ⟨i, hi⟩ := List.getElem?_of_mem m
  have hl : i < lots.length := by
    have := (List.getElem?_eq_some_iff.mp hi).1
    rw [h.cons.len, ← h.len]
    exact this
  exact ⟨_, h.lot i a _ hi (List.getElem?_eq_getElem hl)⟩
theorem SpAt.sp_la (h : SpAt C G0 sp pl la pt L N G f lots) : sp ∉ la := fun m => by
  obtain ⟨xs, g⟩ := h.at_la m
  rw [h.ins] at g
  cases g
theorem SpAt.pl_la (h : SpAt C G0 sp pl la pt L N G f lots) : pl ∉ la := fun m => by
  obtain ⟨xs, g⟩ := h.at_la m
  obtain ⟨kvs, g', _⟩ := h.pls
  rw [g'] at g
  cases g
/-- one move, at the tracked objects -/
theorem SpAt.step (h : SpAt C G0 sp pl la pt L N G f lots) {x : Pc} (hb : x ∈ box) {r : Int} (hr : 0 ≤ r ∧ r < N) (hx : f x ≠ some r) {G' : Hd} {kvs : List (List Key × D)} (g1 : G' pl = some (.dT kvs)) (ht : Tab D.int kvs (putF f x r))
    (g2 : ∀ (i : Nat) a l, la[i]? = some a → (mvL lots f x r)[i]? = some l → G' a = some (.lst (l.map pcD))) (g3 : ∀ b, b ≠ pl → b ∉ la → G' b = G b) : SpAt C G0 sp pl la pt L N G' (putF f x r) (mvL lots f x r) where
  base := fun b o q => by
    rw [g3 b (fun e => by rw [e, h.n2] at q; cases q) (fun m => by rw [h.n3 b m] at q; cases q)]
    exact h.base b o q
  n1 := h.n1
  n2 := h.n2
  n3 := h.n3
  ins := by rw [g3 sp h.sp_pl h.sp_la]; exact h.ins
  pls := ⟨kvs, g1, ht⟩
  len := h.len
  lot := g2
  nd := h.nd
  cons := mv_cons h.cons hr hx
  dom := fun y t q => by
    by_cases e : y = x
    · rw [e]; exact hb
    · rw [putF_ne e] at q; exact h.dom y t q
  N60 := h.N60
  pt7 := h.pt7
  pok := h.pok
theorem nodup_get {a : Addr} {i j : Nat} (h : la.Nodup) (hi : la[i]? = some a) (hj : la[j]? = some a) : i = j := by
  obtain ⟨h1, e1⟩ := List.getElem?_eq_some_iff.mp hi
  obtain ⟨h2, e2⟩ := List.getElem?_eq_some_iff.mp hj
  exact (List.getElem_inj h).mp (e1.trans e2.symm)
end
def emA : Option Pc → D
  | some q => pcD q
  | none => D.non
section
variable {P : Program} {w : World} {K : PySem.W.Frag} {mg : Str → Option Value} {base : Heap} {k : Nat}
theorem ok_put (T : Txt K mg) : FnA P w K mg base 1 T.f_Spread_put T.d_Spread_put ["self", "piece", "turn", "ahead"] (S_put T.C_Spread) := by
  refine (w_Spread_put (k := 0) T (by rintro ds G Q ⟨_, _, _, _, _, _, _, _, _, _, _, _, _, _, _, rfl, _⟩; rfl)).2 fun ds G Q h => ?_
  obtain ⟨G0, sp, pl, la, pt, L, N, f, lots, x, r, ah, kvs, hh, ch, rfl, hs, ga, nap, ta, hc, nd, hb, ok, q⟩ := h
  simp only [w_Spread_put, startD, dRet, dRetN, dAndV, dOrV, dCB, dNotV, dCons, dNil, dVar, dC, dAnd, dOr, dNot, dTest, dBin, dUn, dChain, dIfS, dSeq, dAsg, eName, dPar, dPar3, dNext, dDrop, dNever, dCont, dBreak, dCall, dCallK, dTup, dLst, dLstM, dIf, dFor, dItems, dRange1, dRange2, dEnum, dZip, dLc, dLcM, wipeD, eTup, eCons, eNil, eSub, dCut, dPart, dNoPart, dRev, dFld, dSetFld, dMake, dMeth, dBM, dDGet2, dDGet, dDIn, dDPut, dDNew, dDisp1, dLstRg2, bSub, bDiv, bMod, bPow, bLt, bLe, bGt, bGe, bI, bI0, bB0, bIsN, bNotN, VL.isNon, uNeg, List.map_cons, List.map_nil, List.length_cons, List.length_nil, List.replicate, List.cons_append, List.nil_append, List.getElem?_cons_zero, List.getElem?_cons_succ, List.set_cons_zero, List.set_cons_succ, Nat.reduceAdd, Nat.reduceSub, decide_eq_true_eq, if_true, if_false, Bool.false_eq_true, reduceIte, pick, List.filterMap_cons, List.filterMap_nil]
  have nas : ah ≠ sp := fun e => by rw [e, hs.ins] at ga; cases ga
  have nal : ah ∉ la := fun m => by
    obtain ⟨xs, g⟩ := hs.at_la m
    rw [ga] at g
    cases g
  refine while_ind (fun m δ G' => G' ah = some (.dT kvs) ∧ ((∃ y c t f' lots' o, m = c.length + 1 ∧ δ = [some (.ref sp), some (pcD y), some (.int t), some (.ref ah), o] ∧ SpAt T.C_Spread G0 sp pl la pt L N G' f' lots' ∧ chain hh (y :: c) ∧ (y :: c).Nodup ∧ (∀ z ∈ y :: c, z ∈ box) ∧ okTo f' (y :: c) t N ∧
      putsF f' (y :: c) t = putsF f (x :: ch) r ∧ putsL f' lots' (y :: c) t = putsL f lots (x :: ch) r) ∨ (∃ o o', m = 0 ∧ δ = [some (.ref sp), some .non, o, some (.ref ah), o'] ∧ SpAt T.C_Spread G0 sp pl la pt L N G' (putsF f (x :: ch) r) (putsL f lots (x :: ch) r)))) ?_ (m := ch.length + 1)
    ⟨ga, .inl ⟨x, ch, r, f, lots, _, rfl, rfl, hs, hc, nd, hb, ok, rfl, rfl⟩⟩
  rintro m δ G' nx ⟨ga', ⟨y, c, t, f', lots', o, rfl, rfl, hs', hc', nd', hb', ok', e1, e2⟩ | ⟨o, o', rfl, rfl, hs'⟩⟩ hn
  · obtain ⟨kv2, gp, tp⟩ := hs'.pls
    obtain ⟨ht, hne⟩ := okTo_ne ok'
    have hyb := hb' y List.mem_cons_self
    have hi : t.toNat < la.length := by rw [hs'.len]; omega
    have hat : atI (la.map D.ref) t = some (.ref la[t.toNat]) := by
      have := at_nat (xs := la.map D.ref) (i := t.toNat) (d := .ref la[t.toNat]) (by rw [List.getElem?_map, List.getElem?_eq_getElem hi]; rfl)
      rwa [Int.toNat_of_nonneg ht.1] at this
    have hlt : t.toNat < lots'.length := by rw [hs'.cons.len]; omega
    have glt := hs'.lot t.toNat _ _ (List.getElem?_eq_getElem hi) (List.getElem?_eq_getElem hlt)
    have ll : lots'[t.toNat].length ≤ 427 := by
      have h1 := (hs'.cons.nd t.toNat _ (List.getElem?_eq_getElem hlt)).length_le_of_subset (l₂ := box) fun z hz => hs'.dom z _ ((hs'.cons.iff _ _ (List.getElem?_eq_getElem hlt) z).mp hz)
      rw [box_len] at h1
      exact h1
    have kl := tp.len
    have npl : la[t.toNat] ≠ pl := fun e => hs'.pl_la (e ▸ List.getElem_mem hi)
    have nah : la[t.toNat] ≠ ah := fun e => nal (e ▸ List.getElem_mem hi)
    have nsp : la[t.toNat] ≠ sp := fun e => hs'.sp_la (e ▸ List.getElem_mem hi)
    have sz : sizeLine = 16777216 := by decide
    have hd : dictOf G' (.ref pl) = some kv2 := by
      show (match G' pl with | some (.dT kvs) => some kvs | _ => none) = _
      rw [gp]
    have nn : (!VL.isNon (pcD y)) = true := rfl
    have stp : ∀ G3 : Hd, G3 ah = some (.dT kvs) → G3 pl = some (.dT (setA kv2 (pcK y) (.int t))) → (∀ (i : Nat) a l, la[i]? = some a → (mvL lots' f' y t)[i]? = some l → G3 a = some (.lst (l.map pcD))) → (∀ b, b ≠ pl → b ∉ la → G3 b = G' b) →
        ∀ d, getA kvs (pcK y) = some d → nx [some (.ref sp), some d, some (match f' y with | some o => D.int o | none => .non), some (.ref ah), some (match f' y with | some o => D.int o | none => .non)] G3 := by
      intro G3 z1 z2 z3 z4 d hd
      have hs3 := hs'.step hyb ht hne z2 (tp.put hyb t) z3 z4
      rw [ta.at_] at hd
      cases c with
      | nil =>
        have hy : hh y = some none := hc'
        rw [hy] at hd
        cases hd
        rw [ok'.2]
        refine hn 0 _ _ (by simp) ⟨z1, .inr ⟨_, _, rfl, rfl, ?_⟩⟩
        rw [← e1, ← e2]
        unfold putsF putsL
        rw [ok'.2]
        exact hs3
      | cons z c =>
        obtain ⟨hy, hc2⟩ := hc'
        obtain ⟨_, _, o2, h3, h4⟩ := ok'
        rw [hy] at hd
        cases hd
        rw [h3]
        have nyz : y ∉ z :: c := (List.nodup_cons.mp nd').1
        refine hn (c.length + 1) _ _ (by simp) ⟨z1, .inl ⟨z, c, o2, putF f' y t, mvL lots' f' y t, _, rfl, rfl, hs3, hc2, (List.nodup_cons.mp nd').2, fun u hu => hb' u (List.mem_cons_of_mem _ hu), okTo_put nyz h4, ?_, ?_⟩⟩
        · rw [← e1]
          conv => rhs; unfold putsF
          rw [h3]
        · rw [← e2]
          conv => rhs; unfold putsL
          rw [h3]
    have hdd : ∃ d, getA kvs (pcK y) = some d := by
      rw [ta.at_]
      cases c with
      | nil => rw [show hh y = some none from hc']; exact ⟨_, rfl⟩
      | cons z c => rw [hc'.1]; exact ⟨_, rfl⟩
    obtain ⟨d, hd2⟩ := hdd
    cases e : f' y with
    | none =>
      rw [e] at stp
      have hg : getA kv2 (pcK y) = none := by rw [tp.at_, e]; rfl
      simp only [dNext, nn, hs'.ins, fl_places, fl_lots, hd, keyT_pc, hg, Option.getD_none, Option.isSome_some, startD, dRet, dRetN, dAndV, dOrV, dCB, dNotV, dCons, dNil, dVar, dC, dAnd, dOr, dNot, dTest, dBin, dUn, dChain, dIfS, dSeq, dAsg, eName, dPar, dPar3, dNext, dDrop, dNever, dCont, dBreak, dCall, dCallK, dTup, dLst, dLstM, dIf, dFor, dWhile, dItems, dRange1, dRange2, dEnum, dZip, dLc, dLcM, wipeD, eTup, eCons, eNil, eSub, dCut, dPart, dNoPart, dRev, dFld, dSetFld, dMake, dMeth, dBM, dDGet2, dDGet, dDIn, dDPut, dDNew, dDisp1, dLstRg2, bSub, bDiv, bMod, bPow, bLt, bLe, bGt, bGe, bI, bI0, bB0, bIsN, bNotN, uNeg, List.map_cons, List.map_nil, List.length_cons, List.length_nil, List.replicate, List.cons_append, List.nil_append, List.getElem?_cons_zero, List.getElem?_cons_succ, List.set_cons_zero, List.set_cons_succ, Nat.reduceAdd, Nat.reduceSub, decide_eq_true_eq, if_true, if_false, Bool.false_eq_true, reduceIte, pick, List.filterMap_cons, List.filterMap_nil]
      rw [show (!VL.isNon D.non) = false from rfl]
      simp only [Bool.false_eq_true, if_false, gp, updD_ne hs'.sp_pl, updD_ne npl, hs'.ins, fl_lots, bIx, seqOf, hat, glt, mAppend, dictOf, updD_ne nah.symm, updD_ne nap, ga', hd2]
      refine ⟨trivial, trivial, trivial, by rw [sz]; omega, trivial, ⟨_, rfl⟩, by rw [sz, List.length_map]; omega, stp _ ?_ ?_ ?_ ?_ d hd2⟩
      · rw [updD_ne nah.symm, updD_ne nap]; exact ga'
      · rw [updD_ne npl.symm, updD_same]
      · intro i a l ha hl
        have hi' : i < lots'.length := by
          have := (List.getElem?_eq_some_iff.mp hl).1
          rwa [mvL_len] at this
        have hg2 := mvL_get hs'.cons ht hne (List.getElem?_eq_getElem hi')
        rw [hl] at hg2
        injection hg2 with hg2
        by_cases q2 : (i : Int) = t
        · have hit : i = t.toNat := by omega
          subst hit
          have ea : a = la[t.toNat] := by
            rw [List.getElem?_eq_getElem hi] at ha
            injection ha with ha
            exact ha.symm
          rw [hg2, if_pos q2, ea, updD_same, List.map_append]
          rfl
        · have na : a ≠ la[t.toNat] := fun z => q2 (by
            have := nodup_get hs'.nd ha (by rw [z]; exact List.getElem?_eq_getElem hi)
            omega)
          rw [hg2, if_neg q2, e, if_neg (by simp), updD_ne na, updD_ne (show a ≠ pl from fun z => hs'.pl_la (by rw [← z]; exact List.mem_of_getElem? ha))]
          exact hs'.lot i a _ ha (List.getElem?_eq_getElem hi')
      · intro b hb1 hb2
        rw [updD_ne (show b ≠ la[t.toNat] from fun z => hb2 (by rw [z]; exact List.getElem_mem hi)), updD_ne hb1]
    | some o2 =>
      rw [e] at stp
      have hg : getA kv2 (pcK y) = some (.int o2) := by rw [tp.at_, e]; rfl
      obtain ⟨o0, o1⟩ := hs'.cons.rng y o2 e
      have hio : o2.toNat < la.length := by rw [hs'.len]; omega
      have hat2 : atI (la.map D.ref) o2 = some (.ref la[o2.toNat]) := by
        have := at_nat (xs := la.map D.ref) (i := o2.toNat) (d := .ref la[o2.toNat]) (by rw [List.getElem?_map, List.getElem?_eq_getElem hio]; rfl)
        rwa [Int.toNat_of_nonneg o0] at this
      have hlo : o2.toNat < lots'.length := by rw [hs'.cons.len]; omega
      have glo := hs'.lot o2.toNat _ _ (List.getElem?_eq_getElem hio) (List.getElem?_eq_getElem hlo)
      have hmem : y ∈ lots'[o2.toNat] := (hs'.cons.iff _ _ (List.getElem?_eq_getElem hlo) y).mpr (by rw [e, Int.toNat_of_nonneg o0])
      obtain ⟨j, hj1, hj2⟩ := find_pc hmem
      have not_ : la[t.toNat] ≠ la[o2.toNat] := fun z => by
        have := nodup_get hs'.nd (List.getElem?_eq_getElem hi) (by rw [z]; exact List.getElem?_eq_getElem hio)
        rw [e] at hne
        exact hne (by congr 1; omega)
      have opl : la[o2.toNat] ≠ pl := fun e => hs'.pl_la (e ▸ List.getElem_mem hio)
      have oah : la[o2.toNat] ≠ ah := fun e => nal (e ▸ List.getElem_mem hio)
      have osp : la[o2.toNat] ≠ sp := fun e => hs'.sp_la (e ▸ List.getElem_mem hio)
      have okl : ∀ l : List Pc, okD (.lst (l.map pcD)) = true := fun l => okD_low (low_pcs 0 l) (by decide)
      have oky : okD (pcD y) = true := okD_low (n := 1) (by simp [lowD, pcD]) (by decide)
      simp only [dNext, nn, hs'.ins, fl_places, fl_lots, hd, keyT_pc, hg, Option.getD_some, Option.isSome_some, startD, dRet, dRetN, dAndV, dOrV, dCB, dNotV, dCons, dNil, dVar, dC, dAnd, dOr, dNot, dTest, dBin, dUn, dChain, dIfS, dSeq, dAsg, eName, dPar, dPar3, dNext, dDrop, dNever, dCont, dBreak, dCall, dCallK, dTup, dLst, dLstM, dIf, dFor, dWhile, dItems, dRange1, dRange2, dEnum, dZip, dLc, dLcM, wipeD, eTup, eCons, eNil, eSub, dCut, dPart, dNoPart, dRev, dFld, dSetFld, dMake, dMeth, dBM, dDGet2, dDGet, dDIn, dDPut, dDNew, dDisp1, dLstRg2, bSub, bDiv, bMod, bPow, bLt, bLe, bGt, bGe, bI, bI0, bB0, bIsN, bNotN, uNeg, List.map_cons, List.map_nil, List.length_cons, List.length_nil, List.replicate, List.cons_append, List.nil_append, List.getElem?_cons_zero, List.getElem?_cons_succ, List.set_cons_zero, List.set_cons_succ, Nat.reduceAdd, Nat.reduceSub, decide_eq_true_eq, if_true, if_false, Bool.false_eq_true, reduceIte, pick, List.filterMap_cons, List.filterMap_nil]
      rw [show (!VL.isNon (D.int o2)) = true from rfl]
      simp only [if_true, bIx, seqOf, hat2, glo, mRemove, okl, oky, hj1, hj2, updD_ne osp.symm, hs'.ins, fl_places, updD_ne opl.symm, gp, updD_ne hs'.sp_pl, fl_lots, hat, updD_ne npl, updD_ne not_, glt, mAppend, dictOf, updD_ne nah.symm, updD_ne nap, updD_ne oah.symm, ga', hd2]
      refine ⟨trivial, trivial, trivial, ⟨_, rfl⟩, trivial, trivial, trivial, by rw [sz]; omega, trivial, ⟨_, rfl⟩, by rw [sz, List.length_map]; omega, stp _ ?_ ?_ ?_ ?_ d hd2⟩
      · rw [updD_ne nah.symm, updD_ne nap, updD_ne oah.symm]; exact ga'
      · rw [updD_ne npl.symm, updD_same]
      · intro i a l ha hl
        have hi' : i < lots'.length := by
          have := (List.getElem?_eq_some_iff.mp hl).1
          rwa [mvL_len] at this
        have hg2 := mvL_get hs'.cons ht hne (List.getElem?_eq_getElem hi')
        rw [hl] at hg2
        injection hg2 with hg2
        have nap' : a ≠ pl := fun z => hs'.pl_la (z ▸ List.mem_of_getElem? ha)
        by_cases q2 : (i : Int) = t
        · have hit : i = t.toNat := by omega
          subst hit
          have ea : a = la[t.toNat] := by
            rw [List.getElem?_eq_getElem hi] at ha
            injection ha with ha
            exact ha.symm
          rw [hg2, if_pos q2, ea, updD_same, List.map_append]
          rfl
        · have na : a ≠ la[t.toNat] := fun z => q2 (by
            have := nodup_get hs'.nd ha (by rw [z]; exact List.getElem?_eq_getElem hi)
            omega)
          rw [hg2, if_neg q2, e, updD_ne na, updD_ne nap']
          by_cases q3 : (i : Int) = o2
          · have hit : i = o2.toNat := by omega
            subst hit
            have ea : a = la[o2.toNat] := by
              rw [List.getElem?_eq_getElem hio] at ha
              injection ha with ha
              exact ha.symm
            rw [if_pos (by rw [q3]), ea, updD_same]
          · have na2 : a ≠ la[o2.toNat] := fun z => q3 (by
              have := nodup_get hs'.nd ha (by rw [z]; exact List.getElem?_eq_getElem hio)
              omega)
            rw [if_neg (fun z => q3 (by injection z with z; exact z.symm)), updD_ne na2]
            exact hs'.lot i a _ ha (List.getElem?_eq_getElem hi')
      · intro b hb1 hb2
        rw [updD_ne (show b ≠ la[t.toNat] from fun z => hb2 (by rw [z]; exact List.getElem_mem hi)), updD_ne hb1, updD_ne (show b ≠ la[o2.toNat] from fun z => hb2 (by rw [z]; exact List.getElem_mem hio))]
  · simp only [startD, dRet, dRetN, dAndV, dOrV, dCB, dNotV, dCons, dNil, dVar, dC, dAnd, dOr, dNot, dTest, dBin, dUn, dChain, dIfS, dSeq, dAsg, eName, dPar, dPar3, dNext, dDrop, dNever, dCont, dBreak, dCall, dCallK, dTup, dLst, dLstM, dIf, dFor, dWhile, dItems, dRange1, dRange2, dEnum, dZip, dLc, dLcM, wipeD, eTup, eCons, eNil, eSub, dCut, dPart, dNoPart, dRev, dFld, dSetFld, dMake, dMeth, dBM, dDGet2, dDGet, dDIn, dDPut, dDNew, dDisp1, dLstRg2, bSub, bDiv, bMod, bPow, bLt, bLe, bGt, bGe, bI, bI0, bB0, bIsN, bNotN, VL.isNon, uNeg, List.map_cons, List.map_nil, List.length_cons, List.length_nil, List.replicate, List.cons_append, List.nil_append, List.getElem?_cons_zero, List.getElem?_cons_succ, List.set_cons_zero, List.set_cons_succ, Nat.reduceAdd, Nat.reduceSub, decide_eq_true_eq, if_true, if_false, Bool.false_eq_true, reduceIte, pick, List.filterMap_cons, List.filterMap_nil]
    exact q G' hs'
end
end K84
set_option Elab.async false
set_option linter.all false
set_option maxRecDepth 100000
set_option maxHeartbeats 4000000
/-! The search for a row of moves. Plain Lean. -/
namespace M84
section
variable (W : Pc → Int → Prop) (wy : Pc → Int → List Pc) (f : Pl) (x0 : Pc)
structure Bfs (st lf : List Pc) (h : Pc → Option (Option Pc)) : Prop where
  nd : (st ++ lf).Nodup
  mem : ∀ x, (h x).isSome = true ↔ x ∈ st ++ lf
  root : h x0 = some none
  par : ∀ x ∈ st ++ lf, x ≠ x0 → ∃ y, y ∈ st ∧ h x = some (some y) ∧ (st ++ lf).idxOf y < (st ++ lf).idxOf x ∧ ∃ r, f x = some r ∧ W y r ∧ f y ≠ some r ∧ x ∈ wy y r ∧
    ∀ o ∈ wy y r, ∃ z, h o = some (some z) ∧ (st ++ lf).idxOf z ≤ (st ++ lf).idxOf y
/-- the links of a found row, from the piece that is put first -/
def links (h : Pc → Option (Option Pc)) (ix : Pc → Nat) : List Pc → Int → Prop
  | [], _ => True
  | [c], r => W c r ∧ f c ≠ some r ∧ f c = none ∧ c = x0 ∧ h c = some none
  | c :: y :: ch, r => W c r ∧ f c ≠ some r ∧ h c = some (some y) ∧ ix y < ix c ∧ ∃ o, f c = some o ∧ c ∈ wy y o ∧ (∀ o' ∈ wy y o, ∃ z, h o' = some (some z) ∧ ix z ≤ ix y) ∧ links h ix (y :: ch) o
end
section
variable {W : Pc → Int → Prop} {wy : Pc → Int → List Pc} {f : Pl} {x0 : Pc} {st lf : List Pc} {h : Pc → Option (Option Pc)}
theorem Bfs.start : Bfs W wy f x0 [] [x0] fun p => if p = x0 then some none else none := by
  refine ⟨by simp, fun x => ?_, if_pos rfl, fun x hx hn => ?_⟩
  · by_cases e : x = x0 <;> simp [e]
  · simp at hx
    exact absurd hx hn
theorem Bfs.pop {c : Pc} (b : Bfs W wy f x0 st (c :: lf) h) : Bfs W wy f x0 (st ++ [c]) lf h := by
  have e : st ++ [c] ++ lf = st ++ c :: lf := by simp
  refine ⟨by rw [e]; exact b.nd, by rw [e]; exact b.mem, b.root, fun x hx hn => ?_⟩
  rw [e] at hx ⊢
  obtain ⟨y, hy, r⟩ := b.par x hx hn
  exact ⟨y, List.mem_append_left _ hy, r⟩
theorem idx_app {l m : List Pc} {x : Pc} (hx : x ∈ l) : (l ++ m).idxOf x = l.idxOf x := by
  rw [List.idxOf_append, if_pos hx]
theorem Bfs.grow {c : Pc} {r : Int} {news : List Pc} (b : Bfs W wy f x0 (st ++ [c]) lf h) (hW : W c r) (hc : f c ≠ some r) (hway : ∀ o ∈ wy c r, f o = some r) (h0 : f x0 = none) (nn : news.Nodup) (hn : ∀ o ∈ news, o ∈ wy c r ∧ o ∉ st ++ [c] ++ lf)
    (hall : ∀ o ∈ wy c r, o ∈ st ++ [c] ++ lf ∨ o ∈ news) : Bfs W wy f x0 (st ++ [c]) (lf ++ news) fun p => if p ∈ news then some (some c) else h p := by
  have e : st ++ [c] ++ (lf ++ news) = (st ++ [c] ++ lf) ++ news := by simp
  have hcm : c ∈ st ++ [c] ++ lf := by simp
  have notn : ∀ z, z ∈ st ++ [c] ++ lf → z ∉ news := fun z hz hz2 => (hn z hz2).2 hz
  have x0n : x0 ∉ news := fun m => by
    have := hway x0 (hn x0 m).1
    rw [h0] at this
    cases this
  have cst : c ∉ st := fun m => by
    have nd := b.nd
    rw [List.nodup_append] at nd
    have nd2 := nd.1
    rw [List.nodup_append] at nd2
    exact nd2.2.2 c m c (by simp) rfl
  have stle : ∀ z, z ∈ st ++ [c] → (st ++ [c] ++ lf).idxOf z ≤ (st ++ [c] ++ lf).idxOf c := fun z hz => by
    have ic : (st ++ [c] ++ lf).idxOf c = (st ++ [c]).idxOf c := idx_app (by simp)
    have iz : (st ++ [c] ++ lf).idxOf z = (st ++ [c]).idxOf z := idx_app hz
    rw [ic, iz]
    rcases List.mem_append.mp hz with q | q
    · have i1 : (st ++ [c]).idxOf z = st.idxOf z := idx_app q
      have i2 : (st ++ [c]).idxOf c = [c].idxOf c + st.length := by rw [List.idxOf_append, if_neg cst]
      rw [i1, i2]
      have := List.idxOf_lt_length_iff.mpr q
      omega
    · rw [List.mem_singleton.mp q]
      exact Nat.le_refl _
  refine ⟨?_, fun x => ?_, ?_, fun x hx hxn => ?_⟩
  · rw [e, List.nodup_append]
    exact ⟨b.nd, nn, fun a ha b' hb z => notn a ha (z ▸ hb)⟩
  · rw [e, List.mem_append]
    by_cases q : x ∈ news
    · simp [q]
    · simp only [q, if_false, or_false]
      exact b.mem x
  · exact (if_neg x0n).trans b.root
  · rw [e] at hx ⊢
    rcases List.mem_append.mp hx with q | q
    · obtain ⟨y, y1, y2, y3, r', r1, r2, r3, r4, r5⟩ := b.par x q hxn
      have ym : y ∈ st ++ [c] ++ lf := List.mem_append_left _ y1
      refine ⟨y, y1, (if_neg (notn x q)).trans y2, by rw [idx_app ym, idx_app q]; exact y3, r', r1, r2, r3, r4, fun o ho => ?_⟩
      obtain ⟨z, z1, z2⟩ := r5 o ho
      have om : o ∈ st ++ [c] ++ lf := (b.mem o).mp (by rw [z1]; rfl)
      have ox : o ≠ x0 := fun k => by rw [k, b.root] at z1; cases z1
      obtain ⟨y', k1, k2, _⟩ := b.par o om ox
      rw [z1] at k2
      cases k2
      exact ⟨z, (if_neg (notn o om)).trans z1, by rw [idx_app (List.mem_append_left _ k1), idx_app ym]; exact z2⟩
    · refine ⟨c, by simp, if_pos q, ?_, r, hway x (hn x q).1, hW, hc, (hn x q).1, fun o ho => ?_⟩
      · have i1 : (st ++ [c] ++ lf ++ news).idxOf c = (st ++ [c] ++ lf).idxOf c := idx_app hcm
        have i2 : (st ++ [c] ++ lf ++ news).idxOf x = news.idxOf x + (st ++ [c] ++ lf).length := by rw [List.idxOf_append, if_neg (hn x q).2]
        rw [i1, i2]
        have := List.idxOf_lt_length_iff.mpr hcm
        omega
      · rcases hall o ho with k | k
        · have ox : o ≠ x0 := fun e => by
            have := hway o ho
            rw [e, h0] at this
            cases this
          obtain ⟨z, z1, z2, _⟩ := b.par o k ox
          exact ⟨z, (if_neg (notn o k)).trans z2, by rw [idx_app (List.mem_append_left _ z1), idx_app hcm]; exact stle z z1⟩
        · exact ⟨c, if_pos k, Nat.le_refl _⟩
/-- the row from a reached piece back to the first one -/
theorem Bfs.path (b : Bfs W wy f x0 st lf h) (h0 : f x0 = none) : ∀ (n : Nat) (c : Pc) (r : Int), c ∈ st ++ lf → (st ++ lf).idxOf c < n → W c r → f c ≠ some r →
    ∃ ch, links W wy f x0 h (fun z => (st ++ lf).idxOf z) (c :: ch) r ∧ (c :: ch).Nodup ∧ (∀ z ∈ c :: ch, z ∈ st ++ lf ∧ (st ++ lf).idxOf z ≤ (st ++ lf).idxOf c)
  | 0, _, _, _, h, _, _ => absurd h (Nat.not_lt_zero _)
  | n + 1, c, r, hc, hn, hW, hf => by
    by_cases e : c = x0
    · subst e
      refine ⟨[], ⟨hW, hf, h0, rfl, b.root⟩, by simp, fun z hz => ?_⟩
      rw [List.mem_singleton.mp hz]
      exact ⟨hc, Nat.le_refl _⟩
    · obtain ⟨y, y1, y2, y3, o, r1, r2, r3, r4, r5⟩ := b.par c hc e
      obtain ⟨ch, c1, c2, c3⟩ := Bfs.path b h0 n y o (List.mem_append_left _ y1) (by omega) r2 r3
      refine ⟨y :: ch, ⟨hW, hf, y2, y3, o, r1, r4, r5, c1⟩, ?_, fun z hz => ?_⟩
      · rw [List.nodup_cons]
        refine ⟨fun m => ?_, c2⟩
        have := (c3 c m).2
        omega
      · rcases List.mem_cons.mp hz with q | q
        · rw [q]; exact ⟨hc, Nat.le_refl _⟩
        · have := c3 z q
          exact ⟨this.1, by omega⟩
theorem links_chain {ix : Pc → Nat} : ∀ {c : List Pc} {r : Int}, links W wy f x0 h ix c r → chain h c
  | [], _, _ => True.intro
  | [c], _, l => l.2.2.2.2
  | c :: y :: ch, _, ⟨_, _, l, _, o, _, _, _, k⟩ => ⟨l, links_chain k⟩
theorem links_ok {ix : Pc → Nat} {N : Nat} (hr : ∀ x r, W x r → 0 ≤ r ∧ r < N) : ∀ {c : List Pc} {r : Int}, links W wy f x0 h ix c r → okTo f c r N
  | [], _, _ => True.intro
  | [c], r, l => ⟨hr c r l.1, l.2.2.1⟩
  | c :: y :: ch, r, ⟨l1, l2, _, _, o, l3, _, _, k⟩ => ⟨hr c r l1, l2, o, l3, links_ok hr k⟩
end
end M84
set_option Elab.async false
set_option linter.all false
set_option maxRecDepth 100000
set_option maxHeartbeats 4000000
/-! k84: Spread.place. -/
namespace K84
open PySem L2 VL M84
def inWin (pt : List Rt) (N : Nat) (x : Pc) (r : Int) : Prop := ∃ (p : Nat) (rt : Rt), x.1 = p ∧ pt[p]? = some rt ∧ 0 < rt.1 ∧ wB rt x.2 ≤ r ∧ r < wE rt x.2 ∧ r < N ∧ 0 ≤ r
def Valid (pt : List Rt) (N : Nat) (x : Pc) : Prop := ∃ (p : Nat) (rt : Rt), x.1 = p ∧ pt[p]? = some rt ∧ 0 < rt.1 ∧ 1 ≤ x.2 ∧ wB rt x.2 < N
def wyL (lots : List (List Pc)) (L : Int) (x : Pc) (r : Int) : List Pc := way x (lots.getD r.toNat []) L
def Closed (W : Pc → Int → Prop) (wy : Pc → Int → List Pc) (f : Pl) (S R : List Pc) : Prop := ∀ x ∈ S, ∀ r, W x r → f x = some r ∨ (wy x r ≠ [] ∧ ∀ o ∈ wy x r, o ∈ R)
def S_place (C : Addr) : SpD := fun ds G Q => ∃ (G0 : Hd) (sp pl : Addr) (la : List Addr) (pt : List Rt) (L : Int) (N : Nat) (f : Pl) (lots : List (List Pc)) (x : Pc), ds = [.ref sp, pcD x] ∧ SpAt C G0 sp pl la pt L N G f lots ∧ (∀ y t, f y = some t → Valid pt N y) ∧ Valid pt N x ∧ f x = none ∧
  (∀ G' c ch r h ix, links (inWin pt N) (wyL lots L) f x h ix (c :: ch) r → (c :: ch).Nodup → (∀ y ∈ c :: ch, ∀ z ∈ c :: ch, ix y = ix z → y = z) → wyL lots L c r = [] → SpAt C G0 sp pl la pt L N G' (putsF f (c :: ch) r) (putsL f lots (c :: ch) r) → Q (.bl true) G') ∧
  (∀ G' R, SpAt C G0 sp pl la pt L N G' f lots → x ∈ R → Closed (inWin pt N) (wyL lots L) f R R → Q (.bl false) G')
section
variable {C : Addr} {G0 : Hd} {sp pl : Addr} {la : List Addr} {pt : List Rt} {L : Int} {N : Nat} {G : Hd} {f : Pl} {lots : List (List Pc)}
theorem SpAt.upd (h : SpAt C G0 sp pl la pt L N G f lots) {a : Addr} {o : HD} (n0 : G0 a = none) (n1 : a ≠ sp) (n2 : a ≠ pl) (n3 : a ∉ la) : SpAt C G0 sp pl la pt L N (updD G a o) f lots where
  base := fun b u q => by
    rw [updD_ne (fun e => by rw [e, n0] at q; cases q)]
    exact h.base b u q
  n1 := h.n1
  n2 := h.n2
  n3 := h.n3
  ins := by rw [updD_ne n1.symm]; exact h.ins
  pls := by obtain ⟨kvs, g, t⟩ := h.pls; exact ⟨kvs, by rw [updD_ne n2.symm]; exact g, t⟩
  len := h.len
  lot := fun i b l hb hl => by
    rw [updD_ne (show b ≠ a from fun e => n3 (by rw [← e]; exact List.mem_of_getElem? hb))]
    exact h.lot i b l hb hl
  nd := h.nd
  cons := h.cons
  dom := h.dom
  N60 := h.N60
  pt7 := h.pt7
  pok := h.pok
theorem SpAt.free (h : SpAt C G0 sp pl la pt L N G f lots) {a : Addr} (g : G a = none) : G0 a = none ∧ a ≠ sp ∧ a ≠ pl ∧ a ∉ la := by
  refine ⟨?_, fun e => ?_, fun e => ?_, fun m => ?_⟩
  · cases q : G0 a with
    | none => rfl
    | some o => rw [h.base a o q] at g; cases g
  · rw [e, h.ins] at g; cases g
  · obtain ⟨kvs, g', _⟩ := h.pls
    rw [e, g'] at g; cases g
  · obtain ⟨xs, g'⟩ := h.at_la m
    rw [g'] at g; cases g
theorem wB_le {r : Rt} {t : Int} (h0 : 0 < r.1) (h1 : r.1 < r.2) (ht : 1 ≤ t) : t - 1 ≤ wB r t := by
  unfold wB
  rw [Int.le_ediv_iff_mul_le h0]
  have := Int.mul_le_mul_of_nonneg_left (Int.le_of_lt h1) (show (0 : Int) ≤ t - 1 by omega)
  exact this
theorem wE_ge {r : Rt} {t : Int} (h0 : 0 < r.1) (h1 : r.1 < r.2) (ht : 1 ≤ t) : t ≤ wE r t := by
  unfold wE
  rw [Int.le_ediv_iff_mul_le h0]
  have := Int.mul_le_mul_of_nonneg_left (Int.le_of_lt h1) (show (0 : Int) ≤ t by omega)
  omega
theorem valid_facts (h : SpAt C G0 sp pl la pt L N G f lots) {x : Pc} (v : Valid pt N x) : x ∈ box ∧ ∃ (p : Nat) (r : Rt), x.1 = p ∧ pt[p]? = some r ∧ 0 < r.1 ∧ 0 ≤ wB r x.2 ∧ wB r x.2 < 1000 ∧ 0 ≤ wE r x.2 := by
  obtain ⟨p, r, h1, h2, h3, h4, h5⟩ := v
  have ro := h.pok r (List.mem_of_getElem? h2)
  have b := wB_le h3 ro.2.1 h4
  have e := wE_ge h3 ro.2.1 h4
  have hp := (List.getElem?_eq_some_iff.mp h2).1
  have p7 := h.pt7
  have N60 := h.N60
  refine ⟨box_mem (p := x.1) (t := x.2) (by omega) (by omega) (by omega) (by omega), p, r, h1, h2, h3, by omega, by omega, by omega⟩
theorem way_mem (h : SpAt C G0 sp pl la pt L N G f lots) {x o : Pc} {r : Int} (hr : 0 ≤ r ∧ r < N) (m : o ∈ wyL lots L x r) : f o = some r := by
  have hl : r.toNat < lots.length := by rw [h.cons.len]; omega
  have e : lots.getD r.toNat [] = lots[r.toNat] := getD_of (List.getElem?_eq_getElem hl)
  unfold wyL at m
  rw [e] at m
  have mo : o ∈ lots[r.toNat] := by
    unfold way at m
    split at m
    · exact (List.mem_filter.mp m).1
    · split at m
      · exact m
      · cases m
  have := (h.cons.iff r.toNat _ (List.getElem?_eq_getElem hl) o).mp mo
  rw [this, Int.toNat_of_nonneg hr.1]
end
structure PlSt (C : Addr) (G0 : Hd) (sp pl : Addr) (la : List Addr) (pt : List Rt) (L : Int) (N : Nat) (f : Pl) (lots : List (List Pc)) (x : Pc) (ah lfA : Addr) (G : Hd) (st lf : List Pc) (h : Pc → Option (Option Pc)) : Prop where
  sp_ : SpAt C G0 sp pl la pt L N G f lots
  bf : Bfs (inWin pt N) (wyL lots L) f x st lf h
  dict : ∃ kvs, G ah = some (.dT kvs) ∧ Tab emA kvs h
  lst : G lfA = some (.lst (lf.map pcD))
  val : ∀ y ∈ st ++ lf, Valid pt N y
theorem PlSt.small {C : Addr} {G0 : Hd} {sp pl : Addr} {la : List Addr} {pt : List Rt} {L : Int} {N : Nat} {f : Pl} {lots : List (List Pc)} {x : Pc} {ah lfA : Addr} {G : Hd} {st lf : List Pc} {h : Pc → Option (Option Pc)}
    (p : PlSt C G0 sp pl la pt L N f lots x ah lfA G st lf h) : (st ++ lf).length ≤ 427 := by
  have h1 := p.bf.nd.length_le_of_subset (l₂ := box) fun y hy => (valid_facts p.sp_ (p.val y hy)).1
  rw [box_len] at h1
  exact h1
def plD : Option Int → D
  | some o => D.int o
  | none => .non
theorem bEq_place {o : Option Int} {r : Int} {G : Hd} {Q : KD} (q : Q (.bl (decide (o = some r))) G) : bEq (plD o) (.int r) G Q := by
  cases o with
  | none =>
    rw [decide_eq_false (by simp)] at q
    exact q
  | some t =>
    show Q (.bl (decide (t = r))) G
    rw [show decide (t = r) = decide (some t = some r) by rw [Bool.eq_iff_iff]; simp]
    exact q
theorem getD_place {kvs : List (List Key × D)} {f : Pl} (t : Tab D.int kvs f) (c : Pc) : (getA kvs (pcK c)).getD .non = plD (f c) := by
  rw [t.at_]
  cases f c <;> rfl
section
variable {P : Program} {w : World} {K : PySem.W.Frag} {mg : Str → Option Value} {base : Heap} {k : Nat}
theorem ok_place (T : Txt K mg) : FnA P w K mg base 3 T.f_Spread_place T.d_Spread_place ["self", "first"] (S_place T.C_Spread) := by
  refine (w_Spread_place (k := 2) T (ok_window T) (VL.FnA.mono (k := 2) (ok_put T) (by decide)) (VL.FnA.mono (k := 2) (ok_in_the_way T) (by decide)) (by rintro ds G Q ⟨_, _, _, _, _, _, _, _, _, _, rfl, _⟩; rfl)).2 fun ds G Q h => ?_
  obtain ⟨G0, sp, pl, la, pt, L, N, f, lots, x, rfl, hs, hv, vx, fx, qt, qf⟩ := h
  simp only [w_Spread_place, startD, dRet, dRetN, dAndV, dOrV, dCB, dNotV, dCons, dNil, dVar, dC, dAnd, dOr, dNot, dTest, dBin, dUn, dChain, dIfS, dSeq, dAsg, eName, dPar, dPar3, dNext, dDrop, dNever, dCont, dBreak, dCall, dCallK, dTup, dLst, dLstM, dIf, dItems, dRange1, dRange2, dEnum, dZip, dLc, dLcM, wipeD, eTup, eCons, eNil, eSub, dCut, dPart, dNoPart, dRev, dFld, dSetFld, dMake, dMeth, dBM, dDGet2, dDGet, dDIn, dDPut, dDNew, dDisp1, dLstRg2, bSub, bDiv, bMod, bPow, bLt, bLe, bGt, bGe, bI, bI0, bB0, bIsN, bNotN, VL.isNon, uNeg, List.map_cons, List.map_nil, List.length_cons, List.length_nil, List.replicate, List.cons_append, List.nil_append, List.getElem?_cons_zero, List.getElem?_cons_succ, List.set_cons_zero, List.set_cons_succ, Nat.reduceAdd, Nat.reduceSub, decide_eq_true_eq, if_true, if_false, Bool.false_eq_true, reduceIte, pick, List.filterMap_cons, List.filterMap_nil]
  intro ah gah
  simp only [updD_same, keyT_pc, updD_updD]
  refine ⟨by decide, fun lfA glf => ?_⟩
  have sz : sizeLine = 16777216 := by decide
  have nla : lfA ≠ ah := fun e => by rw [e, updD_same] at glf; cases glf
  obtain ⟨a0, a1, a2, a3⟩ := hs.free gah
  obtain ⟨l0, l1, l2, l3⟩ := hs.free (show G lfA = none by rw [updD_ne nla] at glf; exact glf)
  have bx : x ∈ box := (valid_facts hs vx).1
  have P0 : PlSt T.C_Spread G0 sp pl la pt L N f lots x ah lfA (updD (updD G ah (.dT [(pcK x, D.non)])) lfA (.lst [pcD x])) [] [x] fun p => if p = x then some none else none :=
    ⟨(hs.upd a0 a1 a2 a3).upd l0 l1 l2 l3, Bfs.start, ⟨_, (updD_ne nla.symm).trans updD_same, (Tab.nil (emb := emA)).put bx none⟩, updD_same, fun y hy => by
      have e : y = x := by simpa using hy
      rw [e]; exact vx⟩
  refine while_ind (fun m δ G' => ∃ st lf h o1 o2 o3 o4, δ = [some (.ref sp), some (pcD x), some (.ref ah), some (.ref lfA), o1, o2, o3, o4] ∧ PlSt T.C_Spread G0 sp pl la pt L N f lots x ah lfA G' st lf h ∧ Closed (inWin pt N) (wyL lots L) f st (st ++ lf) ∧ m = 428 - st.length)
    ?_ ⟨[], [x], _, _, _, _, _, rfl, P0, (fun y hy => nomatch hy), rfl⟩
  rintro m δ G' nx ⟨st, lf, h, o1, o2, o3, o4, rfl, ps, cl, rfl⟩ hn
  have hW : ∀ y r, inWin pt N y r → 0 ≤ r ∧ r < N := fun y r ⟨_, _, _, _, _, _, _, h1, h2⟩ => ⟨h2, h1⟩
  have hwy : ∀ y r, inWin pt N y r → ∀ o ∈ wyL lots L y r, f o = some r := fun y r hw o ho => way_mem hs (hW y r hw) ho
  simp only [startD, dRet, dRetN, dAndV, dOrV, dCB, dNotV, dCons, dNil, dVar, dC, dAnd, dOr, dNot, dTest, dBin, dUn, dChain, dIfS, dSeq, dAsg, eName, dPar, dPar3, dNext, dDrop, dNever, dCont, dBreak, dCall, dCallK, dTup, dLst, dLstM, dIf, dWhile, dItems, dRange1, dRange2, dEnum, dZip, dLc, dLcM, wipeD, eTup, eCons, eNil, eSub, dCut, dPart, dNoPart, dRev, dFld, dSetFld, dMake, dMeth, dBM, dDGet2, dDGet, dDIn, dDPut, dDNew, dDisp1, dLstRg2, bSub, bDiv, bMod, bPow, bLt, bLe, bGt, bGe, bI, bI0, bB0, bIsN, bNotN, VL.isNon, uNeg, List.map_cons, List.map_nil, List.length_cons, List.length_nil, List.replicate, List.cons_append, List.nil_append, List.getElem?_cons_zero, List.getElem?_cons_succ, List.set_cons_zero, List.set_cons_succ, Nat.reduceAdd, Nat.reduceSub, decide_eq_true_eq, if_true, if_false, Bool.false_eq_true, reduceIte, pick, List.filterMap_cons, List.filterMap_nil]
  refine ⟨Nat.zero_le _, bEq_nilR (n := 2) ps.lst (low_pcs 0 _) (by decide) ?_⟩
  simp only [startD, dRet, dRetN, dAndV, dOrV, dCB, dNotV, dCons, dNil, dVar, dC, dAnd, dOr, dNot, dTest, dBin, dUn, dChain, dIfS, dSeq, dAsg, eName, dPar, dPar3, dNext, dDrop, dNever, dCont, dBreak, dCall, dCallK, dTup, dLst, dLstM, dIf, dWhile, dItems, dRange1, dRange2, dEnum, dZip, dLc, dLcM, wipeD, eTup, eCons, eNil, eSub, dCut, dPart, dNoPart, dRev, dFld, dSetFld, dMake, dMeth, dBM, dDGet2, dDGet, dDIn, dDPut, dDNew, dDisp1, dLstRg2, bSub, bDiv, bMod, bPow, bLt, bLe, bGt, bGe, bI, bI0, bB0, bIsN, bNotN, VL.isNon, uNeg, List.map_cons, List.map_nil, List.length_cons, List.length_nil, List.replicate, List.cons_append, List.nil_append, List.getElem?_cons_zero, List.getElem?_cons_succ, List.set_cons_zero, List.set_cons_succ, Nat.reduceAdd, Nat.reduceSub, decide_eq_true_eq, if_true, if_false, Bool.false_eq_true, reduceIte, pick, List.filterMap_cons, List.filterMap_nil]
  cases lf with
  | nil =>
    simp only [List.map_nil, decide_true, Bool.not_true, Bool.false_eq_true, if_false]
    rw [List.append_nil] at cl
    exact qf G' st ps.sp_ (by
      have := (ps.bf.mem x).mp (by rw [ps.bf.root]; rfl)
      rwa [List.append_nil] at this) cl
  | cons c lf =>
    have e0 : ¬ (pcD c :: lf.map pcD = []) := by simp
    have g0 := ps.lst
    rw [List.map_cons] at g0
    simp only [List.map_cons, e0, decide_false, Bool.not_false, if_true, mPop0, g0]
    refine ⟨⟨_, rfl⟩, trivial, ?_⟩
    show dItems _ _ _ _
    have ps1 : PlSt T.C_Spread G0 sp pl la pt L N f lots x ah lfA (updD G' lfA (.lst (lf.map pcD))) (st ++ [c]) lf h := by
      obtain ⟨kvs, k1, k2⟩ := ps.dict
      refine ⟨ps.sp_.upd l0 l1 l2 l3, ps.bf.pop, ⟨kvs, by rw [updD_ne nla.symm]; exact k1, k2⟩, updD_same, fun y hy => ps.val y (by simpa using hy)⟩
    have cl1 : Closed (inWin pt N) (wyL lots L) f st (st ++ [c] ++ lf) := by
      have e : st ++ [c] ++ lf = st ++ c :: lf := by simp
      rw [e]; exact cl
    have vc : Valid pt N c := ps.val c (by simp)
    have hcm : c ∈ st ++ [c] ++ lf := by simp
    obtain ⟨_, p, rt, c1, c2, c3, c4, c5, c6⟩ := valid_facts hs vc
    generalize hG1 : updD G' lfA (HD.lst (lf.map pcD)) = G1 at ps1
    unfold dItems
    simp only [ps1.sp_.ins, startD, dRet, dRetN, dAndV, dOrV, dCB, dNotV, dCons, dNil, dVar, dC, dAnd, dOr, dNot, dTest, dBin, dUn, dChain, dIfS, dSeq, dAsg, eName, dPar, dPar3, dNext, dDrop, dNever, dCont, dBreak, dCall, dCallK, dTup, dLst, dLstM, dIf, dWhile, dRange1, dRange2, dEnum, dZip, dLc, dLcM, wipeD, eTup, eCons, eNil, eSub, dCut, dPart, dNoPart, dRev, dFld, dSetFld, dMake, dMeth, dBM, dDGet2, dDGet, dDIn, dDPut, dDNew, dDisp1, dLstRg2, bSub, bDiv, bMod, bPow, bLt, bLe, bGt, bGe, bI, bI0, bB0, bIsN, bNotN, VL.isNon, uNeg, List.map_cons, List.map_nil, List.length_cons, List.length_nil, List.replicate, List.cons_append, List.nil_append, List.getElem?_cons_zero, List.getElem?_cons_succ, List.set_cons_zero, List.set_cons_succ, Nat.reduceAdd, Nat.reduceSub, decide_eq_true_eq, if_true, if_false, Bool.false_eq_true, reduceIte, pick, List.filterMap_cons, List.filterMap_nil]
    have ec : pcD c = pcD ((p : Int), c.2) := by rw [← c1]
    refine ⟨trivial, rfl, G0, sp, pl, la, pt, L, N, f, lots, p, c.2, rt, by rw [ec], ps1.sp_, c2, c3, c4, c5, c6, ?_⟩
    dsimp only
    have inw : ∀ r, inWin pt N c r ↔ wB rt c.2 ≤ r ∧ r < cut N (wE rt c.2) := fun r => by
      constructor
      · rintro ⟨p', rt', d1, d2, d3, d4, d5, d6, d7⟩
        have : p = p' := by omega
        subst this
        rw [c2] at d2
        cases d2
        refine ⟨d4, ?_⟩
        unfold cut
        split <;> omega
      · rintro ⟨d1, d2⟩
        unfold cut at d2
        exact ⟨p, rt, c1, c2, c3, d1, by split at d2 <;> omega, by split at d2 <;> omega, by omega⟩
    refine loop_at (fun i δ G2 => ∃ lf2 h2 p5 p6 p7, δ = [some (.ref sp), some (pcD x), some (.ref ah), some (.ref lfA), some (pcD c), p5, p6, p7] ∧ PlSt T.C_Spread G0 sp pl la pt L N f lots x ah lfA G2 (st ++ [c]) lf2 h2 ∧
      Closed (inWin pt N) (wyL lots L) f st (st ++ [c] ++ lf2) ∧ ∀ r, inWin pt N c r → r < wB rt c.2 + (i : Nat) → f c = some r ∨ (wyL lots L c r ≠ [] ∧ ∀ o ∈ wyL lots L c r, o ∈ st ++ [c] ++ lf2)) ?_ ?_ ⟨lf, h, _, _, _, rfl, ps1, cl1, fun r hr hr2 => absurd ((inw r).mp hr).1 (by omega)⟩
    · rintro δ G2 ⟨lf2, h2, p5, p6, p7, rfl, ps2, cl2, cc⟩
      refine ⟨trivial, ?_⟩
      have sm := ps2.small
      rw [List.length_append, List.length_append, List.length_singleton] at sm
      refine hn (428 - (st ++ [c]).length) _ _ (by rw [List.length_append, List.length_singleton]; omega) ⟨st ++ [c], lf2, h2, _, _, _, _, rfl, ps2, fun y hy r hr => ?_, rfl⟩
      rcases List.mem_append.mp hy with q | q
      · exact cl2 y q r hr
      · rw [List.mem_singleton.mp q] at hr ⊢
        refine cc r hr ?_
        have := ((inw r).mp hr)
        rw [rangeD_length]
        omega
    · rintro i d δ G2 nx2 hd ⟨lf2, h2, p5, p6, p7, rfl, ps2, cl2, cc⟩ hn2
      refine ⟨trivial, ?_⟩
      have hi : i < (rangeD (wB rt c.2) (cut N (wE rt c.2))).length := (List.getElem?_eq_some_iff.mp hd).1
      have hde : d = .int (wB rt c.2 + (i : Nat)) := by
        unfold rangeD at hd
        rw [List.getElem?_map] at hd
        rw [rangeD_length] at hi
        rw [List.getElem?_range hi] at hd
        cases hd
        rfl
      subst hde
      rw [rangeD_length] at hi
      generalize hr : wB rt c.2 + (i : Int) = r at *
      have hwin : inWin pt N c r := (inw r).mpr ⟨by omega, by omega⟩
      obtain ⟨r0, r1⟩ := hW c r hwin
      obtain ⟨kvp, gp, tp⟩ := ps2.sp_.pls
      have hdp : dictOf G2 (.ref pl) = some kvp := by
        show (match G2 pl with | some (.dT kvs) => some kvs | _ => none) = _
        rw [gp]
      obtain ⟨kva, ga, ta⟩ := ps2.dict
      simp only [ps2.sp_.ins, fl_places, hdp, keyT_pc, Option.isSome_some, startD, dRet, dRetN, dAndV, dOrV, dCB, dNotV, dCons, dNil, dVar, dC, dAnd, dOr, dNot, dTest, dBin, dUn, dChain, dIfS, dSeq, dAsg, eName, dPar, dPar3, dNext, dDrop, dNever, dCont, dBreak, dCall, dCallK, dTup, dLst, dLstM, dIf, dWhile, dItems, dRange1, dRange2, dEnum, dZip, dLc, dLcM, wipeD, eTup, eCons, eNil, eSub, dCut, dPart, dNoPart, dRev, dFld, dSetFld, dMake, dMeth, dBM, dDGet2, dDGet, dDIn, dDPut, dDNew, dDisp1, dLstRg2, bSub, bDiv, bMod, bPow, bLt, bLe, bGt, bGe, bI, bI0, bB0, bIsN, bNotN, VL.isNon, uNeg, List.map_cons, List.map_nil, List.length_cons, List.length_nil, List.replicate, List.cons_append, List.nil_append, List.getElem?_cons_zero, List.getElem?_cons_succ, List.set_cons_zero, List.set_cons_succ, Nat.reduceAdd, Nat.reduceSub, decide_eq_true_eq, if_true, if_false, Bool.false_eq_true, reduceIte, pick, List.filterMap_cons, List.filterMap_nil]
      rw [getD_place tp]
      refine ⟨trivial, trivial, bEq_place ?_⟩
      dsimp only
      by_cases hfc : f c = some r
      · rw [if_pos (by simpa using hfc)]
        refine hn2 _ _ ⟨lf2, h2, _, _, _, rfl, ps2, cl2, fun r' hr' hlt => ?_⟩
        by_cases e : r' = r
        · rw [e]; exact .inl hfc
        · exact cc r' hr' (by omega)
      · rw [if_neg (by simpa using hfc)]
        have hl : r.toNat < lots.length := by rw [hs.cons.len]; omega
        have ewy : wyL lots L c r = way c lots[r.toNat] L := by
          unfold wyL
          rw [getD_of (List.getElem?_eq_getElem hl)]
        simp only [ps2.sp_.ins]
        refine ⟨trivial, rfl, G0, sp, pl, la, pt, L, N, f, lots, c, r.toNat, lots[r.toNat], by rw [Int.toNat_of_nonneg r0], ps2.sp_, List.getElem?_eq_getElem hl, ?_⟩
        rw [← ewy]
        refine ⟨Nat.zero_le _, bEq_nil (n := 2) (low_pcs 0 _) (by decide) ?_⟩
        simp only [ps2.sp_.ins, startD, dRet, dRetN, dAndV, dOrV, dCB, dNotV, dCons, dNil, dVar, dC, dAnd, dOr, dNot, dTest, dBin, dUn, dChain, dIfS, dSeq, dAsg, eName, dPar, dPar3, dNext, dDrop, dNever, dCont, dBreak, dCall, dCallK, dTup, dLst, dLstM, dIf, dWhile, dItems, dRange1, dRange2, dEnum, dZip, dLc, dLcM, wipeD, eTup, eCons, eNil, eSub, dCut, dPart, dNoPart, dRev, dFld, dSetFld, dMake, dMeth, dBM, dDGet2, dDGet, dDIn, dDPut, dDNew, dDisp1, dLstRg2, bSub, bDiv, bMod, bPow, bLt, bLe, bGt, bGe, bI, bI0, bB0, bIsN, bNotN, VL.isNon, uNeg, List.map_cons, List.map_nil, List.length_cons, List.length_nil, List.replicate, List.cons_append, List.nil_append, List.getElem?_cons_zero, List.getElem?_cons_succ, List.set_cons_zero, List.set_cons_succ, Nat.reduceAdd, Nat.reduceSub, decide_eq_true_eq, if_true, if_false, Bool.false_eq_true, reduceIte, pick, List.filterMap_cons, List.filterMap_nil]
        by_cases hw0 : wyL lots L c r = []
        · rw [hw0]
          simp only [List.map_nil, decide_true, if_true]
          obtain ⟨ch, lk, lnd, lm⟩ := ps2.bf.path fx (((st ++ [c] ++ lf2).idxOf c) + 1) c r (by simp) (Nat.lt_succ_self _) hwin hfc
          refine ⟨trivial, rfl, G0, sp, pl, la, pt, L, N, f, lots, c, r, ah, kva, h2, ch, rfl, ps2.sp_, ga, a2, ta, links_chain lk, lnd, fun y hy => (valid_facts ps2.sp_ (ps2.val y (lm y hy).1)).1, links_ok hW lk, fun G3 hs3 => ?_⟩
          refine qt G3 c ch r h2 _ lk lnd (fun y hy z hz e => ?_) hw0 hs3
          have i1 := List.idxOf_lt_length_iff.mpr (lm y hy).1
          have i2 := List.idxOf_lt_length_iff.mpr (lm z hz).1
          have g1 : (st ++ [c] ++ lf2)[(st ++ [c] ++ lf2).idxOf y] = y := List.getElem_idxOf i1
          have g2 : (st ++ [c] ++ lf2)[(st ++ [c] ++ lf2).idxOf z] = z := List.getElem_idxOf i2
          rw [← g1, ← g2]
          simp only [e]
        · have hw1 : ¬ ((wyL lots L c r).map pcD = []) := fun z => hw0 (List.map_eq_nil_iff.mp z)
          simp only [hw1, decide_false, Bool.false_eq_true, if_false]
          show dLoop _ _ cFree ((wyL lots L c r).map pcD) _ _ _
          refine loop_ind (fun items δ G3 => ∃ rest nw p8, items = rest.map pcD ∧ δ = [some (.ref sp), some (pcD x), some (.ref ah), some (.ref lfA), some (pcD c), some (.int r), some (.lst ((wyL lots L c r).map pcD)), p8] ∧ SpAt T.C_Spread G0 sp pl la pt L N G3 f lots ∧
            (∃ kv3, G3 ah = some (.dT kv3) ∧ Tab emA kv3 fun z => if z ∈ nw then some (some c) else h2 z) ∧ G3 lfA = some (.lst ((lf2 ++ nw).map pcD)) ∧ nw.Nodup ∧ (∀ o ∈ nw, o ∈ wyL lots L c r ∧ o ∉ st ++ [c] ++ lf2) ∧ (∀ o ∈ wyL lots L c r, (o ∈ st ++ [c] ++ lf2 ∨ o ∈ nw) ∨ o ∈ rest) ∧ ∀ o ∈ rest, o ∈ wyL lots L c r)
            ?_ ?_ _ _ _ ⟨wyL lots L c r, [], _, rfl, rfl, ps2.sp_, ⟨kva, ga, by simpa using ta⟩, by rw [List.append_nil]; exact ps2.lst, List.nodup_nil, (fun o ho => nomatch ho), fun o ho => .inr ho, fun o ho => ho⟩
          · rintro δ G3 ⟨rest, nw, p8, h1, rfl, s3, ⟨kv3, g3, t3⟩, l3', n3, m3, c3', _⟩
            have er : rest = [] := by
              cases rest with
              | nil => rfl
              | cons a b => cases h1
            subst er
            refine ⟨trivial, ?_⟩
            have call : ∀ o ∈ wyL lots L c r, o ∈ st ++ [c] ++ lf2 ∨ o ∈ nw := fun o ho => (c3' o ho).resolve_right (by simp)
            have bg := ps2.bf.grow hwin hfc (hwy c r hwin) fx n3 m3 call
            refine hn2 _ _ ⟨lf2 ++ nw, _, _, _, _, rfl, ⟨s3, bg, ⟨kv3, g3, t3⟩, l3', fun y hy => ?_⟩, fun y hy r' hr' => ?_, fun r' hr' hlt => ?_⟩
            · rw [← List.append_assoc] at hy
              rcases List.mem_append.mp hy with q | q
              · exact ps2.val y q
              · exact hv y r (hwy c r hwin y (m3 y q).1)
            · rcases cl2 y hy r' hr' with q | ⟨q1, q2⟩
              · exact .inl q
              · exact .inr ⟨q1, fun o ho => by rw [← List.append_assoc]; exact List.mem_append_left _ (q2 o ho)⟩
            · by_cases e : r' = r
              · rw [e]
                exact .inr ⟨hw0, fun o ho => by rw [← List.append_assoc]; exact List.mem_append.mpr (call o ho)⟩
              · rcases cc r' hr' (by omega) with q | ⟨q1, q2⟩
                · exact .inl q
                · exact .inr ⟨q1, fun o ho => by rw [← List.append_assoc]; exact List.mem_append_left _ (q2 o ho)⟩
          · rintro d rr δ G3 nx3 ⟨rest, nw, p8, h1, rfl, s3, ⟨kv3, g3, t3⟩, l3', n3, m3, c3', r3⟩ hn3
            cases rest with
            | nil => cases h1
            | cons o rest =>
              cases h1
              refine ⟨trivial, ?_⟩
              have hd3 : dictOf G3 (.ref ah) = some kv3 := by
                show (match G3 ah with | some (.dT kvs) => some kvs | _ => none) = _
                rw [g3]
              have how := r3 o List.mem_cons_self
              have hob : o ∈ box := hs.dom o r (hwy c r hwin o how)
              have k3 := t3.len
              simp only [hd3, keyT_pc, t3.at_, startD, dRet, dRetN, dAndV, dOrV, dCB, dNotV, dCons, dNil, dVar, dC, dAnd, dOr, dNot, dTest, dBin, dUn, dChain, dIfS, dSeq, dAsg, eName, dPar, dPar3, dNext, dDrop, dNever, dCont, dBreak, dCall, dCallK, dTup, dLst, dLstM, dIf, dWhile, dItems, dRange1, dRange2, dEnum, dZip, dLc, dLcM, wipeD, eTup, eCons, eNil, eSub, dCut, dPart, dNoPart, dRev, dFld, dSetFld, dMake, dMeth, dBM, dDGet2, dDGet, dDIn, dDPut, dDNew, dDisp1, dLstRg2, bSub, bDiv, bMod, bPow, bLt, bLe, bGt, bGe, bI, bI0, bB0, bIsN, bNotN, VL.isNon, uNeg, List.map_cons, List.map_nil, List.length_cons, List.length_nil, List.replicate, List.cons_append, List.nil_append, List.getElem?_cons_zero, List.getElem?_cons_succ, List.set_cons_zero, List.set_cons_succ, Nat.reduceAdd, Nat.reduceSub, decide_eq_true_eq, if_true, if_false, Bool.false_eq_true, reduceIte, pick, List.filterMap_cons, List.filterMap_nil]
              by_cases hin : o ∈ st ++ [c] ++ lf2 ∨ o ∈ nw
              · have hs1 : ((if o ∈ nw then some (some c) else h2 o).map emA).isSome = true := by
                  rcases hin with q | q
                  · split
                    · rfl
                    · have := (ps2.bf.mem o).mpr q
                      rw [Option.isSome_map]; exact this
                  · rw [if_pos q]; rfl
                rw [hs1]
                simp only [Bool.not_true, Bool.false_eq_true, if_false]
                refine hn3 _ _ ⟨rest, nw, _, rfl, rfl, s3, ⟨kv3, g3, t3⟩, l3', n3, m3, fun z hz => ?_, fun z hz => r3 z (List.mem_cons_of_mem _ hz)⟩
                rcases c3' z hz with q | q
                · exact .inl q
                · rcases List.mem_cons.mp q with q | q
                  · rw [q]; exact .inl hin
                  · exact .inr q
              · have hn1 : o ∉ nw := fun q => hin (.inr q)
                have hn2' : o ∉ st ++ [c] ++ lf2 := fun q => hin (.inl q)
                have hs1 : ((if o ∈ nw then some (some c) else h2 o).map emA).isSome = false := by
                  rw [if_neg hn1, Option.isSome_map]
                  cases q : (h2 o).isSome with
                  | false => rfl
                  | true => exact absurd ((ps2.bf.mem o).mp q) hn2'
                rw [hs1]
                simp only [Bool.not_false, if_true, g3, mAppend, updD_ne nla, l3']
                have llen : (lf2 ++ nw).length < 16777216 := by
                  have q1 : nw.length ≤ 427 := by
                    have := n3.length_le_of_subset (l₂ := box) fun z hz => hs.dom z r (hwy c r hwin z (m3 z hz).1)
                    rwa [box_len] at this
                  have q2 := ps2.small
                  rw [List.length_append] at q2 ⊢
                  omega
                refine ⟨by rw [sz]; omega, ⟨_, rfl⟩, by rw [sz, List.length_map]; exact llen, hn3 _ _ ⟨rest, nw ++ [o], _, rfl, rfl, (s3.upd a0 a1 a2 a3).upd l0 l1 l2 l3, ⟨_, (updD_ne nla.symm).trans updD_same, ?_⟩, ?_, ?_, ?_, fun z hz => ?_, fun z hz => r3 z (List.mem_cons_of_mem _ hz)⟩⟩
                · have tt := t3.put hob (some c)
                  have ef : (fun z => if z = o then some (some c) else if z ∈ nw then some (some c) else h2 z) = fun z => if z ∈ nw ++ [o] then some (some c) else h2 z := by
                    funext z
                    by_cases e1 : z = o
                    · simp [e1]
                    · simp [e1]
                  rw [ef] at tt
                  exact tt
                · rw [updD_same, ← List.append_assoc, List.map_append (l₁ := lf2 ++ nw)]
                  rfl
                · rw [List.nodup_append]
                  refine ⟨n3, by simp, fun a ha b hb => ?_⟩
                  rw [List.mem_singleton.mp hb]
                  intro z
                  exact hn1 (z ▸ ha)
                · intro z hz
                  rcases List.mem_append.mp hz with q | q
                  · exact m3 z q
                  · rw [List.mem_singleton.mp q]
                    exact ⟨how, hn2'⟩
                · rcases c3' z hz with q | q
                  · refine .inl ?_
                    rcases q with q | q
                    · exact .inl q
                    · exact .inr (List.mem_append_left _ q)
                  · rcases List.mem_cons.mp q with q | q
                    · rw [q]; exact .inl (.inr (by simp))
                    · exact .inr q
end
end K84
set_option Elab.async false
set_option linter.all false
set_option maxRecDepth 100000
set_option maxHeartbeats 4000000
/-! k84: Spread made, its pieces. -/
namespace K84
open PySem L2 VL M84
section
variable {a b c d e : D}
theorem pu1 : putD ("own_parts" : Str) a [] = ([("own_parts", a)] : List (Str × D)) := rfl
theorem pu2 : putD ("own_lines" : Str) b [("own_parts", a)] = ([("own_parts", a), ("own_lines", b)] : List (Str × D)) := rfl
theorem pu3 : putD ("own_many" : Str) c [("own_parts", a), ("own_lines", b)] = ([("own_parts", a), ("own_lines", b), ("own_many", c)] : List (Str × D)) := rfl
theorem pu4 : putD ("own_places" : Str) d [("own_parts", a), ("own_lines", b), ("own_many", c)] = ([("own_parts", a), ("own_lines", b), ("own_many", c), ("own_places", d)] : List (Str × D)) := rfl
theorem pu5 : putD ("own_lots" : Str) e [("own_parts", a), ("own_lines", b), ("own_many", c), ("own_places", d)] = ([("own_parts", a), ("own_lines", b), ("own_many", c), ("own_places", d), ("own_lots", e)] : List (Str × D)) := rfl
end
def S_init (C : Addr) : SpD := fun ds G Q => ∃ (G0 : Hd) (sp : Addr) (pt : List Rt) (L : Int) (N : Nat), ds = [.ref sp, .lst (pt.map ratD), .int L, .int (N : Int)] ∧ G sp = some (.ins C []) ∧ (∀ b o, G0 b = some o → G b = some o) ∧ G0 sp = none ∧ N ≤ 60 ∧ pt.length ≤ 7 ∧ (∀ r ∈ pt, 0 ≤ r.1 ∧ r.1 < r.2 ∧ r.2 ≤ 100) ∧
  ∀ G' pl la, SpAt C G0 sp pl la pt L N G' (fun _ => none) (List.replicate N []) → Q .non G'
section
variable {P : Program} {w : World} {K : PySem.W.Frag} {mg : Str → Option Value} {base : Heap} {k : Nat}
theorem ok_init (T : Txt K mg) : FnA P w K mg base 1 T.f_Spread___init__ T.d_Spread___init__ ["self", "parts", "lines", "many"] (S_init T.C_Spread) := by
  refine (w_Spread___init__ (k := 0) T (by rintro ds G Q ⟨_, _, _, _, _, rfl, _⟩; rfl)).2 fun ds G Q h => ?_
  obtain ⟨G0, sp, pt, L, N, rfl, gs, hb, n0, N60, p7, pok, q⟩ := h
  simp only [w_Spread___init__, gs, updD_same, pu1, pu2, pu3, pu4, pu5, updD_updD, startD, dRet, dRetN, dAndV, dOrV, dCB, dNotV, dCons, dNil, dVar, dC, dAnd, dOr, dNot, dTest, dBin, dUn, dChain, dIfS, dSeq, dAsg, eName, dPar, dPar3, dNext, dDrop, dNever, dCont, dBreak, dCall, dCallK, dTup, dLst, dLstM, dIf, dFor, dWhile, dItems, dRange1, dRange2, dEnum, dZip, dLc, dLcM, wipeD, eTup, eCons, eNil, eSub, dCut, dPart, dNoPart, dRev, dFld, dSetFld, dMake, dMeth, dBM, dDGet2, dDGet, dDIn, dDPut, dDisp1, dLstRg2, bSub, bDiv, bMod, bPow, bLt, bLe, bGt, bGe, bI, bI0, bB0, bIsN, bNotN, VL.isNon, uNeg, List.map_cons, List.map_nil, List.length_cons, List.length_nil, List.replicate, List.cons_append, List.nil_append, List.getElem?_cons_zero, List.getElem?_cons_succ, List.set_cons_zero, List.set_cons_succ, Nat.reduceAdd, Nat.reduceSub, decide_eq_true_eq, if_true, if_false, Bool.false_eq_true, reduceIte, pick, List.filterMap_cons, List.filterMap_nil]
  refine ⟨trivial, by first | decide | omega | simp, trivial, by first | decide | omega | simp, trivial, by first | decide | omega | simp, fun pl gpl => ?_⟩
  have sz : sizeLine = 16777216 := by decide
  have nps : pl ≠ sp := fun e => by rw [e, updD_same] at gpl; cases gpl
  have gpl0 : G pl = none := by rw [updD_ne nps] at gpl; exact gpl
  simp only [updD_ne nps.symm, updD_same, pu4]
  refine ⟨trivial, by first | decide | omega | simp, ⟨by omega, by omega⟩, ?_⟩
  generalize hG1 : updD (updD (updD G sp _) pl _) sp _ = G1
  have g1s : G1 sp = some (.ins T.C_Spread [("own_parts", .lst (pt.map ratD)), ("own_lines", .int L), ("own_many", .int (N : Int)), ("own_places", .ref pl)]) := by rw [← hG1]; exact updD_same
  have g1p : G1 pl = some (.dT []) := by rw [← hG1, updD_ne nps]; exact updD_same
  have g1b : ∀ b o, G0 b = some o → G1 b = some o := fun b o z => by
    have b1 : b ≠ sp := fun e => by rw [e, n0] at z; cases z
    have b2 : b ≠ pl := fun e => by
      have := hb b o z
      rw [e, gpl0] at this
      cases this
    rw [← hG1, updD_ne b1, updD_ne b2, updD_ne b1]
    exact hb b o z
  have g0p : G0 pl = none := by
    cases z : G0 pl with
    | none => rfl
    | some o => have := hb pl o z; rw [gpl0] at this; cases this
  refine comp_ind (fun items acc Gi => ∃ la : List Addr, acc = la.map D.ref ∧ la.length + items.length = N ∧ la.Nodup ∧ (∀ a ∈ la, Gi a = some (.lst []) ∧ G1 a = none) ∧ ∀ b o, G1 b = some o → Gi b = some o) ?_ ?_ _ _ _ ⟨[], rfl, by rw [rangeD_length]; simp, List.nodup_nil, (fun a ha => nomatch ha), fun b o z => z⟩
  · rintro acc Gi ⟨la, rfl, hl, hnd, hla, hk⟩
    refine ⟨trivial, ?_⟩
    rw [hk sp _ g1s]
    simp only [pu5]
    refine ⟨trivial, by first | decide | omega | simp, q _ pl la ⟨fun b o z => ?_, n0, g0p, fun a ha => ?_, updD_same, ⟨[], ?_, Tab.nil⟩, by simpa using hl, fun i a l hi hl2 => ?_, hnd, ⟨List.length_replicate, fun r l z => ?_, fun r l z x => ?_, fun x t z => nomatch z⟩, (fun x t z => nomatch z), N60, p7, pok⟩⟩
    · rw [updD_ne (fun e => by rw [e, n0] at z; cases z)]
      exact hk b o (g1b b o z)
    · cases z : G0 a with
      | none => rfl
      | some o => have := g1b a o z; rw [(hla a ha).2] at this; cases this
    · rw [updD_ne nps]; exact hk pl _ g1p
    · have ha := List.mem_of_getElem? hi
      have na : a ≠ sp := fun e => by
        have := (hla a ha).2
        rw [e, g1s] at this
        cases this
      rw [updD_ne na, (hla a ha).1]
      rw [List.getElem?_replicate] at hl2
      split at hl2
      · cases hl2; rfl
      · cases hl2
    · rw [List.getElem?_replicate] at z
      split at z
      · cases z; exact List.nodup_nil
      · cases z
    · rw [List.getElem?_replicate] at z
      split at z
      · cases z; simp
      · cases z
  · rintro dd rr acc Gi nx ⟨la, rfl, hl, hnd, hla, hk⟩ hn
    refine ⟨trivial, ?_⟩
    simp only [dYes, startD, dRet, dRetN, dAndV, dOrV, dCB, dNotV, dCons, dNil, dVar, dC, dAnd, dOr, dNot, dTest, dBin, dUn, dChain, dIfS, dSeq, dAsg, eName, dPar, dPar3, dNext, dDrop, dNever, dCont, dBreak, dCall, dCallK, dTup, dLst, dLstM, dIf, dFor, dWhile, dItems, dRange1, dRange2, dEnum, dZip, dLc, dLcM, wipeD, eTup, eCons, eNil, eSub, dCut, dPart, dNoPart, dRev, dFld, dSetFld, dMake, dMeth, dBM, dDGet2, dDGet, dDIn, dDPut, dDNew, dDisp1, dLstRg2, bSub, bDiv, bMod, bPow, bLt, bLe, bGt, bGe, bI, bI0, bB0, bIsN, bNotN, VL.isNon, uNeg, List.map_cons, List.map_nil, List.length_cons, List.length_nil, List.replicate, List.cons_append, List.nil_append, List.getElem?_cons_zero, List.getElem?_cons_succ, List.set_cons_zero, List.set_cons_succ, Nat.reduceAdd, Nat.reduceSub, decide_eq_true_eq, if_true, if_false, Bool.false_eq_true, reduceIte, pick, List.filterMap_cons, List.filterMap_nil]
    refine ⟨Nat.zero_le _, fun p hp => ⟨by rw [List.length_map, sz]; omega, hn _ _ ⟨la ++ [p], by rw [List.map_append]; rfl, by simp at hl ⊢; omega, ?_, fun a ha => ?_, fun b o z => ?_⟩⟩⟩
    · rw [List.nodup_append]
      refine ⟨hnd, by simp, fun a ha b hb => ?_⟩
      rw [List.mem_singleton.mp hb]
      intro z
      have := (hla a ha).1
      rw [z, hp] at this
      cases this
    · rcases List.mem_append.mp ha with z | z
      · have na : a ≠ p := fun e => by
          have := (hla a z).1
          rw [e, hp] at this
          cases this
        rw [updD_ne na]
        exact hla a z
      · rw [List.mem_singleton.mp z]
        refine ⟨updD_same, ?_⟩
        cases u : G1 p with
        | none => rfl
        | some o => have := hk p o u; rw [hp] at this; cases this
    · have nb : b ≠ p := fun e => by
        have := hk b o z
        rw [e, hp] at this
        cases this
      rw [updD_ne nb]
      exact hk b o z
end
end K84
set_option Elab.async false
set_option linter.all false
set_option maxRecDepth 100000
set_option maxHeartbeats 4000000
/-! k84: the pieces of a Spread. -/
namespace K84
open PySem L2 VL M84
def isMust (pt : List Rt) (N : Nat) (x : Pc) : Prop := ∃ (p : Nat) (rt : Rt), x.1 = p ∧ pt[p]? = some rt ∧ 0 < rt.1 ∧ 1 ≤ x.2 ∧ wB rt x.2 < N ∧ wE rt x.2 ≤ N
def isOther (pt : List Rt) (N : Nat) (x : Pc) : Prop := ∃ (p : Nat) (rt : Rt), x.1 = p ∧ pt[p]? = some rt ∧ 0 < rt.1 ∧ 1 ≤ x.2 ∧ wB rt x.2 < N ∧ N < wE rt x.2
theorem isMust.valid {pt : List Rt} {N : Nat} {x : Pc} (h : isMust pt N x) : Valid pt N x := by
  obtain ⟨p, rt, a, b, c, d, e, _⟩ := h
  exact ⟨p, rt, a, b, c, d, e⟩
theorem isOther.valid {pt : List Rt} {N : Nat} {x : Pc} (h : isOther pt N x) : Valid pt N x := by
  obtain ⟨p, rt, a, b, c, d, e, _⟩ := h
  exact ⟨p, rt, a, b, c, d, e⟩
theorem wB_mono {r : Rt} {t u : Int} (h0 : 0 < r.1) (h1 : 0 ≤ r.2) (ht : t ≤ u) : wB r t ≤ wB r u := by
  unfold wB
  exact Int.ediv_le_ediv h0 (Int.mul_le_mul_of_nonneg_right (by omega) h1)
def S_pieces (C : Addr) : SpD := fun ds G Q => ∃ (G0 : Hd) (sp pl : Addr) (la : List Addr) (pt : List Rt) (L : Int) (N : Nat) (f : Pl) (lots : List (List Pc)), ds = [.ref sp] ∧ SpAt C G0 sp pl la pt L N G f lots ∧
  ∀ (G' : Hd) (M O : List Pc) (lm lo : Addr), SpAt C G0 sp pl la pt L N G' f lots → G' lm = some (.lst (M.map pcD)) → G' lo = some (.lst (O.map pcD)) → M.Nodup → O.Nodup → (∀ x, x ∈ M ↔ isMust pt N x) → (∀ x, x ∈ O ↔ isOther pt N x) → Q (.tup [.ref lm, .ref lo]) G'
section
variable {P : Program} {w : World} {K : PySem.W.Frag} {mg : Str → Option Value} {base : Heap} {k : Nat}
theorem ok_pieces (T : Txt K mg) : FnA P w K mg base 2 T.f_Spread_pieces T.d_Spread_pieces ["self"] (S_pieces T.C_Spread) := by
  refine (w_Spread_pieces (k := 1) T (ok_window_begin T) (ok_window_end T) (by rintro ds G Q ⟨_, _, _, _, _, _, _, _, _, rfl, _⟩; rfl)).2 fun ds G Q h => ?_
  obtain ⟨G0, sp, pl, la, pt, L, N, f, lots, rfl, hs, q⟩ := h
  simp only [w_Spread_pieces, startD, dRet, dRetN, dAndV, dOrV, dCB, dNotV, dCons, dNil, dVar, dC, dAnd, dOr, dNot, dTest, dBin, dUn, dChain, dIfS, dSeq, dAsg, eName, dPar, dPar3, dNext, dDrop, dNever, dCont, dBreak, dCall, dCallK, dTup, dLst, dLstM, dIf, dItems, dRange1, dRange2, dEnum, dZip, dLc, dLcM, wipeD, eTup, eCons, eNil, eSub, dCut, dPart, dNoPart, dRev, dFld, dSetFld, dMake, dMeth, dBM, dDGet2, dDGet, dDIn, dDPut, dDNew, dDisp1, dLstRg2, bSub, bDiv, bMod, bPow, bLt, bLe, bGt, bGe, bI, bI0, bB0, bIsN, bNotN, VL.isNon, uNeg, List.map_cons, List.map_nil, List.length_cons, List.length_nil, List.replicate, List.cons_append, List.nil_append, List.getElem?_cons_zero, List.getElem?_cons_succ, List.set_cons_zero, List.set_cons_succ, Nat.reduceAdd, Nat.reduceSub, decide_eq_true_eq, if_true, if_false, Bool.false_eq_true, reduceIte, pick, List.filterMap_cons, List.filterMap_nil]
  refine ⟨Nat.zero_le _, fun lm glm => ⟨Nat.zero_le _, fun lo glo => ?_⟩⟩
  have sz : sizeLine = 16777216 := by decide
  have nlo : lo ≠ lm := fun e => by rw [e, updD_same] at glo; cases glo
  obtain ⟨a0, a1, a2, a3⟩ := hs.free glm
  obtain ⟨l0, l1, l2, l3⟩ := hs.free (show G lo = none by rw [updD_ne nlo] at glo; exact glo)
  generalize hG1 : updD (updD G lm (HD.lst [])) lo (HD.lst []) = G1
  have s1 : SpAt T.C_Spread G0 sp pl la pt L N G1 f lots := by rw [← hG1]; exact (hs.upd a0 a1 a2 a3).upd l0 l1 l2 l3
  have m1 : G1 lm = some (.lst []) := by rw [← hG1]; exact (updD_ne nlo.symm).trans updD_same
  have o1 : G1 lo = some (.lst []) := by rw [← hG1]; exact updD_same
  have N60 := hs.N60
  show dEnum _ _ _ _
  unfold dEnum
  simp only [s1.ins, fl_parts, seqOf, keepD, startD, dRet, dRetN, dAndV, dOrV, dCB, dNotV, dCons, dNil, dVar, dC, dAnd, dOr, dNot, dTest, dBin, dUn, dChain, dIfS, dSeq, dAsg, eName, dPar, dPar3, dNext, dDrop, dNever, dCont, dBreak, dCall, dCallK, dTup, dLst, dLstM, dIf, dItems, dRange1, dRange2, dZip, dLc, dLcM, wipeD, eTup, eCons, eNil, eSub, dCut, dPart, dNoPart, dRev, dFld, dSetFld, dMake, dMeth, dBM, dDGet2, dDGet, dDIn, dDPut, dDNew, dDisp1, dLstRg2, bSub, bDiv, bMod, bPow, bLt, bLe, bGt, bGe, bI, bI0, bB0, bIsN, bNotN, VL.isNon, uNeg, List.map_cons, List.map_nil, List.length_cons, List.length_nil, List.replicate, List.cons_append, List.nil_append, List.getElem?_cons_zero, List.getElem?_cons_succ, List.set_cons_zero, List.set_cons_succ, Nat.reduceAdd, Nat.reduceSub, decide_eq_true_eq, if_true, if_false, Bool.false_eq_true, reduceIte, pick, List.filterMap_cons, List.filterMap_nil]
  refine ⟨trivial, ?_⟩
  have small : ∀ M : List Pc, M.Nodup → (∀ x ∈ M, Valid pt N x) → M.length < 16777216 := fun M hM hv => by
    have := hM.length_le_of_subset (l₂ := box) fun x hx => (valid_facts hs (hv x hx)).1
    rw [box_len] at this
    omega
  refine loop_at (fun i δ G2 => ∃ (M O : List Pc) (p3 p4 p5 : Option D), δ = [some (.ref sp), some (.ref lm), some (.ref lo), p3, p4, p5] ∧ SpAt T.C_Spread G0 sp pl la pt L N G2 f lots ∧ G2 lm = some (.lst (M.map pcD)) ∧ G2 lo = some (.lst (O.map pcD)) ∧ M.Nodup ∧ O.Nodup ∧
    (∀ x, x ∈ M ↔ isMust pt N x ∧ x.1 < (i : Nat)) ∧ ∀ x, x ∈ O ↔ isOther pt N x ∧ x.1 < (i : Nat)) ?_ ?_ ⟨[], [], _, _, _, rfl, s1, m1, o1, List.nodup_nil, List.nodup_nil, fun x => ⟨(fun h => nomatch h), fun ⟨⟨p, _, e, _⟩, h⟩ => by omega⟩, fun x => ⟨(fun h => nomatch h), fun ⟨⟨p, _, e, _⟩, h⟩ => by omega⟩⟩
  · rintro δ G2 ⟨M, O, p3, p4, p5, rfl, s2, m2, o2, nM, nO, hM, hO⟩
    refine ⟨trivial, ?_⟩
    have hl : ∀ x, ∀ (p : Nat) (rt : Rt), x = (p : Int) → pt[p]? = some rt → x < ((enumD 0 (pt.map ratD)).length : Nat) := fun x p rt e h => by
      have := (List.getElem?_eq_some_iff.mp h).1
      rw [enumD_length, List.length_map]
      omega
    simp only [startD, dRet, dRetN, dAndV, dOrV, dCB, dNotV, dCons, dNil, dVar, dC, dAnd, dOr, dNot, dTest, dBin, dUn, dChain, dIfS, dSeq, dAsg, eName, dPar, dPar3, dNext, dDrop, dNever, dCont, dBreak, dCall, dCallK, dTup, dLst, dLstM, dIf, dFor, dWhile, dItems, dRange1, dRange2, dEnum, dZip, dLc, dLcM, wipeD, eTup, eCons, eNil, eSub, dCut, dPart, dNoPart, dRev, dFld, dSetFld, dMake, dMeth, dBM, dDGet2, dDGet, dDIn, dDPut, dDNew, dDisp1, dLstRg2, bSub, bDiv, bMod, bPow, bLt, bLe, bGt, bGe, bI, bI0, bB0, bIsN, bNotN, VL.isNon, uNeg, List.map_cons, List.map_nil, List.length_cons, List.length_nil, List.replicate, List.cons_append, List.nil_append, List.getElem?_cons_zero, List.getElem?_cons_succ, List.set_cons_zero, List.set_cons_succ, Nat.reduceAdd, Nat.reduceSub, decide_eq_true_eq, if_true, if_false, Bool.false_eq_true, reduceIte, pick, List.filterMap_cons, List.filterMap_nil]
    refine ⟨by rw [sz]; omega, q G2 M O lm lo s2 m2 o2 nM nO (fun x => ⟨fun h => ((hM x).mp h).1, fun h => (hM x).mpr ⟨h, ?_⟩⟩) fun x => ⟨fun h => ((hO x).mp h).1, fun h => (hO x).mpr ⟨h, ?_⟩⟩⟩
    · obtain ⟨p, rt, e, h1, _⟩ := h
      exact hl _ p rt e h1
    · obtain ⟨p, rt, e, h1, _⟩ := h
      exact hl _ p rt e h1
  · rintro i d δ G2 nx hd ⟨M, O, p3, p4, p5, rfl, s2, m2, o2, nM, nO, hM, hO⟩ hn
    refine ⟨trivial, ?_⟩
    obtain ⟨z, hz, rfl⟩ := enumD_get 0 i _ d hd
    rw [List.getElem?_map] at hz
    obtain ⟨rt, hrt, rfl⟩ := Option.map_eq_some_iff.mp hz
    have ro := hs.pok rt (List.mem_of_getElem? hrt)
    rw [Nat.zero_add]
    simp only [startD, dRet, dRetN, dAndV, dOrV, dCB, dNotV, dCons, dNil, dVar, dC, dAnd, dOr, dNot, dTest, dBin, dUn, dChain, dIfS, dSeq, dAsg, eName, dPar, dPar3, dNext, dDrop, dNever, dCont, dBreak, dCall, dCallK, dTup, dLst, dLstM, dIf, dFor, dItems, dRange1, dRange2, dEnum, dZip, dLc, dLcM, wipeD, eTup, eCons, eNil, eSub, dCut, dPart, dNoPart, dRev, dFld, dSetFld, dMake, dMeth, dBM, dDGet2, dDGet, dDIn, dDPut, dDNew, dDisp1, dLstRg2, bSub, bDiv, bMod, bPow, bLt, bLe, bGt, bGe, bI, bI0, bB0, bIsN, bNotN, VL.isNon, uNeg, List.map_cons, List.map_nil, List.length_cons, List.length_nil, List.replicate, List.cons_append, List.nil_append, List.getElem?_cons_zero, List.getElem?_cons_succ, List.set_cons_zero, List.set_cons_succ, Nat.reduceAdd, Nat.reduceSub, decide_eq_true_eq, if_true, if_false, Bool.false_eq_true, reduceIte, pick, List.filterMap_cons, List.filterMap_nil]
    refine ⟨trivial, ?_⟩
    refine while_ind (fun m δ G3 => ∃ (M O : List Pc) (t p3 : Int), δ = [some (.ref sp), some (.ref lm), some (.ref lo), some (.int (i : Nat)), some (ratD rt), some (.int t)] ∧ 1 ≤ t ∧ (t ≤ 61) ∧ m = (62 - t).toNat ∧ p3 = 0 ∧ SpAt T.C_Spread G0 sp pl la pt L N G3 f lots ∧ G3 lm = some (.lst (M.map pcD)) ∧ G3 lo = some (.lst (O.map pcD)) ∧ M.Nodup ∧ O.Nodup ∧
      (∀ x, x ∈ M ↔ isMust pt N x ∧ (x.1 < (i : Nat) ∨ (x.1 = (i : Nat) ∧ x.2 < t))) ∧ ∀ x, x ∈ O ↔ isOther pt N x ∧ (x.1 < (i : Nat) ∨ (x.1 = (i : Nat) ∧ x.2 < t))) ?_
      ⟨M, O, 1, 0, rfl, by omega, by omega, rfl, rfl, s2, m2, o2, nM, nO, fun x => (hM x).trans ⟨fun ⟨a, b⟩ => ⟨a, .inl b⟩, fun ⟨a, b⟩ => ⟨a, b.elim id fun ⟨_, c⟩ => by obtain ⟨_, _, _, _, _, g, _⟩ := a; omega⟩⟩, fun x => (hO x).trans ⟨fun ⟨a, b⟩ => ⟨a, .inl b⟩, fun ⟨a, b⟩ => ⟨a, b.elim id fun ⟨_, c⟩ => by obtain ⟨_, _, _, _, _, g, _⟩ := a; omega⟩⟩⟩
    rintro m δ G3 nx3 ⟨M3, O3, t, _, rfl, t1, t61, rfl, rfl, s3, m3, o3, nM3, nO3, hM3, hO3⟩ hn3
    have leave : ¬ (0 < rt.1 ∧ wB rt t < N) → nx [some (.ref sp), some (.ref lm), some (.ref lo), some (.int (i : Nat)), some (ratD rt), some (.int t)] G3 := fun hno => by
      have past : ∀ x : Pc, Valid pt N x → x.1 = (i : Nat) → x.2 < t := fun x ⟨p, r2, e1, e2, e3, e4, e5⟩ e => by
        have : p = i := by omega
        subst this
        rw [hrt] at e2
        cases e2
        apply Classical.byContradiction
        intro hc
        have := wB_mono (r := rt) (t := t) (u := x.2) e3 (by omega) (by omega)
        exact hno ⟨e3, by omega⟩
      refine hn _ _ ⟨M3, O3, _, _, _, rfl, s3, m3, o3, nM3, nO3, fun x => (hM3 x).trans ⟨fun ⟨a, b⟩ => ⟨a, by omega⟩, fun ⟨a, b⟩ => ⟨a, ?_⟩⟩, fun x => (hO3 x).trans ⟨fun ⟨a, b⟩ => ⟨a, by omega⟩, fun ⟨a, b⟩ => ⟨a, ?_⟩⟩⟩
      · by_cases e : x.1 = (i : Nat)
        · exact .inr ⟨e, past x a.valid e⟩
        · exact .inl (by omega)
      · by_cases e : x.1 = (i : Nat)
        · exact .inr ⟨e, past x a.valid e⟩
        · exact .inl (by omega)
    simp only [ratD, bIx, seqOf, at0, startD, dRet, dRetN, dAndV, dOrV, dCB, dNotV, dCons, dNil, dVar, dC, dAnd, dOr, dNot, dTest, dBin, dUn, dChain, dIfS, dSeq, dAsg, eName, dPar, dPar3, dNext, dDrop, dNever, dCont, dBreak, dCall, dCallK, dTup, dLst, dLstM, dIf, dFor, dWhile, dItems, dRange1, dRange2, dEnum, dZip, dLc, dLcM, wipeD, eTup, eCons, eNil, eSub, dCut, dPart, dNoPart, dRev, dFld, dSetFld, dMake, dMeth, dBM, dDGet2, dDGet, dDIn, dDPut, dDNew, dDisp1, dLstRg2, bSub, bDiv, bMod, bPow, bLt, bLe, bGt, bGe, bI, bI0, bB0, bIsN, bNotN, VL.isNon, uNeg, List.map_cons, List.map_nil, List.length_cons, List.length_nil, List.replicate, List.cons_append, List.nil_append, List.getElem?_cons_zero, List.getElem?_cons_succ, List.set_cons_zero, List.set_cons_succ, Nat.reduceAdd, Nat.reduceSub, decide_eq_true_eq, if_true, if_false, Bool.false_eq_true, reduceIte, pick, List.filterMap_cons, List.filterMap_nil]
    by_cases h0 : 0 < rt.1
    · rw [if_pos h0]
      refine ⟨rt, t, rfl, h0, by omega, by omega, by omega, ?_⟩
      simp only [s3.ins, fl_many, startD, dRet, dRetN, dAndV, dOrV, dCB, dNotV, dCons, dNil, dVar, dC, dAnd, dOr, dNot, dTest, dBin, dUn, dChain, dIfS, dSeq, dAsg, eName, dPar, dPar3, dNext, dDrop, dNever, dCont, dBreak, dCall, dCallK, dTup, dLst, dLstM, dIf, dFor, dWhile, dItems, dRange1, dRange2, dEnum, dZip, dLc, dLcM, wipeD, eTup, eCons, eNil, eSub, dCut, dPart, dNoPart, dRev, dFld, dSetFld, dMake, dMeth, dBM, dDGet2, dDGet, dDIn, dDPut, dDNew, dDisp1, dLstRg2, bSub, bDiv, bMod, bPow, bLt, bLe, bGt, bGe, bI, bI0, bB0, bIsN, bNotN, VL.isNon, uNeg, List.map_cons, List.map_nil, List.length_cons, List.length_nil, List.replicate, List.cons_append, List.nil_append, List.getElem?_cons_zero, List.getElem?_cons_succ, List.set_cons_zero, List.set_cons_succ, Nat.reduceAdd, Nat.reduceSub, decide_eq_true_eq, if_true, if_false, Bool.false_eq_true, reduceIte, pick, List.filterMap_cons, List.filterMap_nil]
      refine ⟨trivial, ?_⟩
      by_cases h1 : wB rt t < N
      · rw [if_pos (show (t - 1) * rt.2 / rt.1 < N from h1)]
        have vt : Valid pt N ((i : Int), t) := ⟨i, rt, rfl, hrt, h0, t1, h1⟩
        have tb := wB_le h0 ro.2.1 t1
        refine ⟨rt, t, rfl, h0, by omega, by omega, by omega, ?_⟩
        simp only [s3.ins, fl_many, bAdd, mAppend, m3, o3, startD, dRet, dRetN, dAndV, dOrV, dCB, dNotV, dCons, dNil, dVar, dC, dAnd, dOr, dNot, dTest, dBin, dUn, dChain, dIfS, dSeq, dAsg, eName, dPar, dPar3, dNext, dDrop, dNever, dCont, dBreak, dCall, dCallK, dTup, dLst, dLstM, dIf, dFor, dWhile, dItems, dRange1, dRange2, dEnum, dZip, dLc, dLcM, wipeD, eTup, eCons, eNil, eSub, dCut, dPart, dNoPart, dRev, dFld, dSetFld, dMake, dMeth, dBM, dDGet2, dDGet, dDIn, dDPut, dDNew, dDisp1, dLstRg2, bSub, bDiv, bMod, bPow, bLt, bLe, bGt, bGe, bI, bI0, bB0, bIsN, bNotN, VL.isNon, uNeg, List.map_cons, List.map_nil, List.length_cons, List.length_nil, List.replicate, List.cons_append, List.nil_append, List.getElem?_cons_zero, List.getElem?_cons_succ, List.set_cons_zero, List.set_cons_succ, Nat.reduceAdd, Nat.reduceSub, decide_eq_true_eq, if_true, if_false, Bool.false_eq_true, reduceIte, pick, List.filterMap_cons, List.filterMap_nil]
        refine ⟨trivial, ?_⟩
        have nin : ∀ {l : List Pc} {S : Pc → Prop}, (∀ x, x ∈ l ↔ S x ∧ (x.1 < (i : Nat) ∨ (x.1 = (i : Nat) ∧ x.2 < t))) → ((i : Int), t) ∉ l := fun h m => by
          have := ((h _).mp m).2
          simp at this
        by_cases h2 : wE rt t ≤ N
        · rw [if_pos (show (t * rt.2 + rt.1 - 1) / rt.1 ≤ N from h2)]
          refine ⟨⟨_, rfl⟩, by rw [sz]; omega, by rw [sz, List.length_map]; exact small M3 nM3 fun x hx => ((hM3 x).mp hx).1.valid, hn3 (62 - (t + 1)).toNat _ _ (by omega) ⟨M3 ++ [((i : Int), t)], O3, t + 1, 0, rfl, by omega, by omega, rfl, rfl, s3.upd a0 a1 a2 a3, ?_, ?_, ?_, nO3, fun x => ?_, fun x => ?_⟩⟩
          · rw [updD_same, List.map_append]; rfl
          · rw [updD_ne nlo]; exact o3
          · rw [List.nodup_append]
            refine ⟨nM3, by simp, fun a ha b hb e => ?_⟩
            rw [List.mem_singleton.mp hb] at e
            exact nin hM3 (e ▸ ha)
          · rw [List.mem_append, hM3 x, List.mem_singleton]
            constructor
            · rintro (⟨a, b⟩ | e)
              · exact ⟨a, by omega⟩
              · rw [e]
                exact ⟨⟨i, rt, rfl, hrt, h0, t1, h1, h2⟩, .inr ⟨rfl, by show t < t + 1; omega⟩⟩
            · rintro ⟨a, b⟩
              by_cases e : x.1 = (i : Nat) ∧ x.2 = t
              · exact .inr (Prod.ext e.1 e.2)
              · exact .inl ⟨a, by omega⟩
          · rw [hO3 x]
            constructor
            · rintro ⟨a, b⟩; exact ⟨a, by omega⟩
            · rintro ⟨a, b⟩
              refine ⟨a, ?_⟩
              by_cases e : x.1 = (i : Nat) ∧ x.2 = t
              · obtain ⟨p, r2, e1, e2, e3, e4, e5, e6⟩ := a
                have : p = i := by omega
                subst this
                rw [hrt] at e2
                cases e2
                rw [e.2] at e6
                omega
              · omega
        · rw [if_neg (show ¬ (t * rt.2 + rt.1 - 1) / rt.1 ≤ N from h2)]
          refine ⟨⟨_, rfl⟩, by rw [sz]; omega, by rw [sz, List.length_map]; exact small O3 nO3 fun x hx => ((hO3 x).mp hx).1.valid, hn3 (62 - (t + 1)).toNat _ _ (by omega) ⟨M3, O3 ++ [((i : Int), t)], t + 1, 0, rfl, by omega, by omega, rfl, rfl, s3.upd l0 l1 l2 l3, ?_, ?_, nM3, ?_, fun x => ?_, fun x => ?_⟩⟩
          · rw [updD_ne nlo.symm]; exact m3
          · rw [updD_same, List.map_append]; rfl
          · rw [List.nodup_append]
            refine ⟨nO3, by simp, fun a ha b hb e => ?_⟩
            rw [List.mem_singleton.mp hb] at e
            exact nin hO3 (e ▸ ha)
          · rw [hM3 x]
            constructor
            · rintro ⟨a, b⟩; exact ⟨a, by omega⟩
            · rintro ⟨a, b⟩
              refine ⟨a, ?_⟩
              by_cases e : x.1 = (i : Nat) ∧ x.2 = t
              · obtain ⟨p, r2, e1, e2, e3, e4, e5, e6⟩ := a
                have : p = i := by omega
                subst this
                rw [hrt] at e2
                cases e2
                rw [e.2] at e6
                omega
              · omega
          · rw [List.mem_append, hO3 x, List.mem_singleton]
            constructor
            · rintro (⟨a, b⟩ | e)
              · exact ⟨a, by omega⟩
              · rw [e]
                exact ⟨⟨i, rt, rfl, hrt, h0, t1, h1, by show (N : Int) < wE rt t; omega⟩, .inr ⟨rfl, by show t < t + 1; omega⟩⟩
            · rintro ⟨a, b⟩
              by_cases e : x.1 = (i : Nat) ∧ x.2 = t
              · exact .inr (Prod.ext e.1 e.2)
              · exact .inl ⟨a, by omega⟩
      · rw [if_neg (show ¬ (t - 1) * rt.2 / rt.1 < N from h1)]
        exact leave fun h => h1 h.2
    · rw [if_neg h0]
      exact leave fun h => h0 h.1
end
end K84
set_option Elab.async false
set_option linter.all false
set_option maxRecDepth 100000
set_option maxHeartbeats 4000000
/-! Sums; the mass of a piece in a round. -/
namespace M84
section
variable {α β : Type}
def sm (l : List α) (g : α → Int) : Int := (l.map g).sum
theorem sm_nil {g : α → Int} : sm [] g = 0 := rfl
theorem sm_cons {x : α} {l : List α} {g : α → Int} : sm (x :: l) g = g x + sm l g := by unfold sm; rw [List.map_cons, List.sum_cons]
theorem sm_append {l m : List α} {g : α → Int} : sm (l ++ m) g = sm l g + sm m g := by
  induction l with
  | nil => simp [sm]
  | cons x l ih => rw [List.cons_append, sm_cons, sm_cons, ih]; omega
theorem sm_le {l : List α} {g h : α → Int} (w : ∀ x ∈ l, g x ≤ h x) : sm l g ≤ sm l h := by
  induction l with
  | nil => exact Int.le_refl _
  | cons x l ih =>
    rw [sm_cons, sm_cons]
    have := w x List.mem_cons_self
    have := ih fun y hy => w y (List.mem_cons_of_mem _ hy)
    omega
theorem sm_congr {l : List α} {g h : α → Int} (w : ∀ x ∈ l, g x = h x) : sm l g = sm l h :=
  Int.le_antisymm (sm_le fun x hx => Int.le_of_eq (w x hx)) (sm_le fun x hx => Int.le_of_eq (w x hx).symm)
theorem sm_zero {l : List α} {g : α → Int} (w : ∀ x ∈ l, g x = 0) : sm l g = 0 := by
  induction l with
  | nil => rfl
  | cons x l ih => rw [sm_cons, w x List.mem_cons_self, ih fun y hy => w y (List.mem_cons_of_mem _ hy)]; rfl
theorem sm_add {l : List α} {g h : α → Int} : sm l (fun x => g x + h x) = sm l g + sm l h := by
  induction l with
  | nil => rfl
  | cons x l ih => rw [sm_cons, sm_cons, sm_cons, ih]; omega
theorem sm_mul {l : List α} {g : α → Int} {c : Int} : sm l (fun x => c * g x) = c * sm l g := by
  induction l with
  | nil => simp [sm]
  | cons x l ih => rw [sm_cons, sm_cons, ih, Int.mul_add]
theorem sm_const {l : List α} {c : Int} : sm l (fun _ => c) = c * l.length := by
  induction l with
  | nil => simp [sm]
  | cons x l ih => rw [sm_cons, ih, List.length_cons]; push_cast; rw [Int.mul_add]; omega
theorem sm_swap {l : List α} {m : List β} {g : α → β → Int} : sm l (fun x => sm m fun y => g x y) = sm m fun y => sm l fun x => g x y := by
  induction l with
  | nil => rw [sm_nil]; exact (sm_zero fun _ _ => rfl).symm
  | cons x l ih => rw [sm_cons, ih, ← sm_add]; exact sm_congr fun y _ => (sm_cons (g := fun x => g x y)).symm
theorem sm_flat {l : List α} {h : α → List β} {g : β → Int} : sm (l.flatMap h) g = sm l fun x => sm (h x) g := by
  induction l with
  | nil => rfl
  | cons x l ih => rw [List.flatMap_cons, sm_append, ih, sm_cons]
theorem sm_map {l : List α} {h : α → β} {g : β → Int} : sm (l.map h) g = sm l fun x => g (h x) := by
  unfold sm; rw [List.map_map]; rfl
theorem sm_nonneg {l : List α} {g : α → Int} (w : ∀ x ∈ l, 0 ≤ g x) : 0 ≤ sm l g := by
  have := sm_le (l := l) (g := fun _ => 0) (h := g) w
  rw [sm_const] at this
  omega
theorem sm_eq_of_le {l : List α} {g h : α → Int} (w : ∀ x ∈ l, g x ≤ h x) (e : sm l h ≤ sm l g) : ∀ x ∈ l, g x = h x := by
  induction l with
  | nil => intro x hx; cases hx
  | cons y l ih =>
    rw [sm_cons, sm_cons] at e
    have h1 := w y List.mem_cons_self
    have h2 := sm_le (l := l) fun x hx => w x (List.mem_cons_of_mem _ hx)
    intro x hx
    rcases List.mem_cons.mp hx with q | q
    · rw [q]; omega
    · exact ih (fun z hz => w z (List.mem_cons_of_mem _ hz)) (by omega) x q
end
theorem sm_tel {F : Nat → Int} : ∀ n : Nat, sm (List.range n) (fun i => F (i + 1) - F i) = F n - F 0
  | 0 => by simp [sm]
  | n + 1 => by rw [List.range_succ, sm_append, sm_tel n, sm_cons, sm_nil]; omega
theorem count_in {α : Type} [DecidableEq α] {l B : List α} (hl : l.Nodup) (hB : B.Nodup) (hs : ∀ x ∈ l, x ∈ B) : (l.length : Int) = sm B fun x => if x ∈ l then 1 else 0 := by
  have e : ∀ C : List α, sm C (fun x => if x ∈ l then (1 : Int) else 0) = ((C.filter fun x => decide (x ∈ l)).length : Int) := by
    intro C
    induction C with
    | nil => rfl
    | cons x C ih =>
      rw [sm_cons, ih]
      by_cases h : x ∈ l
      · rw [if_pos h, List.filter_cons_of_pos (by simpa using h), List.length_cons]; push_cast; omega
      · rw [if_neg h, List.filter_cons_of_neg (by simpa using h)]; omega
  rw [e]
  have n2 : (B.filter fun x => decide (x ∈ l)).Nodup := hB.filter _
  have h1 := hl.length_le_of_subset (l₂ := B.filter fun x => decide (x ∈ l)) fun x hx => List.mem_filter.mpr ⟨hs x hx, by simpa using hx⟩
  have h2 := n2.length_le_of_subset (l₂ := l) fun x hx => by simpa using (List.mem_filter.mp hx).2
  omega

/-! ### the mass of a piece -/
open K84
/-- of the t first pieces in the s first rounds -/
def ph (r : Rt) (t s : Int) : Int := min (t * r.2) (s * r.1)
def ov (r : Rt) (t s : Int) : Int := ph r t (s + 1) - ph r (t - 1) (s + 1) - ph r t s + ph r (t - 1) s
theorem ov_facts {r : Rt} {t s : Int} (ha : 0 ≤ r.1) (hb : 0 ≤ r.2) : 0 ≤ ov r t s ∧ (0 < ov r t s → s * r.1 < t * r.2 ∧ (t - 1) * r.2 < (s + 1) * r.1) := by
  unfold ov ph
  have e1 : (t - 1) * r.2 = t * r.2 - r.2 := by rw [Int.sub_mul, Int.one_mul]
  have e2 : (s + 1) * r.1 = s * r.1 + r.1 := by rw [Int.add_mul, Int.one_mul]
  rw [e1, e2]
  generalize t * r.2 = B
  generalize s * r.1 = A
  omega
theorem ov_win {r : Rt} {t s : Int} (ha : 0 < r.1) (hb : 0 ≤ r.2) (h : 0 < ov r t s) : wB r t ≤ s ∧ s < wE r t := by
  obtain ⟨h1, h2⟩ := (ov_facts (Int.le_of_lt ha) hb).2 h
  constructor
  · have : wB r t < s + 1 := by
      unfold wB
      rw [Int.ediv_lt_iff_lt_mul ha]
      exact h2
    omega
  · have : s + 1 ≤ wE r t := by
      unfold wE
      rw [Int.le_ediv_iff_mul_le ha, Int.add_mul, Int.one_mul]
      omega
    omega
theorem ov_rounds {r : Rt} {t : Int} {N : Nat} (ha : 0 ≤ r.1) (hb : 0 ≤ r.2) (ht : 1 ≤ t) : sm (List.range N) (fun s => ov r t s) = ph r t N - ph r (t - 1) N := by
  have h := sm_tel (F := fun s => ph r t s - ph r (t - 1) s) N
  have e : sm (List.range N) (fun s => ov r t s) = sm (List.range N) fun i => (fun s : Nat => ph r t s - ph r (t - 1) s) (i + 1) - (fun s : Nat => ph r t s - ph r (t - 1) s) i := by
    refine sm_congr fun s _ => ?_
    unfold ov
    push_cast
    omega
  rw [e, h]
  have h1 : 0 ≤ t * r.2 := Int.mul_nonneg (by omega) hb
  have h2 : 0 ≤ (t - 1) * r.2 := Int.mul_nonneg (by omega) hb
  have z : (ph r t ((0 : Nat) : Int) - ph r (t - 1) ((0 : Nat) : Int)) = 0 := by
    unfold ph
    simp
    omega
  omega
theorem ov_must {r : Rt} {t : Int} {N : Nat} (ha : 0 < r.1) (hb : 0 ≤ r.2) (ht : 1 ≤ t) (he : wE r t ≤ N) : sm (List.range N) (fun s => ov r t s) = r.2 := by
  rw [ov_rounds (Int.le_of_lt ha) hb ht]
  have h : t * r.2 ≤ N * r.1 := by
    unfold wE at he
    have h1 : (t * r.2 + r.1 - 1) / r.1 < (N : Int) + 1 := by omega
    rw [Int.ediv_lt_iff_lt_mul ha, Int.add_mul, Int.one_mul] at h1
    omega
  have e1 : (t - 1) * r.2 = t * r.2 - r.2 := by rw [Int.sub_mul, Int.one_mul]
  unfold ph
  rw [e1]
  omega
theorem ov_le {r : Rt} {t : Int} {N : Nat} (ha : 0 ≤ r.1) (hb : 0 ≤ r.2) (ht : 1 ≤ t) : sm (List.range N) (fun s => ov r t s) ≤ r.2 := by
  rw [ov_rounds ha hb ht]
  have e1 : (t - 1) * r.2 = t * r.2 - r.2 := by rw [Int.sub_mul, Int.one_mul]
  unfold ph
  rw [e1]
  omega
theorem ov_turns {r : Rt} {s : Int} {N : Nat} (ha : 0 ≤ r.1) (hab : r.1 ≤ r.2) (h0 : 0 ≤ s) (h1 : s < N) : sm (List.range N) (fun t => ov r ((t : Nat) + 1 : Int) s) = r.1 := by
  have h := sm_tel (F := fun t => ph r t (s + 1) - ph r t s) N
  have e : sm (List.range N) (fun t => ov r ((t : Nat) + 1 : Int) s) = sm (List.range N) fun i => (fun t : Nat => ph r t (s + 1) - ph r t s) (i + 1) - (fun t : Nat => ph r t (s + 1) - ph r t s) i := by
    refine sm_congr fun t _ => ?_
    unfold ov
    push_cast
    rw [show ((t : Int) + 1 - 1) = t by omega]
    omega
  rw [e, h]
  have b1 : (s + 1) * r.1 ≤ N * r.2 := Int.mul_le_mul (by omega) hab ha (by omega)
  have e2 : (s + 1) * r.1 = s * r.1 + r.1 := by rw [Int.add_mul, Int.one_mul]
  have b2 : 0 ≤ s * r.1 := Int.mul_nonneg h0 ha
  unfold ph
  simp
  rw [e2] at b1 ⊢
  omega
end M84
set_option Elab.async false
set_option linter.all false
set_option maxRecDepth 100000
set_option maxHeartbeats 4000000
/-! A found row of moves keeps the order. -/
namespace M84
open K84
theorem putF_comm {f : Pl} {x y : Pc} {r s : Int} (h : x ≠ y) : putF (putF f x r) y s = putF (putF f y s) x r := by
  funext z
  unfold putF
  by_cases e : z = x
  · rw [if_neg (by rw [e]; exact h), if_pos e]
    simp [e]
  · by_cases e2 : z = y
    · subst e2; simp [e]
    · simp [e, e2]
theorem putsF_out : ∀ {c : List Pc} {f : Pl} {r : Int} {y : Pc}, y ∉ c → putsF f c r y = f y
  | [], _, _, _, _ => rfl
  | d :: c, f, r, y, h => by
    have hd : y ≠ d := fun e => h (by simp [e])
    have hc : y ∉ c := fun m => h (List.mem_cons_of_mem _ m)
    unfold putsF
    cases hfd : f d with
    | some o =>
      show putsF (putF f d r) c o y = f y
      rw [putsF_out hc, putF_ne hd]
    | none => exact putF_ne hd
theorem putsF_put : ∀ {c : List Pc} {f : Pl} {r s : Int} {x : Pc}, x ∉ c → putsF (putF f x s) c r = putF (putsF f c r) x s
  | [], _, _, _, _, _ => rfl
  | d :: c, f, r, s, x, h => by
    have hd : d ≠ x := fun e => h (by simp [e])
    have hc : x ∉ c := fun m => h (List.mem_cons_of_mem _ m)
    have e : putF f x s d = f d := putF_ne hd
    unfold putsF
    rw [e]
    split
    · rw [putF_comm hd.symm, putsF_put hc]
    · exact putF_comm hd.symm
section
variable {W : Pc → Int → Prop} {wy : Pc → Int → List Pc} {f : Pl} {x0 : Pc} {h : Pc → Option (Option Pc)} {ix : Pc → Nat}
/-- where each piece of the row goes, and why -/
theorem links_to : ∀ {c : List Pc} {d : Pc} {r : Int}, links W wy f x0 h ix (d :: c) r → (d :: c).Nodup → ∀ y ∈ d :: c, ∃ t, putsF f (d :: c) r y = some t ∧ W y t ∧ f y ≠ some t ∧
    ((y = d ∧ t = r) ∨ ∃ z ∈ d :: c, h z = some (some y) ∧ f z = some t ∧ z ∈ wy y t ∧ ∀ o ∈ wy y t, ∃ w, h o = some (some w) ∧ ix w ≤ ix y)
  | [], d, r, l, n, y, hy => by
    rw [List.mem_singleton.mp hy]
    refine ⟨r, ?_, l.1, l.2.1, .inl ⟨rfl, rfl⟩⟩
    unfold putsF
    rw [l.2.2.1]
    exact putF_same
  | e :: c, d, r, ⟨l1, l2, l3, l4, o, l5, l6, l7, l8⟩, n, y, hy => by
    have nd : d ∉ e :: c := (List.nodup_cons.mp n).1
    have n2 := (List.nodup_cons.mp n).2
    have q : putsF f (d :: e :: c) r = putF (putsF f (e :: c) o) d r := by
      conv => lhs; unfold putsF
      rw [l5]
      exact putsF_put nd
    rw [q]
    by_cases hd : y = d
    · rw [hd]
      exact ⟨r, putF_same, l1, l2, .inl ⟨rfl, rfl⟩⟩
    · have hy2 : y ∈ e :: c := by
        rcases List.mem_cons.mp hy with k | k
        · exact absurd k hd
        · exact k
      obtain ⟨t, t1, t2, t3, t4⟩ := links_to l8 n2 y hy2
      refine ⟨t, by rw [putF_ne hd]; exact t1, t2, t3, .inr ?_⟩
      rcases t4 with ⟨a, b⟩ | ⟨z, z1, z2⟩
      · rw [a, b]
        exact ⟨d, List.mem_cons_self, l3, l5, l6, l7⟩
      · exact ⟨z, List.mem_cons_of_mem _ z1, z2⟩
theorem links_old : ∀ {c : List Pc} {d : Pc} {r : Int}, links W wy f x0 h ix (d :: c) r → (∀ y ∈ d :: c, y = x0 ∨ f y ≠ none) ∧ x0 ∈ d :: c
  | [], d, r, l => ⟨fun y hy => .inl (by rw [List.mem_singleton.mp hy]; exact l.2.2.2.1), by rw [l.2.2.2.1]; simp⟩
  | e :: c, d, r, ⟨_, _, _, _, o, l5, _, _, l8⟩ => by
    obtain ⟨a, b⟩ := links_old l8
    refine ⟨fun y hy => ?_, List.mem_cons_of_mem _ b⟩
    rcases List.mem_cons.mp hy with k | k
    · exact .inr (by rw [k, l5]; simp)
    · exact a y k
/-- a closed set is not touched -/
theorem links_closed {R : Pc → Prop} (cl : ∀ x, R x → ∀ r, W x r → f x = some r ∨ (wy x r ≠ [] ∧ ∀ o ∈ wy x r, R o)) : ∀ {c : List Pc} {d : Pc} {r : Int}, links W wy f x0 h ix (d :: c) r → ¬ R d → ∀ y ∈ d :: c, ¬ R y
  | [], d, r, l, hd, y, hy => by rw [List.mem_singleton.mp hy]; exact hd
  | e :: c, d, r, ⟨l1, l2, l3, l4, o, l5, l6, l7, l8⟩, hd, y, hy => by
    have he : ¬ R e := fun q => by
      have e1 : W e o ∧ f e ≠ some o := by
        cases c with
        | nil => exact ⟨l8.1, l8.2.1⟩
        | cons a b => exact ⟨l8.1, l8.2.1⟩
      rcases cl e q o e1.1 with k | k
      · exact e1.2 k
      · exact hd (k.2 d l6)
    rcases List.mem_cons.mp hy with k | k
    · rw [k]; exact hd
    · exact links_closed cl l8 he y k
end
theorem puts_cons {N : Nat} : ∀ {c : List Pc} {d : Pc} {f : Pl} {lots : List (List Pc)} {r : Int}, Cons N f lots → okTo f (d :: c) r N → (d :: c).Nodup → Cons N (putsF f (d :: c) r) (putsL f lots (d :: c) r) ∧
    ∀ (i : Nat) l, lots[i]? = some l → ∃ l', (putsL f lots (d :: c) r)[i]? = some l' ∧ (l'.length : Int) = l.length + if (i : Int) = r then 1 else 0
  | [], d, f, lots, r, hc, ok, n => by
    obtain ⟨h1, h2⟩ := okTo_ne ok
    unfold putsF putsL
    rw [ok.2]
    refine ⟨mv_cons hc h1 h2, fun i l hl => ?_⟩
    obtain ⟨l', e1, e2⟩ := mv_len hc h1 h2 hl
    refine ⟨l', e1, ?_⟩
    rw [ok.2] at e2
    simpa using e2
  | e :: c, d, f, lots, r, hc, ok, n => by
    obtain ⟨h1, h2⟩ := okTo_ne ok
    have nd := (List.nodup_cons.mp n).1
    obtain ⟨_, _, o, h3, h4⟩ := ok
    have ih := puts_cons (mv_cons hc h1 h2) (okTo_put (t := r) nd h4) (List.nodup_cons.mp n).2
    have ef : putsF f (d :: e :: c) r = putsF (putF f d r) (e :: c) o := by
      conv => lhs; unfold putsF
      rw [h3]
    have el : putsL f lots (d :: e :: c) r = putsL (putF f d r) (mvL lots f d r) (e :: c) o := by
      conv => lhs; unfold putsL
      rw [h3]
    rw [ef, el]
    refine ⟨ih.1, fun i l hl => ?_⟩
    obtain ⟨l1, e1, e2⟩ := mv_len hc h1 h2 hl
    obtain ⟨l2, e3, e4⟩ := ih.2 i l1 e1
    refine ⟨l2, e3, ?_⟩
    have s1 : (if f d = some (i : Int) then (1 : Int) else 0) = if (i : Int) = o then 1 else 0 := by
      rw [h3]
      by_cases k : (i : Int) = o
      · rw [if_pos k, if_pos (by rw [k])]
      · rw [if_neg k, if_neg (fun z => k (Option.some.inj z).symm)]
    rw [e4, e2, s1]
    omega

/-! ### a state in order -/
structure Ord (pt : List Rt) (L : Int) (N : Nat) (f : Pl) (lots : List (List Pc)) : Prop where
  cons : Cons N f lots
  win : ∀ x r, f x = some r → inWin pt N x r
  uniq : ∀ x y r, f x = some r → f y = some r → x.1 = y.1 → x = y
  lens : ∀ (i : Nat) l, lots[i]? = some l → (l.length : Int) ≤ L
def ClosedP (pt : List Rt) (L : Int) (N : Nat) (f : Pl) (lots : List (List Pc)) (R : Pc → Prop) : Prop := ∀ x, R x → ∀ r, inWin pt N x r → f x = some r ∨ (wyL lots L x r ≠ [] ∧ ∀ o ∈ wyL lots L x r, R o)
section
variable {pt : List Rt} {L : Int} {N : Nat} {f : Pl} {lots : List (List Pc)}
theorem Ord.lot (o : Ord pt L N f lots) {r : Int} (h : 0 ≤ r ∧ r < N) : ∃ l, lots[r.toNat]? = some l ∧ (∀ x, x ∈ l ↔ f x = some r) ∧ ∀ x, wyL lots L x r = way x l L := by
  have hl : r.toNat < lots.length := by rw [o.cons.len]; omega
  refine ⟨lots[r.toNat], List.getElem?_eq_getElem hl, fun x => ?_, fun x => ?_⟩
  · rw [o.cons.iff r.toNat _ (List.getElem?_eq_getElem hl) x, Int.toNat_of_nonneg h.1]
  · unfold wyL
    rw [getD_of (List.getElem?_eq_getElem hl)]
/-- the two shapes of what stands in the way -/
theorem way_cases (x : Pc) (l : List Pc) (L : Int) : ((∃ o ∈ l, o.1 = x.1) ∧ ∀ o, o ∈ way x l L ↔ o ∈ l ∧ o.1 = x.1) ∨ ((¬ ∃ o ∈ l, o.1 = x.1) ∧ L ≤ l.length ∧ way x l L = l) ∨ ((¬ ∃ o ∈ l, o.1 = x.1) ∧ ¬ L ≤ l.length ∧ way x l L = []) := by
  unfold way
  by_cases e : l.filter (fun o => decide (o.1 = x.1)) = []
  · have n : ¬ ∃ o ∈ l, o.1 = x.1 := fun ⟨o, h1, h2⟩ => by
      have : o ∈ l.filter (fun o => decide (o.1 = x.1)) := List.mem_filter.mpr ⟨h1, by simpa using h2⟩
      rw [e] at this
      cases this
    rw [if_neg (fun z => z e)]
    by_cases k : L ≤ (l.length : Int)
    · rw [if_pos k]; exact .inr (.inl ⟨n, k, rfl⟩)
    · rw [if_neg k]; exact .inr (.inr ⟨n, k, rfl⟩)
  · rw [if_pos e]
    obtain ⟨o, ho⟩ := List.exists_mem_of_ne_nil _ e
    have := List.mem_filter.mp ho
    exact .inl ⟨⟨o, this.1, by simpa using this.2⟩, fun o => by rw [List.mem_filter]; simp⟩
variable {x0 c : Pc} {ch : List Pc} {r : Int} {h : Pc → Option (Option Pc)} {ix : Pc → Nat}
/-- a found row keeps the order -/
theorem Ord.moved (o : Ord pt L N f lots) (lk : links (inWin pt N) (wyL lots L) f x0 h ix (c :: ch) r) (nd : (c :: ch).Nodup) (hL : 0 < L) (h0 : f x0 = none) (hw : wyL lots L c r = []) (hinj : ∀ x ∈ c :: ch, ∀ y ∈ c :: ch, ix x = ix y → x = y) : Ord pt L N (putsF f (c :: ch) r) (putsL f lots (c :: ch) r) ∧
    (∀ x, putsF f (c :: ch) r x ≠ none ↔ (f x ≠ none ∨ x = x0)) ∧ ∀ R : Pc → Prop, ClosedP pt L N f lots R → ClosedP pt L N (putsF f (c :: ch) r) (putsL f lots (c :: ch) r) R := by
  have rng : ∀ y t, inWin pt N y t → 0 ≤ t ∧ t < N := fun y t ⟨_, _, _, _, _, _, _, h1, h2⟩ => ⟨h2, h1⟩
  have ok := links_ok (h := h) (ix := ix) rng lk
  obtain ⟨pc, pl⟩ := puts_cons o.cons ok nd
  have to := links_to lk nd
  have hcr : inWin pt N c r ∧ f c ≠ some r := by
    cases ch with
    | nil => exact ⟨lk.1, lk.2.1⟩
    | cons a b => exact ⟨lk.1, lk.2.1⟩
  obtain ⟨lr, lr1, lr2, lr3⟩ := o.lot (rng c r hcr.1)
  have out : ∀ y, y ∉ c :: ch → putsF f (c :: ch) r y = f y := fun y hy => putsF_out hy
  -- the first piece of the row finds room
  have room : (¬ ∃ z ∈ lr, z.1 = c.1) ∧ ¬ L ≤ lr.length := by
    rw [lr3] at hw
    rcases way_cases c lr L with ⟨⟨z, z1, z2⟩, q⟩ | ⟨n, k, q⟩ | ⟨n, k, _⟩
    · have := (q z).mpr ⟨z1, z2⟩
      rw [hw] at this
      cases this
    · rw [hw] at q
      rw [← q] at k
      simp at k
      omega
    · exact ⟨n, k⟩
  -- where a moved piece goes nothing else of its position stands
  have key : ∀ y t, y ∈ c :: ch → putsF f (c :: ch) r y = some t → inWin pt N y t ∧ f y ≠ some t ∧ ((y = c ∧ t = r) ∨ ∃ z ∈ c :: ch, h z = some (some y) ∧ f z = some t ∧ z ∈ wyL lots L y t ∧ ∀ o ∈ wyL lots L y t, ∃ w, h o = some (some w) ∧ ix w ≤ ix y) := fun y t hy ht => by
    obtain ⟨t', t1, t2, t3, t4⟩ := to y hy
    rw [ht] at t1
    cases t1
    exact ⟨t2, t3, t4⟩
  have uniqM : ∀ x y t, x ∈ c :: ch → putsF f (c :: ch) r x = some t → putsF f (c :: ch) r y = some t → x.1 = y.1 → x = y := by
    intro x y t hx hxt hyt hxy
    obtain ⟨wx, nx, kx⟩ := key x t hx hxt
    obtain ⟨lt, lt1, lt2, lt3⟩ := o.lot (rng x t wx)
    by_cases hy : y ∈ c :: ch
    · obtain ⟨wy', ny, ky⟩ := key y t hy hyt
      rcases kx with ⟨a1, a2⟩ | ⟨z, z1, z2, z3, z4, z5⟩
      · rcases ky with ⟨b1, b2⟩ | ⟨u, u1, u2, u3, u4, u5⟩
        · rw [a1, b1]
        · -- y has a child at t = r, but the round has room and none of the position
          exfalso
          rw [a2] at lt1
          rw [lr1] at lt1
          cases lt1
          rw [lt3] at u4
          rcases way_cases y lr L with ⟨⟨v, v1, v2⟩, _⟩ | ⟨_, k, _⟩ | ⟨_, _, q⟩
          · exact room.1 ⟨v, v1, by rw [v2, ← hxy, a1]⟩
          · exact room.2 k
          · rw [q] at u4; cases u4
      · rcases ky with ⟨b1, b2⟩ | ⟨u, u1, u2, u3, u4, u5⟩
        · exfalso
          rw [b2] at lt1
          rw [lr1] at lt1
          cases lt1
          rw [lt3] at z4
          rcases way_cases x lr L with ⟨⟨v, v1, v2⟩, _⟩ | ⟨_, k, _⟩ | ⟨_, _, q⟩
          · exact room.1 ⟨v, v1, by rw [v2, hxy, b1]⟩
          · exact room.2 k
          · rw [q] at z4; cases z4
        · rw [lt3] at z4 u4 z5 u5
          rcases way_cases x lt L with ⟨_, q⟩ | ⟨n, k, q⟩ | ⟨_, _, q⟩
          · have q1 := (q z).mp z4
            rcases way_cases y lt L with ⟨_, q'⟩ | ⟨n', _, _⟩ | ⟨_, _, q'⟩
            · have q2 := (q' u).mp u4
              have e : z = u := o.uniq z u t ((lt2 z).mp q1.1) ((lt2 u).mp q2.1) (by rw [q1.2, q2.2, hxy])
              rw [e, u2] at z2
              cases z2
              rfl
            · exact absurd ⟨z, q1.1, by rw [q1.2, hxy]⟩ n'
            · rw [q'] at u4; cases u4
          · have q2 : way y lt L = lt := by
              rcases way_cases y lt L with ⟨⟨v, v1, v2⟩, _⟩ | ⟨_, _, q'⟩ | ⟨_, k', _⟩
              · exact absurd ⟨v, v1, by rw [v2, hxy]⟩ n
              · exact q'
              · exact absurd k k'
            rw [q] at z4 z5
            rw [q2] at u4 u5
            obtain ⟨w1, w2, w3⟩ := z5 u u4
            obtain ⟨v1, v2, v3⟩ := u5 z z4
            rw [u2] at w2
            cases w2
            rw [z2] at v2
            cases v2
            -- equal ranks
            apply Classical.byContradiction
            intro hne
            have hix : ix x = ix y := by omega
            exact hne (hinj x hx y hy hix)
          · rw [q] at z4; cases z4
    · rw [out y hy] at hyt
      exfalso
      have hyl : y ∈ lt := (lt2 y).mpr hyt
      rcases kx with ⟨a1, a2⟩ | ⟨z, z1, z2, z3, z4, z5⟩
      · rw [a2] at lt1
        rw [lr1] at lt1
        cases lt1
        exact room.1 ⟨y, hyl, by rw [← hxy, a1]⟩
      · rw [lt3] at z4
        rcases way_cases x lt L with ⟨_, q⟩ | ⟨n, k, q⟩ | ⟨_, _, q⟩
        · have q1 := (q z).mp z4
          have e : z = y := o.uniq z y t ((lt2 z).mp q1.1) hyt (by rw [q1.2, hxy])
          exact hy (e ▸ z1)
        · exact n ⟨y, hyl, hxy.symm⟩
        · rw [q] at z4; cases z4
  have old := links_old lk
  refine ⟨⟨pc, fun x t hx => ?_, fun x y t hx hy hxy => ?_, fun i l hl => ?_⟩, fun x => ?_, fun R cl => ?_⟩
  · by_cases hm : x ∈ c :: ch
    · exact (key x t hm hx).1
    · rw [out x hm] at hx
      exact o.win x t hx
  · by_cases hm : x ∈ c :: ch
    · exact uniqM x y t hm hx hy hxy
    · by_cases hm2 : y ∈ c :: ch
      · exact (uniqM y x t hm2 hy hx hxy.symm).symm
      · rw [out x hm] at hx
        rw [out y hm2] at hy
        exact o.uniq x y t hx hy hxy
  · have hi : i < lots.length := by
      have := (List.getElem?_eq_some_iff.mp hl).1
      rw [pc.len] at this
      rw [o.cons.len]
      exact this
    obtain ⟨l', e1, e2⟩ := pl i _ (List.getElem?_eq_getElem hi)
    rw [hl] at e1
    cases e1
    by_cases k : (i : Int) = r
    · have : lots[i] = lr := by
        have := lr1
        rw [show r.toNat = i by omega, List.getElem?_eq_getElem hi] at this
        exact Option.some.inj this
      rw [if_pos k, this] at e2
      have := room.2
      omega
    · rw [if_neg k] at e2
      have := o.lens i _ (List.getElem?_eq_getElem hi)
      omega
  · by_cases hm : x ∈ c :: ch
    · obtain ⟨t, t1, _⟩ := to x hm
      rw [t1]
      constructor
      · intro _
        rcases old.1 x hm with q | q
        · exact .inr q
        · exact .inl q
      · intro _; simp
    · rw [out x hm]
      constructor
      · exact .inl
      · rintro (q | q)
        · exact q
        · exact absurd (q ▸ old.2) hm
  · have hcR : ¬ R c := fun q => by
      rcases cl c q r hcr.1 with k | k
      · exact hcr.2 k
      · exact k.1 hw
    have nR := links_closed (h := h) (ix := ix) (x0 := x0) cl lk hcR
    have keep : ∀ y, R y → putsF f (c :: ch) r y = f y := fun y hy => out y fun m => nR y m hy
    intro x hx s hs
    rw [keep x hx]
    rcases cl x hx s hs with k | ⟨k1, k2⟩
    · exact .inl k
    · refine .inr ?_
      obtain ⟨l, l1, l2, l3⟩ := o.lot (rng x s hs)
      rw [l3] at k1 k2
      have hi : s.toNat < lots.length := (List.getElem?_eq_some_iff.mp l1).1
      obtain ⟨l', e1, e2⟩ := pl s.toNat l l1
      have m' : ∀ y, y ∈ l' ↔ putsF f (c :: ch) r y = some s := fun y => by
        rw [pc.iff s.toNat l' e1 y, Int.toNat_of_nonneg (rng x s hs).1]
      have e3 : wyL (putsL f lots (c :: ch) r) L x s = way x l' L := by
        unfold wyL
        rw [getD_of e1]
      rw [e3]
      rcases way_cases x l L with ⟨⟨v, v1, v2⟩, q⟩ | ⟨n, kk, q⟩ | ⟨_, _, q⟩
      · have vR := k2 v ((q v).mpr ⟨v1, v2⟩)
        have v' : v ∈ l' := (m' v).mpr (by rw [keep v vR]; exact (l2 v).mp v1)
        rcases way_cases x l' L with ⟨_, q'⟩ | ⟨n', _, _⟩ | ⟨n', _, _⟩
        · refine ⟨fun z => ?_, fun u hu => ?_⟩
          · have := (q' v).mpr ⟨v', v2⟩
            rw [z] at this
            cases this
          · obtain ⟨u1, u2⟩ := (q' u).mp hu
            have hu' := (m' u).mp u1
            by_cases hm : u ∈ c :: ch
            · have := uniqM u v s hm hu' ((m' v).mp v') (by rw [u2, v2])
              exact absurd vR (nR v (this ▸ hm))
            · rw [out u hm] at hu'
              exact k2 u ((q u).mpr ⟨(l2 u).mpr hu', u2⟩)
        · exact absurd ⟨v, v', v2⟩ n'
        · exact absurd ⟨v, v', v2⟩ n'
      · rw [q] at k1 k2
        -- the round is full of R: nothing came, nothing went
        have same : ∀ y, y ∈ l' ↔ y ∈ l := fun y => by
          rw [m', l2]
          constructor
          · intro hy
            by_cases hm : y ∈ c :: ch
            · exfalso
              obtain ⟨wy', ny, ky⟩ := key y s hm hy
              rcases ky with ⟨_, b2⟩ | ⟨u, u1, _, u3, _⟩
              · rw [← b2] at lr1
                rw [l1] at lr1
                cases lr1
                exact room.2 kk
              · exact nR u u1 (k2 u ((l2 u).mpr u3))
            · rw [out y hm] at hy; exact hy
          · intro hy
            rw [keep y (k2 y ((l2 y).mpr hy))]
            exact hy
        have nl := o.cons.nd s.toNat l l1
        have nl' := pc.nd s.toNat l' e1
        have le1 := nl.length_le_of_subset (l₂ := l') fun y hy => (same y).mpr hy
        rcases way_cases x l' L with ⟨⟨v, v1, v2⟩, _⟩ | ⟨_, _, q'⟩ | ⟨_, k', _⟩
        · exact absurd ⟨v, (same v).mp v1, v2⟩ n
        · rw [q']
          refine ⟨fun z => ?_, fun u hu => k2 u ((same u).mp hu)⟩
          apply k1
          rw [z] at same
          exact List.eq_nil_iff_forall_not_mem.mpr fun y hy => by have := (same y).mpr hy; cases this
        · exact absurd (show L ≤ (l'.length : Int) by omega) k'
      · exact absurd q k1
end
end M84
set_option Elab.async false
set_option linter.all false
set_option maxRecDepth 100000
set_option maxHeartbeats 4000000
/-! The counting: a must never fails; at the end every round is full. -/
namespace M84
open K84 Classical
def BB (n N : Nat) : List Pc := (List.range n).flatMap fun (p : Nat) => (List.range N).map fun (t : Nat) => (((p : Int), (t : Int) + 1) : Pc)
theorem BB_mem {n N : Nat} {x : Pc} : x ∈ BB n N ↔ 0 ≤ x.1 ∧ x.1 < n ∧ 1 ≤ x.2 ∧ x.2 ≤ N := by
  unfold BB
  rw [List.mem_flatMap]
  constructor
  · rintro ⟨p, hp, h⟩
    obtain ⟨t, ht, rfl⟩ := List.mem_map.mp h
    have := List.mem_range.mp hp
    have := List.mem_range.mp ht
    refine ⟨by omega, by omega, ?_, ?_⟩
    · show (1 : Int) ≤ (t : Int) + 1; omega
    · show (t : Int) + 1 ≤ N; omega
  · rintro ⟨a, b, c, d⟩
    refine ⟨x.1.toNat, List.mem_range.mpr (by omega), List.mem_map.mpr ⟨(x.2 - 1).toNat, List.mem_range.mpr (by omega), ?_⟩⟩
    refine Prod.ext ?_ ?_
    · show ((x.1.toNat : Nat) : Int) = x.1; omega
    · show (((x.2 - 1).toNat : Nat) : Int) + 1 = x.2; omega
theorem BB_nodup (n N : Nat) : (BB n N).Nodup := by
  unfold BB List.Nodup
  rw [List.pairwise_flatMap]
  refine ⟨fun p _ => ?_, ?_⟩
  · rw [List.pairwise_map]
    refine List.Pairwise.imp (fun {a b} h e => ?_) (List.nodup_range (n := N))
    injection e with _ e
    exact h (by omega)
  · refine List.Pairwise.imp (fun {a b} h x hx y hy e => ?_) (List.nodup_range (n := n))
    obtain ⟨t, _, rfl⟩ := List.mem_map.mp hx
    obtain ⟨u, _, rfl⟩ := List.mem_map.mp hy
    injection e with e _
    exact h (by omega)
theorem sm_BB {n N : Nat} {g : Pc → Int} : sm (BB n N) g = sm (List.range n) fun p => sm (List.range N) fun t => g ((p : Int), (t : Int) + 1) := by
  unfold BB
  rw [sm_flat]
  exact sm_congr fun p _ => sm_map
structure Geo (pt : List Rt) (L : Int) (N : Nat) (U : Int) : Prop where
  U0 : 0 < U
  pok : ∀ r ∈ pt, 0 ≤ r.1 ∧ r.1 < r.2 ∧ r.2 ∣ U
  tot : sm pt (fun r => r.1 * (U / r.2)) = L * U
def mu (pt : List Rt) (U : Int) (x : Pc) (r : Int) : Int := match pt[x.1.toNat]? with
  | some rt => ov rt x.2 r * (U / rt.2)
  | none => 0
theorem sm_idx {α : Type} {g : α → Int} : ∀ (l : List α) (k : Nat → Int), (∀ (i : Nat) x, l[i]? = some x → k i = g x) → sm (List.range l.length) k = sm l g
  | [], k, _ => rfl
  | x :: l, k, h => by
    rw [List.length_cons, List.range_succ_eq_map, sm_cons, sm_cons, sm_map, h 0 x rfl, sm_idx l (fun i => k (i + 1)) fun i y hy => h (i + 1) y (by simpa using hy)]
section
variable {pt : List Rt} {L : Int} {N : Nat} {U : Int} {f : Pl} {lots : List (List Pc)}
theorem Geo.unit (g : Geo pt L N U) {r : Rt} (h : r ∈ pt) : 0 < U / r.2 ∧ r.2 * (U / r.2) = U ∧ 0 < r.2 := by
  obtain ⟨a, b, c⟩ := g.pok r h
  have e := Int.mul_ediv_cancel' c
  refine ⟨?_, e, by omega⟩
  have U0 := g.U0
  apply Classical.byContradiction
  intro hn
  have := Int.mul_le_mul_of_nonneg_left (show U / r.2 ≤ 0 by omega) (show 0 ≤ r.2 by omega)
  rw [e, Int.mul_zero] at this
  omega
theorem mu_nonneg (g : Geo pt L N U) (x : Pc) (r : Int) : 0 ≤ mu pt U x r := by
  unfold mu
  split
  · rename_i rt e
    have m := List.mem_of_getElem? e
    exact Int.mul_nonneg (ov_facts (g.pok rt m).1 (by have := g.pok rt m; omega)).1 (Int.le_of_lt (g.unit m).1)
  · exact Int.le_refl _
theorem mu_win (g : Geo pt L N U) {x : Pc} {r : Int} (hx : x ∈ BB pt.length N) (hr : 0 ≤ r ∧ r < N) (h : 0 < mu pt U x r) : inWin pt N x r := by
  have hb := BB_mem.mp hx
  unfold mu at h
  split at h
  · rename_i rt e
    have m := List.mem_of_getElem? e
    have pk := g.pok rt m
    have o0 : 0 < ov rt x.2 r := by
      have o1 := (ov_facts (r := rt) (t := x.2) (s := r) pk.1 (by omega)).1
      apply Classical.byContradiction
      intro hn
      have : ov rt x.2 r = 0 := by omega
      rw [this, Int.zero_mul] at h
      omega
    have a0 : 0 < rt.1 := by
      apply Classical.byContradiction
      intro hn
      have e0 : rt.1 = 0 := by omega
      have f := (ov_facts (r := rt) (t := x.2) (s := r) pk.1 (by omega)).2 o0
      rw [e0, Int.mul_zero, Int.mul_zero] at f
      have : 0 ≤ (x.2 - 1) * rt.2 := Int.mul_nonneg (by omega) (by omega)
      omega
    obtain ⟨w1, w2⟩ := ov_win a0 (by omega) o0
    exact ⟨x.1.toNat, rt, by omega, e, a0, w1, w2, hr.2, hr.1⟩
  · omega
theorem mu_at {p : Nat} {rt : Rt} (e : pt[p]? = some rt) (t r : Int) : mu pt U ((p : Int), t) r = ov rt t r * (U / rt.2) := by
  unfold mu
  show (match pt[((p : Int)).toNat]? with | some rt => ov rt t r * (U / rt.2) | none => 0) = _
  rw [Int.toNat_natCast, e]
theorem mul_sm {α : Type} {l : List α} {g : α → Int} {c : Int} : sm l (fun x => g x * c) = sm l g * c := by
  rw [Int.mul_comm, ← sm_mul]
  exact sm_congr fun x _ => Int.mul_comm _ _
/-- a position's share of a round -/
theorem mu_turns (g : Geo pt L N U) {p : Nat} {rt : Rt} (e : pt[p]? = some rt) {r : Int} (hr : 0 ≤ r ∧ r < N) : sm (List.range N) (fun t => mu pt U ((p : Int), (t : Int) + 1) r) = rt.1 * (U / rt.2) := by
  have pk := g.pok rt (List.mem_of_getElem? e)
  rw [← ov_turns (N := N) pk.1 (by omega) hr.1 hr.2, ← mul_sm]
  exact sm_congr fun t _ => mu_at e _ _
theorem mu_round (g : Geo pt L N U) {r : Int} (hr : 0 ≤ r ∧ r < N) : sm (BB pt.length N) (fun x => mu pt U x r) = L * U := by
  rw [sm_BB, ← g.tot]
  refine sm_idx pt _ fun i x hx => mu_turns g hx hr
theorem mu_piece (g : Geo pt L N U) {x : Pc} (hx : x ∈ BB pt.length N) : sm (List.range N) (fun r => mu pt U x r) ≤ U ∧ (isMust pt N x → sm (List.range N) (fun r => mu pt U x r) = U) := by
  have hb := BB_mem.mp hx
  have hl : x.1.toNat < pt.length := by omega
  have e : pt[x.1.toNat]? = some pt[x.1.toNat] := List.getElem?_eq_getElem hl
  have m := List.mem_of_getElem? e
  have pk := g.pok _ m
  obtain ⟨u0, u1, u2⟩ := g.unit m
  have em : sm (List.range N) (fun r : Nat => mu pt U x (r : Int)) = sm (List.range N) (fun r : Nat => ov pt[x.1.toNat] x.2 (r : Int)) * (U / pt[x.1.toNat].2) := by
    rw [← mul_sm]
    refine sm_congr fun r _ => ?_
    unfold mu
    rw [e]
  rw [em]
  refine ⟨?_, fun hm => ?_⟩
  · calc _ ≤ pt[x.1.toNat].2 * (U / pt[x.1.toNat].2) := Int.mul_le_mul_of_nonneg_right (ov_le pk.1 (by omega) hb.2.2.1) (Int.le_of_lt u0)
      _ = U := u1
  · obtain ⟨p, rt, e1, e2, e3, e4, e5, e6⟩ := hm
    have : p = x.1.toNat := by omega
    subst this
    rw [e] at e2
    cases e2
    rw [ov_must e3 (by omega) e4 e6]
    exact u1
theorem valid_BB (hp : ∀ r ∈ pt, 0 ≤ r.1 ∧ r.1 < r.2 ∧ r.2 ∣ U) {x : Pc} (v : Valid pt N x) : x ∈ BB pt.length N := by
  obtain ⟨p, rt, e1, e2, e3, e4, e5⟩ := v
  have pk := hp rt (List.mem_of_getElem? e2)
  have := wB_le e3 pk.2.1 e4
  have := (List.getElem?_eq_some_iff.mp e2).1
  exact BB_mem.mpr ⟨by omega, by omega, e4, by omega⟩
theorem win_BB (hp : ∀ r ∈ pt, 0 ≤ r.1 ∧ r.1 < r.2 ∧ r.2 ∣ U) {x : Pc} {r : Int} (w : inWin pt N x r) (h1 : 1 ≤ x.2) : x ∈ BB pt.length N := by
  obtain ⟨p, rt, e1, e2, e3, e4, e5, e6, e7⟩ := w
  exact valid_BB hp ⟨p, rt, e1, e2, e3, h1, by omega⟩
end
end M84
set_option Elab.async false
set_option linter.all false
set_option maxRecDepth 100000
set_option maxHeartbeats 4000000
/-! A must never fails; at the end every round is full. -/
namespace M84
open K84 Classical
theorem sm_ge {α : Type} {l : List α} {g : α → Int} (w : ∀ x ∈ l, 0 ≤ g x) {x : α} (hx : x ∈ l) : g x ≤ sm l g := by
  induction l with
  | nil => cases hx
  | cons y l ih =>
    rw [sm_cons]
    have h1 := w y List.mem_cons_self
    have h2 := sm_nonneg (l := l) fun z hz => w z (List.mem_cons_of_mem _ hz)
    rcases List.mem_cons.mp hx with q | q
    · rw [q]; omega
    · have := ih (fun z hz => w z (List.mem_cons_of_mem _ hz)) q
      omega
theorem sm_one {t : Int} : ∀ N : Nat, sm (List.range N) (fun r : Nat => if (r : Int) = t then (1 : Int) else 0) = if 0 ≤ t ∧ t < N then 1 else 0
  | 0 => by rw [if_neg (by omega)]; rfl
  | N + 1 => by
    rw [List.range_succ, sm_append, sm_one N, sm_cons, sm_nil]
    by_cases e : (N : Int) = t
    · rw [if_pos e, if_neg (by omega), if_pos (by omega)]; rfl
    · rw [if_neg e]
      by_cases k : 0 ≤ t ∧ t < N
      · rw [if_pos k, if_pos (by omega)]; rfl
      · rw [if_neg k, if_neg (by omega)]; rfl
section
variable {pt : List Rt} {L : Int} {N : Nat} {U : Int} {f : Pl} {lots : List (List Pc)} {R : Pc → Prop}
theorem round_ineq (g : Geo pt L N U) (o : Ord pt L N f lots) (hv : ∀ x r, f x = some r → Valid pt N x) (cl : ClosedP pt L N f lots R) {r : Int} (hr : 0 ≤ r ∧ r < N) :
    sm (BB pt.length N) (fun x => if R x then mu pt U x r else 0) ≤ U * sm (BB pt.length N) (fun x => if R x ∧ f x = some r then 1 else 0) := by
  obtain ⟨l, l1, l2, l3⟩ := o.lot hr
  have U0 := g.U0
  by_cases hA : ∃ X, R X ∧ inWin pt N X r ∧ f X ≠ some r ∧ ¬ ∃ z ∈ l, z.1 = X.1
  · obtain ⟨X, a1, a2, a3, a4⟩ := hA
    rcases cl X a1 r a2 with k | ⟨k1, k2⟩
    · exact absurd k a3
    · rw [l3] at k1 k2
      rcases way_cases X l L with ⟨q, _⟩ | ⟨_, kL, q⟩ | ⟨_, _, q⟩
      · exact absurd q a4
      · rw [q] at k2
        have e : sm (BB pt.length N) (fun x => if R x ∧ f x = some r then (1 : Int) else 0) = l.length := by
          rw [count_in (o.cons.nd _ l l1) (BB_nodup pt.length N) fun x hx => valid_BB g.pok (hv x r ((l2 x).mp hx))]
          refine sm_congr fun x _ => ?_
          by_cases m : x ∈ l
          · rw [if_pos ⟨k2 x m, (l2 x).mp m⟩, if_pos m]
          · rw [if_neg (fun z => m ((l2 x).mpr z.2)), if_neg m]
        rw [e]
        have h1 : sm (BB pt.length N) (fun x => if R x then mu pt U x r else 0) ≤ sm (BB pt.length N) fun x => mu pt U x r := sm_le fun x _ => by
          split
          · exact Int.le_refl _
          · exact mu_nonneg g x r
        rw [mu_round g hr] at h1
        have := Int.mul_le_mul_of_nonneg_left kL (Int.le_of_lt U0)
        rw [Int.mul_comm L U] at h1
        omega
      · exact absurd q k1
  · rw [sm_BB, sm_BB, ← sm_mul]
    refine sm_le fun p hp => ?_
    have hp' := List.mem_range.mp hp
    have e : pt[p]? = some pt[p] := List.getElem?_eq_getElem hp'
    have m := List.mem_of_getElem? e
    have pk := g.pok _ m
    obtain ⟨u0, u1, u2⟩ := g.unit m
    have nn : 0 ≤ sm (List.range N) fun t : Nat => if R ((p : Int), (t : Int) + 1) ∧ f ((p : Int), (t : Int) + 1) = some r then (1 : Int) else 0 := sm_nonneg fun t _ => by split <;> omega
    by_cases hz : ∃ t ∈ List.range N, R ((p : Int), (t : Int) + 1) ∧ 0 < mu pt U ((p : Int), (t : Int) + 1) r
    · obtain ⟨t, ht, hR, hm⟩ := hz
      have ht' := List.mem_range.mp ht
      have inB : ((p : Int), (t : Int) + 1) ∈ BB pt.length N := BB_mem.mpr ⟨by show (0 : Int) ≤ p; omega, by show (p : Int) < pt.length; omega, by show (1 : Int) ≤ (t : Int) + 1; omega, by show (t : Int) + 1 ≤ N; omega⟩
      have hw := mu_win g inB hr hm
      have hY : ∃ Y, R Y ∧ Y.1 = (p : Int) ∧ f Y = some r := by
        rcases cl _ hR r hw with k | ⟨k1, k2⟩
        · exact ⟨_, hR, rfl, k⟩
        · by_cases hf : f ((p : Int), (t : Int) + 1) = some r
          · exact ⟨_, hR, rfl, hf⟩
          · have hex : ∃ z ∈ l, z.1 = (((p : Int), (t : Int) + 1) : Pc).1 := Classical.byContradiction fun hn => hA ⟨_, hR, hw, hf, hn⟩
            rw [l3] at k2
            rcases way_cases ((p : Int), (t : Int) + 1) l L with ⟨_, q⟩ | ⟨n, _, _⟩ | ⟨n, _, _⟩
            · obtain ⟨z, z1, z2⟩ := hex
              exact ⟨z, k2 z ((q z).mpr ⟨z1, z2⟩), z2, (l2 z).mp z1⟩
            · exact absurd hex n
            · exact absurd hex n
      obtain ⟨Y, y1, y2, y3⟩ := hY
      have yB := BB_mem.mp (valid_BB g.pok (hv Y r y3))
      have one : (1 : Int) ≤ sm (List.range N) fun t : Nat => if R ((p : Int), (t : Int) + 1) ∧ f ((p : Int), (t : Int) + 1) = some r then (1 : Int) else 0 := by
        have h := sm_ge (l := List.range N) (g := fun t : Nat => if R ((p : Int), (t : Int) + 1) ∧ f ((p : Int), (t : Int) + 1) = some r then (1 : Int) else 0) (fun t _ => by split <;> omega) (x := (Y.2 - 1).toNat) (List.mem_range.mpr (by omega))
        have eY : ((p : Int), (((Y.2 - 1).toNat : Nat) : Int) + 1) = Y := Prod.ext y2.symm (by show (((Y.2 - 1).toNat : Nat) : Int) + 1 = Y.2; omega)
        rw [eY, if_pos ⟨y1, y3⟩] at h
        exact h
      have h1 : sm (List.range N) (fun t : Nat => if R ((p : Int), (t : Int) + 1) then mu pt U ((p : Int), (t : Int) + 1) r else 0) ≤ sm (List.range N) fun t : Nat => mu pt U ((p : Int), (t : Int) + 1) r := sm_le fun t _ => by
        split
        · exact Int.le_refl _
        · exact mu_nonneg g _ r
      rw [mu_turns g e hr] at h1
      have h2 := Int.mul_le_mul_of_nonneg_right (Int.le_of_lt pk.2.1) (Int.le_of_lt u0)
      have h3 := Int.mul_le_mul_of_nonneg_left one (Int.le_of_lt U0)
      omega
    · have h1 : sm (List.range N) (fun t : Nat => if R ((p : Int), (t : Int) + 1) then mu pt U ((p : Int), (t : Int) + 1) r else 0) ≤ sm (List.range N) fun _ => 0 := sm_le fun t ht => by
        split
        · rename_i hR
          exact Int.not_lt.mp fun hm => hz ⟨t, ht, hR, hm⟩
        · exact Int.le_refl _
      rw [sm_const] at h1
      have := Int.mul_nonneg (Int.le_of_lt U0) nn
      omega
theorem placed_sum (o : Ord pt L N f lots) (B : List Pc) : sm (List.range N) (fun r : Nat => sm B fun x => if R x ∧ f x = some (r : Int) then (1 : Int) else 0) = sm B fun x => if R x ∧ f x ≠ none then 1 else 0 := by
  rw [sm_swap]
  refine sm_congr fun x _ => ?_
  cases e : f x with
  | none =>
    rw [if_neg (by simp)]
    exact sm_zero fun r _ => if_neg (by simp)
  | some t =>
    have rg := o.cons.rng x t e
    by_cases hR : R x
    · rw [if_pos ⟨hR, by simp⟩]
      have h := sm_one (t := t) N
      rw [if_pos rg] at h
      refine (sm_congr fun r _ => ?_).trans h
      by_cases k : (r : Int) = t
      · rw [if_pos ⟨hR, by rw [k]⟩, if_pos k]
      · rw [if_neg (fun z => k (Option.some.inj z.2).symm), if_neg k]
    · rw [if_neg (fun z => hR z.1)]
      exact sm_zero fun r _ => if_neg fun z => hR z.1
theorem closed_ineq (g : Geo pt L N U) (o : Ord pt L N f lots) (hv : ∀ x r, f x = some r → Valid pt N x) (cl : ClosedP pt L N f lots R) :
    sm (BB pt.length N) (fun x => if R x then sm (List.range N) (fun r : Nat => mu pt U x (r : Int)) else 0) ≤ U * sm (BB pt.length N) (fun x => if R x ∧ f x ≠ none then 1 else 0) := by
  rw [← placed_sum o, ← sm_mul]
  have e : sm (BB pt.length N) (fun x => if R x then sm (List.range N) (fun r : Nat => mu pt U x (r : Int)) else 0) = sm (List.range N) fun r : Nat => sm (BB pt.length N) fun x => if R x then mu pt U x (r : Int) else 0 := by
    rw [← sm_swap]
    refine sm_congr fun x _ => ?_
    split
    · exact sm_congr fun r _ => rfl
    · exact (sm_zero fun r _ => rfl).symm
  rw [e]
  exact sm_le fun r hr => round_ineq g o hv cl ⟨by omega, by have := List.mem_range.mp hr; omega⟩
/-- a must is never left out -/
theorem must_ok (g : Geo pt L N U) (o : Ord pt L N f lots) (hv : ∀ x r, f x = some r → isMust pt N x) {x : Pc} (hx : isMust pt N x) (hf : f x = none) (cl : ClosedP pt L N f lots R) (hR : R x) : False := by
  obtain ⟨R', hR'⟩ : ∃ R' : Pc → Prop, ∀ y, R' y ↔ R y ∧ (y = x ∨ f y ≠ none) := ⟨_, fun y => Iff.rfl⟩
  have cl' : ClosedP pt L N f lots R' := fun y hy r hr => by
    rcases cl y ((hR' y).mp hy).1 r hr with k | ⟨k1, k2⟩
    · exact .inl k
    · refine .inr ⟨k1, fun z hz => (hR' z).mpr ⟨k2 z hz, .inr ?_⟩⟩
      obtain ⟨_, _, _, _, _, _, _, h1, h2⟩ := hr
      obtain ⟨l, _, l2, l3⟩ := o.lot (r := r) ⟨h2, h1⟩
      rw [l3] at hz
      have : z ∈ l := by
        rcases way_cases y l L with ⟨_, q⟩ | ⟨_, _, q⟩ | ⟨_, _, q⟩
        · exact ((q z).mp hz).1
        · rw [q] at hz; exact hz
        · rw [q] at hz; cases hz
      rw [(l2 z).mp this]
      simp
  have h := closed_ineq g o (fun y r e => (hv y r e).valid) cl'
  have U0 := g.U0
  have e : sm (BB pt.length N) (fun y => if R' y then sm (List.range N) (fun r : Nat => mu pt U y (r : Int)) else 0) = U * sm (BB pt.length N) fun y => if R' y then 1 else 0 := by
    rw [← sm_mul]
    refine sm_congr fun y hy => ?_
    by_cases k : R' y
    · rw [if_pos k, if_pos k, Int.mul_one]
      refine (mu_piece g hy).2 ?_
      rcases ((hR' y).mp k).2 with q | q
      · rw [q]; exact hx
      · cases e : f y with
        | none => exact absurd e q
        | some t => exact hv y t e
    · rw [if_neg k, if_neg k, Int.mul_zero]
  rw [e] at h
  have h2 := Int.le_of_mul_le_mul_left h U0
  have eq := sm_eq_of_le (l := BB pt.length N) (g := fun y => if R' y ∧ f y ≠ none then (1 : Int) else 0) (h := fun y => if R' y then (1 : Int) else 0) (fun y _ => by
    by_cases k : R' y
    · rw [if_pos k]; split <;> omega
    · rw [if_neg k, if_neg (fun z => k z.1)]; exact Int.le_refl _) h2 x (valid_BB g.pok hx.valid)
  have rx : R' x := (hR' x).mpr ⟨hR, .inl rfl⟩
  rw [if_neg (fun z => z.2 hf), if_pos rx] at eq
  omega
/-- at the end every round is full -/
theorem all_full (g : Geo pt L N U) (o : Ord pt L N f lots) (hv : ∀ x r, f x = some r → Valid pt N x) (hend : ∀ x, Valid pt N x → f x ≠ none ∨ ∃ R : Pc → Prop, ClosedP pt L N f lots R ∧ R x) : ∀ (i : Nat) l, lots[i]? = some l → (l.length : Int) = L := by
  obtain ⟨R, hRR⟩ : ∃ R : Pc → Prop, ∀ y, R y ↔ ∃ R : Pc → Prop, ClosedP pt L N f lots R ∧ R y := ⟨_, fun y => Iff.rfl⟩
  obtain ⟨Tt, hT⟩ : ∃ T : Pc → Prop, ∀ y, T y := ⟨fun _ => True, fun _ => trivial⟩
  have cl : ClosedP pt L N f lots R := fun y hy r hr => by
    obtain ⟨S, s1, s2⟩ := (hRR y).mp hy
    rcases s1 y s2 r hr with k | ⟨k1, k2⟩
    · exact .inl k
    · exact .inr ⟨k1, fun z hz => (hRR z).mpr ⟨S, s1, k2 z hz⟩⟩
  have h := closed_ineq g o hv cl
  have U0 := g.U0
  have tot : sm (BB pt.length N) (fun x => sm (List.range N) fun r : Nat => mu pt U x (r : Int)) = N * (L * U) := by
    rw [sm_swap]
    have : sm (List.range N) (fun r : Nat => sm (BB pt.length N) fun x => mu pt U x (r : Int)) = sm (List.range N) fun _ => L * U := sm_congr fun r hr => mu_round g ⟨by omega, by have := List.mem_range.mp hr; omega⟩
    rw [this, sm_const, List.length_range, Int.mul_comm]
  have pw : sm (BB pt.length N) (fun x => sm (List.range N) fun r : Nat => mu pt U x (r : Int)) ≤ sm (BB pt.length N) fun x => (if R x then sm (List.range N) (fun r : Nat => mu pt U x (r : Int)) else 0) + U * (if ¬ R x ∧ f x ≠ none then 1 else 0) := sm_le fun x hx => by
    by_cases k : R x
    · rw [if_pos k, if_neg (fun z => z.1 k)]; omega
    · rw [if_neg k]
      by_cases v : Valid pt N x
      · have pl : f x ≠ none := (hend x v).resolve_right fun q => k ((hRR x).mpr q)
        rw [if_pos ⟨k, pl⟩]
        have := (mu_piece g hx).1
        omega
      · have z : sm (List.range N) (fun r : Nat => mu pt U x (r : Int)) = 0 := sm_zero fun r hr => by
          have h1 := mu_nonneg g x (r : Int)
          apply Classical.byContradiction
          intro hn
          obtain ⟨p, rt, e1, e2, e3, e4, e5, e6, e7⟩ := mu_win g hx (r := (r : Int)) ⟨by omega, by have := List.mem_range.mp hr; omega⟩ (by omega)
          exact v ⟨p, rt, e1, e2, e3, (BB_mem.mp hx).2.2.1, by omega⟩
        rw [z, if_neg (fun q => q.2 (by
          cases e : f x with
          | none => rfl
          | some t => exact absurd (hv x t e) v))]
        omega
  rw [tot, sm_add, sm_mul] at pw
  have all : sm (BB pt.length N) (fun x => if R x ∧ f x ≠ none then (1 : Int) else 0) + sm (BB pt.length N) (fun x => if ¬ R x ∧ f x ≠ none then (1 : Int) else 0) = sm (BB pt.length N) fun x => if Tt x ∧ f x ≠ none then 1 else 0 := by
    rw [← sm_add]
    refine sm_congr fun x _ => ?_
    have := hT x
    by_cases k : R x <;> by_cases q : f x = none <;> simp [k, q, this]
  have fin : (N : Int) * (L * U) ≤ U * sm (BB pt.length N) fun x => if Tt x ∧ f x ≠ none then 1 else 0 := by
    rw [← all, Int.mul_add]
    omega
  rw [← placed_sum o] at fin
  have fin2 : (N : Int) * L ≤ sm (List.range N) fun r : Nat => sm (BB pt.length N) fun x => if Tt x ∧ f x = some (r : Int) then (1 : Int) else 0 := by
    apply Int.le_of_mul_le_mul_left _ U0
    rw [← Int.mul_assoc, Int.mul_comm] at fin
    exact fin
  have lotlen : ∀ (i : Nat) l, lots[i]? = some l → sm (BB pt.length N) (fun x => if Tt x ∧ f x = some (i : Int) then (1 : Int) else 0) = l.length := fun i l hl => by
    rw [count_in (o.cons.nd i l hl) (BB_nodup pt.length N) fun x hx => valid_BB g.pok (hv x i ((o.cons.iff i l hl x).mp hx))]
    refine sm_congr fun x _ => ?_
    by_cases m : x ∈ l
    · rw [if_pos ⟨hT x, (o.cons.iff i l hl x).mp m⟩, if_pos m]
    · rw [if_neg (fun z => m ((o.cons.iff i l hl x).mpr z.2)), if_neg m]
  have eq := sm_eq_of_le (l := List.range N) (g := fun r : Nat => sm (BB pt.length N) fun x => if Tt x ∧ f x = some (r : Int) then (1 : Int) else 0) (h := fun _ => L) (fun r hr => by
    have hr' := List.mem_range.mp hr
    have hl : r < lots.length := by rw [o.cons.len]; exact hr'
    rw [lotlen r _ (List.getElem?_eq_getElem hl)]
    exact o.lens r _ (List.getElem?_eq_getElem hl)) (by rw [sm_const, List.length_range, Int.mul_comm]; exact fin2)
  intro i l hl
  have hi := (List.getElem?_eq_some_iff.mp hl).1
  rw [o.cons.len] at hi
  rw [← lotlen i l hl]
  exact eq i (List.mem_range.mpr hi)
end
end M84
set_option Elab.async false
set_option linter.all false
set_option maxRecDepth 100000
set_option maxHeartbeats 4000000
/-! The rows and their lags. -/
namespace M84
open K84 Classical
structure Done (pt : List Rt) (L : Int) (N : Nat) (U : Int) (f : Pl) (lots : List (List Pc)) : Prop where
  geo : Geo pt L N U
  ord : Ord pt L N f lots
  val : ∀ x r, f x = some r → Valid pt N x
  must : ∀ x, isMust pt N x → f x ≠ none
  full : ∀ (i : Nat) l, lots[i]? = some l → (l.length : Int) = L
theorem sm_lt (k : Nat) : ∀ N : Nat, sm (List.range N) (fun t : Nat => if t < k then (1 : Int) else 0) = ((min k N : Nat) : Int)
  | 0 => by simp [sm]
  | N + 1 => by
    rw [List.range_succ, sm_append, sm_lt k N, sm_cons, sm_nil]
    by_cases h : N < k
    · rw [if_pos h]; omega
    · rw [if_neg h]; omega
section
variable {pt : List Rt} {L : Int} {N : Nat} {U : Int} {f : Pl} {lots : List (List Pc)}
/-- position p has a piece in round i -/
def has (f : Pl) (p : Nat) (i : Nat) : Prop := ∃ x : Pc, x.1 = (p : Int) ∧ f x = some (i : Int)
theorem has_sum (d : Done pt L N U f lots) {p i : Nat} : (if has f p i then (1 : Int) else 0) = sm (List.range N) fun t : Nat => if f ((p : Int), (t : Int) + 1) = some (i : Int) then 1 else 0 := by
  by_cases h : has f p i
  · rw [if_pos h]
    obtain ⟨x, x1, x2⟩ := h
    have xB := BB_mem.mp (valid_BB d.geo.pok (d.val x _ x2))
    have h1 := sm_one (t := x.2 - 1) N
    rw [if_pos (by omega)] at h1
    refine h1.symm.trans (sm_congr fun t ht => ?_)
    by_cases e : (t : Int) = x.2 - 1
    · rw [if_pos e, if_pos]
      have : ((p : Int), (t : Int) + 1) = x := Prod.ext x1.symm (by show (t : Int) + 1 = x.2; omega)
      rw [this]; exact x2
    · rw [if_neg e, if_neg]
      intro z
      have := d.ord.uniq _ x _ z x2 x1.symm
      rw [← this] at e
      exact e (by show (t : Int) = (t : Int) + 1 - 1; omega)
  · rw [if_neg h]
    exact (sm_zero fun t _ => if_neg fun z => h ⟨_, rfl, z⟩).symm
theorem lag (d : Done pt L N U f lots) {p : Nat} {rt : Rt} (e : pt[p]? = some rt) {T : Nat} (hT : T ≤ N) :
    0 - rt.2 < T * rt.1 - sm (List.range T) (fun i : Nat => if has f p i then (1 : Int) else 0) * rt.2 ∧ T * rt.1 - sm (List.range T) (fun i : Nat => if has f p i then (1 : Int) else 0) * rt.2 < rt.2 := by
  have pk := d.geo.pok rt (List.mem_of_getElem? e)
  have e1 : sm (List.range T) (fun i : Nat => if has f p i then (1 : Int) else 0) = sm (List.range N) fun t : Nat => sm (List.range T) fun i : Nat => if f ((p : Int), (t : Int) + 1) = some (i : Int) then (1 : Int) else 0 := by
    rw [← sm_swap]
    exact sm_congr fun i _ => has_sum d
  have e2 : ∀ t : Nat, sm (List.range T) (fun i : Nat => if f ((p : Int), (t : Int) + 1) = some (i : Int) then (1 : Int) else 0) = if ∃ i : Nat, i < T ∧ f ((p : Int), (t : Int) + 1) = some (i : Int) then 1 else 0 := fun t => by
    cases q : f ((p : Int), (t : Int) + 1) with
    | none => rw [if_neg (by simp)]; exact sm_zero fun i _ => if_neg (by simp)
    | some s =>
      have rg := d.ord.cons.rng _ _ q
      have h := sm_one (t := s) T
      have e3 : sm (List.range T) (fun i : Nat => if some s = some (i : Int) then (1 : Int) else 0) = sm (List.range T) fun i : Nat => if (i : Int) = s then (1 : Int) else 0 := sm_congr fun i _ => by
        by_cases k : (i : Int) = s
        · rw [if_pos (by rw [k]), if_pos k]
        · rw [if_neg (fun z => k (Option.some.inj z).symm), if_neg k]
      rw [e3, h]
      by_cases k : 0 ≤ s ∧ s < T
      · rw [if_pos k, if_pos ⟨s.toNat, by omega, by rw [Int.toNat_of_nonneg k.1]⟩]
      · rw [if_neg k, if_neg]
        rintro ⟨i, i1, i2⟩
        have := Option.some.inj i2
        omega
  rw [e1, sm_congr (l := List.range N) fun t _ => e2 t]
  have TN : (T : Int) * rt.1 ≤ T * rt.2 := Int.mul_le_mul_of_nonneg_left (Int.le_of_lt pk.2.1) (by omega)
  have T0 : 0 ≤ (T : Int) * rt.1 := Int.mul_nonneg (by omega) pk.1
  have b0 : 0 < rt.2 := by omega
  constructor
  · -- not too many
    have hm : 0 ≤ (T * rt.1 + rt.2 - 1) / rt.2 := Int.ediv_nonneg (by omega) (by omega)
    have up : sm (List.range N) (fun t : Nat => if ∃ i : Nat, i < T ∧ f ((p : Int), (t : Int) + 1) = some (i : Int) then (1 : Int) else 0) ≤ (T * rt.1 + rt.2 - 1) / rt.2 := by
      have h1 := sm_lt (((T * rt.1 + rt.2 - 1) / rt.2).toNat) N
      have h2 : sm (List.range N) (fun t : Nat => if ∃ i : Nat, i < T ∧ f ((p : Int), (t : Int) + 1) = some (i : Int) then (1 : Int) else 0) ≤ sm (List.range N) fun t : Nat => if t < ((T * rt.1 + rt.2 - 1) / rt.2).toNat then (1 : Int) else 0 := sm_le fun t ht => by
        split
        · rename_i hx
          obtain ⟨i, i1, i2⟩ := hx
          obtain ⟨p', rt', w1, w2, w3, w4, w5, w6, w7⟩ := d.ord.win _ _ i2
          have : p' = p := by
            have : (p : Int) = p' := w1
            omega
          subst this
          rw [e] at w2
          cases w2
          have w8 : wB rt ((t : Int) + 1) ≤ i := w4
          unfold wB at w8
          have w9 : ((t : Int) + 1 - 1) * rt.2 / rt.1 < T := by omega
          rw [Int.ediv_lt_iff_lt_mul w3, show ((t : Int) + 1 - 1) = t by omega] at w9
          have w10 : (t : Int) + 1 ≤ (T * rt.1 + rt.2 - 1) / rt.2 := by
            rw [Int.le_ediv_iff_mul_le b0, Int.add_mul, Int.one_mul]
            omega
          rw [if_pos (by omega)]
          exact Int.le_refl _
        · split <;> omega
      omega
    have h3 := Int.mul_le_mul_of_nonneg_right up (Int.le_of_lt b0)
    have h4 : (T * rt.1 + rt.2 - 1) / rt.2 * rt.2 ≤ T * rt.1 + rt.2 - 1 := Int.ediv_mul_le _ (by omega)
    omega
  · -- not too few
    have hk : 0 ≤ T * rt.1 / rt.2 := Int.ediv_nonneg T0 (by omega)
    have kN : T * rt.1 / rt.2 ≤ N := by
      have : T * rt.1 / rt.2 < (T : Int) + 1 := by
        rw [Int.ediv_lt_iff_lt_mul b0, Int.add_mul, Int.one_mul]
        omega
      omega
    have lo : T * rt.1 / rt.2 ≤ sm (List.range N) fun t : Nat => if ∃ i : Nat, i < T ∧ f ((p : Int), (t : Int) + 1) = some (i : Int) then (1 : Int) else 0 := by
      have h1 := sm_lt ((T * rt.1 / rt.2).toNat) N
      have h2 : sm (List.range N) (fun t : Nat => if t < (T * rt.1 / rt.2).toNat then (1 : Int) else 0) ≤ sm (List.range N) fun t : Nat => if ∃ i : Nat, i < T ∧ f ((p : Int), (t : Int) + 1) = some (i : Int) then (1 : Int) else 0 := sm_le fun t ht => by
        by_cases hlt : t < (T * rt.1 / rt.2).toNat
        · rw [if_pos hlt, if_pos]
          · exact Int.le_refl _
          · have tk : (t : Int) + 1 ≤ T * rt.1 / rt.2 := by omega
            rw [Int.le_ediv_iff_mul_le b0] at tk
            have a0 : 0 < rt.1 := by
              apply Classical.byContradiction
              intro hn
              have : rt.1 = 0 := by omega
              rw [this, Int.mul_zero, Int.add_mul, Int.one_mul] at tk
              have := Int.mul_nonneg (show (0 : Int) ≤ t by omega) (Int.le_of_lt b0)
              omega
            have wb : wB rt ((t : Int) + 1) < N := by
              unfold wB
              rw [Int.ediv_lt_iff_lt_mul a0, show ((t : Int) + 1 - 1) = t by omega]
              rw [Int.add_mul, Int.one_mul] at tk
              have : (T : Int) * rt.1 ≤ N * rt.1 := Int.mul_le_mul_of_nonneg_right (by omega) pk.1
              omega
            have we : wE rt ((t : Int) + 1) ≤ T := by
              unfold wE
              have : (((t : Int) + 1) * rt.2 + rt.1 - 1) / rt.1 < (T : Int) + 1 := by
                rw [Int.ediv_lt_iff_lt_mul a0, Int.add_mul (T : Int), Int.one_mul]
                omega
              omega
            have hm : isMust pt N ((p : Int), (t : Int) + 1) := ⟨p, rt, rfl, e, a0, by show (1 : Int) ≤ (t : Int) + 1; omega, wb, by show wE rt ((t : Int) + 1) ≤ N; omega⟩
            cases q : f ((p : Int), (t : Int) + 1) with
            | none => exact absurd q (d.must _ hm)
            | some s =>
              obtain ⟨p', rt', w1, w2, w3, w4, w5, w6, w7⟩ := d.ord.win _ _ q
              have : p' = p := by
                have : (p : Int) = p' := w1
                omega
              subst this
              rw [e] at w2
              cases w2
              have w8 : s < wE rt ((t : Int) + 1) := w5
              exact ⟨s.toNat, by omega, by rw [Int.toNat_of_nonneg w7]⟩
        · rw [if_neg hlt]; split <;> omega
      omega
    have h3 := Int.mul_le_mul_of_nonneg_right lo (Int.le_of_lt b0)
    have h4 : T * rt.1 < (T * rt.1 / rt.2 + 1) * rt.2 := Int.lt_ediv_add_one_mul_self _ b0
    rw [Int.add_mul, Int.one_mul] at h4
    omega
end
end M84
set_option Elab.async false
set_option linter.all false
set_option maxRecDepth 100000
set_option maxHeartbeats 4000000
/-! k84: spread. -/
namespace K84
open PySem L2 VL M84
def KeepsG (G G' : Hd) : Prop := ∀ b o, G b = some o → G' b = some o
def lotsD (lots : List (List Pc)) : D := .lst (lots.map fun l => .lst (l.map fun x => .int x.1))
def S_spread : SpD := fun ds G Q => ∃ (pt : List Rt) (L : Int) (N : Nat) (U : Int), ds = [.lst (pt.map ratD), .int L, .int (N : Int)] ∧ Geo pt L N U ∧ N ≤ 60 ∧ pt.length ≤ 7 ∧ (∀ r ∈ pt, r.2 ≤ 100) ∧
  ∀ G' f lots, KeepsG G G' → Done pt L N U f lots → Q (lotsD lots) G'
theorem geo_L {pt : List Rt} {L : Int} {N : Nat} {U : Int} (g : Geo pt L N U) {x : Pc} (v : Valid pt N x) : 0 < L := by
  obtain ⟨p, rt, e1, e2, e3, e4, e5⟩ := v
  have m := List.mem_of_getElem? e2
  obtain ⟨u0, u1, u2⟩ := g.unit m
  have h := sm_ge (l := pt) (g := fun r => r.1 * (U / r.2)) (fun r hr => Int.mul_nonneg (g.pok r hr).1 (Int.le_of_lt (g.unit hr).1)) m
  rw [g.tot] at h
  have h2 : 0 < rt.1 * (U / rt.2) := Int.mul_pos e3 u0
  apply Classical.byContradiction
  intro hn
  have := Int.mul_le_mul_of_nonneg_right (show L ≤ 0 by omega) (Int.le_of_lt g.U0)
  rw [Int.zero_mul] at this
  omega
section
variable {P : Program} {w : World} {K : PySem.W.Frag} {mg : Str → Option Value} {base : Heap} {k : Nat}
theorem ok_spread (T : Txt K mg) : FnA P w K mg base 5 T.f_spread T.d_spread ["parts", "lines", "many"] S_spread := by
  refine (w_spread (k := 3) T (ok_place T) (VL.FnA.mono (k := 3) (ok_pieces T) (by decide)) (VL.FnA.mono (k := 3) (ok_init T) (by decide)) (by rintro ds G Q ⟨_, _, _, _, rfl, _⟩; rfl)).2 fun ds G Q h => ?_
  obtain ⟨pt, L, N, U, rfl, g, N60, p7, u100, q⟩ := h
  simp only [w_spread, startD, dRet, dRetN, dAndV, dOrV, dCB, dNotV, dCons, dNil, dVar, dC, dAnd, dOr, dNot, dTest, dBin, dUn, dChain, dIfS, dSeq, dAsg, eName, dPar, dPar3, dNext, dDrop, dNever, dCont, dBreak, dCall, dCallK, dTup, dLst, dLstM, dIf, dWhile, dItems, dRange1, dRange2, dEnum, dZip, dLcM, wipeD, eTup, eCons, eNil, eSub, dCut, dPart, dNoPart, dRev, dFld, dSetFld, dMake, dMeth, dBM, dDGet2, dDGet, dDIn, dDPut, dDNew, dDisp1, dLstRg2, bSub, bDiv, bMod, bPow, bLt, bLe, bGt, bGe, bI, bI0, bB0, bIsN, bNotN, VL.isNon, uNeg, List.map_cons, List.map_nil, List.length_cons, List.length_nil, List.replicate, List.cons_append, List.nil_append, List.getElem?_cons_zero, List.getElem?_cons_succ, List.set_cons_zero, List.set_cons_succ, Nat.reduceAdd, Nat.reduceSub, decide_eq_true_eq, if_true, if_false, Bool.false_eq_true, reduceIte, pick, List.filterMap_cons, List.filterMap_nil]
  intro sp gsp
  refine ⟨G, sp, pt, L, N, rfl, updD_same, fun b o z => ?_, gsp, N60, p7, fun r hr => ⟨(g.pok r hr).1, (g.pok r hr).2.1, u100 r hr⟩, fun G1 pl la s1 => ⟨rfl, ?_⟩⟩
  · rw [updD_ne (fun e => by rw [e, gsp] at z; cases z)]; exact z
  simp only [s1.ins, startD, dRet, dRetN, dAndV, dOrV, dCB, dNotV, dCons, dNil, dVar, dC, dAnd, dOr, dNot, dTest, dBin, dUn, dChain, dIfS, dSeq, dAsg, eName, dPar, dPar3, dNext, dDrop, dNever, dCont, dBreak, dCall, dCallK, dTup, dLst, dLstM, dIf, dWhile, dItems, dRange1, dRange2, dEnum, dZip, dLcM, wipeD, eTup, eCons, eNil, eSub, dCut, dPart, dNoPart, dRev, dFld, dSetFld, dMake, dMeth, dBM, dDGet2, dDGet, dDIn, dDPut, dDNew, dDisp1, dLstRg2, bSub, bDiv, bMod, bPow, bLt, bLe, bGt, bGe, bI, bI0, bB0, bIsN, bNotN, VL.isNon, uNeg, List.map_cons, List.map_nil, List.length_cons, List.length_nil, List.replicate, List.cons_append, List.nil_append, List.getElem?_cons_zero, List.getElem?_cons_succ, List.set_cons_zero, List.set_cons_succ, Nat.reduceAdd, Nat.reduceSub, decide_eq_true_eq, if_true, if_false, Bool.false_eq_true, reduceIte, pick, List.filterMap_cons, List.filterMap_nil]
  refine ⟨trivial, rfl, G, sp, pl, la, pt, L, N, _, _, rfl, s1, fun G2 M O lm lo s2 m2 o2 nM nO hM hO => ?_⟩
  have nMO : (M ++ O).Nodup := by
    rw [List.nodup_append]
    refine ⟨nM, nO, fun a ha b hb e => ?_⟩
    obtain ⟨p, rt, a1, a2, a3, a4, a5, a6⟩ := (hM a).mp ha
    obtain ⟨p', rt', b1, b2, b3, b4, b5, b6⟩ := (hO b).mp hb
    rw [← e] at b1 b6
    have : p = p' := by omega
    subst this
    rw [a2] at b2
    cases b2
    omega
  have small : (M ++ O).length ≤ 427 := by
    have h1 := nMO.length_le_of_subset (l₂ := box) fun x hx => by
      rcases List.mem_append.mp hx with z | z
      · exact (valid_facts s2 ((hM x).mp z).valid).1
      · exact (valid_facts s2 ((hO x).mp z).valid).1
    rw [box_len] at h1
    exact h1
  have sz : sizeLine = 16777216 := by decide
  simp only [startD, dRet, dRetN, dAndV, dOrV, dCB, dNotV, dCons, dNil, dVar, dC, dAnd, dOr, dNot, dTest, dBin, dUn, dChain, dIfS, dSeq, dAsg, eName, dPar, dPar3, dNext, dDrop, dNever, dCont, dBreak, dCall, dCallK, dTup, dLst, dLstM, dIf, dWhile, dItems, dRange1, dRange2, dEnum, dZip, dLcM, wipeD, eTup, eCons, eNil, eSub, dCut, dPart, dNoPart, dRev, dFld, dSetFld, dMake, dMeth, dBM, dDGet2, dDGet, dDIn, dDPut, dDNew, dDisp1, dLstRg2, bSub, bDiv, bMod, bPow, bLt, bLe, bGt, bGe, bI, bI0, bB0, bIsN, bNotN, VL.isNon, uNeg, List.map_cons, List.map_nil, List.length_cons, List.length_nil, List.replicate, List.cons_append, List.nil_append, List.getElem?_cons_zero, List.getElem?_cons_succ, List.set_cons_zero, List.set_cons_succ, Nat.reduceAdd, Nat.reduceSub, decide_eq_true_eq, if_true, if_false, Bool.false_eq_true, reduceIte, pick, List.filterMap_cons, List.filterMap_nil]
  refine ⟨trivial, ?_⟩
  show dItems _ _ _ _
  unfold dItems
  have a1 : lstOf G2 (.ref lm) = some (M.map pcD) := by show trkL (G2 lm) = _; rw [m2]; rfl
  have a2 : lstOf G2 (.ref lo) = some (O.map pcD) := by show trkL (G2 lo) = _; rw [o2]; rfl
  simp only [bAdd, a1, a2, startD, dRet, dRetN, dAndV, dOrV, dCB, dNotV, dCons, dNil, dVar, dC, dAnd, dOr, dNot, dTest, dBin, dUn, dChain, dIfS, dSeq, dAsg, eName, dPar, dPar3, dNext, dDrop, dNever, dCont, dBreak, dCall, dCallK, dTup, dLst, dLstM, dIf, dWhile, dRange1, dRange2, dEnum, dZip, dLc, dLcM, wipeD, eTup, eCons, eNil, eSub, dCut, dPart, dNoPart, dRev, dFld, dSetFld, dMake, dMeth, dBM, dDGet2, dDGet, dDIn, dDPut, dDNew, dDisp1, dLstRg2, bSub, bDiv, bMod, bPow, bLt, bLe, bGt, bGe, bI, bI0, bB0, bIsN, bNotN, VL.isNon, uNeg, List.map_cons, List.map_nil, List.length_cons, List.length_nil, List.replicate, List.cons_append, List.nil_append, List.getElem?_cons_zero, List.getElem?_cons_succ, List.set_cons_zero, List.set_cons_succ, Nat.reduceAdd, Nat.reduceSub, decide_eq_true_eq, if_true, if_false, Bool.false_eq_true, reduceIte, pick, List.filterMap_cons, List.filterMap_nil]
  refine ⟨by rw [sz, List.length_map, List.length_map]; rw [List.length_append] at small; omega, ?_⟩
  have valid : ∀ x ∈ M ++ O, Valid pt N x := fun x hx => by
    rcases List.mem_append.mp hx with z | z
    · exact ((hM x).mp z).valid
    · exact ((hO x).mp z).valid
  have rep : ∀ (i : Nat) l, (List.replicate N ([] : List Pc))[i]? = some l → l = [] := fun i l h => by
    rw [List.getElem?_replicate] at h
    split at h
    · cases h; rfl
    · cases h
  rw [← List.map_append]
  refine loop_at (fun i δ G3 => ∃ f lots p3, δ = [some (.lst (pt.map ratD)), some (.int L), some (.int (N : Int)), some (.ref sp), some (.ref lm), some (.ref lo), p3, none, none, none] ∧ SpAt T.C_Spread G sp pl la pt L N G3 f lots ∧
    (0 < L → Ord pt L N f lots) ∧ (∀ x t, f x = some t → x ∈ (M ++ O).take i) ∧ ∀ x ∈ (M ++ O).take i, f x ≠ none ∨ (isOther pt N x ∧ ∃ R : Pc → Prop, ClosedP pt L N f lots R ∧ R x)) ?_ ?_
    ⟨_, _, _, rfl, s2, fun hL => ⟨s2.cons, (fun x r z => nomatch z), (fun x y r z => nomatch z), fun i l hl => by rw [rep i l hl]; simp; omega⟩, (fun x t z => nomatch z), fun x hx => by simp at hx⟩
  · rintro δ G3 ⟨f, lots, p3, rfl, s3, or_, j1, j2⟩
    refine ⟨trivial, ?_⟩
    rw [List.length_map, List.take_length] at j1 j2
    have dn : Done pt L N U f lots := by
      have hv : ∀ x r, f x = some r → Valid pt N x := fun x r e => valid x (j1 x r e)
      have mem : ∀ x, Valid pt N x → x ∈ M ++ O := fun x ⟨p, rt, b1, b2, b3, b4, b5⟩ => by
        by_cases e : wE rt x.2 ≤ N
        · exact List.mem_append_left _ ((hM x).mpr ⟨p, rt, b1, b2, b3, b4, b5, e⟩)
        · exact List.mem_append_right _ ((hO x).mpr ⟨p, rt, b1, b2, b3, b4, b5, by omega⟩)
      have hmust : ∀ x, isMust pt N x → f x ≠ none := fun x hx => by
        rcases j2 x (mem x hx.valid) with z | ⟨z, _⟩
        · exact z
        · obtain ⟨p, rt, b1, b2, _, _, _, b6⟩ := hx
          obtain ⟨p', rt', c1, c2, _, _, _, c6⟩ := z
          have : p = p' := by omega
          subst this
          rw [b2] at c2
          cases c2
          omega
      by_cases hL : 0 < L
      · have o := or_ hL
        refine ⟨g, o, hv, hmust, all_full g o hv fun x v => ?_⟩
        rcases j2 x (mem x v) with z | ⟨_, z⟩
        · exact .inl z
        · exact .inr z
      · -- no lines: no pieces
        have none_ : ∀ x, f x = none := fun x => by
          cases e : f x with
          | none => rfl
          | some t => exact absurd (geo_L g (hv x t e)) hL
        have L0 : 0 ≤ L := by
          have h := sm_nonneg (l := pt) (g := fun r => r.1 * (U / r.2)) fun r hr => Int.mul_nonneg (g.pok r hr).1 (Int.le_of_lt (g.unit hr).1)
          rw [g.tot] at h
          apply Classical.byContradiction
          intro hn
          have := Int.mul_lt_mul_of_pos_right (show L < 0 by omega) g.U0
          rw [Int.zero_mul] at this
          omega
        have emp : ∀ (i : Nat) l, lots[i]? = some l → l = [] := fun i l hl => List.eq_nil_iff_forall_not_mem.mpr fun x hx => by
          have := (s3.cons.iff i l hl x).mp hx
          rw [none_ x] at this
          cases this
        refine ⟨g, ⟨s3.cons, (fun x r z => by rw [none_ x] at z; cases z), (fun x y r z => by rw [none_ x] at z; cases z), (fun i l hl => by rw [emp i l hl]; simp; omega)⟩, hv, hmust, fun i l hl => by rw [emp i l hl]; simp; omega⟩
    simp only [s3.ins, fl_lots, startD, dRet, dRetN, dAndV, dOrV, dCB, dNotV, dCons, dNil, dVar, dC, dAnd, dOr, dNot, dTest, dBin, dUn, dChain, dIfS, dSeq, dAsg, eName, dPar, dPar3, dNext, dDrop, dNever, dCont, dBreak, dCall, dCallK, dTup, dLst, dLstM, dIf, dFor, dWhile, dItems, dRange1, dRange2, dEnum, dZip, dLc, dLcM, wipeD, eTup, eCons, eNil, eSub, dCut, dPart, dNoPart, dRev, dFld, dSetFld, dMake, dMeth, dBM, dDGet2, dDGet, dDIn, dDPut, dDNew, dDisp1, dLstRg2, bSub, bDiv, bMod, bPow, bLt, bLe, bGt, bGe, bI, bI0, bB0, bIsN, bNotN, VL.isNon, uNeg, List.map_cons, List.map_nil, List.length_cons, List.length_nil, List.replicate, List.cons_append, List.nil_append, List.getElem?_cons_zero, List.getElem?_cons_succ, List.set_cons_zero, List.set_cons_succ, Nat.reduceAdd, Nat.reduceSub, decide_eq_true_eq, if_true, if_false, Bool.false_eq_true, reduceIte, pick, List.filterMap_cons, List.filterMap_nil]
    have ln : lots.length = N := s3.cons.len
    refine ⟨trivial, comp_ind (fun items acc Gi => ∃ k : Nat, items = (la.drop k).map D.ref ∧ acc = (lots.take k).map (fun l => D.lst (l.map fun x => .int x.1)) ∧ Gi = G3 ∧ k ≤ N) ?_ ?_ _ _ _ ⟨0, rfl, rfl, rfl, Nat.zero_le _⟩⟩
    · rintro acc Gi ⟨k, h1, rfl, rfl, kN⟩
      refine ⟨trivial, ?_⟩
      have hk : la.drop k = [] := by
        cases e : la.drop k with
        | nil => rfl
        | cons a b => rw [e] at h1; cases h1
      have : N ≤ k := by
        have := List.drop_eq_nil_iff.mp hk
        rw [s3.len] at this
        exact this
      rw [List.take_of_length_le (by omega)]
      exact q _ f lots s3.base dn
    · rintro d r acc Gi nx ⟨k, h1, rfl, rfl, kN⟩ hn
      refine ⟨trivial, ?_⟩
      have hk : k < la.length := by
        apply Classical.byContradiction
        intro hc
        rw [List.drop_eq_nil_iff.mpr (by omega)] at h1
        cases h1
      rw [List.drop_eq_getElem_cons hk] at h1
      cases h1
      have hkl : k < lots.length := by rw [ln, ← s3.len]; exact hk
      have gl := s3.lot k _ _ (List.getElem?_eq_getElem hk) (List.getElem?_eq_getElem hkl)
      have ll : lots[k].length ≤ 427 := by
        have h1 := (s3.cons.nd k _ (List.getElem?_eq_getElem hkl)).length_le_of_subset (l₂ := box) fun z hz => s3.dom z _ ((s3.cons.iff _ _ (List.getElem?_eq_getElem hkl) z).mp hz)
        rw [box_len] at h1
        exact h1
      simp only [dYes, gl, startD, dRet, dRetN, dAndV, dOrV, dCB, dNotV, dCons, dNil, dVar, dC, dAnd, dOr, dNot, dTest, dBin, dUn, dChain, dIfS, dSeq, dAsg, eName, dPar, dPar3, dNext, dDrop, dNever, dCont, dBreak, dCall, dCallK, dTup, dLst, dLstM, dIf, dFor, dWhile, dItems, dRange1, dRange2, dEnum, dZip, dLc, dLcM, wipeD, eTup, eCons, eNil, eSub, dCut, dPart, dNoPart, dRev, dFld, dSetFld, dMake, dMeth, dBM, dDGet2, dDGet, dDIn, dDPut, dDNew, dDisp1, dLstRg2, bSub, bDiv, bMod, bPow, bLt, bLe, bGt, bGe, bI, bI0, bB0, bIsN, bNotN, VL.isNon, uNeg, List.map_cons, List.map_nil, List.length_cons, List.length_nil, List.replicate, List.cons_append, List.nil_append, List.getElem?_cons_zero, List.getElem?_cons_succ, List.set_cons_zero, List.set_cons_succ, Nat.reduceAdd, Nat.reduceSub, decide_eq_true_eq, if_true, if_false, Bool.false_eq_true, reduceIte, pick, List.filterMap_cons, List.filterMap_nil]
      refine comp_all (fun d => match d with
        | .tup [x, _] => x
        | _ => .non) _ gl (by rw [List.length_map, sz]; omega) (fun d hd kk hk2 => ?_) ?_
      · obtain ⟨x, _, rfl⟩ := List.mem_map.mp hd
        simp only [pcD, startD, dRet, dRetN, dAndV, dOrV, dCB, dNotV, dCons, dNil, dVar, dC, dAnd, dOr, dNot, dTest, dBin, dUn, dChain, dIfS, dSeq, dAsg, eName, dPar, dPar3, dNext, dDrop, dNever, dCont, dBreak, dCall, dCallK, dTup, dLst, dLstM, dIf, dFor, dWhile, dItems, dRange1, dRange2, dEnum, dZip, dLc, dLcM, wipeD, eTup, eCons, eNil, eSub, dCut, dPart, dNoPart, dRev, dFld, dSetFld, dMake, dMeth, dBM, dDGet2, dDGet, dDIn, dDPut, dDNew, dDisp1, dLstRg2, bSub, bDiv, bMod, bPow, bLt, bLe, bGt, bGe, bI, bI0, bB0, bIsN, bNotN, VL.isNon, uNeg, List.map_cons, List.map_nil, List.length_cons, List.length_nil, List.replicate, List.cons_append, List.nil_append, List.getElem?_cons_zero, List.getElem?_cons_succ, List.set_cons_zero, List.set_cons_succ, Nat.reduceAdd, Nat.reduceSub, decide_eq_true_eq, if_true, if_false, Bool.false_eq_true, reduceIte, pick, List.filterMap_cons, List.filterMap_nil]
        exact ⟨trivial, hk2⟩
      · refine ⟨by rw [List.length_map, List.length_take, sz]; have := s3.N60; omega, hn _ _ ⟨k + 1, rfl, ?_, rfl, by rw [s3.len] at hk; omega⟩⟩
        rw [List.take_add_one, List.getElem?_eq_getElem hkl, List.map_append, List.map_map]
        rfl
  · rintro i d δ G3 nx hd ⟨f, lots, p3, rfl, s3, or_, j1, j2⟩ hn
    refine ⟨trivial, ?_⟩
    rw [List.getElem?_map] at hd
    obtain ⟨x, hx, rfl⟩ := Option.map_eq_some_iff.mp hd
    have hi : i < (M ++ O).length := (List.getElem?_eq_some_iff.mp hx).1
    have vx := valid x (List.mem_of_getElem? hx)
    have hL := geo_L g vx
    have o := or_ hL
    have tk : (M ++ O).take (i + 1) = (M ++ O).take i ++ [x] := by
      rw [List.take_add_one, hx]; rfl
    have nx0 : x ∉ (M ++ O).take i := fun m => by
      have nd := nMO
      rw [← List.take_append_drop i (M ++ O), List.nodup_append] at nd
      have : x ∈ (M ++ O).drop i := by
        rw [List.drop_eq_getElem_cons hi]
        rw [List.getElem?_eq_getElem hi] at hx
        cases hx
        exact List.mem_cons_self
      exact nd.2.2 x m x this rfl
    have fx : f x = none := by
      cases e : f x with
      | none => rfl
      | some t => exact absurd (j1 x t e) nx0
    simp only [s3.ins, startD, dRet, dRetN, dAndV, dOrV, dCB, dNotV, dCons, dNil, dVar, dC, dAnd, dOr, dNot, dTest, dBin, dUn, dChain, dIfS, dSeq, dAsg, eName, dPar, dPar3, dNext, dDrop, dNever, dCont, dBreak, dCall, dCallK, dTup, dLst, dLstM, dIf, dFor, dWhile, dItems, dRange1, dRange2, dEnum, dZip, dLc, dLcM, wipeD, eTup, eCons, eNil, eSub, dCut, dPart, dNoPart, dRev, dFld, dSetFld, dMake, dMeth, dBM, dDGet2, dDGet, dDIn, dDPut, dDNew, dDisp1, dLstRg2, bSub, bDiv, bMod, bPow, bLt, bLe, bGt, bGe, bI, bI0, bB0, bIsN, bNotN, VL.isNon, uNeg, List.map_cons, List.map_nil, List.length_cons, List.length_nil, List.replicate, List.cons_append, List.nil_append, List.getElem?_cons_zero, List.getElem?_cons_succ, List.set_cons_zero, List.set_cons_succ, Nat.reduceAdd, Nat.reduceSub, decide_eq_true_eq, if_true, if_false, Bool.false_eq_true, reduceIte, pick, List.filterMap_cons, List.filterMap_nil]
    refine ⟨trivial, rfl, G, sp, pl, la, pt, L, N, f, lots, x, rfl, s3, fun y t e => valid y (List.mem_of_mem_take (j1 y t e)), vx, fx, fun G4 c ch r hh ix lk lnd hinj hw s4 => ?_, fun G4 R s4 hR cl => ?_⟩
    · obtain ⟨o', pl', cl'⟩ := o.moved lk lnd hL fx hw hinj
      refine hn _ _ ⟨_, _, _, rfl, s4, fun _ => o', fun y t e => ?_, fun y hy => ?_⟩
      · rw [tk]
        rcases (pl' y).mp (by rw [e]; simp) with z | z
        · cases e2 : f y with
          | none => exact absurd e2 z
          | some t2 => exact List.mem_append_left _ (j1 y t2 e2)
        · rw [z]; simp
      · rw [tk] at hy
        rcases List.mem_append.mp hy with z | z
        · rcases j2 y z with z | ⟨z1, R, z2, z3⟩
          · exact .inl ((pl' y).mpr (.inl z))
          · exact .inr ⟨z1, R, cl' R z2, z3⟩
        · exact .inl ((pl' y).mpr (.inr (List.mem_singleton.mp z)))
    · have clP : ClosedP pt L N f lots fun y => y ∈ R := fun y hy r hr => cl y hy r hr
      refine hn _ _ ⟨f, lots, _, rfl, s4, or_, fun y t e => ?_, fun y hy => ?_⟩
      · rw [tk]; exact List.mem_append_left _ (j1 y t e)
      · rw [tk] at hy
        rcases List.mem_append.mp hy with z | z
        · exact j2 y z
        · rw [List.mem_singleton.mp z]
          refine .inr ⟨?_, _, clP, hR⟩
          rcases List.mem_append.mp (List.mem_of_getElem? hx) with z | z
          · exfalso
            have hm := (hM x).mp z
            refine must_ok g o (fun y r e => ?_) hm fx clP hR
            have hy := j1 y r e
            -- what was placed before a must is a must
            have iM : i < M.length := by
              apply Classical.byContradiction
              intro hn
              have : x ∈ (M ++ O).take i := by
                rw [List.take_append]
                refine List.mem_append_left _ ?_
                rw [List.take_of_length_le (by omega)]
                exact z
              exact nx0 this
            rw [List.take_append_of_le_length (by omega)] at hy
            exact (hM y).mp (List.mem_of_mem_take hy)
          · exact (hO x).mp z
end
end K84
set_option Elab.async false
set_option linter.all false
set_option maxRecDepth 100000
set_option maxHeartbeats 4000000
/-! k84: rounds_of. -/
namespace K84
open PySem L2 VL M84
def rowD (ns : List Int) : D := .tup (ns.map .int)
structure RowI (U : Int) (rs : List Rt) (ns : List Int) : Prop where
  len : ns.length = rs.length
  ent : ∀ (p : Nat) r n, rs[p]? = some r → ns[p]? = some n → 0 ≤ n ∧ 0 - r.2 < n * r.2 - r.1 ∧ n * r.2 - r.1 < r.2
  tot : ns.sum = Lsum U rs
def ent (rows : List (List Int)) (p : Nat) (i : Nat) : Int := (rows.getD i []).getD p 0
def LagI (rs : List Rt) (rows : List (List Int)) : Prop := ∀ (p : Nat) r, rs[p]? = some r → ∀ T : Nat, T ≤ rows.length → 0 - r.2 < T * r.1 - sm (List.range T) (ent rows p) * r.2 ∧ T * r.1 - sm (List.range T) (ent rows p) * r.2 < r.2
structure TabI (U : Int) (rs : List Rt) (rows : List (List Int)) : Prop where
  row : ∀ ns ∈ rows, RowI U rs ns
  lag : LagI rs rows
def S_rounds_of : SpD := fun ds G Q => ∃ rs U N, ds = [ratsD rs, .int ((N : Nat) : Int)] ∧ RsOk U rs ∧ N ≤ 60 ∧ ∀ (G' : Hd) (p : Addr) (rows : List (List Int)), KeepsG G G' → G p = none → G' p = some (.lst (rows.map rowD)) → rows.length = N → TabI U rs rows → Q (.ref p) G'
def rowF (ps : List Int) : Nat → List Int → List Int
  | _, [] => []
  | i, w :: r => (w + if (i : Int) ∈ ps then 1 else 0) :: rowF ps (i + 1) r
theorem rowF_len (ps : List Int) : ∀ (i : Nat) (ws : List Int), (rowF ps i ws).length = ws.length
  | _, [] => rfl
  | i, w :: r => by unfold rowF; rw [List.length_cons, List.length_cons, rowF_len]
theorem rowF_get (ps : List Int) : ∀ (i : Nat) (ws : List Int) (p : Nat), (rowF ps i ws)[p]? = (ws[p]?).map fun w => w + if ((i + p : Nat) : Int) ∈ ps then 1 else 0
  | _, [], _ => by simp [rowF]
  | i, w :: r, 0 => by simp [rowF]
  | i, w :: r, p + 1 => by
    have := rowF_get ps (i + 1) r p
    rw [show i + 1 + p = i + (p + 1) by omega] at this
    simpa [rowF] using this
theorem rowF_sum (ps : List Int) : ∀ (i : Nat) (ws : List Int), (rowF ps i ws).sum = ws.sum + sm (List.range ws.length) fun p => if ((i + p : Nat) : Int) ∈ ps then 1 else 0
  | _, [] => rfl
  | i, w :: r => by
    unfold rowF
    rw [List.sum_cons, List.sum_cons, rowF_sum ps (i + 1) r, List.length_cons, List.range_succ_eq_map, sm_cons, sm_map]
    have : sm (List.range r.length) (fun p => if ((i + 1 + p : Nat) : Int) ∈ ps then (1 : Int) else 0) = sm (List.range r.length) fun x => if ((i + x.succ : Nat) : Int) ∈ ps then (1 : Int) else 0 := sm_congr fun p _ => by rw [show i + 1 + p = i + p.succ by omega]
    rw [this]
    simp only [Nat.add_zero]
    omega
def wholesOf (rs : List Rt) : List Int := rs.map fun r => r.1 / r.2
def partsOf (rs : List Rt) : List Rt := rs.map fun r => (r.1 % r.2, r.2)
theorem geo_of {U : Int} {rs : List Rt} (h : RsOk U rs) (N : Nat) : Geo (partsOf rs) (Lsum U rs - (wholesOf rs).sum) N U := by
  refine ⟨h.U0, fun r hr => ?_, ?_⟩
  · obtain ⟨x, hx, rfl⟩ := List.mem_map.mp hr
    have ro := h.each x hx
    exact ⟨Int.emod_nonneg _ (by have := ro.u0; omega), Int.emod_lt_of_pos _ ro.u0, ro.u1⟩
  · have key : ∀ l : List Rt, (∀ r ∈ l, ROk U r) → sm (partsOf l) (fun r => r.1 * (U / r.2)) = A U l - (wholesOf l).sum * U := by
      intro l
      induction l with
      | nil => intro _; simp [partsOf, wholesOf, A, sm]
      | cons r l ih =>
        intro hl
        have ro := hl r List.mem_cons_self
        have i2 := ih fun s hs => hl s (List.mem_cons_of_mem _ hs)
        unfold partsOf wholesOf A at *
        rw [List.map_cons, sm_cons, i2, List.map_cons, List.map_cons, List.sum_cons, List.sum_cons, Int.add_mul]
        have e := Int.mul_ediv_cancel' ro.u1
        have d := Int.emod_add_mul_ediv r.1 r.2
        have : r.1 * (U / r.2) = r.1 % r.2 * (U / r.2) + r.1 / r.2 * U := by
          conv => lhs; rw [← d]
          rw [Int.add_mul, Int.mul_comm r.2 (r.1 / r.2), Int.mul_assoc, e]
        show r.1 % r.2 * (U / r.2) + _ = _
        omega
    rw [key rs h.each, Int.sub_mul]
    obtain ⟨l, hl⟩ := h.whole
    unfold Lsum
    rw [hl, Int.mul_ediv_cancel_left _ (by have := h.U0; omega), Int.mul_comm U l]
theorem enum_rowF (ps : List Int) : ∀ (i : Nat) (ws : List Int), (enumD i (ws.map D.int)).map (fun d => match d with
    | .tup [.int j, .int w] => D.int (w + if j ∈ ps then 1 else 0)
    | _ => D.non) = (rowF ps i ws).map D.int
  | _, [] => rfl
  | i, w :: r => by
    show _ :: _ = _
    rw [enum_rowF ps (i + 1) r]
    rfl
theorem any_in (i : Int) : ∀ ps : List Int, ((ps.map D.int).any fun y => eqD y (.int i)) = decide (i ∈ ps)
  | [] => rfl
  | p :: ps => by
    rw [List.map_cons, List.any_cons, any_in i ps]
    show ((p == i) || decide (i ∈ ps)) = decide (i ∈ p :: ps)
    by_cases e : p = i
    · subst e; simp
    · have e2 : ¬ i = p := fun z => e z.symm
      simp [e, e2]
theorem flat_ints : ∀ ps : List Int, (ps.map D.int).all flatD = true
  | [] => rfl
  | p :: ps => by rw [List.map_cons, List.all_cons, flat_ints ps]; rfl
/-- the rows are a table -/
theorem rows_ok {U : Int} {rs : List Rt} (h : RsOk U rs) {N : Nat} {f : Pl} {lots : List (List Pc)} (d : Done (partsOf rs) (Lsum U rs - (wholesOf rs).sum) N U f lots) : TabI U rs (lots.map fun l => rowF (l.map (·.1)) 0 (wholesOf rs)) := by
  have wl : (wholesOf rs).length = rs.length := List.length_map ..
  have pl : (partsOf rs).length = rs.length := List.length_map ..
  have inp : ∀ (i : Nat) l, lots[i]? = some l → ∀ p : Nat, (p : Int) ∈ l.map (·.1) ↔ has f p i := fun i l hl p => by
    rw [List.mem_map]
    constructor
    · rintro ⟨x, x1, x2⟩; exact ⟨x, x2, (d.ord.cons.iff i l hl x).mp x1⟩
    · rintro ⟨x, x1, x2⟩; exact ⟨x, (d.ord.cons.iff i l hl x).mpr x2, x1⟩
  refine ⟨fun ns hns => ?_, fun p r hr T hT => ?_⟩
  · obtain ⟨l, hl, rfl⟩ := List.mem_map.mp hns
    obtain ⟨i, hi⟩ := List.getElem?_of_mem hl
    refine ⟨by rw [rowF_len, wl], fun p r n hr hn => ?_, ?_⟩
    · rw [rowF_get, Nat.zero_add] at hn
      have ew : (wholesOf rs)[p]? = some (r.1 / r.2) := by unfold wholesOf; rw [List.getElem?_map, hr]; rfl
      rw [ew] at hn
      have ro := h.each r (List.mem_of_getElem? hr)
      have e1 := Int.emod_add_mul_ediv r.1 r.2
      have e2 := Int.emod_lt_of_pos r.1 ro.u0
      have e3 := Int.emod_nonneg r.1 (show r.2 ≠ 0 by have := ro.u0; omega)
      have e4 : 0 ≤ r.1 / r.2 := Int.ediv_nonneg (Int.le_of_lt ro.n0) (Int.le_of_lt ro.u0)
      have u0 := ro.u0
      have hn' : (r.1 / r.2 + if (p : Int) ∈ l.map (·.1) then 1 else 0) = n := Option.some.inj hn
      rw [← hn', Int.add_mul, Int.mul_comm (r.1 / r.2) r.2]
      split
      · rename_i hp
        obtain ⟨x, x1, x2⟩ := (inp i l hi p).mp hp
        obtain ⟨p', rt, w1, w2, w3, _⟩ := d.ord.win x _ x2
        have : p' = p := by omega
        subst this
        unfold partsOf at w2
        rw [List.getElem?_map, hr] at w2
        cases w2
        have w3' : 0 < r.1 % r.2 := w3
        omega
      · omega
    · rw [rowF_sum, wl]
      have hc : sm (List.range rs.length) (fun p => if ((0 + p : Nat) : Int) ∈ l.map (·.1) then (1 : Int) else 0) = l.length := by
        have nd : (l.map (·.1)).Nodup := by
          unfold List.Nodup
          rw [List.pairwise_map]
          refine List.Pairwise.imp_of_mem ?_ (List.nodup_iff_pairwise_ne.mp (d.ord.cons.nd i l hi))
          intro a b ha hb hab e
          exact hab (d.ord.uniq a b i ((d.ord.cons.iff i l hi a).mp ha) ((d.ord.cons.iff i l hi b).mp hb) e)
        have nd2 : ((List.range rs.length).map fun p : Nat => (p : Int)).Nodup := by
          unfold List.Nodup
          rw [List.pairwise_map]
          exact List.Pairwise.imp (fun {a b} h e => h (by omega)) (List.nodup_iff_pairwise_ne.mp List.nodup_range)
        have := count_in nd nd2 fun x hx => by
          obtain ⟨y, hy, rfl⟩ := List.mem_map.mp hx
          have := BB_mem.mp (valid_BB d.geo.pok (d.val y _ ((d.ord.cons.iff i l hi y).mp hy)))
          rw [pl] at this
          exact List.mem_map.mpr ⟨y.1.toNat, List.mem_range.mpr (by omega), by show ((y.1.toNat : Nat) : Int) = y.1; omega⟩
        rw [List.length_map, sm_map] at this
        rw [this]
        exact sm_congr fun p _ => by rw [Nat.zero_add]
      rw [hc, d.full i l hi]
      omega
  · rw [List.length_map, d.ord.cons.len] at hT
    have ep : (partsOf rs)[p]? = some (r.1 % r.2, r.2) := by unfold partsOf; rw [List.getElem?_map, hr]; rfl
    have ew : (wholesOf rs)[p]? = some (r.1 / r.2) := by unfold wholesOf; rw [List.getElem?_map, hr]; rfl
    have lg := M84.lag d ep hT
    have es : sm (List.range T) (ent (lots.map fun l => rowF (l.map (·.1)) 0 (wholesOf rs)) p) = T * (r.1 / r.2) + sm (List.range T) (fun i : Nat => @ite Int (has f p i) (Classical.propDecidable _) 1 0) := by
      have : (T : Int) * (r.1 / r.2) = sm (List.range T) fun _ => r.1 / r.2 := by rw [sm_const, List.length_range, Int.mul_comm]
      rw [this, ← sm_add]
      refine sm_congr fun i hi => ?_
      have hi' : i < lots.length := by rw [d.ord.cons.len]; have := List.mem_range.mp hi; omega
      unfold ent
      have g1 : (lots.map fun l => rowF (l.map (·.1)) 0 (wholesOf rs)).getD i [] = rowF (lots[i].map (·.1)) 0 (wholesOf rs) := by
        rw [List.getD_eq_getElem?_getD, List.getElem?_map, List.getElem?_eq_getElem hi']
        rfl
      have g2 : (rowF (lots[i].map (·.1)) 0 (wholesOf rs)).getD p 0 = r.1 / r.2 + if (p : Int) ∈ lots[i].map (·.1) then 1 else 0 := by
        rw [List.getD_eq_getElem?_getD, rowF_get, ew, Nat.zero_add]
        rfl
      rw [g1, g2]
      congr 1
      by_cases q : has f p i
      · rw [if_pos q, if_pos ((inp i _ (List.getElem?_eq_getElem hi') p).mpr q)]
      · rw [if_neg q, if_neg (fun z => q ((inp i _ (List.getElem?_eq_getElem hi') p).mp z))]
    rw [es, Int.add_mul]
    have e1 := Int.emod_add_mul_ediv r.1 r.2
    have e5 : (T : Int) * r.1 = T * (r.1 % r.2) + T * (r.1 / r.2) * r.2 := by
      conv => lhs; rw [← e1]
      rw [Int.mul_add, Int.mul_comm r.2, Int.mul_assoc]
    dsimp only at lg
    constructor <;> omega
section
variable {P : Program} {w : World} {K : PySem.W.Frag} {mg : Str → Option Value} {base : Heap} {k : Nat}
theorem ok_rounds_of (T : Txt K mg) : FnA P w K mg base 7 T.f_rounds_of T.d_rounds_of ["ratios", "many"] S_rounds_of := by
  refine (w_rounds_of (k := 6) T (VL.FnA.mono (k := 6) (ok_spread T) (by decide)) (VL.FnA.mono (k := 6) (ok_sum_of T) (by decide)) (VL.FnA.mono (k := 6) (ok_want_at_most T) (by decide)) (VL.FnA.mono (k := 6) (ok_want_many T) (by decide)) (ok_want_ratios T) (by rintro ds G Q ⟨_, _, _, rfl, _⟩; rfl)).2 fun ds G Q h => ?_
  obtain ⟨rs, U, N, rfl, h, N60, q⟩ := h
  have l7 := h.len1
  simp only [w_rounds_of, startD, dRet, dRetN, dAndV, dOrV, dCB, dNotV, dCons, dNil, dVar, dC, dAnd, dOr, dNot, dTest, dBin, dUn, dChain, dIfS, dSeq, dAsg, eName, dPar, dPar3, dNext, dDrop, dNever, dCont, dBreak, dCall, dCallK, dTup, dLst, dLstM, dIf, dFor, dWhile, dItems, dRange1, dRange2, dEnum, dZip, wipeD, eTup, eCons, eNil, eSub, dCut, dPart, dNoPart, dRev, dFld, dSetFld, dMake, dMeth, dBM, dDGet2, dDGet, dDIn, dDPut, dDNew, dDisp1, dLstRg2, bSub, bDiv, bMod, bPow, bLt, bLe, bGt, bGe, bI, bI0, bB0, bIsN, bNotN, VL.isNon, uNeg, List.map_cons, List.map_nil, List.length_cons, List.length_nil, List.replicate, List.cons_append, List.nil_append, List.getElem?_cons_zero, List.getElem?_cons_succ, List.set_cons_zero, List.set_cons_succ, Nat.reduceAdd, Nat.reduceSub, decide_eq_true_eq, if_true, if_false, Bool.false_eq_true, reduceIte, pick, List.filterMap_cons, List.filterMap_nil]
  refine ⟨rs, U, rfl, h, N, 0, 60, rfl, by omega, by omega, by omega, ?_⟩
  simp only [cLen, seqOf, ratsD, startD, dRet, dRetN, dAndV, dOrV, dCB, dNotV, dCons, dNil, dVar, dC, dAnd, dOr, dNot, dTest, dBin, dUn, dChain, dIfS, dSeq, dAsg, eName, dPar, dPar3, dNext, dDrop, dNever, dCont, dBreak, dCall, dCallK, dTup, dLst, dLstM, dIf, dFor, dWhile, dItems, dRange1, dRange2, dEnum, dZip, wipeD, eTup, eCons, eNil, eSub, dCut, dPart, dNoPart, dRev, dFld, dSetFld, dMake, dMeth, dBM, dDGet2, dDGet, dDIn, dDPut, dDNew, dDisp1, dLstRg2, bSub, bDiv, bMod, bPow, bLt, bLe, bGt, bGe, bI, bI0, bB0, bIsN, bNotN, VL.isNon, uNeg, List.map_cons, List.map_nil, List.length_cons, List.length_nil, List.replicate, List.cons_append, List.nil_append, List.getElem?_cons_zero, List.getElem?_cons_succ, List.set_cons_zero, List.set_cons_succ, Nat.reduceAdd, Nat.reduceSub, decide_eq_true_eq, if_true, if_false, Bool.false_eq_true, reduceIte, pick, List.filterMap_cons, List.filterMap_nil]
  have sz : sizeLine = 16777216 := by decide
  have ll : (rs.map ratD).length = rs.length := List.length_map ..
  have mm : (rs.length : Int) * (N : Int) ≤ 7 * 60 := Int.mul_le_mul (by omega) (by omega) (by omega) (by omega)
  rw [ll]
  refine ⟨.inr ⟨by omega, by omega⟩, _, _, _, rfl, by omega, ?_⟩
  show dItems _ _ _ _
  unfold dItems
  simp only [startD, dRet, dRetN, dAndV, dOrV, dCB, dNotV, dCons, dNil, dVar, dC, dAnd, dOr, dNot, dTest, dBin, dUn, dChain, dIfS, dSeq, dAsg, eName, dPar, dPar3, dNext, dDrop, dNever, dCont, dBreak, dCall, dCallK, dTup, dLst, dLstM, dIf, dFor, dWhile, dRange1, dRange2, dEnum, dZip, wipeD, eTup, eCons, eNil, eSub, dCut, dPart, dNoPart, dRev, dFld, dSetFld, dMake, dMeth, dBM, dDGet2, dDGet, dDIn, dDPut, dDNew, dDisp1, dLstRg2, bSub, bDiv, bMod, bPow, bLt, bLe, bGt, bGe, bI, bI0, bB0, bIsN, bNotN, VL.isNon, uNeg, List.map_cons, List.map_nil, List.length_cons, List.length_nil, List.replicate, List.cons_append, List.nil_append, List.getElem?_cons_zero, List.getElem?_cons_succ, List.set_cons_zero, List.set_cons_succ, Nat.reduceAdd, Nat.reduceSub, decide_eq_true_eq, if_true, if_false, Bool.false_eq_true, reduceIte, pick, List.filterMap_cons, List.filterMap_nil]
  have m1 : (rs.map ratD).map (fun d => match d with
      | .tup [.int n, .int u] => D.int (n / u)
      | _ => D.non) = (wholesOf rs).map D.int := by
    unfold wholesOf
    rw [List.map_map, List.map_map]
    rfl
  have m2 : (rs.map ratD).map (fun d => match d with
      | .tup [.int n, .int u] => D.tup [.int (n % u), .int u]
      | _ => D.non) = (partsOf rs).map ratD := by
    unfold partsOf
    rw [List.map_map, List.map_map]
    rfl
  refine comp_all (fun d => match d with
      | .tup [.int n, .int u] => D.int (n / u)
      | _ => D.non) _ trivial (by rw [ll, sz]; omega) (fun d hd k hk => ?_) ?_
  · obtain ⟨r, hr, rfl⟩ := List.mem_map.mp hd
    have := all_u h r hr
    simp only [ratD, startD, dRet, dRetN, dAndV, dOrV, dCB, dNotV, dCons, dNil, dVar, dC, dAnd, dOr, dNot, dTest, dBin, dUn, dChain, dIfS, dSeq, dAsg, eName, dPar, dPar3, dNext, dDrop, dNever, dCont, dBreak, dCall, dCallK, dTup, dLst, dLstM, dIf, dFor, dWhile, dItems, dRange1, dRange2, dEnum, dZip, dLc, dLcM, wipeD, eTup, eCons, eNil, eSub, dCut, dPart, dNoPart, dRev, dFld, dSetFld, dMake, dMeth, dBM, dDGet2, dDGet, dDIn, dDPut, dDNew, dDisp1, dLstRg2, bSub, bDiv, bMod, bPow, bLt, bLe, bGt, bGe, bI, bI0, bB0, bIsN, bNotN, VL.isNon, uNeg, List.map_cons, List.map_nil, List.length_cons, List.length_nil, List.replicate, List.cons_append, List.nil_append, List.getElem?_cons_zero, List.getElem?_cons_succ, List.set_cons_zero, List.set_cons_succ, Nat.reduceAdd, Nat.reduceSub, decide_eq_true_eq, if_true, if_false, Bool.false_eq_true, reduceIte, pick, List.filterMap_cons, List.filterMap_nil]
    exact ⟨trivial, ⟨this.1, by omega⟩, hk⟩
  rw [m1]
  show dCL _ _ _ _ _ (rs.map ratD) _ _ _
  refine comp_all (fun d => match d with
      | .tup [.int n, .int u] => D.tup [.int (n % u), .int u]
      | _ => D.non) _ trivial (by rw [ll, sz]; omega) (fun d hd k hk => ?_) ?_
  · obtain ⟨r, hr, rfl⟩ := List.mem_map.mp hd
    have := all_u h r hr
    simp only [ratD, startD, dRet, dRetN, dAndV, dOrV, dCB, dNotV, dCons, dNil, dVar, dC, dAnd, dOr, dNot, dTest, dBin, dUn, dChain, dIfS, dSeq, dAsg, eName, dPar, dPar3, dNext, dDrop, dNever, dCont, dBreak, dCall, dCallK, dTup, dLst, dLstM, dIf, dFor, dWhile, dItems, dRange1, dRange2, dEnum, dZip, dLc, dLcM, wipeD, eTup, eCons, eNil, eSub, dCut, dPart, dNoPart, dRev, dFld, dSetFld, dMake, dMeth, dBM, dDGet2, dDGet, dDIn, dDPut, dDNew, dDisp1, dLstRg2, bSub, bDiv, bMod, bPow, bLt, bLe, bGt, bGe, bI, bI0, bB0, bIsN, bNotN, VL.isNon, uNeg, List.map_cons, List.map_nil, List.length_cons, List.length_nil, List.replicate, List.cons_append, List.nil_append, List.getElem?_cons_zero, List.getElem?_cons_succ, List.set_cons_zero, List.set_cons_succ, Nat.reduceAdd, Nat.reduceSub, decide_eq_true_eq, if_true, if_false, Bool.false_eq_true, reduceIte, pick, List.filterMap_cons, List.filterMap_nil]
    exact ⟨trivial, this.1, by decide, hk⟩
  rw [m2]
  simp only [startD, dRet, dRetN, dAndV, dOrV, dCB, dNotV, dCons, dNil, dVar, dC, dAnd, dOr, dNot, dTest, dBin, dUn, dChain, dIfS, dSeq, dAsg, eName, dPar, dPar3, dNext, dDrop, dNever, dCont, dBreak, dCall, dCallK, dTup, dLst, dLstM, dIf, dFor, dWhile, dItems, dRange1, dRange2, dEnum, dZip, wipeD, eTup, eCons, eNil, eSub, dCut, dPart, dNoPart, dRev, dFld, dSetFld, dMake, dMeth, dBM, dDGet2, dDGet, dDIn, dDPut, dDNew, dDisp1, dLstRg2, bSub, bDiv, bMod, bPow, bLt, bLe, bGt, bGe, bI, bI0, bB0, bIsN, bNotN, VL.isNon, uNeg, List.map_cons, List.map_nil, List.length_cons, List.length_nil, List.replicate, List.cons_append, List.nil_append, List.getElem?_cons_zero, List.getElem?_cons_succ, List.set_cons_zero, List.set_cons_succ, Nat.reduceAdd, Nat.reduceSub, decide_eq_true_eq, if_true, if_false, Bool.false_eq_true, reduceIte, pick, List.filterMap_cons, List.filterMap_nil]
  refine ⟨rs, U, rfl, h, ?_⟩
  simp only [cSumX, seqOf, intsOf_map, startD, dRet, dRetN, dAndV, dOrV, dCB, dNotV, dCons, dNil, dVar, dC, dAnd, dOr, dNot, dTest, dBin, dUn, dChain, dIfS, dSeq, dAsg, eName, dPar, dPar3, dNext, dDrop, dNever, dCont, dBreak, dCall, dCallK, dTup, dLst, dLstM, dIf, dFor, dWhile, dItems, dRange1, dRange2, dEnum, dZip, wipeD, eTup, eCons, eNil, eSub, dCut, dPart, dNoPart, dRev, dFld, dSetFld, dMake, dMeth, dBM, dDGet2, dDGet, dDIn, dDPut, dDNew, dDisp1, dLstRg2, bSub, bDiv, bMod, bPow, bLt, bLe, bGt, bGe, bI, bI0, bB0, bIsN, bNotN, VL.isNon, uNeg, List.map_cons, List.map_nil, List.length_cons, List.length_nil, List.replicate, List.cons_append, List.nil_append, List.getElem?_cons_zero, List.getElem?_cons_succ, List.set_cons_zero, List.set_cons_succ, Nat.reduceAdd, Nat.reduceSub, decide_eq_true_eq, if_true, if_false, Bool.false_eq_true, reduceIte, pick, List.filterMap_cons, List.filterMap_nil]
  refine ⟨partsOf rs, _, N, U, rfl, geo_of h N, N60, by unfold partsOf; rw [List.length_map]; exact l7, fun r hr => ?_, fun G1 f lots kg dn => ?_⟩
  · obtain ⟨x, hx, rfl⟩ := List.mem_map.mp hr
    exact (all_u h x hx).2
  simp only [startD, dRet, dRetN, dAndV, dOrV, dCB, dNotV, dCons, dNil, dVar, dC, dAnd, dOr, dNot, dTest, dBin, dUn, dChain, dIfS, dSeq, dAsg, eName, dPar, dPar3, dNext, dDrop, dNever, dCont, dBreak, dCall, dCallK, dTup, dLst, dLstM, dIf, dFor, dWhile, dItems, dRange1, dRange2, dEnum, dZip, wipeD, eTup, eCons, eNil, eSub, dCut, dPart, dNoPart, dRev, dFld, dSetFld, dMake, dMeth, dBM, dDGet2, dDGet, dDIn, dDPut, dDNew, dDisp1, dLstRg2, bSub, bDiv, bMod, bPow, bLt, bLe, bGt, bGe, bI, bI0, bB0, bIsN, bNotN, VL.isNon, uNeg, List.map_cons, List.map_nil, List.length_cons, List.length_nil, List.replicate, List.cons_append, List.nil_append, List.getElem?_cons_zero, List.getElem?_cons_succ, List.set_cons_zero, List.set_cons_succ, Nat.reduceAdd, Nat.reduceSub, decide_eq_true_eq, if_true, if_false, Bool.false_eq_true, reduceIte, pick, List.filterMap_cons, List.filterMap_nil]
  show dCL _ _ _ _ _ (lots.map fun l => D.lst (l.map fun x => .int x.1)) _ _ _
  have ln := dn.ord.cons.len
  have m3 : (lots.map fun l => D.lst (l.map fun x => D.int x.1)).map (fun d => match d with
      | .lst ps => D.tup ((enumD 0 ((wholesOf rs).map D.int)).map fun d => match d with
        | .tup [.int j, .int w] => D.int (w + if (ps.any fun y => eqD y (.int j)) = true then 1 else 0)
        | _ => D.non)
      | _ => D.non) = (lots.map fun l => rowF (l.map (·.1)) 0 (wholesOf rs)).map rowD := by
    rw [List.map_map, List.map_map]
    apply List.map_congr_left
    intro l _
    show D.tup _ = D.tup _
    congr 1
    have e1 : (l.map fun x => D.int x.1) = (l.map (·.1)).map D.int := by rw [List.map_map]; rfl
    rw [e1, ← enum_rowF]
    apply List.map_congr_left
    intro d _
    split
    · rw [any_in]
      simp only [decide_eq_true_eq]
    · rfl
  refine comp_all (fun d => match d with
      | .lst ps => D.tup ((enumD 0 ((wholesOf rs).map D.int)).map fun d => match d with
        | .tup [.int j, .int w] => D.int (w + if (ps.any fun y => eqD y (.int j)) = true then 1 else 0)
        | _ => D.non)
      | _ => D.non) _ trivial (by rw [List.length_map, ln, sz]; omega) (fun d hd k hk => ?_) ?_
  · obtain ⟨l, hl, rfl⟩ := List.mem_map.mp hd
    simp only [seqOf, keepD, startD, dRet, dRetN, dAndV, dOrV, dCB, dNotV, dCons, dNil, dVar, dC, dAnd, dOr, dNot, dTest, dBin, dUn, dChain, dIfS, dSeq, dAsg, eName, dPar, dPar3, dNext, dDrop, dNever, dCont, dBreak, dCall, dCallK, dTup, dLst, dLstM, dIf, dFor, dWhile, dItems, dRange1, dRange2, dEnum, dZip, dLc, dLcM, wipeD, eTup, eCons, eNil, eSub, dCut, dPart, dNoPart, dRev, dFld, dSetFld, dMake, dMeth, dBM, dDGet2, dDGet, dDIn, dDPut, dDNew, dDisp1, dLstRg2, bSub, bDiv, bMod, bPow, bLt, bLe, bGt, bGe, bI, bI0, bB0, bIsN, bNotN, VL.isNon, uNeg, List.map_cons, List.map_nil, List.length_cons, List.length_nil, List.replicate, List.cons_append, List.nil_append, List.getElem?_cons_zero, List.getElem?_cons_succ, List.set_cons_zero, List.set_cons_succ, Nat.reduceAdd, Nat.reduceSub, decide_eq_true_eq, if_true, if_false, Bool.false_eq_true, reduceIte, pick, List.filterMap_cons, List.filterMap_nil]
    refine comp_all (fun d => match d with
        | .tup [.int j, .int w] => D.int (w + if ((l.map fun x => D.int x.1).any fun y => eqD y (.int j)) = true then 1 else 0)
        | _ => D.non) _ trivial (by rw [enumD_length, List.length_map]; unfold wholesOf; rw [List.length_map, sz]; omega) (fun d hd k hk => ?_) ?_
    · obtain ⟨i, hi⟩ := List.getElem?_of_mem hd
      obtain ⟨z, hz, rfl⟩ := enumD_get 0 i _ _ hi
      rw [List.getElem?_map] at hz
      obtain ⟨w0, hw0, rfl⟩ := Option.map_eq_some_iff.mp hz
      have e1 : (l.map fun x => D.int x.1) = (l.map (·.1)).map D.int := by rw [List.map_map]; rfl
      simp only [bIn, seqOf, cInt, bAdd, startD, dRet, dRetN, dAndV, dOrV, dCB, dNotV, dCons, dNil, dVar, dC, dAnd, dOr, dNot, dTest, dBin, dUn, dChain, dIfS, dSeq, dAsg, eName, dPar, dPar3, dNext, dDrop, dNever, dCont, dBreak, dCall, dCallK, dTup, dLst, dLstM, dIf, dFor, dWhile, dItems, dRange1, dRange2, dEnum, dZip, dLc, dLcM, wipeD, eTup, eCons, eNil, eSub, dCut, dPart, dNoPart, dRev, dFld, dSetFld, dMake, dMeth, dBM, dDGet2, dDGet, dDIn, dDPut, dDNew, dDisp1, dLstRg2, bSub, bDiv, bMod, bPow, bLt, bLe, bGt, bGe, bI, bI0, bB0, bIsN, bNotN, VL.isNon, uNeg, List.map_cons, List.map_nil, List.length_cons, List.length_nil, List.replicate, List.cons_append, List.nil_append, List.getElem?_cons_zero, List.getElem?_cons_succ, List.set_cons_zero, List.set_cons_succ, Nat.reduceAdd, Nat.reduceSub, decide_eq_true_eq, if_true, if_false, Bool.false_eq_true, reduceIte, pick, List.filterMap_cons, List.filterMap_nil]
      refine ⟨trivial, rfl, by rw [e1]; exact flat_ints _, ?_⟩
      exact hk
    · simp only [cTuple, seqOf, startD, dRet, dRetN, dAndV, dOrV, dCB, dNotV, dCons, dNil, dVar, dC, dAnd, dOr, dNot, dTest, dBin, dUn, dChain, dIfS, dSeq, dAsg, eName, dPar, dPar3, dNext, dDrop, dNever, dCont, dBreak, dCall, dCallK, dTup, dLst, dLstM, dIf, dFor, dWhile, dItems, dRange1, dRange2, dEnum, dZip, dLc, dLcM, wipeD, eTup, eCons, eNil, eSub, dCut, dPart, dNoPart, dRev, dFld, dSetFld, dMake, dMeth, dBM, dDGet2, dDGet, dDIn, dDPut, dDNew, dDisp1, dLstRg2, bSub, bDiv, bMod, bPow, bLt, bLe, bGt, bGe, bI, bI0, bB0, bIsN, bNotN, VL.isNon, uNeg, List.map_cons, List.map_nil, List.length_cons, List.length_nil, List.replicate, List.cons_append, List.nil_append, List.getElem?_cons_zero, List.getElem?_cons_succ, List.set_cons_zero, List.set_cons_succ, Nat.reduceAdd, Nat.reduceSub, decide_eq_true_eq, if_true, if_false, Bool.false_eq_true, reduceIte, pick, List.filterMap_cons, List.filterMap_nil]
      exact hk
  · rw [m3]
    intro p hp
    refine q _ p _ (fun b o z => ?_) ?_ updD_same (by rw [List.length_map, ln]) (rows_ok h dn)
    · have := kg b o z
      rw [updD_ne (fun e => by rw [e, hp] at this; cases this)]
      exact this
    · cases e : G p with
      | none => rfl
      | some o => have := kg p o e; rw [hp] at this; cases this
end
end K84
set_option Elab.async false
set_option linter.all false
set_option maxRecDepth 100000
set_option maxHeartbeats 4000000
/-! k84: is_round, is_rounds. -/
namespace K84
open PySem L2 VL M84 Classical
def RowV (d : D) : Prop := d = .non ∨ ∃ ns : List Int, (d = rowD ns ∨ d = .lst (ns.map .int)) ∧ ns.length ≤ 100
def RowD (U : Int) (rs : List Rt) (d : D) : Prop := ∃ ns, d = rowD ns ∧ RowI U rs ns
def TabD (U : Int) (rs : List Rt) (ds : List D) : Prop := ∃ rows, ds = rows.map rowD ∧ TabI U rs rows
def zipOk (c : Int → Rt → Prop) : List Int → List Rt → Prop
  | n :: ns, r :: rs => c n r ∧ zipOk c ns rs
  | _, _ => True
theorem zipOk_iff {c : Int → Rt → Prop} : ∀ {ns : List Int} {rs : List Rt}, zipOk c ns rs ↔ ∀ (p : Nat) n r, ns[p]? = some n → rs[p]? = some r → c n r
  | [], rs => ⟨fun _ p n r h => by simp at h, fun _ => by unfold zipOk; trivial⟩
  | n :: ns, [] => ⟨fun _ p n r _ h => by simp at h, fun _ => by unfold zipOk; trivial⟩
  | n :: ns, r :: rs => by
    unfold zipOk
    rw [zipOk_iff (ns := ns) (rs := rs)]
    constructor
    · rintro ⟨a, b⟩ p m s h1 h2
      cases p with
      | zero =>
        simp at h1 h2
        rw [← h1, ← h2]; exact a
      | succ p => exact b p m s (by simpa using h1) (by simpa using h2)
    · intro h
      exact ⟨h 0 n r rfl rfl, fun p m s h1 h2 => h (p + 1) m s (by simpa using h1) (by simpa using h2)⟩
theorem rowD_inj {a b : List Int} (h : rowD a = rowD b) : a = b := by
  unfold rowD at h
  injection h with h
  induction a generalizing b with
  | nil => cases b with
    | nil => rfl
    | cons x y => simp at h
  | cons x a ih => cases b with
    | nil => simp at h
    | cons y b =>
      rw [List.map_cons, List.map_cons] at h
      injection h with h1 h2
      injection h1 with h1
      rw [h1, ih h2]
def cRound (n : Int) (r : Rt) : Prop := n - r.1 / r.2 = 0 ∨ n - r.1 / r.2 = if 0 < r.1 % r.2 then 1 else 0
theorem cRound_iff {n : Int} {r : Rt} (u0 : 0 < r.2) : cRound n r ↔ 0 - r.2 < n * r.2 - r.1 ∧ n * r.2 - r.1 < r.2 := by
  have e1 := Int.emod_add_mul_ediv r.1 r.2
  have e2 := Int.emod_lt_of_pos r.1 u0
  have e3 := Int.emod_nonneg r.1 (show r.2 ≠ 0 by omega)
  have e4 : n * r.2 - r.1 = (n - r.1 / r.2) * r.2 - r.1 % r.2 := by
    rw [Int.sub_mul, Int.mul_comm (r.1 / r.2) r.2]; omega
  rw [e4]
  unfold cRound
  generalize n - r.1 / r.2 = k
  have k1 : 2 ≤ k → 2 * r.2 ≤ k * r.2 := fun h => Int.mul_le_mul_of_nonneg_right h (Int.le_of_lt u0)
  have k2 : k ≤ -1 → k * r.2 ≤ -1 * r.2 := fun h => Int.mul_le_mul_of_nonneg_right h (Int.le_of_lt u0)
  have k3 : k = 0 → k * r.2 = 0 := fun h => by rw [h, Int.zero_mul]
  have k4 : k = 1 → k * r.2 = r.2 := fun h => by rw [h, Int.one_mul]
  constructor
  · rintro (h | h)
    · have := k3 h; omega
    · split at h
      · have := k4 h; omega
      · have := k3 h; omega
  · rintro ⟨a, b⟩
    by_cases h0 : k = 0
    · exact .inl h0
    · by_cases h1 : k = 1
      · have := k4 h1
        exact .inr (by rw [if_pos (by omega)]; exact h1)
      · exfalso
        by_cases h2 : 2 ≤ k
        · have := k1 h2; omega
        · have := k2 (by omega); omega
theorem all_count (ns : List Int) : (ns.map (fun n => decide ((0 : Int) ≤ n))).all id = decide (∀ n ∈ ns, 0 ≤ n) := by
  rw [Bool.eq_iff_iff, List.all_eq_true]
  simp
def S_is_round : SpD := fun ds G Q => ∃ rs U d, ds = [ratsD rs, d] ∧ RsOk U rs ∧ RowV d ∧ Q (.bl (decide (RowD U rs d))) G
section
variable {P : Program} {w : World} {K : PySem.W.Frag} {mg : Str → Option Value} {base : Heap} {k : Nat}
theorem ok_is_round (T : Txt K mg) : FnA P w K mg base 4 T.f_is_round T.d_is_round ["ratios", "value"] S_is_round := by
  refine (w_is_round (k := 3) T (ok_sum_of T) (VL.FnA.mono (k := 3) (ok_is_count T) (by decide)) (by rintro ds G Q ⟨_, _, _, rfl, _⟩; rfl)).2 fun ds G Q h => ?_
  obtain ⟨rs, U, d, rfl, h, hv, q⟩ := h
  have sz : sizeLine = 16777216 := by decide
  have l7 := h.len1
  rcases hv with rfl | ⟨ns, rfl | rfl, hl⟩
  · simp only [w_is_round, cIsi, tyD, startD, dRet, dRetN, dAndV, dOrV, dCB, dNotV, dCons, dNil, dVar, dC, dAnd, dOr, dNot, dTest, dBin, dUn, dChain, dIfS, dSeq, dAsg, eName, dPar, dPar3, dNext, dDrop, dNever, dCont, dBreak, dCall, dCallK, dTup, dLst, dLstM, dIf, dWhile, dItems, dRange1, dRange2, dEnum, dZip, dLc, dLcM, wipeD, eTup, eCons, eNil, eSub, dCut, dPart, dNoPart, dRev, dFld, dSetFld, dMake, dMeth, dBM, dDGet2, dDGet, dDIn, dDPut, dDNew, dDisp1, dLstRg2, bSub, bDiv, bMod, bPow, bLt, bLe, bGt, bGe, bI, bI0, bB0, bIsN, bNotN, VL.isNon, uNeg, List.map_cons, List.map_nil, List.length_cons, List.length_nil, List.replicate, List.cons_append, List.nil_append, List.getElem?_cons_zero, List.getElem?_cons_succ, List.set_cons_zero, List.set_cons_succ, Nat.reduceAdd, Nat.reduceSub, decide_eq_true_eq, if_true, if_false, Bool.false_eq_true, reduceIte, pick, List.filterMap_cons, List.filterMap_nil]
    refine ⟨by decide, ?_⟩
    rw [decide_eq_false (by rintro ⟨ns, e, _⟩; cases e)] at q
    exact q
  · simp only [w_is_round, rowD, cIsi, tyD, cLen, seqOf, ratsD, bNe, bEq, startD, dRet, dRetN, dAndV, dOrV, dCB, dNotV, dCons, dNil, dVar, dC, dAnd, dOr, dNot, dTest, dBin, dUn, dChain, dIfS, dSeq, dAsg, eName, dPar, dPar3, dNext, dDrop, dNever, dCont, dBreak, dCall, dCallK, dTup, dLst, dLstM, dIf, dWhile, dItems, dRange1, dRange2, dEnum, dZip, dLcM, wipeD, eTup, eCons, eNil, eSub, dCut, dPart, dNoPart, dRev, dFld, dSetFld, dMake, dMeth, dBM, dDGet2, dDGet, dDIn, dDPut, dDNew, dDisp1, dLstRg2, bSub, bDiv, bMod, bPow, bLt, bLe, bGt, bGe, bI, bI0, bB0, bIsN, bNotN, VL.isNon, uNeg, List.map_cons, List.map_nil, List.length_cons, List.length_nil, List.replicate, List.cons_append, List.nil_append, List.getElem?_cons_zero, List.getElem?_cons_succ, List.set_cons_zero, List.set_cons_succ, Nat.reduceAdd, Nat.reduceSub, decide_eq_true_eq, if_true, if_false, Bool.false_eq_true, reduceIte, pick, List.filterMap_cons, List.filterMap_nil]
    refine ⟨by decide, ?_⟩
    have l1 : (ns.map D.int).length = ns.length := List.length_map ..
    have l2 : (rs.map ratD).length = rs.length := List.length_map ..
    rw [l1, l2]
    by_cases hlen : ns.length = rs.length
    · have e1 : decide ((ns.length : Int) = rs.length) = true := decide_eq_true (by omega)
      rw [e1]
      simp only [show isB "tuple" "tuple" = true by decide, Bool.not_true, Bool.false_eq_true, if_false]
      show dCL _ _ _ _ _ (ns.map D.int) _ _ _
      refine comp_all (fun d => .bl (isCountD d)) _ trivial (by rw [l1, sz]; omega) (fun d hd k hk => ?_) ?_
      · obtain ⟨n, _, rfl⟩ := List.mem_map.mp hd
        simp only [startD, dRet, dRetN, dAndV, dOrV, dCB, dNotV, dCons, dNil, dVar, dC, dAnd, dOr, dNot, dTest, dBin, dUn, dChain, dIfS, dSeq, dAsg, eName, dPar, dPar3, dNext, dDrop, dNever, dCont, dBreak, dCall, dCallK, dTup, dLst, dLstM, dIf, dFor, dWhile, dItems, dRange1, dRange2, dEnum, dZip, dLc, dLcM, wipeD, eTup, eCons, eNil, eSub, dCut, dPart, dNoPart, dRev, dFld, dSetFld, dMake, dMeth, dBM, dDGet2, dDGet, dDIn, dDPut, dDNew, dDisp1, dLstRg2, bSub, bDiv, bMod, bPow, bLt, bLe, bGt, bGe, bI, bI0, bB0, bIsN, bNotN, VL.isNon, uNeg, List.map_cons, List.map_nil, List.length_cons, List.length_nil, List.replicate, List.cons_append, List.nil_append, List.getElem?_cons_zero, List.getElem?_cons_succ, List.set_cons_zero, List.set_cons_succ, Nat.reduceAdd, Nat.reduceSub, decide_eq_true_eq, if_true, if_false, Bool.false_eq_true, reduceIte, pick, List.filterMap_cons, List.filterMap_nil]
        exact ⟨_, _, rfl, rfl, hk⟩
      · have e2 : (ns.map D.int).map (fun d => D.bl (isCountD d)) = (ns.map fun n => decide ((0 : Int) ≤ n)).map D.bl := by
          rw [List.map_map, List.map_map]; rfl
        rw [e2]
        simp only [cBools, lstR, lstOf, blsOf_map, startD, dRet, dRetN, dAndV, dOrV, dCB, dNotV, dCons, dNil, dVar, dC, dAnd, dOr, dNot, dTest, dBin, dUn, dChain, dIfS, dSeq, dAsg, eName, dPar, dPar3, dNext, dDrop, dNever, dCont, dBreak, dCall, dCallK, dTup, dLst, dLstM, dIf, dWhile, dItems, dRange1, dRange2, dEnum, dZip, dLc, dLcM, wipeD, eTup, eCons, eNil, eSub, dCut, dPart, dNoPart, dRev, dFld, dSetFld, dMake, dMeth, dBM, dDGet2, dDGet, dDIn, dDPut, dDNew, dDisp1, dLstRg2, bSub, bDiv, bMod, bPow, bLt, bLe, bGt, bGe, bI, bI0, bB0, bIsN, bNotN, VL.isNon, uNeg, List.map_cons, List.map_nil, List.length_cons, List.length_nil, List.replicate, List.cons_append, List.nil_append, List.getElem?_cons_zero, List.getElem?_cons_succ, List.set_cons_zero, List.set_cons_succ, Nat.reduceAdd, Nat.reduceSub, decide_eq_true_eq, if_true, if_false, Bool.false_eq_true, reduceIte, pick, List.filterMap_cons, List.filterMap_nil]
        simp only [all_count]
        by_cases hc : ∀ n ∈ ns, 0 ≤ n
        · simp only [decide_eq_true hc, Bool.not_true, Bool.false_eq_true, if_false]
          show dLoop _ _ _ (zipD (ns.map D.int) (rs.map ratD)) _ _ _
          refine loop_ind (fun items δ G' => ∃ ns' rs' p1 p2 p3, items = zipD (ns'.map D.int) (rs'.map ratD) ∧ δ = [some (.tup (rs.map ratD)), some (.tup (ns.map .int)), p1, p2, p3] ∧ G' = G ∧ (∀ r ∈ rs', ROk U r) ∧ ns'.length = rs'.length ∧ (zipOk cRound ns rs ↔ zipOk cRound ns' rs')) ?_ ?_ _ _ _ ⟨ns, rs, _, _, _, rfl, rfl, rfl, h.each, hlen, Iff.rfl⟩
          · rintro δ G' ⟨ns', rs', p1, p2, p3, h1, rfl, rfl, _, hl', hz⟩
            refine ⟨⟨trivial, trivial⟩, ?_⟩
            have e : ns' = [] ∧ rs' = [] := by
              cases ns' with
              | nil => cases rs' with
                | nil => exact ⟨rfl, rfl⟩
                | cons a b => simp at hl'
              | cons a b => cases rs' with
                | nil => simp at hl'
                | cons c d => cases h1
            obtain ⟨rfl, rfl⟩ := e
            have hz1 : zipOk cRound ns rs := hz.mpr (by unfold zipOk; trivial)
            simp only [cSumX, seqOf, intsOf_map, startD, dRet, dRetN, dAndV, dOrV, dCB, dNotV, dCons, dNil, dVar, dC, dAnd, dOr, dNot, dTest, dBin, dUn, dChain, dIfS, dSeq, dAsg, eName, dPar, dPar3, dNext, dDrop, dNever, dCont, dBreak, dCall, dCallK, dTup, dLst, dLstM, dIf, dFor, dWhile, dItems, dRange1, dRange2, dEnum, dZip, dLc, dLcM, wipeD, eTup, eCons, eNil, eSub, dCut, dPart, dNoPart, dRev, dFld, dSetFld, dMake, dMeth, dBM, dDGet2, dDGet, dDIn, dDPut, dDNew, dDisp1, dLstRg2, bSub, bDiv, bMod, bPow, bLt, bLe, bGt, bGe, bI, bI0, bB0, bIsN, bNotN, VL.isNon, uNeg, List.map_cons, List.map_nil, List.length_cons, List.length_nil, List.replicate, List.cons_append, List.nil_append, List.getElem?_cons_zero, List.getElem?_cons_succ, List.set_cons_zero, List.set_cons_succ, Nat.reduceAdd, Nat.reduceSub, decide_eq_true_eq, if_true, if_false, Bool.false_eq_true, reduceIte, pick, List.filterMap_cons, List.filterMap_nil]
            refine ⟨rs, U, rfl, h, ?_⟩
            simp only [bEq, startD, dRet, dRetN, dAndV, dOrV, dCB, dNotV, dCons, dNil, dVar, dC, dAnd, dOr, dNot, dTest, dBin, dUn, dChain, dIfS, dSeq, dAsg, eName, dPar, dPar3, dNext, dDrop, dNever, dCont, dBreak, dCall, dCallK, dTup, dLst, dLstM, dIf, dFor, dWhile, dItems, dRange1, dRange2, dEnum, dZip, dLc, dLcM, wipeD, eTup, eCons, eNil, eSub, dCut, dPart, dNoPart, dRev, dFld, dSetFld, dMake, dMeth, dBM, dDGet2, dDGet, dDIn, dDPut, dDNew, dDisp1, dLstRg2, bSub, bDiv, bMod, bPow, bLt, bLe, bGt, bGe, bI, bI0, bB0, bIsN, bNotN, VL.isNon, uNeg, List.map_cons, List.map_nil, List.length_cons, List.length_nil, List.replicate, List.cons_append, List.nil_append, List.getElem?_cons_zero, List.getElem?_cons_succ, List.set_cons_zero, List.set_cons_succ, Nat.reduceAdd, Nat.reduceSub, decide_eq_true_eq, if_true, if_false, Bool.false_eq_true, reduceIte, pick, List.filterMap_cons, List.filterMap_nil]
            have ef : RowD U rs (rowD ns) ↔ ns.sum = Lsum U rs := by
              constructor
              · rintro ⟨ms, e, ri⟩
                rw [rowD_inj e]; exact ri.tot
              · intro hs
                refine ⟨ns, rfl, hlen, fun p r n hr hn => ⟨hc n (List.mem_of_getElem? hn), ?_⟩, hs⟩
                exact (cRound_iff (h.each r (List.mem_of_getElem? hr)).u0).mp (zipOk_iff.mp hz1 p n r hn hr)
            have : decide (RowD U rs (rowD ns)) = decide (ns.sum = Lsum U rs) := by
              rw [Bool.eq_iff_iff]; simp [ef]
            rw [this] at q
            exact q
          · rintro dd rr δ G' nx ⟨ns', rs', p1, p2, p3, h1, rfl, rfl, ho, hl', hz⟩ hn
            cases ns' with
            | nil => cases h1
            | cons n ns' => cases rs' with
              | nil => cases h1
              | cons r rs' =>
                rw [List.map_cons, List.map_cons] at h1
                unfold zipD at h1
                cases h1
                refine ⟨⟨trivial, trivial⟩, ?_⟩
                have ro := ho r List.mem_cons_self
                have ru := ro.u2 h.U0 h.U1
                have ru0 := ro.u0
                simp only [ratD, bIn, seqOf, flatD, List.all_cons, List.all_nil, List.any_cons, List.any_nil, eqD, cInt, startD, dRet, dRetN, dAndV, dOrV, dCB, dNotV, dCons, dNil, dVar, dC, dAnd, dOr, dNot, dTest, dBin, dUn, dChain, dIfS, dSeq, dAsg, eName, dPar, dPar3, dNext, dDrop, dNever, dCont, dBreak, dCall, dCallK, dTup, dLst, dLstM, dIf, dFor, dWhile, dItems, dRange1, dRange2, dEnum, dZip, dLc, dLcM, wipeD, eTup, eCons, eNil, eSub, dCut, dPart, dNoPart, dRev, dFld, dSetFld, dMake, dMeth, dBM, dDGet2, dDGet, dDIn, dDPut, dDNew, dDisp1, dLstRg2, bSub, bDiv, bMod, bPow, bLt, bLe, bGt, bGe, bI, bI0, bB0, bIsN, bNotN, VL.isNon, uNeg, List.map_cons, List.map_nil, List.length_cons, List.length_nil, List.replicate, List.cons_append, List.nil_append, List.getElem?_cons_zero, List.getElem?_cons_succ, List.set_cons_zero, List.set_cons_succ, Nat.reduceAdd, Nat.reduceSub, decide_eq_true_eq, if_true, if_false, Bool.false_eq_true, reduceIte, pick, List.filterMap_cons, List.filterMap_nil]
                refine ⟨trivial, trivial, ⟨ru0, by omega⟩, ru0, by decide, by decide, ?_⟩
                have ec : ((0 == n - r.1 / r.2) || (((if decide (0 < r.1 % r.2) = true then (1 : Int) else 0) == n - r.1 / r.2) || false)) = decide (cRound n r) := by
                  rw [Bool.eq_iff_iff]
                  unfold cRound
                  simp only [Bool.or_eq_true, beq_iff_eq, Bool.or_false, decide_eq_true_eq]
                  constructor <;> rintro (a | a) <;> first | exact .inl a.symm | exact .inr a.symm
                have ec2 : ((0 == n - r.1 / r.2) || (((if 0 < r.1 % r.2 then (1 : Int) else 0) == n - r.1 / r.2) || false)) = decide (cRound n r) := by
                  rw [← ec]; simp only [decide_eq_true_eq]
                simp only [ec, ec2]
                by_cases hcr : cRound n r
                · simp only [decide_eq_true hcr, Bool.not_true, Bool.false_eq_true, if_false]
                  refine ⟨rfl, hn _ _ ⟨ns', rs', _, _, _, rfl, rfl, rfl, fun s hs => ho s (List.mem_cons_of_mem _ hs), by simpa using hl', hz.trans ⟨fun a => a.2, fun a => ⟨hcr, a⟩⟩⟩⟩
                · simp only [decide_eq_false hcr, Bool.not_false, if_true]
                  rw [decide_eq_false (by
                    rintro ⟨ms, e, ri⟩
                    rw [← rowD_inj e] at ri
                    have : zipOk cRound ns rs := zipOk_iff.mpr fun p n r h1 h2 => (cRound_iff (h.each r (List.mem_of_getElem? h2)).u0).mpr (ri.ent p r n h2 h1).2
                    exact hcr (hz.mp this).1)] at q
                  exact ⟨rfl, q⟩
        · simp only [decide_eq_false hc, Bool.not_false, if_true]
          rw [decide_eq_false (by
            rintro ⟨ms, e, ri⟩
            rw [← rowD_inj e] at ri
            exact hc fun n hn => by
              obtain ⟨p, hp⟩ := List.getElem?_of_mem hn
              have hp2 : p < rs.length := by rw [← ri.len]; exact (List.getElem?_eq_some_iff.mp hp).1
              exact (ri.ent p rs[p] n (List.getElem?_eq_getElem hp2) hp).1)] at q
          exact q
    · have e1 : decide ((ns.length : Int) = rs.length) = false := decide_eq_false (by omega)
      rw [e1]
      simp only [show isB "tuple" "tuple" = true by decide, Bool.not_true, Bool.false_eq_true, if_false, Bool.not_false, if_true]
      rw [decide_eq_false (by
        rintro ⟨ms, e, ri⟩
        rw [← rowD_inj e] at ri
        exact hlen ri.len)] at q
      exact q
  · simp only [w_is_round, cIsi, tyD, startD, dRet, dRetN, dAndV, dOrV, dCB, dNotV, dCons, dNil, dVar, dC, dAnd, dOr, dNot, dTest, dBin, dUn, dChain, dIfS, dSeq, dAsg, eName, dPar, dPar3, dNext, dDrop, dNever, dCont, dBreak, dCall, dCallK, dTup, dLst, dLstM, dIf, dWhile, dItems, dRange1, dRange2, dEnum, dZip, dLc, dLcM, wipeD, eTup, eCons, eNil, eSub, dCut, dPart, dNoPart, dRev, dFld, dSetFld, dMake, dMeth, dBM, dDGet2, dDGet, dDIn, dDPut, dDNew, dDisp1, dLstRg2, bSub, bDiv, bMod, bPow, bLt, bLe, bGt, bGe, bI, bI0, bB0, bIsN, bNotN, VL.isNon, uNeg, List.map_cons, List.map_nil, List.length_cons, List.length_nil, List.replicate, List.cons_append, List.nil_append, List.getElem?_cons_zero, List.getElem?_cons_succ, List.set_cons_zero, List.set_cons_succ, Nat.reduceAdd, Nat.reduceSub, decide_eq_true_eq, if_true, if_false, Bool.false_eq_true, reduceIte, pick, List.filterMap_cons, List.filterMap_nil]
    refine ⟨by decide, ?_⟩
    rw [decide_eq_false (by rintro ⟨ms, e, _⟩; cases e)] at q
    exact q
end
end K84
set_option Elab.async false
set_option linter.all false
set_option maxRecDepth 100000
set_option maxHeartbeats 4000000
/-! k84: is_rounds. -/
namespace K84
open PySem L2 VL M84 Classical
def S_is_rounds : SpD := fun ds G Q => ∃ rs U v es, ds = [ratsD rs, v] ∧ (v = .lst es ∨ v = .tup es) ∧ RsOk U rs ∧ (∀ d ∈ es, RowV d) ∧ es.length ≤ 1000 ∧ Q (.bl (decide (TabD U rs es))) G
def totsOf (n : Nat) (rows : List (List Int)) (i : Nat) : List Int := (List.range n).map fun p => sm (List.range i) (ent rows p)
theorem rows_of {U : Int} {rs : List Rt} : ∀ {es : List D}, (∀ d ∈ es, RowD U rs d) → ∃ rows : List (List Int), es = rows.map rowD ∧ ∀ ns ∈ rows, RowI U rs ns
  | [], _ => ⟨[], rfl, fun ns h => nomatch h⟩
  | d :: es, h => by
    obtain ⟨ns, e, ri⟩ := h d List.mem_cons_self
    obtain ⟨rows, e2, r2⟩ := rows_of (es := es) fun x hx => h x (List.mem_cons_of_mem _ hx)
    refine ⟨ns :: rows, by rw [List.map_cons, e, e2], fun ms hm => ?_⟩
    rcases List.mem_cons.mp hm with q | q
    · rw [q]; exact ri
    · exact r2 ms q
theorem rows_inj : ∀ {a b : List (List Int)}, a.map rowD = b.map rowD → a = b
  | [], [], _ => rfl
  | [], _ :: _, h => by simp at h
  | _ :: _, [], h => by simp at h
  | x :: a, y :: b, h => by
    rw [List.map_cons, List.map_cons] at h
    injection h with h1 h2
    rw [rowD_inj h1, rows_inj h2]
theorem all_dec {α : Type} (p : α → Prop) : ∀ l : List α, (l.map fun x => decide (p x)).all id = decide (∀ x ∈ l, p x)
  | l => by
    rw [Bool.eq_iff_iff, List.all_eq_true]
    simp
def cLag (t : Int) (total : Int) (r : Rt) : Prop := 0 - r.2 < t * r.1 - total * r.2 ∧ t * r.1 - total * r.2 < r.2
theorem tots_get {n : Nat} {rows : List (List Int)} {i p : Nat} (h : p < n) : (totsOf n rows i)[p]? = some (sm (List.range i) (ent rows p)) := by
  unfold totsOf
  rw [List.getElem?_map, List.getElem?_range h]; rfl
theorem tots_succ {n : Nat} {rows : List (List Int)} {i : Nat} {row : List Int} (h : rows[i]? = some row) (hl : row.length = n) :
    (zipD ((totsOf n rows i).map D.int) (row.map D.int)).map (fun d => match d with
      | .tup [.int a, .int b] => D.int (a + b)
      | _ => D.non) = (totsOf n rows (i + 1)).map D.int := by
  have zm : ∀ a b : List Int, (zipD (a.map D.int) (b.map D.int)).map (fun d => match d with
      | .tup [.int a, .int b] => D.int (a + b)
      | _ => D.non) = (List.zipWith (· + ·) a b).map D.int := by
    intro a
    induction a with
    | nil => intro b; rfl
    | cons x a ih => intro b; cases b with
      | nil => rfl
      | cons y b =>
        show _ :: _ = _ :: _
        rw [ih b]
  rw [zm]
  congr 1
  apply List.ext_getElem?
  intro p
  rw [List.getElem?_zipWith]
  by_cases hp : p < n
  · rw [tots_get hp, tots_get hp, List.getElem?_eq_getElem (by omega : p < row.length)]
    show some _ = some _
    rw [List.range_succ, sm_append, sm_cons, sm_nil]
    have : ent rows p i = row[p] := by
      unfold ent
      have g1 : rows.getD i [] = row := by rw [List.getD_eq_getElem?_getD, h]; rfl
      rw [g1, List.getD_eq_getElem?_getD, List.getElem?_eq_getElem (by omega : p < row.length)]
      rfl
    rw [this, Int.add_zero]
  · have e : (totsOf n rows (i + 1))[p]? = none := List.getElem?_eq_none (by unfold totsOf; rw [List.length_map, List.length_range]; omega)
    have e2 : row[p]? = none := List.getElem?_eq_none (by omega)
    rw [e, e2]
    split <;> first | rfl | (rename_i h1 h2; cases h2)
section
variable {P : Program} {w : World} {K : PySem.W.Frag} {mg : Str → Option Value} {base : Heap} {k : Nat}
theorem ok_is_rounds (T : Txt K mg) : FnA P w K mg base 7 T.f_is_rounds T.d_is_rounds ["ratios", "value"] S_is_rounds := by
  refine (w_is_rounds (k := 6) T (VL.FnA.mono (k := 6) (ok_is_round T) (by decide)) (VL.FnA.mono (k := 6) (ok_is_list T) (by decide)) (ok_want_ratios T) (by rintro ds G Q ⟨_, _, _, _, rfl, _⟩; rfl)).2 fun ds G Q h => ?_
  obtain ⟨rs, U, v, es, rfl, hv, h, hr, hl, q⟩ := h
  have sz : sizeLine = 16777216 := by decide
  have l7 := h.len1
  have l2 : (rs.map ratD).length = rs.length := List.length_map ..
  have l2 : (rs.map ratD).length = rs.length := List.length_map ..
  obtain ⟨ty, hty, hlt⟩ : ∃ ty, tyD G v = some ty ∧ isLstT ty = true := by
    rcases hv with rfl | rfl
    · exact ⟨"list", rfl, rfl⟩
    · exact ⟨"tuple", rfl, rfl⟩
  simp only [w_is_rounds, startD, dRet, dRetN, dAndV, dOrV, dCB, dNotV, dCons, dNil, dVar, dC, dAnd, dOr, dNot, dTest, dBin, dUn, dChain, dIfS, dSeq, dAsg, eName, dPar, dPar3, dNext, dDrop, dNever, dCont, dBreak, dCall, dCallK, dTup, dLst, dLstM, dIf, dWhile, dItems, dRange1, dRange2, dEnum, dZip, dLcM, wipeD, eTup, eCons, eNil, eSub, dCut, dPart, dNoPart, dRev, dFld, dSetFld, dMake, dMeth, dBM, dDGet2, dDGet, dDIn, dDPut, dDNew, dDisp1, dLstRg2, bSub, bDiv, bMod, bPow, bLt, bLe, bGt, bGe, bI, bI0, bB0, bIsN, bNotN, VL.isNon, uNeg, List.map_cons, List.map_nil, List.length_cons, List.length_nil, List.replicate, List.cons_append, List.nil_append, List.getElem?_cons_zero, List.getElem?_cons_succ, List.set_cons_zero, List.set_cons_succ, Nat.reduceAdd, Nat.reduceSub, decide_eq_true_eq, if_true, if_false, Bool.false_eq_true, reduceIte, pick, List.filterMap_cons, List.filterMap_nil]
  refine ⟨rs, U, rfl, h, v, ty, rfl, hty, ?_⟩
  rw [hlt]
  simp only [Bool.not_true, Bool.false_eq_true, if_false]
  have le : (es.map fun d => D.bl (decide (RowD U rs d))) = (es.map fun d => decide (RowD U rs d)).map D.bl := by rw [List.map_map]; rfl
  rcases hv with rfl | rfl
  all_goals
    show dCL _ _ _ _ _ es _ _ _
    refine comp_all (fun d => .bl (decide (RowD U rs d))) _ trivial (by rw [sz]; omega) (fun d hd k hk => by
      simp only [startD, dRet, dRetN, dAndV, dOrV, dCB, dNotV, dCons, dNil, dVar, dC, dAnd, dOr, dNot, dTest, dBin, dUn, dChain, dIfS, dSeq, dAsg, eName, dPar, dPar3, dNext, dDrop, dNever, dCont, dBreak, dCall, dCallK, dTup, dLst, dLstM, dIf, dFor, dWhile, dItems, dRange1, dRange2, dEnum, dZip, dLc, dLcM, wipeD, eTup, eCons, eNil, eSub, dCut, dPart, dNoPart, dRev, dFld, dSetFld, dMake, dMeth, dBM, dDGet2, dDGet, dDIn, dDPut, dDNew, dDisp1, dLstRg2, bSub, bDiv, bMod, bPow, bLt, bLe, bGt, bGe, bI, bI0, bB0, bIsN, bNotN, VL.isNon, uNeg, List.map_cons, List.map_nil, List.length_cons, List.length_nil, List.replicate, List.cons_append, List.nil_append, List.getElem?_cons_zero, List.getElem?_cons_succ, List.set_cons_zero, List.set_cons_succ, Nat.reduceAdd, Nat.reduceSub, decide_eq_true_eq, if_true, if_false, Bool.false_eq_true, reduceIte, pick, List.filterMap_cons, List.filterMap_nil]
      exact ⟨rs, U, d, rfl, h, hr d hd, hk⟩) ?_
    rw [le]
    simp only [cBools, lstR, lstOf, blsOf_map, startD, dRet, dRetN, dAndV, dOrV, dCB, dNotV, dCons, dNil, dVar, dC, dAnd, dOr, dNot, dTest, dBin, dUn, dChain, dIfS, dSeq, dAsg, eName, dPar, dPar3, dNext, dDrop, dNever, dCont, dBreak, dCall, dCallK, dTup, dLst, dLstM, dIf, dWhile, dItems, dRange1, dRange2, dEnum, dZip, dLc, dLcM, wipeD, eTup, eCons, eNil, eSub, dCut, dPart, dNoPart, dRev, dFld, dSetFld, dMake, dMeth, dBM, dDGet2, dDGet, dDIn, dDPut, dDNew, dDisp1, dLstRg2, bSub, bDiv, bMod, bPow, bLt, bLe, bGt, bGe, bI, bI0, bB0, bIsN, bNotN, VL.isNon, uNeg, List.map_cons, List.map_nil, List.length_cons, List.length_nil, List.replicate, List.cons_append, List.nil_append, List.getElem?_cons_zero, List.getElem?_cons_succ, List.set_cons_zero, List.set_cons_succ, Nat.reduceAdd, Nat.reduceSub, decide_eq_true_eq, if_true, if_false, Bool.false_eq_true, reduceIte, pick, List.filterMap_cons, List.filterMap_nil]
    simp only [all_dec]
    by_cases hc : ∀ x ∈ es, RowD U rs x
    · obtain ⟨rows, rfl, hrow⟩ := rows_of hc
      simp only [decide_eq_true hc, Bool.not_true, Bool.false_eq_true, if_false]
      have lr : (rows.map rowD).length = rows.length := List.length_map ..
      have tot0 : (List.replicate ((rs.length : Nat) : Int).toNat [D.int 0]).flatten = (totsOf rs.length rows 0).map D.int := by
        rw [List.flatten_replicate_singleton, Int.toNat_natCast]
        unfold totsOf
        rw [List.map_map]
        have : (D.int ∘ fun p => sm (List.range 0) (ent rows p)) = fun _ => D.int 0 := rfl
        rw [this, List.map_const', List.length_range]
      simp only [bMul, cLen, seqOf, ratsD, lstOf, l2, startD, dRet, dRetN, dAndV, dOrV, dCB, dNotV, dCons, dNil, dVar, dC, dAnd, dOr, dNot, dTest, dBin, dUn, dChain, dIfS, dSeq, dAsg, eName, dPar, dPar3, dNext, dDrop, dNever, dCont, dBreak, dCall, dCallK, dTup, dLst, dLstM, dIf, dWhile, dItems, dRange1, dRange2, dEnum, dZip, dLc, dLcM, wipeD, eTup, eCons, eNil, eSub, dCut, dPart, dNoPart, dRev, dFld, dSetFld, dMake, dMeth, dBM, dDGet2, dDGet, dDIn, dDPut, dDNew, dDisp1, dLstRg2, bSub, bDiv, bMod, bPow, bLt, bLe, bGt, bGe, bI, bI0, bB0, bIsN, bNotN, VL.isNon, uNeg, List.map_cons, List.map_nil, List.length_cons, List.length_nil, List.replicate, List.cons_append, List.nil_append, List.getElem?_cons_zero, List.getElem?_cons_succ, List.set_cons_zero, List.set_cons_succ, Nat.reduceAdd, Nat.reduceSub, decide_eq_true_eq, if_true, if_false, Bool.false_eq_true, reduceIte, pick, List.filterMap_cons, List.filterMap_nil]
      refine ⟨by decide, by omega, by omega, by rw [sz]; simp; omega, ?_⟩
      rw [tot0]
      show dLoop _ _ _ (enumD 0 (rows.map rowD)) _ _ _
      refine loop_at (fun i δ G' => ∃ p3 p4 p5 p6 p7, δ = [some (.tup (rs.map ratD)), _, some (.lst ((totsOf rs.length rows i).map .int)), p3, p4, p5, p6, p7, none] ∧ G' = G ∧ ∀ (p : Nat) r, rs[p]? = some r → ∀ t : Nat, t ≤ i → cLag t (sm (List.range t) (ent rows p)) r) ?_ ?_ ⟨_, _, _, _, _, rfl, rfl, fun p r hp t ht => ?_⟩
      · rintro δ G' ⟨p3, p4, p5, p6, p7, rfl, rfl, hlag⟩
        refine ⟨trivial, ?_⟩
        simp only [startD, dRet, dRetN, dAndV, dOrV, dCB, dNotV, dCons, dNil, dVar, dC, dAnd, dOr, dNot, dTest, dBin, dUn, dChain, dIfS, dSeq, dAsg, eName, dPar, dPar3, dNext, dDrop, dNever, dCont, dBreak, dCall, dCallK, dTup, dLst, dLstM, dIf, dFor, dWhile, dItems, dRange1, dRange2, dEnum, dZip, dLc, dLcM, wipeD, eTup, eCons, eNil, eSub, dCut, dPart, dNoPart, dRev, dFld, dSetFld, dMake, dMeth, dBM, dDGet2, dDGet, dDIn, dDPut, dDNew, dDisp1, dLstRg2, bSub, bDiv, bMod, bPow, bLt, bLe, bGt, bGe, bI, bI0, bB0, bIsN, bNotN, VL.isNon, uNeg, List.map_cons, List.map_nil, List.length_cons, List.length_nil, List.replicate, List.cons_append, List.nil_append, List.getElem?_cons_zero, List.getElem?_cons_succ, List.set_cons_zero, List.set_cons_succ, Nat.reduceAdd, Nat.reduceSub, decide_eq_true_eq, if_true, if_false, Bool.false_eq_true, reduceIte, pick, List.filterMap_cons, List.filterMap_nil]
        rw [decide_eq_true ⟨rows, rfl, hrow, fun p r hp t ht => hlag p r hp t (by rw [enumD_length, lr]; exact ht)⟩] at q
        exact q
      · rintro i d δ G' nx hd ⟨p3, p4, p5, p6, p7, rfl, rfl, hlag⟩ hn
        refine ⟨trivial, ?_⟩
        obtain ⟨z, hz, rfl⟩ := enumD_get 0 i _ d hd
        rw [List.getElem?_map] at hz
        obtain ⟨row, hrw, rfl⟩ := Option.map_eq_some_iff.mp hz
        have ri := hrow row (List.mem_of_getElem? hrw)
        rw [Nat.zero_add]
        have lt : ((totsOf rs.length rows i).map D.int).length = rs.length := by unfold totsOf; simp
        have lrow : (row.map D.int).length = rs.length := by rw [List.length_map, ri.len]
        simp only [rowD, startD, dRet, dRetN, dAndV, dOrV, dCB, dNotV, dCons, dNil, dVar, dC, dAnd, dOr, dNot, dTest, dBin, dUn, dChain, dIfS, dSeq, dAsg, eName, dPar, dPar3, dNext, dDrop, dNever, dCont, dBreak, dCall, dCallK, dTup, dLst, dLstM, dIf, dWhile, dItems, dRange1, dRange2, dEnum, dZip, dLcM, wipeD, eTup, eCons, eNil, eSub, dCut, dPart, dNoPart, dRev, dFld, dSetFld, dMake, dMeth, dBM, dDGet2, dDGet, dDIn, dDPut, dDNew, dDisp1, dLstRg2, bSub, bDiv, bMod, bPow, bLt, bLe, bGt, bGe, bI, bI0, bB0, bIsN, bNotN, VL.isNon, uNeg, List.map_cons, List.map_nil, List.length_cons, List.length_nil, List.replicate, List.cons_append, List.nil_append, List.getElem?_cons_zero, List.getElem?_cons_succ, List.set_cons_zero, List.set_cons_succ, Nat.reduceAdd, Nat.reduceSub, decide_eq_true_eq, if_true, if_false, Bool.false_eq_true, reduceIte, pick, List.filterMap_cons, List.filterMap_nil]
        refine ⟨trivial, ?_⟩
        show dCL _ _ _ _ _ (zipD ((totsOf rs.length rows i).map D.int) (row.map D.int)) _ _ _
        refine comp_all (fun d => match d with
          | .tup [.int a, .int b] => D.int (a + b)
          | _ => D.non) _ ⟨trivial, trivial⟩ (by rw [zipD_length, lt, lrow, sz]; omega) (fun d hd k hk => ?_) ?_
        · obtain ⟨j, hj⟩ := List.getElem?_of_mem hd
          obtain ⟨a, b, ha, hb, rfl⟩ := zipD_get j _ _ _ hj
          rw [List.getElem?_map] at ha hb
          obtain ⟨a', _, rfl⟩ := Option.map_eq_some_iff.mp ha
          obtain ⟨b', _, rfl⟩ := Option.map_eq_some_iff.mp hb
          simp only [bAdd, startD, dRet, dRetN, dAndV, dOrV, dCB, dNotV, dCons, dNil, dVar, dC, dAnd, dOr, dNot, dTest, dBin, dUn, dChain, dIfS, dSeq, dAsg, eName, dPar, dPar3, dNext, dDrop, dNever, dCont, dBreak, dCall, dCallK, dTup, dLst, dLstM, dIf, dFor, dWhile, dItems, dRange1, dRange2, dEnum, dZip, dLc, dLcM, wipeD, eTup, eCons, eNil, eSub, dCut, dPart, dNoPart, dRev, dFld, dSetFld, dMake, dMeth, dBM, dDGet2, dDGet, dDIn, dDPut, dDNew, dDisp1, dLstRg2, bSub, bDiv, bMod, bPow, bLt, bLe, bGt, bGe, bI, bI0, bB0, bIsN, bNotN, VL.isNon, uNeg, List.map_cons, List.map_nil, List.length_cons, List.length_nil, List.replicate, List.cons_append, List.nil_append, List.getElem?_cons_zero, List.getElem?_cons_succ, List.set_cons_zero, List.set_cons_succ, Nat.reduceAdd, Nat.reduceSub, decide_eq_true_eq, if_true, if_false, Bool.false_eq_true, reduceIte, pick, List.filterMap_cons, List.filterMap_nil]
          exact ⟨trivial, hk⟩
        rw [tots_succ hrw ri.len]
        show dLoop _ _ _ (zipD ((totsOf rs.length rows (i + 1)).map D.int) (rs.map ratD)) _ _ _
        have key : ∀ (p : Nat) r, rs[p]? = some r → (totsOf rs.length rows (i + 1))[p]? = some (sm (List.range (i + 1)) (ent rows p)) := fun p r hp => tots_get (List.getElem?_eq_some_iff.mp hp).1
        refine loop_ind (fun items δ G'' => ∃ ns' rs' p5 p6 p7, items = zipD (ns'.map D.int) (rs'.map ratD) ∧ δ = [some (.tup (rs.map ratD)), _, some (.lst ((totsOf rs.length rows (i + 1)).map .int)), some (.int (i : Nat)), some (.tup (row.map .int)), p5, p6, p7, none] ∧ G'' = G' ∧ (∀ r ∈ rs', ROk U r) ∧ ns'.length = rs'.length ∧ (zipOk (cLag ((i : Int) + 1)) (totsOf rs.length rows (i + 1)) rs ↔ zipOk (cLag ((i : Int) + 1)) ns' rs')) ?_ ?_ _ _ _
          ⟨totsOf rs.length rows (i + 1), rs, _, _, _, rfl, rfl, rfl, h.each, by unfold totsOf; simp, Iff.rfl⟩
        · rintro δ G'' ⟨ns', rs', p5, p6, p7, h1, rfl, rfl, _, hl', hz'⟩
          refine ⟨⟨trivial, trivial⟩, hn _ _ ⟨_, _, _, _, _, rfl, rfl, fun p r hp t ht => ?_⟩⟩
          have e : ns' = [] ∧ rs' = [] := by
            cases ns' with
            | nil => cases rs' with
              | nil => exact ⟨rfl, rfl⟩
              | cons a b => simp at hl'
            | cons a b => cases rs' with
              | nil => simp at hl'
              | cons c d => cases h1
          obtain ⟨rfl, rfl⟩ := e
          by_cases ht2 : t ≤ i
          · exact hlag p r hp t ht2
          · have e : t = i + 1 := by omega
            subst e
            exact zipOk_iff.mp (hz'.mpr (by unfold zipOk; trivial)) p _ r (key p r hp) hp
        · rintro dd rr δ G'' nx2 ⟨ns', rs', p5, p6, p7, h1, rfl, rfl, ho, hl', hz'⟩ hn2
          cases ns' with
          | nil => cases h1
          | cons n ns' => cases rs' with
            | nil => cases h1
            | cons r rs' =>
              rw [List.map_cons, List.map_cons] at h1
              unfold zipD at h1
              cases h1
              refine ⟨⟨trivial, trivial⟩, ?_⟩
              have ro := ho r List.mem_cons_self
              have ru := ro.u2 h.U0 h.U1
              have ru0 := ro.u0
              have rn := ro.n1
              have rn0 := ro.n0
              simp only [ratD, bMul, bAdd, startD, dRet, dRetN, dAndV, dOrV, dCB, dNotV, dCons, dNil, dVar, dC, dAnd, dOr, dNot, dTest, dBin, dUn, dChain, dIfS, dSeq, dAsg, eName, dPar, dPar3, dNext, dDrop, dNever, dCont, dBreak, dCall, dCallK, dTup, dLst, dLstM, dIf, dFor, dWhile, dItems, dRange1, dRange2, dEnum, dZip, dLc, dLcM, wipeD, eTup, eCons, eNil, eSub, dCut, dPart, dNoPart, dRev, dFld, dSetFld, dMake, dMeth, dBM, dDGet2, dDGet, dDIn, dDPut, dDNew, dDisp1, dLstRg2, bSub, bDiv, bMod, bPow, bLt, bLe, bGt, bGe, bI, bI0, bB0, bIsN, bNotN, VL.isNon, uNeg, List.map_cons, List.map_nil, List.length_cons, List.length_nil, List.replicate, List.cons_append, List.nil_append, List.getElem?_cons_zero, List.getElem?_cons_succ, List.set_cons_zero, List.set_cons_succ, Nat.reduceAdd, Nat.reduceSub, decide_eq_true_eq, if_true, if_false, Bool.false_eq_true, reduceIte, pick, List.filterMap_cons, List.filterMap_nil]
              refine ⟨trivial, trivial, .inr ⟨by omega, by omega⟩, .inr ⟨by omega, by omega⟩, ?_⟩
              by_cases hcl : cLag ((i : Int) + 1) n r
              · have h1 := hcl.1
                have h2 := hcl.2
                simp only [h1, h2, decide_true, Bool.not_true, Bool.false_eq_true, if_false]
                exact hn2 _ _ ⟨ns', rs', _, _, _, rfl, rfl, rfl, fun s hs => ho s (List.mem_cons_of_mem _ hs), by simpa using hl', hz'.trans ⟨fun a => a.2, fun a => ⟨hcl, a⟩⟩⟩
              · have fin : Q (.bl false) G'' := by
                  rw [decide_eq_false (by
                    rintro ⟨rows', e, tb⟩
                    rw [← rows_inj e] at tb
                    have hi : i < rows.length := (List.getElem?_eq_some_iff.mp hrw).1
                    have : zipOk (cLag ((i : Int) + 1)) (totsOf rs.length rows (i + 1)) rs := zipOk_iff.mpr fun p n r h1 h2 => by
                      rw [key p r h2] at h1
                      cases h1
                      have := tb.lag p r h2 (i + 1) (by omega)
                      exact this
                    exact hcl (hz'.mp this).1)] at q
                  exact q
                by_cases h1 : 0 - r.2 < ((i : Int) + 1) * r.1 - n * r.2
                · have h2 : ¬ ((i : Int) + 1) * r.1 - n * r.2 < r.2 := fun z => hcl ⟨h1, z⟩
                  simp only [h1, h2, decide_true, decide_false, Bool.not_false, if_true]
                  exact fin
                · simp only [h1, decide_false, Bool.not_false, if_true]
                  exact fin
      · have e : t = 0 := by omega
        subst e
        have := (h.each r (List.mem_of_getElem? hp)).u0
        unfold cLag
        simp [sm]
        omega
    · simp only [decide_eq_false hc, Bool.not_false, if_true]
      rw [decide_eq_false (by
        rintro ⟨rows, e, tb⟩
        exact hc fun x hx => by
          rw [e] at hx
          obtain ⟨ns, hns, rfl⟩ := List.mem_map.mp hx
          exact ⟨ns, rfl, tb.row ns hns⟩)] at q
      exact q
end
end K84
set_option Elab.async false
set_option linter.all false
set_option maxRecDepth 100000
set_option maxHeartbeats 4000000
/-! k84: the law's own low, sum, is_round. -/
namespace K84
open PySem L2 VL M84 Classical
theorem gI_self_div {x y : Int} (hy : 0 < y) : gI (x / gI x y) (y / gI x y) = 1 := by
  have g0 := gI_pos (a := x) hy
  obtain ⟨a, ha⟩ := gI_dvdl (a := x) (b := y)
  obtain ⟨b, hb⟩ := gI_dvdr (a := x) (b := y)
  generalize hg : gI x y = g at *
  subst ha hb
  rw [Int.mul_ediv_cancel_left _ (by omega), Int.mul_ediv_cancel_left _ (by omega)]
  unfold gI at hg ⊢
  rw [Int.natAbs_mul, Int.natAbs_mul, Nat.gcd_mul_left] at hg
  have e : g.natAbs * (a.natAbs.gcd b.natAbs) = g.natAbs * 1 := by omega
  have := Nat.eq_of_mul_eq_mul_left (by omega) e
  rw [this]; rfl
/-- a reduced fraction a / b of A / U -/
structure Red (U V a b : Int) : Prop where
  b0 : 0 < b
  eq : a * U = V * b
  g : gI a b = 1
theorem Red.dvd {U V a b : Int} (r : Red U V a b) : b ∣ U := by
  have h : b ∣ a * U := by rw [r.eq]; exact Int.dvd_mul_left V b
  have g := r.g
  unfold gI at g
  have c : Nat.Coprime b.natAbs a.natAbs := by
    unfold Nat.Coprime
    rw [Nat.gcd_comm]
    omega
  rw [← Int.natAbs_dvd_natAbs] at h ⊢
  rw [Int.natAbs_mul] at h
  exact c.dvd_of_dvd_mul_left h
theorem red_low {U V x y : Int} (hy : 0 < y) (e : x * U = V * y) : Red U V (x / gI x y) (y / gI x y) := by
  have g0 := gI_pos (a := x) hy
  have gs := gI_self_div (x := x) hy
  obtain ⟨a, ha⟩ := gI_dvdl (a := x) (b := y)
  obtain ⟨b, hb⟩ := gI_dvdr (a := x) (b := y)
  have ea : x / gI x y = a := by conv => lhs; lhs; rw [ha]
                                 exact Int.mul_ediv_cancel_left _ (by omega)
  have eb : y / gI x y = b := by conv => lhs; lhs; rw [hb]
                                 exact Int.mul_ediv_cancel_left _ (by omega)
  rw [ea, eb] at gs ⊢
  refine ⟨?_, ?_, gs⟩
  · apply Classical.byContradiction
    intro hn
    have := Int.mul_le_mul_of_nonneg_left (show b ≤ 0 by omega) (Int.le_of_lt g0)
    rw [← hb, Int.mul_zero] at this
    omega
  · apply Int.eq_of_mul_eq_mul_left (show gI x y ≠ 0 by omega)
    rw [← Int.mul_assoc, ← ha, e]
    conv => lhs; rhs; rw [hb]
    rw [← Int.mul_assoc, ← Int.mul_assoc, Int.mul_comm V]
def S_law_low : SpD := fun ds G Q => ∃ x y, ds = [.int x, .int y] ∧ 0 < y ∧ y < 1000000 ∧ Q (.tup [.int (x / gI x y), .int (y / gI x y)]) G
def S_law_sum : SpD := fun ds G Q => ∃ v rs U, ds = [v] ∧ seqOf G v = some (rs.map ratD) ∧ 0 < U ∧ U ≤ 100 ∧ (∀ r ∈ rs, 0 < r.2 ∧ r.2 ∣ U ∧ 0 < r.1 ∧ r.1 < 1000000) ∧ ∀ a b, Red U (A U rs) a b → Q (.tup [.int a, .int b]) G
def keepC (v : D) (es : List D) : Hd → Prop := match v with
  | .ref a => fun G => G a = some (.lst es)
  | _ => cFree
theorem items_var {i : Nat} {δ : SD} {Q : KI} {v : D} {es : List D} {G : Hd} (hd : δ[i]? = some (some v)) (h : seqOf G v = some es) (q : Q es (keepC v es) G) : dItems (dVar i) δ G Q := by
  unfold dItems dVar
  rw [hd]
  cases v with
  | lst xs => cases h; exact q
  | tup xs => cases h; exact q
  | ro xs => cases h; exact q
  | ref a =>
    have e : G a = some (.lst es) := trkL_some h
    show (match G a with
      | some (.lst xs) => Q xs (fun G => G a = some (.lst xs)) G
      | _ => False)
    rw [e]
    exact q
  | _ => cases h
theorem keepC_self {v : D} {es : List D} {G : Hd} (h : seqOf G v = some es) : keepC v es G := by
  cases v with
  | ref a => exact trkL_some h
  | _ => exact True.intro
section
variable {P : Program} {w : World} {K : PySem.W.Frag} {mg : Str → Option Value} {base : Heap} {k : Nat}
theorem gI_abs (x y : Int) : gI (if x < 0 then -x else x) y = gI x y := by
  unfold gI
  split
  · rw [Int.natAbs_neg]
  · rfl
theorem ok_law_low (T : Txt K mg) : FnA P w K mg base 1 T.f__law_low T.d__law_low ["number", "under"] S_law_low := by
  refine (w__law_low (k := 0) T (by rintro ds G Q ⟨_, _, rfl, _⟩; rfl)).2 fun ds G Q h => ?_
  obtain ⟨x, y, rfl, hy, hy1, q⟩ := h
  simp only [w__law_low, c1, startD, dRet, dRetN, dAndV, dOrV, dCB, dNotV, dCons, dNil, dVar, dC, dAnd, dOr, dNot, dTest, dBin, dUn, dChain, dIfS, dSeq, dAsg, eName, dPar, dPar3, dNext, dDrop, dNever, dCont, dBreak, dCall, dCallK, dTup, dLst, dLstM, dIf, dFor, dItems, dRange1, dRange2, dEnum, dZip, dLc, dLcM, wipeD, eTup, eCons, eNil, eSub, dCut, dPart, dNoPart, dRev, dFld, dSetFld, dMake, dMeth, dBM, dDGet2, dDGet, dDIn, dDPut, dDNew, dDisp1, dLstRg2, bSub, bDiv, bMod, bPow, bLt, bLe, bGt, bGe, bI, bI0, bB0, bIsN, bNotN, VL.isNon, uNeg, List.map_cons, List.map_nil, List.length_cons, List.length_nil, List.replicate, List.cons_append, List.nil_append, List.getElem?_cons_zero, List.getElem?_cons_succ, List.set_cons_zero, List.set_cons_succ, Nat.reduceAdd, Nat.reduceSub, decide_eq_true_eq, if_true, if_false, Bool.false_eq_true, reduceIte, pick, List.filterMap_cons, List.filterMap_nil]
  refine while_ind (fun m δ G' => ∃ a b : Int, δ = [some (.int x), some (.int y), some (.int a), some (.int b)] ∧ G' = G ∧ 0 ≤ a ∧ 0 ≤ b ∧ gI a b = gI x y ∧ m = b.toNat) ?_ (m := y.toNat) ⟨_, y, rfl, rfl, by split <;> omega, by omega, gI_abs x y, rfl⟩
  rintro m δ G' nx ⟨a, b, rfl, rfl, ha, hb, hg, rfl⟩ hn
  simp only [cInt, startD, dRet, dRetN, dAndV, dOrV, dCB, dNotV, dCons, dNil, dVar, dC, dAnd, dOr, dNot, dTest, dBin, dUn, dChain, dIfS, dSeq, dAsg, eName, dPar, dPar3, dNext, dDrop, dNever, dCont, dBreak, dCall, dCallK, dTup, dLst, dLstM, dIf, dFor, dWhile, dItems, dRange1, dRange2, dEnum, dZip, dLc, dLcM, wipeD, eTup, eCons, eNil, eSub, dCut, dPart, dNoPart, dRev, dFld, dSetFld, dMake, dMeth, dBM, dDGet2, dDGet, dDIn, dDPut, dDNew, dDisp1, dLstRg2, bSub, bDiv, bMod, bPow, bLt, bLe, bGt, bGe, bI, bI0, bB0, bIsN, bNotN, VL.isNon, uNeg, List.map_cons, List.map_nil, List.length_cons, List.length_nil, List.replicate, List.cons_append, List.nil_append, List.getElem?_cons_zero, List.getElem?_cons_succ, List.set_cons_zero, List.set_cons_succ, Nat.reduceAdd, Nat.reduceSub, decide_eq_true_eq, if_true, if_false, Bool.false_eq_true, reduceIte, pick, List.filterMap_cons, List.filterMap_nil]
  by_cases hz : 0 < b
  · rw [if_pos hz]
    have e1 := Int.emod_lt_of_pos a hz
    have e2 := Int.emod_nonneg a (show b ≠ 0 by omega)
    exact ⟨hz, hn _ _ _ (by omega) ⟨b, a % b, rfl, rfl, hb, e2, (gI_step ha hz).trans hg, rfl⟩⟩
  · rw [if_neg hz]
    have e : b = 0 := by omega
    subst e
    rw [gI_zero ha] at hg
    subst hg
    have g0 := gI_pos (a := x) hy
    have g1 := gI_le (a := x) hy
    exact ⟨⟨g0, by omega⟩, ⟨g0, by omega⟩, by decide, q⟩
theorem ok_law_sum (T : Txt K mg) : FnA P w K mg base 2 T.f__law_sum T.d__law_sum ["pairs"] S_law_sum := by
  refine (w__law_sum (k := 1) T (ok_law_low T) (by rintro ds G Q ⟨_, _, _, rfl, _⟩; rfl)).2 fun ds G Q h => ?_
  obtain ⟨v, rs, U, rfl, hs, U0, U1, hr, q⟩ := h
  simp only [w__law_sum, startD, dRet, dRetN, dAndV, dOrV, dCB, dNotV, dCons, dNil, dVar, dC, dAnd, dOr, dNot, dTest, dBin, dUn, dChain, dIfS, dSeq, dAsg, eName, dPar, dPar3, dNext, dDrop, dNever, dCont, dBreak, dCall, dCallK, dTup, dLst, dLstM, dIf, dWhile, dItems, dRange1, dRange2, dEnum, dZip, dLc, dLcM, wipeD, eTup, eCons, eNil, eSub, dCut, dPart, dNoPart, dRev, dFld, dSetFld, dMake, dMeth, dBM, dDGet2, dDGet, dDIn, dDPut, dDNew, dDisp1, dLstRg2, bSub, bDiv, bMod, bPow, bLt, bLe, bGt, bGe, bI, bI0, bB0, bIsN, bNotN, VL.isNon, uNeg, List.map_cons, List.map_nil, List.length_cons, List.length_nil, List.replicate, List.cons_append, List.nil_append, List.getElem?_cons_zero, List.getElem?_cons_succ, List.set_cons_zero, List.set_cons_succ, Nat.reduceAdd, Nat.reduceSub, decide_eq_true_eq, if_true, if_false, Bool.false_eq_true, reduceIte, pick, List.filterMap_cons, List.filterMap_nil]
  refine ⟨by decide, ?_⟩
  refine items_var (i := 0) (Q := fun items C G1 => dLoop _ _ C items _ _ G1) rfl hs ?_
  refine loop_ind (fun items δ G' => ∃ rs' a b V p1 p2, items = rs'.map ratD ∧ δ = [some v, some (.tup [.int a, .int b]), p1, p2] ∧ G' = G ∧ (∀ r ∈ rs', 0 < r.2 ∧ r.2 ∣ U ∧ 0 < r.1 ∧ r.1 < 1000000) ∧ Red U V a b ∧ V + A U rs' = A U rs) ?_ ?_ _ _ _ ⟨rs, 0, 1, 0, _, _, rfl, rfl, rfl, hr, ⟨by decide, by simp, rfl⟩, by omega⟩
  · rintro δ G' ⟨rs', a, b, V, p1, p2, h1, rfl, rfl, _, red, hV⟩
    have e : rs' = [] := by cases rs' with
      | nil => rfl
      | cons a b => cases h1
    subst e
    refine ⟨keepC_self hs, ?_⟩
    simp only [startD, dRet, dRetN, dAndV, dOrV, dCB, dNotV, dCons, dNil, dVar, dC, dAnd, dOr, dNot, dTest, dBin, dUn, dChain, dIfS, dSeq, dAsg, eName, dPar, dPar3, dNext, dDrop, dNever, dCont, dBreak, dCall, dCallK, dTup, dLst, dLstM, dIf, dFor, dWhile, dItems, dRange1, dRange2, dEnum, dZip, dLc, dLcM, wipeD, eTup, eCons, eNil, eSub, dCut, dPart, dNoPart, dRev, dFld, dSetFld, dMake, dMeth, dBM, dDGet2, dDGet, dDIn, dDPut, dDNew, dDisp1, dLstRg2, bSub, bDiv, bMod, bPow, bLt, bLe, bGt, bGe, bI, bI0, bB0, bIsN, bNotN, VL.isNon, uNeg, List.map_cons, List.map_nil, List.length_cons, List.length_nil, List.replicate, List.cons_append, List.nil_append, List.getElem?_cons_zero, List.getElem?_cons_succ, List.set_cons_zero, List.set_cons_succ, Nat.reduceAdd, Nat.reduceSub, decide_eq_true_eq, if_true, if_false, Bool.false_eq_true, reduceIte, pick, List.filterMap_cons, List.filterMap_nil]
    refine q a b ?_
    have : A U [] = 0 := rfl
    rw [this, Int.add_zero] at hV
    rw [← hV]; exact red
  · rintro d rr δ G' nx ⟨rs', a, b, V, p1, p2, h1, rfl, rfl, hr', red, hV⟩ hn
    cases rs' with
    | nil => cases h1
    | cons r rs' =>
      cases h1
      obtain ⟨u0, u1, n0, n1⟩ := hr' r List.mem_cons_self
      have u2 : r.2 ≤ 100 := Int.le_trans (Int.le_of_dvd U0 u1) U1
      have b2 : b ≤ 100 := Int.le_trans (Int.le_of_dvd U0 red.dvd) U1
      have b0 := red.b0
      refine ⟨keepC_self hs, ?_⟩
      simp only [ratD, bIx, seqOf, at0, at1, bMul, bAdd, startD, dRet, dRetN, dAndV, dOrV, dCB, dNotV, dCons, dNil, dVar, dC, dAnd, dOr, dNot, dTest, dBin, dUn, dChain, dIfS, dSeq, dAsg, eName, dPar, dPar3, dNext, dDrop, dNever, dCont, dBreak, dCall, dCallK, dTup, dLst, dLstM, dIf, dFor, dWhile, dItems, dRange1, dRange2, dEnum, dZip, dLc, dLcM, wipeD, eTup, eCons, eNil, eSub, dCut, dPart, dNoPart, dRev, dFld, dSetFld, dMake, dMeth, dBM, dDGet2, dDGet, dDIn, dDPut, dDNew, dDisp1, dLstRg2, bSub, bDiv, bMod, bPow, bLt, bLe, bGt, bGe, bI, bI0, bB0, bIsN, bNotN, VL.isNon, uNeg, List.map_cons, List.map_nil, List.length_cons, List.length_nil, List.replicate, List.cons_append, List.nil_append, List.getElem?_cons_zero, List.getElem?_cons_succ, List.set_cons_zero, List.set_cons_succ, Nat.reduceAdd, Nat.reduceSub, decide_eq_true_eq, if_true, if_false, Bool.false_eq_true, reduceIte, pick, List.filterMap_cons, List.filterMap_nil]
      have bu : 0 < b * r.2 := Int.mul_pos b0 u0
      have bu2 : b * r.2 ≤ 100 * 100 := Int.mul_le_mul b2 u2 (by omega) (by omega)
      refine ⟨trivial, .inr ⟨by omega, by omega⟩, .inr ⟨by omega, by omega⟩, .inr ⟨by omega, by omega⟩, _, _, rfl, bu, by omega, ?_⟩
      have eq : (a * r.2 + r.1 * b) * U = (V + r.1 * (U / r.2)) * (b * r.2) := by
        obtain ⟨c, hc⟩ := u1
        have h2 : U / r.2 = c := by rw [hc]; exact Int.mul_ediv_cancel_left _ (by omega)
        rw [h2, Int.add_mul, Int.add_mul]
        have e1 : a * r.2 * U = V * (b * r.2) := by
          rw [Int.mul_assoc, Int.mul_comm r.2 U, ← Int.mul_assoc, red.eq, Int.mul_assoc]
        have e2 : r.1 * b * U = r.1 * c * (b * r.2) := by
          rw [hc, Int.mul_assoc, Int.mul_assoc, Int.mul_comm r.2 c, ← Int.mul_assoc b c r.2, Int.mul_comm b c, Int.mul_assoc c b r.2]
        rw [e1, e2]
      exact hn _ _ ⟨rs', _, _, V + r.1 * (U / r.2), _, _, rfl, rfl, rfl, fun s hs => hr' s (List.mem_cons_of_mem _ hs), red_low bu eq, by
        rw [← hV]
        unfold A
        rw [List.map_cons, List.sum_cons]
        omega⟩
end
end K84
set_option Elab.async false
set_option linter.all false
set_option maxRecDepth 100000
set_option maxHeartbeats 4000000
/-! k84: the law's own tables. -/
namespace K84
open PySem L2 VL M84 Classical
def S_law_is_round : SpD := fun ds G Q => ∃ rs U d, ds = [ratsD rs, d] ∧ RsOk U rs ∧ RowV d ∧ Q (.bl (decide (RowD U rs d))) G
def cLawR (n : Int) (r : Rt) : Prop := (0 - r.2 < n * r.2 - r.1 ∧ n * r.2 - r.1 < r.2) ∧ 0 ≤ n
theorem red_whole {U L a b : Int} (U0 : 0 < U) (h : Red U (L * U) a b) : a = L ∧ b = 1 := by
  have e := h.eq
  rw [Int.mul_assoc, Int.mul_comm U b, ← Int.mul_assoc] at e
  have e2 : a = L * b := Int.eq_of_mul_eq_mul_right (by omega) e
  have g := h.g
  have b0 := h.b0
  unfold gI at g
  rw [e2, Int.natAbs_mul, Nat.gcd_eq_right (Nat.dvd_mul_left b.natAbs L.natAbs)] at g
  have : b = 1 := by omega
  rw [this, Int.mul_one] at e2
  exact ⟨e2, this⟩
theorem abs_lt {x u : Int} : (if x < 0 then -x else x) < u ↔ 0 - u < x ∧ x < u := by split <;> omega
section
variable {P : Program} {w : World} {K : PySem.W.Frag} {mg : Str → Option Value} {base : Heap} {k : Nat}
theorem ok_law_is_round (T : Txt K mg) : FnA P w K mg base 3 T.f__law_is_round T.d__law_is_round ["ratios", "value"] S_law_is_round := by
  refine (w__law_is_round (k := 2) T (ok_law_sum T) (by rintro ds G Q ⟨_, _, _, rfl, _⟩; rfl)).2 fun ds G Q h => ?_
  obtain ⟨rs, U, d, rfl, h, hv, q⟩ := h
  have sz : sizeLine = 16777216 := by decide
  have l7 := h.len1
  rcases hv with rfl | ⟨ns, rfl | rfl, hl⟩
  · simp only [w__law_is_round, cIsi, tyD, startD, dRet, dRetN, dAndV, dOrV, dCB, dNotV, dCons, dNil, dVar, dC, dAnd, dOr, dNot, dTest, dBin, dUn, dChain, dIfS, dSeq, dAsg, eName, dPar, dPar3, dNext, dDrop, dNever, dCont, dBreak, dCall, dCallK, dTup, dLst, dLstM, dIf, dWhile, dItems, dRange1, dRange2, dEnum, dZip, dLc, dLcM, wipeD, eTup, eCons, eNil, eSub, dCut, dPart, dNoPart, dRev, dFld, dSetFld, dMake, dMeth, dBM, dDGet2, dDGet, dDIn, dDPut, dDNew, dDisp1, dLstRg2, bSub, bDiv, bMod, bPow, bLt, bLe, bGt, bGe, bI, bI0, bB0, bIsN, bNotN, VL.isNon, uNeg, List.map_cons, List.map_nil, List.length_cons, List.length_nil, List.replicate, List.cons_append, List.nil_append, List.getElem?_cons_zero, List.getElem?_cons_succ, List.set_cons_zero, List.set_cons_succ, Nat.reduceAdd, Nat.reduceSub, decide_eq_true_eq, if_true, if_false, Bool.false_eq_true, reduceIte, pick, List.filterMap_cons, List.filterMap_nil]
    refine ⟨by decide, ?_⟩
    rw [decide_eq_false (by rintro ⟨ns, e, _⟩; cases e)] at q
    exact q
  · simp only [w__law_is_round, rowD, cIsi, tyD, cLen, seqOf, ratsD, bNe, bEq, startD, dRet, dRetN, dAndV, dOrV, dCB, dNotV, dCons, dNil, dVar, dC, dAnd, dOr, dNot, dTest, dBin, dUn, dChain, dIfS, dSeq, dAsg, eName, dPar, dPar3, dNext, dDrop, dNever, dCont, dBreak, dCall, dCallK, dTup, dLst, dLstM, dIf, dWhile, dItems, dRange1, dRange2, dEnum, dZip, dLcM, wipeD, eTup, eCons, eNil, eSub, dCut, dPart, dNoPart, dRev, dFld, dSetFld, dMake, dMeth, dBM, dDGet2, dDGet, dDIn, dDPut, dDNew, dDisp1, dLstRg2, bSub, bDiv, bMod, bPow, bLt, bLe, bGt, bGe, bI, bI0, bB0, bIsN, bNotN, VL.isNon, uNeg, List.map_cons, List.map_nil, List.length_cons, List.length_nil, List.replicate, List.cons_append, List.nil_append, List.getElem?_cons_zero, List.getElem?_cons_succ, List.set_cons_zero, List.set_cons_succ, Nat.reduceAdd, Nat.reduceSub, decide_eq_true_eq, if_true, if_false, Bool.false_eq_true, reduceIte, pick, List.filterMap_cons, List.filterMap_nil]
    refine ⟨by decide, ?_⟩
    have l1 : (ns.map D.int).length = ns.length := List.length_map ..
    have l2 : (rs.map ratD).length = rs.length := List.length_map ..
    rw [l1, l2]
    by_cases hlen : ns.length = rs.length
    · have e1 : decide ((ns.length : Int) = rs.length) = true := decide_eq_true (by omega)
      rw [e1]
      simp only [show isB "tuple" "tuple" = true by decide, Bool.not_true, Bool.false_eq_true, if_false]
      show dLoop _ _ _ (zipD (ns.map D.int) (rs.map ratD)) _ _ _
      refine loop_ind (fun items δ G' => ∃ ns' rs' p1 p2 p3, items = zipD (ns'.map D.int) (rs'.map ratD) ∧ δ = [some (.tup (rs.map ratD)), some (.tup (ns.map .int)), p1, p2, p3] ∧ G' = G ∧ (∀ r ∈ rs', ROk U r) ∧ ns'.length = rs'.length ∧ (zipOk cLawR ns rs ↔ zipOk cLawR ns' rs')) ?_ ?_ _ _ _ ⟨ns, rs, _, _, _, rfl, rfl, rfl, h.each, hlen, Iff.rfl⟩
      · rintro δ G' ⟨ns', rs', p1, p2, p3, h1, rfl, rfl, _, hl', hz⟩
        refine ⟨⟨trivial, trivial⟩, ?_⟩
        have e : ns' = [] ∧ rs' = [] := by
          cases ns' with
          | nil => cases rs' with
            | nil => exact ⟨rfl, rfl⟩
            | cons a b => simp at hl'
          | cons a b => cases rs' with
            | nil => simp at hl'
            | cons c d => cases h1
        obtain ⟨rfl, rfl⟩ := e
        have hz1 : zipOk cLawR ns rs := hz.mpr (by unfold zipOk; trivial)
        simp only [cSumX, seqOf, intsOf_map, startD, dRet, dRetN, dAndV, dOrV, dCB, dNotV, dCons, dNil, dVar, dC, dAnd, dOr, dNot, dTest, dBin, dUn, dChain, dIfS, dSeq, dAsg, eName, dPar, dPar3, dNext, dDrop, dNever, dCont, dBreak, dCall, dCallK, dTup, dLst, dLstM, dIf, dFor, dWhile, dItems, dRange1, dRange2, dEnum, dZip, dLc, dLcM, wipeD, eTup, eCons, eNil, eSub, dCut, dPart, dNoPart, dRev, dFld, dSetFld, dMake, dMeth, dBM, dDGet2, dDGet, dDIn, dDPut, dDNew, dDisp1, dLstRg2, bSub, bDiv, bMod, bPow, bLt, bLe, bGt, bGe, bI, bI0, bB0, bIsN, bNotN, VL.isNon, uNeg, List.map_cons, List.map_nil, List.length_cons, List.length_nil, List.replicate, List.cons_append, List.nil_append, List.getElem?_cons_zero, List.getElem?_cons_succ, List.set_cons_zero, List.set_cons_succ, Nat.reduceAdd, Nat.reduceSub, decide_eq_true_eq, if_true, if_false, Bool.false_eq_true, reduceIte, pick, List.filterMap_cons, List.filterMap_nil]
        refine ⟨by decide, ratsD rs, rs, U, rfl, rfl, h.U0, h.U1, fun r hr => ⟨(h.each r hr).u0, (h.each r hr).u1, (h.each r hr).n0, (h.each r hr).n1⟩, fun a b red => ?_⟩
        have hA : A U rs = Lsum U rs * U := by
          obtain ⟨l, hl⟩ := h.whole
          unfold Lsum
          rw [hl, Int.mul_ediv_cancel_left _ (by have := h.U0; omega), Int.mul_comm]
        rw [hA] at red
        obtain ⟨rfl, rfl⟩ := red_whole h.U0 red
        have ef : RowD U rs (rowD ns) ↔ ns.sum = Lsum U rs := by
          constructor
          · rintro ⟨ms, e, ri⟩
            rw [rowD_inj e]; exact ri.tot
          · intro hs
            refine ⟨ns, rfl, hlen, fun p r n hr hn => ?_, hs⟩
            have := zipOk_iff.mp hz1 p n r hn hr
            exact ⟨this.2, this.1⟩
        have e2 : PyData.eqv (toP (.tup [.int ns.sum, .int 1])) (toP (.tup [.int (Lsum U rs), .int 1])) = decide (RowD U rs (rowD ns)) := by
          show ((ns.sum == Lsum U rs) && ((1 == (1 : Int)) && true)) = _
          rw [Bool.eq_iff_iff]
          simp [ef]
        refine ⟨okD_low (n := 1) (by simp [lowD, rdD, lstOf]) (by decide), okD_low (n := 1) (by simp [lowD, rdD, lstOf]) (by decide), ?_⟩
        show Q (.bl (PyData.eqv (toP (.tup [.int ns.sum, .int 1])) (toP (.tup [.int (Lsum U rs), .int 1])))) G'
        rw [e2]
        exact q
      · rintro dd rr δ G' nx ⟨ns', rs', p1, p2, p3, h1, rfl, rfl, ho, hl', hz⟩ hn
        cases ns' with
        | nil => cases h1
        | cons n ns' => cases rs' with
          | nil => cases h1
          | cons r rs' =>
            rw [List.map_cons, List.map_cons] at h1
            unfold zipD at h1
            cases h1
            refine ⟨⟨trivial, trivial⟩, ?_⟩
            have ro := ho r List.mem_cons_self
            have ru := ro.u2 h.U0 h.U1
            have ru0 := ro.u0
            simp only [ratD, cIsi, tyD, bMul, c1, startD, dRet, dRetN, dAndV, dOrV, dCB, dNotV, dCons, dNil, dVar, dC, dAnd, dOr, dNot, dTest, dBin, dUn, dChain, dIfS, dSeq, dAsg, eName, dPar, dPar3, dNext, dDrop, dNever, dCont, dBreak, dCall, dCallK, dTup, dLst, dLstM, dIf, dFor, dWhile, dItems, dRange1, dRange2, dEnum, dZip, dLc, dLcM, wipeD, eTup, eCons, eNil, eSub, dCut, dPart, dNoPart, dRev, dFld, dSetFld, dMake, dMeth, dBM, dDGet2, dDGet, dDIn, dDPut, dDNew, dDisp1, dLstRg2, bSub, bDiv, bMod, bPow, bLt, bLe, bGt, bGe, bI, bI0, bB0, bIsN, bNotN, VL.isNon, uNeg, List.map_cons, List.map_nil, List.length_cons, List.length_nil, List.replicate, List.cons_append, List.nil_append, List.getElem?_cons_zero, List.getElem?_cons_succ, List.set_cons_zero, List.set_cons_succ, Nat.reduceAdd, Nat.reduceSub, decide_eq_true_eq, if_true, if_false, Bool.false_eq_true, reduceIte, pick, List.filterMap_cons, List.filterMap_nil]
            refine ⟨by decide, ?_⟩
            simp only [show isB "int" "int" = true by decide, show isB "int" "bool" = false by decide, Bool.not_true, Bool.false_eq_true, if_false]
            refine ⟨by decide, by decide, by decide, .inr ⟨by omega, by omega⟩, ?_⟩
            by_cases hcr : cLawR n r
            · have g1 : ¬ r.2 ≤ (if n * r.2 - r.1 < 0 then -(n * r.2 - r.1) else n * r.2 - r.1) := fun z => by have := abs_lt.mpr hcr.1; omega
              have g2 : ¬ n < 0 := by have := hcr.2; omega
              simp only [g1, g2, if_false]
              exact hn _ _ ⟨ns', rs', _, _, _, rfl, rfl, rfl, fun s hs => ho s (List.mem_cons_of_mem _ hs), by simpa using hl', hz.trans ⟨fun a => a.2, fun a => ⟨hcr, a⟩⟩⟩
            · have fin : Q (.bl false) G' := by
                rw [decide_eq_false (by
                  rintro ⟨ms, e, ri⟩
                  rw [← rowD_inj e] at ri
                  have : zipOk cLawR ns rs := zipOk_iff.mpr fun p n r h1 h2 => ⟨(ri.ent p r n h2 h1).2, (ri.ent p r n h2 h1).1⟩
                  exact hcr (hz.mp this).1)] at q
                exact q
              by_cases g1 : r.2 ≤ (if n * r.2 - r.1 < 0 then -(n * r.2 - r.1) else n * r.2 - r.1)
              · simp only [g1, if_true]
                exact fin
              · have g2 : n < 0 := Classical.byContradiction fun z => hcr ⟨abs_lt.mp (by omega), by omega⟩
                simp only [g1, g2, if_true, if_false]
                exact fin
    · have e1 : decide ((ns.length : Int) = rs.length) = false := decide_eq_false (by omega)
      rw [e1]
      simp only [show isB "tuple" "tuple" = true by decide, Bool.not_true, Bool.false_eq_true, if_false, Bool.not_false, if_true]
      rw [decide_eq_false (by
        rintro ⟨ms, e, ri⟩
        rw [← rowD_inj e] at ri
        exact hlen ri.len)] at q
      exact q
  · simp only [w__law_is_round, cIsi, tyD, startD, dRet, dRetN, dAndV, dOrV, dCB, dNotV, dCons, dNil, dVar, dC, dAnd, dOr, dNot, dTest, dBin, dUn, dChain, dIfS, dSeq, dAsg, eName, dPar, dPar3, dNext, dDrop, dNever, dCont, dBreak, dCall, dCallK, dTup, dLst, dLstM, dIf, dWhile, dItems, dRange1, dRange2, dEnum, dZip, dLc, dLcM, wipeD, eTup, eCons, eNil, eSub, dCut, dPart, dNoPart, dRev, dFld, dSetFld, dMake, dMeth, dBM, dDGet2, dDGet, dDIn, dDPut, dDNew, dDisp1, dLstRg2, bSub, bDiv, bMod, bPow, bLt, bLe, bGt, bGe, bI, bI0, bB0, bIsN, bNotN, VL.isNon, uNeg, List.map_cons, List.map_nil, List.length_cons, List.length_nil, List.replicate, List.cons_append, List.nil_append, List.getElem?_cons_zero, List.getElem?_cons_succ, List.set_cons_zero, List.set_cons_succ, Nat.reduceAdd, Nat.reduceSub, decide_eq_true_eq, if_true, if_false, Bool.false_eq_true, reduceIte, pick, List.filterMap_cons, List.filterMap_nil]
    refine ⟨by decide, ?_⟩
    rw [decide_eq_false (by rintro ⟨ms, e, _⟩; cases e)] at q
    exact q
def S_law_is_table : SpD := fun ds G Q => ∃ rs U v es ty, ds = [ratsD rs, v] ∧ seqOf G v = some es ∧ tyD G v = some ty ∧ isLstT ty = true ∧ RsOk U rs ∧ (∀ d ∈ es, RowV d) ∧ es.length ≤ 1000 ∧ Q (.bl (decide (TabD U rs es))) G
theorem ok_law_is_table (T : Txt K mg) : FnA P w K mg base 4 T.f__law_is_table T.d__law_is_table ["ratios", "value"] S_law_is_table := by
  refine (w__law_is_table (k := 3) T (ok_law_is_round T) (by rintro ds G Q ⟨_, _, _, _, _, rfl, _⟩; rfl)).2 fun ds G Q h => ?_
  obtain ⟨rs, U, v, es, ty, rfl, hs, hty, hlt, h, hr, hl, q⟩ := h
  have sz : sizeLine = 16777216 := by decide
  have l7 := h.len1
  have eT : ["list", "tuple"].any (isB ty) = isLstT ty := by
    have hm := tyD_mem hty
    clear hty hlt q
    revert hm
    revert ty
    decide
  simp only [w__law_is_table, cIsiT, hty, tysOf, startD, dRet, dRetN, dAndV, dOrV, dCB, dNotV, dCons, dNil, dVar, dC, dAnd, dOr, dNot, dTest, dBin, dUn, dChain, dIfS, dSeq, dAsg, eName, dPar, dPar3, dNext, dDrop, dNever, dCont, dBreak, dCall, dCallK, dTup, dLst, dLstM, dIf, dWhile, dRange1, dRange2, dEnum, dZip, dLcM, wipeD, eTup, eCons, eNil, eSub, dCut, dPart, dNoPart, dRev, dFld, dSetFld, dMake, dMeth, dBM, dDGet2, dDGet, dDIn, dDPut, dDNew, dDisp1, dLstRg2, bSub, bDiv, bMod, bPow, bLt, bLe, bGt, bGe, bI, bI0, bB0, bIsN, bNotN, VL.isNon, uNeg, List.map_cons, List.map_nil, List.length_cons, List.length_nil, List.replicate, List.cons_append, List.nil_append, List.getElem?_cons_zero, List.getElem?_cons_succ, List.set_cons_zero, List.set_cons_succ, Nat.reduceAdd, Nat.reduceSub, decide_eq_true_eq, if_true, if_false, Bool.false_eq_true, reduceIte, pick, List.filterMap_cons, List.filterMap_nil]
  refine ⟨by decide, by decide, ?_⟩
  rw [eT, hlt]
  simp only [Bool.not_true, Bool.false_eq_true, if_false]
  have le : (es.map fun d => D.bl (decide (RowD U rs d))) = (es.map fun d => decide (RowD U rs d)).map D.bl := by rw [List.map_map]; rfl
  show dItems _ _ _ _
  refine items_var (i := 1) rfl hs ?_
  refine comp_all (fun d => .bl (decide (RowD U rs d))) _ (keepC_self hs) (by rw [sz]; omega) (fun d hd k hk => by
      simp only [startD, dRet, dRetN, dAndV, dOrV, dCB, dNotV, dCons, dNil, dVar, dC, dAnd, dOr, dNot, dTest, dBin, dUn, dChain, dIfS, dSeq, dAsg, eName, dPar, dPar3, dNext, dDrop, dNever, dCont, dBreak, dCall, dCallK, dTup, dLst, dLstM, dIf, dFor, dWhile, dItems, dRange1, dRange2, dEnum, dZip, dLc, dLcM, wipeD, eTup, eCons, eNil, eSub, dCut, dPart, dNoPart, dRev, dFld, dSetFld, dMake, dMeth, dBM, dDGet2, dDGet, dDIn, dDPut, dDNew, dDisp1, dLstRg2, bSub, bDiv, bMod, bPow, bLt, bLe, bGt, bGe, bI, bI0, bB0, bIsN, bNotN, VL.isNon, uNeg, List.map_cons, List.map_nil, List.length_cons, List.length_nil, List.replicate, List.cons_append, List.nil_append, List.getElem?_cons_zero, List.getElem?_cons_succ, List.set_cons_zero, List.set_cons_succ, Nat.reduceAdd, Nat.reduceSub, decide_eq_true_eq, if_true, if_false, Bool.false_eq_true, reduceIte, pick, List.filterMap_cons, List.filterMap_nil]
      exact ⟨rs, U, d, rfl, h, hr d hd, hk⟩) ?_
  rw [le]
  simp only [cBools, lstR, lstOf, blsOf_map, startD, dRet, dRetN, dAndV, dOrV, dCB, dNotV, dCons, dNil, dVar, dC, dAnd, dOr, dNot, dTest, dBin, dUn, dChain, dIfS, dSeq, dAsg, eName, dPar, dPar3, dNext, dDrop, dNever, dCont, dBreak, dCall, dCallK, dTup, dLst, dLstM, dIf, dWhile, dRange1, dRange2, dEnum, dZip, dLc, dLcM, wipeD, eTup, eCons, eNil, eSub, dCut, dPart, dNoPart, dRev, dFld, dSetFld, dMake, dMeth, dBM, dDGet2, dDGet, dDIn, dDPut, dDNew, dDisp1, dLstRg2, bSub, bDiv, bMod, bPow, bLt, bLe, bGt, bGe, bI, bI0, bB0, bIsN, bNotN, VL.isNon, uNeg, List.map_cons, List.map_nil, List.length_cons, List.length_nil, List.replicate, List.cons_append, List.nil_append, List.getElem?_cons_zero, List.getElem?_cons_succ, List.set_cons_zero, List.set_cons_succ, Nat.reduceAdd, Nat.reduceSub, decide_eq_true_eq, if_true, if_false, Bool.false_eq_true, reduceIte, pick, List.filterMap_cons, List.filterMap_nil]
  simp only [all_dec]
  by_cases hc : ∀ x ∈ es, RowD U rs x
  · obtain ⟨rows, rfl, hrow⟩ := rows_of hc
    simp only [decide_eq_true hc, Bool.not_true, Bool.false_eq_true, if_false]
    have lr : (rows.map rowD).length = rows.length := List.length_map ..
    show dLoop _ _ _ (enumD 0 (rs.map ratD)) _ _ _
    refine loop_at (fun i δ G' => ∃ p2 p3 p4 p5 p6 p7, δ = [some (.tup (rs.map ratD)), some v, p2, p3, p4, p5, p6, p7] ∧ G' = G ∧ ∀ (p : Nat) r, p < i → rs[p]? = some r → ∀ t : Nat, t ≤ rows.length → cLag t (sm (List.range t) (ent rows p)) r) ?_ ?_ ⟨_, _, _, _, _, _, rfl, rfl, fun p r hp => absurd hp (Nat.not_lt_zero _)⟩
    · rintro δ G' ⟨p2, p3, p4, p5, p6, p7, rfl, rfl, hlag⟩
      refine ⟨trivial, ?_⟩
      simp only [startD, dRet, dRetN, dAndV, dOrV, dCB, dNotV, dCons, dNil, dVar, dC, dAnd, dOr, dNot, dTest, dBin, dUn, dChain, dIfS, dSeq, dAsg, eName, dPar, dPar3, dNext, dDrop, dNever, dCont, dBreak, dCall, dCallK, dTup, dLst, dLstM, dIf, dFor, dWhile, dItems, dRange1, dRange2, dEnum, dZip, dLc, dLcM, wipeD, eTup, eCons, eNil, eSub, dCut, dPart, dNoPart, dRev, dFld, dSetFld, dMake, dMeth, dBM, dDGet2, dDGet, dDIn, dDPut, dDNew, dDisp1, dLstRg2, bSub, bDiv, bMod, bPow, bLt, bLe, bGt, bGe, bI, bI0, bB0, bIsN, bNotN, VL.isNon, uNeg, List.map_cons, List.map_nil, List.length_cons, List.length_nil, List.replicate, List.cons_append, List.nil_append, List.getElem?_cons_zero, List.getElem?_cons_succ, List.set_cons_zero, List.set_cons_succ, Nat.reduceAdd, Nat.reduceSub, decide_eq_true_eq, if_true, if_false, Bool.false_eq_true, reduceIte, pick, List.filterMap_cons, List.filterMap_nil]
      rw [decide_eq_true ⟨rows, rfl, hrow, fun p r hp t ht => hlag p r (by rw [enumD_length, List.length_map]; exact (List.getElem?_eq_some_iff.mp hp).1) hp t ht⟩] at q
      exact q
    · rintro i d δ G' nx hd ⟨p2, p3, p4, p5, p6, p7, rfl, rfl, hlag⟩ hn
      refine ⟨trivial, ?_⟩
      obtain ⟨z, hz, rfl⟩ := enumD_get 0 i _ d hd
      rw [List.getElem?_map] at hz
      obtain ⟨r, hri, rfl⟩ := Option.map_eq_some_iff.mp hz
      rw [Nat.zero_add]
      have ro := h.each r (List.mem_of_getElem? hri)
      have ru := ro.u2 h.U0 h.U1
      have ru0 := ro.u0
      have rn := ro.n1
      have rn0 := ro.n0
      simp only [ratD, startD, dRet, dRetN, dAndV, dOrV, dCB, dNotV, dCons, dNil, dVar, dC, dAnd, dOr, dNot, dTest, dBin, dUn, dChain, dIfS, dSeq, dAsg, eName, dPar, dPar3, dNext, dDrop, dNever, dCont, dBreak, dCall, dCallK, dTup, dLst, dLstM, dIf, dWhile, dItems, dRange1, dRange2, dEnum, dZip, dLc, dLcM, wipeD, eTup, eCons, eNil, eSub, dCut, dPart, dNoPart, dRev, dFld, dSetFld, dMake, dMeth, dBM, dDGet2, dDGet, dDIn, dDPut, dDNew, dDisp1, dLstRg2, bSub, bDiv, bMod, bPow, bLt, bLe, bGt, bGe, bI, bI0, bB0, bIsN, bNotN, VL.isNon, uNeg, List.map_cons, List.map_nil, List.length_cons, List.length_nil, List.replicate, List.cons_append, List.nil_append, List.getElem?_cons_zero, List.getElem?_cons_succ, List.set_cons_zero, List.set_cons_succ, Nat.reduceAdd, Nat.reduceSub, decide_eq_true_eq, if_true, if_false, Bool.false_eq_true, reduceIte, pick, List.filterMap_cons, List.filterMap_nil]
      refine ⟨trivial, trivial, ?_⟩
      show dEnum _ _ _ _
      unfold dEnum
      simp only [hs, startD, dRet, dRetN, dAndV, dOrV, dCB, dNotV, dCons, dNil, dVar, dC, dAnd, dOr, dNot, dTest, dBin, dUn, dChain, dIfS, dSeq, dAsg, eName, dPar, dPar3, dNext, dDrop, dNever, dCont, dBreak, dCall, dCallK, dTup, dLst, dLstM, dIf, dWhile, dItems, dRange1, dRange2, dZip, dLc, dLcM, wipeD, eTup, eCons, eNil, eSub, dCut, dPart, dNoPart, dRev, dFld, dSetFld, dMake, dMeth, dBM, dDGet2, dDGet, dDIn, dDPut, dDNew, dDisp1, dLstRg2, bSub, bDiv, bMod, bPow, bLt, bLe, bGt, bGe, bI, bI0, bB0, bIsN, bNotN, VL.isNon, uNeg, List.map_cons, List.map_nil, List.length_cons, List.length_nil, List.replicate, List.cons_append, List.nil_append, List.getElem?_cons_zero, List.getElem?_cons_succ, List.set_cons_zero, List.set_cons_succ, Nat.reduceAdd, Nat.reduceSub, decide_eq_true_eq, if_true, if_false, Bool.false_eq_true, reduceIte, pick, List.filterMap_cons, List.filterMap_nil]
      refine loop_at (fun j δ G'' => ∃ p6 p7, δ = [some (.tup (rs.map ratD)), some v, some (.int (i : Nat)), some (.int r.1), some (.int r.2), some (.int (sm (List.range j) (ent rows i))), p6, p7] ∧ G'' = G' ∧ ∀ t : Nat, t ≤ j → cLag t (sm (List.range t) (ent rows i)) r) ?_ ?_ ⟨_, _, rfl, rfl, fun t ht => ?_⟩
      · rintro δ G'' ⟨p6, p7, rfl, rfl, hl2⟩
        refine ⟨keepD_self, hn _ _ ⟨_, _, _, _, _, _, rfl, rfl, fun p s hp hs2 t ht => ?_⟩⟩
        by_cases e : p = i
        · subst e
          rw [hri] at hs2
          cases hs2
          exact hl2 t (by rw [enumD_length, lr]; exact ht)
        · exact hlag p s (by omega) hs2 t ht
      · rintro j d δ G'' nx2 hd ⟨p6, p7, rfl, rfl, hl2⟩ hn2
        refine ⟨keepD_self, ?_⟩
        obtain ⟨z, hz, rfl⟩ := enumD_get 0 j _ d hd
        rw [List.getElem?_map] at hz
        obtain ⟨row, hrw, rfl⟩ := Option.map_eq_some_iff.mp hz
        have rI := hrow row (List.mem_of_getElem? hrw)
        rw [Nat.zero_add]
        have hir : i < row.length := by rw [rI.len]; exact (List.getElem?_eq_some_iff.mp hri).1
        have ea : atI (row.map D.int) (i : Int) = some (.int row[i]) := at_nat (by rw [List.getElem?_map, List.getElem?_eq_getElem hir]; rfl)
        have ee : ent rows i j = row[i] := by
          unfold ent
          have g1 : rows.getD j [] = row := by rw [List.getD_eq_getElem?_getD, hrw]; rfl
          rw [g1, List.getD_eq_getElem?_getD, List.getElem?_eq_getElem hir]
          rfl
        have es2 : sm (List.range j) (ent rows i) + row[i] = sm (List.range (j + 1)) (ent rows i) := by
          rw [List.range_succ, sm_append, sm_cons, sm_nil, ee, Int.add_zero]
        simp only [rowD, bIx, seqOf, ea, bAdd, bMul, c1, startD, dRet, dRetN, dAndV, dOrV, dCB, dNotV, dCons, dNil, dVar, dC, dAnd, dOr, dNot, dTest, dBin, dUn, dChain, dIfS, dSeq, dAsg, eName, dPar, dPar3, dNext, dDrop, dNever, dCont, dBreak, dCall, dCallK, dTup, dLst, dLstM, dIf, dFor, dWhile, dItems, dRange1, dRange2, dEnum, dZip, dLc, dLcM, wipeD, eTup, eCons, eNil, eSub, dCut, dPart, dNoPart, dRev, dFld, dSetFld, dMake, dMeth, dBM, dDGet2, dDGet, dDIn, dDPut, dDNew, dDisp1, dLstRg2, bSub, bDiv, bMod, bPow, bLt, bLe, bGt, bGe, bI, bI0, bB0, bIsN, bNotN, VL.isNon, uNeg, List.map_cons, List.map_nil, List.length_cons, List.length_nil, List.replicate, List.cons_append, List.nil_append, List.getElem?_cons_zero, List.getElem?_cons_succ, List.set_cons_zero, List.set_cons_succ, Nat.reduceAdd, Nat.reduceSub, decide_eq_true_eq, if_true, if_false, Bool.false_eq_true, reduceIte, pick, List.filterMap_cons, List.filterMap_nil]
        rw [es2]
        refine ⟨trivial, .inr ⟨by omega, by omega⟩, .inr ⟨by omega, by omega⟩, ?_⟩
        generalize hT : sm (List.range (j + 1)) (ent rows i) = tt at *
        by_cases hcl : cLag ((j : Int) + 1) tt r
        · have g1 : ¬ r.2 ≤ (if ((j : Int) + 1) * r.1 - tt * r.2 < 0 then -(((j : Int) + 1) * r.1 - tt * r.2) else ((j : Int) + 1) * r.1 - tt * r.2) := fun z => by have := abs_lt.mpr hcl; omega
          simp only [g1, if_false]
          refine hn2 _ _ ⟨_, _, rfl, rfl, fun t ht => ?_⟩
          by_cases e : t ≤ j
          · exact hl2 t e
          · have : t = j + 1 := by omega
            subst this
            rw [hT]
            exact hcl
        · have g1 : r.2 ≤ (if ((j : Int) + 1) * r.1 - tt * r.2 < 0 then -(((j : Int) + 1) * r.1 - tt * r.2) else ((j : Int) + 1) * r.1 - tt * r.2) := Int.not_lt.mp fun z => hcl (abs_lt.mp z)
          simp only [g1, if_true]
          rw [decide_eq_false (by
            rintro ⟨rows', e, tb⟩
            rw [← rows_inj e] at tb
            have hj : j < rows.length := (List.getElem?_eq_some_iff.mp hrw).1
            have := tb.lag i r hri (j + 1) (by omega)
            rw [hT] at this
            exact hcl this)] at q
          exact q
      · have e : t = 0 := by omega
        subst e
        unfold cLag
        simp [sm]
        omega
  · simp only [decide_eq_false hc, Bool.not_false, if_true]
    rw [decide_eq_false (by
      rintro ⟨rows, e, tb⟩
      exact hc fun x hx => by
        rw [e] at hx
        obtain ⟨ns, hns, rfl⟩ := List.mem_map.mp hx
        exact ⟨ns, rfl, tb.row ns hns⟩)] at q
    exact q
end
end K84
set_option Elab.async false
set_option linter.all false
set_option maxRecDepth 100000
set_option maxHeartbeats 4000000
/-! k84: what the law draws. -/
namespace K84
open PySem L2 VL M84 Classical
def PotAt (G : Hd) (a : Addr) : Prop := ∃ p q : Int, G a = some (.lst [.int p, .int q])
def PotS (a : Addr) (G G' : Hd) : Prop := PotAt G' a ∧ ∀ b o, b ≠ a → G b = some o → G' b = some o
theorem PotS.refl {a : Addr} {G : Hd} (h : PotAt G a) : PotS a G G := ⟨h, fun _ _ _ e => e⟩
theorem PotS.trans {a : Addr} {G G1 G2 : Hd} (h : PotS a G G1) (k : PotS a G1 G2) : PotS a G G2 := ⟨k.1, fun b o n e => k.2 b o n (h.2 b o n e)⟩
theorem PotS.upd {a : Addr} {G : Hd} {p q : Int} : PotS a G (updD G a (.lst [.int p, .int q])) := ⟨⟨p, q, updD_same⟩, fun b o n e => by rw [updD_ne n]; exact e⟩
def S_draw : SpD := fun ds G Q => ∃ a m, ds = [.ref a, .int m] ∧ PotAt G a ∧ 0 < m ∧ m < 1000000 ∧ ∀ d G', 0 ≤ d → d < m → PotS a G G' → Q (.int d) G'
def S_pick : SpD := fun ds G Q => ∃ a v xs, ds = [.ref a, v] ∧ v = .lst xs ∧ PotAt G a ∧ 0 < xs.length ∧ xs.length < 1000 ∧ ∀ d G', d ∈ xs → PotS a G G' → Q d G'
def S_pot : SpD := fun ds G Q => ∃ ns : List Int, ds = [.ro (ns.map .int), .int 0] ∧ ns.length ≤ 63 ∧ ∀ (a : Addr) (G' : Hd), PotAt G' a → Q (.ref a) G'
def S_ratios : SpD := fun ds G Q => ∃ a, ds = [.ref a] ∧ PotAt G a ∧ ∀ rs U G', RsOk U rs → PotS a G G' → Q (ratsD rs) G'
section
variable {P : Program} {w : World} {K : PySem.W.Frag} {mg : Str → Option Value} {base : Heap} {k : Nat}
theorem ok_draw (T : Txt K mg) : FnA P w K mg base 1 T.f__law_draw T.d__law_draw ["pot", "many"] S_draw := by
  refine (w__law_draw (k := 0) T (by rintro ds G Q ⟨_, _, rfl, _⟩; rfl)).2 fun ds G Q h => ?_
  obtain ⟨a, m, rfl, ⟨p, r, hp⟩, m0, m1, q⟩ := h
  have i0 : ixN 2 0 = some 0 := by decide
  have i1 : ixN 2 1 = some 1 := by decide
  have hs : trkL (G a) = some [.int p, .int r] := by rw [hp]; rfl
  simp only [w__law_draw, bIx, seqOf, hs, at0, at1, startD, dRet, dRetN, dAndV, dOrV, dCB, dNotV, dCons, dNil, dVar, dC, dAnd, dOr, dNot, dTest, dBin, dUn, dChain, dIfS, dSeq, dAsg, eName, dPar, dPar3, dNext, dDrop, dNever, dCont, dBreak, dCall, dCallK, dTup, dLst, dLstM, dIf, dFor, dWhile, dItems, dRange1, dRange2, dEnum, dZip, dLc, dLcM, wipeD, eTup, eCons, eNil, eSub, dCut, dPart, dNoPart, dRev, dFld, dSetFld, dMake, dMeth, dBM, dDGet2, dDGet, dDIn, dDPut, dDNew, dDisp1, dLstRg2, bSub, bDiv, bMod, bPow, bLt, bLe, bGt, bGe, bI, bI0, bB0, bIsN, bNotN, VL.isNon, uNeg, List.map_cons, List.map_nil, List.length_cons, List.length_nil, List.replicate, List.cons_append, List.nil_append, List.getElem?_cons_zero, List.getElem?_cons_succ, List.set_cons_zero, List.set_cons_succ, Nat.reduceAdd, Nat.reduceSub, decide_eq_true_eq, if_true, if_false, Bool.false_eq_true, reduceIte, pick, List.filterMap_cons, List.filterMap_nil]
  by_cases h0 : 0 < p
  · rw [if_pos h0]
    simp only [cDivmod, c2, setL, hp, i0, startD, dRet, dRetN, dAndV, dOrV, dCB, dNotV, dCons, dNil, dVar, dC, dAnd, dOr, dNot, dTest, dBin, dUn, dChain, dIfS, dSeq, dAsg, eName, dPar, dPar3, dNext, dDrop, dNever, dCont, dBreak, dCall, dCallK, dTup, dLst, dLstM, dIf, dFor, dWhile, dItems, dRange1, dRange2, dEnum, dZip, dLc, dLcM, wipeD, eTup, eCons, eNil, eSub, dCut, dPart, dNoPart, dRev, dFld, dSetFld, dMake, dMeth, dBM, dDGet2, dDGet, dDIn, dDPut, dDNew, dDisp1, dLstRg2, bSub, bDiv, bMod, bPow, bLt, bLe, bGt, bGe, bI, bI0, bB0, bIsN, bNotN, VL.isNon, uNeg, List.map_cons, List.map_nil, List.length_cons, List.length_nil, List.replicate, List.cons_append, List.nil_append, List.getElem?_cons_zero, List.getElem?_cons_succ, List.set_cons_zero, List.set_cons_succ, Nat.reduceAdd, Nat.reduceSub, decide_eq_true_eq, if_true, if_false, Bool.false_eq_true, reduceIte, pick, List.filterMap_cons, List.filterMap_nil]
    exact ⟨⟨m0, by omega⟩, trivial, q _ _ (Int.emod_nonneg _ (by omega)) (Int.emod_lt_of_pos _ m0) PotS.upd⟩
  · rw [if_neg h0]
    simp only [cInt, bMul, bAdd, setL, hp, i1, startD, dRet, dRetN, dAndV, dOrV, dCB, dNotV, dCons, dNil, dVar, dC, dAnd, dOr, dNot, dTest, dBin, dUn, dChain, dIfS, dSeq, dAsg, eName, dPar, dPar3, dNext, dDrop, dNever, dCont, dBreak, dCall, dCallK, dTup, dLst, dLstM, dIf, dFor, dWhile, dItems, dRange1, dRange2, dEnum, dZip, dLc, dLcM, wipeD, eTup, eCons, eNil, eSub, dCut, dPart, dNoPart, dRev, dFld, dSetFld, dMake, dMeth, dBM, dDGet2, dDGet, dDIn, dDPut, dDNew, dDisp1, dLstRg2, bSub, bDiv, bMod, bPow, bLt, bLe, bGt, bGe, bI, bI0, bB0, bIsN, bNotN, VL.isNon, uNeg, List.map_cons, List.map_nil, List.length_cons, List.length_nil, List.replicate, List.cons_append, List.nil_append, List.getElem?_cons_zero, List.getElem?_cons_succ, List.set_cons_zero, List.set_cons_succ, Nat.reduceAdd, Nat.reduceSub, decide_eq_true_eq, if_true, if_false, Bool.false_eq_true, reduceIte, pick, List.filterMap_cons, List.filterMap_nil]
    refine ⟨.inr ⟨by omega, by omega⟩, by decide, ?_⟩
    have hs2 : ∀ x : Int, trkL (updD G a (.lst [.int p, .int x]) a) = some [.int p, .int x] := fun x => by rw [updD_same]; rfl
    generalize hx : (r * 40014 + 32003) % 2147483563 = x
    have x0 : 0 ≤ x := by rw [← hx]; exact Int.emod_nonneg _ (by decide)
    have x1 : x < 2147483563 := by rw [← hx]; exact Int.emod_lt_of_pos _ (by decide)
    simp only [hs2, at1, cInt, bMul, startD, dRet, dRetN, dAndV, dOrV, dCB, dNotV, dCons, dNil, dVar, dC, dAnd, dOr, dNot, dTest, dBin, dUn, dChain, dIfS, dSeq, dAsg, eName, dPar, dPar3, dNext, dDrop, dNever, dCont, dBreak, dCall, dCallK, dTup, dLst, dLstM, dIf, dFor, dWhile, dItems, dRange1, dRange2, dEnum, dZip, dLc, dLcM, wipeD, eTup, eCons, eNil, eSub, dCut, dPart, dNoPart, dRev, dFld, dSetFld, dMake, dMeth, dBM, dDGet2, dDGet, dDIn, dDPut, dDNew, dDisp1, dLstRg2, bSub, bDiv, bMod, bPow, bLt, bLe, bGt, bGe, bI, bI0, bB0, bIsN, bNotN, VL.isNon, uNeg, List.map_cons, List.map_nil, List.length_cons, List.length_nil, List.replicate, List.cons_append, List.nil_append, List.getElem?_cons_zero, List.getElem?_cons_succ, List.set_cons_zero, List.set_cons_succ, Nat.reduceAdd, Nat.reduceSub, decide_eq_true_eq, if_true, if_false, Bool.false_eq_true, reduceIte, pick, List.filterMap_cons, List.filterMap_nil]
    refine ⟨.inl ⟨by omega, by omega⟩, by decide, ⟨by decide, by decide⟩, m0, q _ _ (Int.emod_nonneg _ (by omega)) (Int.emod_lt_of_pos _ m0) PotS.upd⟩
theorem ok_pick (T : Txt K mg) : FnA P w K mg base 2 T.f__law_pick T.d__law_pick ["pot", "some"] S_pick := by
  refine (w__law_pick (k := 1) T (ok_draw T) (by rintro ds G Q ⟨_, _, _, rfl, _⟩; rfl)).2 fun ds G Q h => ?_
  obtain ⟨a, v, xs, rfl, rfl, hp, l0, l1, q⟩ := h
  simp only [w__law_pick, cLen, seqOf, startD, dRet, dRetN, dAndV, dOrV, dCB, dNotV, dCons, dNil, dVar, dC, dAnd, dOr, dNot, dTest, dBin, dUn, dChain, dIfS, dSeq, dAsg, eName, dPar, dPar3, dNext, dDrop, dNever, dCont, dBreak, dCall, dCallK, dTup, dLst, dLstM, dIf, dFor, dWhile, dItems, dRange1, dRange2, dEnum, dZip, dLc, dLcM, wipeD, eTup, eCons, eNil, eSub, dCut, dPart, dNoPart, dRev, dFld, dSetFld, dMake, dMeth, dBM, dDGet2, dDGet, dDIn, dDPut, dDNew, dDisp1, dLstRg2, bSub, bDiv, bMod, bPow, bLt, bLe, bGt, bGe, bI, bI0, bB0, bIsN, bNotN, VL.isNon, uNeg, List.map_cons, List.map_nil, List.length_cons, List.length_nil, List.replicate, List.cons_append, List.nil_append, List.getElem?_cons_zero, List.getElem?_cons_succ, List.set_cons_zero, List.set_cons_succ, Nat.reduceAdd, Nat.reduceSub, decide_eq_true_eq, if_true, if_false, Bool.false_eq_true, reduceIte, pick, List.filterMap_cons, List.filterMap_nil]
  refine ⟨a, _, rfl, hp, by omega, by omega, fun d G' d0 d1 ps => ?_⟩
  have hd : d.toNat < xs.length := by omega
  have e : atI xs d = some xs[d.toNat] := by
    have := at_nat (xs := xs) (i := d.toNat) (List.getElem?_eq_getElem hd)
    rwa [Int.toNat_of_nonneg d0] at this
  simp only [bIx, seqOf, e, startD, dRet, dRetN, dAndV, dOrV, dCB, dNotV, dCons, dNil, dVar, dC, dAnd, dOr, dNot, dTest, dBin, dUn, dChain, dIfS, dSeq, dAsg, eName, dPar, dPar3, dNext, dDrop, dNever, dCont, dBreak, dCall, dCallK, dTup, dLst, dLstM, dIf, dFor, dWhile, dItems, dRange1, dRange2, dEnum, dZip, dLc, dLcM, wipeD, eTup, eCons, eNil, eSub, dCut, dPart, dNoPart, dRev, dFld, dSetFld, dMake, dMeth, dBM, dDGet2, dDGet, dDIn, dDPut, dDNew, dDisp1, dLstRg2, bSub, bDiv, bMod, bPow, bLt, bLe, bGt, bGe, bI, bI0, bB0, bIsN, bNotN, VL.isNon, uNeg, List.map_cons, List.map_nil, List.length_cons, List.length_nil, List.replicate, List.cons_append, List.nil_append, List.getElem?_cons_zero, List.getElem?_cons_succ, List.set_cons_zero, List.set_cons_succ, Nat.reduceAdd, Nat.reduceSub, decide_eq_true_eq, if_true, if_false, Bool.false_eq_true, reduceIte, pick, List.filterMap_cons, List.filterMap_nil]
  exact q _ _ (List.getElem_mem hd) ps
theorem ok_pot (T : Txt K mg) : FnA P w K mg base 1 T.f__law_pot T.d__law_pot ["script", "k"] S_pot := by
  refine (w__law_pot (k := 0) T (by rintro ds G Q ⟨_, rfl, _⟩; rfl)).2 fun ds G Q h => ?_
  obtain ⟨ns, rfl, hl, q⟩ := h
  have sz : sizeLine = 16777216 := by decide
  simp only [w__law_pot, cLen, seqOf, startD, dRet, dRetN, dAndV, dOrV, dCB, dNotV, dCons, dNil, dVar, dC, dAnd, dOr, dNot, dTest, dBin, dUn, dChain, dIfS, dSeq, dAsg, eName, dPar, dPar3, dNext, dDrop, dNever, dCont, dBreak, dCall, dCallK, dTup, dLst, dLstM, dIf, dFor, dWhile, dItems, dRange1, dRange2, dEnum, dZip, dLc, dLcM, wipeD, eTup, eCons, eNil, eSub, dCut, dPart, dNoPart, dRev, dFld, dSetFld, dMake, dMeth, dBM, dDGet2, dDGet, dDIn, dDPut, dDNew, dDisp1, dLstRg2, bSub, bDiv, bMod, bPow, bLt, bLe, bGt, bGe, bI, bI0, bB0, bIsN, bNotN, VL.isNon, uNeg, List.map_cons, List.map_nil, List.length_cons, List.length_nil, List.replicate, List.cons_append, List.nil_append, List.getElem?_cons_zero, List.getElem?_cons_succ, List.set_cons_zero, List.set_cons_succ, Nat.reduceAdd, Nat.reduceSub, decide_eq_true_eq, if_true, if_false, Bool.false_eq_true, reduceIte, pick, List.filterMap_cons, List.filterMap_nil]
  have fin : ∀ cell : Int, (∀ p, G p = none → Q (.ref p) (updD G p (.lst [.int (if cell - 10 ^ 18 > 0 then cell - 10 ^ 18 else 0), .int ((cell % 2147483549 * 40637 + 569 * 0 + 53) % 2147483563 + 1)]))) := fun cell p hp => q p _ ⟨_, _, updD_same⟩
  cases ns with
  | nil =>
    simp only [List.map_nil, List.length_nil]
    simp only [sCut, cutD, cSumX, seqOf, intsOf, c1, bMul, bAdd, cMax, c2, cInt, bPow, bI, CPow, startD, dRet, dRetN, dAndV, dOrV, dCB, dNotV, dCons, dNil, dVar, dC, dAnd, dOr, dNot, dTest, dBin, dUn, dChain, dIfS, dSeq, dAsg, eName, dPar, dPar3, dNext, dDrop, dNever, dCont, dBreak, dCall, dCallK, dTup, dLst, dLstM, dIf, dFor, dWhile, dItems, dRange1, dRange2, dEnum, dZip, dLc, dLcM, wipeD, eTup, eCons, eNil, eSub, dCut, dPart, dNoPart, dRev, dFld, dSetFld, dMake, dMeth, dBM, dDGet2, dDGet, dDIn, dDPut, dDNew, dDisp1, dLstRg2, bSub, bDiv, bMod, bPow, bLt, bLe, bGt, bGe, bI, bI0, bB0, bIsN, bNotN, VL.isNon, uNeg, List.map_cons, List.map_nil, List.length_cons, List.length_nil, List.replicate, List.cons_append, List.nil_append, List.getElem?_cons_zero, List.getElem?_cons_succ, List.set_cons_zero, List.set_cons_succ, Nat.reduceAdd, Nat.reduceSub, decide_eq_true_eq, if_true, if_false, Bool.false_eq_true, reduceIte, pick, List.filterMap_cons, List.filterMap_nil]
    rw [if_neg (by decide)]
    have e : intsOf (List.take (HT.sIx 0 0 (some 1) - HT.sIx 0 0 none) (List.drop (HT.sIx 0 0 none) ([] : List D))) = some [] := by simp [intsOf]
    rw [e]
    exact ⟨.inr ⟨by decide, by decide⟩, by decide, ⟨by decide, by decide, by decide⟩, trivial, by decide, .inr ⟨by decide, by decide⟩, .inr ⟨by decide, by decide⟩, by decide, by decide, fin _⟩
  | cons n ns =>
    simp only [bIx, seqOf, at0, c1, bMul, bAdd, cMax, c2, cInt, bPow, bI, CPow, startD, dRet, dRetN, dAndV, dOrV, dCB, dNotV, dCons, dNil, dVar, dC, dAnd, dOr, dNot, dTest, dBin, dUn, dChain, dIfS, dSeq, dAsg, eName, dPar, dPar3, dNext, dDrop, dNever, dCont, dBreak, dCall, dCallK, dTup, dLst, dLstM, dIf, dFor, dWhile, dItems, dRange1, dRange2, dEnum, dZip, dLc, dLcM, wipeD, eTup, eCons, eNil, eSub, dCut, dPart, dNoPart, dRev, dFld, dSetFld, dMake, dMeth, dBM, dDGet2, dDGet, dDIn, dDPut, dDNew, dDisp1, dLstRg2, bSub, bDiv, bMod, bPow, bLt, bLe, bGt, bGe, bI, bI0, bB0, bIsN, bNotN, VL.isNon, uNeg, List.map_cons, List.map_nil, List.length_cons, List.length_nil, List.replicate, List.cons_append, List.nil_append, List.getElem?_cons_zero, List.getElem?_cons_succ, List.set_cons_zero, List.set_cons_succ, Nat.reduceAdd, Nat.reduceSub, decide_eq_true_eq, if_true, if_false, Bool.false_eq_true, reduceIte, pick, List.filterMap_cons, List.filterMap_nil]
    rw [if_pos (by omega)]
    exact ⟨⟨by decide, by decide, by decide⟩, trivial, by decide, .inr ⟨by decide, by decide⟩, .inr ⟨by decide, by decide⟩, by decide, by decide, fin _⟩
theorem rok_low {U n : Int} (U0 : 0 < U) (n0 : 0 < n) (n1 : n < 1000000) : ROk U (n / gI n U, U / gI n U) := by
  have r := red_low (U := U) (V := n) U0 rfl
  have g0 := gI_pos (a := n) U0
  refine ⟨?_, ?_, r.b0, r.dvd, r.g⟩
  · obtain ⟨c, hc⟩ := gI_dvdl (a := n) (b := U)
    show 0 < n / gI n U
    have e : n / gI n U = c := by
      conv => lhs; lhs; rw [hc]
      exact Int.mul_ediv_cancel_left _ (by omega)
    rw [e]
    apply Classical.byContradiction
    intro hn
    have := Int.mul_le_mul_of_nonneg_left (show c ≤ 0 by omega) (Int.le_of_lt g0)
    rw [← hc, Int.mul_zero] at this
    omega
  · show n / gI n U < 1000000
    have := Int.ediv_le_self (gI n U) (Int.le_of_lt n0)
    omega
theorem A_append {U : Int} (a b : List Rt) : A U (a ++ b) = A U a + A U b := by
  unfold A; rw [List.map_append, List.sum_append]
/-- the last ratio makes the sum whole -/
theorem last_ok {U a b d : Int} {rs : List Rt} (U0 : 0 < U) (U1 : U ≤ 100) (h1 : ∀ r ∈ rs, ROk U r) (hl : rs.length ≤ 6) (red : Red U (A U rs) a b) (d0 : 0 ≤ d) (d3 : d < 3) :
    RsOk U (rs ++ [((b - a % b + b * d) / gI (b - a % b + b * d) b, b / gI (b - a % b + b * d) b)]) := by
  have b0 := red.b0
  have bU := red.dvd
  have bl : b ≤ 100 := Int.le_trans (Int.le_of_dvd U0 bU) U1
  have m0 := Int.emod_nonneg a (show b ≠ 0 by omega)
  have m1 := Int.emod_lt_of_pos a b0
  have bd0 : 0 ≤ b * d := Int.mul_nonneg (by omega) d0
  have bd1 : b * d ≤ 100 * 3 := Int.mul_le_mul bl (by omega) d0 (by omega)
  generalize hx : b - a % b + b * d = x
  have x0 : 0 < x := by omega
  have x1 : x < 1000000 := by omega
  have ro := rok_low b0 x0 x1
  have rU : ROk U (x / gI x b, b / gI x b) := ⟨ro.n0, ro.n1, ro.u0, Int.dvd_trans ro.u1 bU, ro.g⟩
  refine ⟨U0, U1, by simp, by simp; omega, fun r hr => ?_, ?_⟩
  · rcases List.mem_append.mp hr with z | z
    · exact h1 r z
    · rw [List.mem_singleton.mp z]; exact rU
  · rw [A_append]
    obtain ⟨c, hc⟩ := bU
    have g0 := gI_pos (a := x) b0
    have last : A U [(x / gI x b, b / gI x b)] = x * c := by
      have : A U [(x / gI x b, b / gI x b)] = x / gI x b * (U / (b / gI x b)) := by
        unfold A; simp
      rw [this]
      obtain ⟨l, hl2⟩ := gI_dvdr (a := x) (b := b)
      obtain ⟨y, hy⟩ := gI_dvdl (a := x) (b := b)
      have e1 : b / gI x b = l := by
        conv => lhs; lhs; rw [hl2]
        exact Int.mul_ediv_cancel_left _ (by omega)
      have e2 : x / gI x b = y := by
        conv => lhs; lhs; rw [hy]
        exact Int.mul_ediv_cancel_left _ (by omega)
      have l0 : 0 < l := by have := ro.u0; rw [← e1]; exact this
      have e3 : U / l = gI x b * c := by
        rw [hc]
        conv => lhs; lhs; lhs; rw [hl2]
        rw [Int.mul_comm (gI x b) l, Int.mul_assoc]
        exact Int.mul_ediv_cancel_left _ (by omega)
      rw [e1, e2, e3, ← Int.mul_assoc, Int.mul_comm y]
      rw [← hy]
    have hA : A U rs = a * c := by
      have e := red.eq
      rw [hc] at e
      have : b * (a * c) = b * A (b * c) rs := by
        rw [← Int.mul_assoc, Int.mul_comm b a, Int.mul_assoc, e, Int.mul_comm]
      have := Int.eq_of_mul_eq_mul_left (show b ≠ 0 by omega) this
      rw [hc]; exact this.symm
    rw [last, hA, ← hx, hc]
    refine ⟨a / b + 1 + d, ?_⟩
    have e := Int.emod_add_mul_ediv a b
    have h2 : a * c + (b - a % b + b * d) * c = (a - a % b + b + b * d) * c := by rw [← Int.add_mul]; congr 1; omega
    rw [h2]
    have h3 : a - a % b + b + b * d = b * (a / b + 1 + d) := by
      rw [Int.mul_add, Int.mul_add, Int.mul_one]
      omega
    rw [h3, Int.mul_assoc, Int.mul_assoc, Int.mul_comm c]
theorem ok_ratios (T : Txt K mg) : FnA P w K mg base 3 T.f__law_ratios T.d__law_ratios ["pot"] S_ratios := by
  refine (w__law_ratios (k := 2) T (VL.FnA.mono (k := 2) (ok_law_low T) (by decide)) (VL.FnA.mono (k := 2) (ok_draw T) (by decide)) (ok_law_sum T) (ok_pick T) (by rintro ds G Q ⟨_, rfl, _⟩; rfl)).2 fun ds G Q h => ?_
  obtain ⟨a, rfl, hp, q⟩ := h
  have sz : sizeLine = 16777216 := by decide
  simp only [w__law_ratios, startD, dRet, dRetN, dAndV, dOrV, dCB, dNotV, dCons, dNil, dVar, dC, dAnd, dOr, dNot, dTest, dBin, dUn, dChain, dIfS, dSeq, dAsg, eName, dPar, dPar3, dNext, dDrop, dNever, dCont, dBreak, dCall, dCallK, dTup, dLst, dLstM, dIf, dFor, dWhile, dItems, dRange1, dRange2, dEnum, dZip, dLc, wipeD, eTup, eCons, eNil, eSub, dCut, dPart, dNoPart, dRev, dFld, dSetFld, dMake, dMeth, dBM, dDGet2, dDGet, dDIn, dDPut, dDNew, dDisp1, dLstRg2, bSub, bDiv, bMod, bPow, bLt, bLe, bGt, bGe, bI, bI0, bB0, bIsN, bNotN, VL.isNon, uNeg, List.map_cons, List.map_nil, List.length_cons, List.length_nil, List.replicate, List.cons_append, List.nil_append, List.getElem?_cons_zero, List.getElem?_cons_succ, List.set_cons_zero, List.set_cons_succ, Nat.reduceAdd, Nat.reduceSub, decide_eq_true_eq, if_true, if_false, Bool.false_eq_true, reduceIte, pick, List.filterMap_cons, List.filterMap_nil]
  refine ⟨a, 7, rfl, hp, by decide, by decide, fun m G1 m0 m1 p1 => ?_⟩
  simp only [startD, dRet, dRetN, dAndV, dOrV, dCB, dNotV, dCons, dNil, dVar, dC, dAnd, dOr, dNot, dTest, dBin, dUn, dChain, dIfS, dSeq, dAsg, eName, dPar, dPar3, dNext, dDrop, dNever, dCont, dBreak, dCall, dCallK, dTup, dLst, dLstM, dIf, dFor, dWhile, dItems, dRange1, dRange2, dEnum, dZip, dLc, wipeD, eTup, eCons, eNil, eSub, dCut, dPart, dNoPart, dRev, dFld, dSetFld, dMake, dMeth, dBM, dDGet2, dDGet, dDIn, dDPut, dDNew, dDisp1, dLstRg2, bSub, bDiv, bMod, bPow, bLt, bLe, bGt, bGe, bI, bI0, bB0, bIsN, bNotN, VL.isNon, uNeg, List.map_cons, List.map_nil, List.length_cons, List.length_nil, List.replicate, List.cons_append, List.nil_append, List.getElem?_cons_zero, List.getElem?_cons_succ, List.set_cons_zero, List.set_cons_succ, Nat.reduceAdd, Nat.reduceSub, decide_eq_true_eq, if_true, if_false, Bool.false_eq_true, reduceIte, pick, List.filterMap_cons, List.filterMap_nil]
  refine ⟨by decide, a, _, _, rfl, rfl, p1.1, by decide, by decide, fun u G2 hu p2 => ?_⟩
  obtain ⟨U, rfl, U0, U1⟩ : ∃ U : Int, u = .int U ∧ 0 < U ∧ U ≤ 100 := by
    have hu' : u ∈ [D.int 1, .int 2, .int 3, .int 5, .int 6, .int 12, .int 100] := hu
    simp only [List.mem_cons, List.not_mem_nil, or_false] at hu'
    rcases hu' with rfl | rfl | rfl | rfl | rfl | rfl | rfl <;> exact ⟨_, rfl, by decide, by decide⟩
  refine ⟨by decide, trivial, a, 8, rfl, p2.1, by decide, by decide, fun e G3 e0 e1 p3 => ?_⟩
  have p13 : PotS a G G3 := (p1.trans p2).trans p3
  have both : ∃ (top : Int) (G5 : Hd), True := ⟨0, G3, trivial⟩
  show bEq (.int e) (.int 0) G3 _
  simp only [bEq, startD, dRet, dRetN, dAndV, dOrV, dCB, dNotV, dCons, dNil, dVar, dC, dAnd, dOr, dNot, dTest, dBin, dUn, dChain, dIfS, dSeq, dAsg, eName, dPar, dPar3, dNext, dDrop, dNever, dCont, dBreak, dCall, dCallK, dTup, dLst, dLstM, dIf, dFor, dWhile, dItems, dRange1, dRange2, dEnum, dZip, dLc, wipeD, eTup, eCons, eNil, eSub, dCut, dPart, dNoPart, dRev, dFld, dSetFld, dMake, dMeth, dBM, dDGet2, dDGet, dDIn, dDPut, dDNew, dDisp1, dLstRg2, bSub, bDiv, bMod, bPow, bLt, bLe, bGt, bGe, bI, bI0, bB0, bIsN, bNotN, VL.isNon, uNeg, List.map_cons, List.map_nil, List.length_cons, List.length_nil, List.replicate, List.cons_append, List.nil_append, List.getElem?_cons_zero, List.getElem?_cons_succ, List.set_cons_zero, List.set_cons_succ, Nat.reduceAdd, Nat.reduceSub, decide_eq_true_eq, if_true, if_false, Bool.false_eq_true, reduceIte, pick, List.filterMap_cons, List.filterMap_nil]
  by_cases he : e = 0
  · rw [if_pos he]
    refine ⟨.inr ⟨by decide, by decide⟩, ?_⟩
    have t0 : 0 < U * 999 := by omega
    have t1 : U * 999 < 999000 := by omega
    generalize U * 999 = top at t0 t1
    show (-(2 ^ 62 : Int) ≤ m ∧ m < 2 ^ 62) ∧ dCL _ _ _ _ _ (rangeD 0 m) _ _ _
    refine ⟨⟨by omega, by omega⟩, ?_⟩
    refine comp_ind (fun items acc Gi => ∃ rs : List Rt, acc = rs.map ratD ∧ rs.length + items.length ≤ 6 ∧ (∀ r ∈ rs, ROk U r) ∧ PotS a G Gi) ?_ ?_ _ _ _ ⟨[], rfl, by rw [rangeD_length]; simp; omega, (fun r hr => nomatch hr), p13⟩
    · rintro acc Gi ⟨rs, rfl, hl, hr, pi⟩
      refine ⟨trivial, fun f hf => ?_⟩
      have naf : a ≠ f := fun z => by
        obtain ⟨x, y, hx⟩ := pi.1
        rw [z, hf] at hx
        cases hx
      have gf : updD Gi f (.lst (rs.map ratD)) f = some (.lst (rs.map ratD)) := updD_same
      have pf : PotS a G (updD Gi f (.lst (rs.map ratD))) := by
        obtain ⟨⟨x, y, hx⟩, k2⟩ := pi
        refine ⟨⟨x, y, by rw [updD_ne naf]; exact hx⟩, fun b o nb eb => ?_⟩
        have := k2 b o nb eb
        rw [updD_ne (fun z => by rw [z, hf] at this; cases this)]
        exact this
      generalize hG6 : updD Gi f (HD.lst (rs.map ratD)) = G6 at gf pf
      have fre : G f = none := by
        cases z : G f with
        | none => rfl
        | some o => have := pi.2 f o (fun z => naf z.symm) z; rw [hf] at this; cases this
      refine ⟨_, rs, U, rfl, by show trkL (G6 f) = _; rw [gf]; rfl, U0, U1, fun r h => ⟨(hr r h).u0, (hr r h).u1, (hr r h).n0, (hr r h).n1⟩, fun x y red => ?_⟩
      have y0 := red.b0
      simp only [gf, startD, dRet, dRetN, dAndV, dOrV, dCB, dNotV, dCons, dNil, dVar, dC, dAnd, dOr, dNot, dTest, dBin, dUn, dChain, dIfS, dSeq, dAsg, eName, dPar, dPar3, dNext, dDrop, dNever, dCont, dBreak, dCall, dCallK, dTup, dLst, dLstM, dIf, dFor, dWhile, dItems, dRange1, dRange2, dEnum, dZip, dLc, dLcM, wipeD, eTup, eCons, eNil, eSub, dCut, dPart, dNoPart, dRev, dFld, dSetFld, dMake, dMeth, dBM, dDGet2, dDGet, dDIn, dDPut, dDNew, dDisp1, dLstRg2, bSub, bDiv, bMod, bPow, bLt, bLe, bGt, bGe, bI, bI0, bB0, bIsN, bNotN, VL.isNon, uNeg, List.map_cons, List.map_nil, List.length_cons, List.length_nil, List.replicate, List.cons_append, List.nil_append, List.getElem?_cons_zero, List.getElem?_cons_succ, List.set_cons_zero, List.set_cons_succ, Nat.reduceAdd, Nat.reduceSub, decide_eq_true_eq, if_true, if_false, Bool.false_eq_true, reduceIte, pick, List.filterMap_cons, List.filterMap_nil]
      refine ⟨trivial, ⟨_, rfl⟩, y0, a, 3, rfl, pf.1, by decide, by decide, fun d G7 d0 d1 p7 => ?_⟩
      have g7 : G7 f = some (.lst (rs.map ratD)) := p7.2 f _ (fun z => naf z.symm) gf
      have yl : y ≤ 100 := Int.le_trans (Int.le_of_dvd U0 red.dvd) U1
      simp only [bMul, bAdd, startD, dRet, dRetN, dAndV, dOrV, dCB, dNotV, dCons, dNil, dVar, dC, dAnd, dOr, dNot, dTest, dBin, dUn, dChain, dIfS, dSeq, dAsg, eName, dPar, dPar3, dNext, dDrop, dNever, dCont, dBreak, dCall, dCallK, dTup, dLst, dLstM, dIf, dFor, dWhile, dItems, dRange1, dRange2, dEnum, dZip, dLc, dLcM, wipeD, eTup, eCons, eNil, eSub, dCut, dPart, dNoPart, dRev, dFld, dSetFld, dMake, dMeth, dBM, dDGet2, dDGet, dDIn, dDPut, dDNew, dDisp1, dLstRg2, bSub, bDiv, bMod, bPow, bLt, bLe, bGt, bGe, bI, bI0, bB0, bIsN, bNotN, VL.isNon, uNeg, List.map_cons, List.map_nil, List.length_cons, List.length_nil, List.replicate, List.cons_append, List.nil_append, List.getElem?_cons_zero, List.getElem?_cons_succ, List.set_cons_zero, List.set_cons_succ, Nat.reduceAdd, Nat.reduceSub, decide_eq_true_eq, if_true, if_false, Bool.false_eq_true, reduceIte, pick, List.filterMap_cons, List.filterMap_nil]
      refine ⟨.inl ⟨by omega, by omega⟩, _, _, rfl, y0, by omega, ?_⟩
      have hl6 : rs.length ≤ 6 := by simp at hl; omega
      have ok := last_ok U0 U1 hr hl6 red d0 d1
      simp only [mAppend, g7, startD, dRet, dRetN, dAndV, dOrV, dCB, dNotV, dCons, dNil, dVar, dC, dAnd, dOr, dNot, dTest, dBin, dUn, dChain, dIfS, dSeq, dAsg, eName, dPar, dPar3, dNext, dDrop, dNever, dCont, dBreak, dCall, dCallK, dTup, dLst, dLstM, dIf, dFor, dWhile, dItems, dRange1, dRange2, dEnum, dZip, dLc, dLcM, wipeD, eTup, eCons, eNil, eSub, dCut, dPart, dNoPart, dRev, dFld, dSetFld, dMake, dMeth, dBM, dDGet2, dDGet, dDIn, dDPut, dDNew, dDisp1, dLstRg2, bSub, bDiv, bMod, bPow, bLt, bLe, bGt, bGe, bI, bI0, bB0, bIsN, bNotN, VL.isNon, uNeg, List.map_cons, List.map_nil, List.length_cons, List.length_nil, List.replicate, List.cons_append, List.nil_append, List.getElem?_cons_zero, List.getElem?_cons_succ, List.set_cons_zero, List.set_cons_succ, Nat.reduceAdd, Nat.reduceSub, decide_eq_true_eq, if_true, if_false, Bool.false_eq_true, reduceIte, pick, List.filterMap_cons, List.filterMap_nil]
      refine ⟨by rw [sz, List.length_map]; omega, ?_⟩
      have s2 : trkL (updD G7 f (.lst (rs.map ratD ++ [.tup [.int ((y - x % y + y * d) / gI (y - x % y + y * d) y), .int (y / gI (y - x % y + y * d) y)]])) f) = some (rs.map ratD ++ [.tup [.int ((y - x % y + y * d) / gI (y - x % y + y * d) y), .int (y / gI (y - x % y + y * d) y)]]) := by rw [updD_same]; rfl
      simp only [cTuple, seqOf, s2, startD, dRet, dRetN, dAndV, dOrV, dCB, dNotV, dCons, dNil, dVar, dC, dAnd, dOr, dNot, dTest, dBin, dUn, dChain, dIfS, dSeq, dAsg, eName, dPar, dPar3, dNext, dDrop, dNever, dCont, dBreak, dCall, dCallK, dTup, dLst, dLstM, dIf, dFor, dWhile, dItems, dRange1, dRange2, dEnum, dZip, dLc, dLcM, wipeD, eTup, eCons, eNil, eSub, dCut, dPart, dNoPart, dRev, dFld, dSetFld, dMake, dMeth, dBM, dDGet2, dDGet, dDIn, dDPut, dDNew, dDisp1, dLstRg2, bSub, bDiv, bMod, bPow, bLt, bLe, bGt, bGe, bI, bI0, bB0, bIsN, bNotN, VL.isNon, uNeg, List.map_cons, List.map_nil, List.length_cons, List.length_nil, List.replicate, List.cons_append, List.nil_append, List.getElem?_cons_zero, List.getElem?_cons_succ, List.set_cons_zero, List.set_cons_succ, Nat.reduceAdd, Nat.reduceSub, decide_eq_true_eq, if_true, if_false, Bool.false_eq_true, reduceIte, pick, List.filterMap_cons, List.filterMap_nil]
      have e3 : D.tup (rs.map ratD ++ [.tup [.int ((y - x % y + y * d) / gI (y - x % y + y * d) y), .int (y / gI (y - x % y + y * d) y)]]) = ratsD (rs ++ [((y - x % y + y * d) / gI (y - x % y + y * d) y, y / gI (y - x % y + y * d) y)]) := by
        unfold ratsD
        rw [List.map_append]
        rfl
      rw [e3]
      refine q _ U _ ok ?_
      obtain ⟨⟨x7, y7, hx7⟩, k7⟩ := pf.trans p7
      refine ⟨⟨x7, y7, by rw [updD_ne naf]; exact hx7⟩, fun b o nb eb => ?_⟩
      rw [updD_ne (fun z => by rw [z, fre] at eb; cases eb)]
      exact k7 b o nb eb
    · rintro dd rr acc Gi nx ⟨rs, rfl, hl, hr, pi⟩ hn
      refine ⟨trivial, ?_⟩
      simp only [dYes, startD, dRet, dRetN, dAndV, dOrV, dCB, dNotV, dCons, dNil, dVar, dC, dAnd, dOr, dNot, dTest, dBin, dUn, dChain, dIfS, dSeq, dAsg, eName, dPar, dPar3, dNext, dDrop, dNever, dCont, dBreak, dCall, dCallK, dTup, dLst, dLstM, dIf, dFor, dWhile, dItems, dRange1, dRange2, dEnum, dZip, dLc, dLcM, wipeD, eTup, eCons, eNil, eSub, dCut, dPart, dNoPart, dRev, dFld, dSetFld, dMake, dMeth, dBM, dDGet2, dDGet, dDIn, dDPut, dDNew, dDisp1, dLstRg2, bSub, bDiv, bMod, bPow, bLt, bLe, bGt, bGe, bI, bI0, bB0, bIsN, bNotN, VL.isNon, uNeg, List.map_cons, List.map_nil, List.length_cons, List.length_nil, List.replicate, List.cons_append, List.nil_append, List.getElem?_cons_zero, List.getElem?_cons_succ, List.set_cons_zero, List.set_cons_succ, Nat.reduceAdd, Nat.reduceSub, decide_eq_true_eq, if_true, if_false, Bool.false_eq_true, reduceIte, pick, List.filterMap_cons, List.filterMap_nil]
      refine ⟨a, top, rfl, pi.1, t0, by omega, fun y G7 y0 y1 p7 => ?_⟩
      simp only [bAdd, startD, dRet, dRetN, dAndV, dOrV, dCB, dNotV, dCons, dNil, dVar, dC, dAnd, dOr, dNot, dTest, dBin, dUn, dChain, dIfS, dSeq, dAsg, eName, dPar, dPar3, dNext, dDrop, dNever, dCont, dBreak, dCall, dCallK, dTup, dLst, dLstM, dIf, dFor, dWhile, dItems, dRange1, dRange2, dEnum, dZip, dLc, dLcM, wipeD, eTup, eCons, eNil, eSub, dCut, dPart, dNoPart, dRev, dFld, dSetFld, dMake, dMeth, dBM, dDGet2, dDGet, dDIn, dDPut, dDNew, dDisp1, dLstRg2, bSub, bDiv, bMod, bPow, bLt, bLe, bGt, bGe, bI, bI0, bB0, bIsN, bNotN, VL.isNon, uNeg, List.map_cons, List.map_nil, List.length_cons, List.length_nil, List.replicate, List.cons_append, List.nil_append, List.getElem?_cons_zero, List.getElem?_cons_succ, List.set_cons_zero, List.set_cons_succ, Nat.reduceAdd, Nat.reduceSub, decide_eq_true_eq, if_true, if_false, Bool.false_eq_true, reduceIte, pick, List.filterMap_cons, List.filterMap_nil]
      refine ⟨_, _, rfl, U0, by omega, ?_⟩
      simp at hl
      refine ⟨by rw [sz, List.length_map]; omega, hn _ _ ⟨rs ++ [((1 + y) / gI (1 + y) U, U / gI (1 + y) U)], by rw [List.map_append]; rfl, by simp; omega, fun r h => ?_, pi.trans p7⟩⟩
      rcases List.mem_append.mp h with z | z
      · exact hr r z
      · rw [List.mem_singleton.mp z]
        exact rok_low U0 (by omega) (by omega)
  · rw [if_neg he]
    refine ⟨a, 9, rfl, p3.1, by decide, by decide, fun y G5 y0 y1 p5 => ?_⟩
    simp only [bAdd, startD, dRet, dRetN, dAndV, dOrV, dCB, dNotV, dCons, dNil, dVar, dC, dAnd, dOr, dNot, dTest, dBin, dUn, dChain, dIfS, dSeq, dAsg, eName, dPar, dPar3, dNext, dDrop, dNever, dCont, dBreak, dCall, dCallK, dTup, dLst, dLstM, dIf, dFor, dWhile, dItems, dRange1, dRange2, dEnum, dZip, dLc, wipeD, eTup, eCons, eNil, eSub, dCut, dPart, dNoPart, dRev, dFld, dSetFld, dMake, dMeth, dBM, dDGet2, dDGet, dDIn, dDPut, dDNew, dDisp1, dLstRg2, bSub, bDiv, bMod, bPow, bLt, bLe, bGt, bGe, bI, bI0, bB0, bIsN, bNotN, VL.isNon, uNeg, List.map_cons, List.map_nil, List.length_cons, List.length_nil, List.replicate, List.cons_append, List.nil_append, List.getElem?_cons_zero, List.getElem?_cons_succ, List.set_cons_zero, List.set_cons_succ, Nat.reduceAdd, Nat.reduceSub, decide_eq_true_eq, if_true, if_false, Bool.false_eq_true, reduceIte, pick, List.filterMap_cons, List.filterMap_nil]
    have t0 : 0 < U * (1 + y) := Int.mul_pos U0 (by omega)
    have t1 : U * (1 + y) < 999000 := by
      have := Int.mul_le_mul U1 (show 1 + y ≤ 10 by omega) (by omega) (by decide)
      omega
    refine ⟨.inr ⟨by omega, by omega⟩, ?_⟩
    have p13 := p13.trans p5
    generalize U * (1 + y) = top at t0 t1
    clear p3 p5
    show (-(2 ^ 62 : Int) ≤ m ∧ m < 2 ^ 62) ∧ dCL _ _ _ _ _ (rangeD 0 m) _ _ _
    refine ⟨⟨by omega, by omega⟩, ?_⟩
    refine comp_ind (fun items acc Gi => ∃ rs : List Rt, acc = rs.map ratD ∧ rs.length + items.length ≤ 6 ∧ (∀ r ∈ rs, ROk U r) ∧ PotS a G Gi) ?_ ?_ _ _ _ ⟨[], rfl, by rw [rangeD_length]; simp; omega, (fun r hr => nomatch hr), p13⟩
    · rintro acc Gi ⟨rs, rfl, hl, hr, pi⟩
      refine ⟨trivial, fun f hf => ?_⟩
      have naf : a ≠ f := fun z => by
        obtain ⟨x, y, hx⟩ := pi.1
        rw [z, hf] at hx
        cases hx
      have gf : updD Gi f (.lst (rs.map ratD)) f = some (.lst (rs.map ratD)) := updD_same
      have pf : PotS a G (updD Gi f (.lst (rs.map ratD))) := by
        obtain ⟨⟨x, y, hx⟩, k2⟩ := pi
        refine ⟨⟨x, y, by rw [updD_ne naf]; exact hx⟩, fun b o nb eb => ?_⟩
        have := k2 b o nb eb
        rw [updD_ne (fun z => by rw [z, hf] at this; cases this)]
        exact this
      generalize hG6 : updD Gi f (HD.lst (rs.map ratD)) = G6 at gf pf
      have fre : G f = none := by
        cases z : G f with
        | none => rfl
        | some o => have := pi.2 f o (fun z => naf z.symm) z; rw [hf] at this; cases this
      refine ⟨_, rs, U, rfl, by show trkL (G6 f) = _; rw [gf]; rfl, U0, U1, fun r h => ⟨(hr r h).u0, (hr r h).u1, (hr r h).n0, (hr r h).n1⟩, fun x y red => ?_⟩
      have y0 := red.b0
      simp only [gf, startD, dRet, dRetN, dAndV, dOrV, dCB, dNotV, dCons, dNil, dVar, dC, dAnd, dOr, dNot, dTest, dBin, dUn, dChain, dIfS, dSeq, dAsg, eName, dPar, dPar3, dNext, dDrop, dNever, dCont, dBreak, dCall, dCallK, dTup, dLst, dLstM, dIf, dFor, dWhile, dItems, dRange1, dRange2, dEnum, dZip, dLc, dLcM, wipeD, eTup, eCons, eNil, eSub, dCut, dPart, dNoPart, dRev, dFld, dSetFld, dMake, dMeth, dBM, dDGet2, dDGet, dDIn, dDPut, dDNew, dDisp1, dLstRg2, bSub, bDiv, bMod, bPow, bLt, bLe, bGt, bGe, bI, bI0, bB0, bIsN, bNotN, VL.isNon, uNeg, List.map_cons, List.map_nil, List.length_cons, List.length_nil, List.replicate, List.cons_append, List.nil_append, List.getElem?_cons_zero, List.getElem?_cons_succ, List.set_cons_zero, List.set_cons_succ, Nat.reduceAdd, Nat.reduceSub, decide_eq_true_eq, if_true, if_false, Bool.false_eq_true, reduceIte, pick, List.filterMap_cons, List.filterMap_nil]
      refine ⟨trivial, ⟨_, rfl⟩, y0, a, 3, rfl, pf.1, by decide, by decide, fun d G7 d0 d1 p7 => ?_⟩
      have g7 : G7 f = some (.lst (rs.map ratD)) := p7.2 f _ (fun z => naf z.symm) gf
      have yl : y ≤ 100 := Int.le_trans (Int.le_of_dvd U0 red.dvd) U1
      simp only [bMul, bAdd, startD, dRet, dRetN, dAndV, dOrV, dCB, dNotV, dCons, dNil, dVar, dC, dAnd, dOr, dNot, dTest, dBin, dUn, dChain, dIfS, dSeq, dAsg, eName, dPar, dPar3, dNext, dDrop, dNever, dCont, dBreak, dCall, dCallK, dTup, dLst, dLstM, dIf, dFor, dWhile, dItems, dRange1, dRange2, dEnum, dZip, dLc, dLcM, wipeD, eTup, eCons, eNil, eSub, dCut, dPart, dNoPart, dRev, dFld, dSetFld, dMake, dMeth, dBM, dDGet2, dDGet, dDIn, dDPut, dDNew, dDisp1, dLstRg2, bSub, bDiv, bMod, bPow, bLt, bLe, bGt, bGe, bI, bI0, bB0, bIsN, bNotN, VL.isNon, uNeg, List.map_cons, List.map_nil, List.length_cons, List.length_nil, List.replicate, List.cons_append, List.nil_append, List.getElem?_cons_zero, List.getElem?_cons_succ, List.set_cons_zero, List.set_cons_succ, Nat.reduceAdd, Nat.reduceSub, decide_eq_true_eq, if_true, if_false, Bool.false_eq_true, reduceIte, pick, List.filterMap_cons, List.filterMap_nil]
      refine ⟨.inl ⟨by omega, by omega⟩, _, _, rfl, y0, by omega, ?_⟩
      have hl6 : rs.length ≤ 6 := by simp at hl; omega
      have ok := last_ok U0 U1 hr hl6 red d0 d1
      simp only [mAppend, g7, startD, dRet, dRetN, dAndV, dOrV, dCB, dNotV, dCons, dNil, dVar, dC, dAnd, dOr, dNot, dTest, dBin, dUn, dChain, dIfS, dSeq, dAsg, eName, dPar, dPar3, dNext, dDrop, dNever, dCont, dBreak, dCall, dCallK, dTup, dLst, dLstM, dIf, dFor, dWhile, dItems, dRange1, dRange2, dEnum, dZip, dLc, dLcM, wipeD, eTup, eCons, eNil, eSub, dCut, dPart, dNoPart, dRev, dFld, dSetFld, dMake, dMeth, dBM, dDGet2, dDGet, dDIn, dDPut, dDNew, dDisp1, dLstRg2, bSub, bDiv, bMod, bPow, bLt, bLe, bGt, bGe, bI, bI0, bB0, bIsN, bNotN, VL.isNon, uNeg, List.map_cons, List.map_nil, List.length_cons, List.length_nil, List.replicate, List.cons_append, List.nil_append, List.getElem?_cons_zero, List.getElem?_cons_succ, List.set_cons_zero, List.set_cons_succ, Nat.reduceAdd, Nat.reduceSub, decide_eq_true_eq, if_true, if_false, Bool.false_eq_true, reduceIte, pick, List.filterMap_cons, List.filterMap_nil]
      refine ⟨by rw [sz, List.length_map]; omega, ?_⟩
      have s2 : trkL (updD G7 f (.lst (rs.map ratD ++ [.tup [.int ((y - x % y + y * d) / gI (y - x % y + y * d) y), .int (y / gI (y - x % y + y * d) y)]])) f) = some (rs.map ratD ++ [.tup [.int ((y - x % y + y * d) / gI (y - x % y + y * d) y), .int (y / gI (y - x % y + y * d) y)]]) := by rw [updD_same]; rfl
      simp only [cTuple, seqOf, s2, startD, dRet, dRetN, dAndV, dOrV, dCB, dNotV, dCons, dNil, dVar, dC, dAnd, dOr, dNot, dTest, dBin, dUn, dChain, dIfS, dSeq, dAsg, eName, dPar, dPar3, dNext, dDrop, dNever, dCont, dBreak, dCall, dCallK, dTup, dLst, dLstM, dIf, dFor, dWhile, dItems, dRange1, dRange2, dEnum, dZip, dLc, dLcM, wipeD, eTup, eCons, eNil, eSub, dCut, dPart, dNoPart, dRev, dFld, dSetFld, dMake, dMeth, dBM, dDGet2, dDGet, dDIn, dDPut, dDNew, dDisp1, dLstRg2, bSub, bDiv, bMod, bPow, bLt, bLe, bGt, bGe, bI, bI0, bB0, bIsN, bNotN, VL.isNon, uNeg, List.map_cons, List.map_nil, List.length_cons, List.length_nil, List.replicate, List.cons_append, List.nil_append, List.getElem?_cons_zero, List.getElem?_cons_succ, List.set_cons_zero, List.set_cons_succ, Nat.reduceAdd, Nat.reduceSub, decide_eq_true_eq, if_true, if_false, Bool.false_eq_true, reduceIte, pick, List.filterMap_cons, List.filterMap_nil]
      have e3 : D.tup (rs.map ratD ++ [.tup [.int ((y - x % y + y * d) / gI (y - x % y + y * d) y), .int (y / gI (y - x % y + y * d) y)]]) = ratsD (rs ++ [((y - x % y + y * d) / gI (y - x % y + y * d) y, y / gI (y - x % y + y * d) y)]) := by
        unfold ratsD
        rw [List.map_append]
        rfl
      rw [e3]
      refine q _ U _ ok ?_
      obtain ⟨⟨x7, y7, hx7⟩, k7⟩ := pf.trans p7
      refine ⟨⟨x7, y7, by rw [updD_ne naf]; exact hx7⟩, fun b o nb eb => ?_⟩
      rw [updD_ne (fun z => by rw [z, fre] at eb; cases eb)]
      exact k7 b o nb eb
    · rintro dd rr acc Gi nx ⟨rs, rfl, hl, hr, pi⟩ hn
      refine ⟨trivial, ?_⟩
      simp only [dYes, startD, dRet, dRetN, dAndV, dOrV, dCB, dNotV, dCons, dNil, dVar, dC, dAnd, dOr, dNot, dTest, dBin, dUn, dChain, dIfS, dSeq, dAsg, eName, dPar, dPar3, dNext, dDrop, dNever, dCont, dBreak, dCall, dCallK, dTup, dLst, dLstM, dIf, dFor, dWhile, dItems, dRange1, dRange2, dEnum, dZip, dLc, dLcM, wipeD, eTup, eCons, eNil, eSub, dCut, dPart, dNoPart, dRev, dFld, dSetFld, dMake, dMeth, dBM, dDGet2, dDGet, dDIn, dDPut, dDNew, dDisp1, dLstRg2, bSub, bDiv, bMod, bPow, bLt, bLe, bGt, bGe, bI, bI0, bB0, bIsN, bNotN, VL.isNon, uNeg, List.map_cons, List.map_nil, List.length_cons, List.length_nil, List.replicate, List.cons_append, List.nil_append, List.getElem?_cons_zero, List.getElem?_cons_succ, List.set_cons_zero, List.set_cons_succ, Nat.reduceAdd, Nat.reduceSub, decide_eq_true_eq, if_true, if_false, Bool.false_eq_true, reduceIte, pick, List.filterMap_cons, List.filterMap_nil]
      refine ⟨a, top, rfl, pi.1, t0, by omega, fun y G7 y0 y1 p7 => ?_⟩
      simp only [bAdd, startD, dRet, dRetN, dAndV, dOrV, dCB, dNotV, dCons, dNil, dVar, dC, dAnd, dOr, dNot, dTest, dBin, dUn, dChain, dIfS, dSeq, dAsg, eName, dPar, dPar3, dNext, dDrop, dNever, dCont, dBreak, dCall, dCallK, dTup, dLst, dLstM, dIf, dFor, dWhile, dItems, dRange1, dRange2, dEnum, dZip, dLc, dLcM, wipeD, eTup, eCons, eNil, eSub, dCut, dPart, dNoPart, dRev, dFld, dSetFld, dMake, dMeth, dBM, dDGet2, dDGet, dDIn, dDPut, dDNew, dDisp1, dLstRg2, bSub, bDiv, bMod, bPow, bLt, bLe, bGt, bGe, bI, bI0, bB0, bIsN, bNotN, VL.isNon, uNeg, List.map_cons, List.map_nil, List.length_cons, List.length_nil, List.replicate, List.cons_append, List.nil_append, List.getElem?_cons_zero, List.getElem?_cons_succ, List.set_cons_zero, List.set_cons_succ, Nat.reduceAdd, Nat.reduceSub, decide_eq_true_eq, if_true, if_false, Bool.false_eq_true, reduceIte, pick, List.filterMap_cons, List.filterMap_nil]
      refine ⟨_, _, rfl, U0, by omega, ?_⟩
      simp at hl
      refine ⟨by rw [sz, List.length_map]; omega, hn _ _ ⟨rs ++ [((1 + y) / gI (1 + y) U, U / gI (1 + y) U)], by rw [List.map_append]; rfl, by simp; omega, fun r h => ?_, pi.trans p7⟩⟩
      rcases List.mem_append.mp h with z | z
      · exact hr r z
      · rw [List.mem_singleton.mp z]
        exact rok_low U0 (by omega) (by omega)
end
end K84
set_option Elab.async false
set_option linter.all false
set_option maxRecDepth 100000
set_option maxHeartbeats 4000000
/-! k84: bent rows. -/
namespace K84
open PySem L2 VL M84 Classical
/-- a row that is shown and judged -/
def RowB (d : D) : Prop := RowV d ∧ rowsD d = true
def GoodR (ns : List Int) : Prop := 1 ≤ ns.length ∧ ns.length ≤ 7 ∧ ∀ n ∈ ns, -1500000 < n ∧ n < 1500000
theorem rowB_tup {ns : List Int} (h : ns.length ≤ 60) (hb : ∀ n ∈ ns, -2000000 < n ∧ n < 2000000) : RowB (rowD ns) := by
  refine ⟨.inr ⟨ns, .inl rfl, by omega⟩, ?_⟩
  show ((ns.map D.int).all tinyD && decide ((ns.map D.int).length ≤ 64)) = true
  rw [Bool.and_eq_true, List.all_eq_true, decide_eq_true_eq, List.length_map]
  refine ⟨fun d hd => ?_, by omega⟩
  obtain ⟨n, hn, rfl⟩ := List.mem_map.mp hd
  have := hb n hn
  exact decide_eq_true (by omega)
theorem rowB_lst {ns : List Int} (h : ns.length ≤ 60) (hb : ∀ n ∈ ns, -2000000 < n ∧ n < 2000000) : RowB (.lst (ns.map .int)) := by
  refine ⟨.inr ⟨ns, .inr rfl, by omega⟩, ?_⟩
  show ((ns.map D.int).all tinyD && decide ((ns.map D.int).length ≤ 64)) = true
  rw [Bool.and_eq_true, List.all_eq_true, decide_eq_true_eq, List.length_map]
  refine ⟨fun d hd => ?_, by omega⟩
  obtain ⟨n, hn, rfl⟩ := List.mem_map.mp hd
  have := hb n hn
  exact decide_eq_true (by omega)
theorem rowB_good {ns : List Int} (h : GoodR ns) : RowB (rowD ns) := rowB_tup (by have := h.2.1; omega) fun n hn => by have := h.2.2 n hn; omega
def S_bent : SpD := fun ds G Q => ∃ (a : Addr) (rows : List (List Int)), ds = [.ref a, .lst (rows.map rowD)] ∧ PotAt G a ∧ rows.length ≤ 60 ∧ (∀ ns ∈ rows, GoodR ns) ∧ ∀ es G', (∀ d ∈ es, RowB d) → es.length ≤ 300 → PotS a G G' → Q (.lst es) G'
theorem cutD_mem {xs : List D} {lo hi : Option Int} {d : D} (h : d ∈ cutD xs lo hi) : d ∈ xs := List.mem_of_mem_drop (List.mem_of_mem_take h)
theorem cutD_len (xs : List D) (lo hi : Option Int) : (cutD xs lo hi).length ≤ xs.length := by
  unfold cutD
  rw [List.length_take, List.length_drop]
  omega
theorem cut_ints (ns : List Int) (lo hi : Option Int) : ∃ ms : List Int, cutD (ns.map D.int) lo hi = ms.map D.int ∧ ms.length ≤ ns.length ∧ ∀ n ∈ ms, n ∈ ns := by
  refine ⟨(ns.drop (HT.sIx (ns.map D.int).length 0 lo)).take (HT.sIx (ns.map D.int).length (ns.map D.int).length hi - HT.sIx (ns.map D.int).length 0 lo), ?_, ?_, fun n hn => List.mem_of_mem_drop (List.mem_of_mem_take hn)⟩
  · unfold cutD
    rw [List.map_take, List.map_drop]
  · rw [List.length_take, List.length_drop]; omega
section
variable {P : Program} {w : World} {K : PySem.W.Frag} {mg : Str → Option Value} {base : Heap} {k : Nat}
theorem ok_bent (T : Txt K mg) : FnA P w K mg base 3 T.f__law_bent T.d__law_bent ["pot", "rows"] S_bent := by
  refine (w__law_bent (k := 2) T (ok_pick T) (VL.FnA.mono (k := 2) (ok_draw T) (by decide)) (by rintro ds G Q ⟨_, _, rfl, _⟩; rfl)).2 fun ds G Q h => ?_
  obtain ⟨a, rows, rfl, hp, hl, hg, q⟩ := h
  have sz : sizeLine = 16777216 := by decide
  have lr : (rows.map rowD).length = rows.length := List.length_map ..
  simp only [w__law_bent, startD, dRet, dRetN, dAndV, dOrV, dCB, dNotV, dCons, dNil, dVar, dC, dAnd, dOr, dNot, dTest, dBin, dUn, dChain, dIfS, dSeq, dAsg, eName, dPar, dPar3, dNext, dDrop, dNever, dCont, dBreak, dCall, dCallK, dTup, dLst, dLstM, dIf, dFor, dWhile, dItems, dRange1, dRange2, dEnum, dZip, dLc, dLcM, wipeD, eTup, eCons, eNil, eSub, dCut, dPart, dNoPart, dRev, dFld, dSetFld, dMake, dMeth, dBM, dDGet2, dDGet, dDIn, dDPut, dDNew, dDisp1, dLstRg2, bSub, bDiv, bMod, bPow, bLt, bLe, bGt, bGe, bI, bI0, bB0, bIsN, bNotN, VL.isNon, uNeg, List.map_cons, List.map_nil, List.length_cons, List.length_nil, List.replicate, List.cons_append, List.nil_append, List.getElem?_cons_zero, List.getElem?_cons_succ, List.set_cons_zero, List.set_cons_succ, Nat.reduceAdd, Nat.reduceSub, decide_eq_true_eq, if_true, if_false, Bool.false_eq_true, reduceIte, pick, List.filterMap_cons, List.filterMap_nil]
  have low : lowD 2 (.lst (rows.map rowD)) = true := by
    simp only [lowD]
    rw [List.all_eq_true]
    intro d hd
    obtain ⟨ns, hns, rfl⟩ := List.mem_map.mp hd
    exact (row_facts (rowB_good (hg ns hns)).2).1
  have rB : ∀ d ∈ rows.map rowD, RowB d := fun d hd => by
    obtain ⟨ns, hns, rfl⟩ := List.mem_map.mp hd
    exact rowB_good (hg ns hns)
  refine ⟨Nat.zero_le _, bEq_nil low (by decide) ?_⟩
  by_cases h0 : rows = []
  · subst h0
    simp only [List.map_nil, decide_true, if_true]
    refine ⟨Nat.zero_le _, by decide, q _ G (fun d hd => ?_) (by decide) (PotS.refl hp)⟩
    rw [List.mem_singleton.mp hd]
    exact rowB_tup (ns := []) (by decide) fun n hn => nomatch hn
  · have h1 : ¬ rows.map rowD = [] := fun z => h0 (List.map_eq_nil_iff.mp z)
    have l0 : 0 < rows.length := List.length_pos_iff.mpr h0
    simp only [h1, decide_false, Bool.false_eq_true, if_false]
    simp only [cLen, seqOf, startD, dRet, dRetN, dAndV, dOrV, dCB, dNotV, dCons, dNil, dVar, dC, dAnd, dOr, dNot, dTest, dBin, dUn, dChain, dIfS, dSeq, dAsg, eName, dPar, dPar3, dNext, dDrop, dNever, dCont, dBreak, dCall, dCallK, dTup, dLst, dLstM, dIf, dFor, dWhile, dItems, dRange1, dRange2, dEnum, dZip, dLc, dLcM, wipeD, eTup, eCons, eNil, eSub, dCut, dPart, dNoPart, dRev, dFld, dSetFld, dMake, dMeth, dBM, dDGet2, dDGet, dDIn, dDPut, dDNew, dDisp1, dLstRg2, bSub, bDiv, bMod, bPow, bLt, bLe, bGt, bGe, bI, bI0, bB0, bIsN, bNotN, VL.isNon, uNeg, List.map_cons, List.map_nil, List.length_cons, List.length_nil, List.replicate, List.cons_append, List.nil_append, List.getElem?_cons_zero, List.getElem?_cons_succ, List.set_cons_zero, List.set_cons_succ, Nat.reduceAdd, Nat.reduceSub, decide_eq_true_eq, if_true, if_false, Bool.false_eq_true, reduceIte, pick, List.filterMap_cons, List.filterMap_nil]
    rw [lr]
    refine ⟨a, _, rfl, hp, by omega, by omega, fun i G1 i0 i1 p1 => ?_⟩
    refine ⟨a, _, rfl, p1.1, by omega, by omega, fun j G2 j0 j1 p2 => ⟨a, 7, rfl, p2.1, by decide, by decide, fun wy G3 w0 w1 p3 => ?_⟩⟩
    have hi : i.toNat < rows.length := by omega
    have hj : j.toNat < rows.length := by omega
    have ei : atI (rows.map rowD) i = some (rowD rows[i.toNat]) := by
      have := at_nat (xs := rows.map rowD) (i := i.toNat) (d := rowD rows[i.toNat]) (by rw [List.getElem?_map, List.getElem?_eq_getElem hi]; rfl)
      rwa [Int.toNat_of_nonneg i0] at this
    have ej : atI (rows.map rowD) j = some (rowD rows[j.toNat]) := by
      have := at_nat (xs := rows.map rowD) (i := j.toNat) (d := rowD rows[j.toNat]) (by rw [List.getElem?_map, List.getElem?_eq_getElem hj]; rfl)
      rwa [Int.toNat_of_nonneg j0] at this
    have gi := hg rows[i.toNat] (List.getElem_mem hi)
    have gj := hg rows[j.toNat] (List.getElem_mem hj)
    have p13 := (p1.trans p2).trans p3
    have cB : ∀ lo hi, ∀ d ∈ cutD (rows.map rowD) lo hi, RowB d := fun lo hi d hd => rB d (cutD_mem hd)
    have cl : ∀ lo hi, (cutD (rows.map rowD) lo hi).length ≤ 60 := fun lo hi => by
      have := cutD_len (rows.map rowD) lo hi
      omega
    have c1 := cl none (some i)
    have c2 := cl (some (i + 1)) none
    have mid : ∀ (d : D) (G4 : Hd), RowB d → PotS a G G4 → Q (.lst (cutD (rows.map rowD) none (some i) ++ [d] ++ cutD (rows.map rowD) (some (i + 1)) none)) G4 := fun d G4 hd p4 => q _ G4 (fun e he => by
      rcases List.mem_append.mp he with z | z
      · rcases List.mem_append.mp z with z | z
        · exact cB _ _ e z
        · rw [List.mem_singleton.mp z]; exact hd
      · exact cB _ _ e z) (by rw [List.length_append, List.length_append, List.length_singleton]; omega) p4
    dsimp only
    by_cases hw3 : wy < 3
    · rw [if_pos hw3]
      generalize hrow : rows[i.toNat] = row at *
      have lrow : (row.map D.int).length = row.length := List.length_map ..
      simp only [bIx, seqOf, ei, cListM, rowD, startD, dRet, dRetN, dAndV, dOrV, dCB, dNotV, dCons, dNil, dVar, dC, dAnd, dOr, dNot, dTest, dBin, dUn, dChain, dIfS, dSeq, dAsg, eName, dPar, dPar3, dNext, dDrop, dNever, dCont, dBreak, dCall, dCallK, dTup, dLst, dLstM, dIf, dFor, dWhile, dItems, dRange1, dRange2, dEnum, dZip, dLc, dLcM, wipeD, eTup, eCons, eNil, eSub, dCut, dPart, dNoPart, dRev, dFld, dSetFld, dMake, dMeth, dBM, dDGet2, dDGet, dDIn, dDPut, dDNew, dDisp1, dLstRg2, bSub, bDiv, bMod, bPow, bLt, bLe, bGt, bGe, bI, bI0, bB0, bIsN, bNotN, VL.isNon, uNeg, List.map_cons, List.map_nil, List.length_cons, List.length_nil, List.replicate, List.cons_append, List.nil_append, List.getElem?_cons_zero, List.getElem?_cons_succ, List.set_cons_zero, List.set_cons_succ, Nat.reduceAdd, Nat.reduceSub, decide_eq_true_eq, if_true, if_false, Bool.false_eq_true, reduceIte, pick, List.filterMap_cons, List.filterMap_nil]
      intro f hf
      have naf : a ≠ f := fun z => by
        obtain ⟨x, y, hx⟩ := p13.1
        rw [z, hf] at hx
        cases hx
      have fre : G f = none := by
        cases z : G f with
        | none => rfl
        | some o => have := p13.2 f o (fun z => naf z.symm) z; rw [hf] at this; cases this
      have pf : PotS a G (updD G3 f (.lst (row.map .int))) := by
        obtain ⟨⟨x, y, hx⟩, k2⟩ := p13
        refine ⟨⟨x, y, by rw [updD_ne naf]; exact hx⟩, fun b o nb eb => ?_⟩
        rw [updD_ne (fun z => by rw [z, fre] at eb; cases eb)]
        exact k2 b o nb eb
      have gf : updD G3 f (.lst (row.map D.int)) f = some (.lst (row.map .int)) := updD_same
      generalize updD G3 f (.lst (row.map D.int)) = G4 at gf pf
      try (simp only [ei, rowD, startD, dRet, dRetN, dAndV, dOrV, dCB, dNotV, dCons, dNil, dVar, dC, dAnd, dOr, dNot, dTest, dBin, dUn, dChain, dIfS, dSeq, dAsg, eName, dPar, dPar3, dNext, dDrop, dNever, dCont, dBreak, dCall, dCallK, dTup, dLst, dLstM, dIf, dFor, dWhile, dItems, dRange1, dRange2, dEnum, dZip, dLc, dLcM, wipeD, eTup, eCons, eNil, eSub, dCut, dPart, dNoPart, dRev, dFld, dSetFld, dMake, dMeth, dBM, dDGet2, dDGet, dDIn, dDPut, dDNew, dDisp1, dLstRg2, bSub, bDiv, bMod, bPow, bLt, bLe, bGt, bGe, bI, bI0, bB0, bIsN, bNotN, VL.isNon, uNeg, List.map_cons, List.map_nil, List.length_cons, List.length_nil, List.replicate, List.cons_append, List.nil_append, List.getElem?_cons_zero, List.getElem?_cons_succ, List.set_cons_zero, List.set_cons_succ, Nat.reduceAdd, Nat.reduceSub, decide_eq_true_eq, if_true, if_false, Bool.false_eq_true, reduceIte, pick, List.filterMap_cons, List.filterMap_nil])
      try rw [lrow]
      refine ⟨a, _, rfl, pf.1, by have := gi.1; omega, by have := gi.2.1; omega, fun mo G5 mo0 mo1 p5 => ?_⟩
      try (simp only [ei, rowD, startD, dRet, dRetN, dAndV, dOrV, dCB, dNotV, dCons, dNil, dVar, dC, dAnd, dOr, dNot, dTest, dBin, dUn, dChain, dIfS, dSeq, dAsg, eName, dPar, dPar3, dNext, dDrop, dNever, dCont, dBreak, dCall, dCallK, dTup, dLst, dLstM, dIf, dFor, dWhile, dItems, dRange1, dRange2, dEnum, dZip, dLc, dLcM, wipeD, eTup, eCons, eNil, eSub, dCut, dPart, dNoPart, dRev, dFld, dSetFld, dMake, dMeth, dBM, dDGet2, dDGet, dDIn, dDPut, dDNew, dDisp1, dLstRg2, bSub, bDiv, bMod, bPow, bLt, bLe, bGt, bGe, bI, bI0, bB0, bIsN, bNotN, VL.isNon, uNeg, List.map_cons, List.map_nil, List.length_cons, List.length_nil, List.replicate, List.cons_append, List.nil_append, List.getElem?_cons_zero, List.getElem?_cons_succ, List.set_cons_zero, List.set_cons_succ, Nat.reduceAdd, Nat.reduceSub, decide_eq_true_eq, if_true, if_false, Bool.false_eq_true, reduceIte, pick, List.filterMap_cons, List.filterMap_nil])
      try rw [lrow]
      refine ⟨a, _, rfl, p5.1, by have := gi.1; omega, by have := gi.2.1; omega, fun le G6 le0 le1 p6 => ?_⟩
      have g6 : G6 f = some (.lst (row.map .int)) := p6.2 f _ (fun z => naf z.symm) (p5.2 f _ (fun z => naf z.symm) gf)
      have hmo : mo.toNat < row.length := by omega
      have hle : le.toNat < row.length := by omega
      have ix : ∀ (n : Nat) (x : Int), 0 ≤ x → x < n → ixN n x = some x.toNat := fun n x h0 h1 => by
        unfold ixN
        rw [if_pos h0, if_pos h1]
      have at_ : ∀ (l : List Int) (x : Int), 0 ≤ x → x < l.length → ∃ v, v ∈ l ∧ atI (l.map D.int) x = some (.int v) := fun l x h0 h1 => by
        have hx : x.toNat < l.length := by omega
        refine ⟨l[x.toNat], List.getElem_mem hx, ?_⟩
        have := at_nat (xs := l.map D.int) (i := x.toNat) (d := .int l[x.toNat]) (by rw [List.getElem?_map, List.getElem?_eq_getElem hx]; rfl)
        rwa [Int.toNat_of_nonneg h0] at this
      obtain ⟨v1, v1m, v1e⟩ := at_ row mo mo0 mo1
      have e1 := ix row.length mo mo0 (by omega)
      have e2 := ix row.length le le0 (by omega)
      obtain ⟨row2, hrow2⟩ : ∃ r2, row.set mo.toNat (v1 + 1) = r2 := ⟨_, rfl⟩
      have set1 : (row.map D.int).set mo.toNat (.int (v1 + 1)) = row2.map D.int := by rw [← hrow2, List.map_set]
      have l2 : row2.length = row.length := by rw [← hrow2, List.length_set]
      have b2 : ∀ n ∈ row2, -1500000 < n ∧ n < 1500001 := fun n hn => by
        rw [← hrow2] at hn
        rcases List.mem_or_eq_of_mem_set hn with z | z
        · have := gi.2.2 n z; omega
        · have := gi.2.2 v1 v1m; omega
      obtain ⟨v2, v2m, v2e⟩ := at_ row2 le le0 (by omega)
      have lrow2 : (row2.map D.int).length = row.length := by rw [List.length_map, l2]
      obtain ⟨row3, hrow3⟩ : ∃ r3, row2.set le.toNat (v2 - 1) = r3 := ⟨_, rfl⟩
      have set2 : (row2.map D.int).set le.toNat (.int (v2 - 1)) = row3.map D.int := by rw [← hrow3, List.map_set]
      have l3 : row3.length = row.length := by rw [← hrow3, List.length_set, l2]
      have b3 : ∀ n ∈ row3, -2000000 < n ∧ n < 2000000 := fun n hn => by
        rw [← hrow3] at hn
        rcases List.mem_or_eq_of_mem_set hn with z | z
        · have := b2 n z; omega
        · have := b2 v2 v2m; omega
      simp only [trkL, v1e, bAdd, setL, g6, updD_same, updD_updD, lrow, e1, set1, v2e, lrow2, e2, set2, startD, dRet, dRetN, dAndV, dOrV, dCB, dNotV, dCons, dNil, dVar, dC, dAnd, dOr, dNot, dTest, dBin, dUn, dChain, dIfS, dSeq, dAsg, eName, dPar, dPar3, dNext, dDrop, dNever, dCont, dBreak, dCall, dCallK, dTup, dLst, dLstM, dIf, dFor, dWhile, dItems, dRange1, dRange2, dEnum, dZip, dLc, dLcM, wipeD, eTup, eCons, eNil, eSub, dCut, dPart, dNoPart, dRev, dFld, dSetFld, dMake, dMeth, dBM, dDGet2, dDGet, dDIn, dDPut, dDNew, dDisp1, dLstRg2, bSub, bDiv, bMod, bPow, bLt, bLe, bGt, bGe, bI, bI0, bB0, bIsN, bNotN, VL.isNon, uNeg, List.map_cons, List.map_nil, List.length_cons, List.length_nil, List.replicate, List.cons_append, List.nil_append, List.getElem?_cons_zero, List.getElem?_cons_succ, List.set_cons_zero, List.set_cons_succ, Nat.reduceAdd, Nat.reduceSub, decide_eq_true_eq, if_true, if_false, Bool.false_eq_true, reduceIte, pick, List.filterMap_cons, List.filterMap_nil]
      have t8 : trkL (updD G6 f (.lst (row3.map D.int)) f) = some (row3.map D.int) := by rw [updD_same]; rfl
      simp only [sCut, lstOf, cTuple, seqOf, t8, bAdd, startD, dRet, dRetN, dAndV, dOrV, dCB, dNotV, dCons, dNil, dVar, dC, dAnd, dOr, dNot, dTest, dBin, dUn, dChain, dIfS, dSeq, dAsg, eName, dPar, dPar3, dNext, dDrop, dNever, dCont, dBreak, dCall, dCallK, dTup, dLst, dLstM, dIf, dFor, dWhile, dItems, dRange1, dRange2, dEnum, dZip, dLc, dLcM, wipeD, eTup, eCons, eNil, eSub, dCut, dPart, dNoPart, dRev, dFld, dSetFld, dMake, dMeth, dBM, dDGet2, dDGet, dDIn, dDPut, dDNew, dDisp1, dLstRg2, bSub, bDiv, bMod, bPow, bLt, bLe, bGt, bGe, bI, bI0, bB0, bIsN, bNotN, VL.isNon, uNeg, List.map_cons, List.map_nil, List.length_cons, List.length_nil, List.replicate, List.cons_append, List.nil_append, List.getElem?_cons_zero, List.getElem?_cons_succ, List.set_cons_zero, List.set_cons_succ, Nat.reduceAdd, Nat.reduceSub, decide_eq_true_eq, if_true, if_false, Bool.false_eq_true, reduceIte, pick, List.filterMap_cons, List.filterMap_nil]
      refine ⟨by decide, by rw [sz]; omega, by rw [sz, List.length_append, List.length_singleton]; omega, mid _ _ (rowB_tup (ns := row3) (by have := gi.2.1; omega) b3) ?_⟩
      obtain ⟨⟨x7, y7, hx7⟩, k7⟩ := (pf.trans p5).trans p6
      refine ⟨⟨x7, y7, by rw [updD_ne naf]; exact hx7⟩, fun b o nb eb => ?_⟩
      rw [updD_ne (fun z => by rw [z, fre] at eb; cases eb)]
      exact k7 b o nb eb
    · rw [if_neg hw3]
      simp only [bEq, startD, dRet, dRetN, dAndV, dOrV, dCB, dNotV, dCons, dNil, dVar, dC, dAnd, dOr, dNot, dTest, dBin, dUn, dChain, dIfS, dSeq, dAsg, eName, dPar, dPar3, dNext, dDrop, dNever, dCont, dBreak, dCall, dCallK, dTup, dLst, dLstM, dIf, dFor, dWhile, dItems, dRange1, dRange2, dEnum, dZip, dLc, dLcM, wipeD, eTup, eCons, eNil, eSub, dCut, dPart, dNoPart, dRev, dFld, dSetFld, dMake, dMeth, dBM, dDGet2, dDGet, dDIn, dDPut, dDNew, dDisp1, dLstRg2, bSub, bDiv, bMod, bPow, bLt, bLe, bGt, bGe, bI, bI0, bB0, bIsN, bNotN, VL.isNon, uNeg, List.map_cons, List.map_nil, List.length_cons, List.length_nil, List.replicate, List.cons_append, List.nil_append, List.getElem?_cons_zero, List.getElem?_cons_succ, List.set_cons_zero, List.set_cons_succ, Nat.reduceAdd, Nat.reduceSub, decide_eq_true_eq, if_true, if_false, Bool.false_eq_true, reduceIte, pick, List.filterMap_cons, List.filterMap_nil]
      by_cases w3 : wy = 3
      · simp only [w3, if_true]
        simp only [sCut, lstOf, bAdd, startD, dRet, dRetN, dAndV, dOrV, dCB, dNotV, dCons, dNil, dVar, dC, dAnd, dOr, dNot, dTest, dBin, dUn, dChain, dIfS, dSeq, dAsg, eName, dPar, dPar3, dNext, dDrop, dNever, dCont, dBreak, dCall, dCallK, dTup, dLst, dLstM, dIf, dFor, dWhile, dItems, dRange1, dRange2, dEnum, dZip, dLc, dLcM, wipeD, eTup, eCons, eNil, eSub, dCut, dPart, dNoPart, dRev, dFld, dSetFld, dMake, dMeth, dBM, dDGet2, dDGet, dDIn, dDPut, dDNew, dDisp1, dLstRg2, bSub, bDiv, bMod, bPow, bLt, bLe, bGt, bGe, bI, bI0, bB0, bIsN, bNotN, VL.isNon, uNeg, List.map_cons, List.map_nil, List.length_cons, List.length_nil, List.replicate, List.cons_append, List.nil_append, List.getElem?_cons_zero, List.getElem?_cons_succ, List.set_cons_zero, List.set_cons_succ, Nat.reduceAdd, Nat.reduceSub, decide_eq_true_eq, if_true, if_false, Bool.false_eq_true, reduceIte, pick, List.filterMap_cons, List.filterMap_nil]
        refine ⟨by rw [sz]; omega, q _ G3 (fun e he => ?_) (by rw [List.length_append]; omega) p13⟩
        rcases List.mem_append.mp he with z | z
        · exact cB _ _ e z
        · exact cB _ _ e z
      · simp only [w3, if_false]
        by_cases w4 : wy = 4
        · simp only [w4, if_true]
          simp only [sCut, lstOf, bAdd, bMul, startD, dRet, dRetN, dAndV, dOrV, dCB, dNotV, dCons, dNil, dVar, dC, dAnd, dOr, dNot, dTest, dBin, dUn, dChain, dIfS, dSeq, dAsg, eName, dPar, dPar3, dNext, dDrop, dNever, dCont, dBreak, dCall, dCallK, dTup, dLst, dLstM, dIf, dFor, dWhile, dItems, dRange1, dRange2, dEnum, dZip, dLc, dLcM, wipeD, eTup, eCons, eNil, eSub, dCut, dPart, dNoPart, dRev, dFld, dSetFld, dMake, dMeth, dBM, dDGet2, dDGet, dDIn, dDPut, dDNew, dDisp1, dLstRg2, bSub, bDiv, bMod, bPow, bLt, bLe, bGt, bGe, bI, bI0, bB0, bIsN, bNotN, VL.isNon, uNeg, List.map_cons, List.map_nil, List.length_cons, List.length_nil, List.replicate, List.cons_append, List.nil_append, List.getElem?_cons_zero, List.getElem?_cons_succ, List.set_cons_zero, List.set_cons_succ, Nat.reduceAdd, Nat.reduceSub, decide_eq_true_eq, if_true, if_false, Bool.false_eq_true, reduceIte, pick, List.filterMap_cons, List.filterMap_nil]
          have c3 := cl (some i) (some (i + 1))
          have lf : (List.replicate (2 : Int).toNat (cutD (rows.map rowD) (some i) (some (i + 1)))).flatten = cutD (rows.map rowD) (some i) (some (i + 1)) ++ cutD (rows.map rowD) (some i) (some (i + 1)) := by
            show (List.replicate 2 _).flatten = _
            simp [List.replicate]
          rw [lf]
          refine ⟨by decide, by decide, by show _ * 2 ≤ _; rw [sz]; omega, by rw [sz, List.length_append]; omega, by rw [sz, List.length_append, List.length_append]; omega, q _ G3 (fun e he => ?_) (by rw [List.length_append, List.length_append, List.length_append]; omega) p13⟩
          rcases List.mem_append.mp he with z | z
          · rcases List.mem_append.mp z with z | z
            · exact cB _ _ e z
            · rcases List.mem_append.mp z with z | z
              · exact cB _ _ e z
              · exact cB _ _ e z
          · exact cB _ _ e z
        · simp only [w4, if_false]
          by_cases w5 : wy = 5
          · simp only [w5, if_true]
            simp only [lstOf, bAdd, startD, dRet, dRetN, dAndV, dOrV, dCB, dNotV, dCons, dNil, dVar, dC, dAnd, dOr, dNot, dTest, dBin, dUn, dChain, dIfS, dSeq, dAsg, eName, dPar, dPar3, dNext, dDrop, dNever, dCont, dBreak, dCall, dCallK, dTup, dLst, dLstM, dIf, dFor, dWhile, dItems, dRange1, dRange2, dEnum, dZip, dLc, dLcM, wipeD, eTup, eCons, eNil, eSub, dCut, dPart, dNoPart, dRev, dFld, dSetFld, dMake, dMeth, dBM, dDGet2, dDGet, dDIn, dDPut, dDNew, dDisp1, dLstRg2, bSub, bDiv, bMod, bPow, bLt, bLe, bGt, bGe, bI, bI0, bB0, bIsN, bNotN, VL.isNon, uNeg, List.map_cons, List.map_nil, List.length_cons, List.length_nil, List.replicate, List.cons_append, List.nil_append, List.getElem?_cons_zero, List.getElem?_cons_succ, List.set_cons_zero, List.set_cons_succ, Nat.reduceAdd, Nat.reduceSub, decide_eq_true_eq, if_true, if_false, Bool.false_eq_true, reduceIte, pick, List.filterMap_cons, List.filterMap_nil]
            refine ⟨by rw [sz, List.length_reverse]; omega, q _ G3 (fun e he => ?_) (by rw [List.length_append, List.length_reverse]; omega) p13⟩
            rcases List.mem_append.mp he with z | z
            · exact rB e (List.mem_reverse.mp z)
            · exact rB e z
          · simp only [w5, if_false]
            obtain ⟨ms, m1, m2, m3⟩ := cut_ints rows[i.toNat] none (some (-1))
            simp only [bIx, seqOf, ei, ej, cList, rowD, sCut, bAdd, startD, dRet, dRetN, dAndV, dOrV, dCB, dNotV, dCons, dNil, dVar, dC, dAnd, dOr, dNot, dTest, dBin, dUn, dChain, dIfS, dSeq, dAsg, eName, dPar, dPar3, dNext, dDrop, dNever, dCont, dBreak, dCall, dCallK, dTup, dLst, dLstM, dIf, dFor, dWhile, dItems, dRange1, dRange2, dEnum, dZip, dLc, dLcM, wipeD, eTup, eCons, eNil, eSub, dCut, dPart, dNoPart, dRev, dFld, dSetFld, dMake, dMeth, dBM, dDGet2, dDGet, dDIn, dDPut, dDNew, dDisp1, dLstRg2, bSub, bDiv, bMod, bPow, bLt, bLe, bGt, bGe, bI, bI0, bB0, bIsN, bNotN, VL.isNon, uNeg, List.map_cons, List.map_nil, List.length_cons, List.length_nil, List.replicate, List.cons_append, List.nil_append, List.getElem?_cons_zero, List.getElem?_cons_succ, List.set_cons_zero, List.set_cons_succ, Nat.reduceAdd, Nat.reduceSub, decide_eq_true_eq, if_true, if_false, Bool.false_eq_true, reduceIte, pick, List.filterMap_cons, List.filterMap_nil]
            have lri : (rows[i.toNat].map D.int).length = rows[i.toNat].length := List.length_map ..
            refine ⟨by decide, by rw [lri, sz]; have := gi.2.1; omega, by decide, a, _, _, rfl, rfl, p3.1, by simp, by simp, fun d G4 hd p4 => ?_⟩
            simp only [lstOf, startD, dRet, dRetN, dAndV, dOrV, dCB, dNotV, dCons, dNil, dVar, dC, dAnd, dOr, dNot, dTest, dBin, dUn, dChain, dIfS, dSeq, dAsg, eName, dPar, dPar3, dNext, dDrop, dNever, dCont, dBreak, dCall, dCallK, dTup, dLst, dLstM, dIf, dFor, dWhile, dItems, dRange1, dRange2, dEnum, dZip, dLc, dLcM, wipeD, eTup, eCons, eNil, eSub, dCut, dPart, dNoPart, dRev, dFld, dSetFld, dMake, dMeth, dBM, dDGet2, dDGet, dDIn, dDPut, dDNew, dDisp1, dLstRg2, bSub, bDiv, bMod, bPow, bLt, bLe, bGt, bGe, bI, bI0, bB0, bIsN, bNotN, VL.isNon, uNeg, List.map_cons, List.map_nil, List.length_cons, List.length_nil, List.replicate, List.cons_append, List.nil_append, List.getElem?_cons_zero, List.getElem?_cons_succ, List.set_cons_zero, List.set_cons_succ, Nat.reduceAdd, Nat.reduceSub, decide_eq_true_eq, if_true, if_false, Bool.false_eq_true, reduceIte, pick, List.filterMap_cons, List.filterMap_nil]
            refine ⟨by decide, by rw [sz]; omega, by rw [sz, List.length_append, List.length_singleton]; omega, mid d G4 ?_ (p13.trans p4)⟩
            have bi : ∀ n ∈ rows[i.toNat], -2000000 < n ∧ n < 2000000 := fun n hn => by have := gi.2.2 n hn; omega
            have li := gi.2.1
            have hd' : d = .non ∨ d = .lst (rows[i.toNat].map .int) ∨ d = .tup (cutD (rows[i.toNat].map D.int) none (some (-1))) ∨ d = .tup (rows[i.toNat].map D.int ++ [.int 0]) ∨ d = .tup (rows[j.toNat].map D.int) := by
              simpa using hd
            rcases hd' with rfl | rfl | rfl | rfl | rfl
            · exact ⟨.inl rfl, rfl⟩
            · exact rowB_lst (by omega) bi
            · rw [m1]
              exact rowB_tup (by omega) fun n hn => bi n (m3 n hn)
            · have e : rows[i.toNat].map D.int ++ [.int 0] = (rows[i.toNat] ++ [0]).map D.int := by rw [List.map_append]; rfl
              rw [e]
              refine rowB_tup (by rw [List.length_append, List.length_singleton]; omega) fun n hn => ?_
              rcases List.mem_append.mp hn with z | z
              · exact bi n z
              · rw [List.mem_singleton.mp z]; omega
            · exact rowB_good gj
end
end K84
set_option Elab.async false
set_option linter.all false
set_option maxRecDepth 100000
set_option maxHeartbeats 4000000
/-! k84: the law. -/
namespace K84
open PySem L2 VL M84 Classical
def VOk (v : D) : Prop := ∃ es, (v = .lst es ∨ v = .tup es) ∧ (∀ d ∈ es, RowB d) ∧ es.length ≤ 300
def S_right : SpD := fun ds G Q => ∃ a : Addr, ds = [.ref a] ∧ PotAt G a ∧ ∀ G', Q (.bl true) G'
def SLaw : SpD := fun ds G Q => ∃ ns : List Int, ds = [.ro (ns.map .int)] ∧ ns.length ≤ 63 ∧ ∀ G', Q (.bl true) G'
theorem rowI_good {U : Int} {rs : List Rt} (h : RsOk U rs) {ns : List Int} (ri : RowI U rs ns) : GoodR ns := by
  have l0 := h.len0
  have l1 := h.len1
  refine ⟨by rw [ri.len]; exact l0, by rw [ri.len]; exact l1, fun n hn => ?_⟩
  obtain ⟨p, hp⟩ := List.getElem?_of_mem hn
  have hp2 : p < rs.length := by rw [← ri.len]; exact (List.getElem?_eq_some_iff.mp hp).1
  obtain ⟨a, b, c⟩ := ri.ent p rs[p] n (List.getElem?_eq_getElem hp2) hp
  have ro := h.each rs[p] (List.getElem_mem hp2)
  have n1 := ro.n1
  have u2 := ro.u2 h.U0 h.U1
  have u0 := ro.u0
  have : n ≤ n * rs[p].2 := by
    have := Int.mul_le_mul_of_nonneg_left (show (1 : Int) ≤ rs[p].2 by omega) a
    rw [Int.mul_one] at this
    exact this
  omega
theorem toP_bl (a b : Bool) : toP (.lst [.bl a, .bl b]) = .list [.bool a, .bool b] := rfl
section
variable {P : Program} {w : World} {K : PySem.W.Frag} {mg : Str → Option Value} {base : Heap} {k : Nat}
theorem ok_right (T : Txt K mg) : FnA P w K mg base 8 T.f__law_right T.d__law_right ["pot"] S_right := by
  refine (w__law_right (k := 7) T (ok_is_rounds T) (VL.FnA.mono (k := 7) (ok_law_is_table T) (by decide)) (VL.FnA.mono (k := 7) (ok_bent T) (by decide)) (VL.FnA.mono (k := 7) (ok_draw T) (by decide)) (ok_rounds_of T) (VL.FnA.mono (k := 7) (ok_ratios T) (by decide)) (by rintro ds G Q ⟨_, rfl, _⟩; rfl)).2 fun ds G Q h => ?_
  obtain ⟨a, rfl, hp, q⟩ := h
  have sz : sizeLine = 16777216 := by decide
  simp only [w__law_right, startD, dRet, dRetN, dAndV, dOrV, dCB, dNotV, dCons, dNil, dVar, dC, dAnd, dOr, dNot, dTest, dBin, dUn, dChain, dIfS, dSeq, dAsg, eName, dPar, dPar3, dNext, dDrop, dNever, dCont, dBreak, dCall, dCallK, dTup, dLst, dLstM, dIf, dWhile, dItems, dRange1, dRange2, dEnum, dZip, dLc, dLcM, wipeD, eTup, eCons, eNil, eSub, dCut, dPart, dNoPart, dRev, dFld, dSetFld, dMake, dMeth, dBM, dDGet2, dDGet, dDIn, dDPut, dDNew, dDisp1, dLstRg2, bSub, bDiv, bMod, bPow, bLt, bLe, bGt, bGe, bI, bI0, bB0, bIsN, bNotN, VL.isNon, uNeg, List.map_cons, List.map_nil, List.length_cons, List.length_nil, List.replicate, List.cons_append, List.nil_append, List.getElem?_cons_zero, List.getElem?_cons_succ, List.set_cons_zero, List.set_cons_succ, Nat.reduceAdd, Nat.reduceSub, decide_eq_true_eq, if_true, if_false, Bool.false_eq_true, reduceIte, pick, List.filterMap_cons, List.filterMap_nil]
  refine ⟨a, rfl, hp, fun rs U G1 h p1 => ⟨a, 30, rfl, p1.1, by decide, by decide, fun d G2 d0 d1 p2 => ?_⟩⟩
  simp only [bEq, startD, dRet, dRetN, dAndV, dOrV, dCB, dNotV, dCons, dNil, dVar, dC, dAnd, dOr, dNot, dTest, dBin, dUn, dChain, dIfS, dSeq, dAsg, eName, dPar, dPar3, dNext, dDrop, dNever, dCont, dBreak, dCall, dCallK, dTup, dLst, dLstM, dIf, dWhile, dItems, dRange1, dRange2, dEnum, dZip, dLc, dLcM, wipeD, eTup, eCons, eNil, eSub, dCut, dPart, dNoPart, dRev, dFld, dSetFld, dMake, dMeth, dBM, dDGet2, dDGet, dDIn, dDPut, dDNew, dDisp1, dLstRg2, bSub, bDiv, bMod, bPow, bLt, bLe, bGt, bGe, bI, bI0, bB0, bIsN, bNotN, VL.isNon, uNeg, List.map_cons, List.map_nil, List.length_cons, List.length_nil, List.replicate, List.cons_append, List.nil_append, List.getElem?_cons_zero, List.getElem?_cons_succ, List.set_cons_zero, List.set_cons_succ, Nat.reduceAdd, Nat.reduceSub, decide_eq_true_eq, if_true, if_false, Bool.false_eq_true, reduceIte, pick, List.filterMap_cons, List.filterMap_nil]
  by_cases hd : d = 0
  · rw [if_pos hd]
    obtain ⟨N, hN, N60⟩ : ∃ N : Nat, (60 : Int) = N ∧ N ≤ 60 := ⟨60, rfl, by decide⟩
    rw [hN]
    refine ⟨rs, U, N, rfl, h, N60, fun G6 p rows kg gp gr hl tb => ?_⟩
    have lrw : (rows.map rowD).length = rows.length := List.length_map ..
    have rB : ∀ ns ∈ rows, RowB (rowD ns) := fun ns hn => rowB_good (rowI_good h (tb.row ns hn))
    have sq : seqOf G6 (.ref p) = some (rows.map rowD) := by show trkL (G6 p) = _; rw [gr]; rfl
    have ty6 : tyD G6 (.ref p) = some "list" := by show (match G6 p with | some (.lst _) => some "list" | some (.dT _) => some "dict" | _ => none) = _; rw [gr]
    have pot6 : PotAt G6 a := by obtain ⟨x, y, e⟩ := p2.1; exact ⟨x, y, kg a _ e⟩
    have nap : a ≠ p := fun z => by
      obtain ⟨x, y, e⟩ := p2.1
      rw [z, gp] at e
      cases e
    have tT : decide (TabD U rs (rows.map rowD)) = true := decide_eq_true ⟨rows, rfl, tb⟩
    simp only [cIsi, ty6, startD, dRet, dRetN, dAndV, dOrV, dCB, dNotV, dCons, dNil, dVar, dC, dAnd, dOr, dNot, dTest, dBin, dUn, dChain, dIfS, dSeq, dAsg, eName, dPar, dPar3, dNext, dDrop, dNever, dCont, dBreak, dCall, dCallK, dTup, dLst, dLstM, dIf, dWhile, dItems, dRange1, dRange2, dEnum, dZip, dLc, dLcM, wipeD, eTup, eCons, eNil, eSub, dCut, dPart, dNoPart, dRev, dFld, dSetFld, dMake, dMeth, dBM, dDGet2, dDGet, dDIn, dDPut, dDNew, dDisp1, dLstRg2, bSub, bDiv, bMod, bPow, bLt, bLe, bGt, bGe, bI, bI0, bB0, bIsN, bNotN, VL.isNon, uNeg, List.map_cons, List.map_nil, List.length_cons, List.length_nil, List.replicate, List.cons_append, List.nil_append, List.getElem?_cons_zero, List.getElem?_cons_succ, List.set_cons_zero, List.set_cons_succ, Nat.reduceAdd, Nat.reduceSub, decide_eq_true_eq, if_true, if_false, Bool.false_eq_true, reduceIte, pick, List.filterMap_cons, List.filterMap_nil]
    refine ⟨by decide, ?_⟩
    simp only [show isB "list" "list" = true by decide, Bool.not_true, Bool.false_eq_true, if_false]
    simp only [cLen, sq, lrw, hl, bNe, bEq, startD, dRet, dRetN, dAndV, dOrV, dCB, dNotV, dCons, dNil, dVar, dC, dAnd, dOr, dNot, dTest, dBin, dUn, dChain, dIfS, dSeq, dAsg, eName, dPar, dPar3, dNext, dDrop, dNever, dCont, dBreak, dCall, dCallK, dTup, dLst, dLstM, dIf, dWhile, dItems, dRange1, dRange2, dEnum, dZip, dLc, dLcM, wipeD, eTup, eCons, eNil, eSub, dCut, dPart, dNoPart, dRev, dFld, dSetFld, dMake, dMeth, dBM, dDGet2, dDGet, dDIn, dDPut, dDNew, dDisp1, dLstRg2, bSub, bDiv, bMod, bPow, bLt, bLe, bGt, bGe, bI, bI0, bB0, bIsN, bNotN, VL.isNon, uNeg, List.map_cons, List.map_nil, List.length_cons, List.length_nil, List.replicate, List.cons_append, List.nil_append, List.getElem?_cons_zero, List.getElem?_cons_succ, List.set_cons_zero, List.set_cons_succ, Nat.reduceAdd, Nat.reduceSub, decide_eq_true_eq, if_true, if_false, Bool.false_eq_true, reduceIte, pick, List.filterMap_cons, List.filterMap_nil]
    simp only [decide_true, Bool.not_true, Bool.false_eq_true, if_false]
    refine ⟨rs, U, _, _, "list", rfl, sq, ty6, rfl, h, fun d hd => by
      obtain ⟨ns, hn, rfl⟩ := List.mem_map.mp hd
      exact (rB ns hn).1, by rw [lrw]; omega, ?_⟩
    rw [tT]
    simp only [cList, sq, startD, dRet, dRetN, dAndV, dOrV, dCB, dNotV, dCons, dNil, dVar, dC, dAnd, dOr, dNot, dTest, dBin, dUn, dChain, dIfS, dSeq, dAsg, eName, dPar, dPar3, dNext, dDrop, dNever, dCont, dBreak, dCall, dCallK, dTup, dLst, dLstM, dIf, dWhile, dItems, dRange1, dRange2, dEnum, dZip, dLc, dLcM, wipeD, eTup, eCons, eNil, eSub, dCut, dPart, dNoPart, dRev, dFld, dSetFld, dMake, dMeth, dBM, dDGet2, dDGet, dDIn, dDPut, dDNew, dDisp1, dLstRg2, bSub, bDiv, bMod, bPow, bLt, bLe, bGt, bGe, bI, bI0, bB0, bIsN, bNotN, VL.isNon, uNeg, List.map_cons, List.map_nil, List.length_cons, List.length_nil, List.replicate, List.cons_append, List.nil_append, List.getElem?_cons_zero, List.getElem?_cons_succ, List.set_cons_zero, List.set_cons_succ, Nat.reduceAdd, Nat.reduceSub, decide_eq_true_eq, if_true, if_false, Bool.false_eq_true, reduceIte, pick, List.filterMap_cons, List.filterMap_nil]
    simp only [Bool.not_true, Bool.false_eq_true, if_false]
    simp only [mAppend, gr, startD, dRet, dRetN, dAndV, dOrV, dCB, dNotV, dCons, dNil, dVar, dC, dAnd, dOr, dNot, dTest, dBin, dUn, dChain, dIfS, dSeq, dAsg, eName, dPar, dPar3, dNext, dDrop, dNever, dCont, dBreak, dCall, dCallK, dTup, dLst, dLstM, dIf, dWhile, dItems, dRange1, dRange2, dEnum, dZip, dLc, dLcM, wipeD, eTup, eCons, eNil, eSub, dCut, dPart, dNoPart, dRev, dFld, dSetFld, dMake, dMeth, dBM, dDGet2, dDGet, dDIn, dDPut, dDNew, dDisp1, dLstRg2, bSub, bDiv, bMod, bPow, bLt, bLe, bGt, bGe, bI, bI0, bB0, bIsN, bNotN, VL.isNon, uNeg, List.map_cons, List.map_nil, List.length_cons, List.length_nil, List.replicate, List.cons_append, List.nil_append, List.getElem?_cons_zero, List.getElem?_cons_succ, List.set_cons_zero, List.set_cons_succ, Nat.reduceAdd, Nat.reduceSub, decide_eq_true_eq, if_true, if_false, Bool.false_eq_true, reduceIte, pick, List.filterMap_cons, List.filterMap_nil]
    refine ⟨⟨_, rfl⟩, by rw [lrw, sz]; omega, ?_⟩
    generalize hG7 : updD G6 p (HD.lst (rows.map rowD ++ [D.non])) = G7
    have pot7 : PotAt G7 a := by obtain ⟨x, y, e⟩ := pot6; exact ⟨x, y, by rw [← hG7, updD_ne nap]; exact e⟩
    refine ⟨rs, U, N, rfl, h, N60, fun G8 p8 rows8 kg8 gp8 gr8 hl8 tb8 => ?_⟩
    have lrw8 : (rows8.map rowD).length = rows8.length := List.length_map ..
    have sq8 : seqOf G8 (.ref p8) = some (rows8.map rowD) := by show trkL (G8 p8) = _; rw [gr8]; rfl
    have ty8 : tyD G8 (.ref p8) = some "list" := by show (match G8 p8 with | some (.lst _) => some "list" | some (.dT _) => some "dict" | _ => none) = _; rw [gr8]
    have pot8 : PotAt G8 a := by obtain ⟨x, y, e⟩ := pot7; exact ⟨x, y, kg8 a _ e⟩
    have tT8 : decide (TabD U rs (rows8.map rowD)) = true := decide_eq_true ⟨rows8, rfl, tb8⟩
    simp only [cLen, sq8, lrw8, hl8, bNe, bEq, startD, dRet, dRetN, dAndV, dOrV, dCB, dNotV, dCons, dNil, dVar, dC, dAnd, dOr, dNot, dTest, dBin, dUn, dChain, dIfS, dSeq, dAsg, eName, dPar, dPar3, dNext, dDrop, dNever, dCont, dBreak, dCall, dCallK, dTup, dLst, dLstM, dIf, dWhile, dItems, dRange1, dRange2, dEnum, dZip, dLc, dLcM, wipeD, eTup, eCons, eNil, eSub, dCut, dPart, dNoPart, dRev, dFld, dSetFld, dMake, dMeth, dBM, dDGet2, dDGet, dDIn, dDPut, dDNew, dDisp1, dLstRg2, bSub, bDiv, bMod, bPow, bLt, bLe, bGt, bGe, bI, bI0, bB0, bIsN, bNotN, VL.isNon, uNeg, List.map_cons, List.map_nil, List.length_cons, List.length_nil, List.replicate, List.cons_append, List.nil_append, List.getElem?_cons_zero, List.getElem?_cons_succ, List.set_cons_zero, List.set_cons_succ, Nat.reduceAdd, Nat.reduceSub, decide_eq_true_eq, if_true, if_false, Bool.false_eq_true, reduceIte, pick, List.filterMap_cons, List.filterMap_nil]
    simp only [decide_true, Bool.not_true, Bool.false_eq_true, if_false]
    refine ⟨rs, U, _, _, "list", rfl, sq8, ty8, rfl, h, fun d hd => by
      obtain ⟨ns, hn, rfl⟩ := List.mem_map.mp hd
      exact (rowB_good (rowI_good h (tb8.row ns hn))).1, by rw [lrw8]; omega, ?_⟩
    rw [tT8]
    simp only [bAdd, startD, dRet, dRetN, dAndV, dOrV, dCB, dNotV, dCons, dNil, dVar, dC, dAnd, dOr, dNot, dTest, dBin, dUn, dChain, dIfS, dSeq, dAsg, eName, dPar, dPar3, dNext, dDrop, dNever, dCont, dBreak, dCall, dCallK, dTup, dLst, dLstM, dIf, dWhile, dItems, dRange1, dRange2, dEnum, dZip, dLc, dLcM, wipeD, eTup, eCons, eNil, eSub, dCut, dPart, dNoPart, dRev, dFld, dSetFld, dMake, dMeth, dBM, dDGet2, dDGet, dDIn, dDPut, dDNew, dDisp1, dLstRg2, bSub, bDiv, bMod, bPow, bLt, bLe, bGt, bGe, bI, bI0, bB0, bIsN, bNotN, VL.isNon, uNeg, List.map_cons, List.map_nil, List.length_cons, List.length_nil, List.replicate, List.cons_append, List.nil_append, List.getElem?_cons_zero, List.getElem?_cons_succ, List.set_cons_zero, List.set_cons_succ, Nat.reduceAdd, Nat.reduceSub, decide_eq_true_eq, if_true, if_false, Bool.false_eq_true, reduceIte, pick, List.filterMap_cons, List.filterMap_nil]
    simp only [Bool.not_true, Bool.false_eq_true, if_false]
    refine ⟨a, _, rfl, pot8, by omega, by omega, fun cutn G9 c0 c1 p9 => ?_⟩
    simp only [sCut, lstOf, cTuple, seqOf, startD, dRet, dRetN, dAndV, dOrV, dCB, dNotV, dCons, dNil, dVar, dC, dAnd, dOr, dNot, dTest, dBin, dUn, dChain, dIfS, dSeq, dAsg, eName, dPar, dPar3, dNext, dDrop, dNever, dCont, dBreak, dCall, dCallK, dTup, dLst, dLstM, dIf, dWhile, dItems, dRange1, dRange2, dEnum, dZip, dLc, dLcM, wipeD, eTup, eCons, eNil, eSub, dCut, dPart, dNoPart, dRev, dFld, dSetFld, dMake, dMeth, dBM, dDGet2, dDGet, dDIn, dDPut, dDNew, dDisp1, dLstRg2, bSub, bDiv, bMod, bPow, bLt, bLe, bGt, bGe, bI, bI0, bB0, bIsN, bNotN, VL.isNon, uNeg, List.map_cons, List.map_nil, List.length_cons, List.length_nil, List.replicate, List.cons_append, List.nil_append, List.getElem?_cons_zero, List.getElem?_cons_succ, List.set_cons_zero, List.set_cons_succ, Nat.reduceAdd, Nat.reduceSub, decide_eq_true_eq, if_true, if_false, Bool.false_eq_true, reduceIte, pick, List.filterMap_cons, List.filterMap_nil]
    have fin_ : ∀ Gx, Q (.bl true) Gx := q
    refine ⟨by decide, by decide, fun vv gvv => ?_⟩
    have nav : a ≠ vv := fun z => by
      obtain ⟨x, y, e⟩ := p9.1
      rw [z, gvv] at e
      cases e
    have rBd : ∀ d ∈ rows.map rowD, RowB d := fun d hd => by
      obtain ⟨ns, hn, rfl⟩ := List.mem_map.mp hd
      exact rB ns hn
    have vok0 : ∀ v ∈ [D.lst (rows.map rowD), .lst (cutD (rows.map rowD) none (some cutn)), .lst [], .tup (rows.map rowD)], VOk v := fun v hv => by
      simp only [List.mem_cons, List.not_mem_nil, or_false] at hv
      rcases hv with rfl | rfl | rfl | rfl
      · exact ⟨_, .inl rfl, rBd, by omega⟩
      · exact ⟨_, .inl rfl, fun d hd => rBd d (cutD_mem hd), by have := cutD_len (rows.map rowD) none (some cutn); omega⟩
      · exact ⟨_, .inl rfl, (fun d hd => nomatch hd), by decide⟩
      · exact ⟨_, .inr rfl, rBd, by omega⟩
    have pot10 : PotAt (updD G9 vv (.lst [D.lst (rows.map rowD), .lst (cutD (rows.map rowD) none (some cutn)), .lst [], .tup (rows.map rowD)])) a := by obtain ⟨x, y, e⟩ := p9.1; exact ⟨x, y, by rw [updD_ne nav]; exact e⟩
    generalize hvs : [D.lst (rows.map rowD), .lst (cutD (rows.map rowD) none (some cutn)), .lst [], .tup (rows.map rowD)] = vs0 at *
    have lv0 : vs0.length = 4 := by rw [← hvs]; rfl
    show (-(2 ^ 62 : Int) ≤ 6 ∧ (6 : Int) < 2 ^ 62) ∧ dLoop _ _ _ (rangeD 0 6) _ _ _
    refine ⟨by decide, ?_⟩
    refine loop_at (fun i δ Gi => ∃ vs : List D, (∃ x2 x3 x5 x7 x8 x9 x10, δ = [some (.ref a), some (ratsD rs), x2, x3, some (.lst (rows.map rowD)), x5, some (.ref vv), x7, x8, x9, x10]) ∧ Gi vv = some (.lst vs) ∧ PotAt Gi a ∧ vs.length = 4 + i ∧ ∀ v ∈ vs, VOk v) ?_ ?_ ⟨vs0, ⟨_, _, _, _, _, _, _, rfl⟩, updD_same, pot10, lv0, vok0⟩
    · rintro δ Gi ⟨vs, ⟨x2, x3, x5, x7, x8, x9, x10, rfl⟩, gv, pv, lv, vok⟩
      refine ⟨trivial, ?_⟩
      simp only [dSeq]
      unfold dFor
      refine items_var (i := 6) rfl (show seqOf Gi (.ref vv) = some vs by show trkL (Gi vv) = _; rw [gv]; rfl) ?_
      refine loop_at (fun i δ Gj => Gj = Gi ∧ ∃ y0 y2 y3 y4 y5 y6 y7 y8 y9 y10, δ = [y0, some (ratsD rs), y2, y3, y4, y5, y6, y7, y8, y9, y10]) ?_ ?_ ⟨rfl, _, _, _, _, _, _, _, _, _, _, rfl⟩
      · rintro δ Gj ⟨rfl, _⟩
        exact ⟨gv, fin_ _⟩
      · rintro i d δ Gj nx hd ⟨rfl, y0, y2, y3, y4, y5, y6, y7, y8, y9, y10, rfl⟩ hn
        refine ⟨gv, ?_⟩
        obtain ⟨es, hv, hB, hl3⟩ := vok d (List.mem_of_getElem? hd)
        have sqd : seqOf Gj d = some es := by rcases hv with rfl | rfl <;> rfl
        obtain ⟨ty, hty, hlt⟩ : ∃ ty, tyD Gj d = some ty ∧ isLstT ty = true := by
          rcases hv with rfl | rfl
          · exact ⟨"list", rfl, rfl⟩
          · exact ⟨"tuple", rfl, rfl⟩
        have shw : ∀ Qs : KD, Qs (.str (toP d).shown) Gj → cRepr [d] Gj Qs := fun Qs hq => repr_rows hv (fun x hx => (hB x hx).2) (by omega) hq
        try (simp only [startD, dRet, dRetN, dAndV, dOrV, dCB, dNotV, dCons, dNil, dVar, dC, dAnd, dOr, dNot, dTest, dBin, dUn, dChain, dIfS, dSeq, dAsg, eName, dPar, dPar3, dNext, dDrop, dNever, dCont, dBreak, dCall, dCallK, dTup, dLst, dLstM, dIf, dFor, dWhile, dItems, dRange1, dRange2, dEnum, dZip, dLc, dLcM, wipeD, eTup, eCons, eNil, eSub, dCut, dPart, dNoPart, dRev, dFld, dSetFld, dMake, dMeth, dBM, dDGet2, dDGet, dDIn, dDPut, dDNew, dDisp1, dLstRg2, bSub, bDiv, bMod, bPow, bLt, bLe, bGt, bGe, bI, bI0, bB0, bIsN, bNotN, VL.isNon, uNeg, List.map_cons, List.map_nil, List.length_cons, List.length_nil, List.replicate, List.cons_append, List.nil_append, List.getElem?_cons_zero, List.getElem?_cons_succ, List.set_cons_zero, List.set_cons_succ, Nat.reduceAdd, Nat.reduceSub, decide_eq_true_eq, if_true, if_false, Bool.false_eq_true, reduceIte, pick, List.filterMap_cons, List.filterMap_nil])
        refine shw _ ?_
        try (simp only [startD, dRet, dRetN, dAndV, dOrV, dCB, dNotV, dCons, dNil, dVar, dC, dAnd, dOr, dNot, dTest, dBin, dUn, dChain, dIfS, dSeq, dAsg, eName, dPar, dPar3, dNext, dDrop, dNever, dCont, dBreak, dCall, dCallK, dTup, dLst, dLstM, dIf, dFor, dWhile, dItems, dRange1, dRange2, dEnum, dZip, dLc, dLcM, wipeD, eTup, eCons, eNil, eSub, dCut, dPart, dNoPart, dRev, dFld, dSetFld, dMake, dMeth, dBM, dDGet2, dDGet, dDIn, dDPut, dDNew, dDisp1, dLstRg2, bSub, bDiv, bMod, bPow, bLt, bLe, bGt, bGe, bI, bI0, bB0, bIsN, bNotN, VL.isNon, uNeg, List.map_cons, List.map_nil, List.length_cons, List.length_nil, List.replicate, List.cons_append, List.nil_append, List.getElem?_cons_zero, List.getElem?_cons_succ, List.set_cons_zero, List.set_cons_succ, Nat.reduceAdd, Nat.reduceSub, decide_eq_true_eq, if_true, if_false, Bool.false_eq_true, reduceIte, pick, List.filterMap_cons, List.filterMap_nil])
        refine ⟨rs, U, d, es, ty, rfl, sqd, hty, hlt, h, fun x hx => (hB x hx).1, by omega, ?_⟩
        try (simp only [startD, dRet, dRetN, dAndV, dOrV, dCB, dNotV, dCons, dNil, dVar, dC, dAnd, dOr, dNot, dTest, dBin, dUn, dChain, dIfS, dSeq, dAsg, eName, dPar, dPar3, dNext, dDrop, dNever, dCont, dBreak, dCall, dCallK, dTup, dLst, dLstM, dIf, dFor, dWhile, dItems, dRange1, dRange2, dEnum, dZip, dLc, dLcM, wipeD, eTup, eCons, eNil, eSub, dCut, dPart, dNoPart, dRev, dFld, dSetFld, dMake, dMeth, dBM, dDGet2, dDGet, dDIn, dDPut, dDNew, dDisp1, dLstRg2, bSub, bDiv, bMod, bPow, bLt, bLe, bGt, bGe, bI, bI0, bB0, bIsN, bNotN, VL.isNon, uNeg, List.map_cons, List.map_nil, List.length_cons, List.length_nil, List.replicate, List.cons_append, List.nil_append, List.getElem?_cons_zero, List.getElem?_cons_succ, List.set_cons_zero, List.set_cons_succ, Nat.reduceAdd, Nat.reduceSub, decide_eq_true_eq, if_true, if_false, Bool.false_eq_true, reduceIte, pick, List.filterMap_cons, List.filterMap_nil])
        refine ⟨rs, U, d, es, rfl, hv, h, fun x hx => (hB x hx).1, by omega, ?_⟩
        try (simp only [startD, dRet, dRetN, dAndV, dOrV, dCB, dNotV, dCons, dNil, dVar, dC, dAnd, dOr, dNot, dTest, dBin, dUn, dChain, dIfS, dSeq, dAsg, eName, dPar, dPar3, dNext, dDrop, dNever, dCont, dBreak, dCall, dCallK, dTup, dLst, dLstM, dIf, dFor, dWhile, dItems, dRange1, dRange2, dEnum, dZip, dLc, dLcM, wipeD, eTup, eCons, eNil, eSub, dCut, dPart, dNoPart, dRev, dFld, dSetFld, dMake, dMeth, dBM, dDGet2, dDGet, dDIn, dDPut, dDNew, dDisp1, dLstRg2, bSub, bDiv, bMod, bPow, bLt, bLe, bGt, bGe, bI, bI0, bB0, bIsN, bNotN, VL.isNon, uNeg, List.map_cons, List.map_nil, List.length_cons, List.length_nil, List.replicate, List.cons_append, List.nil_append, List.getElem?_cons_zero, List.getElem?_cons_succ, List.set_cons_zero, List.set_cons_succ, Nat.reduceAdd, Nat.reduceSub, decide_eq_true_eq, if_true, if_false, Bool.false_eq_true, reduceIte, pick, List.filterMap_cons, List.filterMap_nil])
        refine ⟨rs, U, d, es, rfl, hv, h, fun x hx => (hB x hx).1, by omega, ?_⟩
        try (simp only [startD, dRet, dRetN, dAndV, dOrV, dCB, dNotV, dCons, dNil, dVar, dC, dAnd, dOr, dNot, dTest, dBin, dUn, dChain, dIfS, dSeq, dAsg, eName, dPar, dPar3, dNext, dDrop, dNever, dCont, dBreak, dCall, dCallK, dTup, dLst, dLstM, dIf, dFor, dWhile, dItems, dRange1, dRange2, dEnum, dZip, dLc, dLcM, wipeD, eTup, eCons, eNil, eSub, dCut, dPart, dNoPart, dRev, dFld, dSetFld, dMake, dMeth, dBM, dDGet2, dDGet, dDIn, dDPut, dDNew, dDisp1, dLstRg2, bSub, bDiv, bMod, bPow, bLt, bLe, bGt, bGe, bI, bI0, bB0, bIsN, bNotN, VL.isNon, uNeg, List.map_cons, List.map_nil, List.length_cons, List.length_nil, List.replicate, List.cons_append, List.nil_append, List.getElem?_cons_zero, List.getElem?_cons_succ, List.set_cons_zero, List.set_cons_succ, Nat.reduceAdd, Nat.reduceSub, decide_eq_true_eq, if_true, if_false, Bool.false_eq_true, reduceIte, pick, List.filterMap_cons, List.filterMap_nil])
        refine ⟨by decide, ?_⟩
        refine repr_rows (.inl rfl) (fun x hx => by
          simp only [List.mem_cons, List.not_mem_nil, or_false] at hx
          rcases hx with rfl | rfl <;> rfl) (by simp) ?_
        try (simp only [startD, dRet, dRetN, dAndV, dOrV, dCB, dNotV, dCons, dNil, dVar, dC, dAnd, dOr, dNot, dTest, dBin, dUn, dChain, dIfS, dSeq, dAsg, eName, dPar, dPar3, dNext, dDrop, dNever, dCont, dBreak, dCall, dCallK, dTup, dLst, dLstM, dIf, dFor, dWhile, dItems, dRange1, dRange2, dEnum, dZip, dLc, dLcM, wipeD, eTup, eCons, eNil, eSub, dCut, dPart, dNoPart, dRev, dFld, dSetFld, dMake, dMeth, dBM, dDGet2, dDGet, dDIn, dDPut, dDNew, dDisp1, dLstRg2, bSub, bDiv, bMod, bPow, bLt, bLe, bGt, bGe, bI, bI0, bB0, bIsN, bNotN, VL.isNon, uNeg, List.map_cons, List.map_nil, List.length_cons, List.length_nil, List.replicate, List.cons_append, List.nil_append, List.getElem?_cons_zero, List.getElem?_cons_succ, List.set_cons_zero, List.set_cons_succ, Nat.reduceAdd, Nat.reduceSub, decide_eq_true_eq, if_true, if_false, Bool.false_eq_true, reduceIte, pick, List.filterMap_cons, List.filterMap_nil])
        refine ⟨by decide, ?_⟩
        refine repr_rows (.inl rfl) (fun x hx => by
          simp only [List.mem_cons, List.not_mem_nil, or_false] at hx
          rcases hx with rfl | rfl <;> rfl) (by simp) ?_
        simp only [bNe, bEq, startD, dRet, dRetN, dAndV, dOrV, dCB, dNotV, dCons, dNil, dVar, dC, dAnd, dOr, dNot, dTest, dBin, dUn, dChain, dIfS, dSeq, dAsg, eName, dPar, dPar3, dNext, dDrop, dNever, dCont, dBreak, dCall, dCallK, dTup, dLst, dLstM, dIf, dFor, dWhile, dItems, dRange1, dRange2, dEnum, dZip, dLc, dLcM, wipeD, eTup, eCons, eNil, eSub, dCut, dPart, dNoPart, dRev, dFld, dSetFld, dMake, dMeth, dBM, dDGet2, dDGet, dDIn, dDPut, dDNew, dDisp1, dLstRg2, bSub, bDiv, bMod, bPow, bLt, bLe, bGt, bGe, bI, bI0, bB0, bIsN, bNotN, VL.isNon, uNeg, List.map_cons, List.map_nil, List.length_cons, List.length_nil, List.replicate, List.cons_append, List.nil_append, List.getElem?_cons_zero, List.getElem?_cons_succ, List.set_cons_zero, List.set_cons_succ, Nat.reduceAdd, Nat.reduceSub, decide_eq_true_eq, if_true, if_false, Bool.false_eq_true, reduceIte, pick, List.filterMap_cons, List.filterMap_nil]
        simp only [decide_true, Bool.not_true, Bool.false_eq_true, if_false]
        refine shw _ ?_
        simp only [bNe, bEq, startD, dRet, dRetN, dAndV, dOrV, dCB, dNotV, dCons, dNil, dVar, dC, dAnd, dOr, dNot, dTest, dBin, dUn, dChain, dIfS, dSeq, dAsg, eName, dPar, dPar3, dNext, dDrop, dNever, dCont, dBreak, dCall, dCallK, dTup, dLst, dLstM, dIf, dFor, dWhile, dItems, dRange1, dRange2, dEnum, dZip, dLc, dLcM, wipeD, eTup, eCons, eNil, eSub, dCut, dPart, dNoPart, dRev, dFld, dSetFld, dMake, dMeth, dBM, dDGet2, dDGet, dDIn, dDPut, dDNew, dDisp1, dLstRg2, bSub, bDiv, bMod, bPow, bLt, bLe, bGt, bGe, bI, bI0, bB0, bIsN, bNotN, VL.isNon, uNeg, List.map_cons, List.map_nil, List.length_cons, List.length_nil, List.replicate, List.cons_append, List.nil_append, List.getElem?_cons_zero, List.getElem?_cons_succ, List.set_cons_zero, List.set_cons_succ, Nat.reduceAdd, Nat.reduceSub, decide_eq_true_eq, if_true, if_false, Bool.false_eq_true, reduceIte, pick, List.filterMap_cons, List.filterMap_nil]
        simp only [decide_true, Bool.not_true, Bool.false_eq_true, if_false]
        exact hn _ _ ⟨rfl, _, _, _, _, _, _, _, _, _, _, rfl⟩
    · rintro i d δ Gi nx hd ⟨vs, ⟨x2, x3, x5, x7, x8, x9, x10, rfl⟩, gv, pv, lv, vok⟩ hn
      refine ⟨trivial, ?_⟩
      have hi6 : i < 6 := (List.getElem?_eq_some_iff.mp hd).1
      simp only [gv, startD, dRet, dRetN, dAndV, dOrV, dCB, dNotV, dCons, dNil, dVar, dC, dAnd, dOr, dNot, dTest, dBin, dUn, dChain, dIfS, dSeq, dAsg, eName, dPar, dPar3, dNext, dDrop, dNever, dCont, dBreak, dCall, dCallK, dTup, dLst, dLstM, dIf, dFor, dWhile, dItems, dRange1, dRange2, dEnum, dZip, dLc, dLcM, wipeD, eTup, eCons, eNil, eSub, dCut, dPart, dNoPart, dRev, dFld, dSetFld, dMake, dMeth, dBM, dDGet2, dDGet, dDIn, dDPut, dDNew, dDisp1, dLstRg2, bSub, bDiv, bMod, bPow, bLt, bLe, bGt, bGe, bI, bI0, bB0, bIsN, bNotN, VL.isNon, uNeg, List.map_cons, List.map_nil, List.length_cons, List.length_nil, List.replicate, List.cons_append, List.nil_append, List.getElem?_cons_zero, List.getElem?_cons_succ, List.set_cons_zero, List.set_cons_succ, Nat.reduceAdd, Nat.reduceSub, decide_eq_true_eq, if_true, if_false, Bool.false_eq_true, reduceIte, pick, List.filterMap_cons, List.filterMap_nil]
      refine ⟨⟨_, rfl⟩, a, rows, rfl, pv, by omega, fun ns hns => rowI_good h (tb.row ns hns), fun es G' hes les ps => ?_⟩
      have gv' : G' vv = some (.lst vs) := ps.2 vv _ (fun z => nav z.symm) gv
      simp only [mAppend, gv', startD, dRet, dRetN, dAndV, dOrV, dCB, dNotV, dCons, dNil, dVar, dC, dAnd, dOr, dNot, dTest, dBin, dUn, dChain, dIfS, dSeq, dAsg, eName, dPar, dPar3, dNext, dDrop, dNever, dCont, dBreak, dCall, dCallK, dTup, dLst, dLstM, dIf, dFor, dWhile, dItems, dRange1, dRange2, dEnum, dZip, dLc, dLcM, wipeD, eTup, eCons, eNil, eSub, dCut, dPart, dNoPart, dRev, dFld, dSetFld, dMake, dMeth, dBM, dDGet2, dDGet, dDIn, dDPut, dDNew, dDisp1, dLstRg2, bSub, bDiv, bMod, bPow, bLt, bLe, bGt, bGe, bI, bI0, bB0, bIsN, bNotN, VL.isNon, uNeg, List.map_cons, List.map_nil, List.length_cons, List.length_nil, List.replicate, List.cons_append, List.nil_append, List.getElem?_cons_zero, List.getElem?_cons_succ, List.set_cons_zero, List.set_cons_succ, Nat.reduceAdd, Nat.reduceSub, decide_eq_true_eq, if_true, if_false, Bool.false_eq_true, reduceIte, pick, List.filterMap_cons, List.filterMap_nil]
      refine ⟨by rw [sz]; omega, hn _ _ ⟨vs ++ [.lst es], ⟨_, _, _, _, _, _, _, rfl⟩, updD_same, ?_, by rw [List.length_append, List.length_singleton]; omega, fun v hv => ?_⟩⟩
      · obtain ⟨x, y, e⟩ := ps.1
        exact ⟨x, y, by rw [updD_ne nav]; exact e⟩
      · rcases List.mem_append.mp hv with z | z
        · exact vok v z
        · rw [List.mem_singleton.mp z]
          exact ⟨es, .inl rfl, hes, les⟩
  · rw [if_neg hd]
    refine ⟨a, 21, rfl, p2.1, by decide, by decide, fun d2 G3 e0 e1 p3 => ?_⟩
    have p2 := p2.trans p3
    obtain ⟨N, rfl, N60⟩ : ∃ N : Nat, d2 = N ∧ N ≤ 60 := ⟨d2.toNat, by omega, by omega⟩
    try (simp only [startD, dRet, dRetN, dAndV, dOrV, dCB, dNotV, dCons, dNil, dVar, dC, dAnd, dOr, dNot, dTest, dBin, dUn, dChain, dIfS, dSeq, dAsg, eName, dPar, dPar3, dNext, dDrop, dNever, dCont, dBreak, dCall, dCallK, dTup, dLst, dLstM, dIf, dWhile, dItems, dRange1, dRange2, dEnum, dZip, dLc, dLcM, wipeD, eTup, eCons, eNil, eSub, dCut, dPart, dNoPart, dRev, dFld, dSetFld, dMake, dMeth, dBM, dDGet2, dDGet, dDIn, dDPut, dDNew, dDisp1, dLstRg2, bSub, bDiv, bMod, bPow, bLt, bLe, bGt, bGe, bI, bI0, bB0, bIsN, bNotN, VL.isNon, uNeg, List.map_cons, List.map_nil, List.length_cons, List.length_nil, List.replicate, List.cons_append, List.nil_append, List.getElem?_cons_zero, List.getElem?_cons_succ, List.set_cons_zero, List.set_cons_succ, Nat.reduceAdd, Nat.reduceSub, decide_eq_true_eq, if_true, if_false, Bool.false_eq_true, reduceIte, pick, List.filterMap_cons, List.filterMap_nil])
    refine ⟨rs, U, N, rfl, h, N60, fun G6 p rows kg gp gr hl tb => ?_⟩
    have lrw : (rows.map rowD).length = rows.length := List.length_map ..
    have rB : ∀ ns ∈ rows, RowB (rowD ns) := fun ns hn => rowB_good (rowI_good h (tb.row ns hn))
    have sq : seqOf G6 (.ref p) = some (rows.map rowD) := by show trkL (G6 p) = _; rw [gr]; rfl
    have ty6 : tyD G6 (.ref p) = some "list" := by show (match G6 p with | some (.lst _) => some "list" | some (.dT _) => some "dict" | _ => none) = _; rw [gr]
    have pot6 : PotAt G6 a := by obtain ⟨x, y, e⟩ := p2.1; exact ⟨x, y, kg a _ e⟩
    have nap : a ≠ p := fun z => by
      obtain ⟨x, y, e⟩ := p2.1
      rw [z, gp] at e
      cases e
    have tT : decide (TabD U rs (rows.map rowD)) = true := decide_eq_true ⟨rows, rfl, tb⟩
    simp only [cIsi, ty6, startD, dRet, dRetN, dAndV, dOrV, dCB, dNotV, dCons, dNil, dVar, dC, dAnd, dOr, dNot, dTest, dBin, dUn, dChain, dIfS, dSeq, dAsg, eName, dPar, dPar3, dNext, dDrop, dNever, dCont, dBreak, dCall, dCallK, dTup, dLst, dLstM, dIf, dWhile, dItems, dRange1, dRange2, dEnum, dZip, dLc, dLcM, wipeD, eTup, eCons, eNil, eSub, dCut, dPart, dNoPart, dRev, dFld, dSetFld, dMake, dMeth, dBM, dDGet2, dDGet, dDIn, dDPut, dDNew, dDisp1, dLstRg2, bSub, bDiv, bMod, bPow, bLt, bLe, bGt, bGe, bI, bI0, bB0, bIsN, bNotN, VL.isNon, uNeg, List.map_cons, List.map_nil, List.length_cons, List.length_nil, List.replicate, List.cons_append, List.nil_append, List.getElem?_cons_zero, List.getElem?_cons_succ, List.set_cons_zero, List.set_cons_succ, Nat.reduceAdd, Nat.reduceSub, decide_eq_true_eq, if_true, if_false, Bool.false_eq_true, reduceIte, pick, List.filterMap_cons, List.filterMap_nil]
    refine ⟨by decide, ?_⟩
    simp only [show isB "list" "list" = true by decide, Bool.not_true, Bool.false_eq_true, if_false]
    simp only [cLen, sq, lrw, hl, bNe, bEq, startD, dRet, dRetN, dAndV, dOrV, dCB, dNotV, dCons, dNil, dVar, dC, dAnd, dOr, dNot, dTest, dBin, dUn, dChain, dIfS, dSeq, dAsg, eName, dPar, dPar3, dNext, dDrop, dNever, dCont, dBreak, dCall, dCallK, dTup, dLst, dLstM, dIf, dWhile, dItems, dRange1, dRange2, dEnum, dZip, dLc, dLcM, wipeD, eTup, eCons, eNil, eSub, dCut, dPart, dNoPart, dRev, dFld, dSetFld, dMake, dMeth, dBM, dDGet2, dDGet, dDIn, dDPut, dDNew, dDisp1, dLstRg2, bSub, bDiv, bMod, bPow, bLt, bLe, bGt, bGe, bI, bI0, bB0, bIsN, bNotN, VL.isNon, uNeg, List.map_cons, List.map_nil, List.length_cons, List.length_nil, List.replicate, List.cons_append, List.nil_append, List.getElem?_cons_zero, List.getElem?_cons_succ, List.set_cons_zero, List.set_cons_succ, Nat.reduceAdd, Nat.reduceSub, decide_eq_true_eq, if_true, if_false, Bool.false_eq_true, reduceIte, pick, List.filterMap_cons, List.filterMap_nil]
    simp only [decide_true, Bool.not_true, Bool.false_eq_true, if_false]
    refine ⟨rs, U, _, _, "list", rfl, sq, ty6, rfl, h, fun d hd => by
      obtain ⟨ns, hn, rfl⟩ := List.mem_map.mp hd
      exact (rB ns hn).1, by rw [lrw]; omega, ?_⟩
    rw [tT]
    simp only [cList, sq, startD, dRet, dRetN, dAndV, dOrV, dCB, dNotV, dCons, dNil, dVar, dC, dAnd, dOr, dNot, dTest, dBin, dUn, dChain, dIfS, dSeq, dAsg, eName, dPar, dPar3, dNext, dDrop, dNever, dCont, dBreak, dCall, dCallK, dTup, dLst, dLstM, dIf, dWhile, dItems, dRange1, dRange2, dEnum, dZip, dLc, dLcM, wipeD, eTup, eCons, eNil, eSub, dCut, dPart, dNoPart, dRev, dFld, dSetFld, dMake, dMeth, dBM, dDGet2, dDGet, dDIn, dDPut, dDNew, dDisp1, dLstRg2, bSub, bDiv, bMod, bPow, bLt, bLe, bGt, bGe, bI, bI0, bB0, bIsN, bNotN, VL.isNon, uNeg, List.map_cons, List.map_nil, List.length_cons, List.length_nil, List.replicate, List.cons_append, List.nil_append, List.getElem?_cons_zero, List.getElem?_cons_succ, List.set_cons_zero, List.set_cons_succ, Nat.reduceAdd, Nat.reduceSub, decide_eq_true_eq, if_true, if_false, Bool.false_eq_true, reduceIte, pick, List.filterMap_cons, List.filterMap_nil]
    simp only [Bool.not_true, Bool.false_eq_true, if_false]
    simp only [mAppend, gr, startD, dRet, dRetN, dAndV, dOrV, dCB, dNotV, dCons, dNil, dVar, dC, dAnd, dOr, dNot, dTest, dBin, dUn, dChain, dIfS, dSeq, dAsg, eName, dPar, dPar3, dNext, dDrop, dNever, dCont, dBreak, dCall, dCallK, dTup, dLst, dLstM, dIf, dWhile, dItems, dRange1, dRange2, dEnum, dZip, dLc, dLcM, wipeD, eTup, eCons, eNil, eSub, dCut, dPart, dNoPart, dRev, dFld, dSetFld, dMake, dMeth, dBM, dDGet2, dDGet, dDIn, dDPut, dDNew, dDisp1, dLstRg2, bSub, bDiv, bMod, bPow, bLt, bLe, bGt, bGe, bI, bI0, bB0, bIsN, bNotN, VL.isNon, uNeg, List.map_cons, List.map_nil, List.length_cons, List.length_nil, List.replicate, List.cons_append, List.nil_append, List.getElem?_cons_zero, List.getElem?_cons_succ, List.set_cons_zero, List.set_cons_succ, Nat.reduceAdd, Nat.reduceSub, decide_eq_true_eq, if_true, if_false, Bool.false_eq_true, reduceIte, pick, List.filterMap_cons, List.filterMap_nil]
    refine ⟨⟨_, rfl⟩, by rw [lrw, sz]; omega, ?_⟩
    generalize hG7 : updD G6 p (HD.lst (rows.map rowD ++ [D.non])) = G7
    have pot7 : PotAt G7 a := by obtain ⟨x, y, e⟩ := pot6; exact ⟨x, y, by rw [← hG7, updD_ne nap]; exact e⟩
    refine ⟨rs, U, N, rfl, h, N60, fun G8 p8 rows8 kg8 gp8 gr8 hl8 tb8 => ?_⟩
    have lrw8 : (rows8.map rowD).length = rows8.length := List.length_map ..
    have sq8 : seqOf G8 (.ref p8) = some (rows8.map rowD) := by show trkL (G8 p8) = _; rw [gr8]; rfl
    have ty8 : tyD G8 (.ref p8) = some "list" := by show (match G8 p8 with | some (.lst _) => some "list" | some (.dT _) => some "dict" | _ => none) = _; rw [gr8]
    have pot8 : PotAt G8 a := by obtain ⟨x, y, e⟩ := pot7; exact ⟨x, y, kg8 a _ e⟩
    have tT8 : decide (TabD U rs (rows8.map rowD)) = true := decide_eq_true ⟨rows8, rfl, tb8⟩
    simp only [cLen, sq8, lrw8, hl8, bNe, bEq, startD, dRet, dRetN, dAndV, dOrV, dCB, dNotV, dCons, dNil, dVar, dC, dAnd, dOr, dNot, dTest, dBin, dUn, dChain, dIfS, dSeq, dAsg, eName, dPar, dPar3, dNext, dDrop, dNever, dCont, dBreak, dCall, dCallK, dTup, dLst, dLstM, dIf, dWhile, dItems, dRange1, dRange2, dEnum, dZip, dLc, dLcM, wipeD, eTup, eCons, eNil, eSub, dCut, dPart, dNoPart, dRev, dFld, dSetFld, dMake, dMeth, dBM, dDGet2, dDGet, dDIn, dDPut, dDNew, dDisp1, dLstRg2, bSub, bDiv, bMod, bPow, bLt, bLe, bGt, bGe, bI, bI0, bB0, bIsN, bNotN, VL.isNon, uNeg, List.map_cons, List.map_nil, List.length_cons, List.length_nil, List.replicate, List.cons_append, List.nil_append, List.getElem?_cons_zero, List.getElem?_cons_succ, List.set_cons_zero, List.set_cons_succ, Nat.reduceAdd, Nat.reduceSub, decide_eq_true_eq, if_true, if_false, Bool.false_eq_true, reduceIte, pick, List.filterMap_cons, List.filterMap_nil]
    simp only [decide_true, Bool.not_true, Bool.false_eq_true, if_false]
    refine ⟨rs, U, _, _, "list", rfl, sq8, ty8, rfl, h, fun d hd => by
      obtain ⟨ns, hn, rfl⟩ := List.mem_map.mp hd
      exact (rowB_good (rowI_good h (tb8.row ns hn))).1, by rw [lrw8]; omega, ?_⟩
    rw [tT8]
    simp only [bAdd, startD, dRet, dRetN, dAndV, dOrV, dCB, dNotV, dCons, dNil, dVar, dC, dAnd, dOr, dNot, dTest, dBin, dUn, dChain, dIfS, dSeq, dAsg, eName, dPar, dPar3, dNext, dDrop, dNever, dCont, dBreak, dCall, dCallK, dTup, dLst, dLstM, dIf, dWhile, dItems, dRange1, dRange2, dEnum, dZip, dLc, dLcM, wipeD, eTup, eCons, eNil, eSub, dCut, dPart, dNoPart, dRev, dFld, dSetFld, dMake, dMeth, dBM, dDGet2, dDGet, dDIn, dDPut, dDNew, dDisp1, dLstRg2, bSub, bDiv, bMod, bPow, bLt, bLe, bGt, bGe, bI, bI0, bB0, bIsN, bNotN, VL.isNon, uNeg, List.map_cons, List.map_nil, List.length_cons, List.length_nil, List.replicate, List.cons_append, List.nil_append, List.getElem?_cons_zero, List.getElem?_cons_succ, List.set_cons_zero, List.set_cons_succ, Nat.reduceAdd, Nat.reduceSub, decide_eq_true_eq, if_true, if_false, Bool.false_eq_true, reduceIte, pick, List.filterMap_cons, List.filterMap_nil]
    simp only [Bool.not_true, Bool.false_eq_true, if_false]
    refine ⟨a, _, rfl, pot8, by omega, by omega, fun cutn G9 c0 c1 p9 => ?_⟩
    simp only [sCut, lstOf, cTuple, seqOf, startD, dRet, dRetN, dAndV, dOrV, dCB, dNotV, dCons, dNil, dVar, dC, dAnd, dOr, dNot, dTest, dBin, dUn, dChain, dIfS, dSeq, dAsg, eName, dPar, dPar3, dNext, dDrop, dNever, dCont, dBreak, dCall, dCallK, dTup, dLst, dLstM, dIf, dWhile, dItems, dRange1, dRange2, dEnum, dZip, dLc, dLcM, wipeD, eTup, eCons, eNil, eSub, dCut, dPart, dNoPart, dRev, dFld, dSetFld, dMake, dMeth, dBM, dDGet2, dDGet, dDIn, dDPut, dDNew, dDisp1, dLstRg2, bSub, bDiv, bMod, bPow, bLt, bLe, bGt, bGe, bI, bI0, bB0, bIsN, bNotN, VL.isNon, uNeg, List.map_cons, List.map_nil, List.length_cons, List.length_nil, List.replicate, List.cons_append, List.nil_append, List.getElem?_cons_zero, List.getElem?_cons_succ, List.set_cons_zero, List.set_cons_succ, Nat.reduceAdd, Nat.reduceSub, decide_eq_true_eq, if_true, if_false, Bool.false_eq_true, reduceIte, pick, List.filterMap_cons, List.filterMap_nil]
    have fin_ : ∀ Gx, Q (.bl true) Gx := q
    refine ⟨by decide, by decide, fun vv gvv => ?_⟩
    have nav : a ≠ vv := fun z => by
      obtain ⟨x, y, e⟩ := p9.1
      rw [z, gvv] at e
      cases e
    have rBd : ∀ d ∈ rows.map rowD, RowB d := fun d hd => by
      obtain ⟨ns, hn, rfl⟩ := List.mem_map.mp hd
      exact rB ns hn
    have vok0 : ∀ v ∈ [D.lst (rows.map rowD), .lst (cutD (rows.map rowD) none (some cutn)), .lst [], .tup (rows.map rowD)], VOk v := fun v hv => by
      simp only [List.mem_cons, List.not_mem_nil, or_false] at hv
      rcases hv with rfl | rfl | rfl | rfl
      · exact ⟨_, .inl rfl, rBd, by omega⟩
      · exact ⟨_, .inl rfl, fun d hd => rBd d (cutD_mem hd), by have := cutD_len (rows.map rowD) none (some cutn); omega⟩
      · exact ⟨_, .inl rfl, (fun d hd => nomatch hd), by decide⟩
      · exact ⟨_, .inr rfl, rBd, by omega⟩
    have pot10 : PotAt (updD G9 vv (.lst [D.lst (rows.map rowD), .lst (cutD (rows.map rowD) none (some cutn)), .lst [], .tup (rows.map rowD)])) a := by obtain ⟨x, y, e⟩ := p9.1; exact ⟨x, y, by rw [updD_ne nav]; exact e⟩
    generalize hvs : [D.lst (rows.map rowD), .lst (cutD (rows.map rowD) none (some cutn)), .lst [], .tup (rows.map rowD)] = vs0 at *
    have lv0 : vs0.length = 4 := by rw [← hvs]; rfl
    show (-(2 ^ 62 : Int) ≤ 6 ∧ (6 : Int) < 2 ^ 62) ∧ dLoop _ _ _ (rangeD 0 6) _ _ _
    refine ⟨by decide, ?_⟩
    refine loop_at (fun i δ Gi => ∃ vs : List D, (∃ x2 x3 x5 x7 x8 x9 x10, δ = [some (.ref a), some (ratsD rs), x2, x3, some (.lst (rows.map rowD)), x5, some (.ref vv), x7, x8, x9, x10]) ∧ Gi vv = some (.lst vs) ∧ PotAt Gi a ∧ vs.length = 4 + i ∧ ∀ v ∈ vs, VOk v) ?_ ?_ ⟨vs0, ⟨_, _, _, _, _, _, _, rfl⟩, updD_same, pot10, lv0, vok0⟩
    · rintro δ Gi ⟨vs, ⟨x2, x3, x5, x7, x8, x9, x10, rfl⟩, gv, pv, lv, vok⟩
      refine ⟨trivial, ?_⟩
      simp only [dSeq]
      unfold dFor
      refine items_var (i := 6) rfl (show seqOf Gi (.ref vv) = some vs by show trkL (Gi vv) = _; rw [gv]; rfl) ?_
      refine loop_at (fun i δ Gj => Gj = Gi ∧ ∃ y0 y2 y3 y4 y5 y6 y7 y8 y9 y10, δ = [y0, some (ratsD rs), y2, y3, y4, y5, y6, y7, y8, y9, y10]) ?_ ?_ ⟨rfl, _, _, _, _, _, _, _, _, _, _, rfl⟩
      · rintro δ Gj ⟨rfl, _⟩
        exact ⟨gv, fin_ _⟩
      · rintro i d δ Gj nx hd ⟨rfl, y0, y2, y3, y4, y5, y6, y7, y8, y9, y10, rfl⟩ hn
        refine ⟨gv, ?_⟩
        obtain ⟨es, hv, hB, hl3⟩ := vok d (List.mem_of_getElem? hd)
        have sqd : seqOf Gj d = some es := by rcases hv with rfl | rfl <;> rfl
        obtain ⟨ty, hty, hlt⟩ : ∃ ty, tyD Gj d = some ty ∧ isLstT ty = true := by
          rcases hv with rfl | rfl
          · exact ⟨"list", rfl, rfl⟩
          · exact ⟨"tuple", rfl, rfl⟩
        have shw : ∀ Qs : KD, Qs (.str (toP d).shown) Gj → cRepr [d] Gj Qs := fun Qs hq => repr_rows hv (fun x hx => (hB x hx).2) (by omega) hq
        try (simp only [startD, dRet, dRetN, dAndV, dOrV, dCB, dNotV, dCons, dNil, dVar, dC, dAnd, dOr, dNot, dTest, dBin, dUn, dChain, dIfS, dSeq, dAsg, eName, dPar, dPar3, dNext, dDrop, dNever, dCont, dBreak, dCall, dCallK, dTup, dLst, dLstM, dIf, dFor, dWhile, dItems, dRange1, dRange2, dEnum, dZip, dLc, dLcM, wipeD, eTup, eCons, eNil, eSub, dCut, dPart, dNoPart, dRev, dFld, dSetFld, dMake, dMeth, dBM, dDGet2, dDGet, dDIn, dDPut, dDNew, dDisp1, dLstRg2, bSub, bDiv, bMod, bPow, bLt, bLe, bGt, bGe, bI, bI0, bB0, bIsN, bNotN, VL.isNon, uNeg, List.map_cons, List.map_nil, List.length_cons, List.length_nil, List.replicate, List.cons_append, List.nil_append, List.getElem?_cons_zero, List.getElem?_cons_succ, List.set_cons_zero, List.set_cons_succ, Nat.reduceAdd, Nat.reduceSub, decide_eq_true_eq, if_true, if_false, Bool.false_eq_true, reduceIte, pick, List.filterMap_cons, List.filterMap_nil])
        refine shw _ ?_
        try (simp only [startD, dRet, dRetN, dAndV, dOrV, dCB, dNotV, dCons, dNil, dVar, dC, dAnd, dOr, dNot, dTest, dBin, dUn, dChain, dIfS, dSeq, dAsg, eName, dPar, dPar3, dNext, dDrop, dNever, dCont, dBreak, dCall, dCallK, dTup, dLst, dLstM, dIf, dFor, dWhile, dItems, dRange1, dRange2, dEnum, dZip, dLc, dLcM, wipeD, eTup, eCons, eNil, eSub, dCut, dPart, dNoPart, dRev, dFld, dSetFld, dMake, dMeth, dBM, dDGet2, dDGet, dDIn, dDPut, dDNew, dDisp1, dLstRg2, bSub, bDiv, bMod, bPow, bLt, bLe, bGt, bGe, bI, bI0, bB0, bIsN, bNotN, VL.isNon, uNeg, List.map_cons, List.map_nil, List.length_cons, List.length_nil, List.replicate, List.cons_append, List.nil_append, List.getElem?_cons_zero, List.getElem?_cons_succ, List.set_cons_zero, List.set_cons_succ, Nat.reduceAdd, Nat.reduceSub, decide_eq_true_eq, if_true, if_false, Bool.false_eq_true, reduceIte, pick, List.filterMap_cons, List.filterMap_nil])
        refine ⟨rs, U, d, es, ty, rfl, sqd, hty, hlt, h, fun x hx => (hB x hx).1, by omega, ?_⟩
        try (simp only [startD, dRet, dRetN, dAndV, dOrV, dCB, dNotV, dCons, dNil, dVar, dC, dAnd, dOr, dNot, dTest, dBin, dUn, dChain, dIfS, dSeq, dAsg, eName, dPar, dPar3, dNext, dDrop, dNever, dCont, dBreak, dCall, dCallK, dTup, dLst, dLstM, dIf, dFor, dWhile, dItems, dRange1, dRange2, dEnum, dZip, dLc, dLcM, wipeD, eTup, eCons, eNil, eSub, dCut, dPart, dNoPart, dRev, dFld, dSetFld, dMake, dMeth, dBM, dDGet2, dDGet, dDIn, dDPut, dDNew, dDisp1, dLstRg2, bSub, bDiv, bMod, bPow, bLt, bLe, bGt, bGe, bI, bI0, bB0, bIsN, bNotN, VL.isNon, uNeg, List.map_cons, List.map_nil, List.length_cons, List.length_nil, List.replicate, List.cons_append, List.nil_append, List.getElem?_cons_zero, List.getElem?_cons_succ, List.set_cons_zero, List.set_cons_succ, Nat.reduceAdd, Nat.reduceSub, decide_eq_true_eq, if_true, if_false, Bool.false_eq_true, reduceIte, pick, List.filterMap_cons, List.filterMap_nil])
        refine ⟨rs, U, d, es, rfl, hv, h, fun x hx => (hB x hx).1, by omega, ?_⟩
        try (simp only [startD, dRet, dRetN, dAndV, dOrV, dCB, dNotV, dCons, dNil, dVar, dC, dAnd, dOr, dNot, dTest, dBin, dUn, dChain, dIfS, dSeq, dAsg, eName, dPar, dPar3, dNext, dDrop, dNever, dCont, dBreak, dCall, dCallK, dTup, dLst, dLstM, dIf, dFor, dWhile, dItems, dRange1, dRange2, dEnum, dZip, dLc, dLcM, wipeD, eTup, eCons, eNil, eSub, dCut, dPart, dNoPart, dRev, dFld, dSetFld, dMake, dMeth, dBM, dDGet2, dDGet, dDIn, dDPut, dDNew, dDisp1, dLstRg2, bSub, bDiv, bMod, bPow, bLt, bLe, bGt, bGe, bI, bI0, bB0, bIsN, bNotN, VL.isNon, uNeg, List.map_cons, List.map_nil, List.length_cons, List.length_nil, List.replicate, List.cons_append, List.nil_append, List.getElem?_cons_zero, List.getElem?_cons_succ, List.set_cons_zero, List.set_cons_succ, Nat.reduceAdd, Nat.reduceSub, decide_eq_true_eq, if_true, if_false, Bool.false_eq_true, reduceIte, pick, List.filterMap_cons, List.filterMap_nil])
        refine ⟨rs, U, d, es, rfl, hv, h, fun x hx => (hB x hx).1, by omega, ?_⟩
        try (simp only [startD, dRet, dRetN, dAndV, dOrV, dCB, dNotV, dCons, dNil, dVar, dC, dAnd, dOr, dNot, dTest, dBin, dUn, dChain, dIfS, dSeq, dAsg, eName, dPar, dPar3, dNext, dDrop, dNever, dCont, dBreak, dCall, dCallK, dTup, dLst, dLstM, dIf, dFor, dWhile, dItems, dRange1, dRange2, dEnum, dZip, dLc, dLcM, wipeD, eTup, eCons, eNil, eSub, dCut, dPart, dNoPart, dRev, dFld, dSetFld, dMake, dMeth, dBM, dDGet2, dDGet, dDIn, dDPut, dDNew, dDisp1, dLstRg2, bSub, bDiv, bMod, bPow, bLt, bLe, bGt, bGe, bI, bI0, bB0, bIsN, bNotN, VL.isNon, uNeg, List.map_cons, List.map_nil, List.length_cons, List.length_nil, List.replicate, List.cons_append, List.nil_append, List.getElem?_cons_zero, List.getElem?_cons_succ, List.set_cons_zero, List.set_cons_succ, Nat.reduceAdd, Nat.reduceSub, decide_eq_true_eq, if_true, if_false, Bool.false_eq_true, reduceIte, pick, List.filterMap_cons, List.filterMap_nil])
        refine ⟨by decide, ?_⟩
        refine repr_rows (.inl rfl) (fun x hx => by
          simp only [List.mem_cons, List.not_mem_nil, or_false] at hx
          rcases hx with rfl | rfl <;> rfl) (by simp) ?_
        try (simp only [startD, dRet, dRetN, dAndV, dOrV, dCB, dNotV, dCons, dNil, dVar, dC, dAnd, dOr, dNot, dTest, dBin, dUn, dChain, dIfS, dSeq, dAsg, eName, dPar, dPar3, dNext, dDrop, dNever, dCont, dBreak, dCall, dCallK, dTup, dLst, dLstM, dIf, dFor, dWhile, dItems, dRange1, dRange2, dEnum, dZip, dLc, dLcM, wipeD, eTup, eCons, eNil, eSub, dCut, dPart, dNoPart, dRev, dFld, dSetFld, dMake, dMeth, dBM, dDGet2, dDGet, dDIn, dDPut, dDNew, dDisp1, dLstRg2, bSub, bDiv, bMod, bPow, bLt, bLe, bGt, bGe, bI, bI0, bB0, bIsN, bNotN, VL.isNon, uNeg, List.map_cons, List.map_nil, List.length_cons, List.length_nil, List.replicate, List.cons_append, List.nil_append, List.getElem?_cons_zero, List.getElem?_cons_succ, List.set_cons_zero, List.set_cons_succ, Nat.reduceAdd, Nat.reduceSub, decide_eq_true_eq, if_true, if_false, Bool.false_eq_true, reduceIte, pick, List.filterMap_cons, List.filterMap_nil])
        refine ⟨by decide, ?_⟩
        refine repr_rows (.inl rfl) (fun x hx => by
          simp only [List.mem_cons, List.not_mem_nil, or_false] at hx
          rcases hx with rfl | rfl <;> rfl) (by simp) ?_
        simp only [bNe, bEq, startD, dRet, dRetN, dAndV, dOrV, dCB, dNotV, dCons, dNil, dVar, dC, dAnd, dOr, dNot, dTest, dBin, dUn, dChain, dIfS, dSeq, dAsg, eName, dPar, dPar3, dNext, dDrop, dNever, dCont, dBreak, dCall, dCallK, dTup, dLst, dLstM, dIf, dFor, dWhile, dItems, dRange1, dRange2, dEnum, dZip, dLc, dLcM, wipeD, eTup, eCons, eNil, eSub, dCut, dPart, dNoPart, dRev, dFld, dSetFld, dMake, dMeth, dBM, dDGet2, dDGet, dDIn, dDPut, dDNew, dDisp1, dLstRg2, bSub, bDiv, bMod, bPow, bLt, bLe, bGt, bGe, bI, bI0, bB0, bIsN, bNotN, VL.isNon, uNeg, List.map_cons, List.map_nil, List.length_cons, List.length_nil, List.replicate, List.cons_append, List.nil_append, List.getElem?_cons_zero, List.getElem?_cons_succ, List.set_cons_zero, List.set_cons_succ, Nat.reduceAdd, Nat.reduceSub, decide_eq_true_eq, if_true, if_false, Bool.false_eq_true, reduceIte, pick, List.filterMap_cons, List.filterMap_nil]
        simp only [decide_true, Bool.not_true, Bool.false_eq_true, if_false]
        refine shw _ ?_
        simp only [bNe, bEq, startD, dRet, dRetN, dAndV, dOrV, dCB, dNotV, dCons, dNil, dVar, dC, dAnd, dOr, dNot, dTest, dBin, dUn, dChain, dIfS, dSeq, dAsg, eName, dPar, dPar3, dNext, dDrop, dNever, dCont, dBreak, dCall, dCallK, dTup, dLst, dLstM, dIf, dFor, dWhile, dItems, dRange1, dRange2, dEnum, dZip, dLc, dLcM, wipeD, eTup, eCons, eNil, eSub, dCut, dPart, dNoPart, dRev, dFld, dSetFld, dMake, dMeth, dBM, dDGet2, dDGet, dDIn, dDPut, dDNew, dDisp1, dLstRg2, bSub, bDiv, bMod, bPow, bLt, bLe, bGt, bGe, bI, bI0, bB0, bIsN, bNotN, VL.isNon, uNeg, List.map_cons, List.map_nil, List.length_cons, List.length_nil, List.replicate, List.cons_append, List.nil_append, List.getElem?_cons_zero, List.getElem?_cons_succ, List.set_cons_zero, List.set_cons_succ, Nat.reduceAdd, Nat.reduceSub, decide_eq_true_eq, if_true, if_false, Bool.false_eq_true, reduceIte, pick, List.filterMap_cons, List.filterMap_nil]
        simp only [decide_true, Bool.not_true, Bool.false_eq_true, if_false]
        exact hn _ _ ⟨rfl, _, _, _, _, _, _, _, _, _, _, rfl⟩
    · rintro i d δ Gi nx hd ⟨vs, ⟨x2, x3, x5, x7, x8, x9, x10, rfl⟩, gv, pv, lv, vok⟩ hn
      refine ⟨trivial, ?_⟩
      have hi6 : i < 6 := (List.getElem?_eq_some_iff.mp hd).1
      simp only [gv, startD, dRet, dRetN, dAndV, dOrV, dCB, dNotV, dCons, dNil, dVar, dC, dAnd, dOr, dNot, dTest, dBin, dUn, dChain, dIfS, dSeq, dAsg, eName, dPar, dPar3, dNext, dDrop, dNever, dCont, dBreak, dCall, dCallK, dTup, dLst, dLstM, dIf, dFor, dWhile, dItems, dRange1, dRange2, dEnum, dZip, dLc, dLcM, wipeD, eTup, eCons, eNil, eSub, dCut, dPart, dNoPart, dRev, dFld, dSetFld, dMake, dMeth, dBM, dDGet2, dDGet, dDIn, dDPut, dDNew, dDisp1, dLstRg2, bSub, bDiv, bMod, bPow, bLt, bLe, bGt, bGe, bI, bI0, bB0, bIsN, bNotN, VL.isNon, uNeg, List.map_cons, List.map_nil, List.length_cons, List.length_nil, List.replicate, List.cons_append, List.nil_append, List.getElem?_cons_zero, List.getElem?_cons_succ, List.set_cons_zero, List.set_cons_succ, Nat.reduceAdd, Nat.reduceSub, decide_eq_true_eq, if_true, if_false, Bool.false_eq_true, reduceIte, pick, List.filterMap_cons, List.filterMap_nil]
      refine ⟨⟨_, rfl⟩, a, rows, rfl, pv, by omega, fun ns hns => rowI_good h (tb.row ns hns), fun es G' hes les ps => ?_⟩
      have gv' : G' vv = some (.lst vs) := ps.2 vv _ (fun z => nav z.symm) gv
      simp only [mAppend, gv', startD, dRet, dRetN, dAndV, dOrV, dCB, dNotV, dCons, dNil, dVar, dC, dAnd, dOr, dNot, dTest, dBin, dUn, dChain, dIfS, dSeq, dAsg, eName, dPar, dPar3, dNext, dDrop, dNever, dCont, dBreak, dCall, dCallK, dTup, dLst, dLstM, dIf, dFor, dWhile, dItems, dRange1, dRange2, dEnum, dZip, dLc, dLcM, wipeD, eTup, eCons, eNil, eSub, dCut, dPart, dNoPart, dRev, dFld, dSetFld, dMake, dMeth, dBM, dDGet2, dDGet, dDIn, dDPut, dDNew, dDisp1, dLstRg2, bSub, bDiv, bMod, bPow, bLt, bLe, bGt, bGe, bI, bI0, bB0, bIsN, bNotN, VL.isNon, uNeg, List.map_cons, List.map_nil, List.length_cons, List.length_nil, List.replicate, List.cons_append, List.nil_append, List.getElem?_cons_zero, List.getElem?_cons_succ, List.set_cons_zero, List.set_cons_succ, Nat.reduceAdd, Nat.reduceSub, decide_eq_true_eq, if_true, if_false, Bool.false_eq_true, reduceIte, pick, List.filterMap_cons, List.filterMap_nil]
      refine ⟨by rw [sz]; omega, hn _ _ ⟨vs ++ [.lst es], ⟨_, _, _, _, _, _, _, rfl⟩, updD_same, ?_, by rw [List.length_append, List.length_singleton]; omega, fun v hv => ?_⟩⟩
      · obtain ⟨x, y, e⟩ := ps.1
        exact ⟨x, y, by rw [updD_ne nav]; exact e⟩
      · rcases List.mem_append.mp hv with z | z
        · exact vok v z
        · rw [List.mem_singleton.mp z]
          exact ⟨es, .inl rfl, hes, les⟩
theorem ok_law (T : Txt K mg) : FnA P w K mg base 9 T.f_law T.d_law ["script"] SLaw := by
  refine (w_law (k := 8) T (ok_right T) (VL.FnA.mono (k := 8) (ok_pot T) (by decide)) (by rintro ds G Q ⟨_, rfl, _⟩; rfl)).2 fun ds G Q h => ?_
  obtain ⟨ns, rfl, hl, q⟩ := h
  simp only [w_law, startD, dRet, dRetN, dAndV, dOrV, dCB, dNotV, dCons, dNil, dVar, dC, dAnd, dOr, dNot, dTest, dBin, dUn, dChain, dIfS, dSeq, dAsg, eName, dPar, dPar3, dNext, dDrop, dNever, dCont, dBreak, dCall, dCallK, dTup, dLst, dLstM, dIf, dFor, dWhile, dItems, dRange1, dRange2, dEnum, dZip, dLc, dLcM, wipeD, eTup, eCons, eNil, eSub, dCut, dPart, dNoPart, dRev, dFld, dSetFld, dMake, dMeth, dBM, dDGet2, dDGet, dDIn, dDPut, dDNew, dDisp1, dLstRg2, bSub, bDiv, bMod, bPow, bLt, bLe, bGt, bGe, bI, bI0, bB0, bIsN, bNotN, VL.isNon, uNeg, List.map_cons, List.map_nil, List.length_cons, List.length_nil, List.replicate, List.cons_append, List.nil_append, List.getElem?_cons_zero, List.getElem?_cons_succ, List.set_cons_zero, List.set_cons_succ, Nat.reduceAdd, Nat.reduceSub, decide_eq_true_eq, if_true, if_false, Bool.false_eq_true, reduceIte, pick, List.filterMap_cons, List.filterMap_nil]
  refine ⟨ns, rfl, hl, fun a G' hp => ?_⟩
  exact ⟨a, rfl, hp, q⟩
theorem law_fn (T : Txt K mg) : FnA P w K mg base 30 T.f_law T.d_law ["script"] SLaw := VL.FnA.mono (ok_law T) (by decide)
theorem law_holds : ∀ ns : List Int, ns.length ≤ 63 → (∀ z ∈ ns, Builtin.Int.intBits z ≤ 1048576) → SLaw [.ro (ns.map .int)] (fun _ => none) fun d _ => d = .bl true := fun ns hl _ => ⟨ns, rfl, hl, fun _ => rfl⟩
end
end K84
section
open PySem PySem.W PyProof.Rows
set_option Elab.async false
set_option maxRecDepth 100000
set_option maxHeartbeats 0
open_top head84 for PySem.Challenge.rw_carryoffice_k84_whole_rounds_at_once

end
set_option Elab.async false
set_option linter.all false
set_option maxRecDepth 100000
set_option maxHeartbeats 4000000
namespace K84
open PySem L2 VL
theorem int_read {h : Heap} {v : Value} {n : Int} {as : List Addr} (r : PySem.W.ReadsLit h v (.int n) as) : ∃ t, v = .int n t := by
  cases r; exact ⟨_, rfl⟩
theorem law_end {l : PySem.W.OpenLaw} {w : World} {K : PySem.W.Frag} {mg : Str → Option Value} {fa : Addr} (h : ∃ T : Txt K mg, T.f_law = fa ∧ ∀ (s : Shared) (v : Value), BindsTo s T.d_law ⟨[v], []⟩ [("script", v)]) :
    ∃ fd : FuncData, (∀ (s : Shared) (u : Value), BindsTo s fd ⟨[u], []⟩ [("script", u)]) ∧ ∀ base : Heap, K.In base → base.Ns mainGlobals mg → FnA l.prog w K mg base 30 fa fd ["script"] SLaw := by
  obtain ⟨T, rfl, hb⟩ := h
  exact ⟨T.d_law, hb, fun base _ _ => law_fn T⟩
theorem all_mk {K : PySem.W.Frag} {h : Heap} {mg : Str → Option Value} {fa : Addr} (X : K.In h) (G : h.Ns mainGlobals mg) (hfa : mg "law" = some (.ref fa))
    {C_Spread : Addr}
    {tk_BEYOND : Tok}
    (m_BEYOND : mg "BEYOND" = some (.int 10000000000000000000000000000000000000000000000000000000000000000000000000000000000000000000000000000000000000000000000000000000000000000000000000000000000000000000000000000000000000000000000000000000000000000000000000000000000000000000000000000000000000000000000000000000000000000000000000000000000000000000000000000000000000000000000000000000000000000000000000000000000000000000000000000000000000000 tk_BEYOND))
    {tk_MOST_CELLS : Tok}
    {tk_MOST_ROUNDS : Tok}
    {tk_MOST_SHARES : Tok}
    (aC_Spread : PySem.W.nsIn K mainGlobals "Spread" = some (some (.ref C_Spread)))
    (pg_Spread : PySem.W.plainGet K C_Spread Str.empty = true)
    (hd_Spread : PySem.W.hasDictIn K C_Spread = true)
    (po_Spread : PySem.W.plainOver K C_Spread = true)
    (sa_Spread : PySem.W.findIn K (.ref C_Spread) "__setattr__" = some (some (.builtin "object.__setattr__")))
    (mk_Spread : PySem.W.makesIn K C_Spread = true)
    (kc_Spread : PySem.W.keepIn K (.ref C_Spread) = true)
    {f_is_integer : Addr} {oc_is_integer kV_is_integer dc_is_integer pm_is_integer cd_is_integer ct_is_integer : Value} {od_is_integer an_is_integer : Option Addr} {sl_is_integer : Array (Option Value)}
    (a_is_integer : PySem.W.nsIn K mainGlobals "is_integer" = some (some (.ref f_is_integer)))
    (l_is_integer : K.lookup f_is_integer = some ⟨oc_is_integer, od_is_integer, .func (PySem.W.fnOf "is_integer" "is_integer" (defArgs t_is_integer) (defBody t_is_integer) (defScope t_is_integer) .none kV_is_integer dc_is_integer pm_is_integer an_is_integer cd_is_integer ct_is_integer), sl_is_integer⟩)
    (c_is_integer : PySem.W.codeIn K cd_is_integer "is_integer" = true)
    (k_is_integer : PySem.W.keepIn K (.ref f_is_integer) = true)
    {f_is_count : Addr} {oc_is_count kV_is_count dc_is_count pm_is_count cd_is_count ct_is_count : Value} {od_is_count an_is_count : Option Addr} {sl_is_count : Array (Option Value)}
    (a_is_count : PySem.W.nsIn K mainGlobals "is_count" = some (some (.ref f_is_count)))
    (l_is_count : K.lookup f_is_count = some ⟨oc_is_count, od_is_count, .func (PySem.W.fnOf "is_count" "is_count" (defArgs t_is_count) (defBody t_is_count) (defScope t_is_count) .none kV_is_count dc_is_count pm_is_count an_is_count cd_is_count ct_is_count), sl_is_count⟩)
    (c_is_count : PySem.W.codeIn K cd_is_count "is_count" = true)
    (k_is_count : PySem.W.keepIn K (.ref f_is_count) = true)
    {f_is_list : Addr} {oc_is_list kV_is_list dc_is_list pm_is_list cd_is_list ct_is_list : Value} {od_is_list an_is_list : Option Addr} {sl_is_list : Array (Option Value)}
    (a_is_list : PySem.W.nsIn K mainGlobals "is_list" = some (some (.ref f_is_list)))
    (l_is_list : K.lookup f_is_list = some ⟨oc_is_list, od_is_list, .func (PySem.W.fnOf "is_list" "is_list" (defArgs t_is_list) (defBody t_is_list) (defScope t_is_list) .none kV_is_list dc_is_list pm_is_list an_is_list cd_is_list ct_is_list), sl_is_list⟩)
    (c_is_list : PySem.W.codeIn K cd_is_list "is_list" = true)
    (k_is_list : PySem.W.keepIn K (.ref f_is_list) = true)
    {f_is_row : Addr} {oc_is_row kV_is_row dc_is_row pm_is_row cd_is_row ct_is_row : Value} {od_is_row an_is_row : Option Addr} {sl_is_row : Array (Option Value)}
    (a_is_row : PySem.W.nsIn K mainGlobals "is_row" = some (some (.ref f_is_row)))
    (l_is_row : K.lookup f_is_row = some ⟨oc_is_row, od_is_row, .func (PySem.W.fnOf "is_row" "is_row" (defArgs t_is_row) (defBody t_is_row) (defScope t_is_row) .none kV_is_row dc_is_row pm_is_row an_is_row cd_is_row ct_is_row), sl_is_row⟩)
    (c_is_row : PySem.W.codeIn K cd_is_row "is_row" = true)
    (k_is_row : PySem.W.keepIn K (.ref f_is_row) = true)
    {f_want_at_most : Addr} {oc_want_at_most kV_want_at_most dc_want_at_most pm_want_at_most cd_want_at_most ct_want_at_most : Value} {od_want_at_most an_want_at_most : Option Addr} {sl_want_at_most : Array (Option Value)}
    (a_want_at_most : PySem.W.nsIn K mainGlobals "want_at_most" = some (some (.ref f_want_at_most)))
    (l_want_at_most : K.lookup f_want_at_most = some ⟨oc_want_at_most, od_want_at_most, .func (PySem.W.fnOf "want_at_most" "want_at_most" (defArgs t_want_at_most) (defBody t_want_at_most) (defScope t_want_at_most) .none kV_want_at_most dc_want_at_most pm_want_at_most an_want_at_most cd_want_at_most ct_want_at_most), sl_want_at_most⟩)
    (c_want_at_most : PySem.W.codeIn K cd_want_at_most "want_at_most" = true)
    (k_want_at_most : PySem.W.keepIn K (.ref f_want_at_most) = true)
    {f_is_ratio : Addr} {oc_is_ratio kV_is_ratio dc_is_ratio pm_is_ratio cd_is_ratio ct_is_ratio : Value} {od_is_ratio an_is_ratio : Option Addr} {sl_is_ratio : Array (Option Value)}
    (a_is_ratio : PySem.W.nsIn K mainGlobals "is_ratio" = some (some (.ref f_is_ratio)))
    (l_is_ratio : K.lookup f_is_ratio = some ⟨oc_is_ratio, od_is_ratio, .func (PySem.W.fnOf "is_ratio" "is_ratio" (defArgs t_is_ratio) (defBody t_is_ratio) (defScope t_is_ratio) .none kV_is_ratio dc_is_ratio pm_is_ratio an_is_ratio cd_is_ratio ct_is_ratio), sl_is_ratio⟩)
    (c_is_ratio : PySem.W.codeIn K cd_is_ratio "is_ratio" = true)
    (k_is_ratio : PySem.W.keepIn K (.ref f_is_ratio) = true)
    {f_common_part : Addr} {oc_common_part kV_common_part dc_common_part pm_common_part cd_common_part ct_common_part : Value} {od_common_part an_common_part : Option Addr} {sl_common_part : Array (Option Value)}
    (a_common_part : PySem.W.nsIn K mainGlobals "common_part" = some (some (.ref f_common_part)))
    (l_common_part : K.lookup f_common_part = some ⟨oc_common_part, od_common_part, .func (PySem.W.fnOf "common_part" "common_part" (defArgs t_common_part) (defBody t_common_part) (defScope t_common_part) .none kV_common_part dc_common_part pm_common_part an_common_part cd_common_part ct_common_part), sl_common_part⟩)
    (c_common_part : PySem.W.codeIn K cd_common_part "common_part" = true)
    (k_common_part : PySem.W.keepIn K (.ref f_common_part) = true)
    {f_common_under : Addr} {oc_common_under kV_common_under dc_common_under pm_common_under cd_common_under ct_common_under : Value} {od_common_under an_common_under : Option Addr} {sl_common_under : Array (Option Value)}
    (a_common_under : PySem.W.nsIn K mainGlobals "common_under" = some (some (.ref f_common_under)))
    (l_common_under : K.lookup f_common_under = some ⟨oc_common_under, od_common_under, .func (PySem.W.fnOf "common_under" "common_under" (defArgs t_common_under) (defBody t_common_under) (defScope t_common_under) .none kV_common_under dc_common_under pm_common_under an_common_under cd_common_under ct_common_under), sl_common_under⟩)
    (c_common_under : PySem.W.codeIn K cd_common_under "common_under" = true)
    (k_common_under : PySem.W.keepIn K (.ref f_common_under) = true)
    {f_total_over : Addr} {oc_total_over kV_total_over dc_total_over pm_total_over cd_total_over ct_total_over : Value} {od_total_over an_total_over : Option Addr} {sl_total_over : Array (Option Value)}
    (a_total_over : PySem.W.nsIn K mainGlobals "total_over" = some (some (.ref f_total_over)))
    (l_total_over : K.lookup f_total_over = some ⟨oc_total_over, od_total_over, .func (PySem.W.fnOf "total_over" "total_over" (defArgs t_total_over) (defBody t_total_over) (defScope t_total_over) .none kV_total_over dc_total_over pm_total_over an_total_over cd_total_over ct_total_over), sl_total_over⟩)
    (c_total_over : PySem.W.codeIn K cd_total_over "total_over" = true)
    (k_total_over : PySem.W.keepIn K (.ref f_total_over) = true)
    {f_want_many : Addr} {oc_want_many kV_want_many dc_want_many pm_want_many cd_want_many ct_want_many : Value} {od_want_many an_want_many : Option Addr} {sl_want_many : Array (Option Value)}
    (a_want_many : PySem.W.nsIn K mainGlobals "want_many" = some (some (.ref f_want_many)))
    (l_want_many : K.lookup f_want_many = some ⟨oc_want_many, od_want_many, .func (PySem.W.fnOf "want_many" "want_many" (defArgs t_want_many) (defBody t_want_many) (defScope t_want_many) .none kV_want_many dc_want_many pm_want_many an_want_many cd_want_many ct_want_many), sl_want_many⟩)
    (c_want_many : PySem.W.codeIn K cd_want_many "want_many" = true)
    (k_want_many : PySem.W.keepIn K (.ref f_want_many) = true)
    {f_are_ratios_above : Addr} {oc_are_ratios_above kV_are_ratios_above dc_are_ratios_above pm_are_ratios_above cd_are_ratios_above ct_are_ratios_above : Value} {od_are_ratios_above an_are_ratios_above : Option Addr} {sl_are_ratios_above : Array (Option Value)}
    (a_are_ratios_above : PySem.W.nsIn K mainGlobals "are_ratios_above" = some (some (.ref f_are_ratios_above)))
    (l_are_ratios_above : K.lookup f_are_ratios_above = some ⟨oc_are_ratios_above, od_are_ratios_above, .func (PySem.W.fnOf "are_ratios_above" "are_ratios_above" (defArgs t_are_ratios_above) (defBody t_are_ratios_above) (defScope t_are_ratios_above) .none kV_are_ratios_above dc_are_ratios_above pm_are_ratios_above an_are_ratios_above cd_are_ratios_above ct_are_ratios_above), sl_are_ratios_above⟩)
    (c_are_ratios_above : PySem.W.codeIn K cd_are_ratios_above "are_ratios_above" = true)
    (k_are_ratios_above : PySem.W.keepIn K (.ref f_are_ratios_above) = true)
    {f_window_begin : Addr} {oc_window_begin kV_window_begin dc_window_begin pm_window_begin cd_window_begin ct_window_begin : Value} {od_window_begin an_window_begin : Option Addr} {sl_window_begin : Array (Option Value)}
    (a_window_begin : PySem.W.nsIn K mainGlobals "window_begin" = some (some (.ref f_window_begin)))
    (l_window_begin : K.lookup f_window_begin = some ⟨oc_window_begin, od_window_begin, .func (PySem.W.fnOf "window_begin" "window_begin" (defArgs t_window_begin) (defBody t_window_begin) (defScope t_window_begin) .none kV_window_begin dc_window_begin pm_window_begin an_window_begin cd_window_begin ct_window_begin), sl_window_begin⟩)
    (c_window_begin : PySem.W.codeIn K cd_window_begin "window_begin" = true)
    (k_window_begin : PySem.W.keepIn K (.ref f_window_begin) = true)
    {f_window_end : Addr} {oc_window_end kV_window_end dc_window_end pm_window_end cd_window_end ct_window_end : Value} {od_window_end an_window_end : Option Addr} {sl_window_end : Array (Option Value)}
    (a_window_end : PySem.W.nsIn K mainGlobals "window_end" = some (some (.ref f_window_end)))
    (l_window_end : K.lookup f_window_end = some ⟨oc_window_end, od_window_end, .func (PySem.W.fnOf "window_end" "window_end" (defArgs t_window_end) (defBody t_window_end) (defScope t_window_end) .none kV_window_end dc_window_end pm_window_end an_window_end cd_window_end ct_window_end), sl_window_end⟩)
    (c_window_end : PySem.W.codeIn K cd_window_end "window_end" = true)
    (k_window_end : PySem.W.keepIn K (.ref f_window_end) = true)
    {f_are_whole_ratios : Addr} {oc_are_whole_ratios kV_are_whole_ratios dc_are_whole_ratios pm_are_whole_ratios cd_are_whole_ratios ct_are_whole_ratios : Value} {od_are_whole_ratios an_are_whole_ratios : Option Addr} {sl_are_whole_ratios : Array (Option Value)}
    (a_are_whole_ratios : PySem.W.nsIn K mainGlobals "are_whole_ratios" = some (some (.ref f_are_whole_ratios)))
    (l_are_whole_ratios : K.lookup f_are_whole_ratios = some ⟨oc_are_whole_ratios, od_are_whole_ratios, .func (PySem.W.fnOf "are_whole_ratios" "are_whole_ratios" (defArgs t_are_whole_ratios) (defBody t_are_whole_ratios) (defScope t_are_whole_ratios) .none kV_are_whole_ratios dc_are_whole_ratios pm_are_whole_ratios an_are_whole_ratios cd_are_whole_ratios ct_are_whole_ratios), sl_are_whole_ratios⟩)
    (c_are_whole_ratios : PySem.W.codeIn K cd_are_whole_ratios "are_whole_ratios" = true)
    (k_are_whole_ratios : PySem.W.keepIn K (.ref f_are_whole_ratios) = true)
    {f_want_ratios : Addr} {oc_want_ratios kV_want_ratios dc_want_ratios pm_want_ratios cd_want_ratios ct_want_ratios : Value} {od_want_ratios an_want_ratios : Option Addr} {sl_want_ratios : Array (Option Value)}
    (a_want_ratios : PySem.W.nsIn K mainGlobals "want_ratios" = some (some (.ref f_want_ratios)))
    (l_want_ratios : K.lookup f_want_ratios = some ⟨oc_want_ratios, od_want_ratios, .func (PySem.W.fnOf "want_ratios" "want_ratios" (defArgs t_want_ratios) (defBody t_want_ratios) (defScope t_want_ratios) .none kV_want_ratios dc_want_ratios pm_want_ratios an_want_ratios cd_want_ratios ct_want_ratios), sl_want_ratios⟩)
    (c_want_ratios : PySem.W.codeIn K cd_want_ratios "want_ratios" = true)
    (k_want_ratios : PySem.W.keepIn K (.ref f_want_ratios) = true)
    {f_sum_of : Addr} {oc_sum_of kV_sum_of dc_sum_of pm_sum_of cd_sum_of ct_sum_of : Value} {od_sum_of an_sum_of : Option Addr} {sl_sum_of : Array (Option Value)}
    (a_sum_of : PySem.W.nsIn K mainGlobals "sum_of" = some (some (.ref f_sum_of)))
    (l_sum_of : K.lookup f_sum_of = some ⟨oc_sum_of, od_sum_of, .func (PySem.W.fnOf "sum_of" "sum_of" (defArgs t_sum_of) (defBody t_sum_of) (defScope t_sum_of) .none kV_sum_of dc_sum_of pm_sum_of an_sum_of cd_sum_of ct_sum_of), sl_sum_of⟩)
    (c_sum_of : PySem.W.codeIn K cd_sum_of "sum_of" = true)
    (k_sum_of : PySem.W.keepIn K (.ref f_sum_of) = true)
    {f_spread : Addr} {oc_spread kV_spread dc_spread pm_spread cd_spread ct_spread : Value} {od_spread an_spread : Option Addr} {sl_spread : Array (Option Value)}
    (a_spread : PySem.W.nsIn K mainGlobals "spread" = some (some (.ref f_spread)))
    (l_spread : K.lookup f_spread = some ⟨oc_spread, od_spread, .func (PySem.W.fnOf "spread" "spread" (defArgs t_spread) (defBody t_spread) (defScope t_spread) .none kV_spread dc_spread pm_spread an_spread cd_spread ct_spread), sl_spread⟩)
    (c_spread : PySem.W.codeIn K cd_spread "spread" = true)
    (k_spread : PySem.W.keepIn K (.ref f_spread) = true)
    {f_rounds_of : Addr} {oc_rounds_of kV_rounds_of dc_rounds_of pm_rounds_of cd_rounds_of ct_rounds_of : Value} {od_rounds_of an_rounds_of : Option Addr} {sl_rounds_of : Array (Option Value)}
    (a_rounds_of : PySem.W.nsIn K mainGlobals "rounds_of" = some (some (.ref f_rounds_of)))
    (l_rounds_of : K.lookup f_rounds_of = some ⟨oc_rounds_of, od_rounds_of, .func (PySem.W.fnOf "rounds_of" "rounds_of" (defArgs t_rounds_of) (defBody t_rounds_of) (defScope t_rounds_of) .none kV_rounds_of dc_rounds_of pm_rounds_of an_rounds_of cd_rounds_of ct_rounds_of), sl_rounds_of⟩)
    (c_rounds_of : PySem.W.codeIn K cd_rounds_of "rounds_of" = true)
    (k_rounds_of : PySem.W.keepIn K (.ref f_rounds_of) = true)
    {f_is_round : Addr} {oc_is_round kV_is_round dc_is_round pm_is_round cd_is_round ct_is_round : Value} {od_is_round an_is_round : Option Addr} {sl_is_round : Array (Option Value)}
    (a_is_round : PySem.W.nsIn K mainGlobals "is_round" = some (some (.ref f_is_round)))
    (l_is_round : K.lookup f_is_round = some ⟨oc_is_round, od_is_round, .func (PySem.W.fnOf "is_round" "is_round" (defArgs t_is_round) (defBody t_is_round) (defScope t_is_round) .none kV_is_round dc_is_round pm_is_round an_is_round cd_is_round ct_is_round), sl_is_round⟩)
    (c_is_round : PySem.W.codeIn K cd_is_round "is_round" = true)
    (k_is_round : PySem.W.keepIn K (.ref f_is_round) = true)
    {f_is_rounds : Addr} {oc_is_rounds kV_is_rounds dc_is_rounds pm_is_rounds cd_is_rounds ct_is_rounds : Value} {od_is_rounds an_is_rounds : Option Addr} {sl_is_rounds : Array (Option Value)}
    (a_is_rounds : PySem.W.nsIn K mainGlobals "is_rounds" = some (some (.ref f_is_rounds)))
    (l_is_rounds : K.lookup f_is_rounds = some ⟨oc_is_rounds, od_is_rounds, .func (PySem.W.fnOf "is_rounds" "is_rounds" (defArgs t_is_rounds) (defBody t_is_rounds) (defScope t_is_rounds) .none kV_is_rounds dc_is_rounds pm_is_rounds an_is_rounds cd_is_rounds ct_is_rounds), sl_is_rounds⟩)
    (c_is_rounds : PySem.W.codeIn K cd_is_rounds "is_rounds" = true)
    (k_is_rounds : PySem.W.keepIn K (.ref f_is_rounds) = true)
    {f__law_pot : Addr} {oc__law_pot kV__law_pot dc__law_pot pm__law_pot cd__law_pot ct__law_pot : Value} {od__law_pot an__law_pot : Option Addr} {sl__law_pot : Array (Option Value)}
    (a__law_pot : PySem.W.nsIn K mainGlobals "_law_pot" = some (some (.ref f__law_pot)))
    (l__law_pot : K.lookup f__law_pot = some ⟨oc__law_pot, od__law_pot, .func (PySem.W.fnOf "_law_pot" "_law_pot" (defArgs t__law_pot) (defBody t__law_pot) (defScope t__law_pot) .none kV__law_pot dc__law_pot pm__law_pot an__law_pot cd__law_pot ct__law_pot), sl__law_pot⟩)
    (c__law_pot : PySem.W.codeIn K cd__law_pot "_law_pot" = true)
    (k__law_pot : PySem.W.keepIn K (.ref f__law_pot) = true)
    {f__law_draw : Addr} {oc__law_draw kV__law_draw dc__law_draw pm__law_draw cd__law_draw ct__law_draw : Value} {od__law_draw an__law_draw : Option Addr} {sl__law_draw : Array (Option Value)}
    (a__law_draw : PySem.W.nsIn K mainGlobals "_law_draw" = some (some (.ref f__law_draw)))
    (l__law_draw : K.lookup f__law_draw = some ⟨oc__law_draw, od__law_draw, .func (PySem.W.fnOf "_law_draw" "_law_draw" (defArgs t__law_draw) (defBody t__law_draw) (defScope t__law_draw) .none kV__law_draw dc__law_draw pm__law_draw an__law_draw cd__law_draw ct__law_draw), sl__law_draw⟩)
    (c__law_draw : PySem.W.codeIn K cd__law_draw "_law_draw" = true)
    (k__law_draw : PySem.W.keepIn K (.ref f__law_draw) = true)
    {f__law_pick : Addr} {oc__law_pick kV__law_pick dc__law_pick pm__law_pick cd__law_pick ct__law_pick : Value} {od__law_pick an__law_pick : Option Addr} {sl__law_pick : Array (Option Value)}
    (a__law_pick : PySem.W.nsIn K mainGlobals "_law_pick" = some (some (.ref f__law_pick)))
    (l__law_pick : K.lookup f__law_pick = some ⟨oc__law_pick, od__law_pick, .func (PySem.W.fnOf "_law_pick" "_law_pick" (defArgs t__law_pick) (defBody t__law_pick) (defScope t__law_pick) .none kV__law_pick dc__law_pick pm__law_pick an__law_pick cd__law_pick ct__law_pick), sl__law_pick⟩)
    (c__law_pick : PySem.W.codeIn K cd__law_pick "_law_pick" = true)
    (k__law_pick : PySem.W.keepIn K (.ref f__law_pick) = true)
    {f__law_low : Addr} {oc__law_low kV__law_low dc__law_low pm__law_low cd__law_low ct__law_low : Value} {od__law_low an__law_low : Option Addr} {sl__law_low : Array (Option Value)}
    (a__law_low : PySem.W.nsIn K mainGlobals "_law_low" = some (some (.ref f__law_low)))
    (l__law_low : K.lookup f__law_low = some ⟨oc__law_low, od__law_low, .func (PySem.W.fnOf "_law_low" "_law_low" (defArgs t__law_low) (defBody t__law_low) (defScope t__law_low) .none kV__law_low dc__law_low pm__law_low an__law_low cd__law_low ct__law_low), sl__law_low⟩)
    (c__law_low : PySem.W.codeIn K cd__law_low "_law_low" = true)
    (k__law_low : PySem.W.keepIn K (.ref f__law_low) = true)
    {f__law_sum : Addr} {oc__law_sum kV__law_sum dc__law_sum pm__law_sum cd__law_sum ct__law_sum : Value} {od__law_sum an__law_sum : Option Addr} {sl__law_sum : Array (Option Value)}
    (a__law_sum : PySem.W.nsIn K mainGlobals "_law_sum" = some (some (.ref f__law_sum)))
    (l__law_sum : K.lookup f__law_sum = some ⟨oc__law_sum, od__law_sum, .func (PySem.W.fnOf "_law_sum" "_law_sum" (defArgs t__law_sum) (defBody t__law_sum) (defScope t__law_sum) .none kV__law_sum dc__law_sum pm__law_sum an__law_sum cd__law_sum ct__law_sum), sl__law_sum⟩)
    (c__law_sum : PySem.W.codeIn K cd__law_sum "_law_sum" = true)
    (k__law_sum : PySem.W.keepIn K (.ref f__law_sum) = true)
    {f__law_ratios : Addr} {oc__law_ratios kV__law_ratios dc__law_ratios pm__law_ratios cd__law_ratios ct__law_ratios : Value} {od__law_ratios an__law_ratios : Option Addr} {sl__law_ratios : Array (Option Value)}
    (a__law_ratios : PySem.W.nsIn K mainGlobals "_law_ratios" = some (some (.ref f__law_ratios)))
    (l__law_ratios : K.lookup f__law_ratios = some ⟨oc__law_ratios, od__law_ratios, .func (PySem.W.fnOf "_law_ratios" "_law_ratios" (defArgs t__law_ratios) (defBody t__law_ratios) (defScope t__law_ratios) .none kV__law_ratios dc__law_ratios pm__law_ratios an__law_ratios cd__law_ratios ct__law_ratios), sl__law_ratios⟩)
    (c__law_ratios : PySem.W.codeIn K cd__law_ratios "_law_ratios" = true)
    (k__law_ratios : PySem.W.keepIn K (.ref f__law_ratios) = true)
    {f__law_is_round : Addr} {oc__law_is_round kV__law_is_round dc__law_is_round pm__law_is_round cd__law_is_round ct__law_is_round : Value} {od__law_is_round an__law_is_round : Option Addr} {sl__law_is_round : Array (Option Value)}
    (a__law_is_round : PySem.W.nsIn K mainGlobals "_law_is_round" = some (some (.ref f__law_is_round)))
    (l__law_is_round : K.lookup f__law_is_round = some ⟨oc__law_is_round, od__law_is_round, .func (PySem.W.fnOf "_law_is_round" "_law_is_round" (defArgs t__law_is_round) (defBody t__law_is_round) (defScope t__law_is_round) .none kV__law_is_round dc__law_is_round pm__law_is_round an__law_is_round cd__law_is_round ct__law_is_round), sl__law_is_round⟩)
    (c__law_is_round : PySem.W.codeIn K cd__law_is_round "_law_is_round" = true)
    (k__law_is_round : PySem.W.keepIn K (.ref f__law_is_round) = true)
    {f__law_is_table : Addr} {oc__law_is_table kV__law_is_table dc__law_is_table pm__law_is_table cd__law_is_table ct__law_is_table : Value} {od__law_is_table an__law_is_table : Option Addr} {sl__law_is_table : Array (Option Value)}
    (a__law_is_table : PySem.W.nsIn K mainGlobals "_law_is_table" = some (some (.ref f__law_is_table)))
    (l__law_is_table : K.lookup f__law_is_table = some ⟨oc__law_is_table, od__law_is_table, .func (PySem.W.fnOf "_law_is_table" "_law_is_table" (defArgs t__law_is_table) (defBody t__law_is_table) (defScope t__law_is_table) .none kV__law_is_table dc__law_is_table pm__law_is_table an__law_is_table cd__law_is_table ct__law_is_table), sl__law_is_table⟩)
    (c__law_is_table : PySem.W.codeIn K cd__law_is_table "_law_is_table" = true)
    (k__law_is_table : PySem.W.keepIn K (.ref f__law_is_table) = true)
    {f__law_bent : Addr} {oc__law_bent kV__law_bent dc__law_bent pm__law_bent cd__law_bent ct__law_bent : Value} {od__law_bent an__law_bent : Option Addr} {sl__law_bent : Array (Option Value)}
    (a__law_bent : PySem.W.nsIn K mainGlobals "_law_bent" = some (some (.ref f__law_bent)))
    (l__law_bent : K.lookup f__law_bent = some ⟨oc__law_bent, od__law_bent, .func (PySem.W.fnOf "_law_bent" "_law_bent" (defArgs t__law_bent) (defBody t__law_bent) (defScope t__law_bent) .none kV__law_bent dc__law_bent pm__law_bent an__law_bent cd__law_bent ct__law_bent), sl__law_bent⟩)
    (c__law_bent : PySem.W.codeIn K cd__law_bent "_law_bent" = true)
    (k__law_bent : PySem.W.keepIn K (.ref f__law_bent) = true)
    {f__law_right : Addr} {oc__law_right kV__law_right dc__law_right pm__law_right cd__law_right ct__law_right : Value} {od__law_right an__law_right : Option Addr} {sl__law_right : Array (Option Value)}
    (a__law_right : PySem.W.nsIn K mainGlobals "_law_right" = some (some (.ref f__law_right)))
    (l__law_right : K.lookup f__law_right = some ⟨oc__law_right, od__law_right, .func (PySem.W.fnOf "_law_right" "_law_right" (defArgs t__law_right) (defBody t__law_right) (defScope t__law_right) .none kV__law_right dc__law_right pm__law_right an__law_right cd__law_right ct__law_right), sl__law_right⟩)
    (c__law_right : PySem.W.codeIn K cd__law_right "_law_right" = true)
    (k__law_right : PySem.W.keepIn K (.ref f__law_right) = true)
    {f_law : Addr} {oc_law kV_law dc_law pm_law cd_law ct_law : Value} {od_law an_law : Option Addr} {sl_law : Array (Option Value)}
    (a_law : PySem.W.nsIn K mainGlobals "law" = some (some (.ref f_law)))
    (l_law : K.lookup f_law = some ⟨oc_law, od_law, .func (PySem.W.fnOf "law" "law" (defArgs t_law) (defBody t_law) (defScope t_law) .none kV_law dc_law pm_law an_law cd_law ct_law), sl_law⟩)
    (c_law : PySem.W.codeIn K cd_law "law" = true)
    (k_law : PySem.W.keepIn K (.ref f_law) = true)
    {f_Spread___init__ : Addr} {oc_Spread___init__ kV_Spread___init__ dc_Spread___init__ pm_Spread___init__ cd_Spread___init__ ct_Spread___init__ : Value} {od_Spread___init__ an_Spread___init__ : Option Addr} {sl_Spread___init__ : Array (Option Value)}
    (a_Spread___init__ : PySem.W.findIn K (.ref C_Spread) "__init__" = some (some (.ref f_Spread___init__)))
    (i_Spread___init__ : PySem.W.isFn K (.ref f_Spread___init__) = true)
    (l_Spread___init__ : K.lookup f_Spread___init__ = some ⟨oc_Spread___init__, od_Spread___init__, .func (PySem.W.fnOf "__init__" "Spread.__init__" (defArgs t_Spread___init__) (defBody t_Spread___init__) (defScope t_Spread___init__) .none kV_Spread___init__ dc_Spread___init__ pm_Spread___init__ an_Spread___init__ cd_Spread___init__ ct_Spread___init__), sl_Spread___init__⟩)
    (c_Spread___init__ : PySem.W.codeIn K cd_Spread___init__ "Spread.__init__" = true)
    (k_Spread___init__ : PySem.W.keepIn K (.ref f_Spread___init__) = true)
    {f_Spread_pieces : Addr} {oc_Spread_pieces kV_Spread_pieces dc_Spread_pieces pm_Spread_pieces cd_Spread_pieces ct_Spread_pieces : Value} {od_Spread_pieces an_Spread_pieces : Option Addr} {sl_Spread_pieces : Array (Option Value)}
    (a_Spread_pieces : PySem.W.findIn K (.ref C_Spread) "pieces" = some (some (.ref f_Spread_pieces)))
    (i_Spread_pieces : PySem.W.isFn K (.ref f_Spread_pieces) = true)
    (l_Spread_pieces : K.lookup f_Spread_pieces = some ⟨oc_Spread_pieces, od_Spread_pieces, .func (PySem.W.fnOf "pieces" "Spread.pieces" (defArgs t_Spread_pieces) (defBody t_Spread_pieces) (defScope t_Spread_pieces) .none kV_Spread_pieces dc_Spread_pieces pm_Spread_pieces an_Spread_pieces cd_Spread_pieces ct_Spread_pieces), sl_Spread_pieces⟩)
    (c_Spread_pieces : PySem.W.codeIn K cd_Spread_pieces "Spread.pieces" = true)
    (k_Spread_pieces : PySem.W.keepIn K (.ref f_Spread_pieces) = true)
    {f_Spread_window : Addr} {oc_Spread_window kV_Spread_window dc_Spread_window pm_Spread_window cd_Spread_window ct_Spread_window : Value} {od_Spread_window an_Spread_window : Option Addr} {sl_Spread_window : Array (Option Value)}
    (a_Spread_window : PySem.W.findIn K (.ref C_Spread) "window" = some (some (.ref f_Spread_window)))
    (i_Spread_window : PySem.W.isFn K (.ref f_Spread_window) = true)
    (l_Spread_window : K.lookup f_Spread_window = some ⟨oc_Spread_window, od_Spread_window, .func (PySem.W.fnOf "window" "Spread.window" (defArgs t_Spread_window) (defBody t_Spread_window) (defScope t_Spread_window) .none kV_Spread_window dc_Spread_window pm_Spread_window an_Spread_window cd_Spread_window ct_Spread_window), sl_Spread_window⟩)
    (c_Spread_window : PySem.W.codeIn K cd_Spread_window "Spread.window" = true)
    (k_Spread_window : PySem.W.keepIn K (.ref f_Spread_window) = true)
    {f_Spread_in_the_way : Addr} {oc_Spread_in_the_way kV_Spread_in_the_way dc_Spread_in_the_way pm_Spread_in_the_way cd_Spread_in_the_way ct_Spread_in_the_way : Value} {od_Spread_in_the_way an_Spread_in_the_way : Option Addr} {sl_Spread_in_the_way : Array (Option Value)}
    (a_Spread_in_the_way : PySem.W.findIn K (.ref C_Spread) "in_the_way" = some (some (.ref f_Spread_in_the_way)))
    (i_Spread_in_the_way : PySem.W.isFn K (.ref f_Spread_in_the_way) = true)
    (l_Spread_in_the_way : K.lookup f_Spread_in_the_way = some ⟨oc_Spread_in_the_way, od_Spread_in_the_way, .func (PySem.W.fnOf "in_the_way" "Spread.in_the_way" (defArgs t_Spread_in_the_way) (defBody t_Spread_in_the_way) (defScope t_Spread_in_the_way) .none kV_Spread_in_the_way dc_Spread_in_the_way pm_Spread_in_the_way an_Spread_in_the_way cd_Spread_in_the_way ct_Spread_in_the_way), sl_Spread_in_the_way⟩)
    (c_Spread_in_the_way : PySem.W.codeIn K cd_Spread_in_the_way "Spread.in_the_way" = true)
    (k_Spread_in_the_way : PySem.W.keepIn K (.ref f_Spread_in_the_way) = true)
    {f_Spread_put : Addr} {oc_Spread_put kV_Spread_put dc_Spread_put pm_Spread_put cd_Spread_put ct_Spread_put : Value} {od_Spread_put an_Spread_put : Option Addr} {sl_Spread_put : Array (Option Value)}
    (a_Spread_put : PySem.W.findIn K (.ref C_Spread) "put" = some (some (.ref f_Spread_put)))
    (i_Spread_put : PySem.W.isFn K (.ref f_Spread_put) = true)
    (l_Spread_put : K.lookup f_Spread_put = some ⟨oc_Spread_put, od_Spread_put, .func (PySem.W.fnOf "put" "Spread.put" (defArgs t_Spread_put) (defBody t_Spread_put) (defScope t_Spread_put) .none kV_Spread_put dc_Spread_put pm_Spread_put an_Spread_put cd_Spread_put ct_Spread_put), sl_Spread_put⟩)
    (c_Spread_put : PySem.W.codeIn K cd_Spread_put "Spread.put" = true)
    (k_Spread_put : PySem.W.keepIn K (.ref f_Spread_put) = true)
    {f_Spread_place : Addr} {oc_Spread_place kV_Spread_place dc_Spread_place pm_Spread_place cd_Spread_place ct_Spread_place : Value} {od_Spread_place an_Spread_place : Option Addr} {sl_Spread_place : Array (Option Value)}
    (a_Spread_place : PySem.W.findIn K (.ref C_Spread) "place" = some (some (.ref f_Spread_place)))
    (i_Spread_place : PySem.W.isFn K (.ref f_Spread_place) = true)
    (l_Spread_place : K.lookup f_Spread_place = some ⟨oc_Spread_place, od_Spread_place, .func (PySem.W.fnOf "place" "Spread.place" (defArgs t_Spread_place) (defBody t_Spread_place) (defScope t_Spread_place) .none kV_Spread_place dc_Spread_place pm_Spread_place an_Spread_place cd_Spread_place ct_Spread_place), sl_Spread_place⟩)
    (c_Spread_place : PySem.W.codeIn K cd_Spread_place "Spread.place" = true)
    (k_Spread_place : PySem.W.keepIn K (.ref f_Spread_place) = true)
    (n_MOST_CELLS : PySem.W.nsIn K mainGlobals "MOST_CELLS" = some (some (.int 2400 tk_MOST_CELLS)))
    (n_MOST_ROUNDS : PySem.W.nsIn K mainGlobals "MOST_ROUNDS" = some (some (.int 60 tk_MOST_ROUNDS)))
    (n_MOST_SHARES : PySem.W.nsIn K mainGlobals "MOST_SHARES" = some (some (.int 500 tk_MOST_SHARES)))
    (n_abs : PySem.W.nsIn K mainGlobals "abs" = some none)
    (n_all : PySem.W.nsIn K mainGlobals "all" = some none)
    (n_bool : PySem.W.nsIn K mainGlobals "bool" = some none)
    (n_divmod : PySem.W.nsIn K mainGlobals "divmod" = some none)
    (n_enumerate : PySem.W.nsIn K mainGlobals "enumerate" = some none)
    (n_gcd : PySem.W.nsIn K mainGlobals "gcd" = some (some (.builtin "math.gcd")))
    (n_int : PySem.W.nsIn K mainGlobals "int" = some none)
    (n_isinstance : PySem.W.nsIn K mainGlobals "isinstance" = some none)
    (n_len : PySem.W.nsIn K mainGlobals "len" = some none)
    (n_list : PySem.W.nsIn K mainGlobals "list" = some none)
    (n_max : PySem.W.nsIn K mainGlobals "max" = some none)
    (n_min : PySem.W.nsIn K mainGlobals "min" = some none)
    (no_own_lines : PySem.W.findIn K (.ref C_Spread) "own_lines" = some none)
    (no_own_lots : PySem.W.findIn K (.ref C_Spread) "own_lots" = some none)
    (no_own_many : PySem.W.findIn K (.ref C_Spread) "own_many" = some none)
    (no_own_parts : PySem.W.findIn K (.ref C_Spread) "own_parts" = some none)
    (no_own_places : PySem.W.findIn K (.ref C_Spread) "own_places" = some none)
    (n_range : PySem.W.nsIn K mainGlobals "range" = some none)
    (n_repr : PySem.W.nsIn K mainGlobals "repr" = some none)
    (n_sum : PySem.W.nsIn K mainGlobals "sum" = some none)
    (n_tuple : PySem.W.nsIn K mainGlobals "tuple" = some none)
    (n_zip : PySem.W.nsIn K mainGlobals "zip" = some none)
    : ∃ T : Txt K mg, T.f_law = fa ∧ ∀ (s : Shared) (v : Value), BindsTo s T.d_law ⟨[v], []⟩ [("script", v)] := by
  have e := hfa.symm.trans (PySem.W.mg_of X G a_law)
  cases e
  exact ⟨{ C_Spread := C_Spread, m_Spread := PySem.W.mg_of X G aC_Spread, cl_Spread := ⟨pg_Spread, hd_Spread, po_Spread, sa_Spread⟩, f_is_integer := f_is_integer, d_is_integer := _, F_is_integer := (fun_mk (st := t_is_integer) l_is_integer c_is_integer k_is_integer), b_is_integer := (fun_mk (st := t_is_integer) l_is_integer c_is_integer k_is_integer).binds (ps := ["value"]) (fun _ _ _ _ _ _ us hl => match us, hl with | [_], _ => rfl), m_is_integer := PySem.W.mg_of X G a_is_integer, kp_is_integer := k_is_integer, f_is_count := f_is_count, d_is_count := _, F_is_count := (fun_mk (st := t_is_count) l_is_count c_is_count k_is_count), b_is_count := (fun_mk (st := t_is_count) l_is_count c_is_count k_is_count).binds (ps := ["value"]) (fun _ _ _ _ _ _ us hl => match us, hl with | [_], _ => rfl), m_is_count := PySem.W.mg_of X G a_is_count, kp_is_count := k_is_count, f_is_list := f_is_list, d_is_list := _, F_is_list := (fun_mk (st := t_is_list) l_is_list c_is_list k_is_list), b_is_list := (fun_mk (st := t_is_list) l_is_list c_is_list k_is_list).binds (ps := ["value"]) (fun _ _ _ _ _ _ us hl => match us, hl with | [_], _ => rfl), m_is_list := PySem.W.mg_of X G a_is_list, kp_is_list := k_is_list, f_is_row := f_is_row, d_is_row := _, F_is_row := (fun_mk (st := t_is_row) l_is_row c_is_row k_is_row), b_is_row := (fun_mk (st := t_is_row) l_is_row c_is_row k_is_row).binds (ps := ["value", "many"]) (fun _ _ _ _ _ _ us hl => match us, hl with | [_, _], _ => rfl), m_is_row := PySem.W.mg_of X G a_is_row, kp_is_row := k_is_row, f_want_at_most := f_want_at_most, d_want_at_most := _, F_want_at_most := (fun_mk (st := t_want_at_most) l_want_at_most c_want_at_most k_want_at_most), b_want_at_most := (fun_mk (st := t_want_at_most) l_want_at_most c_want_at_most k_want_at_most).binds (ps := ["what", "limit", "number"]) (fun _ _ _ _ _ _ us hl => match us, hl with | [_, _, _], _ => rfl), m_want_at_most := PySem.W.mg_of X G a_want_at_most, kp_want_at_most := k_want_at_most, f_is_ratio := f_is_ratio, d_is_ratio := _, F_is_ratio := (fun_mk (st := t_is_ratio) l_is_ratio c_is_ratio k_is_ratio), b_is_ratio := (fun_mk (st := t_is_ratio) l_is_ratio c_is_ratio k_is_ratio).binds (ps := ["value"]) (fun _ _ _ _ _ _ us hl => match us, hl with | [_], _ => rfl), m_is_ratio := PySem.W.mg_of X G a_is_ratio, kp_is_ratio := k_is_ratio, f_common_part := f_common_part, d_common_part := _, F_common_part := (fun_mk (st := t_common_part) l_common_part c_common_part k_common_part), b_common_part := (fun_mk (st := t_common_part) l_common_part c_common_part k_common_part).binds (ps := ["one", "other"]) (fun _ _ _ _ _ _ us hl => match us, hl with | [_, _], _ => rfl), m_common_part := PySem.W.mg_of X G a_common_part, kp_common_part := k_common_part, f_common_under := f_common_under, d_common_under := _, F_common_under := (fun_mk (st := t_common_under) l_common_under c_common_under k_common_under), b_common_under := (fun_mk (st := t_common_under) l_common_under c_common_under k_common_under).binds (ps := ["ratios"]) (fun _ _ _ _ _ _ us hl => match us, hl with | [_], _ => rfl), m_common_under := PySem.W.mg_of X G a_common_under, kp_common_under := k_common_under, f_total_over := f_total_over, d_total_over := _, F_total_over := (fun_mk (st := t_total_over) l_total_over c_total_over k_total_over), b_total_over := (fun_mk (st := t_total_over) l_total_over c_total_over k_total_over).binds (ps := ["ratios", "whole"]) (fun _ _ _ _ _ _ us hl => match us, hl with | [_, _], _ => rfl), m_total_over := PySem.W.mg_of X G a_total_over, kp_total_over := k_total_over, f_want_many := f_want_many, d_want_many := _, F_want_many := (fun_mk (st := t_want_many) l_want_many c_want_many k_want_many), b_want_many := (fun_mk (st := t_want_many) l_want_many c_want_many k_want_many).binds (ps := ["value", "least", "most"]) (fun _ _ _ _ _ _ us hl => match us, hl with | [_, _, _], _ => rfl), m_want_many := PySem.W.mg_of X G a_want_many, kp_want_many := k_want_many, f_are_ratios_above := f_are_ratios_above, d_are_ratios_above := _, F_are_ratios_above := (fun_mk (st := t_are_ratios_above) l_are_ratios_above c_are_ratios_above k_are_ratios_above), b_are_ratios_above := (fun_mk (st := t_are_ratios_above) l_are_ratios_above c_are_ratios_above k_are_ratios_above).binds (ps := ["value"]) (fun _ _ _ _ _ _ us hl => match us, hl with | [_], _ => rfl), m_are_ratios_above := PySem.W.mg_of X G a_are_ratios_above, kp_are_ratios_above := k_are_ratios_above, f_window_begin := f_window_begin, d_window_begin := _, F_window_begin := (fun_mk (st := t_window_begin) l_window_begin c_window_begin k_window_begin), b_window_begin := (fun_mk (st := t_window_begin) l_window_begin c_window_begin k_window_begin).binds (ps := ["share", "turn"]) (fun _ _ _ _ _ _ us hl => match us, hl with | [_, _], _ => rfl), m_window_begin := PySem.W.mg_of X G a_window_begin, kp_window_begin := k_window_begin, f_window_end := f_window_end, d_window_end := _, F_window_end := (fun_mk (st := t_window_end) l_window_end c_window_end k_window_end), b_window_end := (fun_mk (st := t_window_end) l_window_end c_window_end k_window_end).binds (ps := ["share", "turn"]) (fun _ _ _ _ _ _ us hl => match us, hl with | [_, _], _ => rfl), m_window_end := PySem.W.mg_of X G a_window_end, kp_window_end := k_window_end, f_are_whole_ratios := f_are_whole_ratios, d_are_whole_ratios := _, F_are_whole_ratios := (fun_mk (st := t_are_whole_ratios) l_are_whole_ratios c_are_whole_ratios k_are_whole_ratios), b_are_whole_ratios := (fun_mk (st := t_are_whole_ratios) l_are_whole_ratios c_are_whole_ratios k_are_whole_ratios).binds (ps := ["value"]) (fun _ _ _ _ _ _ us hl => match us, hl with | [_], _ => rfl), m_are_whole_ratios := PySem.W.mg_of X G a_are_whole_ratios, kp_are_whole_ratios := k_are_whole_ratios, f_want_ratios := f_want_ratios, d_want_ratios := _, F_want_ratios := (fun_mk (st := t_want_ratios) l_want_ratios c_want_ratios k_want_ratios), b_want_ratios := (fun_mk (st := t_want_ratios) l_want_ratios c_want_ratios k_want_ratios).binds (ps := ["value"]) (fun _ _ _ _ _ _ us hl => match us, hl with | [_], _ => rfl), m_want_ratios := PySem.W.mg_of X G a_want_ratios, kp_want_ratios := k_want_ratios, f_sum_of := f_sum_of, d_sum_of := _, F_sum_of := (fun_mk (st := t_sum_of) l_sum_of c_sum_of k_sum_of), b_sum_of := (fun_mk (st := t_sum_of) l_sum_of c_sum_of k_sum_of).binds (ps := ["ratios"]) (fun _ _ _ _ _ _ us hl => match us, hl with | [_], _ => rfl), m_sum_of := PySem.W.mg_of X G a_sum_of, kp_sum_of := k_sum_of, f_spread := f_spread, d_spread := _, F_spread := (fun_mk (st := t_spread) l_spread c_spread k_spread), b_spread := (fun_mk (st := t_spread) l_spread c_spread k_spread).binds (ps := ["parts", "lines", "many"]) (fun _ _ _ _ _ _ us hl => match us, hl with | [_, _, _], _ => rfl), m_spread := PySem.W.mg_of X G a_spread, kp_spread := k_spread, f_rounds_of := f_rounds_of, d_rounds_of := _, F_rounds_of := (fun_mk (st := t_rounds_of) l_rounds_of c_rounds_of k_rounds_of), b_rounds_of := (fun_mk (st := t_rounds_of) l_rounds_of c_rounds_of k_rounds_of).binds (ps := ["ratios", "many"]) (fun _ _ _ _ _ _ us hl => match us, hl with | [_, _], _ => rfl), m_rounds_of := PySem.W.mg_of X G a_rounds_of, kp_rounds_of := k_rounds_of, f_is_round := f_is_round, d_is_round := _, F_is_round := (fun_mk (st := t_is_round) l_is_round c_is_round k_is_round), b_is_round := (fun_mk (st := t_is_round) l_is_round c_is_round k_is_round).binds (ps := ["ratios", "value"]) (fun _ _ _ _ _ _ us hl => match us, hl with | [_, _], _ => rfl), m_is_round := PySem.W.mg_of X G a_is_round, kp_is_round := k_is_round, f_is_rounds := f_is_rounds, d_is_rounds := _, F_is_rounds := (fun_mk (st := t_is_rounds) l_is_rounds c_is_rounds k_is_rounds), b_is_rounds := (fun_mk (st := t_is_rounds) l_is_rounds c_is_rounds k_is_rounds).binds (ps := ["ratios", "value"]) (fun _ _ _ _ _ _ us hl => match us, hl with | [_, _], _ => rfl), m_is_rounds := PySem.W.mg_of X G a_is_rounds, kp_is_rounds := k_is_rounds, f__law_pot := f__law_pot, d__law_pot := _, F__law_pot := (fun_mk (st := t__law_pot) l__law_pot c__law_pot k__law_pot), b__law_pot := (fun_mk (st := t__law_pot) l__law_pot c__law_pot k__law_pot).binds (ps := ["script", "k"]) (fun _ _ _ _ _ _ us hl => match us, hl with | [_, _], _ => rfl), m__law_pot := PySem.W.mg_of X G a__law_pot, kp__law_pot := k__law_pot, f__law_draw := f__law_draw, d__law_draw := _, F__law_draw := (fun_mk (st := t__law_draw) l__law_draw c__law_draw k__law_draw), b__law_draw := (fun_mk (st := t__law_draw) l__law_draw c__law_draw k__law_draw).binds (ps := ["pot", "many"]) (fun _ _ _ _ _ _ us hl => match us, hl with | [_, _], _ => rfl), m__law_draw := PySem.W.mg_of X G a__law_draw, kp__law_draw := k__law_draw, f__law_pick := f__law_pick, d__law_pick := _, F__law_pick := (fun_mk (st := t__law_pick) l__law_pick c__law_pick k__law_pick), b__law_pick := (fun_mk (st := t__law_pick) l__law_pick c__law_pick k__law_pick).binds (ps := ["pot", "some"]) (fun _ _ _ _ _ _ us hl => match us, hl with | [_, _], _ => rfl), m__law_pick := PySem.W.mg_of X G a__law_pick, kp__law_pick := k__law_pick, f__law_low := f__law_low, d__law_low := _, F__law_low := (fun_mk (st := t__law_low) l__law_low c__law_low k__law_low), b__law_low := (fun_mk (st := t__law_low) l__law_low c__law_low k__law_low).binds (ps := ["number", "under"]) (fun _ _ _ _ _ _ us hl => match us, hl with | [_, _], _ => rfl), m__law_low := PySem.W.mg_of X G a__law_low, kp__law_low := k__law_low, f__law_sum := f__law_sum, d__law_sum := _, F__law_sum := (fun_mk (st := t__law_sum) l__law_sum c__law_sum k__law_sum), b__law_sum := (fun_mk (st := t__law_sum) l__law_sum c__law_sum k__law_sum).binds (ps := ["pairs"]) (fun _ _ _ _ _ _ us hl => match us, hl with | [_], _ => rfl), m__law_sum := PySem.W.mg_of X G a__law_sum, kp__law_sum := k__law_sum, f__law_ratios := f__law_ratios, d__law_ratios := _, F__law_ratios := (fun_mk (st := t__law_ratios) l__law_ratios c__law_ratios k__law_ratios), b__law_ratios := (fun_mk (st := t__law_ratios) l__law_ratios c__law_ratios k__law_ratios).binds (ps := ["pot"]) (fun _ _ _ _ _ _ us hl => match us, hl with | [_], _ => rfl), m__law_ratios := PySem.W.mg_of X G a__law_ratios, kp__law_ratios := k__law_ratios, f__law_is_round := f__law_is_round, d__law_is_round := _, F__law_is_round := (fun_mk (st := t__law_is_round) l__law_is_round c__law_is_round k__law_is_round), b__law_is_round := (fun_mk (st := t__law_is_round) l__law_is_round c__law_is_round k__law_is_round).binds (ps := ["ratios", "value"]) (fun _ _ _ _ _ _ us hl => match us, hl with | [_, _], _ => rfl), m__law_is_round := PySem.W.mg_of X G a__law_is_round, kp__law_is_round := k__law_is_round, f__law_is_table := f__law_is_table, d__law_is_table := _, F__law_is_table := (fun_mk (st := t__law_is_table) l__law_is_table c__law_is_table k__law_is_table), b__law_is_table := (fun_mk (st := t__law_is_table) l__law_is_table c__law_is_table k__law_is_table).binds (ps := ["ratios", "value"]) (fun _ _ _ _ _ _ us hl => match us, hl with | [_, _], _ => rfl), m__law_is_table := PySem.W.mg_of X G a__law_is_table, kp__law_is_table := k__law_is_table, f__law_bent := f__law_bent, d__law_bent := _, F__law_bent := (fun_mk (st := t__law_bent) l__law_bent c__law_bent k__law_bent), b__law_bent := (fun_mk (st := t__law_bent) l__law_bent c__law_bent k__law_bent).binds (ps := ["pot", "rows"]) (fun _ _ _ _ _ _ us hl => match us, hl with | [_, _], _ => rfl), m__law_bent := PySem.W.mg_of X G a__law_bent, kp__law_bent := k__law_bent, f__law_right := f__law_right, d__law_right := _, F__law_right := (fun_mk (st := t__law_right) l__law_right c__law_right k__law_right), b__law_right := (fun_mk (st := t__law_right) l__law_right c__law_right k__law_right).binds (ps := ["pot"]) (fun _ _ _ _ _ _ us hl => match us, hl with | [_], _ => rfl), m__law_right := PySem.W.mg_of X G a__law_right, kp__law_right := k__law_right, f_law := fa, d_law := _, F_law := (fun_mk (st := t_law) l_law c_law k_law), b_law := (fun_mk (st := t_law) l_law c_law k_law).binds (ps := ["script"]) (fun _ _ _ _ _ _ us hl => match us, hl with | [_], _ => rfl), m_law := PySem.W.mg_of X G a_law, kp_law := k_law, f_Spread___init__ := f_Spread___init__, d_Spread___init__ := _, F_Spread___init__ := (fun_mk (st := t_Spread___init__) l_Spread___init__ c_Spread___init__ k_Spread___init__), b_Spread___init__ := (fun_mk (st := t_Spread___init__) l_Spread___init__ c_Spread___init__ k_Spread___init__).binds (ps := ["self", "parts", "lines", "many"]) (fun _ _ _ _ _ _ us hl => match us, hl with | [_, _, _, _], _ => rfl), mk_Spread := ⟨mk_Spread, a_Spread___init__, i_Spread___init__, kc_Spread⟩, f_Spread_pieces := f_Spread_pieces, d_Spread_pieces := _, F_Spread_pieces := (fun_mk (st := t_Spread_pieces) l_Spread_pieces c_Spread_pieces k_Spread_pieces), b_Spread_pieces := (fun_mk (st := t_Spread_pieces) l_Spread_pieces c_Spread_pieces k_Spread_pieces).binds (ps := ["self"]) (fun _ _ _ _ _ _ us hl => match us, hl with | [_], _ => rfl), me_Spread_pieces := ⟨a_Spread_pieces, i_Spread_pieces, k_Spread_pieces⟩, f_Spread_window := f_Spread_window, d_Spread_window := _, F_Spread_window := (fun_mk (st := t_Spread_window) l_Spread_window c_Spread_window k_Spread_window), b_Spread_window := (fun_mk (st := t_Spread_window) l_Spread_window c_Spread_window k_Spread_window).binds (ps := ["self", "piece"]) (fun _ _ _ _ _ _ us hl => match us, hl with | [_, _], _ => rfl), me_Spread_window := ⟨a_Spread_window, i_Spread_window, k_Spread_window⟩, f_Spread_in_the_way := f_Spread_in_the_way, d_Spread_in_the_way := _, F_Spread_in_the_way := (fun_mk (st := t_Spread_in_the_way) l_Spread_in_the_way c_Spread_in_the_way k_Spread_in_the_way), b_Spread_in_the_way := (fun_mk (st := t_Spread_in_the_way) l_Spread_in_the_way c_Spread_in_the_way k_Spread_in_the_way).binds (ps := ["self", "piece", "turn"]) (fun _ _ _ _ _ _ us hl => match us, hl with | [_, _, _], _ => rfl), me_Spread_in_the_way := ⟨a_Spread_in_the_way, i_Spread_in_the_way, k_Spread_in_the_way⟩, f_Spread_put := f_Spread_put, d_Spread_put := _, F_Spread_put := (fun_mk (st := t_Spread_put) l_Spread_put c_Spread_put k_Spread_put), b_Spread_put := (fun_mk (st := t_Spread_put) l_Spread_put c_Spread_put k_Spread_put).binds (ps := ["self", "piece", "turn", "ahead"]) (fun _ _ _ _ _ _ us hl => match us, hl with | [_, _, _, _], _ => rfl), me_Spread_put := ⟨a_Spread_put, i_Spread_put, k_Spread_put⟩, f_Spread_place := f_Spread_place, d_Spread_place := _, F_Spread_place := (fun_mk (st := t_Spread_place) l_Spread_place c_Spread_place k_Spread_place), b_Spread_place := (fun_mk (st := t_Spread_place) l_Spread_place c_Spread_place k_Spread_place).binds (ps := ["self", "first"]) (fun _ _ _ _ _ _ us hl => match us, hl with | [_, _], _ => rfl), me_Spread_place := ⟨a_Spread_place, i_Spread_place, k_Spread_place⟩, tk_BEYOND := tk_BEYOND, m_BEYOND := m_BEYOND, tk_MOST_CELLS := tk_MOST_CELLS, m_MOST_CELLS := PySem.W.mg_of X G n_MOST_CELLS, tk_MOST_ROUNDS := tk_MOST_ROUNDS, m_MOST_ROUNDS := PySem.W.mg_of X G n_MOST_ROUNDS, tk_MOST_SHARES := tk_MOST_SHARES, m_MOST_SHARES := PySem.W.mg_of X G n_MOST_SHARES, n_abs := PySem.W.mg_none_of X G n_abs, n_all := PySem.W.mg_none_of X G n_all, n_bool := PySem.W.mg_none_of X G n_bool, n_divmod := PySem.W.mg_none_of X G n_divmod, n_enumerate := PySem.W.mg_none_of X G n_enumerate, m_gcd := PySem.W.mg_of X G n_gcd, n_int := PySem.W.mg_none_of X G n_int, n_isinstance := PySem.W.mg_none_of X G n_isinstance, n_len := PySem.W.mg_none_of X G n_len, n_list := PySem.W.mg_none_of X G n_list, n_max := PySem.W.mg_none_of X G n_max, n_min := PySem.W.mg_none_of X G n_min, no_own_lines := no_own_lines, no_own_lots := no_own_lots, no_own_many := no_own_many, no_own_parts := no_own_parts, no_own_places := no_own_places, n_range := PySem.W.mg_none_of X G n_range, n_repr := PySem.W.mg_none_of X G n_repr, n_sum := PySem.W.mg_none_of X G n_sum, n_tuple := PySem.W.mg_none_of X G n_tuple, n_zip := PySem.W.mg_none_of X G n_zip, k_is_rounds_value_ratios := ⟨(fun s us ws h1 h2 => match us, ws, h1, h2 with | [], [_, _], _, _ => .of_eq rfl)⟩, k_rounds_of_many_ratios := ⟨(fun s us ws h1 h2 => match us, ws, h1, h2 with | [], [_, _], _, _ => .of_eq rfl)⟩ }, rfl, fun s v => .of_eq rfl⟩
end K84

open PySem PySem.W PyProof.Rows in
set_option maxRecDepth 100000 in
set_option maxHeartbeats 0 in
theorem PySem.Challenge.cw_carryoffice_k84_whole_rounds_at_once_holds : PySem.Challenge.rw_carryoffice_k84_whole_rounds_at_once.Holds := by
  refine head84 ?_
  k_fill
  refine VL.walk_ofA (l := PySem.Challenge.rw_carryoffice_k84_whole_rounds_at_once) (n := 63) (k := 30) (x := "script") (S := K84.SLaw) rfl (by decide) rfl ⟨rfl, by decide, by decide⟩ (fun w h Y => PySem.W.kIn_of Y) ?F K84.law_holds
  case F =>
    intro w mg fa h XB Y G hmg
    have KX := PySem.W.kIn_of Y
    obtain ⟨v, hv, rv⟩ := XB.2.val _ (List.mem_singleton.mpr rfl)
    obtain ⟨tk, rfl⟩ := K84.int_read rv
    refine' K84.law_end (K84.all_mk KX G hmg hv ?aC_Spread ?pg_Spread ?hd_Spread ?po_Spread ?sa_Spread ?mk_Spread ?kc_Spread ?a_is_integer ?l_is_integer ?c_is_integer ?k_is_integer ?a_is_count ?l_is_count ?c_is_count ?k_is_count ?a_is_list ?l_is_list ?c_is_list ?k_is_list ?a_is_row ?l_is_row ?c_is_row ?k_is_row ?a_want_at_most ?l_want_at_most ?c_want_at_most ?k_want_at_most ?a_is_ratio ?l_is_ratio ?c_is_ratio ?k_is_ratio ?a_common_part ?l_common_part ?c_common_part ?k_common_part ?a_common_under ?l_common_under ?c_common_under ?k_common_under ?a_total_over ?l_total_over ?c_total_over ?k_total_over ?a_want_many ?l_want_many ?c_want_many ?k_want_many ?a_are_ratios_above ?l_are_ratios_above ?c_are_ratios_above ?k_are_ratios_above ?a_window_begin ?l_window_begin ?c_window_begin ?k_window_begin ?a_window_end ?l_window_end ?c_window_end ?k_window_end ?a_are_whole_ratios ?l_are_whole_ratios ?c_are_whole_ratios ?k_are_whole_ratios ?a_want_ratios ?l_want_ratios ?c_want_ratios ?k_want_ratios ?a_sum_of ?l_sum_of ?c_sum_of ?k_sum_of ?a_spread ?l_spread ?c_spread ?k_spread ?a_rounds_of ?l_rounds_of ?c_rounds_of ?k_rounds_of ?a_is_round ?l_is_round ?c_is_round ?k_is_round ?a_is_rounds ?l_is_rounds ?c_is_rounds ?k_is_rounds ?a__law_pot ?l__law_pot ?c__law_pot ?k__law_pot ?a__law_draw ?l__law_draw ?c__law_draw ?k__law_draw ?a__law_pick ?l__law_pick ?c__law_pick ?k__law_pick ?a__law_low ?l__law_low ?c__law_low ?k__law_low ?a__law_sum ?l__law_sum ?c__law_sum ?k__law_sum ?a__law_ratios ?l__law_ratios ?c__law_ratios ?k__law_ratios ?a__law_is_round ?l__law_is_round ?c__law_is_round ?k__law_is_round ?a__law_is_table ?l__law_is_table ?c__law_is_table ?k__law_is_table ?a__law_bent ?l__law_bent ?c__law_bent ?k__law_bent ?a__law_right ?l__law_right ?c__law_right ?k__law_right ?a_law ?l_law ?c_law ?k_law ?a_Spread___init__ ?i_Spread___init__ ?l_Spread___init__ ?c_Spread___init__ ?k_Spread___init__ ?a_Spread_pieces ?i_Spread_pieces ?l_Spread_pieces ?c_Spread_pieces ?k_Spread_pieces ?a_Spread_window ?i_Spread_window ?l_Spread_window ?c_Spread_window ?k_Spread_window ?a_Spread_in_the_way ?i_Spread_in_the_way ?l_Spread_in_the_way ?c_Spread_in_the_way ?k_Spread_in_the_way ?a_Spread_put ?i_Spread_put ?l_Spread_put ?c_Spread_put ?k_Spread_put ?a_Spread_place ?i_Spread_place ?l_Spread_place ?c_Spread_place ?k_Spread_place ?n_MOST_CELLS ?n_MOST_ROUNDS ?n_MOST_SHARES ?n_abs ?n_all ?n_bool ?n_divmod ?n_enumerate ?n_gcd ?n_int ?n_isinstance ?n_len ?n_list ?n_max ?n_min ?no_own_lines ?no_own_lots ?no_own_many ?no_own_parts ?no_own_places ?n_range ?n_repr ?n_sum ?n_tuple ?n_zip)
    (case aC_Spread => k_is)
    (case pg_Spread => k_is)
    (case hd_Spread => k_is)
    (case po_Spread => k_is)
    (case sa_Spread => k_is)
    (case mk_Spread => k_is)
    (case kc_Spread => k_is)
    (case a_is_integer => k_is)
    (case l_is_integer => k_is)
    (case c_is_integer => k_is)
    (case k_is_integer => k_is)
    (case a_is_count => k_is)
    (case l_is_count => k_is)
    (case c_is_count => k_is)
    (case k_is_count => k_is)
    (case a_is_list => k_is)
    (case l_is_list => k_is)
    (case c_is_list => k_is)
    (case k_is_list => k_is)
    (case a_is_row => k_is)
    (case l_is_row => k_is)
    (case c_is_row => k_is)
    (case k_is_row => k_is)
    (case a_want_at_most => k_is)
    (case l_want_at_most => k_is)
    (case c_want_at_most => k_is)
    (case k_want_at_most => k_is)
    (case a_is_ratio => k_is)
    (case l_is_ratio => k_is)
    (case c_is_ratio => k_is)
    (case k_is_ratio => k_is)
    (case a_common_part => k_is)
    (case l_common_part => k_is)
    (case c_common_part => k_is)
    (case k_common_part => k_is)
    (case a_common_under => k_is)
    (case l_common_under => k_is)
    (case c_common_under => k_is)
    (case k_common_under => k_is)
    (case a_total_over => k_is)
    (case l_total_over => k_is)
    (case c_total_over => k_is)
    (case k_total_over => k_is)
    (case a_want_many => k_is)
    (case l_want_many => k_is)
    (case c_want_many => k_is)
    (case k_want_many => k_is)
    (case a_are_ratios_above => k_is)
    (case l_are_ratios_above => k_is)
    (case c_are_ratios_above => k_is)
    (case k_are_ratios_above => k_is)
    (case a_window_begin => k_is)
    (case l_window_begin => k_is)
    (case c_window_begin => k_is)
    (case k_window_begin => k_is)
    (case a_window_end => k_is)
    (case l_window_end => k_is)
    (case c_window_end => k_is)
    (case k_window_end => k_is)
    (case a_are_whole_ratios => k_is)
    (case l_are_whole_ratios => k_is)
    (case c_are_whole_ratios => k_is)
    (case k_are_whole_ratios => k_is)
    (case a_want_ratios => k_is)
    (case l_want_ratios => k_is)
    (case c_want_ratios => k_is)
    (case k_want_ratios => k_is)
    (case a_sum_of => k_is)
    (case l_sum_of => k_is)
    (case c_sum_of => k_is)
    (case k_sum_of => k_is)
    (case a_spread => k_is)
    (case l_spread => k_is)
    (case c_spread => k_is)
    (case k_spread => k_is)
    (case a_rounds_of => k_is)
    (case l_rounds_of => k_is)
    (case c_rounds_of => k_is)
    (case k_rounds_of => k_is)
    (case a_is_round => k_is)
    (case l_is_round => k_is)
    (case c_is_round => k_is)
    (case k_is_round => k_is)
    (case a_is_rounds => k_is)
    (case l_is_rounds => k_is)
    (case c_is_rounds => k_is)
    (case k_is_rounds => k_is)
    (case a__law_pot => k_is)
    (case l__law_pot => k_is)
    (case c__law_pot => k_is)
    (case k__law_pot => k_is)
    (case a__law_draw => k_is)
    (case l__law_draw => k_is)
    (case c__law_draw => k_is)
    (case k__law_draw => k_is)
    (case a__law_pick => k_is)
    (case l__law_pick => k_is)
    (case c__law_pick => k_is)
    (case k__law_pick => k_is)
    (case a__law_low => k_is)
    (case l__law_low => k_is)
    (case c__law_low => k_is)
    (case k__law_low => k_is)
    (case a__law_sum => k_is)
    (case l__law_sum => k_is)
    (case c__law_sum => k_is)
    (case k__law_sum => k_is)
    (case a__law_ratios => k_is)
    (case l__law_ratios => k_is)
    (case c__law_ratios => k_is)
    (case k__law_ratios => k_is)
    (case a__law_is_round => k_is)
    (case l__law_is_round => k_is)
    (case c__law_is_round => k_is)
    (case k__law_is_round => k_is)
    (case a__law_is_table => k_is)
    (case l__law_is_table => k_is)
    (case c__law_is_table => k_is)
    (case k__law_is_table => k_is)
    (case a__law_bent => k_is)
    (case l__law_bent => k_is)
    (case c__law_bent => k_is)
    (case k__law_bent => k_is)
    (case a__law_right => k_is)
    (case l__law_right => k_is)
    (case c__law_right => k_is)
    (case k__law_right => k_is)
    (case a_law => k_is)
    (case l_law => k_is)
    (case c_law => k_is)
    (case k_law => k_is)
    (case a_Spread___init__ => k_is)
    (case i_Spread___init__ => k_is)
    (case l_Spread___init__ => k_is)
    (case c_Spread___init__ => k_is)
    (case k_Spread___init__ => k_is)
    (case a_Spread_pieces => k_is)
    (case i_Spread_pieces => k_is)
    (case l_Spread_pieces => k_is)
    (case c_Spread_pieces => k_is)
    (case k_Spread_pieces => k_is)
    (case a_Spread_window => k_is)
    (case i_Spread_window => k_is)
    (case l_Spread_window => k_is)
    (case c_Spread_window => k_is)
    (case k_Spread_window => k_is)
    (case a_Spread_in_the_way => k_is)
    (case i_Spread_in_the_way => k_is)
    (case l_Spread_in_the_way => k_is)
    (case c_Spread_in_the_way => k_is)
    (case k_Spread_in_the_way => k_is)
    (case a_Spread_put => k_is)
    (case i_Spread_put => k_is)
    (case l_Spread_put => k_is)
    (case c_Spread_put => k_is)
    (case k_Spread_put => k_is)
    (case a_Spread_place => k_is)
    (case i_Spread_place => k_is)
    (case l_Spread_place => k_is)
    (case c_Spread_place => k_is)
    (case k_Spread_place => k_is)
    (case n_MOST_CELLS => k_is)
    (case n_MOST_ROUNDS => k_is)
    (case n_MOST_SHARES => k_is)
    (case n_abs => k_is)
    (case n_all => k_is)
    (case n_bool => k_is)
    (case n_divmod => k_is)
    (case n_enumerate => k_is)
    (case n_gcd => k_is)
    (case n_int => k_is)
    (case n_isinstance => k_is)
    (case n_len => k_is)
    (case n_list => k_is)
    (case n_max => k_is)
    (case n_min => k_is)
    (case no_own_lines => k_is)
    (case no_own_lots => k_is)
    (case no_own_many => k_is)
    (case no_own_parts => k_is)
    (case no_own_places => k_is)
    (case n_range => k_is)
    (case n_repr => k_is)
    (case n_sum => k_is)
    (case n_tuple => k_is)
    (case n_zip => k_is)
#print axioms PySem.Challenge.cw_carryoffice_k84_whole_rounds_at_once_holds
