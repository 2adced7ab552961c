import PyProof.Rows.All
import Wide.All
import OpenK.AllK
import Wide.FinOn
import HandS.ForMost
import HandS.TupAny
import HandS.Zip
import HandS.Conv
import KE.SortData
import KE.DataEq
import KE.DataMinMax
import HandS.TupSets
import HandS.SetFor
import HandS.Strs
import KE.GoesNew
import HandS.Style
import HandS.SetBool
import PySem.Challenge.RW_heatplans_k42_whole_goes_on
set_option Elab.async false
set_option linter.all false
set_option maxRecDepth 100000
namespace Dl
open PySem L2

/-! ## data in an abstract heap -/
mutual
inductive Dat (H : Hp) : V → PyData → Prop
  | non : Dat H .non .none
  | bl (b : Bool) : Dat H (.bl b) (.bool b)
  | int (i : Int) : Dat H (.int i) (.int i)
  | str (x : Str) : Dat H (.str x) (.str x)
  | lst {a : Addr} {xs : List V} {ds : List PyData} : H a = some (.lst xs) → Dats H xs ds → Dat H (.ref a) (.list ds)
  | tup {a : Addr} {xs : List V} {ds : List PyData} : H a = some (.tup xs) → Dats H xs ds → Dat H (.ref a) (.tuple ds)
inductive Dats (H : Hp) : List V → List PyData → Prop
  | nil : Dats H [] []
  | cons {v : V} {vs : List V} {d : PyData} {ds : List PyData} : Dat H v d → Dats H vs ds → Dats H (v :: vs) (d :: ds)
end

mutual
theorem Dat.mono {H H' : Hp} (e : Same H H') : ∀ {v : V} {d : PyData}, Dat H v d → Dat H' v d
  | _, _, .non => .non
  | _, _, .bl b => .bl b
  | _, _, .int i => .int i
  | _, _, .str x => .str x
  | _, _, .lst h r => .lst (e _ _ h) (Dats.mono e r)
  | _, _, .tup h r => .tup (e _ _ h) (Dats.mono e r)
theorem Dats.mono {H H' : Hp} (e : Same H H') : ∀ {vs : List V} {ds : List PyData}, Dats H vs ds → Dats H' vs ds
  | _, _, .nil => .nil
  | _, _, .cons h r => .cons (Dat.mono e h) (Dats.mono e r)
end
mutual
theorem Dat.dp {K : PySem.W.Frag} {H : Hp} : ∀ {v : V} {d : PyData}, Dat H v d → Dp K H v d
  | _, _, .non => .non
  | _, _, .bl b => .bl b
  | _, _, .int i => .int i
  | _, _, .str x => .str x
  | _, _, .lst h r => .lst (SqL.of h) (Dats.dp r)
  | _, _, .tup h r => .tup (SqT.of h) (Dats.dp r)
theorem Dats.dp {K : PySem.W.Frag} {H : Hp} : ∀ {vs : List V} {ds : List PyData}, Dats H vs ds → DpAll K H vs ds
  | _, _, .nil => .nil
  | _, _, .cons h r => .cons (Dat.dp h) (Dats.dp r)
end
theorem Dats.length {H : Hp} : ∀ {vs : List V} {ds : List PyData}, Dats H vs ds → vs.length = ds.length
  | _, _, .nil => rfl
  | _, _, .cons _ r => by rw [List.length_cons, List.length_cons, Dats.length r]
theorem Dats.get {H : Hp} : ∀ {vs : List V} {ds : List PyData} {i : Nat} {d : PyData}, Dats H vs ds → ds[i]? = some d → ∃ v, vs[i]? = some v ∧ Dat H v d
  | _, _, _, _, .nil, e => by simp at e
  | _, _, 0, _, .cons h _, e => by simp at e; subst e; exact ⟨_, rfl, h⟩
  | _, _, i + 1, d, .cons _ r, e => by
    obtain ⟨v, h1, h2⟩ := Dats.get (i := i) (d := d) r (by simpa using e)
    exact ⟨v, by simpa using h1, h2⟩
theorem Dats.append {H : Hp} : ∀ {vs ws : List V} {ds es : List PyData}, Dats H vs ds → Dats H ws es → Dats H (vs ++ ws) (ds ++ es)
  | _, _, _, _, .nil, h => h
  | _, _, _, _, .cons h r, q => .cons h (Dats.append r q)
theorem Dats.take {H : Hp} : ∀ {vs : List V} {ds : List PyData} (n : Nat), Dats H vs ds → Dats H (vs.take n) (ds.take n)
  | _, _, 0, _ => .nil
  | _, _, _ + 1, .nil => .nil
  | _, _, n + 1, .cons h r => .cons h (Dats.take n r)
theorem Dats.drop {H : Hp} : ∀ {vs : List V} {ds : List PyData} (n : Nat), Dats H vs ds → Dats H (vs.drop n) (ds.drop n)
  | _, _, 0, h => h
  | _, _, _ + 1, .nil => .nil
  | _, _, n + 1, .cons _ r => Dats.drop n r
theorem Dats.set {H : Hp} {v : V} {d : PyData} (h : Dat H v d) : ∀ {vs : List V} {ds : List PyData} (n : Nat), Dats H vs ds → Dats H (vs.set n v) (ds.set n d)
  | _, _, _, .nil => .nil
  | _, _, 0, .cons _ r => .cons h r
  | _, _, n + 1, .cons q r => .cons q (Dats.set h n r)
theorem Dats.reverse {H : Hp} : ∀ {vs : List V} {ds : List PyData}, Dats H vs ds → Dats H vs.reverse ds.reverse
  | _, _, .nil => .nil
  | _, _, .cons h r => by
    rw [List.reverse_cons, List.reverse_cons]
    exact (Dats.reverse r).append (.cons h .nil)
theorem Dats.snoc {H : Hp} {vs : List V} {ds : List PyData} {v : V} {d : PyData} (r : Dats H vs ds) (h : Dat H v d) : Dats H (vs ++ [v]) (ds ++ [d]) := r.append (.cons h .nil)
theorem Dats.ints {H : Hp} : ∀ {vs : List V} {ns : List Int}, Dats H vs (ns.map PyData.int) → vs = ns.map V.int
  | [], [], _ => rfl
  | _ :: _, [], h => by cases h
  | [], _ :: _, h => by cases h
  | _ :: _, _ :: _, h => by
    cases h with
    | cons h r =>
      cases h
      rw [List.map_cons, Dats.ints r]
theorem Dats.of_ints {H : Hp} : ∀ ns : List Int, Dats H (ns.map V.int) (ns.map PyData.int)
  | [] => .nil
  | n :: ns => .cons (.int n) (Dats.of_ints ns)
theorem Dats.bls {H : Hp} : ∀ {vs : List V} {bs : List Bool}, Dats H vs (bs.map PyData.bool) → vs = bs.map V.bl
  | [], [], _ => rfl
  | _ :: _, [], h => by cases h
  | [], _ :: _, h => by cases h
  | _ :: _, _ :: _, h => by
    cases h with
    | cons h r =>
      cases h
      rw [List.map_cons, Dats.bls r]
theorem Dats.strs {H : Hp} : ∀ {vs : List V} {bs : List Str}, Dats H vs (bs.map PyData.str) → vs = bs.map V.str
  | [], [], _ => rfl
  | _ :: _, [], h => by cases h
  | [], _ :: _, h => by cases h
  | _ :: _, _ :: _, h => by
    cases h with
    | cons h r =>
      cases h
      rw [List.map_cons, Dats.strs r]
theorem Dats.of_strs {H : Hp} : ∀ ns : List Str, Dats H (ns.map V.str) (ns.map PyData.str)
  | [] => .nil
  | n :: ns => .cons (.str n) (Dats.of_strs ns)
theorem Dats.rep {H : Hp} {vs : List V} {ds : List PyData} (h : Dats H vs ds) : ∀ k : Nat, Dats H (List.replicate k vs).flatten (List.replicate k ds).flatten
  | 0 => .nil
  | k + 1 => by
    rw [List.replicate_succ, List.flatten_cons, List.replicate_succ, List.flatten_cons]
    exact h.append (Dats.rep h k)
theorem Dat.inv_int {H : Hp} {v : V} {i : Int} (h : Dat H v (.int i)) : v = .int i := by cases h; rfl
theorem Dat.inv_bool {H : Hp} {v : V} {i : Bool} (h : Dat H v (.bool i)) : v = .bl i := by cases h; rfl
theorem Dat.inv_str {H : Hp} {v : V} {i : Str} (h : Dat H v (.str i)) : v = .str i := by cases h; rfl
theorem Dat.inv_none {H : Hp} {v : V} (h : Dat H v .none) : v = .non := by cases h; rfl
theorem Dat.inv_list {H : Hp} {v : V} {ds : List PyData} (h : Dat H v (.list ds)) : ∃ a xs, v = .ref a ∧ H a = some (.lst xs) ∧ Dats H xs ds := by
  cases h with
  | lst h r => exact ⟨_, _, rfl, h, r⟩
theorem Dat.inv_tuple {H : Hp} {v : V} {ds : List PyData} (h : Dat H v (.tuple ds)) : ∃ a xs, v = .ref a ∧ H a = some (.tup xs) ∧ Dats H xs ds := by
  cases h with
  | tup h r => exact ⟨_, _, rfl, h, r⟩

/-! ## growing heaps: Hs the part that stays -/
structure Grw (Hs H Hs' H' : Hp) : Prop where
  all : Same H H'
  st : Same Hs Hs'
  sub : Same Hs' H'
  new : ∀ a, Hs' a ≠ none → Hs a ≠ none ∨ H a = none
theorem Grw.refl {Hs H : Hp} (h : Same Hs H) : Grw Hs H Hs H := ⟨Same.refl H, Same.refl Hs, h, fun _ q => .inl q⟩
theorem Grw.trans {Hs H Hs1 H1 Hs2 H2 : Hp} (a : Grw Hs H Hs1 H1) (b : Grw Hs1 H1 Hs2 H2) : Grw Hs H Hs2 H2 :=
  ⟨a.all.trans b.all, a.st.trans b.st, b.sub, fun x q => by
    rcases b.new x q with q | q
    · exact a.new x q
    · exact .inr (a.all.free q)⟩
theorem same_upd {H : Hp} {p : Addr} {o : HO} (h : H p = none) : Same H (upd H p o) := fun b x e => by
  rw [upd_ne (ne_of_none e h)]
  exact e
theorem same_upd2 {Hs H : Hp} {p : Addr} {o : HO} (h : Same Hs H) : Same (upd Hs p o) (upd H p o) := fun b x e => by
  by_cases q : b = p
  · subst q
    rw [upd_same] at e ⊢
    exact e
  · rw [upd_ne q] at e ⊢
    exact h _ _ e
/-- a new thing that stays -/
theorem Grw.laid {Hs H : Hp} {p : Addr} {o : HO} (s : Same Hs H) (h : H p = none) : Grw Hs H (upd Hs p o) (upd H p o) :=
  ⟨same_upd h, same_upd (s.free h), same_upd2 s, fun a q => by
    by_cases e : a = p
    · subst e; exact .inr h
    · rw [upd_ne e] at q; exact .inl q⟩
/-- a new thing that is owned -/
theorem Grw.laidO {Hs H : Hp} {p : Addr} {o : HO} (s : Same Hs H) (h : H p = none) : Grw Hs H Hs (upd H p o) :=
  ⟨same_upd h, Same.refl Hs, s.trans (same_upd h), fun a q => .inl q⟩
/-- an owned thing is changed -/
theorem same_mut {Hs H : Hp} {p : Addr} {o : HO} (s : Same Hs H) (h : Hs p = none) : Same Hs (upd H p o) := fun b x e => by
  rw [upd_ne (ne_of_none e h)]
  exact s _ _ e
theorem Grw.mut {Hs0 H0 Hs H : Hp} {p : Addr} {o : HO} (g : Grw Hs0 H0 Hs H) (h0 : H0 p = none) (h : Hs p = none) : Grw Hs0 H0 Hs (upd H p o) :=
  ⟨same_mut g.all h0, g.st, same_mut g.sub h, g.new⟩
/-- an owned thing becomes one that stays -/
theorem Grw.freeze {Hs0 H0 Hs H : Hp} {p : Addr} {o : HO} (g : Grw Hs0 H0 Hs H) (h0 : H0 p = none) (h : Hs p = none) (hp : H p = some o) : Grw Hs0 H0 (upd Hs p o) H :=
  ⟨g.all, g.st.trans (same_upd h), fun b x e => by
    by_cases q : b = p
    · subst q; rw [upd_same] at e; rw [hp]; exact e
    · rw [upd_ne q] at e; exact g.sub _ _ e, fun a q => by
    by_cases e : a = p
    · subst e; exact .inr h0
    · rw [upd_ne e] at q; exact g.new a q⟩

theorem Grw.stay {Hs H Hs' H' : Hp} {a : Addr} {o : HO} (g : Grw Hs H Hs' H') (h1 : Hs a = none) (h2 : H a = some o) : Hs' a = none := by
  cases q : Hs' a with
  | none => rfl
  | some z =>
    rcases g.new a (by rw [q]; simp) with w | w
    · exact absurd h1 w
    · rw [h2] at w
      cases w

/-! ## slots -/
inductive Slot where
  | un
  | val (d : PyData)
  | own (ds : List PyData)
  | dic (kvs : List (List Key × PyData))
  | scr (ns : List Int)
def DKV (Hs : Hp) : List (List Key × V) → List (List Key × PyData) → Prop := Paired fun p q => p.1 = q.1 ∧ Dat Hs p.2 q.2
theorem DKV.mono {H H' : Hp} (e : Same H H') : ∀ {a : List (List Key × V)} {b : List (List Key × PyData)}, DKV H a b → DKV H' a b
  | _, _, .nil => .nil
  | _, _, .cons h r => .cons ⟨h.1, h.2.mono e⟩ (DKV.mono e r)
def SlotOk (K : PySem.W.Frag) (H0 Hs H : Hp) : Slot → Option (Option V) → Prop
  | .un, _ => True
  | .val d, o => ∃ v, o = some (some v) ∧ Dat Hs v d
  | .own ds, o => ∃ a vs, o = some (some (.ref a)) ∧ H0 a = none ∧ Hs a = none ∧ H a = some (.lst vs) ∧ Dats Hs vs ds
  | .dic kvs, o => ∃ a vs, o = some (some (.ref a)) ∧ H0 a = none ∧ Hs a = none ∧ H a = some (.dT vs) ∧ DKV Hs vs kvs
  | .scr ns, o => ∃ a, o = some (some (.ref a)) ∧ SqL K Hs a (ns.map V.int)
def Slot.isOwn : Slot → Bool
  | .own _ => true
  | .dic _ => true
  | _ => false
abbrev Rho := List Slot
structure Asn (K : PySem.W.Frag) (Hs0 H0 : Hp) (r : Rho) (σ : St) (Hs H : Hp) : Prop where
  g : Grw Hs0 H0 Hs H
  at_ : ∀ (i : Nat) s, r[i]? = some s → SlotOk K H0 Hs H s (σ[i]?)
  dist : ∀ (i j : Nat) a s s', r[i]? = some s → r[j]? = some s' → s.isOwn = true → s'.isOwn = true → σ[i]? = some (some (.ref a)) → σ[j]? = some (some (.ref a)) → i = j
  len : r.length = σ.length
theorem SlotOk.grow {K : PySem.W.Frag} {H0 Hs H Hs' H' : Hp} (g : Grw Hs H Hs' H') : ∀ {s : Slot} {o : Option (Option V)}, SlotOk K H0 Hs H s o → SlotOk K H0 Hs' H' s o
  | .un, _, _ => trivial
  | .val _, _, ⟨v, e, h⟩ => ⟨v, e, h.mono g.st⟩
  | .own _, _, ⟨a, vs, e, h0, h1, h2, h3⟩ => ⟨a, vs, e, h0, g.stay h1 h2, g.all _ _ h2, h3.mono g.st⟩
  | .dic _, _, ⟨a, vs, e, h0, h1, h2, h3⟩ => ⟨a, vs, e, h0, g.stay h1 h2, g.all _ _ h2, h3.mono g.st⟩
  | .scr _, _, ⟨a, e, h⟩ => ⟨a, e, g.st.seq h⟩
theorem Asn.grow {K : PySem.W.Frag} {Hs0 H0 : Hp} {r : Rho} {σ : St} {Hs H Hs' H' : Hp} (A : Asn K Hs0 H0 r σ Hs H) (g : Grw Hs H Hs' H') : Asn K Hs0 H0 r σ Hs' H' :=
  ⟨A.g.trans g, fun i s e => (A.at_ i s e).grow g, A.dist, A.len⟩
theorem Asn.val {K : PySem.W.Frag} {Hs0 H0 : Hp} {r : Rho} {σ : St} {Hs H : Hp} {i : Nat} {d : PyData} (A : Asn K Hs0 H0 r σ Hs H) (e : r[i]? = some (.val d)) : ∃ v, σ[i]? = some (some v) ∧ Dat Hs v d := A.at_ i _ e
theorem SlotOk.notown {K : PySem.W.Frag} {H0 Hs H : Hp} {s : Slot} {o : Option (Option V)} {a : Addr} (h : SlotOk K H0 Hs H s o) (hs : s.isOwn = true) (e : o = some (some (.ref a))) : Hs a = none ∧ H a ≠ none := by
  cases s with
  | own ds =>
    obtain ⟨b, vs, e', h0, h1, h2, h3⟩ := h
    rw [e] at e'
    injection e' with e'; injection e' with e'; injection e' with e'
    subst e'
    exact ⟨h1, by rw [h2]; simp⟩
  | dic ds =>
    obtain ⟨b, vs, e', h0, h1, h2, h3⟩ := h
    rw [e] at e'
    injection e' with e'; injection e' with e'; injection e' with e'
    subst e'
    exact ⟨h1, by rw [h2]; simp⟩
  | un => cases hs
  | val d => cases hs
  | scr n => cases hs
/-- a value is stored at a name -/
theorem Asn.set {K : PySem.W.Frag} {Hs0 H0 : Hp} {r : Rho} {σ : St} {Hs H : Hp} {i : Nat} {v : V} {s : Slot} (A : Asn K Hs0 H0 r σ Hs H) (hs : SlotOk K H0 Hs H s (some (some v)))
    (hd : s.isOwn = true → ∀ a, v = .ref a → ∀ (j : Nat) s', r[j]? = some s' → s'.isOwn = true → σ[j]? = some (some (.ref a)) → i = j) : Asn K Hs0 H0 (r.set i s) (σ.set i (some v)) Hs H := by
  have hl := A.len
  refine ⟨A.g, fun j s' e => ?_, fun j k a s1 s2 e1 e2 o1 o2 q1 q2 => ?_, by rw [List.length_set, List.length_set, hl]⟩
  · rw [List.getElem?_set] at e ⊢
    by_cases q : i = j
    · subst q
      rw [if_pos rfl] at e ⊢
      by_cases z : i < r.length
      · rw [if_pos z] at e
        rw [if_pos (by omega)]
        cases e
        exact hs
      · rw [if_neg z] at e
        cases e
    · rw [if_neg q] at e ⊢
      exact A.at_ j s' e
  · rw [List.getElem?_set] at e1 e2 q1 q2
    by_cases z : i < r.length
    · by_cases w1 : i = j
      · by_cases w2 : i = k
        · omega
        · subst w1
          rw [if_pos rfl, if_pos z] at e1
          rw [if_pos rfl, if_pos (by omega)] at q1
          rw [if_neg w2] at e2 q2
          cases e1
          injection q1 with q1; injection q1 with q1
          exact hd o1 a q1 k s2 e2 o2 q2
      · by_cases w2 : i = k
        · subst w2
          rw [if_pos rfl, if_pos z] at e2
          rw [if_pos rfl, if_pos (by omega)] at q2
          rw [if_neg w1] at e1 q1
          cases e2
          injection q2 with q2; injection q2 with q2
          exact (hd o2 a q2 j s1 e1 o1 q1).symm
        · rw [if_neg w1] at e1 q1
          rw [if_neg w2] at e2 q2
          exact A.dist j k a s1 s2 e1 e2 o1 o2 q1 q2
    · have n1 : i ≠ j := fun w => by
        subst w
        rw [if_pos rfl, if_neg z] at e1
        cases e1
      have n2 : i ≠ k := fun w => by
        subst w
        rw [if_pos rfl, if_neg z] at e2
        cases e2
      rw [if_neg n1] at e1 q1
      rw [if_neg n2] at e2 q2
      exact A.dist j k a s1 s2 e1 e2 o1 o2 q1 q2
theorem Asn.setV {K : PySem.W.Frag} {Hs0 H0 : Hp} {r : Rho} {σ : St} {Hs H : Hp} {i : Nat} {v : V} {d : PyData} (A : Asn K Hs0 H0 r σ Hs H) (h : Dat Hs v d) : Asn K Hs0 H0 (r.set i (.val d)) (σ.set i (some v)) Hs H :=
  A.set ⟨v, rfl, h⟩ fun z => by cases z
theorem Asn.setU {K : PySem.W.Frag} {Hs0 H0 : Hp} {r : Rho} {σ : St} {Hs H : Hp} {i : Nat} {v : V} (A : Asn K Hs0 H0 r σ Hs H) : Asn K Hs0 H0 (r.set i .un) (σ.set i (some v)) Hs H :=
  A.set trivial fun z => by cases z
/-- a new list is stored at a name -/
theorem Asn.setO {K : PySem.W.Frag} {Hs0 H0 : Hp} {r : Rho} {σ : St} {Hs H Hs' H' : Hp} {i : Nat} {p : Addr} {vs : List V} {ds : List PyData} (A : Asn K Hs0 H0 r σ Hs H) (g : Grw Hs H Hs' H') (hp : H p = none) (hp' : Hs' p = none) (h : H' p = some (.lst vs)) (hd : Dats Hs' vs ds) :
    Asn K Hs0 H0 (r.set i (.own ds)) (σ.set i (some (.ref p))) Hs' H' :=
  (A.grow g).set ⟨p, vs, rfl, A.g.all.free hp, hp', h, hd⟩ fun _ a e j s' e1 o1 q1 => by
    cases e
    exact absurd hp ((A.at_ j s' e1).notown o1 q1).2
/-- slots forgotten -/
theorem Asn.weak {K : PySem.W.Frag} {Hs0 H0 : Hp} {r r' : Rho} {σ σ' : St} {Hs H : Hp} (A : Asn K Hs0 H0 r σ Hs H) (hl : r'.length = σ'.length) (w : ∀ (i : Nat) s, r'[i]? = some s → s = .un ∨ (r[i]? = some s ∧ σ'[i]? = σ[i]?)) : Asn K Hs0 H0 r' σ' Hs H :=
  ⟨A.g, fun i s e => by
    rcases w i s e with q | ⟨q, z⟩
    · subst q; trivial
    · rw [z]; exact A.at_ i s q, fun i j a s s' e1 e2 o1 o2 q1 q2 => by
    rcases w i s e1 with q | ⟨q, z⟩
    · subst q; cases o1
    · rcases w j s' e2 with q' | ⟨q', z'⟩
      · subst q'; cases o2
      · rw [z] at q1; rw [z'] at q2
        exact A.dist i j a s s' q q' o1 o2 q1 q2, hl⟩

/-! ## judgements -/
def tD (K : PySem.W.Frag) (r : Rho) (d : PyData) : TE := fun σ H Q => ∃ Hs0 H0 Hs, Asn K Hs0 H0 r σ Hs H ∧ ∀ v Hs' H', Grw Hs H Hs' H' → Dat Hs' v d → Q v H'
/-- a new list -/
def tN (K : PySem.W.Frag) (r : Rho) (ds : List PyData) : TE := fun σ H Q => ∃ Hs0 H0 Hs, Asn K Hs0 H0 r σ Hs H ∧ ∀ p vs Hs' H', Grw Hs H Hs' H' → H p = none → Hs' p = none → H' p = some (.lst vs) → Dats Hs' vs ds → Q (.ref p) H'
def tDT (K : PySem.W.Frag) (r : Rho) (b : Bool) : TT := fun σ H Q => ∃ Hs0 H0 Hs, Asn K Hs0 H0 r σ Hs H ∧ ∀ Hs' H', Grw Hs H Hs' H' → Q b H'
def ArgOk (K : PySem.W.Frag) (Hs : Hp) (v : V) : Slot → Prop
  | .val d => Dat Hs v d
  | .scr ns => ∃ a, v = .ref a ∧ SqL K Hs a (ns.map V.int)
  | _ => False
theorem ArgOk.mono {K : PySem.W.Frag} {Hs Hs' : Hp} {v : V} (e : Same Hs Hs') : ∀ {s : Slot}, ArgOk K Hs v s → ArgOk K Hs' v s
  | .val _, h => Dat.mono e h
  | .scr _, ⟨a, q, h⟩ => ⟨a, q, e.seq h⟩
  | .un, h => h
  | .own _, h => h
  | .dic _, h => h
def Args (K : PySem.W.Frag) (Hs : Hp) : List V → Rho → Prop := Paired (ArgOk K Hs)
theorem Args.mono {K : PySem.W.Frag} {Hs Hs' : Hp} (e : Same Hs Hs') : ∀ {vs : List V} {ss : Rho}, Args K Hs vs ss → Args K Hs' vs ss
  | _, _, .nil => .nil
  | _, _, .cons h t => .cons (h.mono e) (Args.mono e t)
theorem Args.length {K : PySem.W.Frag} {Hs : Hp} {vs : List V} {ss : Rho} (h : Args K Hs vs ss) : vs.length = ss.length := Paired.length h
theorem Args.dats {K : PySem.W.Frag} {Hs : Hp} : ∀ {vs : List V} {ds : List PyData}, Args K Hs vs (ds.map Slot.val) → Dats Hs vs ds
  | [], [], _ => .nil
  | _ :: _, [], h => by cases h
  | [], _ :: _, h => by cases h
  | _ :: _, _ :: _, h => by
    cases h with
    | cons h r => exact .cons h (Args.dats r)
def tDG (K : PySem.W.Frag) (r : Rho) (s : Slot) : TE := fun σ H Q => ∃ Hs0 H0 Hs, Asn K Hs0 H0 r σ Hs H ∧ ∀ v Hs' H', Grw Hs H Hs' H' → ArgOk K Hs' v s → Q v H'
def tDA (K : PySem.W.Frag) (r : Rho) (ss : Rho) : TA := fun σ H Q => ∃ Hs0 H0 Hs, Asn K Hs0 H0 r σ Hs H ∧ ∀ vs Hs' H', Grw Hs H Hs' H' → Args K Hs' vs ss → Q vs H'
def DE (X : Cx) (r : Rho) (e : Expr) (d : PyData) : Prop := PE X e (tD X.K r d)
def DN (X : Cx) (r : Rho) (e : Expr) (ds : List PyData) : Prop := PE X e (tN X.K r ds)
def DT (X : Cx) (r : Rho) (e : Expr) (b : Bool) : Prop := PT X e (tDT X.K r b)
def DW (X : Cx) (r : Rho) (e : Expr) (b : Bool) : Prop := PW X e (tDT X.K r b)
def DAr (X : Cx) (r : Rho) (e : Expr) (s : Slot) : Prop := PE X e (tDG X.K r s)
def DA (X : Cx) (r : Rho) (es : List Expr) (ss : Rho) : Prop := PA X es (tDA X.K r ss)

theorem PE.wk {X : Cx} {e : Expr} {t t' : TE} (h : PE X e t) (m : ∀ pins s σ H Q, Inv X pins σ H s → t' σ H Q → t σ H Q) : PE X e t' := ⟨fun pins s σ H Q I q => h.run pins s σ H Q I (m pins s σ H Q I q)⟩
theorem PT.wk {X : Cx} {e : Expr} {t t' : TT} (h : PT X e t) (m : ∀ σ H Q, t' σ H Q → t σ H Q) : PT X e t' := ⟨fun pins s σ H Q I q => h.run pins s σ H Q I (m σ H Q q)⟩
theorem PW.wk {X : Cx} {e : Expr} {t t' : TT} (h : PW X e t) (m : ∀ σ H Q, t' σ H Q → t σ H Q) : PW X e t' := ⟨fun wh pins s σ H Q I q => h.run wh pins s σ H Q I (m σ H Q q)⟩
theorem PA.wk {X : Cx} {e : List Expr} {t t' : TA} (h : PA X e t) (m : ∀ σ H Q, t' σ H Q → t σ H Q) : PA X e t' := ⟨fun p pins s σ H Q I q => h.run p pins s σ H Q I (m σ H Q q)⟩
theorem PS.wk {X : Cx} {e : Stmt} {t t' : TS} (h : PS X e t) (m : ∀ pins s D σ H, Inv X pins σ H s → t' D σ H → t D σ H) : PS X e t' := ⟨fun pins s σ H D I q => h.run pins s σ H D I (m pins s D σ H I q)⟩
theorem PSs.wk {X : Cx} {e : List Stmt} {t t' : TS} (h : PSs X e t) (m : ∀ D σ H, t' D σ H → t D σ H) : PSs X e t' := ⟨fun pins s σ H D I q => h.run pins s σ H D I (m D σ H q)⟩
section
variable {X : Cx} {r : Rho} {e a b c : Expr} {pos : Pos} {d d1 d2 d3 : PyData} {ds : List PyData}
theorem DE.is (h : DE X r e d1) (q : d1 = d) : DE X r e d := q ▸ h
theorem DT.is {b b' : Bool} (h : DT X r e b) (q : b = b') : DT X r e b' := q ▸ h
theorem DN.is {ds' : List PyData} (h : DN X r e ds') (q : ds' = ds) : DN X r e ds := q ▸ h
theorem DN.de (h : DN X r e ds) : DE X r e (.list ds) := PE.wk h fun pins s σ H Q I ⟨Hs0, H0, Hs, A, q⟩ => ⟨Hs0, H0, Hs, A, fun p vs Hs' H' g hp hp' hv hd =>
  q (.ref p) (upd Hs' p (.lst vs)) H' (g.freeze hp hp' hv) (.lst upd_same (hd.mono (same_upd hp')))⟩
theorem DE.arg (h : DE X r e d) : DAr X r e (.val d) := PE.wk h fun pins s σ H Q I ⟨Hs0, H0, Hs, A, q⟩ => ⟨Hs0, H0, Hs, A, fun v Hs' H' g hv => q v Hs' H' g hv⟩
theorem da_nil : DA X r [] [] := PA.wk pa_nil fun σ H Q ⟨Hs0, H0, Hs, A, q⟩ => q [] Hs H (Grw.refl A.g.sub) .nil
theorem da_cons {es : List Expr} {s : Slot} {ss : Rho} (h : DAr X r e s) (t : DA X r es ss) (hs : starEach (e :: es) X.env = (false, eval e X.env) :: starEach es X.env := by rfl) : DA X r (e :: es) (s :: ss) :=
  PA.wk (pa_cons h t hs) fun σ H Q ⟨Hs0, H0, Hs, A, q⟩ => ⟨Hs0, H0, Hs, A, fun v Hs1 H1 g1 h1 => ⟨Hs0, H0, Hs1, A.grow g1, fun vs Hs2 H2 g2 h2 => q _ Hs2 H2 (g1.trans g2) (.cons (h1.mono g2.st) h2)⟩⟩
theorem da_1 (h : DE X r e d) (hs : starEach (e :: []) X.env = (false, eval e X.env) :: starEach [] X.env := by rfl) : DA X r [e] [.val d] := da_cons h.arg da_nil hs
/-! ### names, constants -/
theorem de_var (i : Nat) {x : Str} (hr : r[i]? = some (.val d) := by rfl) (hN : X.N[i]? = some x := by rfl) (hv : Vis X.env.scope x := by first | exact Or.inl rfl | exact Or.inr (Or.inl rfl) | exact Or.inr (Or.inr rfl))
    (hd : (x == ("__debug__" : Str)) = false := by decide) (hcd : (x == ("__classdict__" : Str)) = false := by decide) : DE X r (.Name x pos) d :=
  PE.wk (pe_var (i := i) hN hv hd hcd) fun pins s σ H Q I ⟨Hs0, H0, Hs, A, q⟩ => by
    obtain ⟨v, e1, h1⟩ := A.val hr
    exact ⟨v, e1, q v Hs H (Grw.refl A.g.sub) h1⟩
theorem dar_scr (i : Nat) {x : Str} {ns : List Int} (hr : r[i]? = some (.scr ns) := by rfl) (hN : X.N[i]? = some x := by rfl) (hv : Vis X.env.scope x := by first | exact Or.inl rfl | exact Or.inr (Or.inl rfl) | exact Or.inr (Or.inr rfl))
    (hd : (x == ("__debug__" : Str)) = false := by decide) (hcd : (x == ("__classdict__" : Str)) = false := by decide) : DAr X r (.Name x pos) (.scr ns) :=
  PE.wk (pe_var (i := i) hN hv hd hcd) fun pins s σ H Q I ⟨Hs0, H0, Hs, A, q⟩ => by
    obtain ⟨a, e1, h1⟩ := A.at_ i _ hr
    exact ⟨_, e1, q _ Hs H (Grw.refl A.g.sub) ⟨a, rfl, h1⟩⟩
theorem de_const {v : V} (h : PE X e (tC v)) (hv : ∀ H, Dat H v d) : DE X r e d := PE.wk h fun pins s σ H Q I ⟨Hs0, H0, Hs, A, q⟩ => q v Hs H (Grw.refl A.g.sub) (hv Hs)
theorem de_int {i : Int} {j : Nat} : DE X r (.Constant (.int i) j pos) (.int i) := de_const pe_int fun _ => .int i
theorem de_bl {i : Bool} {j : Nat} : DE X r (.Constant (.bool i) j pos) (.bool i) := de_const pe_bl fun _ => .bl i
theorem de_non {j : Nat} : DE X r (.Constant .none j pos) .none := de_const pe_non fun _ => .non
theorem de_str {x : Str} {j : Nat} : DE X r (.Constant (.str x) j pos) (.str x) := de_const pe_str fun _ => .str x
/-! ### operators by values -/
def R2D (r2 : R2) (d1 d2 d : PyData) : Prop := ∀ x y Hs H Q, Dat Hs x d1 → Dat Hs y d2 → Same Hs H → (∀ v Hs' H', Grw Hs H Hs' H' → Dat Hs' v d → Q v H') → r2 x y H Q
theorem tOp_d {K : PySem.W.Frag} {r2 : R2} (h : R2D r2 d1 d2 d) {σ : St} {H : Hp} {Q : VK} (q : tD K r d σ H Q) : tOp r2 (tD K r d1) (tD K r d2) σ H Q := by
  obtain ⟨Hs0, H0, Hs, A, q⟩ := q
  exact ⟨Hs0, H0, Hs, A, fun x Hs1 H1 g1 h1 => ⟨Hs0, H0, Hs1, A.grow g1, fun y Hs2 H2 g2 h2 => h x y Hs2 H2 Q (h1.mono g2.st) h2 g2.sub fun v Hs3 H3 g3 h3 => q v Hs3 H3 ((g1.trans g2).trans g3) h3⟩⟩
theorem de_op {op : Operator} {r2 : R2} (ho : OpR X (binaryOp op) r2) (h : R2D r2 d1 d2 d) (ha : DE X r a d1) (hb : DE X r b d2) : DE X r (.BinOp a op b pos) d :=
  PE.wk (pe_op ho ha hb) fun pins s σ H Q I q => tOp_d h q
theorem de_cmp {op : CmpOp} {r2 : R2} (ho : OpR X (compareOp op) r2) (h : R2D r2 d1 d2 d) (ha : DE X r a d1) (hb : DE X r b d2) (hm : behindInMarks op b = false) : DE X r (.Compare a [op] [b] pos) d :=
  PE.wk (pe_cmpR ho ha hb hm) fun pins s σ H Q I q => tOp_d h q
theorem de_ixr {r2 : R2} (ho : IxR X r2) (h : R2D r2 d1 d2 d) (ha : DE X r a d1) (hb : DE X r b d2) (hs : PlainIx b) : DE X r (.Subscript a b pos) d :=
  PE.wk (pe_ix ho ha hb hs) fun pins s σ H Q I q => tOp_d h q
theorem r2_int {C : Int → Int → Prop} {g : Int → Int → Int} {i j : Int} (hc : C i j) : R2D (rI C fun i j => .int (g i j)) (.int i) (.int j) (.int (g i j)) := fun x y Hs H Q hx hy hs q => by
  rw [hx.inv_int, hy.inv_int]
  exact ⟨i, j, rfl, rfl, hc, q _ Hs H (Grw.refl hs) (.int _)⟩
theorem r2_int0 {g : Int → Int → Int} {i j : Int} : R2D (rI0 fun i j => .int (g i j)) (.int i) (.int j) (.int (g i j)) := fun x y Hs H Q hx hy hs q => by
  rw [hx.inv_int, hy.inv_int]
  exact ⟨i, j, rfl, rfl, q _ Hs H (Grw.refl hs) (.int _)⟩
theorem r2_bl0 {g : Int → Int → Bool} {i j : Int} : R2D (rI0 fun i j => .bl (g i j)) (.int i) (.int j) (.bool (g i j)) := fun x y Hs H Q hx hy hs q => by
  rw [hx.inv_int, hy.inv_int]
  exact ⟨i, j, rfl, rfl, q _ Hs H (Grw.refl hs) (.bl _)⟩
variable {i j : Int}
theorem de_add (ha : DE X r a (.int i)) (hb : DE X r b (.int j)) : DE X r (.BinOp a .Add b pos) (.int (i + j)) := de_op op_add r2_int0 ha hb
theorem de_sub (ha : DE X r a (.int i)) (hb : DE X r b (.int j)) : DE X r (.BinOp a .Sub b pos) (.int (i - j)) := de_op op_sub r2_int0 ha hb
theorem de_mul (hc : CMul i j) (ha : DE X r a (.int i)) (hb : DE X r b (.int j)) : DE X r (.BinOp a .Mult b pos) (.int (i * j)) := de_op op_mul (r2_int hc) ha hb
theorem de_fdiv (hc : 0 < j ∧ j < 1073741824) (ha : DE X r a (.int i)) (hb : DE X r b (.int j)) : DE X r (.BinOp a .FloorDiv b pos) (.int (i / j)) := de_op op_fdiv (r2_int hc) ha hb
theorem de_mod (hc : 0 < j) (ha : DE X r a (.int i)) (hb : DE X r b (.int j)) : DE X r (.BinOp a .Mod b pos) (.int (i % j)) := de_op op_mod (r2_int (C := fun _ j => 0 < j) hc) ha hb
theorem de_lt (ha : DE X r a (.int i)) (hb : DE X r b (.int j)) : DE X r (.Compare a [.Lt] [b] pos) (.bool (decide (i < j))) := de_cmp op_lt r2_bl0 ha hb (nomark _)
theorem de_le (ha : DE X r a (.int i)) (hb : DE X r b (.int j)) : DE X r (.Compare a [.LtE] [b] pos) (.bool (decide (i ≤ j))) := de_cmp op_le r2_bl0 ha hb (nomark _)
theorem de_gt (ha : DE X r a (.int i)) (hb : DE X r b (.int j)) : DE X r (.Compare a [.Gt] [b] pos) (.bool (decide (j < i))) := de_cmp op_gt r2_bl0 ha hb (nomark _)
theorem de_ge (ha : DE X r a (.int i)) (hb : DE X r b (.int j)) : DE X r (.Compare a [.GtE] [b] pos) (.bool (decide (j ≤ i))) := de_cmp op_ge r2_bl0 ha hb (nomark _)
theorem r2_eqD {K : PySem.W.Frag} (h1 : SeqAt.shaped d1 = true) (h2 : SeqAt.shaped d2 = true) : R2D (rEqD K) d1 d2 (.bool (PyData.eqv d1 d2)) := fun x y Hs H Q hx hy hs q =>
  ⟨d1, d2, (hx.mono hs).dp, (hy.mono hs).dp, h1, h2, q _ Hs H (Grw.refl hs) (.bl _)⟩
theorem r2_neD {K : PySem.W.Frag} (h1 : SeqAt.shaped d1 = true) (h2 : SeqAt.shaped d2 = true) : R2D (rNeD K) d1 d2 (.bool (!PyData.eqv d1 d2)) := fun x y Hs H Q hx hy hs q =>
  ⟨d1, d2, (hx.mono hs).dp, (hy.mono hs).dp, h1, h2, q _ Hs H (Grw.refl hs) (.bl _)⟩
theorem de_eq (hu : X.A.units + 64 < cLine) (h1 : SeqAt.shaped d1 = true) (h2 : SeqAt.shaped d2 = true) (ha : DE X r a d1) (hb : DE X r b d2) : DE X r (.Compare a [.Eq] [b] pos) (.bool (PyData.eqv d1 d2)) := de_cmp (op_eqD hu) (r2_eqD h1 h2) ha hb (nomark _)
theorem de_ne (hu : X.A.units + 64 < cLine) (h1 : SeqAt.shaped d1 = true) (h2 : SeqAt.shaped d2 = true) (ha : DE X r a d1) (hb : DE X r b d2) : DE X r (.Compare a [.NotEq] [b] pos) (.bool (!PyData.eqv d1 d2)) := de_cmp (op_neD hu) (r2_neD h1 h2) ha hb (nomark _)
def isNone : PyData → Bool
  | .none => true
  | _ => false
theorem Dat.isN {H : Hp} {v : V} {d : PyData} (h : Dat H v d) : decide (v = .non) = isNone d := by
  cases h <;> first | rfl | (apply decide_eq_false; intro q; cases q)
theorem de_isN {k : Nat} {p : Pos} (ha : DE X r a d) : DE X r (.Compare a [.Is] [.Constant .none k p] pos) (.bool (isNone d)) :=
  de_cmp op_isN (fun x y Hs H Q hx hy hs q => ⟨hy.inv_none, by rw [hx.isN]; exact q _ Hs H (Grw.refl hs) (.bl _)⟩) ha de_non (nomark _)
theorem de_notN {k : Nat} {p : Pos} (ha : DE X r a d) : DE X r (.Compare a [.IsNot] [.Constant .none k p] pos) (.bool (!isNone d)) :=
  de_cmp op_notN (fun x y Hs H Q hx hy hs q => ⟨hy.inv_none, by rw [hx.isN]; exact q _ Hs H (Grw.refl hs) (.bl _)⟩) ha de_non (nomark _)
/-! ### tests -/
theorem dt_val {b : Bool} (h : DE X r e (.bool b)) (he : ∀ whole, isTrue e X.env whole = (do let v ← whole; standAt e.pos; holding [v] (truthy v)) := by intro _; rfl) : DT X r e b :=
  PT.wk (pt_val h he) fun σ H Q ⟨Hs0, H0, Hs, A, q⟩ => ⟨Hs0, H0, Hs, A, fun v Hs' H' g hv => ⟨b, hv.inv_bool, q Hs' H' g⟩⟩
theorem dt_cmp {op : CmpOp} {r2 : R2} {k : Bool} (ho : OpR X (compareOp op) r2) (h : R2D r2 d1 d2 (.bool k)) (ha : DE X r a d1) (hb : DE X r b d2) (hm : behindInMarks op b = false) : DT X r (.Compare a [op] [b] pos) k :=
  PT.wk (pt_cmpR ho ha hb hm) fun σ H Q ⟨Hs0, H0, Hs, A, q⟩ => tOp_d h ⟨Hs0, H0, Hs, A, fun v Hs' H' g hv => ⟨k, hv.inv_bool, q Hs' H' g⟩⟩
theorem dt_lt (ha : DE X r a (.int i)) (hb : DE X r b (.int j)) : DT X r (.Compare a [.Lt] [b] pos) (decide (i < j)) := dt_cmp op_lt r2_bl0 ha hb (nomark _)
theorem dt_le (ha : DE X r a (.int i)) (hb : DE X r b (.int j)) : DT X r (.Compare a [.LtE] [b] pos) (decide (i ≤ j)) := dt_cmp op_le r2_bl0 ha hb (nomark _)
theorem dt_gt (ha : DE X r a (.int i)) (hb : DE X r b (.int j)) : DT X r (.Compare a [.Gt] [b] pos) (decide (j < i)) := dt_cmp op_gt r2_bl0 ha hb (nomark _)
theorem dt_ge (ha : DE X r a (.int i)) (hb : DE X r b (.int j)) : DT X r (.Compare a [.GtE] [b] pos) (decide (j ≤ i)) := dt_cmp op_ge r2_bl0 ha hb (nomark _)
theorem dt_eq (hu : X.A.units + 64 < cLine) (h1 : SeqAt.shaped d1 = true) (h2 : SeqAt.shaped d2 = true) (ha : DE X r a d1) (hb : DE X r b d2) : DT X r (.Compare a [.Eq] [b] pos) (PyData.eqv d1 d2) := dt_cmp (op_eqD hu) (r2_eqD h1 h2) ha hb (nomark _)
theorem dt_ne (hu : X.A.units + 64 < cLine) (h1 : SeqAt.shaped d1 = true) (h2 : SeqAt.shaped d2 = true) (ha : DE X r a d1) (hb : DE X r b d2) : DT X r (.Compare a [.NotEq] [b] pos) (!PyData.eqv d1 d2) := dt_cmp (op_neD hu) (r2_neD h1 h2) ha hb (nomark _)
theorem dt_isN {k : Nat} {p : Pos} (ha : DE X r a d) : DT X r (.Compare a [.Is] [.Constant .none k p] pos) (isNone d) :=
  dt_cmp op_isN (fun x y Hs H Q hx hy hs q => ⟨hy.inv_none, by rw [hx.isN]; exact q _ Hs H (Grw.refl hs) (.bl _)⟩) ha de_non (nomark _)
theorem dt_notN {k : Nat} {p : Pos} (ha : DE X r a d) : DT X r (.Compare a [.IsNot] [.Constant .none k p] pos) (!isNone d) :=
  dt_cmp op_notN (fun x y Hs H Q hx hy hs q => ⟨hy.inv_none, by rw [hx.isN]; exact q _ Hs H (Grw.refl hs) (.bl _)⟩) ha de_non (nomark _)
variable {k k' : Bool} {rest : List Expr}
theorem DW.dt (h : DW X r e k) : DT X r e k := PW.pt h
theorem dw_and1 (h : DT X r a k) : DW X r (.BoolOp .And [a] pos) k := pw_and1 h
theorem dw_or1 (h : DT X r a k) : DW X r (.BoolOp .Or [a] pos) k := pw_or1 h
theorem pw_never : PW X e (fun _ _ _ => False) := ⟨fun _ _ _ _ _ _ _ h => h.elim⟩
theorem dw_and (h : DT X r a k) (h' : k = true → DW X r (.BoolOp .And (b :: rest) pos) k') : DW X r (.BoolOp .And (a :: b :: rest) pos) (k && k') := by
  cases k with
  | true => exact PW.wk (pw_and h (h' rfl)) fun σ H Q ⟨Hs0, H0, Hs, A, q⟩ => ⟨Hs0, H0, Hs, A, fun Hs' H' g => iteT (⟨Hs0, H0, Hs', A.grow g, fun Hs2 H2 g2 => q Hs2 H2 (g.trans g2)⟩)⟩
  | false => exact PW.wk (pw_and h pw_never) fun σ H Q ⟨Hs0, H0, Hs, A, q⟩ => ⟨Hs0, H0, Hs, A, fun Hs' H' g => iteF (q Hs' H' g)⟩
theorem dw_or (h : DT X r a k) (h' : k = false → DW X r (.BoolOp .Or (b :: rest) pos) k') : DW X r (.BoolOp .Or (a :: b :: rest) pos) (k || k') := by
  cases k with
  | false => exact PW.wk (pw_or h (h' rfl)) fun σ H Q ⟨Hs0, H0, Hs, A, q⟩ => ⟨Hs0, H0, Hs, A, fun Hs' H' g => iteF (⟨Hs0, H0, Hs', A.grow g, fun Hs2 H2 g2 => q Hs2 H2 (g.trans g2)⟩)⟩
  | true => exact PW.wk (pw_or h pw_never) fun σ H Q ⟨Hs0, H0, Hs, A, q⟩ => ⟨Hs0, H0, Hs, A, fun Hs' H' g => iteT (q Hs' H' g)⟩
theorem dt_not (h : DT X r a k) : DT X r (.UnaryOp .Not a pos) (!k) := PT.wk (pt_not h) fun σ H Q ⟨Hs0, H0, Hs, A, q⟩ => ⟨Hs0, H0, Hs, A, q⟩
theorem de_not (h : DE X r a (.bool k)) : DE X r (.UnaryOp .Not a pos) (.bool (!k)) := PE.wk (pe_not h) fun pins s σ H Q I ⟨Hs0, H0, Hs, A, q⟩ => ⟨Hs0, H0, Hs, A, fun v Hs' H' g hv => ⟨k, hv.inv_bool, q _ Hs' H' g (.bl _)⟩⟩
theorem de_one {op : PySem.BoolOp} (h : DE X r a d) : DE X r (.BoolOp op [a] pos) d := pe_one h
theorem pe_never : PE X e (fun _ _ _ => False) := ⟨fun _ _ _ _ _ _ h => h.elim⟩
theorem pt_never : PT X e (fun _ _ _ => False) := ⟨fun _ _ _ _ _ _ h => h.elim⟩
theorem de_and (h : DE X r a (.bool k)) (h' : k = true → DE X r (.BoolOp .And (b :: rest) pos) (.bool k')) : DE X r (.BoolOp .And (a :: b :: rest) pos) (.bool (k && k')) := by
  cases k with
  | true => exact PE.wk (pe_and h (h' rfl)) fun pins s σ H Q I ⟨Hs0, H0, Hs, A, q⟩ => ⟨Hs0, H0, Hs, A, fun v Hs' H' g hv => ⟨true, hv.inv_bool, iteT (⟨Hs0, H0, Hs', A.grow g, fun v Hs2 H2 g2 h2 => q v Hs2 H2 (g.trans g2) h2⟩)⟩⟩
  | false => exact PE.wk (pe_and h pe_never) fun pins s σ H Q I ⟨Hs0, H0, Hs, A, q⟩ => ⟨Hs0, H0, Hs, A, fun v Hs' H' g hv => ⟨false, hv.inv_bool, iteF (q _ Hs' H' g (.bl _))⟩⟩
theorem de_or (h : DE X r a (.bool k)) (h' : k = false → DE X r (.BoolOp .Or (b :: rest) pos) (.bool k')) : DE X r (.BoolOp .Or (a :: b :: rest) pos) (.bool (k || k')) := by
  cases k with
  | false => exact PE.wk (pe_or h (h' rfl)) fun pins s σ H Q I ⟨Hs0, H0, Hs, A, q⟩ => ⟨Hs0, H0, Hs, A, fun v Hs' H' g hv => ⟨false, hv.inv_bool, iteF (⟨Hs0, H0, Hs', A.grow g, fun v Hs2 H2 g2 h2 => q v Hs2 H2 (g.trans g2) h2⟩)⟩⟩
  | true => exact PE.wk (pe_or h pe_never) fun pins s σ H Q I ⟨Hs0, H0, Hs, A, q⟩ => ⟨Hs0, H0, Hs, A, fun v Hs' H' g hv => ⟨true, hv.inv_bool, iteT (q _ Hs' H' g (.bl _))⟩⟩
theorem de_ifExp (h : DT X r c k) (ha : k = true → DE X r a d) (hb : k = false → DE X r b d) : DE X r (.IfExp c a b pos) d := by
  cases k with
  | true => exact PE.wk (pe_ifExp h (ha rfl) pe_never) fun pins s σ H Q I ⟨Hs0, H0, Hs, A, q⟩ => ⟨Hs0, H0, Hs, A, fun Hs' H' g => iteT (⟨Hs0, H0, Hs', A.grow g, fun v Hs2 H2 g2 h2 => q v Hs2 H2 (g.trans g2) h2⟩)⟩
  | false => exact PE.wk (pe_ifExp h pe_never (hb rfl)) fun pins s σ H Q I ⟨Hs0, H0, Hs, A, q⟩ => ⟨Hs0, H0, Hs, A, fun Hs' H' g => iteF (⟨Hs0, H0, Hs', A.grow g, fun v Hs2 H2 g2 h2 => q v Hs2 H2 (g.trans g2) h2⟩)⟩
/-! ### displays -/
theorem de_tup {es : List Expr} {k : Nat} (h : DA X r es (ds.map Slot.val)) (hz : ds.length ≤ sizeLine) : DE X r (.Tuple es k pos) (.tuple ds) :=
  PE.wk (pe_tup h) fun pins s σ H Q I ⟨Hs0, H0, Hs, A, q⟩ => ⟨Hs0, H0, Hs, A, fun vs Hs1 H1 g1 h1 => ⟨by rw [h1.length, List.length_map]; exact hz, fun p hp =>
    q _ _ _ (g1.trans (Grw.laid (o := .tup vs) g1.sub hp)) (.tup upd_same (h1.dats.mono (same_upd (g1.sub.free hp))))⟩⟩
theorem dn_lst {es : List Expr} (h : DA X r es (ds.map Slot.val)) (hz : ds.length ≤ sizeLine) : DN X r (.List es pos) ds :=
  PE.wk (pe_lst h) fun pins s σ H Q I ⟨Hs0, H0, Hs, A, q⟩ => ⟨Hs0, H0, Hs, A, fun vs Hs1 H1 g1 h1 => ⟨by rw [h1.length, List.length_map]; exact hz, fun p hp =>
    q p vs Hs1 (upd H1 p (.lst vs)) (g1.trans (Grw.laidO g1.sub hp)) (g1.all.free hp) (g1.sub.free hp) upd_same h1.dats⟩⟩
/-! ### built-in calls, methods -/
def CRD (rc : List V → Hp → VK → Prop) (ds : List PyData) (d : PyData) : Prop := ∀ vs Hs H Q, Dats Hs vs ds → Same Hs H → (∀ v Hs' H', Grw Hs H Hs' H' → Dat Hs' v d → Q v H') → rc vs H Q
def CRN (rc : List V → Hp → VK → Prop) (ds es : List PyData) : Prop := ∀ vs Hs H Q, Dats Hs vs ds → Same Hs H → (∀ p vs Hs' H', Grw Hs H Hs' H' → H p = none → Hs' p = none → H' p = some (.lst vs) → Dats Hs' vs es → Q (.ref p) H') → rc vs H Q
theorem tCB_d {K : PySem.W.Frag} {rc : List V → Hp → VK → Prop} (h : CRD rc ds d) {σ : St} {H : Hp} {Q : VK} (q : tD K r d σ H Q) : tCB rc (tDA K r (ds.map Slot.val)) σ H Q := by
  obtain ⟨Hs0, H0, Hs, A, q⟩ := q
  exact ⟨Hs0, H0, Hs, A, fun vs Hs1 H1 g1 h1 => h vs Hs1 H1 Q h1.dats g1.sub fun v Hs2 H2 g2 h2 => q v Hs2 H2 (g1.trans g2) h2⟩
theorem tCB_n {K : PySem.W.Frag} {rc : List V → Hp → VK → Prop} {es : List PyData} (h : CRN rc ds es) {σ : St} {H : Hp} {Q : VK} (q : tN K r es σ H Q) : tCB rc (tDA K r (ds.map Slot.val)) σ H Q := by
  obtain ⟨Hs0, H0, Hs, A, q⟩ := q
  exact ⟨Hs0, H0, Hs, A, fun vs Hs1 H1 g1 h1 => h vs Hs1 H1 Q h1.dats g1.sub fun p vs Hs2 H2 g2 hp hp' h2 h3 => q p vs Hs2 H2 (g1.trans g2) (g1.all.free hp) hp' h2 h3⟩
theorem de_callB {id : String} {x : Str} {rc : List V → Hp → VK → Prop} {es : List Expr} {p : Pos} (hc : CallR X (.builtin id) rc) (h : CRD rc ds d) (hg : Gl X x) (hm : X.mg x = none) (hv : bootBuiltins x = some (.builtin id)) (ha : DA X r (e :: es) (ds.map Slot.val)) (hn : x ≠ "__name__" := by decide) (hdb : (x == ("__debug__" : Str)) = false := by decide)
    (he : starEach (e :: es) X.env = (false, eval e X.env) :: starEach es X.env := by rfl) (hpl : (backTo pos (starEach es X.env)).any (·.1) = false := by rfl) : DE X r (.Call (.Name x p) (e :: es) [] pos) d :=
  PE.wk (pe_callB hc hg hm hv ha hn hdb he hpl) fun pins s σ H Q I q => tCB_d h q
theorem dn_callB {id : String} {x : Str} {rc : List V → Hp → VK → Prop} {es : List Expr} {p : Pos} {ls : List PyData} (hc : CallR X (.builtin id) rc) (h : CRN rc ds ls) (hg : Gl X x) (hm : X.mg x = none) (hv : bootBuiltins x = some (.builtin id)) (ha : DA X r (e :: es) (ds.map Slot.val)) (hn : x ≠ "__name__" := by decide) (hdb : (x == ("__debug__" : Str)) = false := by decide)
    (he : starEach (e :: es) X.env = (false, eval e X.env) :: starEach es X.env := by rfl) (hpl : (backTo pos (starEach es X.env)).any (·.1) = false := by rfl) : DN X r (.Call (.Name x p) (e :: es) [] pos) ls :=
  PE.wk (pe_callB hc hg hm hv ha hn hdb he hpl) fun pins s σ H Q I q => tCB_n h q
theorem de_callT {T : String} {x : Str} {rc : List V → Hp → VK → Prop} {es : List Expr} {p : Pos} (hc : CallR X (.type T) rc) (h : CRD rc ds d) (hg : Gl X x) (hm : X.mg x = none) (hv : bootBuiltins x = some (.type T)) (ha : DA X r (e :: es) (ds.map Slot.val)) (hn : x ≠ "__name__" := by decide) (hdb : (x == ("__debug__" : Str)) = false := by decide)
    (he : starEach (e :: es) X.env = (false, eval e X.env) :: starEach es X.env := by rfl) (hpl : (backTo pos (starEach es X.env)).any (·.1) = false := by rfl) : DE X r (.Call (.Name x p) (e :: es) [] pos) d :=
  PE.wk (pe_callTy hc hg hm hv ha hn hdb he hpl) fun pins s σ H Q I q => tCB_d h q
theorem dn_callT {T : String} {x : Str} {rc : List V → Hp → VK → Prop} {es : List Expr} {p : Pos} {ls : List PyData} (hc : CallR X (.type T) rc) (h : CRN rc ds ls) (hg : Gl X x) (hm : X.mg x = none) (hv : bootBuiltins x = some (.type T)) (ha : DA X r (e :: es) (ds.map Slot.val)) (hn : x ≠ "__name__" := by decide) (hdb : (x == ("__debug__" : Str)) = false := by decide)
    (he : starEach (e :: es) X.env = (false, eval e X.env) :: starEach es X.env := by rfl) (hpl : (backTo pos (starEach es X.env)).any (·.1) = false := by rfl) : DN X r (.Call (.Name x p) (e :: es) [] pos) ls :=
  PE.wk (pe_callTy hc hg hm hv ha hn hdb he hpl) fun pins s σ H Q I q => tCB_n h q
end
end Dl

namespace Dl
open PySem L2
/-! ## statements -/
structure Post where
  nx : Rho → Prop
  rt : PyData → Prop := fun _ => False
  bk : Rho → Prop := fun _ => False
  ct : Rho → Prop := fun _ => False
  ex : Addr → Prop := fun _ => False
structure Wants (K : PySem.W.Frag) (E : XK) (P : Post) (D : Ends) (Hs0 H0 Hs : Hp) : Prop where
  nx : ∀ r' σ' Hs' H', P.nx r' → Asn K Hs0 H0 r' σ' Hs' H' → Same Hs Hs' → D.nx σ' H'
  rt : ∀ d v Hs' H', P.rt d → Grw Hs0 H0 Hs' H' → Dat Hs' v d → D.rt v H'
  bk : ∀ r' σ' Hs' H', P.bk r' → Asn K Hs0 H0 r' σ' Hs' H' → Same Hs Hs' → D.bk σ' H'
  ct : ∀ r' σ' Hs' H', P.ct r' → Asn K Hs0 H0 r' σ' Hs' H' → Same Hs Hs' → D.ct σ' H'
  ex : ∀ C Hs' H', P.ex C → Grw Hs0 H0 Hs' H' → E (.ref C) none H'
def tDS (K : PySem.W.Frag) (E : XK) (r : Rho) (P : Post) : TS := fun D σ H => ∃ Hs0 H0 Hs, Asn K Hs0 H0 r σ Hs H ∧ Wants K E P D Hs0 H0 Hs
def DS (X : Cx) (E : XK) (r : Rho) (st : Stmt) (P : Post) : Prop := PS X st (tDS X.K E r P)
def DSs (X : Cx) (E : XK) (r : Rho) (sts : List Stmt) (P : Post) : Prop := PSs X sts (tDS X.K E r P)
theorem Wants.st {K : PySem.W.Frag} {E : XK} {P : Post} {D : Ends} {Hs0 H0 Hs Hs1 : Hp} (w : Wants K E P D Hs0 H0 Hs) (e : Same Hs Hs1) : Wants K E P D Hs0 H0 Hs1 :=
  ⟨fun r' σ' Hs' H' p a s => w.nx r' σ' Hs' H' p a (e.trans s), w.rt, fun r' σ' Hs' H' p a s => w.bk r' σ' Hs' H' p a (e.trans s), fun r' σ' Hs' H' p a s => w.ct r' σ' Hs' H' p a (e.trans s), w.ex⟩
section
variable {X : Cx} {E : XK} {r r1 : Rho} {P : Post} {st : Stmt} {rest sts : List Stmt} {e a b c : Expr} {pos : Pos} {d d1 d2 : PyData} {ds : List PyData} {K : PySem.W.Frag}
theorem dss_nil (h : P.nx r) : DSs X E r [] P := PSs.wk pss_nil fun D σ H ⟨Hs0, H0, Hs, A, w⟩ => w.nx r σ Hs H h A (Same.refl Hs)
theorem dss_seq {M : Rho → Prop} (h : DS X E r st { P with nx := M }) (h' : ∀ r1, M r1 → DSs X E r1 rest P) : DSs X E r (st :: rest) P := by
  have hr : PSs X rest (fun D σ H => ∃ r1, M r1 ∧ tDS X.K E r1 P D σ H) := ⟨fun pins s σ H D I ⟨r1, m, q⟩ => (h' r1 m).run pins s σ H D I q⟩
  refine PSs.wk (pss_cons h hr) fun D σ H ⟨Hs0, H0, Hs, A, w⟩ => ⟨Hs0, H0, Hs, A, ?_⟩
  exact ⟨fun r' σ' Hs' H' p a s => ⟨r', p, Hs0, H0, Hs', a, w.st s⟩, w.rt, w.bk, w.ct, w.ex⟩
theorem dss_cons (h : DS X E r st { P with nx := fun z => z = r1 }) (h' : DSs X E r1 rest P) : DSs X E r (st :: rest) P := dss_seq h fun _ e => e ▸ h'
theorem dss_one (h : DS X E r st P) : DSs X E r [st] P := pss_one h
theorem ds_if {k : Bool} {as bs : List Stmt} (h : DT X r c k) (ha : k = true → DSs X E r as P) (hb : k = false → DSs X E r bs P) : DS X E r (.If c as bs pos) P := by
  cases k with
  | true => exact PS.wk (ps_if h (ha rfl) (pss_never (sts := bs))) fun _ _ D σ H _ ⟨Hs0, H0, Hs, A, w⟩ => ⟨Hs0, H0, Hs, A, fun Hs' H' g => iteT ⟨Hs0, H0, Hs', A.grow g, w.st g.st⟩⟩
  | false => exact PS.wk (ps_if h (pss_never (sts := as)) (hb rfl)) fun _ _ D σ H _ ⟨Hs0, H0, Hs, A, w⟩ => ⟨Hs0, H0, Hs, A, fun Hs' H' g => iteF ⟨Hs0, H0, Hs', A.grow g, w.st g.st⟩⟩
theorem ds_ret (h : DE X r e d) (hp : P.rt d) : DS X E r (.Return (some e) pos) P :=
  PS.wk (ps_ret h) fun _ _ D σ H _ ⟨Hs0, H0, Hs, A, w⟩ => ⟨Hs0, H0, Hs, A, fun v Hs' H' g hv => w.rt d v Hs' H' hp (A.g.trans g) hv⟩
theorem ds_expr (h : DE X r e d) (hp : P.nx r) (hs : swapsWith e none pos.line X.env = pure false := by rfl) : DS X E r (.Expr e pos) P :=
  PS.wk (ps_expr h hs) fun _ _ D σ H _ ⟨Hs0, H0, Hs, A, w⟩ => ⟨Hs0, H0, Hs, A, fun v Hs' H' g hv => w.nx r σ Hs' H' hp (A.grow g) g.st⟩
theorem ds_pass (hp : P.nx r) : DS X E r (.Pass pos) P := PS.wk ps_pass fun _ _ D σ H _ ⟨Hs0, H0, Hs, A, w⟩ => w.nx r σ Hs H hp A (Same.refl Hs)
theorem ds_break (hp : P.bk r) : DS X E r (.Break pos) P := PS.wk ps_break fun _ _ D σ H _ ⟨Hs0, H0, Hs, A, w⟩ => w.bk r σ Hs H hp A (Same.refl Hs)
theorem ds_set (i : Nat) {x : Str} {pos' : Pos} (hN : X.N.Nodup) (he : DE X r e d) (hp : P.nx (r.set i (.val d))) (hi : X.N[i]? = some x := by rfl) (hx : Loc X.env.scope x := by first | exact Or.inl rfl | exact Or.inr rfl)
    (hs : swapsWith e (some (.Name x pos')) pos.line X.env = pure false := by rfl) (hf : X.fn x = true ∨ X.env.scope.names.lookup x = some .local := by first | exact .inl rfl | exact .inr rfl | assumption) : DS X E r (.Assign [.Name x pos'] e pos) P :=
  PS.wk (ps_set (i := i) hN hi hx he hs hf) fun _ _ D σ H _ ⟨Hs0, H0, Hs, A, w⟩ => ⟨Hs0, H0, Hs, A, fun v Hs' H' g hv => w.nx _ _ Hs' H' hp ((A.grow g).setV hv) g.st⟩
theorem ds_setN (i : Nat) {x : Str} {pos' : Pos} (hN : X.N.Nodup) (he : DN X r e ds) (hp : P.nx (r.set i (.own ds))) (hi : X.N[i]? = some x := by rfl) (hx : Loc X.env.scope x := by first | exact Or.inl rfl | exact Or.inr rfl)
    (hs : swapsWith e (some (.Name x pos')) pos.line X.env = pure false := by rfl) (hf : X.fn x = true ∨ X.env.scope.names.lookup x = some .local := by first | exact .inl rfl | exact .inr rfl | assumption) : DS X E r (.Assign [.Name x pos'] e pos) P :=
  PS.wk (ps_set (i := i) hN hi hx he hs hf) fun _ _ D σ H _ ⟨Hs0, H0, Hs, A, w⟩ => ⟨Hs0, H0, Hs, A, fun p vs Hs' H' g hp1 hp2 hv hd => w.nx _ _ Hs' H' hp (A.setO g hp1 hp2 hv hd) g.st⟩
/-- an owned list handed from one name to another -/
theorem ds_move (i j : Nat) {x y : Str} {pos' py : Pos} (hN : X.N.Nodup) (hr : r[j]? = some (.own ds)) (hij : i ≠ j) (hp : P.nx ((r.set j .un).set i (.own ds))) (hi : X.N[i]? = some x := by rfl) (hj : X.N[j]? = some y := by rfl)
    (hx : Loc X.env.scope x := by first | exact Or.inl rfl | exact Or.inr rfl) (hv : Vis X.env.scope y := by first | exact Or.inl rfl | exact Or.inr (Or.inl rfl) | exact Or.inr (Or.inr rfl))
    (hd : (y == ("__debug__" : Str)) = false := by decide) (hcd : (y == ("__classdict__" : Str)) = false := by decide)
    (hs : swapsWith (.Name y py) (some (.Name x pos')) pos.line X.env = pure false := by rfl) (hf : X.fn x = true ∨ X.env.scope.names.lookup x = some .local := by first | exact .inl rfl | exact .inr rfl | assumption) : DS X E r (.Assign [.Name x pos'] (.Name y py) pos) P :=
  PS.wk (ps_set (i := i) hN hi hx (pe_var (i := j) hj hv hd hcd) hs hf) fun _ _ D σ H _ ⟨Hs0, H0, Hs, A, w⟩ => by
    obtain ⟨p, vs, e1, h0, h1, h2, h3⟩ := A.at_ j _ hr
    refine ⟨_, e1, w.nx _ _ Hs H hp ?_ (Same.refl Hs)⟩
    have hlt : j < r.length := by
      rw [List.getElem?_eq_some_iff] at hr
      exact hr.1
    have A1 : Asn X.K Hs0 H0 (r.set j .un) σ Hs H := A.weak (by rw [List.length_set, A.len]) fun k s ek => by
      rw [List.getElem?_set] at ek
      by_cases z : j = k
      · subst z
        rw [if_pos rfl, if_pos hlt] at ek
        exact .inl (Option.some.inj ek).symm
      · rw [if_neg z] at ek
        exact .inr ⟨ek, rfl⟩
    refine A1.set ⟨p, vs, rfl, h0, h1, h2, h3⟩ fun _ a ea k s' ek ok qk => ?_
    cases ea
    rw [List.getElem?_set] at ek
    by_cases z : j = k
    · subst z
      rw [if_pos rfl, if_pos hlt] at ek
      cases ek
      cases ok
    · rw [if_neg z] at ek
      exact absurd (A.dist j k p _ s' hr ek rfl ok e1 qk) z
/-- an owned list stays as it is from now on -/
theorem Asn.freeze {Hs0 H0 : Hp} {σ : St} {Hs H : Hp} {i : Nat} (A : Asn K Hs0 H0 r σ Hs H) (hr : r[i]? = some (.own ds)) : ∃ Hs', Asn K Hs0 H0 (r.set i (.val (.list ds))) σ Hs' H ∧ Same Hs Hs' := by
  obtain ⟨p, vs, e1, h0, h1, h2, h3⟩ := A.at_ i _ hr
  have hlt : i < r.length := by
    rw [List.getElem?_eq_some_iff] at hr
    exact hr.1
  refine ⟨upd Hs p (.lst vs), ⟨A.g.freeze h0 h1 h2, fun j s ej => ?_, fun j k a s s' ej ek oj ok qj qk => ?_, by rw [List.length_set, A.len]⟩, same_upd h1⟩
  · rw [List.getElem?_set] at ej
    by_cases z : i = j
    · subst z
      rw [if_pos rfl, if_pos hlt] at ej
      cases ej
      exact ⟨_, e1, .lst upd_same (h3.mono (same_upd h1))⟩
    · rw [if_neg z] at ej
      have q := A.at_ j s ej
      cases s with
      | un => trivial
      | val d => obtain ⟨v, q1, q2⟩ := q; exact ⟨v, q1, q2.mono (same_upd h1)⟩
      | own es =>
        obtain ⟨a, ws, q1, q2, q3, q4, q5⟩ := q
        refine ⟨a, ws, q1, q2, ?_, q4, q5.mono (same_upd h1)⟩
        rw [upd_ne fun w => ?_]
        · exact q3
        · subst w
          exact z (A.dist i j a _ _ hr ej rfl rfl e1 q1)
      | dic es =>
        obtain ⟨a, ws, q1, q2, q3, q4, q5⟩ := q
        refine ⟨a, ws, q1, q2, ?_, q4, q5.mono (same_upd h1)⟩
        rw [upd_ne fun w => ?_]
        · exact q3
        · subst w
          exact z (A.dist i j a _ _ hr ej rfl rfl e1 q1)
      | scr ns => obtain ⟨a, q1, q2⟩ := q; exact ⟨a, q1, (same_upd h1).seq q2⟩
  · rw [List.getElem?_set] at ej ek
    by_cases z : i = j
    · subst z
      rw [if_pos rfl, if_pos hlt] at ej
      cases ej
      cases oj
    · by_cases z' : i = k
      · subst z'
        rw [if_pos rfl, if_pos hlt] at ek
        cases ek
        cases ok
      · rw [if_neg z] at ej
        rw [if_neg z'] at ek
        exact A.dist j k a s s' ej ek oj ok qj qk
theorem dss_freeze (i : Nat) (hr : r[i]? = some (.own ds)) (h : DSs X E (r.set i (.val (.list ds))) sts P) : DSs X E r sts P := PSs.wk h fun D σ H ⟨Hs0, H0, Hs, A, w⟩ => by
  obtain ⟨Hs', A', s⟩ := A.freeze hr
  exact ⟨Hs0, H0, Hs', A', w.st s⟩
/-- slots are forgotten -/
theorem dss_weak (r1 : Rho) (h : DSs X E r1 sts P) (hl : r1.length = r.length) (hw : ∀ (i : Nat) s, r1[i]? = some s → s = .un ∨ r[i]? = some s) : DSs X E r sts P := PSs.wk h fun D σ H ⟨Hs0, H0, Hs, A, w⟩ =>
  ⟨Hs0, H0, Hs, A.weak (by rw [hl, A.len]) fun i s e => (hw i s e).elim .inl fun q => .inr ⟨q, rfl⟩, w⟩
/-! ### a list that is owned, changed -/
theorem Asn.mut {Hs0 H0 : Hp} {σ : St} {Hs H Hs1 H1 : Hp} {i : Nat} {p : Addr} {vs : List V} {ds es : List PyData} (A : Asn K Hs0 H0 r σ Hs H) (g : Grw Hs H Hs1 H1) (hr : r[i]? = some (.own ds)) (e1 : σ[i]? = some (some (.ref p))) (hv : Dats Hs1 vs es) :
    Asn K Hs0 H0 (r.set i (.own es)) σ Hs1 (upd H1 p (.lst vs)) := by
  obtain ⟨q, ws, e2, h0, h1, h2, h3⟩ := A.at_ i _ hr
  rw [e1] at e2
  injection e2 with e2; injection e2 with e2; injection e2 with e2
  subst e2
  have hlt : i < r.length := by
    rw [List.getElem?_eq_some_iff] at hr
    exact hr.1
  have n1 : Hs1 p = none := g.stay h1 h2
  have A1 := A.grow g
  refine ⟨A1.g.mut h0 n1, fun j s ej => ?_, fun j k a s s' ej ek oj ok qj qk => ?_, by rw [List.length_set, A.len]⟩
  · rw [List.getElem?_set] at ej
    by_cases z : i = j
    · subst z
      rw [if_pos rfl, if_pos hlt] at ej
      cases ej
      exact ⟨p, vs, e1, h0, n1, upd_same, hv⟩
    · rw [if_neg z] at ej
      have q := A1.at_ j s ej
      cases s with
      | un => trivial
      | val d => exact q
      | own es =>
        obtain ⟨a, ws, q1, q2, q3, q4, q5⟩ := q
        refine ⟨a, ws, q1, q2, q3, ?_, q5⟩
        rw [upd_ne fun w => ?_]
        · exact q4
        · subst w
          exact z (A.dist i j a _ _ hr ej rfl rfl e1 q1)
      | dic es =>
        obtain ⟨a, ws, q1, q2, q3, q4, q5⟩ := q
        refine ⟨a, ws, q1, q2, q3, ?_, q5⟩
        rw [upd_ne fun w => ?_]
        · exact q4
        · subst w
          exact z (A.dist i j a _ _ hr ej rfl rfl e1 q1)
      | scr ns => exact q
  · have fix : ∀ (m : Nat) s, (r.set i (.own es))[m]? = some s → s.isOwn = true → ∃ s0, r[m]? = some s0 ∧ s0.isOwn = true := fun m s em om => by
      rw [List.getElem?_set] at em
      by_cases z : i = m
      · subst z
        exact ⟨_, hr, rfl⟩
      · rw [if_neg z] at em
        exact ⟨s, em, om⟩
    obtain ⟨s0, f1, f2⟩ := fix j s ej oj
    obtain ⟨s1, f3, f4⟩ := fix k s' ek ok
    exact A.dist j k a s0 s1 f1 f3 f2 f4 qj qk
theorem ds_append (i : Nat) {x : Str} {px pa cpos : Pos} (hr : r[i]? = some (.own ds)) (he : DE X r e d) (hz : ds.length < sizeLine) (hp : P.nx (r.set i (.own (ds ++ [d]))))
    (hN : X.N[i]? = some x := by rfl) (hv : Vis X.env.scope x := by first | exact Or.inl rfl | exact Or.inr (Or.inl rfl) | exact Or.inr (Or.inr rfl))
    (hd : (x == ("__debug__" : Str)) = false := by decide) (hcd : (x == ("__classdict__" : Str)) = false := by decide)
    (hs : swapsWith (.Call (.Attribute (.Name x px) "append" pa) [e] [] cpos) none pos.line X.env = pure false := by rfl) (hes : starEach [e] X.env = (false, eval e X.env) :: starEach [] X.env := by rfl)
    (hpe : ∀ {to t}, PE X (.Name x px) to → PA X [e] t → PE X (.Call (.Attribute (.Name x px) "append" pa) [e] [] cpos) (tBM X.K "list" rAppend to t) := by
      intro to t h1 h2; exact pe_bm PySem.F.plainAttrs_list PySem.F.slot_list_append PySem.F.type_list_append mt_append h1 h2) :
    DS X E r (.Expr (.Call (.Attribute (.Name x px) "append" pa) [e] [] cpos) pos) P :=
  PS.wk (ps_expr (hpe (pe_var (i := i) hN hv hd hcd) (da_cons he.arg da_nil hes)) hs) fun _ _ D σ H _ ⟨Hs0, H0, Hs, A, w⟩ => by
    obtain ⟨p, vs, e1, h0, h1, h2, h3⟩ := A.at_ i _ hr
    refine ⟨_, e1, .inl ⟨rfl, vs, SqL.of h2⟩, Hs0, H0, Hs, A, fun us Hs1 H1 g1 ha => ?_⟩
    cases ha with
    | cons hu t =>
      cases t
      refine ⟨p, vs, _, rfl, rfl, g1.all _ _ h2, by rw [h3.length]; exact hz, w.nx _ _ Hs1 _ hp (A.mut g1 hr e1 ((h3.mono g1.st).snoc hu)) g1.st⟩
theorem ds_extend (i : Nat) {x : Str} {px pa cpos : Pos} {es : List PyData} (hr : r[i]? = some (.own ds)) (he : DE X r e (.list es)) (hz : ds.length + es.length ≤ sizeLine) (hp : P.nx (r.set i (.own (ds ++ es))))
    (hN : X.N[i]? = some x := by rfl) (hv : Vis X.env.scope x := by first | exact Or.inl rfl | exact Or.inr (Or.inl rfl) | exact Or.inr (Or.inr rfl))
    (hd : (x == ("__debug__" : Str)) = false := by decide) (hcd : (x == ("__classdict__" : Str)) = false := by decide)
    (hs : swapsWith (.Call (.Attribute (.Name x px) "extend" pa) [e] [] cpos) none pos.line X.env = pure false := by rfl) (hes : starEach [e] X.env = (false, eval e X.env) :: starEach [] X.env := by rfl)
    (hpe : ∀ {to t}, PE X (.Name x px) to → PA X [e] t → PE X (.Call (.Attribute (.Name x px) "extend" pa) [e] [] cpos) (tBM X.K "list" rExtend to t) := by
      intro to t h1 h2; exact pe_bm PySem.F.plainAttrs_list PySem.F.slot_list_extend PySem.F.type_list_extend mt_extend h1 h2) :
    DS X E r (.Expr (.Call (.Attribute (.Name x px) "extend" pa) [e] [] cpos) pos) P :=
  PS.wk (ps_expr (hpe (pe_var (i := i) hN hv hd hcd) (da_cons he.arg da_nil hes)) hs) fun _ _ D σ H _ ⟨Hs0, H0, Hs, A, w⟩ => by
    obtain ⟨p, vs, e1, h0, h1, h2, h3⟩ := A.at_ i _ hr
    refine ⟨_, e1, .inl ⟨rfl, vs, SqL.of h2⟩, Hs0, H0, Hs, A, fun us Hs1 H1 g1 ha => ?_⟩
    cases ha with
    | cons hu t =>
      cases t
      obtain ⟨b, ws, rfl, hb, hw⟩ := Dat.inv_list hu
      refine ⟨p, b, vs, ws, rfl, rfl, g1.all _ _ h2, g1.sub _ _ hb, by rw [h3.length, hw.length]; exact hz, w.nx _ _ Hs1 _ hp (A.mut g1 hr e1 ((h3.mono g1.st).append hw)) g1.st⟩
/-- x[i] where x is an owned list -/
theorem de_ixOwn (i : Nat) {x : Str} {px : Pos} {k : Int} (hr : r[i]? = some (.own ds)) (hb : DE X r b (.int k)) (hk : atI ds k = some d) (hs : PlainIx b)
    (hN : X.N[i]? = some x := by rfl) (hv : Vis X.env.scope x := by first | exact Or.inl rfl | exact Or.inr (Or.inl rfl) | exact Or.inr (Or.inr rfl))
    (hd : (x == ("__debug__" : Str)) = false := by decide) (hcd : (x == ("__classdict__" : Str)) = false := by decide) : DE X r (.Subscript (.Name x px) b pos) d :=
  PE.wk (pe_ix ix_list (pe_var (i := i) hN hv hd hcd) hb hs) fun _ _ σ H Q _ ⟨Hs0, H0, Hs, A, q⟩ => by
    obtain ⟨p, vs, e1, h0, h1, h2, h3⟩ := A.at_ i _ hr
    refine ⟨_, e1, Hs0, H0, Hs, A, fun u Hs1 H1 g1 hu => ?_⟩
    have hl := h3.length
    unfold atI at hk
    cases e : ixN ds.length k with
    | none => rw [e] at hk; cases hk
    | some j =>
      rw [e] at hk
      obtain ⟨v, e2, hv2⟩ := Dats.get h3 hk
      refine ⟨p, vs, k, v, rfl, hu.inv_int, SqL.of (g1.all _ _ h2), ?_, q v Hs1 H1 g1 (hv2.mono g1.st)⟩
      unfold atI
      rw [hl, e]
      exact e2
/-- x[k] = e where x is an owned list -/
theorem ds_setIx (i : Nat) {x : Str} {px ps : Pos} {k : Int} {j : Nat} (hr : r[i]? = some (.own ds)) (he : DE X r e d) (hb : DE X r b (.int k)) (hk : ixN ds.length k = some j) (hp : P.nx (r.set i (.own (ds.set j d))))
    (hN : X.N[i]? = some x := by rfl) (hv : Vis X.env.scope x := by first | exact Or.inl rfl | exact Or.inr (Or.inl rfl) | exact Or.inr (Or.inr rfl))
    (hd : (x == ("__debug__" : Str)) = false := by decide) (hcd : (x == ("__classdict__" : Str)) = false := by decide)
    (hpg : ∀ {to ti : TE}, PE X (.Name x px) to → PE X b ti → PG X (.Subscript (.Name x px) b ps) (gSub to ti rSetL) := by intro to ti h1 h2; exact pg_sub h1 h2 set_list)
    (hs : swapsWithSole [.Subscript (.Name x px) b ps] e pos.line X.env = pure false := by rfl) (hw : swappedStores [.Subscript (.Name x px) b ps] e X.env = pure none := by rfl)
    (h1 : (assignEach [.Subscript (.Name x px) b ps] X.env).map (·.2) = [assign (.Subscript (.Name x px) b ps) X.env] := by rfl) : DS X E r (.Assign [.Subscript (.Name x px) b ps] e pos) P :=
  PS.wk (ps_asg he (hpg (pe_var (i := i) hN hv hd hcd) hb) hs hw h1) fun _ _ D σ H _ ⟨Hs0, H0, Hs, A, w⟩ => ⟨Hs0, H0, Hs, A, fun v Hs1 H1 g1 hv1 => by
    obtain ⟨p, vs, e1, h0, h1, h2, h3⟩ := A.at_ i _ hr
    refine ⟨_, e1, Hs0, H0, Hs1, A.grow g1, fun u Hs2 H2 g2 hu => ?_⟩
    have g := g1.trans g2
    refine ⟨p, vs, k, j, rfl, hu.inv_int, g.all _ _ h2, by rw [h3.length]; exact hk, w.nx _ _ Hs2 _ hp (A.mut g hr e1 (Dats.set (hv1.mono g2.st) j (h3.mono g.st))) g.st⟩⟩
/-! ### targets -/
def tTg (K : PySem.W.Frag) (ws : List Nat) (r : Rho) (d : PyData) (r2 : Rho) : TG := fun v σ H Q => ∃ Hs0 H0 Hs, Asn K Hs0 H0 r σ Hs H ∧ Dat Hs v d ∧ ∀ σ', (∀ i : Nat, i ∉ ws → σ'[i]? = σ[i]?) → σ'.length = σ.length → Asn K Hs0 H0 r2 σ' Hs H → Q σ' H
def DG (X : Cx) (tg : Expr) (ws : List Nat) (r : Rho) (d : PyData) (r2 : Rho) : Prop := PG X tg (tTg X.K ws r d r2)
theorem PG.wk {tg : Expr} {t t' : TG} (h : PG X tg t) (m : ∀ v σ H Q, t' v σ H Q → t v σ H Q) : PG X tg t' := ⟨fun pins s σ H v u Q I rv q => h.run pins s σ H v u Q I rv (m v σ H Q q)⟩
theorem PGs.wk {tg : List Expr} {t t' : TGs} (h : PGs X tg t) (m : ∀ v σ H Q, t' v σ H Q → t v σ H Q) : PGs X tg t' := ⟨fun pins s σ H v u Q I rv q => h.run pins s σ H v u Q I rv (m v σ H Q q)⟩
theorem dg_name (i : Nat) {x : Str} (hN : X.N.Nodup) (hi : X.N[i]? = some x := by rfl) (hx : Loc X.env.scope x := by first | exact Or.inl rfl | exact Or.inr rfl)
    (hf : X.fn x = true ∨ X.env.scope.names.lookup x = some .local := by first | exact .inl rfl | exact .inr rfl | assumption) : DG X (.Name x pos) [i] r d (r.set i (.val d)) :=
  PG.wk (pg_name (i := i) hN hi hx hf) fun v σ H Q ⟨Hs0, H0, Hs, A, hv, q⟩ => q _ (fun j hj => by
    rw [List.getElem?_set_ne (fun z => hj (by rw [z]; exact List.mem_singleton.mpr rfl))]) (List.length_set ..) (A.setV hv)
def tTgs (K : PySem.W.Frag) (ws : List Nat) (r : Rho) (ds : List PyData) (r2 : Rho) : TGs := fun vs σ H Q => ∃ Hs0 H0 Hs, Asn K Hs0 H0 r σ Hs H ∧ Dats Hs vs ds ∧ ∀ σ', (∀ i : Nat, i ∉ ws → σ'[i]? = σ[i]?) → σ'.length = σ.length → Asn K Hs0 H0 r2 σ' Hs H → Q σ' H
def DGs (X : Cx) (tg : List Expr) (ws : List Nat) (r : Rho) (ds : List PyData) (r2 : Rho) : Prop := PGs X tg (tTgs X.K ws r ds r2)
theorem dgs_nil : DGs X [] [] r [] r := PGs.wk pgs_nil fun vs σ H Q ⟨Hs0, H0, Hs, A, hv, q⟩ => by
  cases hv
  exact ⟨rfl, q σ (fun _ _ => rfl) rfl A⟩
theorem dgs_cons {tg : Expr} {tgs : List Expr} {ws ws' : List Nat} {r2 r3 : Rho} (h : DG X tg ws r d r2) (h' : DGs X tgs ws' r2 ds r3)
    (hs : (assignEach (tg :: tgs) X.env).map (·.2) = assign tg X.env :: (assignEach tgs X.env).map (·.2) := by rfl) : DGs X (tg :: tgs) (ws ++ ws') r (d :: ds) r3 :=
  PGs.wk (pgs_cons h h' hs) fun vs σ H Q ⟨Hs0, H0, Hs, A, hv, q⟩ => by
    cases hv with
    | cons hv1 hv2 =>
      exact ⟨_, _, rfl, Hs0, H0, Hs, A, hv1, fun σ1 k1 l1 A1 => ⟨Hs0, H0, Hs, A1, hv2, fun σ2 k2 l2 A2 => q σ2 (fun i hi => by
        rw [k2 i (fun z => hi (List.mem_append_right _ z)), k1 i (fun z => hi (List.mem_append_left _ z))]) (l2.trans l1) A2⟩⟩
theorem dg_tup {tgs : List Expr} {ws : List Nat} {k : Nat} {r2 : Rho} (hc : X.calm = true) (h : DGs X tgs ws r ds r2) (hn : (assignEach tgs X.env).length = ds.length := by rfl) (hst : (assignEach tgs X.env).findIdx? (·.1) = none := by rfl) : DG X (.Tuple tgs k pos) ws r (.tuple ds) r2 :=
  PG.wk (pg_tup hc h hn hst) fun v σ H Q ⟨Hs0, H0, Hs, A, hv, q⟩ => by
    obtain ⟨a, xs, rfl, ha, hx⟩ := hv.inv_tuple
    exact ⟨a, xs, rfl, SqT.of (A.g.sub _ _ ha), hx.length, Hs0, H0, Hs, A, hx, q⟩
theorem ds_asg {tg : Expr} {ws : List Nat} {r2 : Rho} (he : DE X r e d) (hg : DG X tg ws r d r2) (hp : P.nx r2) (hs : swapsWithSole [tg] e pos.line X.env = pure false := by rfl) (hw : swappedStores [tg] e X.env = pure none := by rfl)
    (h1 : (assignEach [tg] X.env).map (·.2) = [assign tg X.env] := by rfl) : DS X E r (.Assign [tg] e pos) P :=
  PS.wk (ps_asg he hg hs hw h1) fun _ _ D σ H _ ⟨Hs0, H0, Hs, A, w⟩ => ⟨Hs0, H0, Hs, A, fun v Hs' H' g hv => ⟨Hs0, H0, Hs', A.grow g, hv, fun σ' _ _ A' => w.nx _ _ Hs' H' hp A' g.st⟩⟩
/-! ### what is walked -/
def ItOk (Hs : Hp) (J : It) (ds : List PyData) : Prop := ∀ (i : Nat) Hs1 H1, Same Hs Hs1 → Same Hs1 H1 → (∀ d, ds[i]? = some d → J.go i H1 ∧ ∀ v H2, J.yld i H1 v H2 → ∃ Hs2, Grw Hs1 H1 Hs2 H2 ∧ Dat Hs2 v d) ∧ (ds.length = i → J.stop i H1)
def iD (K : PySem.W.Frag) (r : Rho) (ds : List PyData) : TI := fun σ H R => ∃ Hs0 H0 Hs, Asn K Hs0 H0 r σ Hs H ∧ ∀ J Hs' H', Grw Hs H Hs' H' → ItOk Hs' J ds → ds.length ≤ sizeLine → R J H'
def DI (X : Cx) (r : Rho) (tg iter : Expr) (ds : List PyData) : Prop := PI X tg iter (iD X.K r ds)
theorem PI.wk {tg iter : Expr} {t t' : TI} (h : PI X tg iter t) (m : ∀ σ H R, t' σ H R → t σ H fun J H' => (∃ pins s, Inv X pins σ H' s) → R J H') : PI X tg iter t' := ⟨fun pins s σ H R I q =>
  thn (h.run pins s σ H _ I (m σ H R q)) fun v s1 q1 => thn q1 fun itv s2 ⟨it, fp, tn, J, H', e, I', T, t0, f, q'⟩ => ⟨it, fp, tn, J, H', e, I', T, t0, f, q' ⟨_, _, I'⟩⟩⟩
theorem lst_size {pins : List (Addr × Obj)} {σ : St} {H : Hp} {s : Shared} {a : Addr} {xs : List V} (I : Inv X pins σ H s) (h : H a = some (.lst xs)) : xs.length ≤ sizeLine := (I.hok a _ h).1
theorem tup_size {pins : List (Addr × Obj)} {σ : St} {H : Hp} {s : Shared} {a : Addr} {xs : List V} (I : Inv X pins σ H s) (h : H a = some (.tup xs)) : xs.length ≤ sizeLine := (I.hok a _ h).1
theorem sqL_det {K : PySem.W.Frag} {H : Hp} {a : Addr} {xs ys : List V} {pins : List (Addr × Obj)} {σ : St} {s : Shared} (I : Inv X pins σ H s) (h : SqL X.K H a xs) (h' : SqL X.K H a ys) : xs = ys := I.list_inj h h'
theorem itl_ok {Hs : Hp} {a : Addr} {xs : List V} (h : Hs a = some (.lst xs)) (hd : Dats Hs xs ds) : ItOk Hs (Itl K a) ds := fun i Hs1 H1 s1 s2 => ⟨fun d e => by
    obtain ⟨v, e1, hv⟩ := hd.get e
    have hq : SqL K H1 a xs := SqL.of (s2 _ _ (s1 _ _ h))
    refine ⟨⟨xs, v, hq, e1⟩, fun u H2 ⟨e2, f⟩ => ?_⟩
    subst e2
    have := f xs hq
    rw [e1] at this
    cases this
    exact ⟨Hs1, Grw.refl s2, hv.mono s1⟩, fun hl => ⟨xs, SqL.of (s2 _ _ (s1 _ _ h)), by rw [hd.length]; exact Nat.le_of_eq hl⟩⟩
theorem itt_ok {Hs : Hp} {a : Addr} {xs : List V} (h : Hs a = some (.tup xs)) (hd : Dats Hs xs ds) : ItOk Hs (Itt K a) ds := fun i Hs1 H1 s1 s2 => ⟨fun d e => by
    obtain ⟨v, e1, hv⟩ := hd.get e
    have hq : SqT K H1 a xs := SqT.of (s2 _ _ (s1 _ _ h))
    refine ⟨⟨xs, v, hq, e1⟩, fun u H2 ⟨e2, f⟩ => ?_⟩
    subst e2
    have := f xs hq
    rw [e1] at this
    cases this
    exact ⟨Hs1, Grw.refl s2, hv.mono s1⟩, fun hl => ⟨xs, SqT.of (s2 _ _ (s1 _ _ h)), by rw [hd.length]; exact Nat.le_of_eq hl⟩⟩
variable {tg iter : Expr}
theorem di_list (h : DE X r iter (.list ds)) : DI X r tg iter ds := PI.wk (pi_list h) fun σ H R ⟨Hs0, H0, Hs, A, q⟩ => ⟨Hs0, H0, Hs, A, fun v Hs' H' g hv => by
    obtain ⟨a, xs, rfl, ha, hx⟩ := hv.inv_list
    exact ⟨a, rfl, ⟨xs, SqL.of (g.sub _ _ ha)⟩, fun ⟨_, _, I⟩ => q _ Hs' H' g (itl_ok ha hx) (by rw [← hx.length]; exact lst_size I (g.sub _ _ ha))⟩⟩
theorem di_tup (h : DE X r iter (.tuple ds)) : DI X r tg iter ds := PI.wk (pi_tup h) fun σ H R ⟨Hs0, H0, Hs, A, q⟩ => ⟨Hs0, H0, Hs, A, fun v Hs' H' g hv => by
    obtain ⟨a, xs, rfl, ha, hx⟩ := hv.inv_tuple
    exact ⟨a, rfl, ⟨xs, SqT.of (g.sub _ _ ha)⟩, fun ⟨_, _, I⟩ => q _ Hs' H' g (itt_ok ha hx) (by rw [← hx.length]; exact tup_size I (g.sub _ _ ha))⟩⟩
def rangeD (lo : Int) (n : Nat) : List PyData := (List.range n).map fun (i : Nat) => .int (lo + (i : Int))
theorem rangeD_length (lo : Int) (n : Nat) : (rangeD lo n).length = n := by unfold rangeD; rw [List.length_map, List.length_range]
theorem itr_ok {Hs : Hp} {lo : Int} {n : Nat} : ItOk Hs (Itr lo n) (rangeD lo n) := fun i Hs1 H1 s1 s2 => ⟨fun d e => by
    unfold rangeD at e
    rw [List.getElem?_map] at e
    by_cases hi : i < n
    · rw [List.getElem?_range hi] at e
      injection e with e
      subst e
      refine ⟨hi, fun v H2 ⟨e1, e2⟩ => ?_⟩
      subst e1; subst e2
      exact ⟨Hs1, Grw.refl s2, .int _⟩
    · rw [List.getElem?_eq_none (by rw [List.length_range]; omega)] at e
      exact absurd e (by simp), fun hl => by rw [rangeD_length] at hl; exact Nat.le_of_eq hl⟩
theorem di_range1 {p : Pos} {n : Int} (hg : Gl X "range") (hm : X.mg "range" = none) (h : DE X r a (.int n)) (h1 : -(2 ^ 62) ≤ n) (h2 : n ≤ 16777216) (hs : starEach [a] X.env = [(false, eval a X.env)] := by rfl)
    (hs' : starEach (a :: []) X.env = (false, eval a X.env) :: starEach [] X.env := by rfl) : DI X r tg (.Call (.Name "range" p) [a] [] pos) (rangeD 0 n.toNat) :=
  PI.wk (pi_range1 hg hm (da_1 h hs') hs) fun σ H R ⟨Hs0, H0, Hs, A, q⟩ => ⟨Hs0, H0, Hs, A, fun vs Hs' H' g hv => by
    cases hv with
    | cons hu t =>
      cases t
      exact ⟨n, by rw [Dat.inv_int hu], h1, by omega, fun _ => q _ Hs' H' g itr_ok (by rw [rangeD_length, sizeLine_eq]; omega)⟩⟩
theorem di_range2 {p : Pos} {lo hi : Int} (hg : Gl X "range") (hm : X.mg "range" = none) (h : DE X r a (.int lo)) (h' : DE X r b (.int hi)) (hb : -(2 ^ 62) ≤ lo ∧ lo < 2 ^ 62 ∧ -(2 ^ 62) ≤ hi ∧ hi < 2 ^ 62) (hz : hi - lo ≤ 16777216) (hs : starEach [a, b] X.env = [(false, eval a X.env), (false, eval b X.env)] := by rfl) (hs2 : starEach [b] X.env = [(false, eval b X.env)] := by rfl)
    (hs' : starEach (a :: [b]) X.env = (false, eval a X.env) :: starEach [b] X.env := by rfl) (hs'' : starEach (b :: []) X.env = (false, eval b X.env) :: starEach [] X.env := by rfl) : DI X r tg (.Call (.Name "range" p) [a, b] [] pos) (rangeD lo (hi - lo).toNat) :=
  PI.wk (pi_range2 hg hm (da_cons h.arg (da_1 h' hs'') hs') hs hs2) fun σ H R ⟨Hs0, H0, Hs, A, q⟩ => ⟨Hs0, H0, Hs, A, fun vs Hs' H' g hv => by
    cases hv with
    | cons hu t =>
      cases t with
      | cons hu' t =>
        cases t
        exact ⟨lo, hi, by rw [Dat.inv_int hu, Dat.inv_int hu'], hb, fun _ => q _ Hs' H' g itr_ok (by rw [rangeD_length, sizeLine_eq]; omega)⟩⟩
theorem DI.is {ds' : List PyData} (h : DI X r tg iter ds') (q : ds' = ds) : DI X r tg iter ds := q ▸ h
theorem ds_for {body : List Stmt} (S : Nat → Rho → Prop) (hp : PassesOwn (model X.prog X.w) X.A X.env X.xe) (hc : X.calm = true) (hi : DI X r tg iter ds) (h0 : S 0 r)
    (hstep : ∀ (i : Nat) d r1, ds[i]? = some d → ds.length ≤ sizeLine → S i r1 → ∃ ws r2, DG X tg ws r1 d r2 ∧ DSs X E r2 body { P with nx := S (i + 1), ct := S (i + 1), bk := P.nx }) (hend : ∀ r1, S ds.length r1 → P.nx r1)
    (hs : ∀ x, foldedSetIterable iter X.env x = pure x := by intro _; rfl) : DS X E r (.For tg iter body [] pos) P := by
  have hg : PG X tg (fun v σ H Q => ∃ ws r1 d r2, DG X tg ws r1 d r2 ∧ tTg X.K ws r1 d r2 v σ H Q) := ⟨fun pins s σ H v u Q I rv ⟨ws, r1, d, r2, f, q⟩ => f.run pins s σ H v u Q I rv q⟩
  have hb : PSs X body (fun D σ H => ∃ r2 P2, DSs X E r2 body P2 ∧ tDS X.K E r2 P2 D σ H) := ⟨fun pins s σ H D I ⟨r2, P2, f, q⟩ => f.run pins s σ H D I q⟩
  refine PS.wk (ps_for hp hc hi hg hb hs) fun _ _ D σ H _ ⟨Hs0, H0, Hs, A, w⟩ => ⟨Hs0, H0, Hs, A, fun J Hs' H' g ok hz => ?_⟩
  refine ⟨fun i m σ1 H1 => i + m = ds.length ∧ ∃ r1 Hs1, S i r1 ∧ Asn X.K Hs0 H0 r1 σ1 Hs1 H1 ∧ Same Hs' Hs1, ⟨ds.length, by omega, r, Hs', h0, A.grow g, Same.refl Hs'⟩, fun i m σ1 H1 ⟨em, r1, Hs1, s1, A1, k1⟩ => ?_⟩
  obtain ⟨o1, o2⟩ := ok i Hs1 H1 k1 A1.g.sub
  by_cases hi' : i < ds.length
  · refine .inr ⟨(o1 _ (List.getElem?_eq_getElem hi')).1, fun σ2 H2 => ∃ r2 Hs2, S (i + 1) r2 ∧ Asn X.K Hs0 H0 r2 σ2 Hs2 H2 ∧ Same Hs' Hs2, fun σ2 H2 ⟨r2, Hs2, q1, q2, q3⟩ => ⟨m - 1, by omega, by omega, r2, Hs2, q1, q2, q3⟩, fun v H2 hy => ?_⟩
    obtain ⟨Hs2, g2, hv⟩ := (o1 _ (List.getElem?_eq_getElem hi')).2 v H2 hy
    obtain ⟨ws, r2, f1, f2⟩ := hstep i _ r1 (List.getElem?_eq_getElem hi') hz s1
    refine ⟨ws, r1, _, r2, f1, Hs0, H0, Hs2, A1.grow g2, hv, fun σ3 _ _ A3 => ⟨r2, _, f2, Hs0, H0, Hs2, A3, ?_⟩⟩
    have k2 : Same Hs' Hs2 := k1.trans g2.st
    exact ⟨fun r' σ' Hs3 H3 p a s => ⟨r', Hs3, p, a, k2.trans s⟩, w.rt, fun r' σ' Hs3 H3 p a s => w.nx r' σ' Hs3 H3 p a ((g.st.trans k2).trans s), fun r' σ' Hs3 H3 p a s => ⟨r', Hs3, p, a, k2.trans s⟩, w.ex⟩
  · have e : i = ds.length := by omega
    subst e
    exact .inl ⟨o2 rfl, w.nx r1 σ1 Hs1 H1 (hend r1 s1) A1 (g.st.trans k1)⟩
theorem ds_while {body : List Stmt} (S : Nat → Rho → Prop) (hp : PassesOwn (model X.prog X.w) X.A X.env X.xe) (h0 : ∃ m, S m r)
    (hstep : ∀ m r1, S m r1 → ∃ k, DT X r1 c k ∧ (k = true → DSs X E r1 body { P with nx := fun r2 => ∃ m', m' < m ∧ S m' r2, ct := fun r2 => ∃ m', m' < m ∧ S m' r2, bk := P.nx }) ∧ (k = false → P.nx r1)) : DS X E r (.While c body [] pos) P := by
  have ht : PT X c (fun σ H Q => ∃ r1 k, DT X r1 c k ∧ tDT X.K r1 k σ H Q) := ⟨fun pins s σ H Q I ⟨r1, k, f, q⟩ => f.run pins s σ H Q I q⟩
  have hb : PSs X body (fun D σ H => ∃ r2 P2, DSs X E r2 body P2 ∧ tDS X.K E r2 P2 D σ H) := ⟨fun pins s σ H D I ⟨r2, P2, f, q⟩ => f.run pins s σ H D I q⟩
  refine PS.wk (ps_while hp ht hb) fun _ _ D σ H _ ⟨Hs0, H0, Hs, A, w⟩ => ?_
  obtain ⟨m0, h0⟩ := h0
  refine ⟨fun m σ1 H1 => ∃ r1 Hs1, S m r1 ∧ Asn X.K Hs0 H0 r1 σ1 Hs1 H1 ∧ Same Hs Hs1, ⟨m0, r, Hs, h0, A, Same.refl Hs⟩, fun m σ1 H1 ⟨r1, Hs1, s1, A1, k1⟩ => ?_⟩
  obtain ⟨k, f1, f2, f3⟩ := hstep m r1 s1
  refine ⟨r1, k, f1, Hs0, H0, Hs1, A1, fun Hs2 H2 g2 => ?_⟩
  cases k with
  | true =>
    refine iteT ⟨fun σ2 H2 => ∃ m', m' < m ∧ ∃ r2 Hs2, S m' r2 ∧ Asn X.K Hs0 H0 r2 σ2 Hs2 H2 ∧ Same Hs Hs2, fun σ2 H2 q => q, r1, _, f2 rfl, Hs0, H0, Hs2, A1.grow g2, ?_⟩
    have k2 : Same Hs Hs2 := k1.trans g2.st
    exact ⟨fun r' σ' Hs3 H3 ⟨m', p1, p2⟩ a s => ⟨m', p1, r', Hs3, p2, a, k2.trans s⟩, w.rt, fun r' σ' Hs3 H3 p a s => w.nx r' σ' Hs3 H3 p a (k2.trans s), fun r' σ' Hs3 H3 ⟨m', p1, p2⟩ a s => ⟨m', p1, r', Hs3, p2, a, k2.trans s⟩, w.ex⟩
  | false => exact iteF (w.nx r1 σ1 Hs2 H2 (f3 rfl) (A1.grow g2) (k1.trans g2.st))
end
end Dl

namespace Dl
open PySem L2
/-! ## defs and calls -/
def spF (K : PySem.W.Frag) (R : Rho → PyData → Prop) : Sp := fun vs H Q _ => ∃ Hs as d, Same Hs H ∧ Args K Hs vs as ∧ R as d ∧ ∀ v Hs' H', Grw Hs H Hs' H' → Dat Hs' v d → Q v H'
theorem args_slots {K : PySem.W.Frag} {Hs H : Hp} {N : List Str} {vs : List V} {as : Rho} (hs : Same Hs H) (ha : Args K Hs vs as) (hl : as.length ≤ N.length) : Asn K Hs H (as ++ List.replicate (N.length - as.length) .un) (L2.start N vs) Hs H := by
  have el := ha.length
  have key : ∀ (i : Nat) s, (as ++ List.replicate (N.length - as.length) Slot.un)[i]? = some s → s = .un ∨ ∃ v, (L2.start N vs)[i]? = some (some v) ∧ ArgOk K Hs v s := fun i s e => by
    by_cases hi : i < as.length
    · rw [List.getElem?_append_left hi] at e
      refine .inr ?_
      have hi' : i < vs.length := by omega
      have hp : ArgOk K Hs vs[i] s := by
        have : ∀ {vs : List V} {as : Rho} {i : Nat} {s : Slot}, Args K Hs vs as → as[i]? = some s → ∀ v, vs[i]? = some v → ArgOk K Hs v s := by
          intro vs as i s h
          induction h generalizing i with
          | nil => intro e; simp at e
          | cons h t ih =>
            intro e v ev
            cases i with
            | zero => simp at e ev; subst e; subst ev; exact h
            | succ j => exact ih (by simpa using e) v (by simpa using ev)
        exact this ha e _ (List.getElem?_eq_getElem hi')
      refine ⟨vs[i], ?_, hp⟩
      unfold L2.start
      rw [List.getElem?_append_left (by rw [List.length_map]; exact hi'), List.getElem?_map, List.getElem?_eq_getElem hi']
      rfl
    · rw [List.getElem?_append_right (by omega), List.getElem?_replicate] at e
      split at e
      · injection e with e; exact .inl e.symm
      · cases e
  refine ⟨Grw.refl hs, fun i s e => ?_, fun i j a s s' e1 e2 o1 o2 q1 q2 => ?_, ?_⟩
  · rcases key i s e with q | ⟨v, q1, q2⟩
    · subst q; trivial
    · cases s with
      | un => trivial
      | val d => exact ⟨v, q1, q2⟩
      | own ds => exact q2.elim
      | dic ds => exact q2.elim
      | scr ns => obtain ⟨a, rfl, h⟩ := q2; exact ⟨a, q1, h⟩
  · rcases key i s e1 with q | ⟨v, _, q⟩
    · subst q; cases o1
    · cases s with
      | un => cases o1
      | val d => cases o1
      | scr d => cases o1
      | own d => exact q.elim
      | dic d => exact q.elim
  · unfold L2.start
    rw [List.length_append, List.length_replicate, List.length_append, List.length_replicate, List.length_map, el]
section
variable {P : Program} {w : World} {K : PySem.W.Frag} {mg : Str → Option Value} {base : Heap}
abbrev cx0 (P : Program) (w : World) (K : PySem.W.Frag) (mg : Str → Option Value) (base : Heap) (N : List Str) (qual : Str) (scope : Scope) (f : Addr) (cd : Value) (A : Around) (outer : List Env) (s : Shared) (H : Hp) (E : XK) : Cx := (cxOf CX0 P w K mg base N qual scope f cd A outer s H E).nox
theorem okD {x qual : Str} {st : Stmt} {f : Addr} {fd : FuncData} {N ps : List Str} {k : Nat} {R : Rho → PyData → Prop} (F : Fun K x qual st f fd) (S : FnScope N ps (defScope st)) (len : ∀ as d, R as d → as.length = ps.length) (hn : ps.length ≤ N.length)
    (hb : ∀ (cdv : Value) (A : Around) (outer : List Env) (s : Shared) (H : Hp) (E : XK), Room k (A.deeper (PyProof.Rows.envOfC qual (defScope st) s.heap.objs.size f cdv)) → ∀ as d, R as d →
      DSs (cx0 P w K mg base N qual (defScope st) f cdv A outer s H E) E0 (as ++ List.replicate (N.length - as.length) .un) (defBody st) { nx := fun _ => d = .none, rt := fun z => z = d }) : FnOk P w K mg base CX0 (k + 1) f fd ps (spF K R) := by
  refine F.ok S (fun vs H Q E h => ?_) (fun cdv A outer s H vs Q E hr h => ?_)
  · obtain ⟨Hs, as, d, _, ha, hR, _⟩ := h
    rw [ha.length]
    exact len as d hR
  · obtain ⟨Hs, as, d, hs, ha, hR, q⟩ := h
    refine ⟨_, hb cdv A outer s H E hr as d hR, Hs, H, Hs, args_slots hs ha (by rw [len as d hR]; exact hn), ?_⟩
    exact ⟨fun r' σ' Hs' H' p a _ => q _ Hs' H' a.g (by rw [p]; exact .non), fun d' v Hs' H' p g hv => q v Hs' H' g (by rw [← p]; exact hv), fun _ _ _ _ p => p.elim, fun _ _ _ _ p => p.elim, fun _ _ _ p => p.elim⟩
end
section
variable {X : Cx} {E : XK} {r r1 : Rho} {e a b c : Expr} {pos : Pos} {d d1 d2 : PyData} {ds : List PyData} {k : Nat} {f : Addr} {fd : FuncData} {ps : List Str} {R : Rho → PyData → Prop} {as : Rho} {x : Str} {p : Pos} {es : List Expr}
theorem de_call (F : FnOk X.prog X.w X.K X.mg X.base CX0 k f fd ps (spF X.K R)) (hr : Room k X.A) (hm : X.mg x = some (.ref f)) (hk : PySem.W.keepIn X.K (.ref f) = true) (hb : Binds X.K fd ps []) (ha : DA X r (e :: es) as) (hR : R as d) (hg : Gl X x := by rfl)
    (hdb : (x == ("__debug__" : Str)) = false := by decide) (he : starEach (e :: es) X.env = (false, eval e X.env) :: starEach es X.env := by rfl) (hpl : (backTo pos (starEach es X.env)).any (·.1) = false := by rfl) : DE X r (.Call (.Name x p) (e :: es) [] pos) d :=
  PE.wk (pe_call F hr hg hm hk hb .nil pass0 ha hdb he hpl) fun _ _ σ H Q _ ⟨Hs0, H0, Hs, A, q⟩ => ⟨Hs0, H0, Hs, A, fun vs Hs1 H1 g1 h1 => by
    show spF X.K R (vs ++ []) H1 Q E0
    rw [List.append_nil]
    exact ⟨Hs1, as, d, g1.sub, h1, hR, fun v Hs2 H2 g2 h2 => q v Hs2 H2 (g1.trans g2) h2⟩⟩
/-! ## comprehensions -/
def wipeR (r : Rho) : List Nat → Rho
  | [] => r
  | v :: vs => (wipeR r vs).set v .un
theorem wipeR_length (r : Rho) : ∀ vs : List Nat, (wipeR r vs).length = r.length
  | [] => rfl
  | v :: vs => by unfold wipeR; rw [List.length_set, wipeR_length r vs]
theorem wipeR_at {r : Rho} {i : Nat} {s : Slot} : ∀ {vs : List Nat}, (wipeR r vs)[i]? = some s → s = .un ∨ (r[i]? = some s ∧ i ∉ vs)
  | [], h => .inr ⟨h, by simp⟩
  | v :: vs, h => by
    unfold wipeR at h
    rw [List.getElem?_set] at h
    by_cases z : v = i
    · rw [if_pos z] at h
      split at h
      · injection h with h; exact .inl h.symm
      · cases h
    · rw [if_neg z] at h
      rcases wipeR_at h with q | ⟨q1, q2⟩
      · exact .inl q
      · exact .inr ⟨q1, by simp; exact ⟨fun w => z w.symm, q2⟩⟩
theorem Asn.wipe {K : PySem.W.Frag} {Hs0 H0 : Hp} {r : Rho} {σ : St} {Hs H : Hp} (A : Asn K Hs0 H0 r σ Hs H) (vs : List Nat) : Asn K Hs0 H0 (wipeR r vs) (L2.wipe σ vs) Hs H :=
  A.weak (by rw [wipeR_length, L2.wipe_length, A.len]) fun i s e => (wipeR_at e).elim .inl fun ⟨q1, q2⟩ => .inr ⟨q1, wipe_out q2⟩
theorem wipe_in {σ : St} {i : Nat} : ∀ {vs : List Nat}, i ∈ vs → i < σ.length → (L2.wipe σ vs)[i]? = some none
  | v :: vs, h, hl => by
    unfold L2.wipe
    rw [List.getElem?_set]
    by_cases z : v = i
    · rw [if_pos z, if_pos (by rw [z, L2.wipe_length]; exact hl)]
    · rw [if_neg z]
      rcases List.mem_cons.mp h with q | q
      · exact absurd q.symm z
      · exact wipe_in q hl
theorem wipe_eq {σ σ' : St} {vs : List Nat} (hl : σ'.length = σ.length) (h : ∀ i : Nat, i ∉ vs → σ'[i]? = σ[i]?) : L2.wipe σ' vs = L2.wipe σ vs := by
  apply List.ext_getElem?
  intro i
  by_cases hi : i ∈ vs
  · by_cases hl2 : i < σ.length
    · rw [wipe_in hi hl2, wipe_in hi (by omega)]
    · rw [List.getElem?_eq_none (by rw [L2.wipe_length]; omega), List.getElem?_eq_none (by rw [L2.wipe_length]; omega)]
  · rw [wipe_out hi, wipe_out hi, h i hi]
theorem wipe_idem {σ : St} {vs : List Nat} : L2.wipe (L2.wipe σ vs) vs = L2.wipe σ vs := wipe_eq (L2.wipe_length σ vs) fun _ hi => wipe_out hi
def DTs (X : Cx) (r : Rho) (ifs : List Expr) (b : Bool) : Prop := PTs X ifs (tDT X.K r b)
theorem dts_nil : DTs X r [] true := ⟨fun pins s σ H Q I ⟨Hs0, H0, Hs, A, q⟩ => pts_nil.run pins s σ H Q I (q Hs H (Grw.refl A.g.sub))⟩
theorem dts_one {b : Bool} (h : DT X r c b) : DTs X r [c] b := pts_one h
/-- the block of a comprehension -/
abbrev Blk (X : Cx) (scope : Scope) (s : Shared) (H : Hp) (C : Addr) (cl : List (Str × Addr)) (fp : List Addr) : Cx := X.blk s H scope (compEnvC scope cl C X.env) fp
structure LcTurn (X : Cx) (scope : Scope) (tg : Expr) (ws : List Nat) (ifs : List Expr) (elt : Expr) (r : Rho) (d : PyData) (r2 : Rho) (b : Bool) (y : PyData) : Prop where
  tgt : ∀ s H C cl fp, DG (Blk X scope s H C cl fp) tg ws r d r2
  tst : ∀ s H C cl fp, DTs (Blk X scope s H C cl fp) r2 ifs b
  el : b = true → ∀ s H C cl fp, DE (Blk X scope s H C cl fp) r2 elt y
theorem filter_take_succ {α : Type} (p : α → Bool) (xs : List α) {i : Nat} {x : α} (h : xs[i]? = some x) : (xs.take (i + 1)).filter p = (xs.take i).filter p ++ (if p x = true then [x] else []) := by
  rw [List.take_add_one, h, List.filter_append]
  cases hp : p x <;> simp [hp]
theorem lc_core_d {α : Type} {xs : List α} {rep : α → PyData} {q : α → Bool} {g : α → PyData} {elt tg : Expr} {ifs : List Expr} {scope : Scope} {own : List (Str × Nat)} {ws : List Nat} (hw : ∀ i ∈ ws, i ∈ own.map (·.2))
    (hturn : ∀ x ∈ xs, ∃ r2, LcTurn X scope tg ws ifs elt (wipeR r (own.map (·.2))) (rep x) r2 (q x) (g x)) {σ : St} {H : Hp} {Q : VK} (h : tN X.K r ((xs.filter q).map g) σ H Q) :
    tLc (iD X.K r (xs.map rep)) (fun v σ H Q => ∃ r1 d r2, (∀ s H C cl fp, DG (Blk X scope s H C cl fp) tg ws r1 d r2) ∧ tTg X.K ws r1 d r2 v σ H Q) (fun σ H Q => ∃ r2 b, (∀ s H C cl fp, DTs (Blk X scope s H C cl fp) r2 ifs b) ∧ tDT X.K r2 b σ H Q)
      (fun σ H Q => ∃ r2 y, (∀ s H C cl fp, DE (Blk X scope s H C cl fp) r2 elt y) ∧ tD X.K r2 y σ H Q) (own.map (·.2)) σ H Q := by
  obtain ⟨Hs0, H0, Hs, A, h⟩ := h
  refine ⟨Hs0, H0, Hs, A, fun J Hs' H' g1 ok hz D hD => ?_⟩
  rw [List.length_map] at hz
  have hlen : (xs.map rep).length = xs.length := List.length_map ..
  refine ⟨fun i m H1 => i + m = xs.length ∧ ∃ Hs1 vs, Grw Hs' H' Hs1 H1 ∧ H1 D = some (.lst vs) ∧ Hs1 D = none ∧ Dats Hs1 vs (((xs.take i).filter q).map g), ⟨xs.length, by omega, Hs', [], Grw.laidO g1.sub hD, upd_same, g1.sub.free hD, .nil⟩, fun i m H1 ⟨em, Hs1, vs, gg, h1, h2, h3⟩ => ?_⟩
  obtain ⟨o1, o2⟩ := ok i Hs1 H1 gg.st gg.sub
  by_cases hi : i < xs.length
  · have e0 : (xs.map rep)[i]? = some (rep xs[i]) := by rw [List.getElem?_map, List.getElem?_eq_getElem hi]; rfl
    refine .inr ⟨(o1 _ e0).1, fun H2 => ∃ Hs1 vs, Grw Hs' H' Hs1 H2 ∧ H2 D = some (.lst vs) ∧ Hs1 D = none ∧ Dats Hs1 vs (((xs.take (i + 1)).filter q).map g), fun H2 ⟨Hs2, vs2, a1, a2, a3, a4⟩ => ⟨m - 1, by omega, by omega, Hs2, vs2, a1, a2, a3, a4⟩, fun v H2 hy => ?_⟩
    obtain ⟨Hs2, g2, hv⟩ := (o1 _ e0).2 v H2 hy
    obtain ⟨r2, T⟩ := hturn xs[i] (List.getElem_mem hi)
    have A2 : Asn X.K Hs0 H0 (wipeR r (own.map (·.2))) (L2.wipe σ (own.map (·.2))) Hs2 H2 := (A.grow ((g1.trans gg).trans g2)).wipe _
    have n2 : Hs2 D = none := g2.stay h2 h1
    refine ⟨_, _, r2, T.tgt, Hs0, H0, Hs2, A2, hv, fun σ3 k3 l3 A3 => ⟨?_, r2, q xs[i], T.tst, Hs0, H0, Hs2, A3, fun Hs4 H4 g4 => ?_⟩⟩
    · rw [wipe_eq l3 fun j hj => k3 j fun z => hj (hw j z), wipe_idem]
    · have n4 : Hs4 D = none := g4.stay n2 (g2.all _ _ h1)
      have hf := filter_take_succ q xs (List.getElem?_eq_getElem hi)
      refine ite2 (fun hb => ?_) (fun hb => ?_)
      · refine ⟨r2, g xs[i], T.el hb, Hs0, H0, Hs4, A3.grow g4, fun y Hs5 H5 g5 hy5 => ?_⟩
        have gd := (g2.trans g4).trans g5
        refine ⟨vs, gd.all _ _ h1, ?_, Hs5, vs ++ [y], ?_, upd_same, g5.stay n4 (g4.all _ _ (g2.all _ _ h1)), ?_⟩
        · rw [h3.length, List.length_map]
          refine Nat.lt_of_le_of_lt (List.length_filter_le _ _) ?_
          rw [List.length_take]
          omega
        · exact (gg.trans gd).mut hD (g5.stay n4 (g4.all _ _ (g2.all _ _ h1)))
        · rw [hf, if_pos hb, List.map_append]
          exact (h3.mono gd.st).snoc hy5
      · refine ⟨Hs4, vs, gg.trans (g2.trans g4), (g2.trans g4).all _ _ h1, n4, ?_⟩
        rw [hf, if_neg hb, List.append_nil]
        exact h3.mono (g2.trans g4).st
  · have e : i = xs.length := by omega
    subst e
    refine .inl ⟨o2 hlen, ?_⟩
    rw [List.take_length] at h3
    exact h D vs Hs1 H1 (g1.trans gg) (g1.all.free hD) h2 h1 h3
theorem dn_lc {α : Type} {xs : List α} {rep : α → PyData} {q : α → Bool} {g : α → PyData} {elt tg iter : Expr} {ifs : List Expr} {scope : Scope} (own : List (Str × Nat)) (ws : List Nat) (hc : X.calm = true) (hN : X.N.Nodup) (ok : BlkOk X.N X.env.scope scope own)
    (hi : DI X r tg iter (xs.map rep)) (hturn : ∀ x ∈ xs, ∃ r2, LcTurn X scope tg ws ifs elt (wipeR r (own.map (·.2))) (rep x) r2 (q x) (g x)) (hw : ∀ i ∈ ws, i ∈ own.map (·.2) := by decide)
    (hs : ∀ x, foldedSetIterable iter X.env x = pure x := by intro _; rfl) : DN X r (.ListComp elt [⟨tg, iter, ifs, 0⟩] scope pos) ((xs.filter q).map g) :=
  PE.wk (pe_lc (own := own) hc hN hi ok (fun s H C cl fp => ⟨fun pins s' σ H' v u Q I rv ⟨r1, d, r2, f, z⟩ => (f s H C cl fp).run pins s' σ H' v u Q I rv z⟩) (fun s H C cl fp => ⟨fun pins s' σ H' Q I ⟨r2, b, f, z⟩ => (f s H C cl fp).run pins s' σ H' Q I z⟩)
    (fun s H C cl fp => ⟨fun pins s' σ H' Q I ⟨r2, y, f, z⟩ => (f s H C cl fp).run pins s' σ H' Q I z⟩) hs) fun _ _ σ H Q _ h => lc_core_d hw hturn h
theorem filter_true {α : Type} (xs : List α) : xs.filter (fun _ => true) = xs := by
  rw [List.filter_eq_self]
  intros; rfl
/-- without tests -/
theorem dn_lc1 {α : Type} {xs : List α} {rep : α → PyData} {g : α → PyData} {elt tg iter : Expr} {scope : Scope} (own : List (Str × Nat)) (ws : List Nat) (hc : X.calm = true) (hN : X.N.Nodup) (ok : BlkOk X.N X.env.scope scope own)
    (hi : DI X r tg iter (xs.map rep)) (hturn : ∀ x ∈ xs, ∃ r2, LcTurn X scope tg ws [] elt (wipeR r (own.map (·.2))) (rep x) r2 true (g x)) (hw : ∀ i ∈ ws, i ∈ own.map (·.2) := by decide)
    (hs : ∀ x, foldedSetIterable iter X.env x = pure x := by intro _; rfl) : DN X r (.ListComp elt [⟨tg, iter, [], 0⟩] scope pos) (xs.map g) := by
  have h := dn_lc (q := fun _ => true) (pos := pos) own ws hc hN ok hi hturn hw hs
  rw [filter_true] at h
  exact h
/-- y = [..], y a local -/
theorem ds_setLc (i : Nat) {α : Type} {xs : List α} {rep : α → PyData} {q : α → Bool} {g : α → PyData} {P : Post} {y : Str} {py spos : Pos} {elt tg iter : Expr} {ifs : List Expr} {scope : Scope} (own : List (Str × Nat)) (ws : List Nat) (hc : X.calm = true) (hN : X.N.Nodup) (ok : BlkOk X.N X.env.scope scope own)
    (hi : DI X r tg iter (xs.map rep)) (hturn : ∀ x ∈ xs, ∃ r2, LcTurn X scope tg ws ifs elt (wipeR r (own.map (·.2))) (rep x) r2 (q x) (g x)) (hp : P.nx (r.set i (.own ((xs.filter q).map g))))
    (hsw : swapsWith (.ListComp elt [⟨tg, iter, ifs, 0⟩] scope pos) (some (.Name y py)) spos.line X.env = pure true) (hw : ∀ i ∈ ws, i ∈ own.map (·.2) := by decide) (hy : X.N[i]? = some y := by rfl) (hyl : X.env.scope.names.lookup y = some .local := by rfl)
    (hs : ∀ x, foldedSetIterable iter X.env x = pure x := by intro _; rfl) : DS X E r (.Assign [.Name y py] (.ListComp elt [⟨tg, iter, ifs, 0⟩] scope pos) spos) P :=
  PS.wk (ps_setLc (own := own) (spos := spos) (i := i) hc hN hy hyl hsw hi ok (fun s H C cl fp => ⟨fun pins s' σ H' v u Q I rv ⟨r1, d, r2, f, z⟩ => (f s H C cl fp).run pins s' σ H' v u Q I rv z⟩) (fun s H C cl fp => ⟨fun pins s' σ H' Q I ⟨r2, b, f, z⟩ => (f s H C cl fp).run pins s' σ H' Q I z⟩)
    (fun s H C cl fp => ⟨fun pins s' σ H' Q I ⟨r2, y, f, z⟩ => (f s H C cl fp).run pins s' σ H' Q I z⟩) hs) fun _ _ D σ H _ ⟨Hs0, H0, Hs, A, w⟩ =>
    lc_core_d hw hturn ⟨Hs0, H0, Hs, A, fun p vs Hs' H' g' hp1 hp2 hv hd => w.nx _ _ Hs' H' hp (A.setO g' hp1 hp2 hv hd) g'.st⟩
end
end Dl

namespace Dl
open PySem L2
/-! ## depth, plainness -/
mutual
theorem Dat.plain {H : Hp} : ∀ {v : V} {d : PyData}, Dat H v d → d.plain = true
  | _, _, .non => rfl
  | _, _, .bl _ => rfl
  | _, _, .int _ => rfl
  | _, _, .str _ => rfl
  | _, _, .lst _ r => by rw [PyData.plain]; exact Dats.plain r
  | _, _, .tup _ r => by rw [PyData.plain]; exact Dats.plain r
theorem Dats.plain {H : Hp} : ∀ {vs : List V} {ds : List PyData}, Dats H vs ds → PyData.plainAll ds = true
  | _, _, .nil => rfl
  | _, _, .cons h r => by rw [PyData.plainAll, Dat.plain h, Dats.plain r]; rfl
end
theorem depthAll_le {n : Nat} : ∀ {ds : List PyData}, (∀ d ∈ ds, d.depth ≤ n) → PyData.depthAll ds ≤ n
  | [], _ => Nat.zero_le _
  | d :: ds, h => by
    rw [PyData.depthAll]
    exact Nat.max_le.mpr ⟨h d List.mem_cons_self, depthAll_le fun x hx => h x (List.mem_cons_of_mem _ hx)⟩
theorem dep_tup {n : Nat} {ds : List PyData} (h : ∀ d ∈ ds, d.depth ≤ n) : (PyData.tuple ds).depth ≤ n + 1 := by
  rw [PyData.depth]
  exact Nat.succ_le_succ (depthAll_le h)
theorem dep_lst {n : Nat} {ds : List PyData} (h : ∀ d ∈ ds, d.depth ≤ n) : (PyData.list ds).depth ≤ n + 1 := by
  rw [PyData.depth]
  exact Nat.succ_le_succ (depthAll_le h)
theorem dep_map {α : Type} {n : Nat} {f : α → PyData} {xs : List α} (h : ∀ x ∈ xs, (f x).depth ≤ n) : ∀ d ∈ xs.map f, d.depth ≤ n := fun d hd => by
  obtain ⟨x, hx, rfl⟩ := List.mem_map.mp hd
  exact h x hx
theorem Dat.reads {X : Cx} {pins : List (Addr × Obj)} {σ : St} {Hs H : Hp} {s : Shared} {v : V} {u : Value} {d : PyData} (h : Dat Hs v d) (e : Same Hs H) (I : Inv X pins σ H s) (r : RelV v u) : ∃ as, Reads s.heap u d as := Dp.reads I d v u (h.mono e).dp r
section
variable {X : Cx} {E : XK} {r r1 : Rho} {e a b c : Expr} {pos p : Pos} {d d1 d2 : PyData} {ds es : List PyData} {i j : Int}
/-! ### == and in, of data -/
def rEqP (neg : Bool) : R2 := fun x y H Q => ∃ d e, Dat H x d ∧ Dat H y e ∧ min d.depth e.depth ≤ 60 ∧ Q (.bl (if neg then !PyData.eqv d e else PyData.eqv d e)) H
theorem op_eqP (hu : X.A.units + 64 < cLine) : OpR X (compareOp .Eq) (rEqP false) := fun pins s σ H x y v u Q I rx ry ⟨d, e, hx, hy, hd, q⟩ => by
  obtain ⟨as, r1⟩ := hx.reads (Same.refl H) I rx
  obtain ⟨bs, r2⟩ := hy.reads (Same.refl H) I ry
  exact PySem.SeqAt.eq_plain r1 r2 hx.plain hy.plain (by omega) ⟨.bl _, H, I, rfl, q⟩
theorem op_neP (hu : X.A.units + 64 < cLine) : OpR X (compareOp .NotEq) (rEqP true) := fun pins s σ H x y v u Q I rx ry ⟨d, e, hx, hy, hd, q⟩ => by
  obtain ⟨as, r1⟩ := hx.reads (Same.refl H) I rx
  obtain ⟨bs, r2⟩ := hy.reads (Same.refl H) I ry
  exact PySem.SeqAt.ne_plain r1 r2 hx.plain hy.plain (by omega) ⟨.bl _, H, I, rfl, q⟩
theorem r2_eqP {neg : Bool} (hd : min d1.depth d2.depth ≤ 60) : R2D (rEqP neg) d1 d2 (.bool (if neg then !PyData.eqv d1 d2 else PyData.eqv d1 d2)) := fun x y Hs H Q hx hy hs q =>
  ⟨d1, d2, hx.mono hs, hy.mono hs, hd, q _ Hs H (Grw.refl hs) (.bl _)⟩
theorem de_eqP (hu : X.A.units + 64 < cLine) (hd : min d1.depth d2.depth ≤ 60) (ha : DE X r a d1) (hb : DE X r b d2) : DE X r (.Compare a [.Eq] [b] pos) (.bool (PyData.eqv d1 d2)) := de_cmp (op_eqP hu) (r2_eqP hd) ha hb (nomark _)
theorem de_neP (hu : X.A.units + 64 < cLine) (hd : min d1.depth d2.depth ≤ 60) (ha : DE X r a d1) (hb : DE X r b d2) : DE X r (.Compare a [.NotEq] [b] pos) (.bool (!PyData.eqv d1 d2)) := de_cmp (op_neP hu) (r2_eqP hd) ha hb (nomark _)
theorem dt_eqP (hu : X.A.units + 64 < cLine) (hd : min d1.depth d2.depth ≤ 60) (ha : DE X r a d1) (hb : DE X r b d2) : DT X r (.Compare a [.Eq] [b] pos) (PyData.eqv d1 d2) := dt_cmp (op_eqP hu) (r2_eqP hd) ha hb (nomark _)
theorem dt_neP (hu : X.A.units + 64 < cLine) (hd : min d1.depth d2.depth ≤ 60) (ha : DE X r a d1) (hb : DE X r b d2) : DT X r (.Compare a [.NotEq] [b] pos) (!PyData.eqv d1 d2) := dt_cmp (op_neP hu) (r2_eqP hd) ha hb (nomark _)
def seqOf : PyData → Option (List PyData)
  | .list xs => some xs
  | .tuple xs => some xs
  | _ => none
def rInP (neg : Bool) : R2 := fun x y H Q => ∃ d e xs, Dat H x d ∧ Dat H y e ∧ seqOf e = some xs ∧ d.depth ≤ 60 ∧ Q (.bl (if neg then !xs.any fun z => PyData.eqv z d else xs.any fun z => PyData.eqv z d)) H
theorem op_inP (hu : X.A.units + 64 < cLine) : OpR X (compareOp .In) (rInP false) := fun pins s σ H x y v u Q I rx ry ⟨d, e, xs, hx, hy, hs, hd, q⟩ => by
  obtain ⟨as, r1⟩ := hx.reads (Same.refl H) I rx
  obtain ⟨bs, r2⟩ := hy.reads (Same.refl H) I ry
  have hp := hy.plain
  cases e with
  | list ys => cases hs; rw [PyData.plain] at hp; exact PySem.SeqAt.in_list_data r2 r1 hp hx.plain (by omega) ⟨.bl _, H, I, rfl, q⟩
  | tuple ys => cases hs; rw [PyData.plain] at hp; exact PySem.SeqAt.in_tuple_data r2 r1 hp hx.plain (by omega) ⟨.bl _, H, I, rfl, q⟩
  | none => cases hs
  | bool _ => cases hs
  | int _ => cases hs
  | str _ => cases hs
  | dict _ => cases hs
theorem op_niP (hu : X.A.units + 64 < cLine) : OpR X (compareOp .NotIn) (rInP true) := fun pins s σ H x y v u Q I rx ry ⟨d, e, xs, hx, hy, hs, hd, q⟩ => by
  obtain ⟨as, r1⟩ := hx.reads (Same.refl H) I rx
  obtain ⟨bs, r2⟩ := hy.reads (Same.refl H) I ry
  have hp := hy.plain
  cases e with
  | list ys => cases hs; rw [PyData.plain] at hp; exact PySem.SeqAt.notIn_list_data r2 r1 hp hx.plain (by omega) ⟨.bl _, H, I, rfl, q⟩
  | tuple ys => cases hs; rw [PyData.plain] at hp; exact PySem.SeqAt.notIn_tuple_data r2 r1 hp hx.plain (by omega) ⟨.bl _, H, I, rfl, q⟩
  | none => cases hs
  | bool _ => cases hs
  | int _ => cases hs
  | str _ => cases hs
  | dict _ => cases hs
theorem r2_inP {neg : Bool} {xs : List PyData} (hs : seqOf d2 = some xs) (hd : d1.depth ≤ 60) : R2D (rInP neg) d1 d2 (.bool (if neg then !xs.any fun z => PyData.eqv z d1 else xs.any fun z => PyData.eqv z d1)) := fun x y Hs H Q hx hy h q =>
  ⟨d1, d2, xs, hx.mono h, hy.mono h, hs, hd, q _ Hs H (Grw.refl h) (.bl _)⟩
variable {xs : List PyData}
theorem de_in (hu : X.A.units + 64 < cLine) (ha : DE X r a d1) (hb : DE X r b d2) (hs : seqOf d2 = some xs) (hd : d1.depth ≤ 60) (hm : behindInMarks .In b = false := by rfl) : DE X r (.Compare a [.In] [b] pos) (.bool (xs.any fun z => PyData.eqv z d1)) := de_cmp (op_inP hu) (r2_inP hs hd) ha hb hm
theorem de_ni (hu : X.A.units + 64 < cLine) (ha : DE X r a d1) (hb : DE X r b d2) (hs : seqOf d2 = some xs) (hd : d1.depth ≤ 60) (hm : behindInMarks .NotIn b = false := by rfl) : DE X r (.Compare a [.NotIn] [b] pos) (.bool (!xs.any fun z => PyData.eqv z d1)) := de_cmp (op_niP hu) (r2_inP hs hd) ha hb hm
theorem dt_in (hu : X.A.units + 64 < cLine) (ha : DE X r a d1) (hb : DE X r b d2) (hs : seqOf d2 = some xs) (hd : d1.depth ≤ 60) (hm : behindInMarks .In b = false := by rfl) : DT X r (.Compare a [.In] [b] pos) (xs.any fun z => PyData.eqv z d1) := dt_cmp (op_inP hu) (r2_inP hs hd) ha hb hm
theorem dt_ni (hu : X.A.units + 64 < cLine) (ha : DE X r a d1) (hb : DE X r b d2) (hs : seqOf d2 = some xs) (hd : d1.depth ≤ 60) (hm : behindInMarks .NotIn b = false := by rfl) : DT X r (.Compare a [.NotIn] [b] pos) (!xs.any fun z => PyData.eqv z d1) := dt_cmp (op_niP hu) (r2_inP hs hd) ha hb hm
/-! ### items, slices, + -/
theorem dats_at {H : Hp} {vs : List V} {k : Int} (h : Dats H vs ds) (hk : atI ds k = some d) : ∃ v, atI vs k = some v ∧ Dat H v d := by
  unfold atI at hk ⊢
  rw [h.length]
  cases e : ixN ds.length k with
  | none => rw [e] at hk; cases hk
  | some j =>
    rw [e] at hk
    obtain ⟨v, e2, hv⟩ := h.get hk
    exact ⟨v, e2, hv⟩
theorem de_ixL (ha : DE X r a (.list ds)) (hb : DE X r b (.int i)) (hk : atI ds i = some d) (hs : PlainIx b := by intro _ _; rfl) : DE X r (.Subscript a b pos) d :=
  de_ixr ix_list (fun x y Hs H Q hx hy h q => by
    obtain ⟨p, vs, rfl, hp, hv⟩ := hx.inv_list
    obtain ⟨v, e1, hv1⟩ := dats_at hv hk
    exact ⟨p, vs, i, v, rfl, hy.inv_int, SqL.of (h _ _ hp), e1, q v Hs H (Grw.refl h) hv1⟩) ha hb hs
theorem de_ixT (ha : DE X r a (.tuple ds)) (hb : DE X r b (.int i)) (hk : atI ds i = some d) (hs : PlainIx b := by intro _ _; rfl) : DE X r (.Subscript a b pos) d :=
  de_ixr ix_tup (fun x y Hs H Q hx hy h q => by
    obtain ⟨p, vs, rfl, hp, hv⟩ := hx.inv_tuple
    obtain ⟨v, e1, hv1⟩ := dats_at hv hk
    exact ⟨p, vs, i, v, rfl, hy.inv_int, SqT.of (h _ _ hp), e1, q v Hs H (Grw.refl h) hv1⟩) ha hb hs
theorem dn_cat (hz : ds.length + es.length ≤ sizeLine) (ha : DE X r a (.list ds)) (hb : DE X r b (.list es)) : DN X r (.BinOp a .Add b pos) (ds ++ es) :=
  PE.wk (pe_op op_cat ha hb) fun _ _ σ H Q _ ⟨Hs0, H0, Hs, A, q⟩ => ⟨Hs0, H0, Hs, A, fun x Hs1 H1 g1 h1 => ⟨Hs0, H0, Hs1, A.grow g1, fun y Hs2 H2 g2 h2 => by
    obtain ⟨p, vs, rfl, hp, hv⟩ := (h1.mono g2.st).inv_list
    obtain ⟨p', ws, rfl, hp', hw⟩ := h2.inv_list
    exact ⟨p, p', vs, ws, rfl, rfl, g2.sub _ _ hp, g2.sub _ _ hp', by rw [hv.length, hw.length]; exact hz, fun l hl =>
      q l _ Hs2 _ ((g1.trans g2).trans (Grw.laidO g2.sub hl)) ((g1.trans g2).all.free hl) (g2.sub.free hl) upd_same (hv.append hw)⟩⟩⟩
theorem de_catT (hz : ds.length + es.length ≤ sizeLine) (ha : DE X r a (.tuple ds)) (hb : DE X r b (.tuple es)) : DE X r (.BinOp a .Add b pos) (.tuple (ds ++ es)) :=
  de_op op_catA (fun x y Hs H Q hx hy h q => by
    obtain ⟨p, vs, rfl, hp, hv⟩ := hx.inv_tuple
    obtain ⟨p', ws, rfl, hp', hw⟩ := hy.inv_tuple
    refine ⟨p, p', vs, ws, rfl, rfl, SqT.of (h _ _ hp), SqT.of (h _ _ hp'), by rw [hv.length, hw.length]; exact hz, fun e0 => ?_, fun _ e0 => ?_, fun _ _ l hl => ?_⟩
    · subst e0
      cases hv
      exact q _ Hs H (Grw.refl h) (.tup hp' hw)
    · subst e0
      cases hw
      rw [List.append_nil] at q
      exact q _ Hs H (Grw.refl h) (.tup hp hv)
    · exact q _ _ _ (Grw.laid h hl) (.tup upd_same ((hv.append hw).mono (same_upd (h.free hl))))) ha hb
theorem dn_rep (ha : DE X r a (.list ds)) (hb : DE X r b (.int i)) (h1 : -(2 ^ 63) ≤ i) (h2 : i < 2 ^ 63) (hz : ds.length * i.toNat ≤ sizeLine) : DN X r (.BinOp a .Mult b pos) (List.replicate i.toNat ds).flatten :=
  PE.wk (pe_op op_rep ha hb) fun _ _ σ H Q _ ⟨Hs0, H0, Hs, A, q⟩ => ⟨Hs0, H0, Hs, A, fun x Hs1 H1 g1 h1' => ⟨Hs0, H0, Hs1, A.grow g1, fun y Hs2 H2 g2 h2' => by
    obtain ⟨p, vs, rfl, hp, hv⟩ := (h1'.mono g2.st).inv_list
    exact ⟨p, i, vs, rfl, h2'.inv_int, g2.sub _ _ hp, h1, h2, by rw [hv.length]; exact hz, fun l hl =>
      q l _ Hs2 _ ((g1.trans g2).trans (Grw.laidO g2.sub hl)) ((g1.trans g2).all.free hl) (g2.sub.free hl) upd_same (hv.rep _)⟩⟩⟩
/-- a part of a slice -/
def tO (K : PySem.W.Frag) (r : Rho) (o : Option Int) : TO := fun σ H Q => ∃ Hs0 H0 Hs, Asn K Hs0 H0 r σ Hs H ∧ ∀ Hs' H', Grw Hs H Hs' H' → Q o H'
def DO (X : Cx) (r : Rho) (e : Option Expr) (o : Option Int) : Prop := PO X e (tO X.K r o)
theorem do_none : DO X r none none := ⟨fun pins s σ H Q I ⟨Hs0, H0, Hs, A, q⟩ => po_none.run pins s σ H Q I (q Hs H (Grw.refl A.g.sub))⟩
theorem do_some (h : DE X r a (.int i)) : DO X r (some a) (some i) := ⟨fun pins s σ H Q I ⟨Hs0, H0, Hs, A, q⟩ => (po_some h).run pins s σ H Q I ⟨Hs0, H0, Hs, A, fun v Hs' H' g hv => ⟨i, hv.inv_int, q Hs' H' g⟩⟩⟩
def cutD (ds : List PyData) (lo hi : Option Int) : List PyData := (ds.drop (HT.sIx ds.length 0 lo)).take (HT.sIx ds.length ds.length hi - HT.sIx ds.length 0 lo)
theorem Dats.cut {H : Hp} {vs : List V} (h : Dats H vs ds) (lo hi : Option Int) : Dats H (cutV vs lo hi) (cutD ds lo hi) := by
  unfold cutV cutD
  rw [h.length]
  exact (h.drop _).take _
variable {lo hi : Option Expr} {l u : Option Int} {p2 : Pos}
theorem dn_slL (ha : DE X r a (.list ds)) (hl : DO X r lo l) (hh : DO X r hi u) : DN X r (.Subscript a (.Slice lo hi none p2) pos) (cutD ds l u) :=
  PE.wk (pe_slice sl_list ha hl hh) fun _ _ σ H Q _ ⟨Hs0, H0, Hs, A, q⟩ => ⟨Hs0, H0, Hs, A, fun x Hs1 H1 g1 h1 => ⟨Hs0, H0, Hs1, A.grow g1, fun Hs2 H2 g2 => ⟨Hs0, H0, Hs2, A.grow (g1.trans g2), fun Hs3 H3 g3 => by
    obtain ⟨p, vs, rfl, hp, hv⟩ := (h1.mono (g2.trans g3).st).inv_list
    have g := (g1.trans g2).trans g3
    exact ⟨p, vs, rfl, SqL.of (g3.sub _ _ hp), fun z hz => q z _ Hs3 _ (g.trans (Grw.laidO g3.sub hz)) (g.all.free hz) (g3.sub.free hz) upd_same (hv.cut l u)⟩⟩⟩⟩
theorem cut_whole {vs : List V} (h : HT.sIx vs.length 0 l = 0 ∧ HT.sIx vs.length vs.length u = vs.length) : cutV vs l u = vs := by
  unfold cutV
  rw [h.1, h.2]
  simp
theorem de_slT (ha : DE X r a (.tuple ds)) (hl : DO X r lo l) (hh : DO X r hi u) : DE X r (.Subscript a (.Slice lo hi none p2) pos) (.tuple (cutD ds l u)) :=
  PE.wk (pe_slice sl_tupA ha hl hh) fun _ _ σ H Q _ ⟨Hs0, H0, Hs, A, q⟩ => ⟨Hs0, H0, Hs, A, fun x Hs1 H1 g1 h1 => ⟨Hs0, H0, Hs1, A.grow g1, fun Hs2 H2 g2 => ⟨Hs0, H0, Hs2, A.grow (g1.trans g2), fun Hs3 H3 g3 => by
    obtain ⟨p, vs, rfl, hp, hv⟩ := (h1.mono (g2.trans g3).st).inv_tuple
    have g := (g1.trans g2).trans g3
    have hc := hv.cut l u
    refine ⟨p, vs, rfl, SqT.of (g3.sub _ _ hp), fun hw => ?_, fun _ z hz => ?_⟩
    · rw [cut_whole hw] at hc
      exact q _ Hs3 H3 g (.tup hp hc)
    · exact q _ _ _ (g.trans (Grw.laid g3.sub hz)) (.tup upd_same (hc.mono (same_upd (g3.sub.free hz))))⟩⟩⟩
/-! ### built-ins -/
variable {x : Str}
theorem cr_lenL : CRD (fun xs H Q => ∃ p ys, xs = [.ref p] ∧ (SqL X.K H p ys ∨ SqT X.K H p ys) ∧ Q (.int ys.length) H) [.list ds] (.int ds.length) := fun vs Hs H Q hv h q => by
  cases hv with
  | cons h1 t =>
    cases t
    obtain ⟨p, ws, rfl, hp, hw⟩ := h1.inv_list
    exact ⟨p, ws, rfl, .inl (SqL.of (h _ _ hp)), by rw [hw.length]; exact q _ Hs H (Grw.refl h) (.int _)⟩
theorem cr_lenT : CRD (fun xs H Q => ∃ p ys, xs = [.ref p] ∧ (SqL X.K H p ys ∨ SqT X.K H p ys) ∧ Q (.int ys.length) H) [.tuple ds] (.int ds.length) := fun vs Hs H Q hv h q => by
  cases hv with
  | cons h1 t =>
    cases t
    obtain ⟨p, ws, rfl, hp, hw⟩ := h1.inv_tuple
    exact ⟨p, ws, rfl, .inr (SqT.of (h _ _ hp)), by rw [hw.length]; exact q _ Hs H (Grw.refl h) (.int _)⟩
theorem de_len (hm : X.mg "len" = none) (ha : DE X r e d) (hs : seqOf d = some ds) (hg : Gl X "len" := by rfl) (he : starEach (e :: []) X.env = (false, eval e X.env) :: starEach [] X.env := by rfl) (hpl : (backTo pos (starEach [] X.env)).any (·.1) = false := by rfl) : DE X r (.Call (.Name "len" p) [e] [] pos) (.int ds.length) := by
  cases d with
  | list xs => cases hs; exact de_callB (ds := [.list ds]) call_len_seq cr_lenL hg hm PySem.boot_len (da_1 ha he) (by decide) (by decide) he hpl
  | tuple xs => cases hs; exact de_callB (ds := [.tuple ds]) call_len_seq cr_lenT hg hm PySem.boot_len (da_1 ha he) (by decide) (by decide) he hpl
  | none => cases hs
  | bool _ => cases hs
  | int _ => cases hs
  | str _ => cases hs
  | dict _ => cases hs
theorem dn_list (hm : X.mg "list" = none) (ha : DE X r e d) (hs : seqOf d = some ds) (hg : Gl X "list" := by rfl) (he : starEach (e :: []) X.env = (false, eval e X.env) :: starEach [] X.env := by rfl) (hpl : (backTo pos (starEach [] X.env)).any (·.1) = false := by rfl) : DN X r (.Call (.Name "list" p) [e] [] pos) ds := by
  refine dn_callT (ds := [d]) call_list_of (fun vs Hs H Q hv h q => ?_) hg hm (by decide +kernel) (da_1 ha he) (by decide) (by decide) he hpl
  cases hv with
  | cons h1 t =>
    cases t
    cases d with
    | list xs =>
      cases hs
      obtain ⟨p, ws, rfl, hp, hw⟩ := h1.inv_list
      exact ⟨p, ws, rfl, .inl (SqL.of (h _ _ hp)), fun z hz => q z ws Hs _ (Grw.laidO h hz) hz (h.free hz) upd_same hw⟩
    | tuple xs =>
      cases hs
      obtain ⟨p, ws, rfl, hp, hw⟩ := h1.inv_tuple
      exact ⟨p, ws, rfl, .inr (SqT.of (h _ _ hp)), fun z hz => q z ws Hs _ (Grw.laidO h hz) hz (h.free hz) upd_same hw⟩
    | none => cases hs
    | bool _ => cases hs
    | int _ => cases hs
    | str _ => cases hs
    | dict _ => cases hs
theorem de_tuple (hm : X.mg "tuple" = none) (ha : DE X r e d) (hs : seqOf d = some ds) (hg : Gl X "tuple" := by rfl) (he : starEach (e :: []) X.env = (false, eval e X.env) :: starEach [] X.env := by rfl) (hpl : (backTo pos (starEach [] X.env)).any (·.1) = false := by rfl) : DE X r (.Call (.Name "tuple" p) [e] [] pos) (.tuple ds) := by
  refine de_callT (ds := [d]) call_tuple_of (fun vs Hs H Q hv h q => ?_) hg hm (by decide +kernel) (da_1 ha he) (by decide) (by decide) he hpl
  cases hv with
  | cons h1 t =>
    cases t
    cases d with
    | list xs =>
      cases hs
      obtain ⟨p, ws, rfl, hp, hw⟩ := h1.inv_list
      exact ⟨p, ws, rfl, .inl ⟨SqL.of (h _ _ hp), fun z hz => q _ _ _ (Grw.laid h hz) (.tup upd_same (hw.mono (same_upd (h.free hz))))⟩⟩
    | tuple xs =>
      cases hs
      obtain ⟨p, ws, rfl, hp, hw⟩ := h1.inv_tuple
      exact ⟨p, ws, rfl, .inr ⟨SqT.of (h _ _ hp), q _ Hs H (Grw.refl h) (.tup hp hw)⟩⟩
    | none => cases hs
    | bool _ => cases hs
    | int _ => cases hs
    | str _ => cases hs
    | dict _ => cases hs
end
end Dl

namespace Dl
open PySem L2 PySem.W PyProof.Rows
/-! ## sorted -/
section
variable {prog : Program} {w : World} {A : Around} {E : Value → Shared → Prop} {s : Shared}
/-- the items of a tuple, collected -/
theorem coll_tup {t : Addr} {us : List Value} {Q : List Value → Shared → Prop} (ht : IsTup s.heap t us.toArray) (hz : us.length ≤ sizeLine)
    (q : Q us { s with heap := (s.heap.push (seqObj "list" #[] 0)).update s.heap.objs.size (Obj.mapSeq (· ++ us.toArray)) }) : wpAny (model prog w) A (collect (.ref t)) Q E s := by
  obtain ⟨o, ho, hc, n, hd⟩ := id ht
  have ho1 := Heap.get?_push_of_some (seqObj "list" #[] 0) ho
  have hnew : (s.heap.push (seqObj "list" #[] 0)).get? s.heap.objs.size = some (seqObj "list" #[] 0) := Heap.get?_push_size _ rfl
  have hcat : (#[] : Array Value) ++ us.toArray = us.toArray := by simp
  unfold collect
  apply wpAny_bind
  apply wpAny_runValue
  apply codeAny_builtin entry_proto_collect'
  change wpAny _ _ (do again (.builtin "list.__iadd__" ⟨[← newList [], Value.ref t], []⟩)) _ _ s
  apply wpAny_bind
  refine wpAny_newList (wpAny_pure ⟨Code.quiet_builtin _ (by decide +kernel), ?_⟩)
  apply codeAny_builtin entry_list_iadd'
  change wpAny _ _ (Builtin.List.listExtendWith (Value.ref s.heap.objs.size) (Value.ref t) (Value.ref s.heap.objs.size)) _ _ { s with heap := s.heap.push (seqObj "list" #[] 0) }
  unfold Builtin.List.listExtendWith
  refine wpAny_bind (wpAny_typeOf (T := "tuple") ⟨o, ho1, hc⟩ ?_)
  rw [if_pos (by rw [show (Value.type "tuple" == Value.type "tuple") = true from rfl, Bool.or_true])]
  refine wpAny_bind (listItems_at ho1 hd ?_)
  refine wpAny_bind (listItems_at (xs := #[]) (n := 0) hnew rfl ?_)
  rw [if_neg (by simp)]
  refine wpAny_bind (listUpdate_at (xs := #[]) (n := 0) hnew rfl ?_ (Nat.zero_le _) (by rw [hcat, List.size_toArray]; omega))
  refine wpAny_pure ?_
  refine wpAny_bind (wpAny_load (get?_update_seq hnew _) ?_)
  change wpAny _ _ (pure ((#[] : Array Value) ++ us.toArray).toList) Q E _
  rw [hcat]
  exact wpAny_pure q
theorem sorted_tup {β : Type} {t : Addr} {us : List Value} {bs : List β} {enc : β → PyData} {R : Value → β → Prop} {Q : Value → Shared → Prop} (ht : IsTup s.heap t us.toArray) (e : EachIs R us bs) (er : EachIs (fun v b => ∃ as, Reads s.heap v (enc b) as) us bs) (hal : AllAlike (bs.map enc))
    (hk : Sortable (bs.map enc)) (hL : bs.length ≤ sizeLine) (hu : ∀ b, b ∈ bs → A.units + 2 + (enc b).depth < cLine) (q : ∀ out, out.length = bs.length → EachIs R out (bs.mergeSort (dataLe false enc)) → Q (.ref (s.heap.objs.size + 1)) { s with heap := sortedAll s.heap us (List.toArray out) }) :
    wpAny (model prog w) A (call (.builtin "sorted") [.ref t]) Q E s := by
  have hz : us.length ≤ sizeLine := by rw [e.length]; exact hL
  have er' : EachIs (fun v b => ∃ as, Reads (sortingHeap (copyHeap s.heap us) (s.heap.objs.size + 1) us) v (enc b) as) us bs := er.mono fun _ _ ⟨as, z⟩ => ⟨as, Reads.keeps (fun _ _ => sorting_copy_old) z⟩
  refine call_function_entry_kw kind_sorted plain_sorted entry_sorted (args_sorted1 _) ?_
  unfold Builtin.«sorted»
  refine wpAny_bind (m := checkCount "sorted" 1 1 _) (wpAny_pure ?_)
  refine wpAny_bind (coll_tup ht hz ?_)
  refine wpAny_bind (wpAny_newList ?_ hz)
  have hsz : ((s.heap.push (seqObj "list" #[] 0)).update s.heap.objs.size (Obj.mapSeq (· ++ us.toArray))).objs.size = s.heap.objs.size + 1 := by rw [Heap.size_update, size_push']
  change wpAny _ _ _ _ _ { s with heap := copyHeap s.heap us }
  rw [hsz]
  have S := SortsAt.data (A := A.in1.in1) (prog := prog) (w := w) (s := { s with heap := sortingHeap (copyHeap s.heap us) (s.heap.objs.size + 1) us }) (each_map (R := fun v d => ∃ as, Reads (sortingHeap (copyHeap s.heap us) (s.heap.objs.size + 1) us) v d as) enc er') hal hk (bound_map hu)
  refine wpAny_bind (wpAny_holding (wpAny_call_entry_kw slot_list_sort ⟨_, copyHeap_at s.heap us, rfl⟩ entry_list_sort ?body (args_list_sort _)))
  case body =>
    change wpAny (model prog w) A.in1.in1 (Builtin.«list.sort» ⟨[Value.ref (s.heap.objs.size + 1)], []⟩) _ _ _
    refine wpAny_mono (list_sort_vals (s := { s with heap := copyHeap s.heap us }) (P := fun f s' => f = .done (.ret .none) ∧ Q (.ref (s.heap.objs.size + 1)) s') (copyHeap_at s.heap us) S hz ⟨rfl, ?_⟩) (fun f s' hf => ?_) fun _ _ z => z
    · exact q _ (by rw [sortVals_length false rfl]; exact e.length) (sortVals_data false e er' hal)
    · obtain ⟨rfl, hq⟩ := hf
      exact ⟨_, rfl, wpAny_pure ⟨_, rfl, hq⟩⟩
end
theorem dats_each {H : Hp} : ∀ {xs : List V} {ds : List PyData} {us : List Value}, Dats H xs ds → Vals xs us → EachIs (fun (v : Value) (b : V × PyData) => RelV b.1 v ∧ Dat H b.1 b.2) us (xs.zip ds)
  | _, _, _, .nil, .nil => .nil
  | _, _, _, .cons h t, .cons r rs => .cons ⟨r, h⟩ (dats_each t rs)
theorem each_dats {H : Hp} : ∀ {us : List Value} {bs : List (V × PyData)}, EachIs (fun (v : Value) (b : V × PyData) => RelV b.1 v ∧ Dat H b.1 b.2) us bs → Vals (bs.map (·.1)) us ∧ Dats H (bs.map (·.1)) (bs.map (·.2))
  | _, _, .nil => ⟨.nil, .nil⟩
  | _, _, .cons h t => ⟨.cons h.1 (each_dats t).1, .cons h.2 (each_dats t).2⟩
theorem zip_snd {H : Hp} : ∀ {xs : List V} {ds : List PyData}, Dats H xs ds → (xs.zip ds).map (·.2) = ds
  | _, _, .nil => rfl
  | _, _, .cons _ t => by rw [List.zip_cons_cons, List.map_cons, zip_snd t]
def sortD (ds : List PyData) : List PyData := ds.mergeSort (dataLe false fun d => d)
theorem zip_sort {H : Hp} {xs : List V} {ds : List PyData} (h : Dats H xs ds) : ((xs.zip ds).mergeSort (dataLe false fun b : V × PyData => b.2)).map (·.2) = sortD ds := by
  unfold sortD
  have q := sort_maps (r := dataLe false fun b : V × PyData => b.2) (s := dataLe false fun d : PyData => d) (fun b : V × PyData => b.2) (l := xs.zip ds) fun _ _ _ _ => rfl
  rw [zip_snd h] at q
  exact q
section
variable {X : Cx} {E : XK} {r r1 : Rho} {e a b c : Expr} {pos p : Pos} {d d1 d2 : PyData} {ds es : List PyData} {i j : Int} {x : Str}
def rSortD : List V → Hp → VK → Prop := fun vs H Q => ∃ Hs v d ds, vs = [v] ∧ Same Hs H ∧ Dat Hs v d ∧ seqOf d = some ds ∧ AllAlike ds ∧ Sortable ds ∧ (∀ d ∈ ds, d.depth ≤ 60) ∧ ∀ q ys, H q = none → Dats Hs ys (sortD ds) → Q (.ref q) (upd H q (.lst ys))
theorem cr_sortD (hu : X.A.units + 64 < cLine) : CallR X (.builtin "sorted") rSortD := fun pins s σ H vs us Q I rv ⟨Hs, v, d, ds, ev, hsub, hv, hs, hal, hk, hd, q⟩ => by
  subst ev
  obtain ⟨u, rfl, ru⟩ := vals1 rv
  have fin : ∀ {xs : List V} {its : List Value}, Dats Hs xs ds → Vals xs its → ds.length ≤ sizeLine → ∀ out : List Value, out.length = (xs.zip ds).length → EachIs (fun (v : Value) (b : V × PyData) => RelV b.1 v ∧ Dat Hs b.1 b.2) out ((xs.zip ds).mergeSort (dataLe false fun b : V × PyData => b.2)) →
      EP X pins σ Q (.ref (s.heap.objs.size + 1)) { s with heap := sortedAll s.heap its out.toArray } := fun {xs its} hx hr hz out ho eo => by
    obtain ⟨e1, e2⟩ := each_dats eo
    rw [zip_sort hx] at e2
    obtain ⟨c, hc⟩ := sortedAll_at s.heap its out.toArray
    have hf : H (s.heap.objs.size + 1) = none := I.hok.fresh (Nat.le_succ _)
    refine ⟨.ref _, _, I.laid (t' := s.toks) (a := s.heap.objs.size + 1) (o := .lst _) (fun b o hb => sortedAll_old hb) (Nat.le_succ _) ⟨?_, out, c, e1, hc⟩, rfl, q _ _ hf e2⟩
    rw [e1.length, ho, List.length_zip, hx.length, Nat.min_self]
    exact hz
  have rd : ∀ {xs : List V} {its : List Value}, Dats Hs xs ds → Vals xs its → EachIs (fun (v : Value) (b : V × PyData) => ∃ as, Reads s.heap v b.2 as) its (xs.zip ds) := fun hx hr => (dats_each hx hr).mono fun v b z => z.2.reads hsub I z.1
  have dp : ∀ {xs : List V}, Dats Hs xs ds → ∀ b ∈ xs.zip ds, X.A.units + 2 + b.2.depth < cLine := fun {xs} hx b hb => by
    have := hd b.2 (by rw [← zip_snd hx]; exact List.mem_map.mpr ⟨b, hb, rfl⟩)
    omega
  have lz : ∀ {xs : List V}, Dats Hs xs ds → (xs.zip ds).length = ds.length := fun {xs} hx => by rw [List.length_zip, hx.length, Nat.min_self]
  cases d with
  | list zs =>
    cases hs
    obtain ⟨l, xs, rfl, hl, hx⟩ := hv.inv_list
    cases ru
    obtain ⟨its, hr, hp, hz⟩ := I.list (SqL.of (hsub _ _ hl))
    rw [hx.length] at hz
    refine sorted_data (bs := xs.zip ds) (enc := fun b => b.2) hp.isList (dats_each hx hr) (rd hx hr) (by rw [zip_snd hx]; exact hal) (by rw [zip_snd hx]; exact hk) (by rw [lz hx]; exact hz) (dp hx) fun out ho eo => fin hx hr hz out ho eo
  | tuple zs =>
    cases hs
    obtain ⟨l, xs, rfl, hl, hx⟩ := hv.inv_tuple
    cases ru
    obtain ⟨its, hr, hp, hz⟩ := I.tuple (SqT.of (hsub _ _ hl))
    rw [hx.length] at hz
    refine sorted_tup (bs := xs.zip ds) (enc := fun b => b.2) hp (dats_each hx hr) (rd hx hr) (by rw [zip_snd hx]; exact hal) (by rw [zip_snd hx]; exact hk) (by rw [lz hx]; exact hz) (dp hx) fun out ho eo => fin hx hr hz out ho eo
  | none => cases hs
  | bool _ => cases hs
  | int _ => cases hs
  | str _ => cases hs
  | dict _ => cases hs
theorem dn_sorted (hu : X.A.units + 64 < cLine) (hm : X.mg "sorted" = none) (ha : DE X r e d) (hs : seqOf d = some ds) (hal : AllAlike ds) (hk : Sortable ds) (hd : ∀ d ∈ ds, d.depth ≤ 60) (hg : Gl X "sorted" := by rfl)
    (he : starEach (e :: []) X.env = (false, eval e X.env) :: starEach [] X.env := by rfl) (hpl : (backTo pos (starEach [] X.env)).any (·.1) = false := by rfl) : DN X r (.Call (.Name "sorted" p) [e] [] pos) (sortD ds) := by
  refine dn_callB (ds := [d]) (cr_sortD hu) (fun vs Hs H Q hv h q => ?_) hg hm (by decide +kernel) (da_1 ha he) (by decide) (by decide) he hpl
  cases hv with
  | cons h1 t =>
    cases t
    exact ⟨Hs, _, d, ds, rfl, h, h1, hs, hal, hk, hd, fun z ys hz hy => q z ys Hs _ (Grw.laidO h hz) hz (h.free hz) upd_same hy⟩
end
end Dl

namespace Dl
open PySem L2 PySem.W PyProof.Rows
/-! ## sets of whole numbers -/
abbrev set0 (w : World) : Obj := { cls := .type "set", dict := none, data := .set #[] 0 (.fresh 0 0 (!w.params.followText "set-order")) }
section
variable {P : Program} {w : World} {A : Around} {E : Value → Shared → Prop} {s : Shared}
/-- what set(..) of a walk of whole numbers leaves -/
structure SetLaid (w : World) (ns : List Int) (s : Shared) (h' : Heap) (c : Nat) : Prop where
  set : SetR w h' s.heap.objs.size (fun j => decide (j ∈ ns)) c
  le : c ≤ ns.length
  keep : ∀ b o, s.heap.get? b = some o → h'.get? b = some o
set_option maxHeartbeats 3200000 in
theorem set_list_raw {l : Addr} {its : Array Value} (ns : List Int) {Q : Value → Shared → Prop} (hh : A.handled = none) (hl : s.heap.IsList l its) (hi : IntsAre its.toList ns) (hb : ns.length + 1 < scanBound)
    (q : ∀ (h' : Heap) (tk c : Nat), SetLaid w ns s h' c → Q (.ref s.heap.objs.size) { s with heap := h', toks := tk }) : wpAny (model P w) A (call (.type "set") [.ref l]) Q E s := by
  have hsz : its.size = ns.length := by
    have z := IntsAre.length hi
    rwa [Array.length_toList] at z
  have hlS : l < s.heap.objs.size := by
    obtain ⟨o, ho, _⟩ := hl
    exact Heap.lt_size ho
  have hS0 : (s.heap.push (set0 w)).get? s.heap.objs.size = some (set0 w) := Heap.get?_push_size _ rfl
  have hsz1 : (s.heap.push (set0 w)).objs.size = s.heap.objs.size + 1 := Heap.size_push ..
  have hl1 : (s.heap.push (set0 w)).IsList l its := hl.push _
  have hval : ∀ (i : Nat) (v : Value), its[i]? = some v → ∃ k t, ns[i]? = some k ∧ v = Value.int k t := fun i v hv => by
    have hlt : i < ns.length := by
      rw [← hsz]
      exact (Array.getElem?_eq_some_iff.mp hv).1
    obtain ⟨t, z⟩ := IntsAre.int_at hi i v (by rw [Array.getElem?_toList]; exact hv)
    refine ⟨ns[i], t, List.getElem?_eq_getElem hlt, ?_⟩
    rw [z, List.getD_eq_getElem?_getD, List.getElem?_eq_getElem hlt]
    rfl
  have hne : l ≠ (s.heap.push (set0 w)).objs.size := by
    rw [hsz1]
    exact Nat.ne_of_lt (Nat.lt_succ_of_lt hlS)
  have hnf : s.heap.objs.size ∉ [(s.heap.push (set0 w)).objs.size, l] := by
    rw [hsz1]
    intro z
    rcases List.mem_cons.mp z with z | z
    · exact absurd z (Nat.ne_of_lt (Nat.lt_succ_self _))
    · exact absurd (List.mem_singleton.mp z) (Nat.ne_of_gt hlS)
  obtain ⟨c, tl, hmro⟩ := F.called_set.mro
  have m1 := F.called_set.made
  have m2 := F.called_set.sub
  have m3 := F.called_set.notType
  have m4 := F.called_set.canCreate
  have m5 := F.typeCall_set_1 (.ref l)
  apply wpAny_call
  apply codeAny_of_tree
  change wpAny _ _ (callAny (.type "set") _) _ _ _
  refine wpAny_pure ⟨Code.quiet_builtin _ (by decide +kernel), codeAny_builtin F.entry_type_call ?_⟩
  rw [Around.under_plain (weight_type_call_type "set" [.ref l] []) rfl]
  repeat (any_goals (first | assumption | wp_step))
  refine codeAny_mono (code_set_led1 (.ref l) (E := E) (Q₁ := fun z s1 => z = .ref s.heap.objs.size ∧ s1 = { s with heap := s.heap.push (set0 w) }) ⟨rfl, rfl⟩) fun r1 s1 hr1 => ?_
  cases r1 with
  | error z => exact hr1
  | ok fl =>
    cases fl with
    | next => exact hr1
    | brk => exact hr1
    | cont => exact hr1
    | ret z =>
      obtain ⟨rfl, rfl⟩ := hr1
      have hT : Shared.TypeIs { s with heap := s.heap.push (set0 w) } (.ref s.heap.objs.size) "set" := ⟨_, hS0, rfl⟩
      have m6 := F.called_set.init.lookup
      have m7 := F.called_set.init.bind (.ref s.heap.objs.size)
      repeat (any_goals (first | assumption | wp_step))
      refine codeAny_mono (codeAny_call_builtin (R := wants (fun r s2 => r = .none ∧ ∃ h' tk c, s2 = { s with heap := h', toks := tk } ∧ SetLaid w ns s h' c) E) F.called_set.init.plain F.entry_set_init (check_set_init_1 hT ?_)) fun r2 s2 hr2 => ?_
      · have hl2 := hl1
        obtain ⟨ol, ho, hc, nl, hd⟩ := hl2
        obtain ⟨cl, di, da, sl⟩ := ol
        dsimp only at hc hd
        subst hc
        subst hd
        have m8 := F.sub_list_set
        have m9 := F.sub_list_frozenset
        have m10 : (Value.type "list" == Value.type "dict") = false := by decide
        unfold Builtin.«set.__init__» noKeywords Builtin.Frozenset.updateFrom
        generalize hPI : pyIter = PI
        wp_walk
        subst hPI
        refine wpAny_pyIter_list hl1 ?_
        refine wpAny_bind (wpAny_runValue ?_)
        have hh3 : A.in1.in1.in1.handled = none := by simp [hh]
        refine set_update_ints ((Walks.list hh3 _ l hne its).toS) s.heap.objs.size hnf ns hsz hb hval (its.size - 0) 0 _ (by omega) (Nat.zero_le _) ⟨⟨_, Heap.get?_push_size _ rfl, rfl, rfl⟩, hl1.push _⟩ ?h0 ?h1
        case h0 => exact ⟨0, Nat.le_refl 0, setR_new_at (Heap.get?_push_of_some _ hS0)⟩
        case h1 =>
          intro s' c' hm hc' hS'
          obtain ⟨h', g', d', t', o'⟩ := s'
          obtain rfl : g' = s.gens := hm.gens
          obtain rfl : d' = s.drawn := hm.drawn
          obtain rfl : o' = s.os := hm.os
          refine wpAny_pure ?_
          change wpAny _ _ (ret Value.none) _ _ _
          refine wpAny_pure ⟨rfl, h', t', c', rfl, hS', by rw [← hsz]; exact hc', fun b o e => ?_⟩
          have hlt : b < s.heap.objs.size := Heap.lt_size e
          refine hm.heap b o (fun z => ?_) (Heap.get?_push_of_some _ (Heap.get?_push_of_some _ e))
          rcases List.mem_cons.mp z with z | z
          · exact absurd z (Nat.ne_of_lt hlt)
          · rw [List.mem_singleton, hsz1] at z
            exact absurd z (Nat.ne_of_lt (Nat.lt_succ_of_lt hlt))
      · cases r2 with
        | error z => exact hr2
        | ok fl =>
          cases fl with
          | next => exact hr2
          | brk => exact hr2
          | cont => exact hr2
          | ret z =>
            obtain ⟨rfl, h', tk, c', rfl, L⟩ := hr2
            repeat (any_goals (first | assumption | wp_step))
            exact q h' tk c' L
end
end Dl

namespace Dl
open PySem L2 PySem.W PyProof.Rows
/-! ## rising lists -/
def insI (x : Int) : List Int → List Int
  | [] => [x]
  | y :: ys => if x < y then x :: y :: ys else if x = y then y :: ys else y :: insI x ys
def risen (ns : List Int) : List Int := ns.foldr insI []
theorem mem_insI (x k : Int) : ∀ l : List Int, k ∈ insI x l ↔ k = x ∨ k ∈ l
  | [] => by simp [insI]
  | y :: ys => by
    unfold insI
    split
    · simp
    · split
      · rename_i h1 h2
        subst h2
        simp
      · simp [mem_insI x k ys]
        constructor
        · rintro (h | h | h)
          · exact .inr (.inl h)
          · exact .inl h
          · exact .inr (.inr h)
        · rintro (h | h | h)
          · exact .inr (.inl h)
          · exact .inl h
          · exact .inr (.inr h)
theorem insI_pw (x : Int) : ∀ l : List Int, l.Pairwise (· < ·) → (insI x l).Pairwise (· < ·)
  | [], _ => by simp [insI]
  | y :: ys, h => by
    unfold insI
    rw [List.pairwise_cons] at h
    split
    · rename_i h1
      refine List.pairwise_cons.mpr ⟨fun z hz => ?_, List.pairwise_cons.mpr h⟩
      rcases List.mem_cons.mp hz with e | e
      · rw [e]; exact h1
      · have := h.1 z e; omega
    · split
      · exact List.pairwise_cons.mpr h
      · rename_i h1 h2
        refine List.pairwise_cons.mpr ⟨fun z hz => ?_, insI_pw x ys h.2⟩
        rcases (mem_insI x z ys).mp hz with e | e
        · rw [e]; omega
        · exact h.1 z e
theorem mem_risen (k : Int) : ∀ ns : List Int, k ∈ risen ns ↔ k ∈ ns
  | [] => by simp [risen]
  | n :: ns => by
    show k ∈ insI n (risen ns) ↔ _
    rw [mem_insI, mem_risen k ns, List.mem_cons]
theorem risen_pw : ∀ ns : List Int, (risen ns).Pairwise (· < ·)
  | [] => by simp [risen]
  | n :: ns => insI_pw n (risen ns) (risen_pw ns)
theorem rise_one : ∀ {l m : List Int}, l.Pairwise (· < ·) → m.Pairwise (· < ·) → (∀ k, k ∈ l ↔ k ∈ m) → l = m
  | [], [], _, _, _ => rfl
  | [], y :: m, _, _, h => absurd ((h y).mpr List.mem_cons_self) (by simp)
  | x :: l, [], _, _, h => absurd ((h x).mp List.mem_cons_self) (by simp)
  | x :: l, y :: m, hl, hm, h => by
    rw [List.pairwise_cons] at hl hm
    have e : x = y := by
      rcases List.mem_cons.mp ((h x).mp List.mem_cons_self) with z | z
      · exact z
      · rcases List.mem_cons.mp ((h y).mpr List.mem_cons_self) with z' | z'
        · exact z'.symm
        · have := hl.1 y z'; have := hm.1 x z; omega
    subst e
    have ht : ∀ k, k ∈ l ↔ k ∈ m := fun k => by
      constructor
      · intro hk
        rcases List.mem_cons.mp ((h k).mp (List.mem_cons_of_mem _ hk)) with z | z
        · have := hl.1 k hk; omega
        · exact z
      · intro hk
        rcases List.mem_cons.mp ((h k).mpr (List.mem_cons_of_mem _ hk)) with z | z
        · have := hm.1 k hk; omega
        · exact z
    rw [rise_one hl.2 hm.2 ht]
theorem risen_eq {ms ns : List Int} (h : ms.Pairwise (· < ·)) (hm : ∀ k, k ∈ ms ↔ k ∈ ns) : ms = risen ns := rise_one h (risen_pw ns) fun k => (hm k).trans (mem_risen k ns).symm
theorem pw_nodup {l : List Int} (h : l.Pairwise (· < ·)) : l.Nodup := h.imp fun z => by omega
theorem nodup_len {l m : List Int} (hl : l.Nodup) (hm : m.Nodup) (h : ∀ k, k ∈ l ↔ k ∈ m) : l.length = m.length := ((List.perm_ext_iff_of_nodup hl hm).mpr h).length_eq
theorem insI_len (x : Int) : ∀ l : List Int, (insI x l).length ≤ l.length + 1
  | [] => by simp [insI]
  | y :: ys => by
    unfold insI
    split
    · simp
    · split
      · simp
      · have := insI_len x ys
        simp only [List.length_cons]; omega
theorem risen_len : ∀ ns : List Int, (risen ns).length ≤ ns.length
  | [] => Nat.le_refl _
  | n :: ns => by
    show (insI n (risen ns)).length ≤ _
    have := insI_len n (risen ns)
    have := risen_len ns
    simp only [List.length_cons]; omega
theorem SetR.count {w : World} {h : Heap} {a : Addr} {ns : List Int} {n : Nat} (R : SetR w h a (fun j => decide (j ∈ ns)) n) : n = (risen ns).length := by
  obtain ⟨o, es, ep, t, ho, hx, hd, g, nd, hm, hb, hf, hn, _⟩ := R
  have : (es.toList.map keyOf).length = (risen ns).length := nodup_len nd (pw_nodup (risen_pw ns)) fun k => by
    rw [mem_risen, ← hm k, decide_eq_true_eq]
  rw [List.length_map, Array.length_toList] at this
  omega
section
variable {X : Cx} {E : XK} {r r1 : Rho} {e a b c : Expr} {pos p : Pos} {d d1 d2 : PyData} {ds es : List PyData} {i j : Int} {x : Str} {ns : List Int}
def tSt (K : PySem.W.Frag) (w : World) (r : Rho) (ns : List Int) : TE := fun σ H Q => ∃ Hs0 H0 Hs, Asn K Hs0 H0 r σ Hs H ∧ ∀ q Hs' H', Grw Hs H Hs' H' → H' q = some (SetO w q (fun j => decide (j ∈ ns)) (risen ns).length) → Q (.ref q) H'
def DSt (X : Cx) (r : Rho) (e : Expr) (ns : List Int) : Prop := PE X e (tSt X.K X.w r ns)
def rSetOfI (w : World) : List V → Hp → VK → Prop := fun vs H Q => ∃ v d, ∃ ns : List Int, vs = [v] ∧ Dat H v d ∧ seqOf d = some (ns.map .int) ∧ ns.length ≤ 4000 ∧ ∀ q, H q = none → Q (.ref q) (upd H q (SetO w q (fun j => decide (j ∈ ns)) (risen ns).length))
theorem cr_setOfI (hc : X.calm = true) : CallR X (.type "set") (rSetOfI X.w) := fun pins s σ H vs us Q I rv ⟨v, d, ns, ev, hv, hs, hn, q⟩ => by
  subst ev
  obtain ⟨u, rfl, ru⟩ := vals1 rv
  have hf : H s.heap.objs.size = none := I.hok.fresh (Nat.le_refl _)
  have hsc : ns.length + 1 < scanBound := by unfold scanBound; omega
  cases d with
  | list zs =>
    cases hs
    obtain ⟨l, xs, rfl, hl, hx⟩ := hv.inv_list
    obtain rfl := hx.ints
    cases ru
    obtain ⟨its, hr, hp, hz⟩ := I.list (SqL.of hl)
    refine set_list_raw ns (I.ok.hd hc) hp.isList (by simpa using hr.ints) hsc fun h' tk c L => ?_
    have R := L.set
    rw [SetR.count R] at R
    exact ⟨.ref _, _, I.laid (t' := tk) (fun b o hb => L.keep b o hb) (Nat.le_refl _) (setO_new R), rfl, q _ hf⟩
  | tuple zs =>
    cases hs
    obtain ⟨l, xs, rfl, hl, hx⟩ := hv.inv_tuple
    obtain rfl := hx.ints
    cases ru
    obtain ⟨its, hr, hp, hz⟩ := I.tuple (SqT.of hl)
    refine call_set_tupI ns (I.ok.hd hc) hp (by simpa using hr.ints) hsc fun h' tk c R hcl hk => ?_
    rw [SetR.count R] at R
    exact ⟨.ref _, _, I.laid (t' := tk) (fun b o hb => hk b o hb) (Nat.le_refl _) (setO_new R), rfl, q _ hf⟩
  | none => cases hs
  | bool _ => cases hs
  | int _ => cases hs
  | str _ => cases hs
  | dict _ => cases hs
theorem dst_set (hc : X.calm = true) (hm : X.mg "set" = none) (ha : DE X r e d) (hs : seqOf d = some (ns.map .int)) (hn : ns.length ≤ 4000) (hg : Gl X "set" := by rfl)
    (he : starEach (e :: []) X.env = (false, eval e X.env) :: starEach [] X.env := by rfl) (hpl : (backTo pos (starEach [] X.env)).any (·.1) = false := by rfl) : DSt X r (.Call (.Name "set" p) [e] [] pos) ns :=
  PE.wk (pe_callTy (cr_setOfI hc) hg hm (by decide +kernel) (da_1 ha he) (by decide) (by decide) he hpl) fun _ _ σ H Q _ ⟨Hs0, H0, Hs, A, q⟩ => ⟨Hs0, H0, Hs, A, fun vs Hs1 H1 g1 h1 => by
    cases h1 with
    | cons hu t =>
      cases t
      exact ⟨_, d, ns, rfl, Dat.mono g1.sub hu, hs, hn, fun z hz => q z Hs1 _ (g1.trans (Grw.laidO g1.sub hz)) upd_same⟩⟩
theorem dn_sortSet (hc : X.calm = true) (hm : X.mg "sorted" = none) (ha : DSt X r e ns) (hn : ns.length < 64) (hg : Gl X "sorted" := by rfl)
    (he : starEach (e :: []) X.env = (false, eval e X.env) :: starEach [] X.env := by rfl) (hpl : (backTo pos (starEach [] X.env)).any (·.1) = false := by rfl) : DN X r (.Call (.Name "sorted" p) [e] [] pos) ((risen ns).map .int) :=
  PE.wk (pe_callB (cr_sortedSet hc) hg hm (by decide +kernel) (pa_cons ha pa_nil he) (by decide) (by decide) he hpl) fun _ _ σ H Q _ ⟨Hs0, H0, Hs, A, q⟩ => ⟨Hs0, H0, Hs, A, fun z Hs1 H1 g1 h1 =>
    ⟨z, _, _, rfl, h1, Nat.lt_of_le_of_lt (risen_len ns) hn, fun ms l hp hm' _ hl => by
      obtain rfl : ms = risen ns := risen_eq hp fun k => by rw [hm' k, decide_eq_true_eq]
      exact q l _ Hs1 _ (g1.trans (Grw.laidO g1.sub hl)) (g1.all.free hl) (g1.sub.free hl) upd_same (Dats.of_ints _)⟩⟩
theorem cr_lenSet : CallR X (.builtin "len") (fun vs H Q => ∃ (q : Addr) (S : Int → Bool) (n : Nat), vs = [.ref q] ∧ H q = some (SetO X.w q S n) ∧ Q (.int n) H) := fun pins s σ H vs us Q I rv ⟨z, S, n, ev, hz, q⟩ => by
  subst ev
  rw [Vals.ref1 rv]
  obtain ⟨o, es, ep, t, ho, hx, hd, g, nd, hm, hb, hf, hn, _⟩ := setO_get I hz
  exact call_len_set ho hx hd hf (by unfold scanBound at hb; omega) ⟨.int n, H, I.tok _, ⟨_, by rw [hn]⟩, q⟩
theorem de_lenSet (hm : X.mg "len" = none) (ha : DSt X r e ns) (hg : Gl X "len" := by rfl)
    (he : starEach (e :: []) X.env = (false, eval e X.env) :: starEach [] X.env := by rfl) (hpl : (backTo pos (starEach [] X.env)).any (·.1) = false := by rfl) : DE X r (.Call (.Name "len" p) [e] [] pos) (.int (risen ns).length) :=
  PE.wk (pe_callB cr_lenSet hg hm PySem.boot_len (pa_cons ha pa_nil he) (by decide) (by decide) he hpl) fun _ _ σ H Q _ ⟨Hs0, H0, Hs, A, q⟩ => ⟨Hs0, H0, Hs, A, fun z Hs1 H1 g1 h1 =>
    ⟨z, _, _, rfl, h1, q _ Hs1 H1 g1 (.int _)⟩⟩
/-! ### any, all, sum, least, greatest -/
variable {bs : List Bool}
theorem de_all (hc : X.calm = true) (hm : X.mg "all" = none) (ha : DE X r e (.list (bs.map .bool))) (hg : Gl X "all" := by rfl)
    (he : starEach (e :: []) X.env = (false, eval e X.env) :: starEach [] X.env := by rfl) (hpl : (backTo pos (starEach [] X.env)).any (·.1) = false := by rfl) : DE X r (.Call (.Name "all" p) [e] [] pos) (.bool (bs.all id)) :=
  de_callB (ds := [.list (bs.map .bool)]) (cr_all hc) (fun vs Hs H Q hv h q => by
    cases hv with
    | cons h1 t =>
      cases t
      obtain ⟨l, ws, rfl, hp, hw⟩ := h1.inv_list
      obtain rfl := hw.bls
      exact ⟨l, bs, rfl, SqL.of (h _ _ hp), q _ Hs H (Grw.refl h) (.bl _)⟩) hg hm (by decide +kernel) (da_1 ha he) (by decide) (by decide) he hpl
theorem de_any (hc : X.calm = true) (hm : X.mg "any" = none) (ha : DE X r e (.list (bs.map .bool))) (hg : Gl X "any" := by rfl)
    (he : starEach (e :: []) X.env = (false, eval e X.env) :: starEach [] X.env := by rfl) (hpl : (backTo pos (starEach [] X.env)).any (·.1) = false := by rfl) : DE X r (.Call (.Name "any" p) [e] [] pos) (.bool (bs.any id)) :=
  de_callB (ds := [.list (bs.map .bool)]) (cr_any hc) (fun vs Hs H Q hv h q => by
    cases hv with
    | cons h1 t =>
      cases t
      obtain ⟨l, ws, rfl, hp, hw⟩ := h1.inv_list
      obtain rfl := hw.bls
      exact ⟨l, bs, rfl, SqL.of (h _ _ hp), q _ Hs H (Grw.refl h) (.bl _)⟩) hg hm (by decide +kernel) (da_1 ha he) (by decide) (by decide) he hpl
theorem de_sumL (hc : X.calm = true) (hm : X.mg "sum" = none) (ha : DE X r e (.list (ns.map .int))) (hg : Gl X "sum" := by rfl)
    (he : starEach (e :: []) X.env = (false, eval e X.env) :: starEach [] X.env := by rfl) (hpl : (backTo pos (starEach [] X.env)).any (·.1) = false := by rfl) : DE X r (.Call (.Name "sum" p) [e] [] pos) (.int ns.sum) :=
  de_callB (ds := [.list (ns.map .int)]) (cr_sum hc) (fun vs Hs H Q hv h q => by
    cases hv with
    | cons h1 t =>
      cases t
      obtain ⟨l, ws, rfl, hp, hw⟩ := h1.inv_list
      obtain rfl := hw.ints
      exact ⟨l, ns, rfl, SqL.of (h _ _ hp), q _ Hs H (Grw.refl h) (.int _)⟩) hg hm (by decide +kernel) (da_1 ha he) (by decide) (by decide) he hpl
theorem de_min2 (hc : X.calm = true) (hm : X.mg "min" = none) (ha : DE X r a (.int i)) (hb : DE X r b (.int j)) (hg : Gl X "min" := by rfl)
    (he : starEach (a :: [b]) X.env = (false, eval a X.env) :: starEach [b] X.env := by rfl) (he2 : starEach (b :: []) X.env = (false, eval b X.env) :: starEach [] X.env := by rfl) (hpl : (backTo pos (starEach [b] X.env)).any (·.1) = false := by rfl) : DE X r (.Call (.Name "min" p) [a, b] [] pos) (.int (min i j)) :=
  de_callB (ds := [.int i, .int j]) (call_min2 hc) (fun vs Hs H Q hv h q => by
    cases hv with
    | cons h1 t =>
      cases t with
      | cons h2 t =>
        cases t
        refine ⟨i, j, by rw [h1.inv_int, h2.inv_int], ?_⟩
        have e : (if j < i then j else i) = min i j := by
          by_cases z : j < i
          · rw [if_pos z]; omega
          · rw [if_neg z]; omega
        rw [e]
        exact q _ Hs H (Grw.refl h) (.int _)) hg hm (by decide +kernel) (da_cons ha.arg (da_1 hb he2) he) (by decide) (by decide) he hpl
theorem de_intB {k : Bool} (hm : X.mg "int" = none) (ha : DE X r e (.bool k)) (hg : Gl X "int" := by rfl)
    (he : starEach (e :: []) X.env = (false, eval e X.env) :: starEach [] X.env := by rfl) (hpl : (backTo pos (starEach [] X.env)).any (·.1) = false := by rfl) : DE X r (.Call (.Name "int" p) [e] [] pos) (.int (if k then 1 else 0)) :=
  de_callT (ds := [.bool k]) call_int1 (fun vs Hs H Q hv h q => by
    cases hv with
    | cons h1 t =>
      cases t
      exact .inr ⟨k, by rw [h1.inv_bool], q _ Hs H (Grw.refl h) (.int _)⟩) hg hm (by decide +kernel) (da_1 ha he) (by decide) (by decide) he hpl
/-! ### sorted whole numbers -/
def sortI (ns : List Int) : List Int := ns.mergeSort fun a b => decide (a ≤ b)
theorem sortD_ints (ns : List Int) : sortD (ns.map .int) = (sortI ns).map .int := by
  unfold sortD sortI
  rw [sort_maps (r := fun a b : Int => decide (a ≤ b)) (s := dataLe false fun d : PyData => d) PyData.int fun a _ b _ => ?_]
  exact (congrFun (congrFun (dataLe_int (fun n : Int => n)) a) b).symm
theorem alike_intsL (ns : List Int) : AllAlike (ns.map .int) := AllAlike.of fun _ _ => by simp [alike]
theorem sortable_ints (ns : List Int) : Sortable (ns.map .int) := Sortable.others fun _ => ⟨by simp, by simp⟩
theorem dep_ints (ns : List Int) : ∀ d ∈ ns.map PyData.int, d.depth ≤ 60 := dep_map fun _ _ => by simp [PyData.depth]
theorem dn_sortI (hu : X.A.units + 64 < cLine) (hm : X.mg "sorted" = none) (ha : DE X r e d) (hs : seqOf d = some (ns.map .int)) (hg : Gl X "sorted" := by rfl)
    (he : starEach (e :: []) X.env = (false, eval e X.env) :: starEach [] X.env := by rfl) (hpl : (backTo pos (starEach [] X.env)).any (·.1) = false := by rfl) : DN X r (.Call (.Name "sorted" p) [e] [] pos) ((sortI ns).map .int) :=
  (dn_sorted hu hm ha hs (alike_intsL ns) (sortable_ints ns) (dep_ints ns) hg he hpl).is (sortD_ints ns)
end
end Dl

namespace Dl
open PySem L2 PySem.W PyProof.Rows
/-- a def of the text, as it stands behind the top -/
structure Dfn (K : PySem.W.Frag) (mg : Str → Option Value) (name : Str) (st : Stmt) (ps : List Str) where
  f : Addr
  fd : FuncData
  F : Fun K name name st f fd
  b : Binds K fd ps []
  g : mg name = some (.ref f)
/-- the built-in names are still the built-in ones -/
structure Blt (mg : Str → Option Value) : Prop where
  len : mg "len" = none
  sorted : mg "sorted" = none
  set : mg "set" = none
  tuple : mg "tuple" = none
  list : mg "list" = none
  range : mg "range" = none
  min : mg "min" = none
  max : mg "max" = none
  sum : mg "sum" = none
  int : mg "int" = none
  str : mg "str" = none
  repr : mg "repr" = none
  isinstance : mg "isinstance" = none
  enumerate : mg "enumerate" = none
  zip : mg "zip" = none
  any : mg "any" = none
  all : mg "all" = none
  bool : mg "bool" = none
section
variable {P : Program} {w : World} {K : PySem.W.Frag} {mg : Str → Option Value} {base : Heap}
/-- the def keeps the promise R, by level k -/
abbrev Dfn.Ok (P : Program) (w : World) (base : Heap) {name : Str} {st : Stmt} {ps : List Str} (D : Dfn K mg name st ps) (k : Nat) (R : Rho → PyData → Prop) : Prop := FnOk P w K mg base CX0 k D.f D.fd ps (spF K R)
end
section
variable {X : Cx} {r : Rho} {e : Expr} {pos p : Pos} {d : PyData} {k : Nat} {R : Rho → PyData → Prop} {as : Rho} {x : Str} {es : List Expr} {st : Stmt} {ps : List Str}
theorem dc (D : Dfn X.K X.mg x st ps) (F : FnOk X.prog X.w X.K X.mg X.base CX0 k D.f D.fd ps (spF X.K R)) {k' : Nat} (hr : Room k' X.A) (hk : k ≤ k') (ha : DA X r (e :: es) as) (hR : R as d) (hg : Gl X x := by rfl)
    (hdb : (x == ("__debug__" : Str)) = false := by decide) (he : starEach (e :: es) X.env = (false, eval e X.env) :: starEach es X.env := by rfl) (hpl : (backTo pos (starEach es X.env)).any (·.1) = false := by rfl) : DE X r (.Call (.Name x p) (e :: es) [] pos) d :=
  de_call F (hr.mono hk) D.g D.F.kp D.b ha hR hg hdb he hpl
theorem da_2 {a b : Expr} {d1 d2 : PyData} (h1 : DE X r a d1) (h2 : DE X r b d2) (e1 : starEach (a :: [b]) X.env = (false, eval a X.env) :: starEach [b] X.env := by rfl) (e2 : starEach (b :: []) X.env = (false, eval b X.env) :: starEach [] X.env := by rfl) : DA X r [a, b] [.val d1, .val d2] := da_cons h1.arg (da_1 h2 e2) e1
theorem da_3 {a b c : Expr} {d1 d2 d3 : PyData} (h1 : DE X r a d1) (h2 : DE X r b d2) (h3 : DE X r c d3) (e1 : starEach (a :: [b, c]) X.env = (false, eval a X.env) :: starEach [b, c] X.env := by rfl) (e2 : starEach (b :: [c]) X.env = (false, eval b X.env) :: starEach [c] X.env := by rfl)
    (e3 : starEach (c :: []) X.env = (false, eval c X.env) :: starEach [] X.env := by rfl) : DA X r [a, b, c] [.val d1, .val d2, .val d3] := da_cons h1.arg (da_2 h2 h3 e2 e3) e1
end
end Dl

namespace Dl
open PySem
/-! ## == of data that stand for things -/
def EqRep {α : Type} [DecidableEq α] (f : α → PyData) : Prop := ∀ a b, PyData.eqv (f a) (f b) = decide (a = b)
theorem eqv_int (a b : Int) : PyData.eqv (.int a) (.int b) = decide (a = b) := by rw [PyData.eqv, Bool.beq_eq_decide_eq]
theorem eqv_str (a b : Str) : PyData.eqv (.str a) (.str b) = decide (a = b) := by
  rw [PyData.eqv]
  by_cases h : a = b
  · subst h; simp
  · rw [decide_eq_false h]
    cases e : (a == b) with
    | false => rfl
    | true => exact absurd (eq_of_beq e) h
theorem eqRep_int : EqRep PyData.int := eqv_int
theorem eqRep_bool : EqRep PyData.bool := fun a b => by rw [PyData.eqv, Bool.beq_eq_decide_eq]
theorem eqRep_str : EqRep PyData.str := eqv_str
theorem eqvAll_map {α : Type} [DecidableEq α] {f : α → PyData} (h : EqRep f) : ∀ xs ys : List α, PyData.eqvAll (xs.map f) (ys.map f) = decide (xs = ys)
  | [], [] => by rw [List.map_nil, PyData.eqvAll]; rfl
  | [], y :: ys => by rw [List.map_nil, List.map_cons, PyData.eqvAll]; simp
  | x :: xs, [] => by rw [List.map_nil, List.map_cons, PyData.eqvAll]; simp
  | x :: xs, y :: ys => by
    rw [List.map_cons, List.map_cons, PyData.eqvAll, h x y, eqvAll_map h xs ys]
    by_cases a : x = y
    · by_cases b : xs = ys
      · simp [a, b]
      · simp [a, b]
    · simp [a]
theorem eqRep_tup {α : Type} [DecidableEq α] {f : α → PyData} (h : EqRep f) : EqRep fun xs : List α => PyData.tuple (xs.map f) := fun xs ys => by rw [PyData.eqv]; exact eqvAll_map h xs ys
theorem eqRep_lst {α : Type} [DecidableEq α] {f : α → PyData} (h : EqRep f) : EqRep fun xs : List α => PyData.list (xs.map f) := fun xs ys => by rw [PyData.eqv]; exact eqvAll_map h xs ys
theorem eqv_tup {α : Type} [DecidableEq α] {f : α → PyData} (h : EqRep f) (xs ys : List α) : PyData.eqv (.tuple (xs.map f)) (.tuple (ys.map f)) = decide (xs = ys) := eqRep_tup h xs ys
theorem eqv_lst {α : Type} [DecidableEq α] {f : α → PyData} (h : EqRep f) (xs ys : List α) : PyData.eqv (.list (xs.map f)) (.list (ys.map f)) = decide (xs = ys) := eqRep_lst h xs ys
theorem any_map_eqv {α : Type} [DecidableEq α] {f : α → PyData} (h : EqRep f) (x : α) (xs : List α) : ((xs.map f).any fun z => PyData.eqv z (f x)) = xs.any fun z => decide (z = x) := by
  rw [List.any_map]
  congr 1
  funext z
  exact h z x
theorem any_mem {α : Type} [DecidableEq α] (x : α) (xs : List α) [Decidable (x ∈ xs)] : (xs.any fun z => decide (z = x)) = decide (x ∈ xs) := by
  by_cases h : x ∈ xs
  · rw [decide_eq_true h, List.any_eq_true]
    exact ⟨x, h, decide_eq_true rfl⟩
  · rw [decide_eq_false h, List.any_eq_false]
    intro z hz e
    exact h (of_decide_eq_true e ▸ hz)
/-! ## forgetting slots -/
open L2 in
def Forg : Rho → Rho → Prop
  | [], [] => True
  | a :: r, b :: r' => (b = .un ∨ b = a) ∧ Forg r r'
  | _, _ => False
theorem Forg.nil : Forg [] [] := trivial
theorem Forg.cons0 {a : Slot} {r r' : Rho} (h : Forg r r') : Forg (a :: r) (.un :: r') := ⟨.inl rfl, h⟩
theorem Forg.cons1 {a : Slot} {r r' : Rho} (h : Forg r r') : Forg (a :: r) (a :: r') := ⟨.inr rfl, h⟩
theorem Forg.refl : ∀ r : Rho, Forg r r
  | [] => trivial
  | a :: r => ⟨.inr rfl, Forg.refl r⟩
theorem Forg.length : ∀ {r r' : Rho}, Forg r r' → r'.length = r.length
  | [], [], _ => rfl
  | _ :: _, _ :: _, h => by rw [List.length_cons, List.length_cons, Forg.length h.2]
  | [], _ :: _, h => h.elim
  | _ :: _, [], h => h.elim
theorem Forg.at_ : ∀ {r r' : Rho}, Forg r r' → ∀ (i : Nat) s, r'[i]? = some s → s = .un ∨ r[i]? = some s
  | [], [], _, i, s, e => by simp at e
  | a :: r, b :: r', h, 0, s, e => by
    simp at e
    subst e
    rcases h.1 with z | z
    · exact .inl z
    · exact .inr (by rw [z]; rfl)
  | a :: r, b :: r', h, i + 1, s, e => Forg.at_ h.2 i s e
  | [], _ :: _, h, _, _, _ => h.elim
  | _ :: _, [], h, _, _, _ => h.elim
section
open L2
variable {X : Cx} {E : XK} {r r1 : Rho} {P : Post} {sts : List Stmt} {st : Stmt} {tg iter : Expr} {pos : Pos} {ds : List PyData} {c : Expr}
theorem Asn.forg {K : PySem.W.Frag} {Hs0 H0 : Hp} {σ : L2.St} {Hs H : Hp} (A : Asn K Hs0 H0 r σ Hs H) (f : Forg r r1) : Asn K Hs0 H0 r1 σ Hs H :=
  A.weak (by rw [f.length, A.len]) fun i s e => (f.at_ i s e).elim .inl fun q => .inr ⟨q, rfl⟩
theorem dss_forg (f : Forg r r1) (h : DSs X E r1 sts P) : DSs X E r sts P := PSs.wk h fun D σ H ⟨Hs0, H0, Hs, A, w⟩ => ⟨Hs0, H0, Hs, A.forg f, w⟩
theorem ds_forg (f : Forg r r1) (h : DS X E r1 st P) : DS X E r st P := PS.wk h fun _ _ D σ H _ ⟨Hs0, H0, Hs, A, w⟩ => ⟨Hs0, H0, Hs, A.forg f, w⟩
theorem dss_fin (f : Forg r r1) (h : P.nx r1) : DSs X E r [] P := dss_forg f (dss_nil h)
/-- the end of a block in a state that says more than is asked -/
theorem dss_post {r2 : Rho} (h : DSs X E r sts { P with nx := fun z => Forg z r2 }) (hp : P.nx r2) : DSs X E r sts P := PSs.wk h fun D σ H ⟨Hs0, H0, Hs, A, w⟩ => ⟨Hs0, H0, Hs, A, ⟨fun r' σ' Hs' H' p a s => w.nx r2 σ' Hs' H' hp (a.forg p) s, w.rt, w.bk, w.ct, w.ex⟩⟩
theorem ds_post {r2 : Rho} (h : DS X E r st { P with nx := fun z => Forg z r2 }) (hp : P.nx r2) : DS X E r st P := PS.wk h fun _ _ D σ H _ ⟨Hs0, H0, Hs, A, w⟩ => ⟨Hs0, H0, Hs, A, ⟨fun r' σ' Hs' H' p a s => w.nx r2 σ' Hs' H' hp (a.forg p) s, w.rt, w.bk, w.ct, w.ex⟩⟩
/-- one statement, then the rest from a state that may say less -/
theorem dss_st (r1 : Rho) (h : DS X E r st { P with nx := fun z => Forg z r1 }) (h' : DSs X E r1 sts P) : DSs X E r (st :: sts) P := dss_seq h fun _ f => dss_forg f h'
/-- a for loop by the slots S i behind i turns; G i : what else is known there -/
theorem ds_forS {body : List Stmt} (S : Nat → Rho) (G : Nat → Prop) (hp : PassesOwn (model X.prog X.w) X.A X.env X.xe) (hc : X.calm = true) (h0 : Forg r (S 0)) (hi : DI X (S 0) tg iter ds) (g0 : G 0)
    (hstep : ∀ (i : Nat) d, ds[i]? = some d → G i → ∃ ws r2, DG X tg ws (S i) d r2 ∧ DSs X E r2 body { P with nx := fun z => Forg z (S (i + 1)) ∧ G (i + 1), ct := fun z => Forg z (S (i + 1)) ∧ G (i + 1), bk := P.nx }) (hend : G ds.length → P.nx (S ds.length))
    (hs : ∀ x, foldedSetIterable iter X.env x = pure x := by intro _; rfl) : DS X E r (.For tg iter body [] pos) P := by
  refine ds_forg h0 (ds_for (fun i r1 => r1 = S i ∧ G i) hp hc hi ⟨rfl, g0⟩ (fun i d r1 hd _ ⟨e, g⟩ => ?_) (fun r1 ⟨e, g⟩ => e ▸ hend g) hs)
  subst e
  obtain ⟨ws, r2, h1, h2⟩ := hstep i d hd g
  refine ⟨ws, r2, h1, PSs.wk h2 fun D σ H ⟨Hs0, H0, Hs, A, w⟩ => ⟨Hs0, H0, Hs, A, ⟨fun r' σ' Hs' H' p a s => w.nx _ σ' Hs' H' ⟨rfl, p.2⟩ (a.forg p.1) s, w.rt, w.bk, fun r' σ' Hs' H' p a s => w.ct _ σ' Hs' H' ⟨rfl, p.2⟩ (a.forg p.1) s, w.ex⟩⟩⟩
/-- the same where nothing else is known -/
theorem ds_forT {body : List Stmt} (S : Nat → Rho) (hp : PassesOwn (model X.prog X.w) X.A X.env X.xe) (hc : X.calm = true) (h0 : Forg r (S 0)) (hi : DI X (S 0) tg iter ds)
    (hstep : ∀ (i : Nat) d, ds[i]? = some d → ∃ ws r2, DG X tg ws (S i) d r2 ∧ DSs X E r2 body { P with nx := fun z => Forg z (S (i + 1)), ct := fun z => Forg z (S (i + 1)), bk := P.nx }) (hend : P.nx (S ds.length))
    (hs : ∀ x, foldedSetIterable iter X.env x = pure x := by intro _; rfl) : DS X E r (.For tg iter body [] pos) P := by
  refine ds_forS S (fun _ => True) hp hc h0 hi trivial (fun i d hd _ => ?_) (fun _ => hend) hs
  obtain ⟨ws, r2, h1, h2⟩ := hstep i d hd
  exact ⟨ws, r2, h1, PSs.wk h2 fun D σ H ⟨Hs0, H0, Hs, A, w⟩ => ⟨Hs0, H0, Hs, A, ⟨fun r' σ' Hs' H' p a s => w.nx _ σ' Hs' H' ⟨p, trivial⟩ a s, w.rt, w.bk, fun r' σ' Hs' H' p a s => w.ct _ σ' Hs' H' ⟨p, trivial⟩ a s, w.ex⟩⟩⟩
end
/-! ## small things about lists -/
theorem sz (n : Nat) (h : n ≤ 1000 := by decide) : n ≤ sizeLine := by rw [sizeLine_eq]; omega
theorem size_ok {n : Nat} (h : n ≤ 1000000) : n ≤ sizeLine := by rw [sizeLine_eq]; omega
theorem map_at {α β : Type} {f : α → β} {xs : List α} {i : Nat} {d : β} (h : (xs.map f)[i]? = some d) : ∃ x, xs[i]? = some x ∧ d = f x := by
  rw [List.getElem?_map] at h
  cases e : xs[i]? with
  | none => rw [e] at h; cases h
  | some x => rw [e] at h; exact ⟨x, rfl, (Option.some.inj h).symm⟩
theorem at_mem {α : Type} {xs : List α} {i : Nat} {x : α} (h : xs[i]? = some x) : x ∈ xs := List.mem_of_getElem? h
theorem take_snoc {α : Type} {xs : List α} {i : Nat} {x : α} (h : xs[i]? = some x) : xs.take (i + 1) = xs.take i ++ [x] := by rw [List.take_add_one, h]; rfl
theorem flatMap_snoc {α β : Type} (f : α → List β) {xs : List α} {i : Nat} {x : α} (h : xs[i]? = some x) : (xs.take (i + 1)).flatMap f = (xs.take i).flatMap f ++ f x := by
  rw [take_snoc h, List.flatMap_append]
  simp
theorem map_snoc {α β : Type} (f : α → β) {xs : List α} {i : Nat} {x : α} (h : xs[i]? = some x) : (xs.take (i + 1)).map f = (xs.take i).map f ++ [f x] := by
  rw [take_snoc h, List.map_append]
  rfl
theorem foldl_snoc {α β : Type} (f : β → α → β) (b : β) {xs : List α} {i : Nat} {x : α} (h : xs[i]? = some x) : (xs.take (i + 1)).foldl f b = f ((xs.take i).foldl f b) x := by
  rw [take_snoc h, List.foldl_append]
  rfl
theorem flatMap_len {α β : Type} {f : α → List β} {n : Nat} : ∀ {xs : List α}, (∀ x ∈ xs, (f x).length ≤ n) → (xs.flatMap f).length ≤ xs.length * n
  | [], _ => Nat.zero_le _
  | x :: xs, h => by
    rw [List.flatMap_cons, List.length_append, List.length_cons, Nat.succ_mul]
    have h1 := h x List.mem_cons_self
    have h2 := flatMap_len (f := f) (n := n) fun y hy => h y (List.mem_cons_of_mem x hy)
    omega
theorem mem_take {α : Type} {xs : List α} {i : Nat} {x : α} (h : x ∈ xs.take i) : x ∈ xs := List.mem_of_mem_take h
theorem flatMap_take_len {α β : Type} {f : α → List β} {n m : Nat} {xs : List α} (hl : xs.length ≤ m) (h : ∀ x ∈ xs, (f x).length ≤ n) (i : Nat) : ((xs.take i).flatMap f).length ≤ m * n := by
  refine Nat.le_trans (flatMap_len fun x hx => h x (mem_take hx)) (Nat.mul_le_mul_right _ ?_)
  rw [List.length_take]
  omega
theorem take_all {α : Type} {xs : List α} : xs.take xs.length = xs := List.take_length
theorem rangeD_at {lo : Int} {n i : Nat} {d : PyData} (h : (rangeD lo n)[i]? = some d) : d = .int (lo + (i : Int)) ∧ i < n := by
  unfold rangeD at h
  obtain ⟨k, hk, rfl⟩ := map_at h
  obtain ⟨h1, h2⟩ := List.getElem?_eq_some_iff.mp hk
  rw [List.length_range] at h1
  rw [List.getElem_range] at h2
  subst h2
  exact ⟨rfl, h1⟩
end Dl

namespace Dl
open PySem L2 PySem.W PyProof.Rows
section
variable {X : Cx} {E : XK} {r r1 : Rho} {e a b c : Expr} {pos p : Pos} {d d1 d2 : PyData} {ds es : List PyData} {i j : Int} {x : Str} {ns : List Int}
/-! ## the script -/
theorem de_lenScr (hm : X.mg "len" = none) (ha : DAr X r e (.scr ns)) (hg : Gl X "len" := by rfl)
    (he : starEach (e :: []) X.env = (false, eval e X.env) :: starEach [] X.env := by rfl) (hpl : (backTo pos (starEach [] X.env)).any (·.1) = false := by rfl) : DE X r (.Call (.Name "len" p) [e] [] pos) (.int ns.length) :=
  PE.wk (pe_callB call_len_seq hg hm PySem.boot_len (da_cons ha da_nil he) (by decide) (by decide) he hpl) fun _ _ σ H Q _ ⟨Hs0, H0, Hs, A, q⟩ => ⟨Hs0, H0, Hs, A, fun vs Hs1 H1 g1 h1 => by
    cases h1 with
    | cons hu t =>
      cases t
      obtain ⟨l, rfl, hl⟩ := hu
      refine ⟨l, _, rfl, .inl (g1.sub.seq hl), ?_⟩
      rw [List.length_map]
      exact q _ Hs1 H1 g1 (.int _)⟩
theorem de_ixScr (ha : DAr X r a (.scr ns)) (hb : DE X r b (.int i)) (hk : atI ns i = some j) (hs : PlainIx b := by intro _ _; rfl) : DE X r (.Subscript a b pos) (.int j) :=
  PE.wk (pe_ix ix_list ha hb hs) fun _ _ σ H Q _ ⟨Hs0, H0, Hs, A, q⟩ => ⟨Hs0, H0, Hs, A, fun v Hs1 H1 g1 h1 => ⟨Hs0, H0, Hs1, A.grow g1, fun u Hs2 H2 g2 h2 => by
    obtain ⟨l, rfl, hl⟩ := h1
    refine ⟨l, _, i, .int j, rfl, h2.inv_int, g2.sub.seq (g2.st.seq hl), ?_, q _ Hs2 H2 (g1.trans g2) (.int _)⟩
    unfold atI at hk ⊢
    rw [List.length_map]
    cases z : ixN ns.length i with
    | none => rw [z] at hk; cases hk
    | some m =>
      rw [z] at hk
      show (ns.map V.int)[m]? = _
      rw [List.getElem?_map, show ns[m]? = some j from hk]
      rfl⟩⟩
end
theorem atI_lt {α : Type} {xs : List α} {k : Nat} (h : k < xs.length) : atI xs (k : Int) = some xs[k] := atI_nat (List.getElem?_eq_getElem h)
theorem atI_of {α : Type} {xs : List α} {i : Int} {x : α} (h0 : 0 ≤ i) (h : xs[i.toNat]? = some x) : atI xs i = some x := by
  have e : i = (i.toNat : Int) := by omega
  rw [e]
  exact atI_nat h
end Dl

namespace Dl
open PySem L2 PySem.W PyProof.Rows
/-! ## enumerate, zip: over lists and tuples in any mix -/
inductive Knd where
  | l
  | t
def SqK (c : Knd) (K : PySem.W.Frag) (H : Hp) (a : Addr) (xs : List V) : Prop := match c with
  | .l => SqL K H a xs
  | .t => SqT K H a xs
def ItK (c : Knd) (h : Heap) (it a : Addr) (i : Nat) : Prop := match c with
  | .l => h.IsListIter it a i
  | .t => h.IsTupleIter it a i
def SeqK (c : Knd) (h : Heap) (a : Addr) (items : Array Value) : Prop := match c with
  | .l => h.IsList a items
  | .t => h.IsTuple a items
def objK (c : Knd) (a : Addr) : Obj := match c with
  | .l => { cls := .type "list_iterator", data := .fields #[.ref a, .int 0 0] }
  | .t => { cls := .type "tuple_iterator", data := .fields #[.ref a, .int 0 0] }
theorem drawsK (c : Knd) {prog : Program} {w : World} {A : Around} (hh : A.handled = none) (it a : Addr) (hne : a ≠ it) (items : Array Value) :
    Draws prog w A it [it, a] items.size (fun i v => items[i]? = some v) (fun i h => ItK c h it a i ∧ SeqK c h a items) := by
  cases c with
  | l => exact Draws.list hh it a hne items
  | t => exact Draws.tuple hh it a hne items
theorem beginsK (c : Knd) (a : Addr) (items : Array Value) : Begins (.ref a) (objK c a) fun h => SeqK c h a items := by
  cases c with
  | l => exact begins_list a items
  | t => exact begins_tuple a items
theorem itK_0 {c : Knd} {h : Heap} {it a : Addr} (e : h.get? it = some (objK c a)) : ItK c h it a 0 := by
  cases c with
  | l => exact ⟨_, e, rfl, rfl⟩
  | t => exact ⟨_, e, rfl, rfl⟩
theorem itK_at {c : Knd} {h h' : Heap} {it a : Addr} {i : Nat} (s : ItK c h it a i) (k : ∀ o, h.get? it = some o → h'.get? it = some o) : ItK c h' it a i := by
  cases c with
  | l => exact Heap.IsListIter.at s k
  | t => exact Heap.IsTupleIter.at s k
theorem itK_ob {c : Knd} {h : Heap} {it a : Addr} {i : Nat} (s : ItK c h it a i) : ∃ o, h.get? it = some o ∧ ∀ v, o.data ≠ .cell v := by
  cases c with
  | l => obtain ⟨o, e, _, d⟩ := s; exact ⟨o, e, fun v z => by rw [d] at z; cases z⟩
  | t => obtain ⟨o, e, _, d⟩ := s; exact ⟨o, e, fun v z => by rw [d] at z; cases z⟩
theorem seqK_lt {c : Knd} {h : Heap} {a : Addr} {items : Array Value} (s : SeqK c h a items) : a < h.objs.size := by
  cases c with
  | l => obtain ⟨o, e, _⟩ := s; exact Heap.lt_size e
  | t => obtain ⟨o, e, _⟩ := s; exact Heap.lt_size e
section
variable {X : Cx} {pins : List (Addr × Obj)} {σ : L2.St} {H : Hp} {s : Shared} {a : Addr} {xs ys : List V}
theorem invK (c : Knd) (I : Inv X pins σ H s) (h : SqK c X.K H a xs) : ∃ its : List Value, Vals xs its ∧ SeqK c s.heap a its.toArray := by
  cases c with
  | l => obtain ⟨its, r, p, _⟩ := I.list h; exact ⟨its, r, p.isList⟩
  | t => obtain ⟨its, r, p, _⟩ := I.tuple h; exact ⟨its, r, p⟩
theorem invK_inj (c : Knd) (I : Inv X pins σ H s) (h : SqK c X.K H a xs) (h' : SqK c X.K H a ys) : xs = ys := by
  cases c with
  | l => exact I.list_inj h h'
  | t => exact I.tuple_inj h h'
end
theorem tupOf2_at {h h' : Heap} {T : Addr} {x y : Value} (e : IsTupOf2 h T x y) (k : ∀ o, h.get? T = some o → h'.get? T = some o) : IsTupOf2 h' T x y := k _ e
theorem tupOf3_at {h h' : Heap} {T : Addr} {x y z : Value} (e : IsTupOf3 h T x y z) (k : ∀ o, h.get? T = some o → h'.get? T = some o) : IsTupOf3 h' T x y z := k _ e
/-! ### enumerate -/
def ItEn (c : Knd) (K : PySem.W.Frag) (a : Addr) : It :=
  ⟨fun i H => ∃ xs x, SqK c K H a xs ∧ xs[i]? = some x, fun i H v H' => ∃ T x, v = .ref T ∧ H T = none ∧ H' = upd H T (.tup [.int (i : Int), x]) ∧ ∀ xs, SqK c K H a xs → xs[i]? = some x, fun i H => ∃ xs, SqK c K H a xs ∧ xs.length = i⟩
theorem turnEn (c : Knd) {P : Program} {w : World} {K : PySem.W.Frag} {elts : List Expr} {kk : Nat} {tpos : Pos} (a e it : Addr) :
    Turn P w K (.Tuple elts kk tpos) (ItEn c K a) [e, it] e (fun i h => (∃ old, IsEnum h e it ((0 : Int) + (i : Int)) old) ∧ ItK c h it a i ∧ e ≠ it ∧ a ≠ it ∧ a ≠ e) where
  mem := by simp
  obj := fun i h st b hb => by
    obtain ⟨⟨old, he⟩, hi, _⟩ := st
    rcases List.mem_cons.mp hb with z | z
    · rw [z]; exact ⟨_, he, fun v q => nomatch q⟩
    · rw [List.mem_singleton.mp z]; exact itK_ob hi
  keep := fun i h h' st k => let ⟨⟨old, he⟩, hi, n⟩ := st; ⟨⟨old, k e (by simp) _ he⟩, itK_at hi fun o q => k it (by simp) o q, n⟩
  item := by
    intro X hP hw hK hc i pins s σ H E I hf st hg
    subst hP hw hK
    obtain ⟨he, hit, n1, n2, n3⟩ := st
    obtain ⟨xs, x, hq, hx⟩ := hg
    obtain ⟨its, rv, hseq⟩ := invK c I hq
    have hlt : i < its.toArray.size := by
      rw [List.size_toArray, ← rv.length]
      exact (List.getElem?_eq_some_iff.mp hx).1
    have hD := drawsK c (prog := X.prog) (w := X.w) (A := X.A.in1) (by have := I.ok.hd hc; simpa using this) it a n2 its.toArray
    have G := GoesN.enumFrom (elts := elts) (x1 := kk) (pos := tpos) 0 hD e n1 (by simp; exact ⟨n1, n3.symm⟩) (by simp)
    have hel : e < s.heap.objs.size := by obtain ⟨old, q⟩ := he; exact Heap.lt_size q
    have hil : it < s.heap.objs.size := by obtain ⟨o, q, _⟩ := itK_ob hit; exact Heap.lt_size q
    refine G.goes i s _ E hlt ⟨he, hit, hseq⟩ fun v h' tk hY hSt hk htk => ?_
    obtain ⟨T, t, u, rfl, hT, hu, ht⟩ := hY
    obtain ⟨u', hu', ru⟩ := rv.get hx
    have eu : u = u' := by
      rw [List.getElem?_toArray, hu'] at hu
      exact (Option.some.inj hu).symm
    subst eu
    obtain ⟨he', hit', _⟩ := hSt
    have new : ObjOk X.prog X.w (upd H T (.tup [.int (i : Int), x])) h' T (.tup [.int (i : Int), x]) := ⟨by show 2 ≤ sizeLine; decide, [.int ((0 : Int) + (i : Int)) t, u], .cons ⟨_, by rw [Int.zero_add]⟩ (.cons ru .nil), ht⟩
    refine ⟨.ref T, _, I.turnedNew (t' := tk) (ch := [e, it]) (fun b ob hb q => hk b ob hb q) hf hT new, rfl, ⟨T, x, rfl, I.hok.fresh hT, rfl, fun ys hy => by rw [invK_inj c I hy hq]; exact hx⟩, ⟨he', hit', n1, n2, n3⟩, fun b hb => ?_⟩
    have hb' : b < s.heap.objs.size := by
      rcases List.mem_cons.mp hb with z | z
      · rw [z]; exact hel
      · rw [List.mem_singleton.mp z]; exact hil
    rw [upd_ne (Nat.ne_of_lt (Nat.lt_of_lt_of_le hb' hT))]
    exact (hf b hb).1
  done := by
    intro X hP hw hK hc i pins s σ H E I hf st hg
    subst hP hw hK
    obtain ⟨he, hit, n1, n2, n3⟩ := st
    obtain ⟨xs, hq, hx⟩ := hg
    obtain ⟨its, rv, hseq⟩ := invK c I hq
    have hn : i = its.toArray.size := by rw [List.size_toArray, ← rv.length]; exact hx.symm
    have hD := drawsK c (prog := X.prog) (w := X.w) (A := X.A.in1) (by have := I.ok.hd hc; simpa using this) it a n2 its.toArray
    have G := GoesN.enumFrom (elts := elts) (x1 := kk) (pos := tpos) 0 hD e n1 (by simp; exact ⟨n1, n3.symm⟩) (by simp)
    subst hn
    exact G.stops s _ E ⟨he, hit, hseq⟩ fun h' tk hk htk => I.turnedL (t' := tk) (ch := [e, it]) (fun b ob hb q => hk b ob hb q) hf
  self := fun A i s Q E st h => let ⟨⟨_, he⟩, _⟩ := st; wpAny_pyIter_enum he h

set_option maxHeartbeats 1000000 in
theorem enumNew1 {v : Value} {o : Obj} {Hy : Heap → Prop} (B : Begins v o Hy) :
    Meets (Builtin.«enumerate.__new__» ⟨[.type "enumerate", v], []⟩) (fun _ R s => Hy s.heap ∧ R (.ok (.ret (.ref (s.heap.push o).objs.size))) { s with heap := (s.heap.push o).push { cls := .type "enumerate", data := .fields #[.none, .bool false, .ref s.heap.objs.size, rawInt 0, .none, .none] } }) :=
  .of_wp fun prog w A R s h => by
    obtain ⟨hp, g, d, tk, os⟩ := s
    obtain ⟨h1, h⟩ := h
    have m1 := sub_enumerate
    have m2 : ∀ {A' : Around} {E : Value → Shared → Prop} {Q : Value → Shared → Prop}, Q (.ref hp.objs.size) ⟨hp.push o, g, d, tk, os⟩ → wpAny (model prog w) A' (pyIter v) Q E ⟨hp, g, d, tk, os⟩ := fun q => B.iter prog w _ _ ⟨hp, g, d, tk, os⟩ _ h1 q
    wp_walk using m2
    refine wpAny_stack_any fun st => wpAny_pure ?_
    split
    · rename_i c _ _ _ _ _
      cases (c == Value.type "enumerate")
      · wp_walk using m2
        exact ⟨_, rfl, h⟩
      · wp_walk using m2
        exact ⟨_, rfl, h⟩
    · wp_walk using m2
      exact ⟨_, rfl, h⟩
theorem enum_begins1 {prog : Program} {w : World} {A : Around} {E : Value → Shared → Prop} {s : Shared} {v : Value} {o : Obj} {Hy : Heap → Prop} {Q : Value → Shared → Prop} (B : Begins v o Hy) (h1 : Hy s.heap)
    (q : ∀ h', IsEnum h' (s.heap.objs.size + 1) s.heap.objs.size 0 .none → h'.get? s.heap.objs.size = some o → (∀ b ob, s.heap.get? b = some ob → h'.get? b = some ob) → Q (.ref (s.heap.objs.size + 1)) { s with heap := h' }) : wpAny (model prog w) A (call (.type "enumerate") [v]) Q E s := by
  refine callType_new F.called_enumerate (by decide) (F.typeCall_enumerate_1 _) (F.newCall_enumerate_1 _) (fun ob => F.args_object_init_2 ob _) F.entry_enumerate_new (enumNew1 B) ⟨h1, ?_⟩
  have hz : (s.heap.push o).objs.size = s.heap.objs.size + 1 := Heap.size_push ..
  have he := Heap.get?_push_size (s.heap.push o) (o := { cls := .type "enumerate", data := .fields #[.none, .bool false, .ref s.heap.objs.size, rawInt 0, .none, .none] }) rfl
  show _ ∧ _
  rw [hz] at he ⊢
  exact ⟨⟨_, he, rfl⟩, q _ he (Heap.get?_push_of_some _ (Heap.get?_push_size _ B.free)) fun b ob e => Heap.get?_push_of_some _ (Heap.get?_push_of_some _ e)⟩
def iEn (c : Knd) (K : PySem.W.Frag) (ta : TA) : TI := fun σ H R => ta σ H fun vs H1 => ∃ a xs, vs = [.ref a] ∧ SqK c K H1 a xs ∧ R (ItEn c K a) H1
theorem piEn (c : Knd) {X : Cx} {e : Expr} {ta : TA} {p pos tpos : Pos} {elts : List Expr} {kk : Nat} (hg : Gl X "enumerate") (hm : X.mg "enumerate" = none) (ha : PA X [e] ta) (hs : starEach [e] X.env = [(false, eval e X.env)] := by rfl) :
    PI X (.Tuple elts kk tpos) (.Call (.Name "enumerate" p) [e] [] pos) (iEn c X.K ta) := ⟨fun pins s σ H R I h => by
  refine Call_ (ld_blt I hg hm boot_enumerate (callWith_type1 (thn (ha.run pos pins s σ H _ I h) fun us s1 ⟨vs, H1, I1, r1, q1⟩ => ?_) hs rfl))
  obtain ⟨a, xs, ev, hq, q⟩ := q1
  subst ev
  obtain ⟨u, rfl, ru⟩ := vals1 r1
  cases ru
  obtain ⟨its, rv, hseq⟩ := invK c I1 hq
  have hal := seqK_lt hseq
  refine enum_begins1 (beginsK c a its.toArray) hseq fun h' he hi hk => wpAny_pyIter_enum he ?_
  refine ⟨_, [s1.heap.objs.size + 1, s1.heap.objs.size], _, _, H1, rfl, I1.kept (t' := s1.toks) hk, turnEn c a (s1.heap.objs.size + 1) s1.heap.objs.size, ⟨⟨_, he⟩, itK_0 hi, Nat.succ_ne_self _, Nat.ne_of_lt hal, Nat.ne_of_lt (Nat.lt_succ_of_lt hal)⟩, fun b hb => ?_, q⟩
  have hle : s1.heap.objs.size ≤ b := by
    rcases List.mem_cons.mp hb with z | z
    · rw [z]; exact Nat.le_succ _
    · rw [List.mem_singleton.mp z]; exact Nat.le_refl _
  exact I1.fpOk hle (I1.hok.fresh hle)⟩
/-! ### zip of two -/
def ItZ (c d : Knd) (K : PySem.W.Frag) (a b : Addr) : It :=
  ⟨fun i H => ∃ xs ys x y, SqK c K H a xs ∧ SqK d K H b ys ∧ xs[i]? = some x ∧ ys[i]? = some y, fun i H v H' => ∃ T x y, v = .ref T ∧ H T = none ∧ H' = upd H T (.tup [x, y]) ∧ (∀ xs, SqK c K H a xs → xs[i]? = some x) ∧ ∀ ys, SqK d K H b ys → ys[i]? = some y,
   fun i H => ∃ xs ys, SqK c K H a xs ∧ SqK d K H b ys ∧ min xs.length ys.length = i⟩
theorem turnZ (c d : Knd) {P : Program} {w : World} {K : PySem.W.Frag} {elts : List Expr} {kk : Nat} {tpos : Pos} {a b : Addr} {N : Nat} (ha : a < N) (hb : b < N) :
    Turn P w K (.Tuple elts kk tpos) (ItZ c d K a b) [N + 4, N + 2, N + 3, N, N + 1] (N + 4) (fun i h => IsZip h (N + 4) (N + 2) (N + 3) .none ∧ IsTupOf2 h (N + 2) (.ref N) (.ref (N + 1)) ∧ (∃ x y, IsTupOf2 h (N + 3) x y) ∧ ItK c h N a i ∧ ItK d h (N + 1) b i) where
  mem := by simp
  obj := fun i h st z hz => by
    obtain ⟨h1, h2, ⟨x, y, h3⟩, h4, h5⟩ := st
    simp only [List.mem_cons, List.not_mem_nil, or_false] at hz
    rcases hz with z | z | z | z | z
    · rw [z]; exact ⟨_, h1, fun v q => nomatch q⟩
    · rw [z]; exact ⟨_, h2, fun v q => nomatch q⟩
    · rw [z]; exact ⟨_, h3, fun v q => nomatch q⟩
    · rw [z]; exact itK_ob h4
    · rw [z]; exact itK_ob h5
  keep := fun i h h' st k => by
    obtain ⟨h1, h2, ⟨x, y, h3⟩, h4, h5⟩ := st
    exact ⟨k _ (by simp) _ h1, k _ (by simp) _ h2, ⟨x, y, k _ (by simp) _ h3⟩, itK_at h4 fun o q => k _ (by simp) o q, itK_at h5 fun o q => k _ (by simp) o q⟩
  item := by
    intro X hP hw hK hc i pins s σ H E I hf st hg
    subst hP hw hK
    obtain ⟨h1, h2, h3, h4, h5⟩ := st
    obtain ⟨xs, ys, x, y, hq, hq', hx, hy⟩ := hg
    obtain ⟨its, rv, hseq⟩ := invK c I hq
    obtain ⟨its', rv', hseq'⟩ := invK d I hq'
    have hh : X.A.in1.handled = none := by have := I.ok.hd hc; simpa using this
    have hD := drawsK c (prog := X.prog) (w := X.w) (A := X.A.in1) hh N a (Nat.ne_of_lt ha) its.toArray
    have hD' := drawsK d (prog := X.prog) (w := X.w) (A := X.A.in1) hh (N + 1) b (Nat.ne_of_lt (Nat.lt_succ_of_lt hb)) its'.toArray
    have G := GoesN.zip2 (elts := elts) (x1 := kk) (pos := tpos) (zip_sep2 (N := N) (fp1 := [a]) (fp2 := [b]) (by simpa using ha) (by simpa using hb)) hD hD'
    have hlt : i < min its.toArray.size its'.toArray.size := by
      rw [List.size_toArray, List.size_toArray, ← rv.length, ← rv'.length]
      have := (List.getElem?_eq_some_iff.mp hx).1
      have := (List.getElem?_eq_some_iff.mp hy).1
      omega
    have hN : N + 4 < s.heap.objs.size := Heap.lt_size h1
    refine G.goes i s _ E hlt ⟨h1, h2, h3, ⟨h4, hseq⟩, h5, hseq'⟩ fun v h' tk hY hSt hk htk => ?_
    obtain ⟨T, u, u2, rfl, hT, hu, hu2, ht⟩ := hY
    obtain ⟨w1, e1, r1⟩ := rv.get hx
    obtain ⟨w2, e2, r2⟩ := rv'.get hy
    have eu : u = w1 := by rw [List.getElem?_toArray, e1] at hu; exact (Option.some.inj hu).symm
    have eu2 : u2 = w2 := by rw [List.getElem?_toArray, e2] at hu2; exact (Option.some.inj hu2).symm
    subst eu; subst eu2
    obtain ⟨k1, k2, k3, ⟨k4, _⟩, k5, _⟩ := hSt
    have new : ObjOk X.prog X.w (upd H T (.tup [x, y])) h' T (.tup [x, y]) := ⟨by show 2 ≤ sizeLine; decide, [u, u2], .cons r1 (.cons r2 .nil), ht⟩
    refine ⟨.ref T, _, I.turnedNew (t' := tk) (ch := [N + 4, N + 2, N + 3, N, N + 1]) (fun z ob hz q => hk z ob (fun m => hz ?_) q) hf hT new, rfl, ⟨T, x, y, rfl, I.hok.fresh hT, rfl, fun zs hz => by rw [invK_inj c I hz hq]; exact hx, fun zs hz => by rw [invK_inj d I hz hq']; exact hy⟩, ⟨k1, k2, k3, k4, k5⟩, fun z hz => ?_⟩
    · simp only [List.mem_cons, List.not_mem_nil, or_false] at m ⊢
      rcases m with m | m | m | m <;> simp [m]
    · have hz' : z ≤ N + 4 := by
        simp only [List.mem_cons, List.not_mem_nil, or_false] at hz
        rcases hz with z | z | z | z | z <;> rw [z] <;> first | exact Nat.le_refl _ | exact Nat.le_add_right _ _ | exact Nat.add_le_add_left (by decide) _
      rw [upd_ne (Nat.ne_of_lt (Nat.lt_of_le_of_lt hz' (Nat.lt_of_lt_of_le hN hT)))]
      exact (hf z hz).1
  done := by
    intro X hP hw hK hc i pins s σ H E I hf st hg
    subst hP hw hK
    obtain ⟨h1, h2, h3, h4, h5⟩ := st
    obtain ⟨xs, ys, hq, hq', hi⟩ := hg
    obtain ⟨its, rv, hseq⟩ := invK c I hq
    obtain ⟨its', rv', hseq'⟩ := invK d I hq'
    have hh : X.A.in1.handled = none := by have := I.ok.hd hc; simpa using this
    have hD := drawsK c (prog := X.prog) (w := X.w) (A := X.A.in1) hh N a (Nat.ne_of_lt ha) its.toArray
    have hD' := drawsK d (prog := X.prog) (w := X.w) (A := X.A.in1) hh (N + 1) b (Nat.ne_of_lt (Nat.lt_succ_of_lt hb)) its'.toArray
    have G := GoesN.zip2 (elts := elts) (x1 := kk) (pos := tpos) (zip_sep2 (N := N) (fp1 := [a]) (fp2 := [b]) (by simpa using ha) (by simpa using hb)) hD hD'
    have hn : i = min its.toArray.size its'.toArray.size := by
      rw [List.size_toArray, List.size_toArray, ← rv.length, ← rv'.length]
      exact hi.symm
    subst hn
    refine G.stops s _ E ⟨h1, h2, h3, ⟨h4, hseq⟩, h5, hseq'⟩ fun h' tk hk htk => I.turnedL (t' := tk) (ch := [N + 4, N + 2, N + 3, N, N + 1]) (fun z ob hz q => hk z ob (fun m => hz ?_) q) hf
    simp only [List.mem_cons, List.not_mem_nil, or_false] at m ⊢
    rcases m with m | m | m | m <;> simp [m]
  self := fun A i s Q E st h => wpAny_pyIter_zip st.1 h
def iZ (c d : Knd) (K : PySem.W.Frag) (ta : TA) : TI := fun σ H R => ta σ H fun vs H1 => ∃ a b xs ys, vs = [.ref a, .ref b] ∧ SqK c K H1 a xs ∧ SqK d K H1 b ys ∧ R (ItZ c d K a b) H1
theorem piZ (c d : Knd) {X : Cx} {e e2 : Expr} {ta : TA} {p pos tpos : Pos} {elts : List Expr} {kk : Nat} (hg : Gl X "zip") (hm : X.mg "zip" = none) (ha : PA X [e, e2] ta)
    (hs : starEach [e, e2] X.env = (false, eval e X.env) :: starEach [e2] X.env := by rfl) (hpl : (backTo pos (starEach [e2] X.env)).any (·.1) = false := by rfl) : PI X (.Tuple elts kk tpos) (.Call (.Name "zip" p) [e, e2] [] pos) (iZ c d X.K ta) := ⟨fun pins s σ H R I h => by
  refine Call_ (ld_blt I hg hm boot_zip (callWith_type1 (thn (ha.run pos pins s σ H _ I h) fun us s1 ⟨vs, H1, I1, r1, q1⟩ => ?_) hs hpl))
  obtain ⟨a, b, xs, ys, ev, hq, hq', q⟩ := q1
  subst ev
  obtain ⟨u, u2, rfl, ru, ru2⟩ := vals2 r1
  cases ru
  cases ru2
  obtain ⟨its, rv, hseq⟩ := invK c I1 hq
  obtain ⟨its', rv', hseq'⟩ := invK d I1 hq'
  refine zip_begins2 (beginsK c a its.toArray) (beginsK d b its'.toArray) hseq hseq' fun h' z1 z2 z3 z4 z5 _ hk => wpAny_pyIter_zip z1 ?_
  refine ⟨_, [s1.heap.objs.size + 4, s1.heap.objs.size + 2, s1.heap.objs.size + 3, s1.heap.objs.size, s1.heap.objs.size + 1], _, _, H1, rfl, I1.kept (t' := s1.toks) hk, turnZ c d (seqK_lt hseq) (seqK_lt hseq'), ⟨z1, z2, ⟨_, _, z3⟩, itK_0 z4, itK_0 z5⟩, fun z hz => ?_, q⟩
  have hle : s1.heap.objs.size ≤ z := by
    simp only [List.mem_cons, List.not_mem_nil, or_false] at hz
    rcases hz with z | z | z | z | z <;> rw [z] <;> first | exact Nat.le_refl _ | exact Nat.le_add_right _ _
  exact I1.fpOk hle (I1.hok.fresh hle)⟩
/-! ### over data -/
def kd : Knd → List PyData → PyData
  | .l, xs => .list xs
  | .t, xs => .tuple xs
theorem Dat.inv_kd {c : Knd} {H : Hp} {v : V} {ds : List PyData} {K : PySem.W.Frag} (h : Dat H v (kd c ds)) : ∃ a xs, v = .ref a ∧ (∀ H', Same H H' → SqK c K H' a xs) ∧ Dats H xs ds := by
  cases c with
  | l => obtain ⟨a, xs, e, h1, h2⟩ := Dat.inv_list h; exact ⟨a, xs, e, fun H' s => SqL.of (s _ _ h1), h2⟩
  | t => obtain ⟨a, xs, e, h1, h2⟩ := Dat.inv_tuple h; exact ⟨a, xs, e, fun H' s => SqT.of (s _ _ h1), h2⟩
section
variable {X : Cx} {r : Rho} {e e2 : Expr} {pos p tpos : Pos} {ds es : List PyData} {elts : List Expr} {kk : Nat}
def enumD (ds : List PyData) : List PyData := (List.range ds.length).map fun (i : Nat) => .tuple [.int (i : Int), ds.getD i .none]
theorem di_enum (c : Knd) (hm : X.mg "enumerate" = none) (h : DE X r e (kd c ds)) (hz : ds.length ≤ 1000000) (hg : Gl X "enumerate" := by rfl) (hs : starEach [e] X.env = [(false, eval e X.env)] := by rfl) (hs' : starEach (e :: []) X.env = (false, eval e X.env) :: starEach [] X.env := by rfl) :
    DI X r (.Tuple elts kk tpos) (.Call (.Name "enumerate" p) [e] [] pos) (enumD ds) :=
  PI.wk (piEn c hg hm (da_1 h hs') hs) fun σ H R ⟨Hs0, H0, Hs, A, q⟩ => ⟨Hs0, H0, Hs, A, fun vs Hs1 H1 g1 hv => by
    cases hv with
    | cons hu t =>
      cases t
      obtain ⟨a, xs, rfl, hk, hx⟩ := Dat.inv_kd (K := X.K) hu
      refine ⟨a, xs, rfl, hk _ g1.sub, fun _ => q _ Hs1 H1 g1 (fun i Hs2 H2 s1 s2 => ⟨fun d hd => ?_, fun hl => ⟨xs, hk _ (s1.trans s2), ?_⟩⟩) ?_⟩
      · unfold enumD at hd
        obtain ⟨j, hj, rfl⟩ := map_at hd
        obtain ⟨hj1, hj2⟩ := List.getElem?_eq_some_iff.mp hj
        rw [List.length_range] at hj1
        rw [List.getElem_range] at hj2
        subst hj2
        have hdi : ds[i]? = some (ds.getD i .none) := by rw [List.getD_eq_getElem?_getD, List.getElem?_eq_getElem hj1]; rfl
        obtain ⟨v, ev, hv⟩ := hx.get hdi
        refine ⟨⟨xs, v, hk _ (s1.trans s2), ev⟩, fun u H3 ⟨T, y, eu, hT, eH, hy⟩ => ?_⟩
        subst eu; subst eH
        have := hy xs (hk _ (s1.trans s2))
        rw [ev] at this
        cases this
        exact ⟨_, Grw.laid s2 hT, .tup upd_same (.cons (.int _) (.cons ((hv.mono s1).mono (same_upd (s2.free hT))) .nil))⟩
      · unfold enumD at hl
        rw [List.length_map, List.length_range] at hl
        rw [hx.length]; exact hl
      · unfold enumD
        rw [List.length_map, List.length_range]
        exact size_ok hz⟩
def zipD (ds es : List PyData) : List PyData := (ds.zip es).map fun p => .tuple [p.1, p.2]
theorem di_zip (c d : Knd) (hm : X.mg "zip" = none) (h : DE X r e (kd c ds)) (h' : DE X r e2 (kd d es)) (hz : ds.length ≤ 1000000) (hg : Gl X "zip" := by rfl) (hs : starEach [e, e2] X.env = (false, eval e X.env) :: starEach [e2] X.env := by rfl) (hs2 : starEach (e2 :: []) X.env = (false, eval e2 X.env) :: starEach [] X.env := by rfl)
    (hpl : (backTo pos (starEach [e2] X.env)).any (·.1) = false := by rfl) : DI X r (.Tuple elts kk tpos) (.Call (.Name "zip" p) [e, e2] [] pos) (zipD ds es) :=
  PI.wk (piZ c d hg hm (da_2 h h' hs hs2) hs hpl) fun σ H R ⟨Hs0, H0, Hs, A, q⟩ => ⟨Hs0, H0, Hs, A, fun vs Hs1 H1 g1 hv => by
    cases hv with
    | cons hu t =>
      cases t with
      | cons hu2 t =>
        cases t
        obtain ⟨a, xs, rfl, hk, hx⟩ := Dat.inv_kd (K := X.K) hu
        obtain ⟨b, ys, rfl, hk2, hy⟩ := Dat.inv_kd (K := X.K) hu2
        refine ⟨a, b, xs, ys, rfl, hk _ g1.sub, hk2 _ g1.sub, fun _ => q _ Hs1 H1 g1 (fun i Hs2 H2 s1 s2 => ⟨fun dd hd => ?_, fun hl => ⟨xs, ys, hk _ (s1.trans s2), hk2 _ (s1.trans s2), ?_⟩⟩) ?_⟩
        · unfold zipD at hd
          obtain ⟨⟨d1, d2⟩, hj, rfl⟩ := map_at hd
          rw [List.getElem?_zip_eq_some] at hj
          obtain ⟨v, ev, hv⟩ := hx.get hj.1
          obtain ⟨v2, ev2, hv2⟩ := hy.get hj.2
          refine ⟨⟨xs, ys, v, v2, hk _ (s1.trans s2), hk2 _ (s1.trans s2), ev, ev2⟩, fun u H3 ⟨T, y1, y2, eu, hT, eH, hy1, hy2⟩ => ?_⟩
          subst eu; subst eH
          have t1 := hy1 xs (hk _ (s1.trans s2))
          have t2 := hy2 ys (hk2 _ (s1.trans s2))
          rw [ev] at t1
          rw [ev2] at t2
          cases t1
          cases t2
          exact ⟨_, Grw.laid s2 hT, .tup upd_same (.cons ((hv.mono s1).mono (same_upd (s2.free hT))) (.cons ((hv2.mono s1).mono (same_upd (s2.free hT))) .nil))⟩
        · unfold zipD at hl
          rw [List.length_map, List.length_zip] at hl
          rw [hx.length, hy.length]; exact hl
        · unfold zipD
          rw [List.length_map, List.length_zip]
          exact size_ok (by omega)⟩
end
end Dl

namespace Dl
open PySem L2 PySem.W PyProof.Rows
/-! ## t[::-1] -/
section
variable {prog : Program} {w : World} {A : Around} {E : Value → Shared → Prop} {s : Shared}
theorem applied_rev {sl : Addr} {vk : Value} {n : Nat} {Q : Int × Int × Nat → Shared → Prop} (hs : s.heap.IsSliceOf sl .none .none vk) (pk : IsPart vk (some (-1))) (q : Q ((n : Int) - 1, -1, n) s) : wpAny (model prog w) A (Builtin.Slice.sliceApplied (.ref sl) (pure (n : Int))) Q E s := by
  obtain ⟨ob, e1, e2, e3⟩ := id hs
  unfold Builtin.Slice.sliceApplied Builtin.Slice.sliceFields
  apply wpAny_bind
  apply wpAny_bind
  refine wpAny_field e1 e3 (x := .none) rfl ?_
  apply wpAny_bind
  refine wpAny_field e1 e3 (x := .none) rfl ?_
  apply wpAny_bind
  refine wpAny_field e1 e3 (x := vk) rfl ?_
  apply wpAny_pure
  refine wpAny_bind (HT.slicePart_ pk ?_)
  change wpAny _ _ (if ((-1 : Int) == 0) = true then _ else _) _ _ s
  rw [if_neg (by decide)]
  refine wpAny_bind (HT.slicePart_ (.none) ?_)
  refine wpAny_bind (HT.slicePart_ (.none) ?_)
  refine wpAny_bind (wpAny_pure ?_)
  have ea : Builtin.Slice.sliceAdjust none none (-1) (n : Int) = ((n : Int) - 1, -1) := by
    unfold Builtin.Slice.sliceAdjust
    simp
  have ep : Builtin.Slice.slicePlaces ((n : Int) - 1) (-1) (-1) = n := by
    unfold Builtin.Slice.slicePlaces
    rw [if_neg (by decide)]
    by_cases z : ((n : Int) - 1) > -1
    · rw [if_pos z]
      simp
    · rw [if_neg z]
      omega
  change wpAny _ _ (match Builtin.Slice.sliceAdjust none none (-1) (n : Int) with | (lo, hi) => pure (lo, (-1 : Int), Builtin.Slice.slicePlaces lo hi (-1))) _ _ s
  rw [ea]
  change wpAny _ _ (pure ((n : Int) - 1, (-1 : Int), Builtin.Slice.slicePlaces ((n : Int) - 1) (-1) (-1))) _ _ s
  rw [ep]
  exact wpAny_pure q
theorem pick_rev (xs : Array Value) : ((List.range xs.size).filterMap fun (k : Nat) => xs[(((xs.size : Nat) : Int) - 1 + (k : Int) * (-1)).toNat]?) = xs.toList.reverse := by
  have e1 : ∀ k ∈ List.range xs.size, xs[(((xs.size : Nat) : Int) - 1 + (k : Int) * (-1)).toNat]? = xs.toList.reverse[k]? := fun k hk => by
    rw [List.mem_range] at hk
    rw [List.getElem?_reverse (by rw [Array.length_toList]; exact hk), Array.length_toList, Array.getElem?_toList]
    congr 1
    omega
  have e2 : ∀ (l : List Nat), (∀ k ∈ l, xs[(((xs.size : Nat) : Int) - 1 + (k : Int) * (-1)).toNat]? = xs.toList.reverse[k]?) → (l.filterMap fun (k : Nat) => xs[(((xs.size : Nat) : Int) - 1 + (k : Int) * (-1)).toNat]?) = l.filterMap fun k => xs.toList.reverse[k]? := fun l h => by
    induction l with
    | nil => rfl
    | cons a l ih =>
      rw [List.filterMap_cons, List.filterMap_cons, h a List.mem_cons_self, ih fun k hk => h k (List.mem_cons_of_mem _ hk)]
  rw [e2 _ e1]
  have e3 := krv_all xs.toList.reverse.toArray
  simpa using e3
theorem getItem_tup_rev {t sl : Addr} {items : Array Value} {vk : Value} {Q : Value → Shared → Prop} (ht : IsTup s.heap t items) (hs : s.heap.IsSliceOf sl .none .none vk) (pk : IsPart vk (some (-1))) (hz : items.size ≤ sizeLine)
    (q : Q (.ref s.heap.objs.size) { s with heap := s.heap.push { cls := .type "tuple", data := .seq items.toList.reverse.toArray } }) : wpAny (model prog w) A (getItem (.ref t) (.ref sl)) Q E s := by
  have hok : sizeOk (.seq items.toList.reverse.toArray) := by
    show items.toList.reverse.toArray.size ≤ sizeLine
    rw [List.size_toArray, List.length_reverse, Array.length_toList]
    exact hz
  have hT : s.TypeIs (.ref sl) "slice" := by
    obtain ⟨ob, e1, e2, _⟩ := hs
    exact ⟨ob, e1, e2⟩
  unfold getItem
  try with_reducible refine wpAny_holding ?_
  first | refine wpAny_bind (wpAny_pure ?_) | skip
  refine wpAny_bind (wpAny_sequenceKey ht.typeIs (by decide) ?_)
  refine wpAny_bind (wpAny_callSpecial?_slot (name := Str.ofString "__getitem__") ht.typeIs slot_tuple_getitem (wpAny_call_entry slot_tuple_getitem ht.typeIs entry_tuple_getitem ?_ (args_tuple_getitem _ _)))
  change wpAny _ _ (Builtin.Tuple.tupleItemsOf (.ref t) >>= _) _ _ s
  refine wpAny_bind (tupleItemsOf_ ht ?_)
  refine wpAny_bind (wpAny_typeOf hT ?_)
  rw [if_pos (by decide)]
  refine wpAny_bind (applied_rev hs pk ?_)
  change wpAny _ _ (if (((items.size : Nat) : Int) - 1 == 0 && (-1 : Int) == 1 && items.size == items.size) = true then _ else _) _ _ s
  rw [if_neg (by simp), pick_rev]
  first
    | exact wpAny_bind (m := Builtin.Tuple.tupleExact _) (wpAny_newObj_type (wpAny_pure ⟨_, rfl, wpAny_pure q⟩) hok)
    | exact wpAny_bind (m := Builtin.Tuple.tupleExact _) (wpAny_newObj_type (wpAny_bind (wpAny_pure (wpAny_pure ⟨_, rfl, wpAny_pure q⟩))) hok)
    | exact wpAny_bind (wpAny_bind (m := Builtin.Tuple.tupleExact _) (wpAny_newObj_type (wpAny_pure (wpAny_pure ⟨_, rfl, wpAny_pure q⟩)) hok))
    | exact wpAny_bind (wpAny_bind (m := Builtin.Tuple.tupleExact _) (wpAny_newObj_type (wpAny_pure ⟨_, rfl, wpAny_pure q⟩) hok))
end
section
variable {X : Cx} {E : XK} {r r1 : Rho} {e a b c : Expr} {pos p : Pos} {d d1 d2 : PyData} {ds es : List PyData} {i j : Int} {x y : Str} {ns : List Int} {P : Post}
/-- the slice [::-1] of a value -/
def tRevT (K : PySem.W.Frag) (te : TE) : TE := fun σ H Q => te σ H fun x H1 => ∃ a xs, x = .ref a ∧ SqT K H1 a xs ∧ ∀ p, H1 p = none → Q (.ref p) (upd H1 p (.tup xs.reverse))
theorem pe_revT {te : TE} {k : Nat} {p1 p2 p3 : Pos} (he : PE X e te) : PE X (.Subscript e (.Slice none none (some (.UnaryOp .USub (.Constant (.int 1) k p1) p2)) p3) pos) (tRevT X.K te) := ⟨fun pins s σ H Q I h => by
  refine Subscript_ (thn (he.run pins s σ H _ I h) fun v s1 ⟨x, H1, I1, r1, q1⟩ => ?_)
  obtain ⟨a, xs, ex, hx, q⟩ := q1
  subst ex
  cases r1
  have hst : PO X (some (.UnaryOp .USub (.Constant (.int 1) k p1) p2)) (tPart (tUn (rU fun i => .int (-i)) (tC (.int 1)))) := po_some (pe_un un_neg pe_int)
  refine wpAny_Slice (thn (po_none.run pins s1 σ H1 (fun o H2 => o = none ∧ H2 = H1) I1 ⟨rfl, rfl⟩) fun vl s2 ⟨l, H2, I2, pl, el, e2⟩ => ?_)
  subst el e2
  cases pl
  refine thn (po_none.run pins s2 σ H2 (fun o H3 => o = none ∧ H3 = H2) I2 ⟨rfl, rfl⟩) fun vu s3 ⟨u, H3, I3, pu, eu, e3⟩ => ?_
  subst eu e3
  cases pu
  refine thn (hst.run pins s3 σ H3 (fun o H4 => o = some (-1) ∧ H4 = H3) I3 ⟨1, rfl, -1, rfl, rfl, rfl⟩) fun vk s4 ⟨o, H4, I4, pk, eo, e4⟩ => ?_
  subst eo e4
  have I5 : Inv X pins σ H4 { s4 with heap := s4.heap.push { cls := .type "slice", data := .fields #[.none, .none, vk] } } := I4.kept (t' := s4.toks) fun b ob q => Heap.get?_push_of_some _ q
  obtain ⟨its, rv, ht, hz⟩ := I5.tuple hx
  have hlen := rv.length
  change wpAny (model X.prog X.w) X.A (subscriptTail e (.Slice none none (some (.UnaryOp .USub (.Constant (.int 1) k p1) p2)) p3) (.ref a) (.ref s4.heap.objs.size)) (EP X pins σ Q) X.xe _
  refine tail_any (ops := [.ref a, .ref s4.heap.objs.size]) ht.typeIs slot_tuple_getitem.lookup ?_ (by with_unfolding_all rfl)
  refine getItem_tup_rev ht (Heap.IsSliceOf.new _ _ _ _) pk (by rw [List.size_toArray]; omega) ?_
  refine ⟨.ref _, _, I5.laid (t' := s4.toks) (o := .tup xs.reverse) (fun b ob q => Heap.get?_push_of_some _ q) (Nat.le_refl _) ⟨by rw [List.length_reverse]; exact hz, its.reverse, rv.reverse, ⟨_, Heap.get?_push_size _ rfl, rfl, _, rfl⟩⟩, rfl, q _ (I5.hok.fresh (Nat.le_refl _))⟩⟩
theorem dn_revL {k : Nat} {p1 p2 p3 : Pos} (he : DE X r e (.list ds)) : DN X r (.Subscript e (.Slice none none (some (.UnaryOp .USub (.Constant (.int 1) k p1) p2)) p3) pos) ds.reverse :=
  PE.wk (pe_revL he) fun _ _ σ H Q _ ⟨Hs0, H0, Hs, A, q⟩ => ⟨Hs0, H0, Hs, A, fun v Hs1 H1 g1 h1 => by
    obtain ⟨l, vs, rfl, hl, hv⟩ := h1.inv_list
    exact ⟨l, vs, rfl, SqL.of (g1.sub _ _ hl), fun z hz => q z _ Hs1 _ (g1.trans (Grw.laidO g1.sub hz)) (g1.all.free hz) (g1.sub.free hz) upd_same hv.reverse⟩⟩
theorem de_revT {k : Nat} {p1 p2 p3 : Pos} (he : DE X r e (.tuple ds)) : DE X r (.Subscript e (.Slice none none (some (.UnaryOp .USub (.Constant (.int 1) k p1) p2)) p3) pos) (.tuple ds.reverse) :=
  PE.wk (pe_revT he) fun _ _ σ H Q _ ⟨Hs0, H0, Hs, A, q⟩ => ⟨Hs0, H0, Hs, A, fun v Hs1 H1 g1 h1 => by
    obtain ⟨l, vs, rfl, hl, hv⟩ := h1.inv_tuple
    exact ⟨l, vs, rfl, SqT.of (g1.sub _ _ hl), fun z hz => q _ _ _ (g1.trans (Grw.laid g1.sub hz)) (.tup upd_same (hv.reverse.mono (same_upd (g1.sub.free hz))))⟩⟩
/-! ### list(range(..)), tuple(range(..)) -/
theorem rgV_dats {H : Hp} (lo hi : Int) : Dats H (rgV lo hi) (rangeD lo (hi - lo).toNat) := by
  unfold rgV rangeD
  generalize List.range (hi - lo).toNat = l
  induction l with
  | nil => exact .nil
  | cons k l ih => exact .cons (.int _) ih
theorem prg_d {n : Int} (hm : X.mg "range" = none) (h : DE X r a (.int n)) (hg : Gl X "range" := by rfl) (na : starEach [a] X.env = (false, eval a X.env) :: starEach [] X.env := by rfl) :
    PRg X (.Call (.Name "range" p) [a] [] pos) (fun σ H Q => ∃ Hs0 H0 Hs, Asn X.K Hs0 H0 r σ Hs H ∧ ∀ Hs' H', Grw Hs H Hs' H' → Q 0 n H') := fun pins s σ H Q I ⟨Hs0, H0, Hs, A, q⟩ =>
  prg_1 hg hm h na pins s σ H Q I ⟨Hs0, H0, Hs, A, fun v Hs' H' g hv => ⟨n, hv.inv_int, q Hs' H' g⟩⟩
theorem dn_listRange {n : Int} {p2 pos2 : Pos} (hc : X.calm = true) (hl : X.mg "list" = none) (hm : X.mg "range" = none) (h : DE X r a (.int n)) (h0 : 0 ≤ n) (h1 : n ≤ 1000000) (hg : Gl X "range" := by rfl) (hg2 : Gl X "list" := by rfl) (na : starEach [a] X.env = (false, eval a X.env) :: starEach [] X.env := by rfl)
    (nb : starEach [.Call (.Name "range" p) [a] [] pos] X.env = (false, eval (.Call (.Name "range" p) [a] [] pos) X.env) :: starEach [] X.env := by rfl) : DN X r (.Call (.Name "list" p2) [.Call (.Name "range" p) [a] [] pos] [] pos2) (rangeD 0 n.toNat) :=
  PE.wk (pe_listRg hc hg2 hl (prg_d hm h hg na) nb) fun _ _ σ H Q _ ⟨Hs0, H0, Hs, A, q⟩ => ⟨Hs0, H0, Hs, A, fun Hs1 H1 g1 => ⟨RgOk.of_le (by decide) (by omega) (by decide) h0, fun z hz =>
    q z _ Hs1 _ (g1.trans (Grw.laidO g1.sub hz)) (g1.all.free hz) (g1.sub.free hz) upd_same (by have := rgV_dats (H := Hs1) 0 n; rw [Int.sub_zero] at this; exact this)⟩⟩
theorem de_tupRange {n : Int} {p2 pos2 : Pos} (hc : X.calm = true) (hl : X.mg "tuple" = none) (hm : X.mg "range" = none) (h : DE X r a (.int n)) (h0 : 0 ≤ n) (h1 : n ≤ 1000000) (hg : Gl X "range" := by rfl) (hg2 : Gl X "tuple" := by rfl) (na : starEach [a] X.env = (false, eval a X.env) :: starEach [] X.env := by rfl)
    (nb : starEach [.Call (.Name "range" p) [a] [] pos] X.env = (false, eval (.Call (.Name "range" p) [a] [] pos) X.env) :: starEach [] X.env := by rfl) : DE X r (.Call (.Name "tuple" p2) [.Call (.Name "range" p) [a] [] pos] [] pos2) (.tuple (rangeD 0 n.toNat)) :=
  PE.wk (pe_tupRg hc hg2 hl (prg_d hm h hg na) nb) fun _ _ σ H Q _ ⟨Hs0, H0, Hs, A, q⟩ => ⟨Hs0, H0, Hs, A, fun Hs1 H1 g1 => ⟨RgOk.of_le (by decide) (by omega) (by decide) h0, fun z hz =>
    q _ _ _ (g1.trans (Grw.laid g1.sub hz)) (.tup upd_same (by have := rgV_dats (H := upd Hs1 z (.tup (rgV 0 n))) 0 n; rw [Int.sub_zero] at this; exact this))⟩⟩
/-! ### a, b = x, y -/
theorem ds_par2 (i j : Nat) {ea eb : Expr} {px py pt pt2 : Pos} {kt k2 : Nat} (hc : X.calm = true) (hN : X.N.Nodup) (h1 : DE X r ea d1) (h2 : DE X r eb d2) (hp : P.nx ((r.set i (.val d1)).set j (.val d2)))
    (hw : swappedStores [.Tuple [.Name x px, .Name y py] kt pt] (.Tuple [ea, eb] k2 pt2) X.env = pure (some [x, y]) := by rfl) (hij : i ≠ j := by decide) (hi : X.N[i]? = some x := by rfl) (hj : X.N[j]? = some y := by rfl)
    (hx : X.env.scope.names.lookup x = some .local := by rfl) (hy : X.env.scope.names.lookup y = some .local := by rfl) (e1 : starEach (ea :: [eb]) X.env = (false, eval ea X.env) :: starEach [eb] X.env := by rfl) (e2 : starEach (eb :: []) X.env = (false, eval eb X.env) :: starEach [] X.env := by rfl)
    (hs : swapsWithSole [.Tuple [.Name x px, .Name y py] kt pt] (.Tuple [ea, eb] k2 pt2) pos.line X.env = pure false := by rfl) : DS X E r (.Assign [.Tuple [.Name x px, .Name y py] kt pt] (.Tuple [ea, eb] k2 pt2) pos) P :=
  PS.wk (ps_par hc hN hi hj hij hx hy (da_2 h1 h2 e1 e2) hw hs) fun _ _ D σ H _ ⟨Hs0, H0, Hs, A, w⟩ => ⟨Hs0, H0, Hs, A, fun vs Hs1 H1 g1 hv => by
    cases hv with
    | cons hu t =>
      cases t with
      | cons hu2 t =>
        cases t
        exact ⟨_, _, rfl, w.nx _ _ Hs1 H1 hp (((A.grow g1).setV hu).setV hu2) g1.st⟩⟩
theorem ds_par3 (i j l : Nat) {z : Str} {d3 : PyData} {ea eb ec : Expr} {px py pz pt pt2 : Pos} {kt k2 : Nat} (hc : X.calm = true) (hN : X.N.Nodup) (h1 : DE X r ea d1) (h2 : DE X r eb d2) (h3 : DE X r ec d3) (hp : P.nx (((r.set i (.val d1)).set j (.val d2)).set l (.val d3)))
    (hw : swappedStores [.Tuple [.Name x px, .Name y py, .Name z pz] kt pt] (.Tuple [ea, eb, ec] k2 pt2) X.env = pure (some [x, y, z]) := by rfl) (hij : i ≠ j := by decide) (hil : i ≠ l := by decide) (hjl : j ≠ l := by decide) (hi : X.N[i]? = some x := by rfl) (hj : X.N[j]? = some y := by rfl) (hl : X.N[l]? = some z := by rfl)
    (hx : X.env.scope.names.lookup x = some .local := by rfl) (hy : X.env.scope.names.lookup y = some .local := by rfl) (hz : X.env.scope.names.lookup z = some .local := by rfl)
    (e1 : starEach (ea :: [eb, ec]) X.env = (false, eval ea X.env) :: starEach [eb, ec] X.env := by rfl) (e2 : starEach (eb :: [ec]) X.env = (false, eval eb X.env) :: starEach [ec] X.env := by rfl) (e3 : starEach (ec :: []) X.env = (false, eval ec X.env) :: starEach [] X.env := by rfl)
    (hs : swapsWithSole [.Tuple [.Name x px, .Name y py, .Name z pz] kt pt] (.Tuple [ea, eb, ec] k2 pt2) pos.line X.env = pure false := by rfl) : DS X E r (.Assign [.Tuple [.Name x px, .Name y py, .Name z pz] kt pt] (.Tuple [ea, eb, ec] k2 pt2) pos) P :=
  PS.wk (ps_par3 hc hN hi hj hl hij hil hjl hx hy hz (da_3 h1 h2 h3 e1 e2 e3) hw hs) fun _ _ D σ H _ ⟨Hs0, H0, Hs, A, w⟩ => ⟨Hs0, H0, Hs, A, fun vs Hs1 H1 g1 hv => by
    cases hv with
    | cons hu t =>
      cases t with
      | cons hu2 t =>
        cases t with
        | cons hu3 t =>
          cases t
          exact ⟨_, _, _, rfl, w.nx _ _ Hs1 H1 hp ((((A.grow g1).setV hu).setV hu2).setV hu3) g1.st⟩⟩
end
end Dl

namespace Dl
open PySem L2 PySem.W PyProof.Rows
/-! ### zip of three -/
def ItZ3 (c d f : Knd) (K : PySem.W.Frag) (a b g : Addr) : It :=
  ⟨fun i H => ∃ xs ys zs x y z, SqK c K H a xs ∧ SqK d K H b ys ∧ SqK f K H g zs ∧ xs[i]? = some x ∧ ys[i]? = some y ∧ zs[i]? = some z,
   fun i H v H' => ∃ T x y z, v = .ref T ∧ H T = none ∧ H' = upd H T (.tup [x, y, z]) ∧ (∀ xs, SqK c K H a xs → xs[i]? = some x) ∧ (∀ ys, SqK d K H b ys → ys[i]? = some y) ∧ ∀ zs, SqK f K H g zs → zs[i]? = some z,
   fun i H => ∃ xs ys zs, SqK c K H a xs ∧ SqK d K H b ys ∧ SqK f K H g zs ∧ min (min xs.length ys.length) zs.length = i⟩
theorem turnZ3 (c d f : Knd) {P : Program} {w : World} {K : PySem.W.Frag} {elts : List Expr} {kk : Nat} {tpos : Pos} {a b g : Addr} {N : Nat} (ha : a < N) (hb : b < N) (hgN : g < N) :
    Turn P w K (.Tuple elts kk tpos) (ItZ3 c d f K a b g) [N + 5, N + 3, N + 4, N, N + 1, N + 2] (N + 5) (fun i h => IsZip h (N + 5) (N + 3) (N + 4) .none ∧ IsTupOf3 h (N + 3) (.ref N) (.ref (N + 1)) (.ref (N + 2)) ∧ (∃ x y z, IsTupOf3 h (N + 4) x y z) ∧ ItK c h N a i ∧ ItK d h (N + 1) b i ∧ ItK f h (N + 2) g i) where
  mem := by simp
  obj := fun i h st z hz => by
    obtain ⟨h1, h2, ⟨x, y, z', h3⟩, h4, h5, h6⟩ := st
    simp only [List.mem_cons, List.not_mem_nil, or_false] at hz
    rcases hz with z | z | z | z | z | z
    · rw [z]; exact ⟨_, h1, fun v q => nomatch q⟩
    · rw [z]; exact ⟨_, h2, fun v q => nomatch q⟩
    · rw [z]; exact ⟨_, h3, fun v q => nomatch q⟩
    · rw [z]; exact itK_ob h4
    · rw [z]; exact itK_ob h5
    · rw [z]; exact itK_ob h6
  keep := fun i h h' st k => by
    obtain ⟨h1, h2, ⟨x, y, z', h3⟩, h4, h5, h6⟩ := st
    exact ⟨k _ (by simp) _ h1, k _ (by simp) _ h2, ⟨x, y, z', k _ (by simp) _ h3⟩, itK_at h4 fun o q => k _ (by simp) o q, itK_at h5 fun o q => k _ (by simp) o q, itK_at h6 fun o q => k _ (by simp) o q⟩
  item := by
    intro X hP hw hK hc i pins s σ H E I hf st hg
    subst hP hw hK
    obtain ⟨h1, h2, h3, h4, h5, h6⟩ := st
    obtain ⟨xs, ys, zs, x, y, z0, hq, hq', hq2, hx, hy, hz0⟩ := hg
    obtain ⟨its, rv, hseq⟩ := invK c I hq
    obtain ⟨its', rv', hseq'⟩ := invK d I hq'
    obtain ⟨its2, rv2, hseq2⟩ := invK f I hq2
    have hh : X.A.in1.handled = none := by have := I.ok.hd hc; simpa using this
    have hD := drawsK c (prog := X.prog) (w := X.w) (A := X.A.in1) hh N a (Nat.ne_of_lt ha) its.toArray
    have hD' := drawsK d (prog := X.prog) (w := X.w) (A := X.A.in1) hh (N + 1) b (Nat.ne_of_lt (Nat.lt_succ_of_lt hb)) its'.toArray
    have hD2 := drawsK f (prog := X.prog) (w := X.w) (A := X.A.in1) hh (N + 2) g (Nat.ne_of_lt (Nat.lt_of_lt_of_le hgN (Nat.le_add_right _ _))) its2.toArray
    have G := GoesN.zip3 (elts := elts) (x1 := kk) (pos := tpos) (zip_sep3 (N := N) (fp1 := [a]) (fp2 := [b]) (fp3 := [g]) (by simpa using ha) (by simpa using hb) (by simpa using hgN)) hD hD' hD2
    have hlt : i < min (min its.toArray.size its'.toArray.size) its2.toArray.size := by
      rw [List.size_toArray, List.size_toArray, List.size_toArray, ← rv.length, ← rv'.length, ← rv2.length]
      have := (List.getElem?_eq_some_iff.mp hx).1
      have := (List.getElem?_eq_some_iff.mp hy).1
      have := (List.getElem?_eq_some_iff.mp hz0).1
      omega
    have hN : N + 5 < s.heap.objs.size := Heap.lt_size h1
    refine G.goes i s _ E hlt ⟨h1, h2, h3, ⟨h4, hseq⟩, ⟨h5, hseq'⟩, h6, hseq2⟩ fun v h' tk hY hSt hk htk => ?_
    obtain ⟨T, u, u2, u3, rfl, hT, hu, hu2, hu3, ht⟩ := hY
    obtain ⟨w1, e1, r1⟩ := rv.get hx
    obtain ⟨w2, e2, r2⟩ := rv'.get hy
    obtain ⟨w3, e3, r3⟩ := rv2.get hz0
    have eu : u = w1 := by rw [List.getElem?_toArray, e1] at hu; exact (Option.some.inj hu).symm
    have eu2 : u2 = w2 := by rw [List.getElem?_toArray, e2] at hu2; exact (Option.some.inj hu2).symm
    have eu3 : u3 = w3 := by rw [List.getElem?_toArray, e3] at hu3; exact (Option.some.inj hu3).symm
    subst eu; subst eu2; subst eu3
    obtain ⟨k1, k2, k3, ⟨k4, _⟩, ⟨k5, _⟩, k6, _⟩ := hSt
    have new : ObjOk X.prog X.w (upd H T (.tup [x, y, z0])) h' T (.tup [x, y, z0]) := ⟨by show 3 ≤ sizeLine; decide, [u, u2, u3], .cons r1 (.cons r2 (.cons r3 .nil)), ht⟩
    refine ⟨.ref T, _, I.turnedNew (t' := tk) (ch := [N + 5, N + 3, N + 4, N, N + 1, N + 2]) (fun z ob hz q => hk z ob (fun m => hz ?_) q) hf hT new, rfl, ⟨T, x, y, z0, rfl, I.hok.fresh hT, rfl, fun zs hz => by rw [invK_inj c I hz hq]; exact hx, fun zs hz => by rw [invK_inj d I hz hq']; exact hy, fun zs hz => by rw [invK_inj f I hz hq2]; exact hz0⟩, ⟨k1, k2, k3, k4, k5, k6⟩, fun z hz => ?_⟩
    · simp only [List.mem_cons, List.not_mem_nil, or_false] at m ⊢
      rcases m with m | m | m | m | m <;> simp [m]
    · have hz' : z ≤ N + 5 := by
        simp only [List.mem_cons, List.not_mem_nil, or_false] at hz
        rcases hz with z | z | z | z | z | z <;> rw [z] <;> first | exact Nat.le_refl _ | exact Nat.le_add_right _ _ | exact Nat.add_le_add_left (by decide) _
      rw [upd_ne (Nat.ne_of_lt (Nat.lt_of_le_of_lt hz' (Nat.lt_of_lt_of_le hN hT)))]
      exact (hf z hz).1
  done := by
    intro X hP hw hK hc i pins s σ H E I hf st hg
    subst hP hw hK
    obtain ⟨h1, h2, h3, h4, h5, h6⟩ := st
    obtain ⟨xs, ys, zs, hq, hq', hq2, hi⟩ := hg
    obtain ⟨its, rv, hseq⟩ := invK c I hq
    obtain ⟨its', rv', hseq'⟩ := invK d I hq'
    obtain ⟨its2, rv2, hseq2⟩ := invK f I hq2
    have hh : X.A.in1.handled = none := by have := I.ok.hd hc; simpa using this
    have hD := drawsK c (prog := X.prog) (w := X.w) (A := X.A.in1) hh N a (Nat.ne_of_lt ha) its.toArray
    have hD' := drawsK d (prog := X.prog) (w := X.w) (A := X.A.in1) hh (N + 1) b (Nat.ne_of_lt (Nat.lt_succ_of_lt hb)) its'.toArray
    have hD2 := drawsK f (prog := X.prog) (w := X.w) (A := X.A.in1) hh (N + 2) g (Nat.ne_of_lt (Nat.lt_of_lt_of_le hgN (Nat.le_add_right _ _))) its2.toArray
    have G := GoesN.zip3 (elts := elts) (x1 := kk) (pos := tpos) (zip_sep3 (N := N) (fp1 := [a]) (fp2 := [b]) (fp3 := [g]) (by simpa using ha) (by simpa using hb) (by simpa using hgN)) hD hD' hD2
    have hn : i = min (min its.toArray.size its'.toArray.size) its2.toArray.size := by
      rw [List.size_toArray, List.size_toArray, List.size_toArray, ← rv.length, ← rv'.length, ← rv2.length]
      exact hi.symm
    subst hn
    refine G.stops s _ E ⟨h1, h2, h3, ⟨h4, hseq⟩, ⟨h5, hseq'⟩, h6, hseq2⟩ fun h' tk hk htk => I.turnedL (t' := tk) (ch := [N + 5, N + 3, N + 4, N, N + 1, N + 2]) (fun z ob hz q => hk z ob (fun m => hz ?_) q) hf
    simp only [List.mem_cons, List.not_mem_nil, or_false] at m ⊢
    rcases m with m | m | m | m | m <;> simp [m]
  self := fun A i s Q E st h => wpAny_pyIter_zip st.1 h
def iZ3 (c d f : Knd) (K : PySem.W.Frag) (ta : TA) : TI := fun σ H R => ta σ H fun vs H1 => ∃ a b g xs ys zs, vs = [.ref a, .ref b, .ref g] ∧ SqK c K H1 a xs ∧ SqK d K H1 b ys ∧ SqK f K H1 g zs ∧ R (ItZ3 c d f K a b g) H1
theorem piZ3 (c d f : Knd) {X : Cx} {e e2 e3 : Expr} {ta : TA} {p pos tpos : Pos} {elts : List Expr} {kk : Nat} (hg : Gl X "zip") (hm : X.mg "zip" = none) (ha : PA X [e, e2, e3] ta)
    (hs : starEach [e, e2, e3] X.env = (false, eval e X.env) :: starEach [e2, e3] X.env := by rfl) (hpl : (backTo pos (starEach [e2, e3] X.env)).any (·.1) = false := by rfl) : PI X (.Tuple elts kk tpos) (.Call (.Name "zip" p) [e, e2, e3] [] pos) (iZ3 c d f X.K ta) := ⟨fun pins s σ H R I h => by
  refine Call_ (ld_blt I hg hm boot_zip (callWith_type1 (thn (ha.run pos pins s σ H _ I h) fun us s1 ⟨vs, H1, I1, r1, q1⟩ => ?_) hs hpl))
  obtain ⟨a, b, g, xs, ys, zs, ev, hq, hq', hq2, q⟩ := q1
  subst ev
  cases r1 with
  | cons ru r2 =>
  obtain ⟨u2, u3, rfl, ru2, ru3⟩ := vals2 r2
  cases ru
  cases ru2
  cases ru3
  obtain ⟨its, rv, hseq⟩ := invK c I1 hq
  obtain ⟨its', rv', hseq'⟩ := invK d I1 hq'
  obtain ⟨its2, rv2, hseq2⟩ := invK f I1 hq2
  refine zip_begins3 (beginsK c a its.toArray) (beginsK d b its'.toArray) (beginsK f g its2.toArray) hseq hseq' hseq2 fun h' z1 z2 z3 z4 z5 z6 _ hk => wpAny_pyIter_zip z1 ?_
  refine ⟨_, [s1.heap.objs.size + 5, s1.heap.objs.size + 3, s1.heap.objs.size + 4, s1.heap.objs.size, s1.heap.objs.size + 1, s1.heap.objs.size + 2], _, _, H1, rfl, I1.kept (t' := s1.toks) hk, turnZ3 c d f (seqK_lt hseq) (seqK_lt hseq') (seqK_lt hseq2), ⟨z1, z2, ⟨_, _, _, z3⟩, itK_0 z4, itK_0 z5, itK_0 z6⟩, fun z hz => ?_, q⟩
  have hle : s1.heap.objs.size ≤ z := by
    simp only [List.mem_cons, List.not_mem_nil, or_false] at hz
    rcases hz with z | z | z | z | z | z <;> rw [z] <;> first | exact Nat.le_refl _ | exact Nat.le_add_right _ _
  exact I1.fpOk hle (I1.hok.fresh hle)⟩
section
variable {X : Cx} {r : Rho} {e e2 e3 : Expr} {pos p tpos : Pos} {ds es fs : List PyData} {elts : List Expr} {kk : Nat}
def zip3D (ds es fs : List PyData) : List PyData := ((ds.zip es).zip fs).map fun p => .tuple [p.1.1, p.1.2, p.2]
theorem di_zip3 (c d f : Knd) (hm : X.mg "zip" = none) (h : DE X r e (kd c ds)) (h' : DE X r e2 (kd d es)) (h2 : DE X r e3 (kd f fs)) (hz : ds.length ≤ 1000000) (hg : Gl X "zip" := by rfl) (hs : starEach [e, e2, e3] X.env = (false, eval e X.env) :: starEach [e2, e3] X.env := by rfl) (hs2 : starEach (e2 :: [e3]) X.env = (false, eval e2 X.env) :: starEach [e3] X.env := by rfl) (hs3 : starEach (e3 :: []) X.env = (false, eval e3 X.env) :: starEach [] X.env := by rfl)
    (hpl : (backTo pos (starEach [e2, e3] X.env)).any (·.1) = false := by rfl) : DI X r (.Tuple elts kk tpos) (.Call (.Name "zip" p) [e, e2, e3] [] pos) (zip3D ds es fs) :=
  PI.wk (piZ3 c d f hg hm (da_3 h h' h2 hs hs2 hs3) hs hpl) fun σ H R ⟨Hs0, H0, Hs, A, q⟩ => ⟨Hs0, H0, Hs, A, fun vs Hs1 H1 g1 hv => by
    cases hv with
    | cons hu t =>
      cases t with
      | cons hu2 t =>
        cases t with
        | cons hu3 t =>
        cases t
        obtain ⟨a, xs, rfl, hk, hx⟩ := Dat.inv_kd (K := X.K) hu
        obtain ⟨b, ys, rfl, hk2, hy⟩ := Dat.inv_kd (K := X.K) hu2
        obtain ⟨g, zs, rfl, hk3, hw⟩ := Dat.inv_kd (K := X.K) hu3
        refine ⟨a, b, g, xs, ys, zs, rfl, hk _ g1.sub, hk2 _ g1.sub, hk3 _ g1.sub, fun _ => q _ Hs1 H1 g1 (fun i Hs2 H2 s1 s2 => ⟨fun dd hd => ?_, fun hl => ⟨xs, ys, zs, hk _ (s1.trans s2), hk2 _ (s1.trans s2), hk3 _ (s1.trans s2), ?_⟩⟩) ?_⟩
        · unfold zip3D at hd
          obtain ⟨⟨⟨d1, d2⟩, d3⟩, hj, rfl⟩ := map_at hd
          rw [List.getElem?_zip_eq_some] at hj
          obtain ⟨hj, hj3⟩ := hj
          rw [List.getElem?_zip_eq_some] at hj
          obtain ⟨v, ev, hv⟩ := hx.get hj.1
          obtain ⟨v2, ev2, hv2⟩ := hy.get hj.2
          obtain ⟨v3, ev3, hv3⟩ := hw.get hj3
          refine ⟨⟨xs, ys, zs, v, v2, v3, hk _ (s1.trans s2), hk2 _ (s1.trans s2), hk3 _ (s1.trans s2), ev, ev2, ev3⟩, fun u H3 ⟨T, y1, y2, y3, eu, hT, eH, hy1, hy2, hy3⟩ => ?_⟩
          subst eu; subst eH
          have t1 := hy1 xs (hk _ (s1.trans s2))
          have t2 := hy2 ys (hk2 _ (s1.trans s2))
          have t3 := hy3 zs (hk3 _ (s1.trans s2))
          rw [ev] at t1
          rw [ev2] at t2
          rw [ev3] at t3
          cases t1
          cases t2
          cases t3
          exact ⟨_, Grw.laid s2 hT, .tup upd_same (.cons ((hv.mono s1).mono (same_upd (s2.free hT))) (.cons ((hv2.mono s1).mono (same_upd (s2.free hT))) (.cons ((hv3.mono s1).mono (same_upd (s2.free hT))) .nil)))⟩
        · unfold zip3D at hl
          rw [List.length_map, List.length_zip, List.length_zip] at hl
          rw [hx.length, hy.length, hw.length]; exact hl
        · unfold zip3D
          rw [List.length_map, List.length_zip, List.length_zip]
          exact size_ok (by omega)⟩
end
end Dl

namespace Dl
open PySem L2 PySem.W PyProof.Rows PpSet
/-! ## sets of truth values -/
theorem setB_new_at {w : World} {h : Heap} {a : Addr} {bs : List Bool} (ho : h.get? a = some { cls := .type "set", dict := none, data := .set #[] 0 (.fresh 0 0 (!w.params.followText "set-order")) }) : SetB w h a (fun j => decide (j ∈ bs.take 0)) 0 :=
  ⟨_, #[], 0, _, ho, ⟨rfl, rfl, rfl⟩, rfl, (fun e he => by simp at he), (by simp), (fun k => by simp), (by decide), (by rfl), rfl, List.Pairwise.nil, by
    show _ ∨ (!w.params.followText "set-order") = true
    cases w.params.followText "set-order"
    · exact .inr rfl
    · exact .inl rfl⟩
section
variable {P : Program} {w : World} {A : Around} {E : Value → Shared → Prop} {s : Shared}
theorem set_update_bools {I : Addr} {fp wr : List Addr} {G : Array GenState → Array GenState → Prop} {n : Nat} {Pv : Nat → Value → Prop} {St : Nat → Shared → Prop} {R : Result → Shared → Prop}
    (W : WalksS P w A.in1 I fp wr G n Pv St) (S : Addr) (hSf : S ∉ fp) (bs : List Bool) (hn : n = bs.length) (hb : bs.length + 1 < scanBound) (hval : ∀ i v, Pv i v → ∃ k, bs[i]? = some k ∧ v = .bool k) :
    ∀ (k i : Nat) (s : Shared), n - i = k → i ≤ n → St i s → (∃ c, c ≤ i ∧ SetB w s.heap S (fun j => decide (j ∈ bs.take i)) c) →
      (∀ s' c, Moved (S :: wr) G s s' → c ≤ n → SetB w s'.heap S (fun j => decide (j ∈ bs)) c → R (.ok (.ret .none)) s') →
      codeAny (model P w) A (.builtin "set.update.loop" ⟨[.ref S, .ref I], []⟩) R s := by
  have hSw : S ∉ wr := fun h => hSf (W.sub _ h)
  have hsub : ∀ b ∈ wr, b ∈ S :: wr := fun b hb => List.mem_cons_of_mem _ hb
  intro k
  induction k with
  | zero =>
    intro i s hk' hi hst ⟨c, hc, hS⟩ hR
    have hin : i = n := by omega
    subst hin
    refine codeAny_builtin F.entry_set_update_loop ?_
    rw [Around.under_plainId F.plain_set_update_loop _]
    show wpAny _ A.in1 (pyNext (.ref I) >>= _) _ _ s
    refine wpAny_bind (W.done s _ _ hst fun s' hm => ?_)
    show wpAny _ A.in1 (ret Value.none) _ _ s'
    have e : bs.take i = bs := List.take_of_length_le (by omega)
    rw [e] at hS
    exact wpAny_pure (hR s' c (hm.mono hsub) hc (hS.at fun o e => hm.heap S o hSw e))
  | succ k ih =>
    intro i s hk' hi hst ⟨c, hc, hS⟩ hR
    have hlt : i < n := by omega
    refine codeAny_builtin F.entry_set_update_loop ?_
    rw [Around.under_plainId F.plain_set_update_loop _]
    show wpAny _ A.in1 (pyNext (.ref I) >>= _) _ _ s
    refine wpAny_bind (W.item i s _ _ hlt hst fun v s' hP hst' hm => ?_)
    obtain ⟨z, hz, rfl⟩ := hval i v hP
    have hS' : SetB w s'.heap S (fun j => decide (j ∈ bs.take i)) c := hS.at fun o e => hm.heap S o hSw e
    show wpAny _ A.in1 (holding [Value.bool z] (setAdd S (.bool z)) >>= _) _ _ s'
    refine wpAny_bind (wpAny_holding ?_)
    unfold setAdd
    refine wpAny_holding ?_
    refine wpAny_bind ((boolK P w).pyHash (boolK_is P w z) ?_)
    refine setB_add_hashed (s := { s' with toks := s'.toks + 1 }) hS' (by omega) fun h' hsb hS2 => ?_
    have hS3 : SetB w h' S (fun j => decide (j ∈ bs.take (i + 1))) (if decide (z ∈ bs.take i) = true then c else c + 1) := hS2.congr fun j => by
      rw [List.take_add_one, hz]
      simp [List.mem_append]
    have hc3 : (if decide (z ∈ bs.take i) = true then c else c + 1) ≤ i + 1 := by
      split <;> omega
    refine wpAny_pure ⟨plainId_quiet F.plain_set_update_loop _, ih (i + 1) _ (by omega) hlt (W.frame _ s' _ _ hst' (Nat.le_succ _) fun b hb o e => ?_) ⟨_, hc3, hS3⟩ fun s'' c2 hm'' hc'' hS'' => ?_⟩
    · rw [hsb.2 b (fun h : b = S => hSf (by rw [← h]; exact hb))]; exact e
    · refine hR s'' c2 (Moved.trans W.gtrans ((hm.mono hsub).then_heap (Nat.le_succ _) fun b o hb e => ?_) hm'') hc'' hS''
      rw [hsb.2 b (fun h : b = S => hb (by rw [h]; exact List.mem_cons_self))]; exact e
structure SetLaidB (w : World) (bs : List Bool) (s : Shared) (h' : Heap) (c : Nat) : Prop where
  set : SetB w h' s.heap.objs.size (fun j => decide (j ∈ bs)) c
  le : c ≤ bs.length
  keep : ∀ b o, s.heap.get? b = some o → h'.get? b = some o
set_option maxHeartbeats 3200000 in
theorem set_list_rawB {l : Addr} {its : Array Value} (bs : List Bool) {Q : Value → Shared → Prop} (hh : A.handled = none) (hl : s.heap.IsList l its) (hi : its = (bs.map Value.bool).toArray) (hb : bs.length + 1 < scanBound)
    (q : ∀ (h' : Heap) (tk c : Nat), SetLaidB w bs s h' c → Q (.ref s.heap.objs.size) { s with heap := h', toks := tk }) : wpAny (model P w) A (call (.type "set") [.ref l]) Q E s := by
  have hsz : its.size = bs.length := by
    rw [hi, List.size_toArray, List.length_map]
  have hlS : l < s.heap.objs.size := by
    obtain ⟨o, ho, _⟩ := hl
    exact Heap.lt_size ho
  have hS0 : (s.heap.push (set0 w)).get? s.heap.objs.size = some (set0 w) := Heap.get?_push_size _ rfl
  have hsz1 : (s.heap.push (set0 w)).objs.size = s.heap.objs.size + 1 := Heap.size_push ..
  have hl1 : (s.heap.push (set0 w)).IsList l its := hl.push _
  have hval : ∀ (i : Nat) (v : Value), its[i]? = some v → ∃ k, bs[i]? = some k ∧ v = Value.bool k := fun i v hv => by
    rw [hi, List.getElem?_toArray] at hv
    exact map_at hv
  have hne : l ≠ (s.heap.push (set0 w)).objs.size := by
    rw [hsz1]
    exact Nat.ne_of_lt (Nat.lt_succ_of_lt hlS)
  have hnf : s.heap.objs.size ∉ [(s.heap.push (set0 w)).objs.size, l] := by
    rw [hsz1]
    intro z
    rcases List.mem_cons.mp z with z | z
    · exact absurd z (Nat.ne_of_lt (Nat.lt_succ_self _))
    · exact absurd (List.mem_singleton.mp z) (Nat.ne_of_gt hlS)
  obtain ⟨c, tl, hmro⟩ := F.called_set.mro
  have m1 := F.called_set.made
  have m2 := F.called_set.sub
  have m3 := F.called_set.notType
  have m4 := F.called_set.canCreate
  have m5 := F.typeCall_set_1 (.ref l)
  apply wpAny_call
  apply codeAny_of_tree
  change wpAny _ _ (callAny (.type "set") _) _ _ _
  refine wpAny_pure ⟨Code.quiet_builtin _ (by decide +kernel), codeAny_builtin F.entry_type_call ?_⟩
  rw [Around.under_plain (weight_type_call_type "set" [.ref l] []) rfl]
  repeat (any_goals (first | assumption | wp_step))
  refine codeAny_mono (code_set_led1 (.ref l) (E := E) (Q₁ := fun z s1 => z = .ref s.heap.objs.size ∧ s1 = { s with heap := s.heap.push (set0 w) }) ⟨rfl, rfl⟩) fun r1 s1 hr1 => ?_
  cases r1 with
  | error z => exact hr1
  | ok fl =>
    cases fl with
    | next => exact hr1
    | brk => exact hr1
    | cont => exact hr1
    | ret z =>
      obtain ⟨rfl, rfl⟩ := hr1
      have hT : Shared.TypeIs { s with heap := s.heap.push (set0 w) } (.ref s.heap.objs.size) "set" := ⟨_, hS0, rfl⟩
      have m6 := F.called_set.init.lookup
      have m7 := F.called_set.init.bind (.ref s.heap.objs.size)
      repeat (any_goals (first | assumption | wp_step))
      refine codeAny_mono (codeAny_call_builtin (R := wants (fun r s2 => r = .none ∧ ∃ h' tk c, s2 = { s with heap := h', toks := tk } ∧ SetLaidB w bs s h' c) E) F.called_set.init.plain F.entry_set_init (check_set_init_1 hT ?_)) fun r2 s2 hr2 => ?_
      · have hl2 := hl1
        obtain ⟨ol, ho, hc, nl, hd⟩ := hl2
        obtain ⟨cl, di, da, sl⟩ := ol
        dsimp only at hc hd
        subst hc
        subst hd
        have m8 := F.sub_list_set
        have m9 := F.sub_list_frozenset
        have m10 : (Value.type "list" == Value.type "dict") = false := by decide
        unfold Builtin.«set.__init__» noKeywords Builtin.Frozenset.updateFrom
        generalize hPI : pyIter = PI
        wp_walk
        subst hPI
        refine wpAny_pyIter_list hl1 ?_
        refine wpAny_bind (wpAny_runValue ?_)
        have hh3 : A.in1.in1.in1.handled = none := by simp [hh]
        refine set_update_bools ((Walks.list hh3 _ l hne its).toS) s.heap.objs.size hnf bs hsz hb hval (its.size - 0) 0 _ (by omega) (Nat.zero_le _) ⟨⟨_, Heap.get?_push_size _ rfl, rfl, rfl⟩, hl1.push _⟩ ?h0 ?h1
        case h0 => exact ⟨0, Nat.le_refl 0, setB_new_at (Heap.get?_push_of_some _ hS0)⟩
        case h1 =>
          intro s' c' hm hc' hS'
          obtain ⟨h', g', d', t', o'⟩ := s'
          obtain rfl : g' = s.gens := hm.gens
          obtain rfl : d' = s.drawn := hm.drawn
          obtain rfl : o' = s.os := hm.os
          refine wpAny_pure ?_
          change wpAny _ _ (ret Value.none) _ _ _
          refine wpAny_pure ⟨rfl, h', t', c', rfl, hS', by rw [← hsz]; exact hc', fun b o e => ?_⟩
          have hlt : b < s.heap.objs.size := Heap.lt_size e
          refine hm.heap b o (fun z => ?_) (Heap.get?_push_of_some _ (Heap.get?_push_of_some _ e))
          rcases List.mem_cons.mp z with z | z
          · exact absurd z (Nat.ne_of_lt hlt)
          · rw [List.mem_singleton, hsz1] at z
            exact absurd z (Nat.ne_of_lt (Nat.lt_succ_of_lt hlt))
      · cases r2 with
        | error z => exact hr2
        | ok fl =>
          cases fl with
          | next => exact hr2
          | brk => exact hr2
          | cont => exact hr2
          | ret z =>
            obtain ⟨rfl, h', tk, c', rfl, L⟩ := hr2
            repeat (any_goals (first | assumption | wp_step))
            exact q h' tk c' L
end
/-- how many truth values there are in a list, each once -/
def cntB (bs : List Bool) : Nat := ([true, false].filter fun b => decide (b ∈ bs)).length
theorem SetB.count {w : World} {h : Heap} {a : Addr} {bs : List Bool} {n : Nat} (R : SetB w h a (fun j => decide (j ∈ bs)) n) : n = cntB bs := by
  obtain ⟨o, es, ep, t, ho, hx, hd, g, nd, hm, hb, hf, hn, _⟩ := R
  have : (es.toList.map keyB).length = cntB bs := by
    refine ((List.perm_ext_iff_of_nodup nd (List.Pairwise.filter _ (by decide : [true, false].Nodup))).mpr fun k => ?_).length_eq
    rw [← hm k, List.mem_filter]
    cases k <;> simp
  rw [List.length_map, Array.length_toList] at this
  omega
theorem vals_bls : ∀ {bs : List Bool} {us : List Value}, Vals (bs.map V.bl) us → us = bs.map Value.bool
  | [], _, h => by cases h; rfl
  | b :: bs, _, h => by
    cases h with
    | cons h1 h2 =>
      rw [vals_bls h2, h1]
      rfl
section
variable {X : Cx} {E : XK} {r r1 : Rho} {e a b c : Expr} {pos p : Pos} {d d1 d2 : PyData} {ds es : List PyData} {i j : Int} {x : Str} {bs : List Bool}
def tSb (K : PySem.W.Frag) (w : World) (r : Rho) (bs : List Bool) : TE := fun σ H Q => ∃ Hs0 H0 Hs, Asn K Hs0 H0 r σ Hs H ∧ ∀ q Hs' H', Grw Hs H Hs' H' → H' q = some (SetBO w q (fun j => decide (j ∈ bs)) (cntB bs)) → Q (.ref q) H'
def DSb (X : Cx) (r : Rho) (e : Expr) (bs : List Bool) : Prop := PE X e (tSb X.K X.w r bs)
def rSetOfB (w : World) : List V → Hp → VK → Prop := fun vs H Q => ∃ v, ∃ bs : List Bool, vs = [v] ∧ Dat H v (.list (bs.map .bool)) ∧ bs.length ≤ 4000 ∧ ∀ q, H q = none → Q (.ref q) (upd H q (SetBO w q (fun j => decide (j ∈ bs)) (cntB bs)))
theorem cr_setOfB (hc : X.calm = true) : CallR X (.type "set") (rSetOfB X.w) := fun pins s σ H vs us Q I rv ⟨v, bs, ev, hv, hn, q⟩ => by
  subst ev
  obtain ⟨u, rfl, ru⟩ := vals1 rv
  have hf : H s.heap.objs.size = none := I.hok.fresh (Nat.le_refl _)
  have hsc : bs.length + 1 < scanBound := by unfold scanBound; omega
  obtain ⟨l, xs, rfl, hl, hx⟩ := hv.inv_list
  obtain rfl := hx.bls
  cases ru
  obtain ⟨its, hr, hp, hz⟩ := I.list (SqL.of hl)
  refine set_list_rawB bs (I.ok.hd hc) hp.isList (by rw [vals_bls hr]) hsc fun h' tk c L => ?_
  have R := L.set
  rw [SetB.count R] at R
  exact ⟨.ref _, _, I.laid (t' := tk) (fun b o hb => L.keep b o hb) (Nat.le_refl _) (setBO_new R), rfl, q _ hf⟩
theorem dsb_set (hc : X.calm = true) (hm : X.mg "set" = none) (ha : DE X r e (.list (bs.map .bool))) (hn : bs.length ≤ 4000) (hg : Gl X "set" := by rfl)
    (he : starEach (e :: []) X.env = (false, eval e X.env) :: starEach [] X.env := by rfl) (hpl : (backTo pos (starEach [] X.env)).any (·.1) = false := by rfl) : DSb X r (.Call (.Name "set" p) [e] [] pos) bs :=
  PE.wk (pe_callTy (cr_setOfB hc) hg hm (by decide +kernel) (da_1 ha he) (by decide) (by decide) he hpl) fun _ _ σ H Q _ ⟨Hs0, H0, Hs, A, q⟩ => ⟨Hs0, H0, Hs, A, fun vs Hs1 H1 g1 h1 => by
    cases h1 with
    | cons hu t =>
      cases t
      exact ⟨_, bs, rfl, Dat.mono g1.sub hu, hn, fun z hz => q z Hs1 _ (g1.trans (Grw.laidO g1.sub hz)) upd_same⟩⟩
theorem cr_lenSetB : CallR X (.builtin "len") (fun vs H Q => ∃ (q : Addr) (S : Bool → Bool) (n : Nat), vs = [.ref q] ∧ H q = some (SetBO X.w q S n) ∧ Q (.int n) H) := fun pins s σ H vs us Q I rv ⟨z, S, n, ev, hz, q⟩ => by
  subst ev
  rw [Vals.ref1 rv]
  obtain ⟨o, es, ep, t, ho, hx, hd, g, nd, hm, hb, hf, hn, _⟩ := setBO_get I hz
  exact call_len_set ho hx hd hf (by unfold scanBound at hb; omega) ⟨.int n, H, I.tok _, ⟨_, by rw [hn]⟩, q⟩
theorem de_lenSetB (hm : X.mg "len" = none) (ha : DSb X r e bs) (hg : Gl X "len" := by rfl)
    (he : starEach (e :: []) X.env = (false, eval e X.env) :: starEach [] X.env := by rfl) (hpl : (backTo pos (starEach [] X.env)).any (·.1) = false := by rfl) : DE X r (.Call (.Name "len" p) [e] [] pos) (.int (cntB bs)) :=
  PE.wk (pe_callB cr_lenSetB hg hm PySem.boot_len (pa_cons ha pa_nil he) (by decide) (by decide) he hpl) fun _ _ σ H Q _ ⟨Hs0, H0, Hs, A, q⟩ => ⟨Hs0, H0, Hs, A, fun z Hs1 H1 g1 h1 =>
    ⟨z, _, _, rfl, h1, q _ Hs1 H1 g1 (.int _)⟩⟩
end
theorem cntB_one {bs : List Bool} (h : ∀ a ∈ bs, ∀ b ∈ bs, a = b) : cntB bs ≤ 1 := by
  unfold cntB
  by_cases h1 : true ∈ bs <;> by_cases h2 : false ∈ bs
  · exact absurd (h _ h1 _ h2) (by decide)
  all_goals simp [h1, h2]
end Dl

namespace Dl
open PySem L2 PySem.W PyProof.Rows
def R_true : Rho → PyData → Prop := fun as d => ∃ ns : List Int, as = [.scr ns] ∧ ns.length ≤ 63 ∧ d = .bool true
def spLaw (K : PySem.W.Frag) : Sp := fun vs H Q _ => ∃ (a : Addr) (ns : List Int), vs = [.ref a] ∧ SqL K H a (ns.map V.int) ∧ ns.length ≤ 63 ∧ ∀ H', Q (.bl true) H'
theorem law_end {P : Program} {w : World} {K : PySem.W.Frag} {mg : Str → Option Value} {base : Heap} {k : Nat} {f : Addr} {fd : FuncData} (F : FnOk P w K mg base CX0 k f fd ["script"] (spF K R_true)) : FnOk P w K mg base CX0 k f fd ["script"] (spLaw K) :=
  F.imp fun vs H Q E ⟨a, ns, e, hs, hl, q⟩ => ⟨H, [.scr ns], .bool true, Same.refl H, e ▸ .cons ⟨a, rfl, hs⟩ .nil, ⟨ns, rfl, hl, rfl⟩, fun v Hs' H' g hv => by rw [hv.inv_bool]; exact q H'⟩
end Dl

namespace Tm
open PySem Dl
/-! the mirror of timing.py -/
abbrev Pair := Int × Option Int
def oI : Option Int → PyData
  | none => .none
  | some t => .int t
def tP (p : Pair) : PyData := .tuple [.int p.1, oI p.2]
def cP (p : Int × Int) : PyData := .tuple [.int p.1, .int p.2]
def hD (h : List Pair) : PyData := .tuple (h.map tP)
def hsD (hs : List (List Pair)) : PyData := .tuple (hs.map hD)
def tI (ns : List Int) : PyData := .tuple (ns.map .int)
def cameIn (h : List Pair) : List (Int × Int) := h.filterMap fun p => p.2.map fun t => (p.1, t)
theorem cameIn_data (h : List Pair) : (h.filter fun p => p.2.isSome).map tP = (cameIn h).map cP := by
  induction h with
  | nil => rfl
  | cons p h ih =>
    obtain ⟨n, t⟩ := p
    cases t with
    | none =>
      rw [List.filter_cons_of_neg (by simp)]
      exact ih
    | some t =>
      rw [List.filter_cons_of_pos (by rfl), List.map_cons, ih]
      rfl
theorem cameIn_len (h : List Pair) : (cameIn h).length ≤ h.length := List.length_filterMap_le _ _
def firstOnes (s : List (Int × Int)) (most : Int) : List (Int × Int) := s.filter fun p => decide (((s.filter fun o => decide (o.2 < p.2)).length : Int) < most)
def byPlaces (hs : List (List Pair)) (k : Int) : List (Int × Int) := hs.flatMap fun h => firstOnes (cameIn h) k
def restOf (hs : List (List Pair)) (gone : List (Int × Int)) : List (Int × Int) := hs.flatMap fun h => (cameIn h).filter fun p => !gone.any fun z => decide (z = p)
def byTimes (hs : List (List Pair)) (k t : Int) : List (Int × Int) := firstOnes (restOf hs (byPlaces hs k)) t
def runners (s : List (Int × Int)) : List Int := sortI (s.map (·.1))
def goingOn (hs : List (List Pair)) (k t : Int) : List Int := runners (byPlaces hs k ++ byTimes hs k t)
def beaten (hs : List (List Pair)) (k t : Int) : List Int := runners (hs.flatMap fun h => (cameIn h).filter fun p => !(goingOn hs k t).any fun z => decide (z = p.1))
def lucky (hs : List (List Pair)) (k t : Int) : List Int := runners (byTimes hs k t)
def placed (h : List Pair) : List (List Int) := (risen ((cameIn h).map (·.2))).map fun t => (h.filter fun p => decide (p.2 = some t)).map (·.1)
end Tm

namespace Lw
open PySem Dl
/-! the mirror of the laws' own drawing -/
def mixed (ns : List Int) (k : Nat) : Int := (((ns.getD k 0 + 7919 * (k : Int) + 1) * 48271 % 2147483647) * ((ns.getD k 0 + 7919 * (k : Int) + 1) * 48271 % 2147483647) + 7 * ((ns.getD k 0 + 7919 * (k : Int) + 1) * 48271 % 2147483647) + (k : Int)) % 2147483629
def drawn (n : Int) (k : Nat) : Int := (((n + 104729 * (k : Int) + 17) * 69621 % 2147483647) * ((n + 104729 * (k : Int) + 17) * 69621 % 2147483647) + 3 * ((n + 104729 * (k : Int) + 17) * 69621 % 2147483647) + (k : Int)) % 2147483629
end Lw

namespace Lw
open PySem Dl Tm
def tmOf (n dr : Int) (j : Nat) : Option Int := if drawn dr (10 + j) / 16 % 6 = 0 then none else some (50 + drawn dr j / 16 % (if n / 64 % 2 = 0 then 4 else 9))
def heatOf (n : Int) (k : Nat) : List Pair := (List.range (1 + drawn n (50 + k) / 16 % 5).toNat).map fun (j : Nat) => (6 * (j : Int) + (k : Int), tmOf n (drawn n (50 + k)) j)
def timed (n : Int) : List (List Pair) := (List.range (1 + n / 16 % 4).toNat).map (heatOf n)
/-- what the drawn heats are -/
structure GoodHs (hs : List (List Pair)) : Prop where
  len : 1 ≤ hs.length ∧ hs.length ≤ 4
  each : ∀ h ∈ hs, 1 ≤ h.length ∧ h.length ≤ 5
  nodup : (hs.flatMap fun h => h.map (·.1)).Nodup
  rising : ∀ h ∈ hs, (h.map (·.1)).Pairwise (· < ·)
  bound : ∀ h ∈ hs, ∀ p ∈ h, 0 ≤ p.1 ∧ p.1 ≤ 27
  time : ∀ h ∈ hs, ∀ p ∈ h, ∀ t, p.2 = some t → 50 ≤ t ∧ t ≤ 58
theorem mod_bounds (x : Int) {m : Int} (h : 0 < m) : 0 ≤ x % m ∧ x % m < m := ⟨Int.emod_nonneg x (by omega), Int.emod_lt_of_pos x h⟩
theorem heatOf_mem {n : Int} {k : Nat} {p : Pair} (h : p ∈ heatOf n k) : ∃ j : Nat, j < 5 ∧ p.1 = 6 * (j : Int) + (k : Int) ∧ p.2 = tmOf n (drawn n (50 + k)) j := by
  unfold heatOf at h
  obtain ⟨j, hj, rfl⟩ := List.mem_map.mp h
  rw [List.mem_range] at hj
  have := mod_bounds (drawn n (50 + k) / 16) (show (0 : Int) < 5 by decide)
  exact ⟨j, by omega, rfl, rfl⟩
theorem pairwise_range_map {β : Type} {R : β → β → Prop} (f : Nat → β) (n : Nat) (h : ∀ i j, i < j → j < n → R (f i) (f j)) : ((List.range n).map f).Pairwise R := by
  rw [List.pairwise_map]
  rw [List.pairwise_iff_getElem]
  intro i j hi hj hij
  rw [List.length_range] at hj
  rw [List.getElem_range, List.getElem_range]
  exact h i j hij hj
theorem timed_good (n : Int) : GoodHs (timed n) := by
  have h4 := mod_bounds (n / 16) (show (0 : Int) < 4 by decide)
  have mem : ∀ h ∈ timed n, ∃ k : Nat, k < 4 ∧ h = heatOf n k := fun h hh => by
    unfold timed at hh
    obtain ⟨k, hk, rfl⟩ := List.mem_map.mp hh
    rw [List.mem_range] at hk
    exact ⟨k, by omega, rfl⟩
  have rise : ∀ k, ((heatOf n k).map (·.1)).Pairwise (· < ·) := fun k => by
    unfold heatOf
    rw [List.map_map]
    exact pairwise_range_map _ _ fun i j hij _ => by
      show 6 * (i : Int) + (k : Int) < 6 * (j : Int) + (k : Int)
      omega
  refine ⟨?_, fun h hh => ?_, ?_, fun h hh => ?_, fun h hh p hp => ?_, fun h hh p hp t ht => ?_⟩
  · unfold timed
    rw [List.length_map, List.length_range]
    omega
  · obtain ⟨k, hk, rfl⟩ := mem h hh
    have := mod_bounds (drawn n (50 + k) / 16) (show (0 : Int) < 5 by decide)
    unfold heatOf
    rw [List.length_map, List.length_range]
    omega
  · unfold timed
    rw [List.flatMap_map]
    have key : ∀ m : Nat, m ≤ 4 → ((List.range m).flatMap fun k => (heatOf n k).map (·.1)).Nodup := by
      intro m
      induction m with
      | zero => intro _; exact List.nodup_nil
      | succ m ih =>
        intro hm
        rw [List.range_succ, List.flatMap_append]
        simp only [List.flatMap_cons, List.flatMap_nil, List.append_nil]
        refine List.nodup_append.mpr ⟨ih (by omega), pw_nodup (rise m), fun a ha b hb => ?_⟩
        obtain ⟨k, hk, ha⟩ := List.mem_flatMap.mp ha
        rw [List.mem_range] at hk
        obtain ⟨p, hp, rfl⟩ := List.mem_map.mp ha
        obtain ⟨q, hq, rfl⟩ := List.mem_map.mp hb
        obtain ⟨i, hi, e1, _⟩ := heatOf_mem hp
        obtain ⟨j, hj, e2, _⟩ := heatOf_mem hq
        omega
    exact key _ (by omega)
  · obtain ⟨k, hk, rfl⟩ := mem h hh
    exact rise k
  · obtain ⟨k, hk, rfl⟩ := mem h hh
    obtain ⟨j, hj, e1, _⟩ := heatOf_mem hp
    omega
  · obtain ⟨k, hk, rfl⟩ := mem h hh
    obtain ⟨j, hj, _, e2⟩ := heatOf_mem hp
    rw [ht] at e2
    unfold tmOf at e2
    split at e2
    · cases e2
    · injection e2 with e2
      have b4 := mod_bounds (drawn (drawn n (50 + k)) j / 16) (show (0 : Int) < 4 by decide)
      have b9 := mod_bounds (drawn (drawn n (50 + k)) j / 16) (show (0 : Int) < 9 by decide)
      split at e2 <;> omega
end Lw

namespace K41
open PySem Dl Tm Lw
theorem flat_congr {α β : Type} {f g : α → List β} : ∀ {l : List α}, (∀ a ∈ l, f a = g a) → l.flatMap f = l.flatMap g
  | [], _ => rfl
  | x :: l, h => by rw [List.flatMap_cons, List.flatMap_cons, h x List.mem_cons_self, flat_congr fun a m => h a (List.mem_cons_of_mem _ m)]
def isFirst (ts : List Int) (k : Int) (p : Int × Int) : Bool := decide (((ts.filter fun o => decide (o < p.2)).length : Int) < k)
def goneOf (ts : List Int) (k : Int) (hp : List Pair) : List Int := ((cameIn hp).filter (isFirst ts k)).map (·.1)
def restL (ts : List Int) (k : Int) (hp : List Pair) : List (Int × Int) := ((cameIn hp).filter fun p => !isFirst ts k p).map fun p => (p.2, p.1)
def allGone (hs : List (List Pair)) (k : Int) : List Int := hs.flatMap fun h => goneOf ((cameIn h).map (·.2)) k h
def allRest (hs : List (List Pair)) (k : Int) : List (Int × Int) := hs.flatMap fun h => restL ((cameIn h).map (·.2)) k h
def luckP (rest : List (Int × Int)) (t : Int) (q : Int × Int) : Bool := decide (((rest.filter fun o => decide (o.1 < q.1)).length : Int) < t)
def luckOf (rest : List (Int × Int)) (t : Int) : List Int := (rest.filter (luckP rest t)).map (·.2)
def outL (rest : List (Int × Int)) (luck : List Int) : List Int := (rest.filter fun q => !luck.any fun z => decide (z = q.2)).map (·.2)
theorem cameIn_snoc {h : List Pair} {j : Nat} {p : Pair} (e : h[j]? = some p) : cameIn (h.take (j + 1)) = cameIn (h.take j) ++ (match p.2 with | none => [] | some t => [(p.1, t)]) := by
  unfold cameIn
  rw [take_snoc e, List.filterMap_append]
  congr 1
  obtain ⟨a, b⟩ := p
  cases b <;> rfl
theorem first_eq (h : List Pair) (k : Int) : firstOnes (cameIn h) k = (cameIn h).filter (isFirst ((cameIn h).map (·.2)) k) := by
  unfold firstOnes
  congr 1
  funext p
  unfold isFirst
  rw [List.filter_map, List.length_map]
  rfl
theorem flat_inj {α β : Type} {f : α → List β} : ∀ {hs : List α} {h h' : α} {a : β}, (hs.flatMap f).Nodup → h ∈ hs → h' ∈ hs → a ∈ f h → a ∈ f h' → h = h'
  | [], _, _, _, _, m, _, _, _ => by simp at m
  | x :: hs, h, h', a, nd, m, m', ha, ha' => by
    rw [List.flatMap_cons] at nd
    obtain ⟨n1, n2, n3⟩ := List.nodup_append.mp nd
    rcases List.mem_cons.mp m with e | k
    · rcases List.mem_cons.mp m' with e' | k'
      · rw [e, e']
      · subst e
        exact absurd rfl (n3 a ha a (List.mem_flatMap.mpr ⟨h', k', ha'⟩))
    · rcases List.mem_cons.mp m' with e' | k'
      · subst e'
        exact absurd rfl (n3 a ha' a (List.mem_flatMap.mpr ⟨h, k, ha⟩))
      · exact flat_inj n2 k k' ha ha'
theorem cameIn_mem {h : List Pair} {p : Int × Int} : p ∈ cameIn h ↔ (p.1, some p.2) ∈ h := by
  unfold cameIn
  rw [List.mem_filterMap]
  constructor
  · rintro ⟨⟨a, b⟩, hm, e⟩
    cases b with
    | none => cases e
    | some t =>
      injection e with e
      subst e
      exact hm
  · intro hm
    exact ⟨_, hm, rfl⟩
theorem fst_mem {h : List Pair} {p : Int × Int} (m : p ∈ cameIn h) : p.1 ∈ h.map (·.1) := List.mem_map.mpr ⟨_, cameIn_mem.mp m, rfl⟩
theorem fst_inj {α β : Type} : ∀ {h : List (α × β)} {p q : α × β}, (h.map (·.1)).Nodup → p ∈ h → q ∈ h → p.1 = q.1 → p = q
  | [], _, _, _, m, _, _ => by simp at m
  | x :: h, p, q, nd, m, m', e => by
    rw [List.map_cons, List.nodup_cons] at nd
    rcases List.mem_cons.mp m with z | k
    · rcases List.mem_cons.mp m' with z' | k'
      · rw [z, z']
      · subst z
        exact absurd (List.mem_map.mpr ⟨q, k', e.symm⟩) nd.1
    · rcases List.mem_cons.mp m' with z' | k'
      · subst z'
        exact absurd (List.mem_map.mpr ⟨p, k, e⟩) nd.1
      · exact fst_inj nd.2 k k' e
theorem came_inj {hs : List (List Pair)} (G : GoodHs hs) {h h' : List Pair} {p q : Int × Int} (m : h ∈ hs) (m' : h' ∈ hs) (hp : p ∈ cameIn h) (hq : q ∈ cameIn h') (e : p.1 = q.1) : h = h' ∧ p = q := by
  have e1 : h = h' := flat_inj (a := p.1) G.nodup m m' (fst_mem hp) (by rw [e]; exact fst_mem hq)
  subst e1
  refine ⟨rfl, ?_⟩
  have := fst_inj (pw_nodup (G.rising h m)) (cameIn_mem.mp hp) (cameIn_mem.mp hq) e
  injection this with a b
  injection b with b
  exact Prod.ext a b
theorem mem_byPlaces {hs : List (List Pair)} (G : GoodHs hs) (k : Int) {h : List Pair} {p : Int × Int} (m : h ∈ hs) (hp : p ∈ cameIn h) : decide (p ∈ byPlaces hs k) = isFirst ((cameIn h).map (·.2)) k p := by
  unfold byPlaces
  by_cases b : isFirst ((cameIn h).map (·.2)) k p = true
  · rw [b]
    refine decide_eq_true (List.mem_flatMap.mpr ⟨h, m, ?_⟩)
    rw [first_eq]
    exact List.mem_filter.mpr ⟨hp, b⟩
  · rw [Bool.not_eq_true] at b
    rw [b]
    refine decide_eq_false fun z => ?_
    obtain ⟨h', m', hq⟩ := List.mem_flatMap.mp z
    rw [first_eq] at hq
    obtain ⟨hq1, hq2⟩ := List.mem_filter.mp hq
    obtain ⟨e1, _⟩ := came_inj G m m' hp hq1 rfl
    subst e1
    rw [b] at hq2
    cases hq2
theorem restOf_eq {hs : List (List Pair)} (G : GoodHs hs) (k : Int) : restOf hs (byPlaces hs k) = hs.flatMap fun h => (cameIn h).filter fun p => !isFirst ((cameIn h).map (·.2)) k p := by
  unfold restOf
  refine flat_congr fun h m => List.filter_congr fun p hp => ?_
  rw [any_mem, mem_byPlaces G k m hp]
theorem map_flat {α β γ : Type} (f : β → γ) (g : α → List β) (l : List α) : (l.flatMap g).map f = l.flatMap fun a => (g a).map f := List.map_flatMap ..
theorem allRest_eq {hs : List (List Pair)} (G : GoodHs hs) (k : Int) : allRest hs k = (restOf hs (byPlaces hs k)).map fun p => (p.2, p.1) := by
  rw [restOf_eq G k, map_flat]
  rfl
theorem allGone_eq (hs : List (List Pair)) (k : Int) : allGone hs k = (byPlaces hs k).map (·.1) := by
  unfold allGone byPlaces goneOf
  rw [map_flat]
  refine flat_congr fun h _ => ?_
  rw [first_eq]
theorem luck_eq (R : List (Int × Int)) (t : Int) : luckOf (R.map fun p => (p.2, p.1)) t = (firstOnes R t).map (·.1) := by
  unfold luckOf firstOnes
  rw [List.filter_map, List.map_map]
  congr 1
  refine List.filter_congr fun p _ => ?_
  show luckP _ t (p.2, p.1) = _
  unfold luckP
  rw [List.filter_map, List.length_map]
  rfl
theorem m_going {hs : List (List Pair)} (G : GoodHs hs) (k t : Int) : goingOn hs k t = sortI (allGone hs k ++ luckOf (allRest hs k) t) := by
  unfold goingOn runners byTimes
  rw [allRest_eq G k, luck_eq, allGone_eq, List.map_append]
theorem m_lucky {hs : List (List Pair)} (G : GoodHs hs) (k t : Int) : lucky hs k t = sortI (luckOf (allRest hs k) t) := by
  unfold lucky runners byTimes
  rw [allRest_eq G k, luck_eq]
theorem mem_sortI (x : Int) (l : List Int) : x ∈ sortI l ↔ x ∈ l := (List.mergeSort_perm l _).mem_iff
theorem mem_allGone {hs : List (List Pair)} (G : GoodHs hs) (k : Int) {h : List Pair} {p : Int × Int} (m : h ∈ hs) (hp : p ∈ cameIn h) : p.1 ∈ allGone hs k ↔ isFirst ((cameIn h).map (·.2)) k p = true := by
  rw [allGone_eq]
  constructor
  · intro z
    obtain ⟨q, hq, e⟩ := List.mem_map.mp z
    have hq' := hq
    unfold byPlaces at hq'
    obtain ⟨h', m', hq1⟩ := List.mem_flatMap.mp hq'
    rw [first_eq] at hq1
    obtain ⟨_, e2⟩ := came_inj G m m' hp (List.mem_filter.mp hq1).1 e.symm
    subst e2
    rw [← mem_byPlaces G k m hp]
    exact decide_eq_true hq
  · intro z
    rw [← mem_byPlaces G k m hp] at z
    exact List.mem_map.mpr ⟨p, of_decide_eq_true z, rfl⟩
theorem m_beaten {hs : List (List Pair)} (G : GoodHs hs) (k t : Int) : beaten hs k t = sortI (outL (allRest hs k) (luckOf (allRest hs k) t)) := by
  unfold beaten runners
  congr 1
  unfold outL
  have er : allRest hs k = (hs.flatMap fun h => (cameIn h).filter fun p => !isFirst ((cameIn h).map (·.2)) k p).map fun p => (p.2, p.1) := by
    rw [allRest_eq G k, restOf_eq G k]
  generalize hL : luckOf (allRest hs k) t = L
  rw [er, List.filter_map, List.map_map, List.filter_flatMap]
  show List.map _ _ = List.map _ _
  congr 1
  refine flat_congr fun h m => ?_
  rw [List.filter_filter]
  refine List.filter_congr fun p hp => ?_
  rw [any_mem]
  show (!decide (p.1 ∈ goingOn hs k t)) = ((!L.any fun z => decide (z = p.1)) && !isFirst _ k p)
  rw [any_mem, m_going G k t, hL]
  have e1 : decide (p.1 ∈ sortI (allGone hs k ++ L)) = (isFirst ((cameIn h).map (·.2)) k p || decide (p.1 ∈ L)) := by
    by_cases b : isFirst ((cameIn h).map (·.2)) k p = true
    · rw [b]
      exact decide_eq_true ((mem_sortI _ _).mpr (List.mem_append_left _ ((mem_allGone G k m hp).mpr b)))
    · have nb : p.1 ∉ allGone hs k := fun z => b ((mem_allGone G k m hp).mp z)
      rw [Bool.not_eq_true] at b
      rw [b, Bool.false_or]
      by_cases c : p.1 ∈ L
      · rw [decide_eq_true c]
        exact decide_eq_true ((mem_sortI _ _).mpr (List.mem_append_right _ c))
      · rw [decide_eq_false c]
        refine decide_eq_false fun z => ?_
        rcases List.mem_append.mp ((mem_sortI _ _).mp z) with z | z
        · exact nb z
        · exact c z
  rw [e1]
  cases isFirst ((cameIn h).map (·.2)) k p <;> cases decide (p.1 ∈ L) <;> rfl
theorem allGone_len {hs : List (List Pair)} (G : GoodHs hs) (k : Int) (i : Nat) : (allGone (hs.take i) k).length ≤ 400 := by
  have h := flatMap_take_len (m := 4) (n := 100) (f := fun h => goneOf ((cameIn h).map (·.2)) k h) G.len.2 (fun h m => by
    unfold goneOf
    rw [List.length_map]
    have := G.each h m
    exact Nat.le_trans (List.length_filter_le _ _) (Nat.le_trans (cameIn_len h) (by omega : h.length ≤ 100))) i
  unfold allGone
  omega
theorem allRest_len {hs : List (List Pair)} (G : GoodHs hs) (k : Int) (i : Nat) : (allRest (hs.take i) k).length ≤ 400 := by
  have h := flatMap_take_len (m := 4) (n := 100) (f := fun h => restL ((cameIn h).map (·.2)) k h) G.len.2 (fun h m => by
    unfold restL
    rw [List.length_map]
    have := G.each h m
    exact Nat.le_trans (List.length_filter_le _ _) (Nat.le_trans (cameIn_len h) (by omega : h.length ≤ 100))) i
  unfold allRest
  omega
end K41

namespace K42
open PySem Dl Tm Lw K41
/-! plain facts of counting -/
theorem exists_least : ∀ (l : List (Int × Int)), l ≠ [] → ∃ q ∈ l, ∀ o ∈ l, q.2 ≤ o.2
  | [], h => absurd rfl h
  | [a], _ => ⟨a, List.mem_cons_self, fun o ho => by rw [List.mem_singleton.mp ho]; exact Int.le_refl _⟩
  | a :: b :: l, _ => by
    obtain ⟨q, hq, hm⟩ := exists_least (b :: l) (by simp)
    by_cases c : a.2 ≤ q.2
    · refine ⟨a, List.mem_cons_self, fun o ho => ?_⟩
      rcases List.mem_cons.mp ho with z | z
      · rw [z]; exact Int.le_refl _
      · exact Int.le_trans c (hm o z)
    · refine ⟨q, List.mem_cons_of_mem _ hq, fun o ho => ?_⟩
      rcases List.mem_cons.mp ho with z | z
      · rw [z]; omega
      · exact hm o z
theorem filter_mono_len {α : Type} {p q : α → Bool} : ∀ {l : List α}, (∀ a ∈ l, p a = true → q a = true) → (l.filter p).length ≤ (l.filter q).length
  | [], _ => Nat.le_refl _
  | a :: l, h => by
    have ih := filter_mono_len (l := l) fun b hb => h b (List.mem_cons_of_mem _ hb)
    have h1 := h a List.mem_cons_self
    by_cases c : p a = true
    · rw [List.filter_cons_of_pos c, List.filter_cons_of_pos (h1 c), List.length_cons, List.length_cons]
      omega
    · rw [List.filter_cons_of_neg c]
      by_cases d : q a = true
      · rw [List.filter_cons_of_pos d, List.length_cons]; omega
      · rw [List.filter_cons_of_neg d]; exact ih
/-- the first ones are as many as asked, or all -/
theorem first_many (s : List (Int × Int)) (k : Int) : min k (s.length : Int) ≤ ((firstOnes s k).length : Int) := by
  by_cases hn : (s.filter fun p => !decide (((s.filter fun o => decide (o.2 < p.2)).length : Int) < k)) = []
  · have : firstOnes s k = s := by
      unfold firstOnes
      rw [List.filter_eq_self]
      intro a ha
      rw [List.filter_eq_nil_iff] at hn
      have := hn a ha
      simpa using this
    rw [this]
    omega
  · obtain ⟨q, hq, hm⟩ := exists_least _ hn
    obtain ⟨hq1, hq2⟩ := List.mem_filter.mp hq
    have h1 : ¬ (((s.filter fun o => decide (o.2 < q.2)).length : Int) < k) := by simpa using hq2
    have h2 : (s.filter fun o => decide (o.2 < q.2)).length ≤ (firstOnes s k).length := by
      unfold firstOnes
      refine filter_mono_len fun a ha hlt => ?_
      have hlt' : a.2 < q.2 := of_decide_eq_true hlt
      by_cases c : ((s.filter fun o => decide (o.2 < a.2)).length : Int) < k
      · exact decide_eq_true c
      · have := hm a (List.mem_filter.mpr ⟨ha, by rw [decide_eq_false c]; rfl⟩)
        omega
    omega
theorem first_zero (s : List (Int × Int)) : firstOnes s 0 = [] := by
  unfold firstOnes
  rw [List.filter_eq_nil_iff]
  intro a _
  simp
/-- two parts of a list, together -/
theorem parts_perm {α : Type} {p q r : α → Bool} : ∀ {l : List α}, (∀ a ∈ l, r a = (p a || q a) ∧ ¬ (p a = true ∧ q a = true)) → (l.filter p ++ l.filter q).Perm (l.filter r)
  | [], _ => .nil
  | a :: l, h => by
    have ih := parts_perm (p := p) (q := q) (r := r) (l := l) fun b hb => h b (List.mem_cons_of_mem _ hb)
    obtain ⟨h1, h2⟩ := h a List.mem_cons_self
    by_cases c : p a = true
    · have d : ¬ q a = true := fun z => h2 ⟨c, z⟩
      rw [List.filter_cons_of_pos c, List.filter_cons_of_neg d, List.filter_cons_of_pos (by rw [h1, c]; rfl)]
      exact .cons _ ih
    · by_cases d : q a = true
      · rw [List.filter_cons_of_neg c, List.filter_cons_of_pos d, List.filter_cons_of_pos (by rw [h1, d, Bool.or_true])]
        exact List.perm_middle.trans (.cons _ ih)
      · rw [List.filter_cons_of_neg c, List.filter_cons_of_neg d, List.filter_cons_of_neg (by rw [h1]; simp [c, d])]
        exact ih
theorem halves_perm {α : Type} (p : α → Bool) (l : List α) : (l.filter p ++ l.filter fun a => !p a).Perm l := by
  have := parts_perm (p := p) (q := fun a => !p a) (r := fun _ => true) (l := l) fun a _ => by cases p a <;> simp
  rwa [filter_true] at this
where filter_true {α : Type} (l : List α) : l.filter (fun _ => true) = l := by rw [List.filter_eq_self]; intros; rfl
theorem rows_perm {α : Type} (key : α → Option Int) (l : List α) : ∀ {T : List Int}, T.Nodup → (T.flatMap fun t => l.filter fun p => decide (key p = some t)).Perm (l.filter fun p => decide (∃ t ∈ T, key p = some t))
  | [], _ => by
    have : (l.filter fun p => decide (∃ t ∈ ([] : List Int), key p = some t)) = [] := by rw [List.filter_eq_nil_iff]; intro a _; simp
    rw [this]
    exact .nil
  | t :: T, nd => by
    rw [List.nodup_cons] at nd
    rw [List.flatMap_cons]
    refine ((rows_perm key l nd.2).append_left _).trans (parts_perm fun a _ => ⟨?_, ?_⟩)
    · by_cases c : key a = some t
      · rw [decide_eq_true c, Bool.true_or]
        exact decide_eq_true ⟨t, List.mem_cons_self, c⟩
      · rw [decide_eq_false c, Bool.false_or]
        refine decide_eq_decide.mpr ⟨?_, ?_⟩
        · rintro ⟨u, hu, e⟩
          rcases List.mem_cons.mp hu with z | z
          · rw [z] at e; exact absurd e c
          · exact ⟨u, z, e⟩
        · rintro ⟨u, hu, e⟩
          exact ⟨u, List.mem_cons_of_mem _ hu, e⟩
    · rintro ⟨h1, h2⟩
      have h1 := of_decide_eq_true h1
      obtain ⟨u, hu, e⟩ := of_decide_eq_true h2
      rw [h1] at e
      injection e with e
      exact nd.1 (e ▸ hu)
theorem sort_perm {a b : List Int} (h : a.Perm b) : Dl.sortI a = Dl.sortI b := by
  have pa : (Dl.sortI a).Perm a := List.mergeSort_perm a _
  have pb : (Dl.sortI b).Perm b := List.mergeSort_perm b _
  have sa : (Dl.sortI a).Pairwise fun x y => decide (x ≤ y) = true := List.pairwise_mergeSort (fun _ _ _ h1 h2 => by simp at *; omega) (fun x y => by simp; omega) a
  have sb : (Dl.sortI b).Pairwise fun x y => decide (x ≤ y) = true := List.pairwise_mergeSort (fun _ _ _ h1 h2 => by simp at *; omega) (fun x y => by simp; omega) b
  exact List.Perm.eq_of_pairwise (fun x y _ _ h1 h2 => by simp at h1 h2; omega) sa sb (pa.trans (h.trans pb.symm))
/-! the heats -/
def allCame (hs : List (List Pair)) : List (Int × Int) := hs.flatMap cameIn
theorem cameIn_map1 (h : List Pair) : (cameIn h).map (·.1) = (h.filter fun p => p.2.isSome).map (·.1) := by
  unfold cameIn
  induction h with
  | nil => rfl
  | cons p h ih =>
    obtain ⟨a, b⟩ := p
    cases b with
    | none => rw [List.filter_cons_of_neg (by simp)]; exact ih
    | some t => rw [List.filter_cons_of_pos (by rfl), List.map_cons, ← ih]; rfl
theorem flat_sub {α β : Type} {f g : α → List β} : ∀ {l : List α}, (∀ a ∈ l, (f a).Sublist (g a)) → (l.flatMap f).Sublist (l.flatMap g)
  | [], _ => .slnil
  | a :: l, h => by
    rw [List.flatMap_cons, List.flatMap_cons]
    exact (h a List.mem_cons_self).append (flat_sub fun b hb => h b (List.mem_cons_of_mem _ hb))
theorem came_nodup {hs : List (List Pair)} (G : GoodHs hs) : ((allCame hs).map (·.1)).Nodup := by
  unfold allCame
  rw [List.map_flatMap]
  refine List.Nodup.sublist (flat_sub fun h _ => ?_) G.nodup
  rw [cameIn_map1]
  exact List.filter_sublist.map _
theorem flat_perm {α β : Type} {f g : α → List β} : ∀ {l : List α}, (∀ a ∈ l, (f a).Perm (g a)) → (l.flatMap f).Perm (l.flatMap g)
  | [], _ => .nil
  | a :: l, h => by
    rw [List.flatMap_cons, List.flatMap_cons]
    exact (h a List.mem_cons_self).append (flat_perm fun b hb => h b (List.mem_cons_of_mem _ hb))
theorem flat_app {α β : Type} {f g : α → List β} : ∀ {l : List α}, (l.flatMap f ++ l.flatMap g).Perm (l.flatMap fun a => f a ++ g a)
  | [] => .nil
  | a :: l => by
    rw [List.flatMap_cons, List.flatMap_cons, List.flatMap_cons, List.append_assoc, List.append_assoc]
    refine List.Perm.append_left _ ?_
    refine (List.perm_append_comm_assoc ..).trans ?_
    exact List.Perm.append_left _ flat_app
theorem split_came {hs : List (List Pair)} (G : GoodHs hs) (k : Int) : (byPlaces hs k ++ Tm.restOf hs (byPlaces hs k)).Perm (allCame hs) := by
  rw [restOf_eq G k]
  unfold byPlaces allCame
  refine flat_app.trans (flat_perm fun h _ => ?_)
  rw [first_eq]
  exact halves_perm _ _
theorem places_nodup {hs : List (List Pair)} (G : GoodHs hs) (k : Int) : ((byPlaces hs k ++ Tm.restOf hs (byPlaces hs k)).map (·.1)).Nodup := ((split_came G k).map _).nodup_iff.mpr (came_nodup G)
theorem first_sub (s : List (Int × Int)) (t : Int) : (firstOnes s t).Sublist s := by unfold firstOnes; exact List.filter_sublist
theorem going_nodup {hs : List (List Pair)} (G : GoodHs hs) (k t : Int) : (goingOn hs k t).Nodup := by
  unfold goingOn runners
  refine (List.mergeSort_perm _ _).nodup_iff.mpr (List.Nodup.sublist (List.Sublist.map _ ?_) (places_nodup G k))
  exact List.Sublist.append_left (first_sub _ _) _
/-- ahead of so many of a list -/
def less (R : List (Int × Int)) (u : Int) : Nat := (R.filter fun o => decide (o.2 < u)).length
def restK (hs : List (List Pair)) (k : Int) : List (Int × Int) := Tm.restOf hs (byPlaces hs k)
theorem mem_restK {hs : List (List Pair)} (G : GoodHs hs) (k : Int) {h : List Pair} {p : Int × Int} (m : h ∈ hs) (hp : p ∈ cameIn h) : p ∈ restK hs k ↔ isFirst ((cameIn h).map (·.2)) k p = false := by
  unfold restK
  rw [restOf_eq G k]
  constructor
  · intro z
    obtain ⟨h', m', z⟩ := List.mem_flatMap.mp z
    obtain ⟨z1, z2⟩ := List.mem_filter.mp z
    obtain ⟨e, _⟩ := came_inj G m m' hp z1 rfl
    subst e
    simpa using z2
  · intro z
    exact List.mem_flatMap.mpr ⟨h, m, List.mem_filter.mpr ⟨hp, by rw [z]; rfl⟩⟩
theorem rest_came {hs : List (List Pair)} {k : Int} {p : Int × Int} (z : p ∈ restK hs k) : ∃ h ∈ hs, p ∈ cameIn h := by
  unfold restK Tm.restOf at z
  obtain ⟨h, m, z⟩ := List.mem_flatMap.mp z
  exact ⟨h, m, (List.mem_filter.mp z).1⟩
theorem place_came {hs : List (List Pair)} {k : Int} {p : Int × Int} (z : p ∈ byPlaces hs k) : ∃ h ∈ hs, p ∈ cameIn h := by
  unfold byPlaces at z
  obtain ⟨h, m, z⟩ := List.mem_flatMap.mp z
  exact ⟨h, m, (first_sub _ _).subset z⟩
theorem mem_times {hs : List (List Pair)} {k t : Int} {p : Int × Int} : p ∈ byTimes hs k t ↔ p ∈ restK hs k ∧ (less (restK hs k) p.2 : Int) < t := by
  unfold byTimes firstOnes restK less
  rw [List.mem_filter, decide_eq_true_eq]
theorem mem_luck {hs : List (List Pair)} (G : GoodHs hs) (k t : Int) {h : List Pair} {p : Int × Int} (m : h ∈ hs) (hp : p ∈ cameIn h) : p.1 ∈ lucky hs k t ↔ isFirst ((cameIn h).map (·.2)) k p = false ∧ (less (restK hs k) p.2 : Int) < t := by
  unfold lucky runners
  rw [mem_sortI, List.mem_map, ← mem_restK G k m hp]
  constructor
  · rintro ⟨q, hq, e⟩
    have hq' := mem_times.mp hq
    obtain ⟨h', m', hc⟩ := rest_came hq'.1
    obtain ⟨_, e2⟩ := came_inj G m m' hp hc e.symm
    subst e2
    exact hq'
  · intro z
    exact ⟨p, mem_times.mpr z, rfl⟩
theorem mem_going {hs : List (List Pair)} (G : GoodHs hs) (k t : Int) {h : List Pair} {p : Int × Int} (m : h ∈ hs) (hp : p ∈ cameIn h) : p.1 ∈ goingOn hs k t ↔ isFirst ((cameIn h).map (·.2)) k p = true ∨ p.1 ∈ lucky hs k t := by
  unfold goingOn runners
  rw [mem_sortI, List.map_append, List.mem_append, ← allGone_eq, mem_allGone G k m hp]
  refine or_congr Iff.rfl ?_
  unfold lucky runners
  rw [mem_sortI]
theorem going_came {hs : List (List Pair)} {k t : Int} {x : Int} (z : x ∈ goingOn hs k t) : ∃ h ∈ hs, ∃ p ∈ cameIn h, p.1 = x := by
  unfold goingOn runners at z
  rw [mem_sortI] at z
  obtain ⟨p, hp, e⟩ := List.mem_map.mp z
  rcases List.mem_append.mp hp with hp | hp
  · obtain ⟨h, m, hc⟩ := place_came hp
    exact ⟨h, m, p, hc, e⟩
  · obtain ⟨h, m, hc⟩ := rest_came (mem_times.mp hp).1
    exact ⟨h, m, p, hc, e⟩
theorem luck_going {hs : List (List Pair)} {k t : Int} {x : Int} (z : x ∈ lucky hs k t) : x ∈ goingOn hs k t := by
  unfold lucky runners at z
  unfold goingOn runners
  rw [mem_sortI] at z ⊢
  rw [List.map_append]
  exact List.mem_append_right _ z
/-! what the law asks -/
theorem m1 (h : List Pair) : Dl.sortI (Tm.placed h).flatten = Dl.sortI ((cameIn h).map (·.1)) := by
  refine sort_perm ?_
  unfold Tm.placed
  rw [List.flatten_eq_flatMap, List.flatMap_map, cameIn_map1]
  show ((risen ((cameIn h).map (·.2))).flatMap fun t => (h.filter fun p => decide (p.2 = some t)).map (·.1)).Perm _
  rw [← List.map_flatMap]
  refine List.Perm.map _ ((rows_perm (fun p : Pair => p.2) h (pw_nodup (risen_pw _))).trans (List.Perm.of_eq ?_))
  refine List.filter_congr fun p hp => ?_
  obtain ⟨a, b⟩ := p
  cases b with
  | none => simp
  | some u =>
    refine decide_eq_true ⟨u, ?_, rfl⟩
    rw [mem_risen]
    exact List.mem_map.mpr ⟨(a, u), cameIn_mem.mpr hp, rfl⟩
theorem m2 {hs : List (List Pair)} (G : GoodHs hs) (k t : Int) {h : List Pair} (m : h ∈ hs) : min k ((((cameIn h).map (·.1)).length : Nat) : Int) ≤ ((((cameIn h).map (·.1)).filter fun x => (goingOn hs k t).any fun z => decide (z = x)).length : Int) := by
  have h1 := first_many (cameIn h) k
  rw [first_eq] at h1
  rw [List.length_map, List.filter_map, List.length_map]
  have h2 := filter_mono_len (l := cameIn h) (p := isFirst ((cameIn h).map (·.2)) k) (q := (fun x => (goingOn hs k t).any fun z => decide (z = x)) ∘ fun p => p.1) fun a ha hf => by
    show ((goingOn hs k t).any fun z => decide (z = a.1)) = true
    rw [any_mem]
    exact decide_eq_true ((mem_going G k t m ha).mpr (.inl hf))
  omega
theorem row_time {h : List Pair} {row : List Int} (hr : row ∈ Tm.placed h) : ∃ u, ∀ x ∈ row, (x, u) ∈ cameIn h := by
  unfold Tm.placed at hr
  obtain ⟨u, _, rfl⟩ := List.mem_map.mp hr
  refine ⟨u, fun x hx => ?_⟩
  obtain ⟨p, hp, rfl⟩ := List.mem_map.mp hx
  obtain ⟨h1, h2⟩ := List.mem_filter.mp hp
  refine cameIn_mem.mpr ?_
  rw [← of_decide_eq_true h2]
  exact h1
theorem m3 {hs : List (List Pair)} (G : GoodHs hs) (k t : Int) {h : List Pair} (m : h ∈ hs) {row : List Int} (hr : row ∈ Tm.placed h) :
    cntB (row.map fun x => (goingOn hs k t).any fun z => decide (z = x)) ≤ 1 ∧ cntB (row.map fun x => (lucky hs k t).any fun z => decide (z = x)) ≤ 1 := by
  obtain ⟨u, hu⟩ := row_time hr
  have key : ∀ x ∈ row, ∀ y ∈ row, (x ∈ goingOn hs k t ↔ y ∈ goingOn hs k t) ∧ (x ∈ lucky hs k t ↔ y ∈ lucky hs k t) := fun x hx y hy => by
    have l1 := mem_luck G k t m (hu x hx)
    have l2 := mem_luck G k t m (hu y hy)
    have g1 := mem_going G k t m (hu x hx)
    have g2 := mem_going G k t m (hu y hy)
    have l : x ∈ lucky hs k t ↔ y ∈ lucky hs k t := l1.trans l2.symm
    exact ⟨g1.trans ((or_congr Iff.rfl l).trans g2.symm), l⟩
  refine ⟨cntB_one fun a ha b hb => ?_, cntB_one fun a ha b hb => ?_⟩
  · obtain ⟨x, hx, rfl⟩ := List.mem_map.mp ha
    obtain ⟨y, hy, rfl⟩ := List.mem_map.mp hb
    rw [any_mem, any_mem]
    exact decide_eq_decide.mpr (key x hx y hy).1
  · obtain ⟨x, hx, rfl⟩ := List.mem_map.mp ha
    obtain ⟨y, hy, rfl⟩ := List.mem_map.mp hb
    rw [any_mem, any_mem]
    exact decide_eq_decide.mpr (key x hx y hy).2
def outP (hs : List (List Pair)) (k t : Int) : List (Int × Int) := (allCame hs).filter fun p => !(goingOn hs k t).any fun z => decide (z = p.1)
theorem beaten_out (hs : List (List Pair)) (k t : Int) : beaten hs k t = Dl.sortI ((outP hs k t).map (·.1)) := by
  unfold beaten runners outP allCame
  rw [List.filter_flatMap]
theorem going_perm {hs : List (List Pair)} (G : GoodHs hs) (k t : Int) : (goingOn hs k t).Perm (((allCame hs).filter fun p => (goingOn hs k t).any fun z => decide (z = p.1)).map (·.1)) := by
  refine (List.perm_ext_iff_of_nodup (going_nodup G k t) (List.Nodup.sublist (List.filter_sublist.map _) (came_nodup G))).mpr fun x => ?_
  constructor
  · intro z
    obtain ⟨h, m, p, hp, rfl⟩ := going_came z
    exact List.mem_map.mpr ⟨p, List.mem_filter.mpr ⟨List.mem_flatMap.mpr ⟨h, m, hp⟩, by rw [any_mem]; exact decide_eq_true z⟩, rfl⟩
  · intro z
    obtain ⟨p, hp, rfl⟩ := List.mem_map.mp z
    have := (List.mem_filter.mp hp).2
    rw [any_mem] at this
    exact of_decide_eq_true this
theorem all_perm {hs : List (List Pair)} (G : GoodHs hs) (k t : Int) : (goingOn hs k t ++ beaten hs k t).Perm ((allCame hs).map (·.1)) := by
  rw [beaten_out]
  refine ((going_perm G k t).append (List.mergeSort_perm _ _)).trans ?_
  unfold outP
  rw [← List.map_append]
  exact (halves_perm _ _).map _
theorem m4 {hs : List (List Pair)} (G : GoodHs hs) (k t : Int) : Dl.sortI (goingOn hs k t ++ beaten hs k t) = Dl.sortI ((allCame hs).map (·.1)) := sort_perm (all_perm G k t)
theorem sortI_len (l : List Int) : (Dl.sortI l).length = l.length := (List.mergeSort_perm l _).length_eq
theorem m6 {hs : List (List Pair)} (G : GoodHs hs) (k t : Int) : min t (((lucky hs k t).length : Int) + ((beaten hs k t).length : Int)) ≤ ((lucky hs k t).length : Int) := by
  have h1 := (all_perm G k t).length_eq
  have h2 := (split_came G k).length_eq
  have h3 := first_many (restK hs k) t
  have e1 : (lucky hs k t).length = (firstOnes (restK hs k) t).length := by
    unfold lucky runners byTimes restK
    rw [sortI_len, List.length_map]
  have e2 : (goingOn hs k t).length = (byPlaces hs k).length + (firstOnes (restK hs k) t).length := by
    unfold goingOn runners byTimes restK
    rw [sortI_len, List.length_map, List.length_append]
  rw [List.length_append, List.length_map] at h1
  rw [List.length_append] at h2
  have e3 : (restK hs k).length = (Tm.restOf hs (byPlaces hs k)).length := rfl
  omega
theorem m7 (hs : List (List Pair)) (k : Int) : lucky hs k 0 = [] := by
  unfold lucky runners byTimes
  rw [first_zero]
  exact List.length_eq_zero_iff.mp (by rw [sortI_len]; rfl)
theorem m8 {hs : List (List Pair)} (G : GoodHs hs) (k t : Int) {x : Int} (z : x ∈ goingOn hs k t) : x ∈ goingOn hs k (t + 1) := by
  obtain ⟨h, m, p, hp, rfl⟩ := going_came z
  rw [mem_going G _ _ m hp, mem_luck G _ _ m hp] at z ⊢
  rcases z with z | ⟨z1, z2⟩
  · exact .inl z
  · exact .inr ⟨z1, by omega⟩
theorem first_up {ts : List Int} {k : Int} {p : Int × Int} (h : isFirst ts k p = true) : isFirst ts (k + 1) p = true := by
  unfold isFirst at h ⊢
  rw [decide_eq_true_eq] at h ⊢
  omega
theorem m8w {hs : List (List Pair)} (G : GoodHs hs) (k : Int) {x : Int} (z : x ∈ goingOn hs k 0) : x ∈ goingOn hs (k + 1) 0 := by
  obtain ⟨h, m, p, hp, rfl⟩ := going_came z
  rw [mem_going G _ _ m hp, m7] at z ⊢
  rcases z with z | z
  · exact .inl (first_up z)
  · simp at z
theorem first_perm {a b : List (Int × Int)} (h : a.Perm b) (k : Int) : (firstOnes a k).Perm (firstOnes b k) := by
  unfold firstOnes
  have : (fun p : Int × Int => decide (((a.filter fun o => decide (o.2 < p.2)).length : Int) < k)) = fun p => decide (((b.filter fun o => decide (o.2 < p.2)).length : Int) < k) := by
    funext p
    rw [(h.filter _).length_eq]
  rw [this]
  exact h.filter _
theorem rest_perm {hs hs' : List (List Pair)} (h : hs.Perm hs') {g g' : List (Int × Int)} (hg : g.Perm g') : (Tm.restOf hs g).Perm (Tm.restOf hs' g') := by
  unfold Tm.restOf
  have : (fun h : List Pair => (cameIn h).filter fun p => !g.any fun z => decide (z = p)) = fun h => (cameIn h).filter fun p => !g'.any fun z => decide (z = p) := by
    funext h
    refine List.filter_congr fun p _ => ?_
    rw [any_mem, any_mem]
    congr 1
    exact decide_eq_decide.mpr hg.mem_iff
  rw [this]
  exact h.flatMap_right _
theorem places_perm {hs hs' : List (List Pair)} (h : hs.Perm hs') (k : Int) : (byPlaces hs k).Perm (byPlaces hs' k) := by
  unfold byPlaces
  exact h.flatMap_right _
theorem times_perm {hs hs' : List (List Pair)} (h : hs.Perm hs') (k t : Int) : (byTimes hs k t).Perm (byTimes hs' k t) := first_perm (rest_perm h (places_perm h k)) t
theorem m9 {hs hs' : List (List Pair)} (h : hs.Perm hs') (k t : Int) : goingOn hs k t = goingOn hs' k t ∧ lucky hs k t = lucky hs' k t :=
  ⟨sort_perm (((places_perm h k).append (times_perm h k t)).map _), sort_perm ((times_perm h k t).map _)⟩
theorem m10 {hs : List (List Pair)} (G : GoodHs hs) : goingOn hs 9 0 = Dl.sortI ((allCame hs).map (·.1)) := by
  unfold goingOn runners byTimes
  rw [first_zero, List.append_nil]
  congr 2
  unfold byPlaces allCame
  refine flat_congr fun h m => ?_
  unfold firstOnes
  rw [List.filter_eq_self]
  intro a _
  refine decide_eq_true ?_
  have h1 := List.length_filter_le (fun o : Int × Int => decide (o.2 < a.2)) (cameIn h)
  have h2 := cameIn_len h
  have h3 := G.each h m
  omega
theorem m10z (hs : List (List Pair)) : goingOn hs 0 0 = [] := by
  unfold goingOn runners byTimes
  rw [first_zero]
  have : byPlaces hs 0 = [] := by
    unfold byPlaces
    rw [List.flatMap_eq_nil_iff]
    intro h _
    exact first_zero _
  rw [this]
  exact List.length_eq_zero_iff.mp (by rw [sortI_len]; rfl)
/-! one is faster -/
def fastP (x : Int) (p : Pair) : Pair := (p.1, if p.1 = x then some 1 else p.2)
def fastH (x : Int) (h : List Pair) : List Pair := h.map (fastP x)
def fastHs (x : Int) (hs : List (List Pair)) : List (List Pair) := hs.map (fastH x)
theorem fast_time {hs : List (List Pair)} (G : GoodHs hs) {x : Int} {h : List Pair} (m : h ∈ hs) {p : Int × Int} (hp : p ∈ cameIn (fastH x h)) : 1 ≤ p.2 := by
  have := cameIn_mem.mp hp
  unfold fastH at this
  obtain ⟨q, hq, e⟩ := List.mem_map.mp this
  unfold fastP at e
  injection e with e1 e2
  split at e2
  · injection e2 with e2; omega
  · have := G.time h m q hq p.2 e2
    omega
theorem less_one {R : List (Int × Int)} (h : ∀ p ∈ R, 1 ≤ p.2) : (R.filter fun o => decide (o.2 < 1)) = [] := by
  rw [List.filter_eq_nil_iff]
  intro a ha
  have := h a ha
  simp
  omega
theorem m11 {hs : List (List Pair)} (G : GoodHs hs) (k t : Int) (hk : 0 ≤ k) (ht : 0 ≤ t) {x : Int} (z : x ∈ goingOn hs k t) (hpos : k + t > 0) : x ∈ goingOn (fastHs x hs) k t := by
  obtain ⟨h, m, p, hp, rfl⟩ := going_came z
  have hx : (p.1, (1 : Int)) ∈ cameIn (fastH p.1 h) := by
    refine cameIn_mem.mpr (List.mem_map.mpr ⟨_, cameIn_mem.mp hp, ?_⟩)
    unfold fastP
    rw [if_pos rfl]
  have hm : fastH p.1 h ∈ fastHs p.1 hs := List.mem_map.mpr ⟨h, m, rfl⟩
  have hall : ∀ h' ∈ fastHs p.1 hs, ∀ q ∈ cameIn h', 1 ≤ q.2 := fun h' m' q hq => by
    obtain ⟨h0, m0, rfl⟩ := List.mem_map.mp m'
    exact fast_time G m0 hq
  unfold goingOn runners
  rw [mem_sortI]
  by_cases c : 0 < k
  · refine List.mem_map.mpr ⟨(p.1, 1), List.mem_append_left _ (List.mem_flatMap.mpr ⟨_, hm, ?_⟩), rfl⟩
    unfold firstOnes
    refine List.mem_filter.mpr ⟨hx, decide_eq_true ?_⟩
    show (((cameIn (fastH p.1 h)).filter fun o => decide (o.2 < 1)).length : Int) < k
    rw [less_one (hall _ hm)]
    exact c
  · have hk0 : k = 0 := by omega
    subst hk0
    have hb : byPlaces (fastHs p.1 hs) 0 = [] := by
      unfold byPlaces
      rw [List.flatMap_eq_nil_iff]
      intro h _
      exact first_zero _
    refine List.mem_map.mpr ⟨(p.1, 1), List.mem_append_right _ ?_, rfl⟩
    unfold byTimes firstOnes
    rw [hb]
    refine List.mem_filter.mpr ⟨?_, decide_eq_true ?_⟩
    · unfold Tm.restOf
      exact List.mem_flatMap.mpr ⟨_, hm, List.mem_filter.mpr ⟨hx, rfl⟩⟩
    · show (((Tm.restOf (fastHs p.1 hs) []).filter fun o => decide (o.2 < 1)).length : Int) < t
      rw [less_one fun q hq => ?_]
      · show (0 : Int) < t
        omega
      · unfold Tm.restOf at hq
        obtain ⟨h', m', hq⟩ := List.mem_flatMap.mp hq
        exact hall h' m' q (List.mem_filter.mp hq).1
end K42

namespace Wk
open PySem L2 PySem.W PyProof.Rows Dl
def top (i : Nat) : Stmt := PySem.Challenge.pw_heatplans_k42_whole_goes_on.main.body.getD i (.Pass ⟨0, 0, 0, 0⟩)
abbrev s_came_in : Stmt := top 1
theorem sc_came_in : FnScope ["heat", "pair"] ["heat"] (defScope s_came_in) := ⟨rfl, rfl, rfl, by decide +kernel, rfl, by decide +kernel, by decide +kernel⟩
abbrev s_placed : Stmt := top 2
theorem sc_placed : FnScope ["heat", "times", "runner", "time", "found", "its"] ["heat"] (defScope s_placed) := ⟨rfl, rfl, rfl, by decide +kernel, rfl, by decide +kernel, by decide +kernel⟩
abbrev s_first_ones : Stmt := top 3
theorem sc_first_ones : FnScope ["some", "most", "pair", "other"] ["some", "most"] (defScope s_first_ones) := ⟨rfl, rfl, rfl, by decide +kernel, rfl, by decide +kernel, by decide +kernel⟩
abbrev s_by_places : Stmt := top 4
theorem sc_by_places : FnScope ["heats", "by_place", "found", "heat"] ["heats", "by_place"] (defScope s_by_places) := ⟨rfl, rfl, rfl, by decide +kernel, rfl, by decide +kernel, by decide +kernel⟩
abbrev s_by_times : Stmt := top 5
theorem sc_by_times : FnScope ["heats", "by_place", "by_time", "gone", "rest", "heat", "pair"] ["heats", "by_place", "by_time"] (defScope s_by_times) := ⟨rfl, rfl, rfl, by decide +kernel, rfl, by decide +kernel, by decide +kernel⟩
abbrev s_runners : Stmt := top 6
theorem sc_runners : FnScope ["some", "pair"] ["some"] (defScope s_runners) := ⟨rfl, rfl, rfl, by decide +kernel, rfl, by decide +kernel, by decide +kernel⟩
abbrev s_going_on : Stmt := top 7
theorem sc_going_on : FnScope ["heats", "by_place", "by_time"] ["heats", "by_place", "by_time"] (defScope s_going_on) := ⟨rfl, rfl, rfl, by decide +kernel, rfl, by decide +kernel, by decide +kernel⟩
abbrev s_beaten : Stmt := top 8
theorem sc_beaten : FnScope ["heats", "by_place", "by_time", "gone", "found", "heat", "pair"] ["heats", "by_place", "by_time"] (defScope s_beaten) := ⟨rfl, rfl, rfl, by decide +kernel, rfl, by decide +kernel, by decide +kernel⟩
abbrev s_lucky : Stmt := top 9
theorem sc_lucky : FnScope ["heats", "by_place", "by_time"] ["heats", "by_place", "by_time"] (defScope s_lucky) := ⟨rfl, rfl, rfl, by decide +kernel, rfl, by decide +kernel, by decide +kernel⟩
abbrev s_u_law_cell_at : Stmt := top 11
theorem sc_u_law_cell_at : FnScope ["script", "k"] ["script", "k"] (defScope s_u_law_cell_at) := ⟨rfl, rfl, rfl, by decide +kernel, rfl, by decide +kernel, by decide +kernel⟩
abbrev s_u_law_mixed : Stmt := top 12
theorem sc_u_law_mixed : FnScope ["script", "k", "drawn"] ["script", "k"] (defScope s_u_law_mixed) := ⟨rfl, rfl, rfl, by decide +kernel, rfl, by decide +kernel, by decide +kernel⟩
abbrev s_u_law_drawn : Stmt := top 13
theorem sc_u_law_drawn : FnScope ["number", "k", "drawn"] ["number", "k"] (defScope s_u_law_drawn) := ⟨rfl, rfl, rfl, by decide +kernel, rfl, by decide +kernel, by decide +kernel⟩
abbrev s_u_law_timed : Stmt := top 14
theorem sc_u_law_timed : FnScope ["number", "found", "k", "drawn", "heat", "j", "time"] ["number"] (defScope s_u_law_timed) := ⟨rfl, rfl, rfl, by decide +kernel, rfl, by decide +kernel, by decide +kernel⟩
abbrev s_u_law_faster_right : Stmt := top 15
theorem sc_u_law_faster_right : FnScope ["some", "by_place", "by_time", "gone", "number", "runner", "faster", "heat", "new", "one", "time"] ["some", "by_place", "by_time", "gone", "number"] (defScope s_u_law_faster_right) := ⟨rfl, rfl, rfl, by decide +kernel, rfl, by decide +kernel, by decide +kernel⟩
abbrev s_u_law_goes_on_with_more : Stmt := top 16
theorem sc_u_law_goes_on_with_more : FnScope ["some", "by_place", "by_time", "gone", "more", "wide", "runner"] ["some", "by_place", "by_time", "gone"] (defScope s_u_law_goes_on_with_more) := ⟨rfl, rfl, rfl, by decide +kernel, rfl, by decide +kernel, by decide +kernel⟩
abbrev s_law : Stmt := top 17
theorem sc_law : FnScope ["script", "some", "number", "by_place", "by_time", "gone", "out", "luck", "came", "heat", "here", "runner", "time", "flat", "row"] ["script"] (defScope s_law) := ⟨rfl, rfl, rfl, by decide +kernel, rfl, by decide +kernel, by decide +kernel⟩
end Wk

namespace Wk
open PySem L2 PySem.W PyProof.Rows Dl Tm
section
variable {P : Program} {w : World} {K : PySem.W.Frag} {mg : Str → Option Value} {base : Heap}
def SmallHs (hs : List (List Pair)) : Prop := hs.length ≤ 100 ∧ ∀ h ∈ hs, h.length ≤ 100
theorem eqRep_cP : EqRep cP := fun a b => by
  obtain ⟨a1, a2⟩ := a
  obtain ⟨b1, b2⟩ := b
  simp only [cP, PyData.eqv, PyData.eqvAll, Bool.and_true]
  by_cases h1 : a1 = b1
  · by_cases h2 : a2 = b2
    · simp [h1, h2]
    · simp [h1, h2]
  · simp [h1]
theorem cP_dep (p : Int × Int) : (cP p).depth ≤ 60 := by simp [cP, PyData.depth, PyData.depthAll]
theorem eqv_oI (o : Option Int) (t : Int) : PyData.eqv (oI o) (.int t) = decide (o = some t) := by
  cases o with
  | none => simp [oI, PyData.eqv]
  | some k => rw [oI, eqv_int]; simp
def R_came_in : Rho → PyData → Prop := fun as d => ∃ h : List Pair, as = [.val (hD h)] ∧ d = .list ((cameIn h).map cP)
theorem ok_came_in (hb : Blt mg) (D_came_in : Dfn K mg "came_in" s_came_in ["heat"]) : D_came_in.Ok P w base 1 R_came_in := by
  refine okD D_came_in.F sc_came_in (by rintro _ _ ⟨h, rfl, rfl⟩; rfl) (by decide) (fun cdv A outer s H E hr as d hR => ?_)
  obtain ⟨h, rfl, rfl⟩ := hR
  refine dss_one (ds_ret (DE.is (DN.de (dn_lc (xs := h) (rep := tP) (q := fun p => p.2.isSome) (g := tP) [("pair", 1)] [1] rfl sc_came_in.nd (blkOk_by rfl) (di_tup (de_var 0))
    (fun p hp => ⟨_, ⟨fun _ _ _ _ _ => dg_name 1 sc_came_in.nd, fun _ _ _ _ _ => dts_one ((dt_notN (de_ixT (de_var 1) de_int rfl)).is ?_), fun _ _ _ _ _ _ => de_var 1⟩⟩))) ?_) rfl)
  · cases p.2 <;> rfl
  · rw [cameIn_data]
def R_first_ones : Rho → PyData → Prop := fun as d => ∃ (s : List (Int × Int)) (m : Int), as = [.val (.list (s.map cP)), .val (.int m)] ∧ d = .list ((firstOnes s m).map cP)
theorem ok_first_ones (hb : Blt mg) (D_first_ones : Dfn K mg "first_ones" s_first_ones ["some", "most"]) : D_first_ones.Ok P w base 1 R_first_ones := by
  refine okD D_first_ones.F sc_first_ones (by rintro _ _ ⟨_, _, rfl, rfl⟩; rfl) (by decide) (fun cdv A outer s H E hr as d hR => ?_)
  obtain ⟨s, m, rfl, rfl⟩ := hR
  refine dss_one (ds_ret (DN.de (dn_lc (xs := s) (rep := cP) (q := fun p => decide (((s.filter fun o => decide (o.2 < p.2)).length : Int) < m)) (g := cP) [("pair", 2)] [2] rfl sc_first_ones.nd (blkOk_by rfl) (di_list (de_var 0))
    (fun p hp => ⟨_, ⟨fun _ _ _ _ _ => dg_name 2 sc_first_ones.nd, fun _ _ _ _ _ => dts_one ((dt_lt (de_len hb.len (DN.de (dn_lc (xs := s) (rep := cP) (q := fun o => decide (o.2 < p.2)) (g := cP) [("other", 3)] [3] rfl sc_first_ones.nd (blkOk_by rfl) (di_list (de_var 0))
      (fun o ho => ⟨_, ⟨fun _ _ _ _ _ => dg_name 3 sc_first_ones.nd, fun _ _ _ _ _ => dts_one (dt_lt (de_ixT (de_var 3) de_int rfl) (de_ixT (de_var 2) de_int rfl)), fun _ _ _ _ _ _ => de_var 3⟩⟩))) rfl) (de_var 1)).is ?_), fun _ _ _ _ _ _ => de_var 2⟩⟩))) rfl)
  rw [List.length_map]
def R_by_places : Rho → PyData → Prop := fun as d => ∃ (hs : List (List Pair)) (k : Int), as = [.val (hsD hs), .val (.int k)] ∧ SmallHs hs ∧ d = .list ((byPlaces hs k).map cP)
theorem first_len (s : List (Int × Int)) (k : Int) : (firstOnes s k).length ≤ s.length := List.length_filter_le _ _
theorem ok_by_places (hb : Blt mg) (D_by_places : Dfn K mg "by_places" s_by_places ["heats", "by_place"]) (D_first_ones : Dfn K mg "first_ones" s_first_ones ["some", "most"]) (D_came_in : Dfn K mg "came_in" s_came_in ["heat"]) : D_by_places.Ok P w base 2 R_by_places := by
  refine okD D_by_places.F sc_by_places (by rintro _ _ ⟨_, _, rfl, _, rfl⟩; rfl) (by decide) (fun cdv A outer s H E hr as d hR => ?_)
  obtain ⟨hs, k, rfl, ⟨hl, hl2⟩, rfl⟩ := hR
  have len1 : ∀ h ∈ hs, (firstOnes (cameIn h) k).length ≤ 100 := fun h hh => Nat.le_trans (first_len _ _) (Nat.le_trans (cameIn_len h) (hl2 h hh))
  refine dss_cons (ds_setN 2 sc_by_places.nd (dn_lst (ds := []) da_nil (Nat.zero_le _)) rfl) ?_
  refine dss_seq (ds_for (fun i r1 => ∃ z, r1 = [.val (hsD hs), .val (.int k), .own ((byPlaces (hs.take i) k).map cP), z]) PassesOwn.never rfl (di_tup (de_var 0)) ⟨_, rfl⟩ (fun i d r1 hd hz ⟨z, e⟩ => ?_) (fun r1 h => h)) ?_
  · subst e
    obtain ⟨h, hh, rfl⟩ := map_at hd
    have e1 : (byPlaces (hs.take (i + 1)) k).map cP = (byPlaces (hs.take i) k).map cP ++ (firstOnes (cameIn h) k).map cP := by
      unfold byPlaces
      rw [flatMap_snoc _ hh, List.map_append]
    refine ⟨_, _, dg_name 3 sc_by_places.nd, dss_one (ds_extend 2 rfl (dc D_first_ones (ok_first_ones hb D_first_ones) hr (by decide) (da_2 (dc D_came_in (ok_came_in hb D_came_in) hr (by decide) (da_1 (de_var 3)) ⟨h, rfl, rfl⟩) (de_var 1)) ⟨_, k, rfl, rfl⟩) ?_ ⟨_, by rw [e1]; rfl⟩)⟩
    rw [List.length_map, List.length_map]
    have := flatMap_take_len hl len1 i
    have := len1 h (at_mem hh)
    exact size_ok (by show (List.flatMap _ _).length + _ ≤ _; omega)
  · rintro r1 ⟨z, rfl⟩
    rw [show (hs.map hD).length = hs.length from List.length_map .., take_all]
    exact dss_freeze 2 rfl (dss_one (ds_ret (de_var 2) rfl))
def R_by_times : Rho → PyData → Prop := fun as d => ∃ (hs : List (List Pair)) (k t : Int), as = [.val (hsD hs), .val (.int k), .val (.int t)] ∧ SmallHs hs ∧ d = .list ((byTimes hs k t).map cP)
theorem rest_len {hs : List (List Pair)} {gone : List (Int × Int)} (hl2 : ∀ h ∈ hs, h.length ≤ 100) : ∀ h ∈ hs, ((cameIn h).filter fun p => !gone.any fun z => decide (z = p)).length ≤ 100 := fun h hh =>
  Nat.le_trans (List.length_filter_le _ _) (Nat.le_trans (cameIn_len h) (hl2 h hh))
theorem ok_by_times (hb : Blt mg) (D_by_times : Dfn K mg "by_times" s_by_times ["heats", "by_place", "by_time"]) (D_by_places : Dfn K mg "by_places" s_by_places ["heats", "by_place"]) (D_first_ones : Dfn K mg "first_ones" s_first_ones ["some", "most"]) (D_came_in : Dfn K mg "came_in" s_came_in ["heat"]) : D_by_times.Ok P w base 3 R_by_times := by
  refine okD D_by_times.F sc_by_times (by rintro _ _ ⟨_, _, _, rfl, _, rfl⟩; rfl) (by decide) (fun cdv A outer s H E hr as d hR => ?_)
  obtain ⟨hs, k, t, rfl, ⟨hl, hl2⟩, rfl⟩ := hR
  have len1 := rest_len (gone := byPlaces hs k) hl2
  refine dss_cons (ds_set 3 sc_by_times.nd (dc D_by_places (ok_by_places hb D_by_places D_first_ones D_came_in) hr (by decide) (da_2 (de_var 0) (de_var 1)) ⟨hs, k, rfl, ⟨hl, hl2⟩, rfl⟩) rfl) ?_
  refine dss_cons (ds_setN 4 sc_by_times.nd (dn_lst (ds := []) da_nil (Nat.zero_le _)) rfl) ?_
  refine dss_seq (ds_for (fun i r1 => ∃ z z', r1 = [.val (hsD hs), .val (.int k), .val (.int t), .val (.list ((byPlaces hs k).map cP)), .own ((Tm.restOf (hs.take i) (byPlaces hs k)).map cP), z, z']) PassesOwn.never rfl (di_tup (de_var 0)) ⟨_, _, rfl⟩ (fun i d r1 hd hz ⟨z, z', e⟩ => ?_) (fun r1 h => h)) ?_
  · subst e
    obtain ⟨h, hh, rfl⟩ := map_at hd
    have e1 : (Tm.restOf (hs.take (i + 1)) (byPlaces hs k)).map cP = (Tm.restOf (hs.take i) (byPlaces hs k)).map cP ++ ((cameIn h).filter fun p => !(byPlaces hs k).any fun z => decide (z = p)).map cP := by
      unfold Tm.restOf
      rw [flatMap_snoc _ hh, List.map_append]
    refine ⟨_, _, dg_name 5 sc_by_times.nd, dss_one (ds_extend 4 rfl (DN.de (dn_lc (xs := cameIn h) (rep := cP) (q := fun p => !(byPlaces hs k).any fun z => decide (z = p)) (g := cP) [("pair", 6)] [6] rfl sc_by_times.nd (blkOk_by rfl)
      (di_list (dc D_came_in (ok_came_in hb D_came_in) hr (by decide) (da_1 (de_var 5)) ⟨h, rfl, rfl⟩))
      (fun p hp => ⟨_, ⟨fun _ _ _ _ _ => dg_name 6 sc_by_times.nd, fun _ _ _ _ _ => dts_one ((dt_ni hr.units (de_var 6) (de_var 3) rfl (cP_dep p)).is (by rw [any_map_eqv eqRep_cP])), fun _ _ _ _ _ _ => de_var 6⟩⟩))) ?_ ⟨_, _, by rw [e1]; rfl⟩)⟩
    rw [List.length_map, List.length_map]
    have := flatMap_take_len hl len1 i
    have := len1 h (at_mem hh)
    exact size_ok (by show (List.flatMap _ _).length + _ ≤ _; omega)
  · rintro r1 ⟨z, z', rfl⟩
    rw [show (hs.map hD).length = hs.length from List.length_map .., take_all]
    exact dss_freeze 4 rfl (dss_one (ds_ret (dc D_first_ones (ok_first_ones hb D_first_ones) hr (by decide) (da_2 (de_var 4) (de_var 2)) ⟨_, t, rfl, rfl⟩) rfl))
def R_runners : Rho → PyData → Prop := fun as d => ∃ s : List (Int × Int), as = [.val (.list (s.map cP))] ∧ d = tI (runners s)
theorem ok_runners (hb : Blt mg) (D_runners : Dfn K mg "runners" s_runners ["some"]) : D_runners.Ok P w base 1 R_runners := by
  refine okD D_runners.F sc_runners (by rintro _ _ ⟨_, rfl, rfl⟩; rfl) (by decide) (fun cdv A outer s H E hr as d hR => ?_)
  obtain ⟨s, rfl, rfl⟩ := hR
  refine dss_one (ds_ret (de_tuple hb.tuple (DN.de (dn_sortI hr.units hb.sorted (DN.de (dn_lc1 (xs := s) (rep := cP) (g := fun p => .int p.1) [("pair", 1)] [1] rfl sc_runners.nd (blkOk_by rfl) (di_list (de_var 0))
    (fun p hp => ⟨_, ⟨fun _ _ _ _ _ => dg_name 1 sc_runners.nd, fun _ _ _ _ _ => dts_nil, fun _ _ _ _ _ _ => de_ixT (de_var 1) de_int rfl⟩⟩))) (by show some _ = some _; rw [show (fun p : Int × Int => PyData.int p.1) = PyData.int ∘ Prod.fst from rfl, ← List.map_map]))) rfl) rfl)
def R_going_on : Rho → PyData → Prop := fun as d => ∃ (hs : List (List Pair)) (k t : Int), as = [.val (hsD hs), .val (.int k), .val (.int t)] ∧ SmallHs hs ∧ d = tI (goingOn hs k t)
theorem byPlaces_len {hs : List (List Pair)} (k : Int) (h : SmallHs hs) : (byPlaces hs k).length ≤ 10000 := by
  have := flatMap_take_len h.1 (fun x hx => Nat.le_trans (first_len (cameIn x) k) (Nat.le_trans (cameIn_len x) (h.2 x hx))) hs.length
  rw [take_all] at this
  exact this
theorem restOf_len {hs : List (List Pair)} (g : List (Int × Int)) (h : SmallHs hs) : (Tm.restOf hs g).length ≤ 10000 := by
  have := flatMap_take_len h.1 (rest_len (gone := g) h.2) hs.length
  rw [take_all] at this
  exact this
theorem byTimes_len {hs : List (List Pair)} (k t : Int) (h : SmallHs hs) : (byTimes hs k t).length ≤ 10000 := Nat.le_trans (first_len _ _) (restOf_len _ h)
theorem ok_going_on (hb : Blt mg) (D_going_on : Dfn K mg "going_on" s_going_on ["heats", "by_place", "by_time"]) (D_runners : Dfn K mg "runners" s_runners ["some"]) (D_by_times : Dfn K mg "by_times" s_by_times ["heats", "by_place", "by_time"]) (D_by_places : Dfn K mg "by_places" s_by_places ["heats", "by_place"]) (D_first_ones : Dfn K mg "first_ones" s_first_ones ["some", "most"]) (D_came_in : Dfn K mg "came_in" s_came_in ["heat"]) : D_going_on.Ok P w base 4 R_going_on := by
  refine okD D_going_on.F sc_going_on (by rintro _ _ ⟨_, _, _, rfl, _, rfl⟩; rfl) (by decide) (fun cdv A outer s H E hr as d hR => ?_)
  obtain ⟨hs, k, t, rfl, hS, rfl⟩ := hR
  refine dss_one (ds_ret (dc D_runners (ok_runners hb D_runners) hr (by decide) (da_1 (DN.de (dn_cat ?_ (dc D_by_places (ok_by_places hb D_by_places D_first_ones D_came_in) hr (by decide) (da_2 (de_var 0) (de_var 1)) ⟨hs, k, rfl, hS, rfl⟩)
    (dc D_by_times (ok_by_times hb D_by_times D_by_places D_first_ones D_came_in) hr (by decide) (da_3 (de_var 0) (de_var 1) (de_var 2)) ⟨hs, k, t, rfl, hS, rfl⟩)))) ⟨byPlaces hs k ++ byTimes hs k t, by rw [List.map_append], rfl⟩) rfl)
  rw [List.length_map, List.length_map]
  have := byPlaces_len k hS
  have := byTimes_len k t hS
  exact size_ok (by omega)
def R_beaten : Rho → PyData → Prop := fun as d => ∃ (hs : List (List Pair)) (k t : Int), as = [.val (hsD hs), .val (.int k), .val (.int t)] ∧ SmallHs hs ∧ d = tI (beaten hs k t)
def outOf (hs : List (List Pair)) (g : List Int) : List (Int × Int) := hs.flatMap fun h => (cameIn h).filter fun p => !g.any fun z => decide (z = p.1)
theorem out_len {hs : List (List Pair)} {g : List Int} (hl2 : ∀ h ∈ hs, h.length ≤ 100) : ∀ h ∈ hs, ((cameIn h).filter fun p => !g.any fun z => decide (z = p.1)).length ≤ 100 := fun h hh =>
  Nat.le_trans (List.length_filter_le _ _) (Nat.le_trans (cameIn_len h) (hl2 h hh))
theorem ok_beaten (hb : Blt mg) (D_beaten : Dfn K mg "beaten" s_beaten ["heats", "by_place", "by_time"]) (D_going_on : Dfn K mg "going_on" s_going_on ["heats", "by_place", "by_time"]) (D_runners : Dfn K mg "runners" s_runners ["some"]) (D_by_times : Dfn K mg "by_times" s_by_times ["heats", "by_place", "by_time"]) (D_by_places : Dfn K mg "by_places" s_by_places ["heats", "by_place"]) (D_first_ones : Dfn K mg "first_ones" s_first_ones ["some", "most"]) (D_came_in : Dfn K mg "came_in" s_came_in ["heat"]) : D_beaten.Ok P w base 5 R_beaten := by
  refine okD D_beaten.F sc_beaten (by rintro _ _ ⟨_, _, _, rfl, _, rfl⟩; rfl) (by decide) (fun cdv A outer s H E hr as d hR => ?_)
  obtain ⟨hs, k, t, rfl, hS, rfl⟩ := hR
  have len1 := out_len (g := goingOn hs k t) hS.2
  refine dss_cons (ds_set 3 sc_beaten.nd (dc D_going_on (ok_going_on hb D_going_on D_runners D_by_times D_by_places D_first_ones D_came_in) hr (by decide) (da_3 (de_var 0) (de_var 1) (de_var 2)) ⟨hs, k, t, rfl, hS, rfl⟩) rfl) ?_
  refine dss_cons (ds_setN 4 sc_beaten.nd (dn_lst (ds := []) da_nil (Nat.zero_le _)) rfl) ?_
  refine dss_seq (ds_for (fun i r1 => ∃ z z', r1 = [.val (hsD hs), .val (.int k), .val (.int t), .val (tI (goingOn hs k t)), .own ((outOf (hs.take i) (goingOn hs k t)).map cP), z, z']) PassesOwn.never rfl (di_tup (de_var 0)) ⟨_, _, rfl⟩ (fun i d r1 hd hz ⟨z, z', e⟩ => ?_) (fun r1 h => h)) ?_
  · subst e
    obtain ⟨h, hh, rfl⟩ := map_at hd
    have e1 : (outOf (hs.take (i + 1)) (goingOn hs k t)).map cP = (outOf (hs.take i) (goingOn hs k t)).map cP ++ ((cameIn h).filter fun p => !(goingOn hs k t).any fun z => decide (z = p.1)).map cP := by
      unfold outOf
      rw [flatMap_snoc _ hh, List.map_append]
    refine ⟨_, _, dg_name 5 sc_beaten.nd, dss_one (ds_extend 4 rfl (DN.de (dn_lc (xs := cameIn h) (rep := cP) (q := fun p => !(goingOn hs k t).any fun z => decide (z = p.1)) (g := cP) [("pair", 6)] [6] rfl sc_beaten.nd (blkOk_by rfl)
      (di_list (dc D_came_in (ok_came_in hb D_came_in) hr (by decide) (da_1 (de_var 5)) ⟨h, rfl, rfl⟩))
      (fun p hp => ⟨_, ⟨fun _ _ _ _ _ => dg_name 6 sc_beaten.nd, fun _ _ _ _ _ => dts_one ((dt_ni hr.units (de_ixT (de_var 6) de_int rfl) (de_var 3) rfl (by simp [PyData.depth])).is (by rw [any_map_eqv eqRep_int])), fun _ _ _ _ _ _ => de_var 6⟩⟩))) ?_ ⟨_, _, by rw [e1]; rfl⟩)⟩
    rw [List.length_map, List.length_map]
    have := flatMap_take_len hS.1 len1 i
    have := len1 h (at_mem hh)
    exact size_ok (by show (List.flatMap _ _).length + _ ≤ _; omega)
  · rintro r1 ⟨z, z', rfl⟩
    rw [show (hs.map hD).length = hs.length from List.length_map .., take_all]
    exact dss_freeze 4 rfl (dss_one (ds_ret (dc D_runners (ok_runners hb D_runners) hr (by decide) (da_1 (de_var 4)) ⟨_, rfl, rfl⟩) rfl))
def R_lucky : Rho → PyData → Prop := fun as d => ∃ (hs : List (List Pair)) (k t : Int), as = [.val (hsD hs), .val (.int k), .val (.int t)] ∧ SmallHs hs ∧ d = tI (lucky hs k t)
theorem ok_lucky (hb : Blt mg) (D_lucky : Dfn K mg "lucky" s_lucky ["heats", "by_place", "by_time"]) (D_runners : Dfn K mg "runners" s_runners ["some"]) (D_by_times : Dfn K mg "by_times" s_by_times ["heats", "by_place", "by_time"]) (D_by_places : Dfn K mg "by_places" s_by_places ["heats", "by_place"]) (D_first_ones : Dfn K mg "first_ones" s_first_ones ["some", "most"]) (D_came_in : Dfn K mg "came_in" s_came_in ["heat"]) : D_lucky.Ok P w base 4 R_lucky := by
  refine okD D_lucky.F sc_lucky (by rintro _ _ ⟨_, _, _, rfl, _, rfl⟩; rfl) (by decide) (fun cdv A outer s H E hr as d hR => ?_)
  obtain ⟨hs, k, t, rfl, hS, rfl⟩ := hR
  exact dss_one (ds_ret (dc D_runners (ok_runners hb D_runners) hr (by decide) (da_1 (dc D_by_times (ok_by_times hb D_by_times D_by_places D_first_ones D_came_in) hr (by decide) (da_3 (de_var 0) (de_var 1) (de_var 2)) ⟨hs, k, t, rfl, hS, rfl⟩)) ⟨byTimes hs k t, rfl, rfl⟩) rfl)
def R_placed : Rho → PyData → Prop := fun as d => ∃ h : List Pair, as = [.val (hD h)] ∧ h.length ≤ 60 ∧ d = .tuple ((placed h).map tI)
theorem ok_placed (hb : Blt mg) (D_placed : Dfn K mg "placed" s_placed ["heat"]) (D_came_in : Dfn K mg "came_in" s_came_in ["heat"]) : D_placed.Ok P w base 2 R_placed := by
  refine okD D_placed.F sc_placed (by rintro _ _ ⟨_, rfl, _, rfl⟩; rfl) (by decide) (fun cdv A outer s H E hr as d hR => ?_)
  obtain ⟨h, rfl, hl, rfl⟩ := hR
  have hl2 : ((cameIn h).map (·.2)).length ≤ 60 := by rw [List.length_map]; exact Nat.le_trans (cameIn_len h) hl
  have hl3 : (risen ((cameIn h).map (·.2))).length ≤ 60 := Nat.le_trans (risen_len _) hl2
  refine dss_cons (ds_set 1 sc_placed.nd (DN.de (dn_sortSet (ns := (cameIn h).map (·.2)) rfl hb.sorted (dst_set rfl hb.set (DN.de (dn_lc1 (xs := cameIn h) (rep := cP) (g := fun p => .int p.2) [("runner", 2), ("time", 3)] [2, 3] rfl sc_placed.nd (blkOk_by rfl)
    (di_list (dc D_came_in (ok_came_in hb D_came_in) hr (by decide) (da_1 (de_var 0)) ⟨h, rfl, rfl⟩))
    (fun p hp => ⟨_, ⟨fun _ _ _ _ _ => dg_tup rfl (dgs_cons (dg_name 2 sc_placed.nd) (dgs_cons (dg_name 3 sc_placed.nd) dgs_nil)), fun _ _ _ _ _ => dts_nil, fun _ _ _ _ _ _ => de_var 3⟩⟩))) (by show some _ = some _; rw [List.map_map]; rfl) (by omega)) (by omega))) rfl) ?_
  refine dss_cons (ds_setN 4 sc_placed.nd (dn_lst (ds := []) da_nil (Nat.zero_le _)) rfl) ?_
  refine dss_seq (ds_for (fun i r1 => ∃ z1 z2 z3, r1 = [.val (hD h), .val (.list ((risen ((cameIn h).map (·.2))).map .int)), z1, z2, .own ((((risen ((cameIn h).map (·.2))).take i).map fun t => (h.filter fun p => decide (p.2 = some t)).map (·.1)).map tI), z3]) PassesOwn.never rfl (di_list (de_var 1)) ⟨_, _, _, rfl⟩ (fun i d r1 hd hz ⟨z1, z2, z3, e⟩ => ?_) (fun r1 h => h)) ?_
  · subst e
    obtain ⟨t, ht, rfl⟩ := map_at hd
    have e1 : (((risen ((cameIn h).map (·.2))).take (i + 1)).map fun t => (h.filter fun p => decide (p.2 = some t)).map (·.1)).map tI = (((risen ((cameIn h).map (·.2))).take i).map fun t => (h.filter fun p => decide (p.2 = some t)).map (·.1)).map tI ++ [.tuple ((h.filter fun p => decide (p.2 = some t)).map fun p => .int p.1)] := by
      rw [map_snoc _ ht, List.map_append, List.map_cons, List.map_nil]
      have em : ((h.filter fun p => decide (p.2 = some t)).map (·.1)).map PyData.int = (h.filter fun p => decide (p.2 = some t)).map fun p => .int p.1 := by
        rw [List.map_map]
        rfl
      rw [← em]
      rfl
    refine ⟨_, _, dg_name 3 sc_placed.nd, dss_one (ds_append 4 rfl (de_tuple hb.tuple (DN.de (dn_lc (xs := h) (rep := tP) (q := fun p => decide (p.2 = some t)) (g := fun p => .int p.1) [("runner", 2), ("its", 5)] [2, 5] rfl sc_placed.nd (blkOk_by rfl) (di_tup (de_var 0))
      (fun p hp => ⟨_, ⟨fun _ _ _ _ _ => dg_tup rfl (dgs_cons (dg_name 2 sc_placed.nd) (dgs_cons (dg_name 5 sc_placed.nd) dgs_nil)), fun _ _ _ _ _ => dts_one ((dt_eqP hr.units (by simp [PyData.depth]) (de_var 5) (de_var 3)).is (eqv_oI p.2 t)), fun _ _ _ _ _ _ => de_var 2⟩⟩))) rfl) ?_ ⟨_, _, _, by rw [e1]; rfl⟩)⟩
    rw [List.length_map, List.length_map, List.length_take]
    exact Nat.lt_of_le_of_lt (Nat.min_le_right _ _) (Nat.lt_of_le_of_lt hl3 (by decide))
  · rintro r1 ⟨z1, z2, z3, rfl⟩
    rw [show ((risen ((cameIn h).map (·.2))).map PyData.int).length = (risen ((cameIn h).map (·.2))).length from List.length_map .., take_all]
    exact dss_freeze 4 rfl (dss_one (ds_ret (de_tuple hb.tuple (de_var 4) rfl) rfl))
end
end Wk

namespace Wk
open PySem L2 PySem.W PyProof.Rows Dl Lw
section
variable {P : Program} {w : World} {K : PySem.W.Frag} {mg : Str → Option Value} {base : Heap}
def R_cell_at : Rho → PyData → Prop := fun as d => ∃ (ns : List Int) (k : Nat), as = [.scr ns, .val (.int (k : Int))] ∧ d = .int (ns.getD k 0)
theorem ok_u_law_cell_at (hb : Blt mg) (D_u_law_cell_at : Dfn K mg "_law_cell_at" s_u_law_cell_at ["script", "k"]) : D_u_law_cell_at.Ok P w base 1 R_cell_at := by
  refine okD D_u_law_cell_at.F sc_u_law_cell_at (by rintro _ _ ⟨_, _, rfl, rfl⟩; rfl) (by decide) (fun cdv A outer s H E hr as d hR => ?_)
  obtain ⟨ns, k, rfl, rfl⟩ := hR
  refine dss_seq (M := fun r1 => r1 = [.scr ns, .val (.int (k : Int))] ∧ ns.length ≤ k) (ds_if (dt_lt (de_var 1) (de_lenScr hb.len (dar_scr 0))) (fun hk => ?_) (fun hk => ?_)) ?_
  · have hlt : k < ns.length := by
      have := of_decide_eq_true hk
      omega
    refine dss_one (ds_ret (de_ixScr (dar_scr 0) (de_var 1) (atI_lt hlt)) ?_)
    show PyData.int _ = PyData.int _
    rw [List.getD_eq_getElem?_getD, List.getElem?_eq_getElem hlt]
    rfl
  · exact dss_nil ⟨rfl, by have := of_decide_eq_false hk; omega⟩
  · rintro r1 ⟨rfl, hge⟩
    refine dss_one (ds_ret de_int ?_)
    show PyData.int _ = PyData.int _
    rw [List.getD_eq_getElem?_getD, List.getElem?_eq_none hge]
    rfl
def R_mixed : Rho → PyData → Prop := fun as d => ∃ (ns : List Int) (k : Nat), as = [.scr ns, .val (.int (k : Int))] ∧ d = .int (mixed ns k)
theorem mulL {i j : Int} (h1 : -(2 ^ 64) < i) (h2 : i < 2 ^ 64) : CMul i j := .inl ⟨h1, h2⟩
theorem mulR {i j : Int} (h1 : -(2 ^ 64) < j) (h2 : j < 2 ^ 64) : CMul i j := .inr ⟨h1, h2⟩
theorem mulM (x : Int) : CMul (x % 2147483647) (x % 2147483647) := mulL (by have := Int.emod_nonneg x (show (2147483647 : Int) ≠ 0 by decide); omega) (by have := Int.emod_lt_of_pos x (show (0 : Int) < 2147483647 by decide); omega)
theorem ok_u_law_mixed (hb : Blt mg) (D_u_law_mixed : Dfn K mg "_law_mixed" s_u_law_mixed ["script", "k"]) (D_u_law_cell_at : Dfn K mg "_law_cell_at" s_u_law_cell_at ["script", "k"]) : D_u_law_mixed.Ok P w base 2 R_mixed := by
  refine okD D_u_law_mixed.F sc_u_law_mixed (by rintro _ _ ⟨_, _, rfl, rfl⟩; rfl) (by decide) (fun cdv A outer s H E hr as d hR => ?_)
  obtain ⟨ns, k, rfl, rfl⟩ := hR
  refine dss_cons (ds_set 2 sc_u_law_mixed.nd (de_mod (by decide) (de_mul (mulR (by decide) (by decide)) (de_add (de_add (dc D_u_law_cell_at (ok_u_law_cell_at hb D_u_law_cell_at) hr (by decide) (da_cons (dar_scr 0) (da_1 (de_var 1))) ⟨ns, k, rfl, rfl⟩) (de_mul (mulL (by decide) (by decide)) de_int (de_var 1))) de_int) de_int) de_int) rfl) ?_
  exact dss_one (ds_ret (de_mod (by decide) (de_add (de_add (de_mul (mulM _) (de_var 2) (de_var 2)) (de_mul (mulL (by decide) (by decide)) de_int (de_var 2))) (de_var 1)) de_int) rfl)
def R_drawn : Rho → PyData → Prop := fun as d => ∃ (n : Int) (k : Nat), as = [.val (.int n), .val (.int (k : Int))] ∧ d = .int (drawn n k)
theorem ok_u_law_drawn (hb : Blt mg) (D_u_law_drawn : Dfn K mg "_law_drawn" s_u_law_drawn ["number", "k"]) : D_u_law_drawn.Ok P w base 1 R_drawn := by
  refine okD D_u_law_drawn.F sc_u_law_drawn (by rintro _ _ ⟨_, _, rfl, rfl⟩; rfl) (by decide) (fun cdv A outer s H E hr as d hR => ?_)
  obtain ⟨n, k, rfl, rfl⟩ := hR
  refine dss_cons (ds_set 2 sc_u_law_drawn.nd (de_mod (by decide) (de_mul (mulR (by decide) (by decide)) (de_add (de_add (de_var 0) (de_mul (mulL (by decide) (by decide)) de_int (de_var 1))) de_int) de_int) de_int) rfl) ?_
  exact dss_one (ds_ret (de_mod (by decide) (de_add (de_add (de_mul (mulM _) (de_var 2) (de_var 2)) (de_mul (mulL (by decide) (by decide)) de_int (de_var 2))) (de_var 1)) de_int) rfl)
end
end Wk

namespace Wk
open PySem L2 PySem.W PyProof.Rows Dl Lw Tm
section
variable {P : Program} {w : World} {K : PySem.W.Frag} {mg : Str → Option Value} {base : Heap}
def R_timed : Rho → PyData → Prop := fun as d => ∃ n : Int, as = [.val (.int n)] ∧ d = hsD (timed n)
theorem range_take {β : Type} (f : Nat → β) {n i : Nat} (h : i < n) : ((List.range n).map f).take (i + 1) = ((List.range n).map f).take i ++ [f i] := by
  refine take_snoc ?_
  rw [List.getElem?_map, List.getElem?_range h]
  rfl
theorem ok_u_law_timed (hb : Blt mg) (D_u_law_timed : Dfn K mg "_law_timed" s_u_law_timed ["number"]) (D_u_law_drawn : Dfn K mg "_law_drawn" s_u_law_drawn ["number", "k"]) : D_u_law_timed.Ok P w base 2 R_timed := by
  refine okD D_u_law_timed.F sc_u_law_timed (by rintro _ _ ⟨_, rfl, rfl⟩; rfl) (by decide) (fun cdv A outer s H E hr as d hR => ?_)
  obtain ⟨n, rfl, rfl⟩ := hR
  have b4 := mod_bounds (n / 16) (show (0 : Int) < 4 by decide)
  have b2 := mod_bounds (n / 64) (show (0 : Int) < 2 by decide)
  refine dss_cons (ds_set 1 sc_u_law_timed.nd (de_tup (ds := []) da_nil (Nat.zero_le _)) rfl) ?_
  refine dss_seq (ds_for (fun i r1 => ∃ z1 z2 z3 z4 z5, r1 = [.val (.int n), .val (.tuple (((timed n).take i).map hD)), z1, z2, z3, z4, z5]) PassesOwn.never rfl
    (di_range1 rfl hb.range (de_add de_int (de_mod (by decide) (de_fdiv (by decide) (de_var 0) de_int) de_int)) (by omega) (by omega)) ⟨_, _, _, _, _, rfl⟩ (fun i d r1 hd hz ⟨z1, z2, z3, z4, z5, e⟩ => ?_) (fun r1 h => h)) ?_
  · subst e
    obtain ⟨rfl, hi⟩ := rangeD_at hd
    have b5 := mod_bounds (drawn n (50 + i) / 16) (show (0 : Int) < 5 by decide)
    refine ⟨_, _, dg_name 2 sc_u_law_timed.nd, ?_⟩
    refine dss_cons (ds_set 3 sc_u_law_timed.nd (dc D_u_law_drawn (ok_u_law_drawn hb D_u_law_drawn) hr (by decide) (da_2 (de_var 0) (de_add de_int (de_var 2))) ⟨n, 50 + i, by simp, rfl⟩) rfl) ?_
    refine dss_cons (ds_set 4 sc_u_law_timed.nd (de_tup (ds := []) da_nil (Nat.zero_le _)) rfl) ?_
    refine dss_seq (ds_for (fun j r1 => ∃ z4 z5, r1 = [.val (.int n), .val (.tuple (((timed n).take i).map hD)), .val (.int (0 + (i : Int))), .val (.int (drawn n (50 + i))), .val (.tuple (((heatOf n i).take j).map tP)), z4, z5]) PassesOwn.never rfl
      (di_range1 rfl hb.range (de_add de_int (de_mod (by decide) (de_fdiv (by decide) (de_var 3) de_int) de_int)) (by omega) (by omega)) ⟨_, _, rfl⟩ (fun j d r1 hd hz ⟨z4, z5, e⟩ => ?_) (fun r1 h => h)) ?_
    · subst e
      obtain ⟨rfl, hj⟩ := rangeD_at hd
      have e1 : ((heatOf n i).take (j + 1)).map tP = ((heatOf n i).take j).map tP ++ [tP (6 * (j : Int) + (i : Int), tmOf n (drawn n (50 + i)) j)] := by
        unfold heatOf
        rw [range_take _ hj, List.map_append]
        rfl
      have hlen : (((heatOf n i).take j).map tP).length ≤ 100 := by
        unfold heatOf
        rw [List.length_map, List.length_take, List.length_map, List.length_range]
        omega
      have hpos : (0 : Int) < (if n / 64 % 2 = 0 then 4 else 9) := by split <;> decide
      refine ⟨_, _, dg_name 5 sc_u_law_timed.nd, ?_⟩
      refine dss_cons (ds_set 6 sc_u_law_timed.nd (de_add de_int (de_mod hpos (de_fdiv (by decide) (dc D_u_law_drawn (ok_u_law_drawn hb D_u_law_drawn) hr (by decide) (da_2 (de_var 3) (de_var 5)) ⟨drawn n (50 + i), j, by simp, rfl⟩) de_int)
        (de_ixT (d := .int (if n / 64 % 2 = 0 then 4 else 9)) (de_tup (ds := [.int 4, .int 9]) (da_2 de_int de_int) (sz 2)) (de_mod (by decide) (de_fdiv (by decide) (de_var 0) de_int) de_int) ?_))) rfl) ?_
      · have : n / 64 % 2 = 0 ∨ n / 64 % 2 = 1 := by omega
        rcases this with z | z
        · rw [z]; rfl
        · rw [z]; rfl
      refine dss_seq (M := fun r1 => r1 = [.val (.int n), .val (.tuple (((timed n).take i).map hD)), .val (.int (0 + (i : Int))), .val (.int (drawn n (50 + i))), .val (.tuple (((heatOf n i).take j).map tP)), .val (.int (0 + (j : Int))), .val (oI (tmOf n (drawn n (50 + i)) j))])
        (ds_if (dt_eqP hr.units (by simp [PyData.depth]) (de_mod (by decide) (de_fdiv (by decide) (dc D_u_law_drawn (ok_u_law_drawn hb D_u_law_drawn) hr (by decide) (da_2 (de_var 3) (de_add de_int (de_var 5))) ⟨drawn n (50 + i), 10 + j, by simp, rfl⟩) de_int) de_int) de_int) (fun hk => ?_) (fun hk => ?_)) ?_
      · rw [eqv_int] at hk
        refine dss_one (ds_set 6 sc_u_law_timed.nd de_non ?_)
        unfold tmOf
        rw [if_pos (of_decide_eq_true hk)]
        rfl
      · rw [eqv_int] at hk
        refine dss_nil ?_
        unfold tmOf
        rw [if_neg (of_decide_eq_false hk)]
        rfl
      · rintro r1 rfl
        refine dss_one (ds_set 4 sc_u_law_timed.nd (de_catT ?_ (de_var 4) (de_tup (ds := [tP (6 * (j : Int) + (i : Int), tmOf n (drawn n (50 + i)) j)]) (da_1 ((de_tup (ds := [.int (6 * (0 + (j : Int)) + (0 + (i : Int))), oI (tmOf n (drawn n (50 + i)) j)]) (da_2 (de_add (de_mul (mulL (by decide) (by decide)) de_int (de_var 5)) (de_var 2)) (de_var 6)) (sz 2)).is ?_)) (sz 1))) ?_)
        · exact size_ok (by simp only [List.length_singleton]; omega)
        · simp [tP]
        · exact ⟨_, _, by rw [e1]; rfl⟩
    · rintro r1 ⟨z4, z5, rfl⟩
      have e2 : (heatOf n i).take (rangeD 0 (1 + drawn n (50 + i) / 16 % 5).toNat).length = heatOf n i := by
        rw [rangeD_length]
        refine List.take_of_length_le ?_
        unfold heatOf
        rw [List.length_map, List.length_range]
        exact Nat.le_refl _
      have e3 : ((timed n).take (i + 1)).map hD = ((timed n).take i).map hD ++ [hD (heatOf n i)] := by
        unfold timed
        rw [range_take _ hi, List.map_append]
        rfl
      rw [e2]
      refine dss_one (ds_set 1 sc_u_law_timed.nd (de_catT ?_ (de_var 1) (de_tup (ds := [hD (heatOf n i)]) (da_1 (de_var 4)) (sz 1))) ⟨_, _, _, _, _, by rw [e3]; rfl⟩)
      have := (timed_good n).len
      rw [List.length_map, List.length_take, List.length_singleton]
      exact size_ok (by omega)
  · rintro r1 ⟨z1, z2, z3, z4, z5, rfl⟩
    have e2 : (timed n).take (rangeD 0 (1 + n / 16 % 4).toNat).length = timed n := by
      rw [rangeD_length]
      refine List.take_of_length_le ?_
      unfold timed
      rw [List.length_map, List.length_range]
      exact Nat.le_refl _
    rw [e2]
    exact dss_one (ds_ret (de_var 1) rfl)
end
end Wk

namespace Wk
open PySem L2 PySem.W PyProof.Rows Dl Lw Tm K41 K42
section
variable {P : Program} {w : World} {K : PySem.W.Frag} {mg : Str → Option Value} {base : Heap}
theorem ds_no {X : Cx} {E : XK} {r : Rho} {c : Expr} {pos : Pos} {Po : Post} {k : Bool} {as : List Stmt} (h : DT X r c k) (e : k = false) (hp : Po.nx r) : DS X E r (.If c as [] pos) Po := ds_if h (fun z => by rw [e] at z; cases z) (fun _ => dss_nil hp)
theorem good_small {hs : List (List Pair)} (G : GoodHs hs) : SmallHs hs := ⟨by have := G.len; omega, fun h m => by have := G.each h m; omega⟩
theorem rev_small {hs : List (List Pair)} (G : SmallHs hs) : SmallHs hs.reverse := ⟨by rw [List.length_reverse]; exact G.1, fun h m => G.2 h (List.mem_reverse.mp m)⟩
theorem fast_small {hs : List (List Pair)} (G : SmallHs hs) (x : Int) : SmallHs (fastHs x hs) := ⟨by unfold fastHs; rw [List.length_map]; exact G.1, fun h m => by
  obtain ⟨y, hy, rfl⟩ := List.mem_map.mp m
  unfold fastH
  rw [List.length_map]; exact G.2 y hy⟩
theorem tI_dep (ns : List Int) : (tI ns).depth ≤ 60 := by
  have := dep_tup (n := 0) (ds := ns.map .int) (dep_map fun _ _ => by simp [PyData.depth])
  unfold tI
  omega
theorem lI_dep (ns : List Int) : (PyData.list (ns.map .int)).depth ≤ 60 := by
  have := dep_lst (n := 0) (ds := ns.map .int) (dep_map fun _ _ => by simp [PyData.depth])
  omega
theorem eqv_tI (a b : List Int) : PyData.eqv (tI a) (tI b) = decide (a = b) := eqv_tup eqRep_int a b
theorem eqv_lI (a b : List Int) : PyData.eqv (.list (a.map .int)) (.list (b.map .int)) = decide (a = b) := eqv_lst eqRep_int a b
theorem eqv_l0 (a : List Int) : PyData.eqv (.list (a.map .int)) (.list []) = decide (a = []) := eqv_lst eqRep_int a []
theorem eqv_t0 (a : List Int) : PyData.eqv (tI a) (.tuple []) = decide (a = []) := eqv_tup eqRep_int a []
theorem take_map_at {α β : Type} (f : α → β) {xs : List α} {i : Nat} {x : α} (h : xs[i]? = some x) : ((xs.map f).take (i + 1)) = (xs.map f).take i ++ [f x] := take_snoc (by rw [List.getElem?_map, h]; rfl)
theorem no_left {a b : List Int} (h : ∀ x ∈ a, x ∈ b) : (a.filter fun x => !b.any fun z => decide (z = x)) = [] := by
  rw [List.filter_eq_nil_iff]
  intro x hx
  rw [any_mem, decide_eq_true (h x hx)]
  decide
theorem came_len {hs : List (List Pair)} (G : GoodHs hs) (i : Nat) : (allCame (hs.take i)).length ≤ 400 := by
  have := flatMap_take_len (m := 4) (n := 5) (f := cameIn) G.len.2 (fun h m => Nat.le_trans (cameIn_len h) (G.each h m).2) i
  unfold allCame
  omega
theorem row_len {h : List Pair} {row : List Int} (hr : row ∈ Tm.placed h) : row.length ≤ h.length := by
  unfold Tm.placed at hr
  obtain ⟨u, _, rfl⟩ := List.mem_map.mp hr
  rw [List.length_map]
  exact List.length_filter_le _ _
theorem placed_len (h : List Pair) : (Tm.placed h).length ≤ h.length := by
  unfold Tm.placed
  rw [List.length_map]
  refine Nat.le_trans (risen_len _) ?_
  rw [List.length_map]
  exact cameIn_len h
theorem flat_len {h : List Pair} (hl : h.length ≤ 5) (j : Nat) : (((Tm.placed h).take j).flatten).length ≤ 25 := by
  have := flatMap_take_len (m := 5) (n := 5) (f := fun r : List Int => r) (xs := Tm.placed h) (Nat.le_trans (placed_len h) hl) (fun r hr => Nat.le_trans (row_len hr) hl) j
  rw [List.flatten_eq_flatMap]
  exact this
def R_more : Rho → PyData → Prop := fun as d => ∃ (hs : List (List Pair)) (k t : Int), as = [.val (hsD hs), .val (.int k), .val (.int t), .val (tI (goingOn hs k t))] ∧ GoodHs hs ∧ d = .bool true
theorem ok_u_law_goes_on_with_more (hb : Blt mg) (D_u_law_goes_on_with_more : Dfn K mg "_law_goes_on_with_more" s_u_law_goes_on_with_more ["some", "by_place", "by_time", "gone"]) (D_going_on : Dfn K mg "going_on" s_going_on ["heats", "by_place", "by_time"]) (D_runners : Dfn K mg "runners" s_runners ["some"]) (D_by_times : Dfn K mg "by_times" s_by_times ["heats", "by_place", "by_time"]) (D_by_places : Dfn K mg "by_places" s_by_places ["heats", "by_place"]) (D_first_ones : Dfn K mg "first_ones" s_first_ones ["some", "most"]) (D_came_in : Dfn K mg "came_in" s_came_in ["heat"]) : D_u_law_goes_on_with_more.Ok P w base 5 R_more := by
  refine okD D_u_law_goes_on_with_more.F sc_u_law_goes_on_with_more (by rintro _ _ ⟨_, _, _, rfl, _, rfl⟩; rfl) (by decide) (fun cdv A outer s H E hr as d hR => ?_)
  obtain ⟨hs, k, t, rfl, G, rfl⟩ := hR
  have hS := good_small G
  refine dss_cons (ds_set 4 sc_u_law_goes_on_with_more.nd (dc D_going_on (ok_going_on hb D_going_on D_runners D_by_times D_by_places D_first_ones D_came_in) hr (by decide) (da_3 (de_var 0) (de_var 1) (de_add (de_var 2) de_int)) ⟨hs, k, t + 1, rfl, hS, rfl⟩) rfl) ?_
  refine dss_cons (ds_set 5 sc_u_law_goes_on_with_more.nd (dc D_going_on (ok_going_on hb D_going_on D_runners D_by_times D_by_places D_first_ones D_came_in) hr (by decide) (da_3 (de_var 0) (de_add (de_var 1) de_int) de_int) ⟨hs, k + 1, 0, rfl, hS, rfl⟩) rfl) ?_
  refine dss_cons (ds_no (DW.dt (dw_and (dt_eqP hr.units (by simp [PyData.depth]) (de_var 2) de_int) (fun _ => dw_and1 (dt_neP hr.units (Nat.le_trans (Nat.min_le_right _ _) (by decide)) (DN.de (dn_lc (xs := goingOn hs k t) (rep := .int) (q := fun x => !(goingOn hs (k + 1) 0).any fun z => decide (z = x)) (g := .int) [("runner", 6)] [6] rfl sc_u_law_goes_on_with_more.nd (blkOk_by rfl) (di_tup (de_var 3))
    (fun x _ => ⟨_, ⟨fun _ _ _ _ _ => dg_name 6 sc_u_law_goes_on_with_more.nd, fun _ _ _ _ _ => dts_one (DT.is (dt_ni hr.units (de_var 6) (de_var 5) rfl (by simp [PyData.depth])) (by rw [any_map_eqv eqRep_int])), fun _ _ _ _ _ _ => (de_var 6)⟩⟩))) (DN.de (dn_lst (ds := []) da_nil (Nat.zero_le _))))))) ?_ rfl) ?_
  · rw [eqv_int, eqv_l0]
    by_cases c : t = 0
    · subst c
      rw [no_left fun x hx => m8w G k hx]
      simp
    · rw [decide_eq_false c]
      rfl
  refine dss_one (ds_ret (DE.is (de_eqP hr.units (Nat.le_trans (Nat.min_le_right _ _) (by decide)) (DN.de (dn_lc (xs := goingOn hs k t) (rep := .int) (q := fun x => !(goingOn hs k (t + 1)).any fun z => decide (z = x)) (g := .int) [("runner", 6)] [6] rfl sc_u_law_goes_on_with_more.nd (blkOk_by rfl) (di_tup (de_var 3))
    (fun x _ => ⟨_, ⟨fun _ _ _ _ _ => dg_name 6 sc_u_law_goes_on_with_more.nd, fun _ _ _ _ _ => dts_one (DT.is (dt_ni hr.units (de_var 6) (de_var 4) rfl (by simp [PyData.depth])) (by rw [any_map_eqv eqRep_int])), fun _ _ _ _ _ _ => (de_var 6)⟩⟩))) (DN.de (dn_lst (ds := []) da_nil (Nat.zero_le _)))) ?_) rfl)
  rw [eqv_l0, no_left fun x hx => m8 G k t hx]
  simp
def R_faster : Rho → PyData → Prop := fun as d => ∃ (hs : List (List Pair)) (k t nu : Int), as = [.val (hsD hs), .val (.int k), .val (.int t), .val (tI (goingOn hs k t)), .val (.int nu)] ∧ GoodHs hs ∧ 0 ≤ k ∧ 0 ≤ t ∧ d = .bool true
theorem ok_u_law_faster_right (hb : Blt mg) (D_u_law_faster_right : Dfn K mg "_law_faster_right" s_u_law_faster_right ["some", "by_place", "by_time", "gone", "number"]) (D_going_on : Dfn K mg "going_on" s_going_on ["heats", "by_place", "by_time"]) (D_runners : Dfn K mg "runners" s_runners ["some"]) (D_by_times : Dfn K mg "by_times" s_by_times ["heats", "by_place", "by_time"]) (D_by_places : Dfn K mg "by_places" s_by_places ["heats", "by_place"]) (D_first_ones : Dfn K mg "first_ones" s_first_ones ["some", "most"]) (D_came_in : Dfn K mg "came_in" s_came_in ["heat"]) : D_u_law_faster_right.Ok P w base 5 R_faster := by
  refine okD D_u_law_faster_right.F sc_u_law_faster_right (by rintro _ _ ⟨_, _, _, _, rfl, _, _, _, rfl⟩; rfl) (by decide) (fun cdv A outer s H E hr as d hR => ?_)
  obtain ⟨hs, k, t, nu, rfl, G, hk0, ht0, rfl⟩ := hR
  have hS := good_small G
  have hl4 := G.len
  obtain ⟨g, eg⟩ : ∃ g, g = goingOn hs k t := ⟨_, rfl⟩
  rw [← eg]
  refine dss_st [.val (hsD hs), .val (.int k), .val (.int t), .val (tI g), .val (.int nu), .un, .un, .un, .un, .un, .un] (ds_if (dt_neP hr.units (Nat.le_trans (Nat.min_le_right _ _) (by decide)) (de_var 3) (de_tup (ds := []) da_nil (Nat.zero_le _))) (fun hk => ?_) (fun _ => dss_nil (by repeat (first | exact Forg.nil | apply Forg.cons0 | apply Forg.cons1)))) (dss_one (ds_ret de_bl rfl))
  rw [eqv_t0] at hk
  have hg : 0 < g.length := by
    cases g with
    | nil => simp at hk
    | cons a l => simp
  have hb0 := mod_bounds (nu / 512) (show (0 : Int) < (g.length : Int) by omega)
  have hlt : (nu / 512 % (g.length : Int)).toNat < g.length := by omega
  obtain ⟨x, ex⟩ : ∃ x, x = g[(nu / 512 % (g.length : Int)).toNat] := ⟨_, rfl⟩
  have hx : x ∈ goingOn hs k t := by
    rw [ex, ← eg]
    exact List.getElem_mem hlt
  obtain ⟨fs, efs⟩ : ∃ fs, fs = fastHs x hs := ⟨_, rfl⟩
  have lfs : fs.length = hs.length := by rw [efs]; exact List.length_map ..
  have hF : SmallHs fs := efs ▸ fast_small hS x
  refine dss_cons (ds_set 5 sc_u_law_faster_right.nd (d := .int x) (de_ixT (de_var 3) (de_mod (show (0 : Int) < ((g.map PyData.int).length : Int) by rw [List.length_map]; omega) (de_fdiv (by decide) (de_var 4) de_int) (de_len hb.len (de_var 3) rfl)) ?_) rfl) ?_
  · rw [List.length_map]
    refine atI_of hb0.1 ?_
    rw [List.getElem?_map, List.getElem?_eq_getElem hlt, ← ex]
    rfl
  refine dss_cons (ds_set 6 sc_u_law_faster_right.nd (de_tup (ds := []) da_nil (Nat.zero_le _)) rfl) ?_
  refine dss_cons (ds_forT (fun i => [.val (hsD hs), .val (.int k), .val (.int t), .val (tI g), .val (.int nu), .val (.int x), .val (.tuple ((fs.take i).map hD)), .un, .un, .un, .un]) PassesOwn.never rfl (by repeat (first | exact Forg.nil | apply Forg.cons0 | apply Forg.cons1)) (di_tup (de_var 0)) (fun i d hd => ?_) rfl) ?_
  · obtain ⟨h, hh, rfl⟩ := map_at hd
    have e1 : (fs.take (i + 1)).map hD = (fs.take i).map hD ++ [hD (fastH x h)] := by
      rw [efs]
      unfold fastHs
      rw [take_map_at _ hh, List.map_append]
      rfl
    refine ⟨_, _, dg_name 7 sc_u_law_faster_right.nd, ?_⟩
    refine dss_cons (ds_setLc 8 (xs := h) (rep := tP) (q := fun _ => true) (g := fun p => tP (fastP x p)) [("one", 9), ("time", 10)] [9, 10] rfl sc_u_law_faster_right.nd (blkOk_by rfl) (di_tup (de_var 7))
      (fun p hp => ⟨_, ⟨fun _ _ _ _ _ => dg_tup rfl (dgs_cons (dg_name 9 sc_u_law_faster_right.nd) (dgs_cons (dg_name 10 sc_u_law_faster_right.nd) dgs_nil)), fun _ _ _ _ _ => dts_nil, fun _ _ _ _ _ _ => de_tup (ds := [.int p.1, oI (if p.1 = x then some 1 else p.2)]) (da_2 (de_var 9) (de_ixL (DN.de (dn_lst (ds := [oI p.2, .int 1]) (da_2 (de_var 10) de_int) (sz 2))) (de_intB hb.int (de_eqP (d1 := .int p.1) (d2 := .int x) hr.units (by simp [PyData.depth]) (de_var 9) (de_var 5))) ?_)) (sz 2)⟩⟩) rfl (sw_true rfl rfl rfl (by decide +kernel))) ?_
    · rw [eqv_int]
      by_cases c : p.1 = x
      · rw [decide_eq_true c, if_pos c]; rfl
      · rw [decide_eq_false c, if_neg c]; rfl
    rw [filter_true]
    refine dss_freeze 8 rfl ?_
    refine dss_one (ds_set 6 sc_u_law_faster_right.nd (de_catT ?_ (de_var 6) (de_tup (ds := [hD (fastH x h)]) (da_1 (DE.is (de_tuple hb.tuple (de_var 8) rfl) (by unfold hD fastH; rw [List.map_map]; rfl))) (sz 1))) (by show Forg _ _; rw [e1]; exact (by repeat (first | exact Forg.nil | apply Forg.cons0 | apply Forg.cons1))))
    rw [List.length_map, List.length_take, List.length_singleton]
    exact size_ok (by omega)
  rw [show (hs.map hD).length = fs.length by rw [List.length_map, lfs], take_all]
  refine dss_one (ds_no (DW.dt (dw_and (dt_gt (de_add (de_var 1) (de_var 2)) de_int) (fun _ => dw_and1 (dt_ni hr.units (de_var 5) (dc D_going_on (ok_going_on hb D_going_on D_runners D_by_times D_by_places D_first_ones D_came_in) hr (by decide) (da_3 (de_var 6) (de_var 1) (de_var 2)) ⟨fs, k, t, rfl, hF, rfl⟩) rfl (by simp [PyData.depth]))))) ?_ (by repeat (first | exact Forg.nil | apply Forg.cons0 | apply Forg.cons1)))
  rw [any_map_eqv eqRep_int, any_mem]
  by_cases c : 0 < k + t
  · rw [efs, decide_eq_true (m11 G k t hk0 ht0 hx c)]
    simp
  · rw [decide_eq_false c]
    rfl
set_option maxHeartbeats 4000000 in
theorem ok_law (hb : Blt mg) (D_law : Dfn K mg "law" s_law ["script"]) (D_u_law_mixed : Dfn K mg "_law_mixed" s_u_law_mixed ["script", "k"]) (D_u_law_cell_at : Dfn K mg "_law_cell_at" s_u_law_cell_at ["script", "k"]) (D_u_law_timed : Dfn K mg "_law_timed" s_u_law_timed ["number"]) (D_u_law_drawn : Dfn K mg "_law_drawn" s_u_law_drawn ["number", "k"]) (D_placed : Dfn K mg "placed" s_placed ["heat"]) (D_came_in : Dfn K mg "came_in" s_came_in ["heat"]) (D_going_on : Dfn K mg "going_on" s_going_on ["heats", "by_place", "by_time"]) (D_runners : Dfn K mg "runners" s_runners ["some"]) (D_by_times : Dfn K mg "by_times" s_by_times ["heats", "by_place", "by_time"]) (D_by_places : Dfn K mg "by_places" s_by_places ["heats", "by_place"]) (D_first_ones : Dfn K mg "first_ones" s_first_ones ["some", "most"]) (D_beaten : Dfn K mg "beaten" s_beaten ["heats", "by_place", "by_time"]) (D_lucky : Dfn K mg "lucky" s_lucky ["heats", "by_place", "by_time"]) (D_u_law_goes_on_with_more : Dfn K mg "_law_goes_on_with_more" s_u_law_goes_on_with_more ["some", "by_place", "by_time", "gone"]) (D_u_law_faster_right : Dfn K mg "_law_faster_right" s_u_law_faster_right ["some", "by_place", "by_time", "gone", "number"]) : D_law.Ok P w base 7 R_true := by
  refine okD D_law.F sc_law (by rintro _ _ ⟨_, rfl, _, rfl⟩; rfl) (by decide) (fun cdv A outer s H E hr as d hR => ?_)
  obtain ⟨ns, rfl, hlen, rfl⟩ := hR
  obtain ⟨hs, ehs⟩ : ∃ hs, hs = timed (mixed ns 0) := ⟨_, rfl⟩
  obtain ⟨nu, enu⟩ : ∃ nu, nu = mixed ns 1 := ⟨_, rfl⟩
  have G : GoodHs hs := ehs ▸ timed_good _
  have hS := good_small G
  have hl4 := G.len
  obtain ⟨k, ek⟩ : ∃ k, k = nu / 16 % 4 := ⟨_, rfl⟩
  obtain ⟨t, et⟩ : ∃ t, t = nu / 64 % 5 := ⟨_, rfl⟩
  have hk0 : 0 ≤ k := ek ▸ (mod_bounds (nu / 16) (show (0 : Int) < 4 by decide)).1
  have ht0 : 0 ≤ t := et ▸ (mod_bounds (nu / 64) (show (0 : Int) < 5 by decide)).1
  obtain ⟨go, ego⟩ : ∃ go, go = goingOn hs k t := ⟨_, rfl⟩
  obtain ⟨ou, eou⟩ : ∃ ou, ou = beaten hs k t := ⟨_, rfl⟩
  obtain ⟨lu, elu⟩ : ∃ lu, lu = lucky hs k t := ⟨_, rfl⟩
  refine dss_cons (ds_set 1 sc_law.nd (d := hsD hs) (dc D_u_law_timed (ok_u_law_timed hb D_u_law_timed D_u_law_drawn) hr (by decide) (da_1 (dc D_u_law_mixed (ok_u_law_mixed hb D_u_law_mixed D_u_law_cell_at) hr (by decide) (da_cons (dar_scr 0) (da_1 de_int)) ⟨ns, 0, rfl, rfl⟩)) ⟨_, rfl, by rw [ehs]⟩) rfl) ?_
  refine dss_cons (ds_set 2 sc_law.nd (d := .int nu) (dc D_u_law_mixed (ok_u_law_mixed hb D_u_law_mixed D_u_law_cell_at) hr (by decide) (da_cons (dar_scr 0) (da_1 de_int)) ⟨ns, 1, rfl, by rw [enu]⟩) rfl) ?_
  refine dss_cons (ds_set 3 sc_law.nd (d := .int k) (DE.is (de_mod (by decide) (de_fdiv (by decide) (de_var 2) de_int) de_int) (by rw [ek])) rfl) ?_
  refine dss_cons (ds_set 4 sc_law.nd (d := .int t) (DE.is (de_mod (by decide) (de_fdiv (by decide) (de_var 2) de_int) de_int) (by rw [et])) rfl) ?_
  refine dss_cons (ds_set 5 sc_law.nd (d := tI go) (dc D_going_on (ok_going_on hb D_going_on D_runners D_by_times D_by_places D_first_ones D_came_in) hr (by decide) (da_3 (de_var 1) (de_var 3) (de_var 4)) ⟨hs, k, t, rfl, hS, by rw [ego]⟩) rfl) ?_
  refine dss_cons (ds_set 6 sc_law.nd (d := tI ou) (dc D_beaten (ok_beaten hb D_beaten D_going_on D_runners D_by_times D_by_places D_first_ones D_came_in) hr (by decide) (da_3 (de_var 1) (de_var 3) (de_var 4)) ⟨hs, k, t, rfl, hS, by rw [eou]⟩) rfl) ?_
  refine dss_cons (ds_set 7 sc_law.nd (d := tI lu) (dc D_lucky (ok_lucky hb D_lucky D_runners D_by_times D_by_places D_first_ones D_came_in) hr (by decide) (da_3 (de_var 1) (de_var 3) (de_var 4)) ⟨hs, k, t, rfl, hS, by rw [elu]⟩) rfl) ?_
  refine dss_cons (ds_setN 8 sc_law.nd (dn_lst (ds := []) da_nil (Nat.zero_le _)) rfl) (dss_freeze 8 rfl ?_)
  refine dss_cons (ds_forT (fun i => [.scr ns, .val (hsD hs), .val (.int nu), .val (.int k), .val (.int t), .val (tI go), .val (tI ou), .val (tI lu), .val (.list (((allCame (hs.take i)).map (·.1)).map .int)), .un, .un, .un, .un, .un, .un]) PassesOwn.never rfl (by repeat (first | exact Forg.nil | apply Forg.cons0 | apply Forg.cons1)) (di_tup (de_var 1)) (fun i d hd => ?_) rfl) ?_
  · obtain ⟨h, hh, rfl⟩ := map_at hd
    have hm := at_mem hh
    have hl5 := G.each h hm
    obtain ⟨he, ehe⟩ : ∃ he, he = (cameIn h).map (·.1) := ⟨_, rfl⟩
    have e1 : ((allCame (hs.take (i + 1))).map (·.1)).map PyData.int = ((allCame (hs.take i)).map (·.1)).map .int ++ he.map .int := by
      rw [ehe]
      unfold allCame
      rw [flatMap_snoc _ hh, List.map_append, List.map_append]
    have lhe : he.length ≤ 5 := by rw [ehe, List.length_map]; exact Nat.le_trans (cameIn_len h) hl5.2
    refine ⟨_, _, dg_name 9 sc_law.nd, ?_⟩
    refine dss_cons (ds_setLc 10 (xs := h) (rep := tP) (q := fun p => p.2.isSome) (g := fun p => .int p.1) [("runner", 11), ("time", 12)] [11, 12] rfl sc_law.nd (blkOk_by rfl) (di_tup (de_var 9))
      (fun p hp => ⟨_, ⟨fun _ _ _ _ _ => dg_tup rfl (dgs_cons (dg_name 11 sc_law.nd) (dgs_cons (dg_name 12 sc_law.nd) dgs_nil)), fun _ _ _ _ _ => dts_one (DT.is (dt_notN (de_var 12)) (by cases p.2 <;> rfl)), fun _ _ _ _ _ _ => (de_var 11)⟩⟩) rfl (sw_true rfl rfl rfl (by decide +kernel))) ?_
    rw [show (h.filter fun p => p.2.isSome).map (fun p => PyData.int p.1) = he.map .int by rw [ehe, cameIn_map1, List.map_map]; rfl]
    refine dss_freeze 10 rfl ?_
    refine dss_cons (ds_set 8 sc_law.nd (d := .list (((allCame (hs.take (i + 1))).map (·.1)).map .int)) (DE.is (DN.de (dn_cat ?_ (de_var 8) (de_var 10))) (by rw [e1])) rfl) ?_
    · rw [List.length_map, List.length_map, List.length_map]
      have := came_len G i
      exact size_ok (by omega)
    refine dss_cons (ds_set 13 sc_law.nd (de_tup (ds := []) da_nil (Nat.zero_le _)) rfl) ?_
    refine dss_cons (ds_forT (fun j => [.scr ns, .val (hsD hs), .val (.int nu), .val (.int k), .val (.int t), .val (tI go), .val (tI ou), .val (tI lu), .val (.list (((allCame (hs.take (i + 1))).map (·.1)).map .int)), .val (hD h), .val (.list (he.map .int)), .un, .un, .val (tI ((Tm.placed h).take j).flatten), .un]) PassesOwn.never rfl (by repeat (first | exact Forg.nil | apply Forg.cons0 | apply Forg.cons1)) (di_tup (dc D_placed (ok_placed hb D_placed D_came_in) hr (by decide) (da_1 (de_var 9)) ⟨h, rfl, by omega, rfl⟩)) (fun j d hd => ?_) rfl) ?_
    · obtain ⟨row, hrow, rfl⟩ := map_at hd
      have e2 : ((Tm.placed h).take (j + 1)).flatten = ((Tm.placed h).take j).flatten ++ row := by
        rw [take_snoc hrow, List.flatten_append]
        simp
      refine ⟨_, _, dg_name 14 sc_law.nd, dss_one (ds_set 13 sc_law.nd (d := tI ((Tm.placed h).take (j + 1)).flatten) (DE.is (de_catT ?_ (de_var 13) (de_var 14)) (by rw [e2]; unfold tI; rw [List.map_append])) (by repeat (first | exact Forg.nil | apply Forg.cons0 | apply Forg.cons1)))⟩
      rw [List.length_map, List.length_map]
      have := flat_len hl5.2 j
      have := row_len (at_mem hrow)
      exact size_ok (by omega)
    rw [show (Tm.placed h).take ((Tm.placed h).map tI).length = Tm.placed h by rw [List.length_map, take_all]]
    refine dss_cons (ds_no (dt_neP hr.units (Nat.le_trans (Nat.min_le_left _ _) (lI_dep _)) (DN.de (dn_sortI (ns := (Tm.placed h).flatten) hr.units hb.sorted (de_var 13) rfl)) (DN.de (dn_sortI (ns := he) hr.units hb.sorted (de_var 10) rfl))) ?_ rfl) ?_
    · rw [eqv_lI, m1, ehe]
      simp
    refine dss_cons (ds_no (dt_lt (de_len hb.len (DN.de (dn_lc (xs := he) (rep := .int) (q := fun x => go.any fun z => decide (z = x)) (g := .int) [("runner", 11)] [11] rfl sc_law.nd (blkOk_by rfl) (di_list (de_var 10))
      (fun x _ => ⟨_, ⟨fun _ _ _ _ _ => dg_name 11 sc_law.nd, fun _ _ _ _ _ => dts_one (DT.is (dt_in hr.units (de_var 11) (de_var 5) rfl (by simp [PyData.depth])) (by rw [any_map_eqv eqRep_int])), fun _ _ _ _ _ _ => (de_var 11)⟩⟩))) rfl) (de_min2 rfl hb.min (de_var 3) (de_len hb.len (de_var 10) rfl))) ?_ rfl) ?_
    · have := m2 G k t hm
      rw [← ehe, ← ego] at this
      rw [List.length_map, List.length_map]
      exact decide_eq_false (by omega)
    refine dss_one (ds_forT (fun j => [.scr ns, .val (hsD hs), .val (.int nu), .val (.int k), .val (.int t), .val (tI go), .val (tI ou), .val (tI lu), .val (.list (((allCame (hs.take (i + 1))).map (·.1)).map .int)), .val (hD h), .un, .un, .un, .un, .un]) PassesOwn.never rfl (by repeat (first | exact Forg.nil | apply Forg.cons0 | apply Forg.cons1)) (di_tup (dc D_placed (ok_placed hb D_placed D_came_in) hr (by decide) (da_1 (de_var 9)) ⟨h, rfl, by omega, rfl⟩)) (fun j d hd => ?_) (by repeat (first | exact Forg.nil | apply Forg.cons0 | apply Forg.cons1)))
    obtain ⟨row, hrow, rfl⟩ := map_at hd
    have hrm := at_mem hrow
    have lr := row_len hrm
    have c3 := m3 G k t hm hrm
    rw [← ego, ← elu] at c3
    refine ⟨_, _, dg_name 14 sc_law.nd, dss_one (ds_no (DW.dt (dw_or (dt_gt (de_lenSetB hb.len (dsb_set (bs := row.map fun x => go.any fun z => decide (z = x)) rfl hb.set (DE.is (DN.de (dn_lc1 (xs := row) (rep := .int) (g := fun x => .bool (go.any fun z => decide (z = x))) [("runner", 11)] [11] rfl sc_law.nd (blkOk_by rfl) (di_tup (de_var 14))
      (fun x _ => ⟨_, ⟨fun _ _ _ _ _ => dg_name 11 sc_law.nd, fun _ _ _ _ _ => dts_nil, fun _ _ _ _ _ _ => DE.is (de_in hr.units (de_var 11) (de_var 5) rfl (by simp [PyData.depth])) (by rw [any_map_eqv eqRep_int])⟩⟩))) (by rw [List.map_map]; rfl)) (by rw [List.length_map]; omega))) de_int)
      (fun _ => dw_or1 (dt_gt (de_lenSetB hb.len (dsb_set (bs := row.map fun x => lu.any fun z => decide (z = x)) rfl hb.set (DE.is (DN.de (dn_lc1 (xs := row) (rep := .int) (g := fun x => .bool (lu.any fun z => decide (z = x))) [("runner", 11)] [11] rfl sc_law.nd (blkOk_by rfl) (di_tup (de_var 14))
      (fun x _ => ⟨_, ⟨fun _ _ _ _ _ => dg_name 11 sc_law.nd, fun _ _ _ _ _ => dts_nil, fun _ _ _ _ _ _ => DE.is (de_in hr.units (de_var 11) (de_var 7) rfl (by simp [PyData.depth])) (by rw [any_map_eqv eqRep_int])⟩⟩))) (by rw [List.map_map]; rfl)) (by rw [List.length_map]; omega))) de_int)))) ?_ (by repeat (first | exact Forg.nil | apply Forg.cons0 | apply Forg.cons1)))⟩
    rw [decide_eq_false (by omega), decide_eq_false (by omega)]
    rfl
  rw [show (hs.map hD).length = hs.length from List.length_map .., take_all]
  obtain ⟨ca, eca⟩ : ∃ ca, ca = (allCame hs).map (·.1) := ⟨_, rfl⟩
  rw [← eca]
  have tot : go.length + ou.length ≤ 400 := by
    have h1 := (all_perm G k t).length_eq
    have h2 := came_len G hs.length
    rw [take_all] at h2
    rw [List.length_append, List.length_map] at h1
    rw [ego, eou]
    omega
  refine dss_cons (ds_no (DW.dt (dw_or (dt_neP hr.units (Nat.le_trans (Nat.min_le_left _ _) (lI_dep _)) (DN.de (dn_sortI (ns := go ++ ou) hr.units hb.sorted (de_catT ?_ (de_var 5) (de_var 6)) (by show some _ = some _; rw [List.map_append]))) (DN.de (dn_sortI (ns := ca) hr.units hb.sorted (de_var 8) rfl)))
    (fun _ => dw_or1 (dt_neP hr.units (Nat.le_trans (Nat.min_le_right _ _) (by decide)) (DN.de (dn_lc (xs := lu) (rep := .int) (q := fun x => !go.any fun z => decide (z = x)) (g := .int) [("runner", 11)] [11] rfl sc_law.nd (blkOk_by rfl) (di_tup (de_var 7))
      (fun x _ => ⟨_, ⟨fun _ _ _ _ _ => dg_name 11 sc_law.nd, fun _ _ _ _ _ => dts_one (DT.is (dt_ni hr.units (de_var 11) (de_var 5) rfl (by simp [PyData.depth])) (by rw [any_map_eqv eqRep_int])), fun _ _ _ _ _ _ => (de_var 11)⟩⟩))) (DN.de (dn_lst (ds := []) da_nil (Nat.zero_le _))))))) ?_ rfl) ?_
  · rw [List.length_map, List.length_map]
    exact size_ok (by omega)
  · rw [eqv_lI, eqv_l0, ego, eou, elu, m4 G k t, ← eca, no_left fun x hx => luck_going hx]
    simp
  refine dss_cons (ds_no (DW.dt (dw_or (dt_lt (de_len hb.len (de_var 7) rfl) (de_min2 rfl hb.min (de_var 4) (de_add (de_len hb.len (de_var 7) rfl) (de_len hb.len (de_var 6) rfl))))
    (fun _ => dw_or1 (DW.dt (dw_and (dt_eqP hr.units (by simp [PyData.depth]) (de_var 4) de_int) (fun _ => dw_and1 (dt_neP hr.units (Nat.le_trans (Nat.min_le_right _ _) (by decide)) (de_var 7) (de_tup (ds := []) da_nil (Nat.zero_le _))))))))) ?_ rfl) ?_
  · have := m6 G k t
    rw [← elu, ← eou] at this
    rw [eqv_int, eqv_t0, List.length_map, List.length_map, decide_eq_false (by omega)]
    by_cases c : t = 0
    · have : lu = [] := by rw [elu, c, m7]
      rw [this]
      simp
    · rw [decide_eq_false c]
      rfl
  refine dss_cons (ds_no (dt_not (dt_val (dc D_u_law_goes_on_with_more (ok_u_law_goes_on_with_more hb D_u_law_goes_on_with_more D_going_on D_runners D_by_times D_by_places D_first_ones D_came_in) hr (by decide) (da_cons (DE.arg (de_var 1)) (da_3 (de_var 3) (de_var 4) (de_var 5))) ⟨hs, k, t, by rw [← ego], G, rfl⟩))) rfl rfl) ?_
  refine dss_cons (ds_no (DW.dt (dw_or (dt_neP hr.units (Nat.le_trans (Nat.min_le_left _ _) (tI_dep _)) (dc D_going_on (ok_going_on hb D_going_on D_runners D_by_times D_by_places D_first_ones D_came_in) hr (by decide) (da_3 (DE.is (d := hsD hs.reverse) (de_revT (de_var 1)) (by unfold hsD; rw [List.map_reverse])) (de_var 3) (de_var 4)) ⟨hs.reverse, k, t, rfl, rev_small hS, rfl⟩) (de_var 5))
    (fun _ => dw_or1 (dt_neP hr.units (Nat.le_trans (Nat.min_le_left _ _) (tI_dep _)) (dc D_lucky (ok_lucky hb D_lucky D_runners D_by_times D_by_places D_first_ones D_came_in) hr (by decide) (da_3 (DE.is (d := hsD hs.reverse) (de_revT (de_var 1)) (by unfold hsD; rw [List.map_reverse])) (de_var 3) (de_var 4)) ⟨hs.reverse, k, t, rfl, rev_small hS, rfl⟩) (de_var 7))))) ?_ rfl) ?_
  · rw [eqv_tI, eqv_tI, (m9 (List.reverse_perm hs) k t).1, (m9 (List.reverse_perm hs) k t).2, ego, elu]
    simp
  refine dss_cons (ds_no (DW.dt (dw_or (dt_neP hr.units (Nat.le_trans (Nat.min_le_left _ _) (tI_dep _)) (dc D_going_on (ok_going_on hb D_going_on D_runners D_by_times D_by_places D_first_ones D_came_in) hr (by decide) (da_3 (de_var 1) de_int de_int) ⟨hs, 9, 0, rfl, hS, rfl⟩) (DE.is (d := tI (Dl.sortI ca)) (de_tuple hb.tuple (DN.de (dn_sortI (ns := ca) hr.units hb.sorted (de_var 8) rfl)) rfl) rfl))
    (fun _ => dw_or1 (dt_neP hr.units (Nat.le_trans (Nat.min_le_left _ _) (tI_dep _)) (dc D_going_on (ok_going_on hb D_going_on D_runners D_by_times D_by_places D_first_ones D_came_in) hr (by decide) (da_3 (de_var 1) de_int de_int) ⟨hs, 0, 0, rfl, hS, rfl⟩) (de_tup (ds := []) da_nil (Nat.zero_le _)))))) ?_ rfl) ?_
  · rw [eqv_tI, eqv_t0, m10 G, m10z, ← eca]
    simp
  exact dss_one (ds_ret (dc D_u_law_faster_right (ok_u_law_faster_right hb D_u_law_faster_right D_going_on D_runners D_by_times D_by_places D_first_ones D_came_in) hr (by decide) (da_cons (DE.arg (de_var 1)) (da_cons (DE.arg (de_var 3)) (da_3 (de_var 4) (de_var 5) (de_var 2)))) ⟨hs, k, t, nu, by rw [← ego], G, hk0, ht0, rfl⟩) rfl)
end
end Wk

namespace Wk
open PySem L2 PySem.W PyProof.Rows Dl
theorem all_mk {l : PySem.W.OpenLaw} {w : World} {K : PySem.W.Frag} {h : Heap} {mg : Str → Option Value} {fa : Addr} {f0 : Addr} {od0 an0 : Option Addr} {sl0 : Array (Option Value)} {oc0 kV0 dc0 pm0 cd0 ct0 : Value} {f1 : Addr} {od1 an1 : Option Addr} {sl1 : Array (Option Value)} {oc1 kV1 dc1 pm1 cd1 ct1 : Value} {f2 : Addr} {od2 an2 : Option Addr} {sl2 : Array (Option Value)} {oc2 kV2 dc2 pm2 cd2 ct2 : Value} {f3 : Addr} {od3 an3 : Option Addr} {sl3 : Array (Option Value)} {oc3 kV3 dc3 pm3 cd3 ct3 : Value} {f4 : Addr} {od4 an4 : Option Addr} {sl4 : Array (Option Value)} {oc4 kV4 dc4 pm4 cd4 ct4 : Value} {f5 : Addr} {od5 an5 : Option Addr} {sl5 : Array (Option Value)} {oc5 kV5 dc5 pm5 cd5 ct5 : Value} {f6 : Addr} {od6 an6 : Option Addr} {sl6 : Array (Option Value)} {oc6 kV6 dc6 pm6 cd6 ct6 : Value} {f7 : Addr} {od7 an7 : Option Addr} {sl7 : Array (Option Value)} {oc7 kV7 dc7 pm7 cd7 ct7 : Value} {f8 : Addr} {od8 an8 : Option Addr} {sl8 : Array (Option Value)} {oc8 kV8 dc8 pm8 cd8 ct8 : Value} {f9 : Addr} {od9 an9 : Option Addr} {sl9 : Array (Option Value)} {oc9 kV9 dc9 pm9 cd9 ct9 : Value} {f10 : Addr} {od10 an10 : Option Addr} {sl10 : Array (Option Value)} {oc10 kV10 dc10 pm10 cd10 ct10 : Value} {f11 : Addr} {od11 an11 : Option Addr} {sl11 : Array (Option Value)} {oc11 kV11 dc11 pm11 cd11 ct11 : Value} {f12 : Addr} {od12 an12 : Option Addr} {sl12 : Array (Option Value)} {oc12 kV12 dc12 pm12 cd12 ct12 : Value} {f13 : Addr} {od13 an13 : Option Addr} {sl13 : Array (Option Value)} {oc13 kV13 dc13 pm13 cd13 ct13 : Value} {f14 : Addr} {od14 an14 : Option Addr} {sl14 : Array (Option Value)} {oc14 kV14 dc14 pm14 cd14 ct14 : Value} {f15 : Addr} {od15 an15 : Option Addr} {sl15 : Array (Option Value)} {oc15 kV15 dc15 pm15 cd15 ct15 : Value}
    (X : K.In h) (G : h.Ns mainGlobals mg) (hfa : mg "law" = some (.ref fa))
    (a0 : PySem.W.nsIn K mainGlobals "law" = some (some (.ref f0)))
    (l0 : K.lookup f0 = some ⟨oc0, od0, .func (PySem.W.fnOf "law" "law" (defArgs s_law) (defBody s_law) (defScope s_law) .none kV0 dc0 pm0 an0 cd0 ct0), sl0⟩)
    (c0 : PySem.W.codeIn K cd0 "law" = true) (k0 : PySem.W.keepIn K (.ref f0) = true)
    (a1 : PySem.W.nsIn K mainGlobals "_law_mixed" = some (some (.ref f1)))
    (l1 : K.lookup f1 = some ⟨oc1, od1, .func (PySem.W.fnOf "_law_mixed" "_law_mixed" (defArgs s_u_law_mixed) (defBody s_u_law_mixed) (defScope s_u_law_mixed) .none kV1 dc1 pm1 an1 cd1 ct1), sl1⟩)
    (c1 : PySem.W.codeIn K cd1 "_law_mixed" = true) (k1 : PySem.W.keepIn K (.ref f1) = true)
    (a2 : PySem.W.nsIn K mainGlobals "_law_cell_at" = some (some (.ref f2)))
    (l2 : K.lookup f2 = some ⟨oc2, od2, .func (PySem.W.fnOf "_law_cell_at" "_law_cell_at" (defArgs s_u_law_cell_at) (defBody s_u_law_cell_at) (defScope s_u_law_cell_at) .none kV2 dc2 pm2 an2 cd2 ct2), sl2⟩)
    (c2 : PySem.W.codeIn K cd2 "_law_cell_at" = true) (k2 : PySem.W.keepIn K (.ref f2) = true)
    (a3 : PySem.W.nsIn K mainGlobals "_law_timed" = some (some (.ref f3)))
    (l3 : K.lookup f3 = some ⟨oc3, od3, .func (PySem.W.fnOf "_law_timed" "_law_timed" (defArgs s_u_law_timed) (defBody s_u_law_timed) (defScope s_u_law_timed) .none kV3 dc3 pm3 an3 cd3 ct3), sl3⟩)
    (c3 : PySem.W.codeIn K cd3 "_law_timed" = true) (k3 : PySem.W.keepIn K (.ref f3) = true)
    (a4 : PySem.W.nsIn K mainGlobals "_law_drawn" = some (some (.ref f4)))
    (l4 : K.lookup f4 = some ⟨oc4, od4, .func (PySem.W.fnOf "_law_drawn" "_law_drawn" (defArgs s_u_law_drawn) (defBody s_u_law_drawn) (defScope s_u_law_drawn) .none kV4 dc4 pm4 an4 cd4 ct4), sl4⟩)
    (c4 : PySem.W.codeIn K cd4 "_law_drawn" = true) (k4 : PySem.W.keepIn K (.ref f4) = true)
    (a5 : PySem.W.nsIn K mainGlobals "placed" = some (some (.ref f5)))
    (l5 : K.lookup f5 = some ⟨oc5, od5, .func (PySem.W.fnOf "placed" "placed" (defArgs s_placed) (defBody s_placed) (defScope s_placed) .none kV5 dc5 pm5 an5 cd5 ct5), sl5⟩)
    (c5 : PySem.W.codeIn K cd5 "placed" = true) (k5 : PySem.W.keepIn K (.ref f5) = true)
    (a6 : PySem.W.nsIn K mainGlobals "came_in" = some (some (.ref f6)))
    (l6 : K.lookup f6 = some ⟨oc6, od6, .func (PySem.W.fnOf "came_in" "came_in" (defArgs s_came_in) (defBody s_came_in) (defScope s_came_in) .none kV6 dc6 pm6 an6 cd6 ct6), sl6⟩)
    (c6 : PySem.W.codeIn K cd6 "came_in" = true) (k6 : PySem.W.keepIn K (.ref f6) = true)
    (a7 : PySem.W.nsIn K mainGlobals "going_on" = some (some (.ref f7)))
    (l7 : K.lookup f7 = some ⟨oc7, od7, .func (PySem.W.fnOf "going_on" "going_on" (defArgs s_going_on) (defBody s_going_on) (defScope s_going_on) .none kV7 dc7 pm7 an7 cd7 ct7), sl7⟩)
    (c7 : PySem.W.codeIn K cd7 "going_on" = true) (k7 : PySem.W.keepIn K (.ref f7) = true)
    (a8 : PySem.W.nsIn K mainGlobals "runners" = some (some (.ref f8)))
    (l8 : K.lookup f8 = some ⟨oc8, od8, .func (PySem.W.fnOf "runners" "runners" (defArgs s_runners) (defBody s_runners) (defScope s_runners) .none kV8 dc8 pm8 an8 cd8 ct8), sl8⟩)
    (c8 : PySem.W.codeIn K cd8 "runners" = true) (k8 : PySem.W.keepIn K (.ref f8) = true)
    (a9 : PySem.W.nsIn K mainGlobals "by_times" = some (some (.ref f9)))
    (l9 : K.lookup f9 = some ⟨oc9, od9, .func (PySem.W.fnOf "by_times" "by_times" (defArgs s_by_times) (defBody s_by_times) (defScope s_by_times) .none kV9 dc9 pm9 an9 cd9 ct9), sl9⟩)
    (c9 : PySem.W.codeIn K cd9 "by_times" = true) (k9 : PySem.W.keepIn K (.ref f9) = true)
    (a10 : PySem.W.nsIn K mainGlobals "by_places" = some (some (.ref f10)))
    (l10 : K.lookup f10 = some ⟨oc10, od10, .func (PySem.W.fnOf "by_places" "by_places" (defArgs s_by_places) (defBody s_by_places) (defScope s_by_places) .none kV10 dc10 pm10 an10 cd10 ct10), sl10⟩)
    (c10 : PySem.W.codeIn K cd10 "by_places" = true) (k10 : PySem.W.keepIn K (.ref f10) = true)
    (a11 : PySem.W.nsIn K mainGlobals "first_ones" = some (some (.ref f11)))
    (l11 : K.lookup f11 = some ⟨oc11, od11, .func (PySem.W.fnOf "first_ones" "first_ones" (defArgs s_first_ones) (defBody s_first_ones) (defScope s_first_ones) .none kV11 dc11 pm11 an11 cd11 ct11), sl11⟩)
    (c11 : PySem.W.codeIn K cd11 "first_ones" = true) (k11 : PySem.W.keepIn K (.ref f11) = true)
    (a12 : PySem.W.nsIn K mainGlobals "beaten" = some (some (.ref f12)))
    (l12 : K.lookup f12 = some ⟨oc12, od12, .func (PySem.W.fnOf "beaten" "beaten" (defArgs s_beaten) (defBody s_beaten) (defScope s_beaten) .none kV12 dc12 pm12 an12 cd12 ct12), sl12⟩)
    (c12 : PySem.W.codeIn K cd12 "beaten" = true) (k12 : PySem.W.keepIn K (.ref f12) = true)
    (a13 : PySem.W.nsIn K mainGlobals "lucky" = some (some (.ref f13)))
    (l13 : K.lookup f13 = some ⟨oc13, od13, .func (PySem.W.fnOf "lucky" "lucky" (defArgs s_lucky) (defBody s_lucky) (defScope s_lucky) .none kV13 dc13 pm13 an13 cd13 ct13), sl13⟩)
    (c13 : PySem.W.codeIn K cd13 "lucky" = true) (k13 : PySem.W.keepIn K (.ref f13) = true)
    (a14 : PySem.W.nsIn K mainGlobals "_law_goes_on_with_more" = some (some (.ref f14)))
    (l14 : K.lookup f14 = some ⟨oc14, od14, .func (PySem.W.fnOf "_law_goes_on_with_more" "_law_goes_on_with_more" (defArgs s_u_law_goes_on_with_more) (defBody s_u_law_goes_on_with_more) (defScope s_u_law_goes_on_with_more) .none kV14 dc14 pm14 an14 cd14 ct14), sl14⟩)
    (c14 : PySem.W.codeIn K cd14 "_law_goes_on_with_more" = true) (k14 : PySem.W.keepIn K (.ref f14) = true)
    (a15 : PySem.W.nsIn K mainGlobals "_law_faster_right" = some (some (.ref f15)))
    (l15 : K.lookup f15 = some ⟨oc15, od15, .func (PySem.W.fnOf "_law_faster_right" "_law_faster_right" (defArgs s_u_law_faster_right) (defBody s_u_law_faster_right) (defScope s_u_law_faster_right) .none kV15 dc15 pm15 an15 cd15 ct15), sl15⟩)
    (c15 : PySem.W.codeIn K cd15 "_law_faster_right" = true) (k15 : PySem.W.keepIn K (.ref f15) = true)
    (z_len : PySem.W.nsIn K mainGlobals "len" = some none)
    (z_sorted : PySem.W.nsIn K mainGlobals "sorted" = some none)
    (z_set : PySem.W.nsIn K mainGlobals "set" = some none)
    (z_tuple : PySem.W.nsIn K mainGlobals "tuple" = some none)
    (z_list : PySem.W.nsIn K mainGlobals "list" = some none)
    (z_range : PySem.W.nsIn K mainGlobals "range" = some none)
    (z_min : PySem.W.nsIn K mainGlobals "min" = some none)
    (z_max : PySem.W.nsIn K mainGlobals "max" = some none)
    (z_sum : PySem.W.nsIn K mainGlobals "sum" = some none)
    (z_int : PySem.W.nsIn K mainGlobals "int" = some none)
    (z_str : PySem.W.nsIn K mainGlobals "str" = some none)
    (z_repr : PySem.W.nsIn K mainGlobals "repr" = some none)
    (z_isinstance : PySem.W.nsIn K mainGlobals "isinstance" = some none)
    (z_enumerate : PySem.W.nsIn K mainGlobals "enumerate" = some none)
    (z_zip : PySem.W.nsIn K mainGlobals "zip" = some none)
    (z_any : PySem.W.nsIn K mainGlobals "any" = some none)
    (z_all : PySem.W.nsIn K mainGlobals "all" = some none)
    (z_bool : PySem.W.nsIn K mainGlobals "bool" = some none) :
    ∃ fd : FuncData, (∀ (s : Shared) (v : Value), BindsTo s fd ⟨[v], []⟩ [("script", v)]) ∧ ∀ base : Heap, K.In base → base.Ns mainGlobals mg → FnOk l.prog w K mg base CX0 7 fa fd ["script"] (spLaw K) := by
  have e := hfa.symm.trans (PySem.W.mg_of X G a0)
  cases e
  have F0 := fun_mk (st := s_law) l0 c0 k0
  have b0 := F0.binds (ps := ["script"]) fun _ _ _ _ _ _ us hl => match us, hl with | [_], _ => rfl
  have F1 := fun_mk (st := s_u_law_mixed) l1 c1 k1
  have b1 := F1.binds (ps := ["script", "k"]) fun _ _ _ _ _ _ us hl => match us, hl with | [_, _], _ => rfl
  have F2 := fun_mk (st := s_u_law_cell_at) l2 c2 k2
  have b2 := F2.binds (ps := ["script", "k"]) fun _ _ _ _ _ _ us hl => match us, hl with | [_, _], _ => rfl
  have F3 := fun_mk (st := s_u_law_timed) l3 c3 k3
  have b3 := F3.binds (ps := ["number"]) fun _ _ _ _ _ _ us hl => match us, hl with | [_], _ => rfl
  have F4 := fun_mk (st := s_u_law_drawn) l4 c4 k4
  have b4 := F4.binds (ps := ["number", "k"]) fun _ _ _ _ _ _ us hl => match us, hl with | [_, _], _ => rfl
  have F5 := fun_mk (st := s_placed) l5 c5 k5
  have b5 := F5.binds (ps := ["heat"]) fun _ _ _ _ _ _ us hl => match us, hl with | [_], _ => rfl
  have F6 := fun_mk (st := s_came_in) l6 c6 k6
  have b6 := F6.binds (ps := ["heat"]) fun _ _ _ _ _ _ us hl => match us, hl with | [_], _ => rfl
  have F7 := fun_mk (st := s_going_on) l7 c7 k7
  have b7 := F7.binds (ps := ["heats", "by_place", "by_time"]) fun _ _ _ _ _ _ us hl => match us, hl with | [_, _, _], _ => rfl
  have F8 := fun_mk (st := s_runners) l8 c8 k8
  have b8 := F8.binds (ps := ["some"]) fun _ _ _ _ _ _ us hl => match us, hl with | [_], _ => rfl
  have F9 := fun_mk (st := s_by_times) l9 c9 k9
  have b9 := F9.binds (ps := ["heats", "by_place", "by_time"]) fun _ _ _ _ _ _ us hl => match us, hl with | [_, _, _], _ => rfl
  have F10 := fun_mk (st := s_by_places) l10 c10 k10
  have b10 := F10.binds (ps := ["heats", "by_place"]) fun _ _ _ _ _ _ us hl => match us, hl with | [_, _], _ => rfl
  have F11 := fun_mk (st := s_first_ones) l11 c11 k11
  have b11 := F11.binds (ps := ["some", "most"]) fun _ _ _ _ _ _ us hl => match us, hl with | [_, _], _ => rfl
  have F12 := fun_mk (st := s_beaten) l12 c12 k12
  have b12 := F12.binds (ps := ["heats", "by_place", "by_time"]) fun _ _ _ _ _ _ us hl => match us, hl with | [_, _, _], _ => rfl
  have F13 := fun_mk (st := s_lucky) l13 c13 k13
  have b13 := F13.binds (ps := ["heats", "by_place", "by_time"]) fun _ _ _ _ _ _ us hl => match us, hl with | [_, _, _], _ => rfl
  have F14 := fun_mk (st := s_u_law_goes_on_with_more) l14 c14 k14
  have b14 := F14.binds (ps := ["some", "by_place", "by_time", "gone"]) fun _ _ _ _ _ _ us hl => match us, hl with | [_, _, _, _], _ => rfl
  have F15 := fun_mk (st := s_u_law_faster_right) l15 c15 k15
  have b15 := F15.binds (ps := ["some", "by_place", "by_time", "gone", "number"]) fun _ _ _ _ _ _ us hl => match us, hl with | [_, _, _, _, _], _ => rfl
  have hb : Blt mg := ⟨PySem.W.mg_none_of X G z_len, PySem.W.mg_none_of X G z_sorted, PySem.W.mg_none_of X G z_set, PySem.W.mg_none_of X G z_tuple, PySem.W.mg_none_of X G z_list, PySem.W.mg_none_of X G z_range, PySem.W.mg_none_of X G z_min, PySem.W.mg_none_of X G z_max, PySem.W.mg_none_of X G z_sum, PySem.W.mg_none_of X G z_int, PySem.W.mg_none_of X G z_str, PySem.W.mg_none_of X G z_repr, PySem.W.mg_none_of X G z_isinstance, PySem.W.mg_none_of X G z_enumerate, PySem.W.mg_none_of X G z_zip, PySem.W.mg_none_of X G z_any, PySem.W.mg_none_of X G z_all, PySem.W.mg_none_of X G z_bool⟩
  exact ⟨PySem.W.fnOf "law" "law" (defArgs s_law) (defBody s_law) (defScope s_law) .none kV0 dc0 pm0 an0 cd0 ct0, fun s v => .of_eq rfl, fun base _ _ => law_end (ok_law hb ⟨_, _, F0, b0, PySem.W.mg_of X G a0⟩ ⟨_, _, F1, b1, PySem.W.mg_of X G a1⟩ ⟨_, _, F2, b2, PySem.W.mg_of X G a2⟩ ⟨_, _, F3, b3, PySem.W.mg_of X G a3⟩ ⟨_, _, F4, b4, PySem.W.mg_of X G a4⟩ ⟨_, _, F5, b5, PySem.W.mg_of X G a5⟩ ⟨_, _, F6, b6, PySem.W.mg_of X G a6⟩ ⟨_, _, F7, b7, PySem.W.mg_of X G a7⟩ ⟨_, _, F8, b8, PySem.W.mg_of X G a8⟩ ⟨_, _, F9, b9, PySem.W.mg_of X G a9⟩ ⟨_, _, F10, b10, PySem.W.mg_of X G a10⟩ ⟨_, _, F11, b11, PySem.W.mg_of X G a11⟩ ⟨_, _, F12, b12, PySem.W.mg_of X G a12⟩ ⟨_, _, F13, b13, PySem.W.mg_of X G a13⟩ ⟨_, _, F14, b14, PySem.W.mg_of X G a14⟩ ⟨_, _, F15, b15, PySem.W.mg_of X G a15⟩)⟩
end Wk
open PySem PySem.W PyProof.Rows
set_option maxHeartbeats 0 in
theorem PySem.Challenge.cw_heatplans_k42_whole_goes_on_holds : PySem.Challenge.rw_heatplans_k42_whole_goes_on.Holds := by
  w_on; o_law; k_head; (case hw => w_witness2)
  k_fill
  refine L2.walk_of (l := PySem.Challenge.rw_heatplans_k42_whole_goes_on) (n := 63) (k := 7) (x := "script") (CX := fun _ => L2.CX0) (sp := fun w => Dl.spLaw _) rfl (by decide) rfl ⟨rfl, by decide, by decide⟩ (fun w h Y => PySem.W.kIn_of Y) ?F (fun _ _ a ns hl _ hS => ⟨a, ns, rfl, hS, hl, fun _ => rfl⟩) (fun _ _ _ _ _ h => h)
  case F =>
    intro w mg fa h KX G hmg
    refine' Wk.all_mk KX G hmg ?a0 ?l0 ?c0 ?k0 ?a1 ?l1 ?c1 ?k1 ?a2 ?l2 ?c2 ?k2 ?a3 ?l3 ?c3 ?k3 ?a4 ?l4 ?c4 ?k4 ?a5 ?l5 ?c5 ?k5 ?a6 ?l6 ?c6 ?k6 ?a7 ?l7 ?c7 ?k7 ?a8 ?l8 ?c8 ?k8 ?a9 ?l9 ?c9 ?k9 ?a10 ?l10 ?c10 ?k10 ?a11 ?l11 ?c11 ?k11 ?a12 ?l12 ?c12 ?k12 ?a13 ?l13 ?c13 ?k13 ?a14 ?l14 ?c14 ?k14 ?a15 ?l15 ?c15 ?k15 ?z_len ?z_sorted ?z_set ?z_tuple ?z_list ?z_range ?z_min ?z_max ?z_sum ?z_int ?z_str ?z_repr ?z_isinstance ?z_enumerate ?z_zip ?z_any ?z_all ?z_bool
    (case a0 => k_is)
    (case l0 => k_is)
    (case c0 => k_is)
    (case k0 => k_is)
    (case a1 => k_is)
    (case l1 => k_is)
    (case c1 => k_is)
    (case k1 => k_is)
    (case a2 => k_is)
    (case l2 => k_is)
    (case c2 => k_is)
    (case k2 => k_is)
    (case a3 => k_is)
    (case l3 => k_is)
    (case c3 => k_is)
    (case k3 => k_is)
    (case a4 => k_is)
    (case l4 => k_is)
    (case c4 => k_is)
    (case k4 => k_is)
    (case a5 => k_is)
    (case l5 => k_is)
    (case c5 => k_is)
    (case k5 => k_is)
    (case a6 => k_is)
    (case l6 => k_is)
    (case c6 => k_is)
    (case k6 => k_is)
    (case a7 => k_is)
    (case l7 => k_is)
    (case c7 => k_is)
    (case k7 => k_is)
    (case a8 => k_is)
    (case l8 => k_is)
    (case c8 => k_is)
    (case k8 => k_is)
    (case a9 => k_is)
    (case l9 => k_is)
    (case c9 => k_is)
    (case k9 => k_is)
    (case a10 => k_is)
    (case l10 => k_is)
    (case c10 => k_is)
    (case k10 => k_is)
    (case a11 => k_is)
    (case l11 => k_is)
    (case c11 => k_is)
    (case k11 => k_is)
    (case a12 => k_is)
    (case l12 => k_is)
    (case c12 => k_is)
    (case k12 => k_is)
    (case a13 => k_is)
    (case l13 => k_is)
    (case c13 => k_is)
    (case k13 => k_is)
    (case a14 => k_is)
    (case l14 => k_is)
    (case c14 => k_is)
    (case k14 => k_is)
    (case a15 => k_is)
    (case l15 => k_is)
    (case c15 => k_is)
    (case k15 => k_is)
    (case z_len => k_is)
    (case z_sorted => k_is)
    (case z_set => k_is)
    (case z_tuple => k_is)
    (case z_list => k_is)
    (case z_range => k_is)
    (case z_min => k_is)
    (case z_max => k_is)
    (case z_sum => k_is)
    (case z_int => k_is)
    (case z_str => k_is)
    (case z_repr => k_is)
    (case z_isinstance => k_is)
    (case z_enumerate => k_is)
    (case z_zip => k_is)
    (case z_any => k_is)
    (case z_all => k_is)
    (case z_bool => k_is)

