import PyProof.Rows.All
import Wide.All
import OpenK.AllK
import Wide.FinOn
import HandS.ForMost
import HandS.TupAny
import HandS.Zip
import HandS.Conv
import KE.SortData
import KE.DataEq
import KE.DataMinMax
import HandS.TupSets
import HandS.SetFor
import HandS.Strs
import KE.GoesNew
import HandS.Style
import HandS.SetBool
import KE.KIndexOf
import PyProof.SumWalkG
import KE.KDictKeyed
import HandS.TupLen
import KE.KDictWalk
import HandS.DictTup
import HandS.New
import HandS.ExcOwn
import HandS.TryOnly
import HandS.ExcIs
import HandS.Lambda
import KE.KDictSum
import HandS.ExcValue
import KE.DataIsa
import HandS.WordsExc
import KE.DataFind
import HandS.Deep
import HandS.EndTab
import HandS.HeadWalk
import HandS.Head2
import HandS.HeadHook4
import HandS.NestedK
import PyProof.AutoSeq1
import KE.GoesRaise
import PyProof.ReprRoads
import PyProof.StrBlockL
import HandS.Text
import HandS.Iter
import PyProof.CallStr
import PyProof.StrOps2
import HandS.TupMul
import PySem.Challenge.RW_heatplans_k09_lists_anywhere
set_option Elab.async false
set_option linter.all false
set_option maxRecDepth 100000
namespace Dl
open PySem L2

/-! ## data in an abstract heap -/
/-- an exact tuple: its object is known to have no dict; told as data by a form of its own -/
def xt (ds : List PyData) : PyData := .dict [(.none, .list ds)]
mutual
/-- the data without exactness -/
def lo : PyData → PyData
  | .list ds => .list (loAll ds)
  | .tuple ds => .tuple (loAll ds)
  | .dict [(.none, .list ds)] => .tuple (loAll ds)
  | d => d
def loAll : List PyData → List PyData
  | [] => []
  | d :: ds => lo d :: loAll ds
end
theorem loAll_map : ∀ ds : List PyData, loAll ds = ds.map lo
  | [] => by rw [loAll]; rfl
  | d :: ds => by rw [loAll, loAll_map ds]; rfl
theorem lo_int (i : Int) : lo (.int i) = .int i := by simp [lo]
theorem lo_bool (i : Bool) : lo (.bool i) = .bool i := by simp [lo]
theorem lo_str (i : Str) : lo (.str i) = .str i := by simp [lo]
theorem lo_none : lo .none = .none := by simp [lo]
theorem lo_list (ds : List PyData) : lo (.list ds) = .list (ds.map lo) := by rw [lo, loAll_map]
theorem lo_tuple (ds : List PyData) : lo (.tuple ds) = .tuple (ds.map lo) := by rw [lo, loAll_map]
theorem lo_xt (ds : List PyData) : lo (xt ds) = .tuple (ds.map lo) := by unfold xt; rw [lo, loAll_map]
theorem Rd.same {H H' : Hp} {a : Addr} {u : HO} (e : Same H H') (h : Rd H a u) : Rd H' a u := h.elim (fun q => .inl (e _ _ q)) fun ⟨o, q⟩ => .inr ⟨o, e _ _ q⟩
theorem SqT.rd {K : PySem.W.Frag} {H : Hp} {a : Addr} {xs : List V} (h : Rd H a (.tup xs)) : SqT K H a xs := .inl h
mutual
inductive Dat (H : Hp) : V → PyData → Prop
  | non : Dat H .non .none
  | bl (b : Bool) : Dat H (.bl b) (.bool b)
  | int (i : Int) : Dat H (.int i) (.int i)
  | str (x : Str) : Dat H (.str x) (.str x)
  | lst {a : Addr} {xs : List V} {ds : List PyData} : H a = some (.lst xs) → Dats H xs ds → Dat H (.ref a) (.list ds)
  | tup {a : Addr} {xs : List V} {ds : List PyData} : Rd H a (.tup xs) → Dats H xs ds → Dat H (.ref a) (.tuple ds)
  | xt {a : Addr} {o : Obj} {xs : List V} {ds : List PyData} : H a = some (.frz o (.tup xs)) → o.dict = none → Dats H xs ds → Dat H (.ref a) (Dl.xt ds)
inductive Dats (H : Hp) : List V → List PyData → Prop
  | nil : Dats H [] []
  | cons {v : V} {vs : List V} {d : PyData} {ds : List PyData} : Dat H v d → Dats H vs ds → Dats H (v :: vs) (d :: ds)
end

mutual
theorem Dat.mono {H H' : Hp} (e : Same H H') : ∀ {v : V} {d : PyData}, Dat H v d → Dat H' v d
  | _, _, .non => .non
  | _, _, .bl b => .bl b
  | _, _, .int i => .int i
  | _, _, .str x => .str x
  | _, _, .lst h r => .lst (e _ _ h) (Dats.mono e r)
  | _, _, .tup h r => .tup (Rd.same e h) (Dats.mono e r)
  | _, _, .xt h q r => .xt (e _ _ h) q (Dats.mono e r)
theorem Dats.mono {H H' : Hp} (e : Same H H') : ∀ {vs : List V} {ds : List PyData}, Dats H vs ds → Dats H' vs ds
  | _, _, .nil => .nil
  | _, _, .cons h r => .cons (Dat.mono e h) (Dats.mono e r)
end
mutual
theorem Dat.dp {K : PySem.W.Frag} {H : Hp} : ∀ {v : V} {d : PyData}, Dat H v d → Dp K H v (lo d)
  | _, _, .non => by rw [lo_none]; exact .non
  | _, _, .bl b => by rw [lo_bool]; exact .bl b
  | _, _, .int i => by rw [lo_int]; exact .int i
  | _, _, .str x => by rw [lo_str]; exact .str x
  | _, _, .lst h r => by rw [lo_list]; exact .lst (SqL.of h) (Dats.dp r)
  | _, _, .tup h r => by rw [lo_tuple]; exact .tup (SqT.rd h) (Dats.dp r)
  | _, _, .xt h _ r => by rw [lo_xt]; exact .tup (SqT.rd (.inr ⟨_, h⟩)) (Dats.dp r)
theorem Dats.dp {K : PySem.W.Frag} {H : Hp} : ∀ {vs : List V} {ds : List PyData}, Dats H vs ds → DpAll K H vs (ds.map lo)
  | _, _, .nil => .nil
  | _, _, .cons h r => .cons (Dat.dp h) (Dats.dp r)
end
mutual
theorem Dat.lo {H : Hp} : ∀ {v : V} {d : PyData}, Dat H v d → Dat H v (Dl.lo d)
  | _, _, .non => by rw [lo_none]; exact .non
  | _, _, .bl b => by rw [lo_bool]; exact .bl b
  | _, _, .int i => by rw [lo_int]; exact .int i
  | _, _, .str x => by rw [lo_str]; exact .str x
  | _, _, .lst h r => by rw [lo_list]; exact .lst h (Dats.lo r)
  | _, _, .tup h r => by rw [lo_tuple]; exact .tup h (Dats.lo r)
  | _, _, .xt h _ r => by rw [lo_xt]; exact .tup (.inr ⟨_, h⟩) (Dats.lo r)
theorem Dats.lo {H : Hp} : ∀ {vs : List V} {ds : List PyData}, Dats H vs ds → Dats H vs (ds.map Dl.lo)
  | _, _, .nil => .nil
  | _, _, .cons h r => .cons (Dat.lo h) (Dats.lo r)
end
theorem Dats.length {H : Hp} : ∀ {vs : List V} {ds : List PyData}, Dats H vs ds → vs.length = ds.length
  | _, _, .nil => rfl
  | _, _, .cons _ r => by rw [List.length_cons, List.length_cons, Dats.length r]
theorem Dats.get {H : Hp} : ∀ {vs : List V} {ds : List PyData} {i : Nat} {d : PyData}, Dats H vs ds → ds[i]? = some d → ∃ v, vs[i]? = some v ∧ Dat H v d
  | _, _, _, _, .nil, e => by simp at e
  | _, _, 0, _, .cons h _, e => by simp at e; subst e; exact ⟨_, rfl, h⟩
  | _, _, i + 1, d, .cons _ r, e => by
    obtain ⟨v, h1, h2⟩ := Dats.get (i := i) (d := d) r (by simpa using e)
    exact ⟨v, by simpa using h1, h2⟩
theorem Dats.append {H : Hp} : ∀ {vs ws : List V} {ds es : List PyData}, Dats H vs ds → Dats H ws es → Dats H (vs ++ ws) (ds ++ es)
  | _, _, _, _, .nil, h => h
  | _, _, _, _, .cons h r, q => .cons h (Dats.append r q)
theorem Dats.take {H : Hp} : ∀ {vs : List V} {ds : List PyData} (n : Nat), Dats H vs ds → Dats H (vs.take n) (ds.take n)
  | _, _, 0, _ => .nil
  | _, _, _ + 1, .nil => .nil
  | _, _, n + 1, .cons h r => .cons h (Dats.take n r)
theorem Dats.drop {H : Hp} : ∀ {vs : List V} {ds : List PyData} (n : Nat), Dats H vs ds → Dats H (vs.drop n) (ds.drop n)
  | _, _, 0, h => h
  | _, _, _ + 1, .nil => .nil
  | _, _, n + 1, .cons _ r => Dats.drop n r
theorem Dats.set {H : Hp} {v : V} {d : PyData} (h : Dat H v d) : ∀ {vs : List V} {ds : List PyData} (n : Nat), Dats H vs ds → Dats H (vs.set n v) (ds.set n d)
  | _, _, _, .nil => .nil
  | _, _, 0, .cons _ r => .cons h r
  | _, _, n + 1, .cons q r => .cons q (Dats.set h n r)
theorem Dats.reverse {H : Hp} : ∀ {vs : List V} {ds : List PyData}, Dats H vs ds → Dats H vs.reverse ds.reverse
  | _, _, .nil => .nil
  | _, _, .cons h r => by
    rw [List.reverse_cons, List.reverse_cons]
    exact (Dats.reverse r).append (.cons h .nil)
theorem Dats.snoc {H : Hp} {vs : List V} {ds : List PyData} {v : V} {d : PyData} (r : Dats H vs ds) (h : Dat H v d) : Dats H (vs ++ [v]) (ds ++ [d]) := r.append (.cons h .nil)
theorem Dats.ints {H : Hp} : ∀ {vs : List V} {ns : List Int}, Dats H vs (ns.map PyData.int) → vs = ns.map V.int
  | [], [], _ => rfl
  | _ :: _, [], h => by cases h
  | [], _ :: _, h => by cases h
  | _ :: _, _ :: _, h => by
    cases h with
    | cons h r =>
      cases h
      rw [List.map_cons, Dats.ints r]
theorem Dats.of_ints {H : Hp} : ∀ ns : List Int, Dats H (ns.map V.int) (ns.map PyData.int)
  | [] => .nil
  | n :: ns => .cons (.int n) (Dats.of_ints ns)
theorem Dats.bls {H : Hp} : ∀ {vs : List V} {bs : List Bool}, Dats H vs (bs.map PyData.bool) → vs = bs.map V.bl
  | [], [], _ => rfl
  | _ :: _, [], h => by cases h
  | [], _ :: _, h => by cases h
  | _ :: _, _ :: _, h => by
    cases h with
    | cons h r =>
      cases h
      rw [List.map_cons, Dats.bls r]
theorem Dats.strs {H : Hp} : ∀ {vs : List V} {bs : List Str}, Dats H vs (bs.map PyData.str) → vs = bs.map V.str
  | [], [], _ => rfl
  | _ :: _, [], h => by cases h
  | [], _ :: _, h => by cases h
  | _ :: _, _ :: _, h => by
    cases h with
    | cons h r =>
      cases h
      rw [List.map_cons, Dats.strs r]
theorem Dats.of_strs {H : Hp} : ∀ ns : List Str, Dats H (ns.map V.str) (ns.map PyData.str)
  | [] => .nil
  | n :: ns => .cons (.str n) (Dats.of_strs ns)
theorem Dats.rep {H : Hp} {vs : List V} {ds : List PyData} (h : Dats H vs ds) : ∀ k : Nat, Dats H (List.replicate k vs).flatten (List.replicate k ds).flatten
  | 0 => .nil
  | k + 1 => by
    rw [List.replicate_succ, List.flatten_cons, List.replicate_succ, List.flatten_cons]
    exact h.append (Dats.rep h k)
theorem Dat.inv_int {H : Hp} {v : V} {i : Int} (h : Dat H v (.int i)) : v = .int i := by cases h; rfl
theorem Dat.inv_bool {H : Hp} {v : V} {i : Bool} (h : Dat H v (.bool i)) : v = .bl i := by cases h; rfl
theorem Dat.inv_str {H : Hp} {v : V} {i : Str} (h : Dat H v (.str i)) : v = .str i := by cases h; rfl
theorem Dat.inv_none {H : Hp} {v : V} (h : Dat H v .none) : v = .non := by cases h; rfl
theorem Dat.inv_list {H : Hp} {v : V} {ds : List PyData} (h : Dat H v (.list ds)) : ∃ a xs, v = .ref a ∧ H a = some (.lst xs) ∧ Dats H xs ds := by
  cases h with
  | lst h r => exact ⟨_, _, rfl, h, r⟩
theorem Dat.inv_tuple {H : Hp} {v : V} {ds : List PyData} (h : Dat H v (.tuple ds)) : ∃ a xs, v = .ref a ∧ Rd H a (.tup xs) ∧ Dats H xs ds := by
  cases h with
  | tup h r => exact ⟨_, _, rfl, h, r⟩
theorem Dat.inv_xt {H : Hp} {v : V} {ds : List PyData} (h : Dat H v (Dl.xt ds)) : ∃ a o xs, v = .ref a ∧ H a = some (.frz o (.tup xs)) ∧ o.dict = none ∧ Dats H xs ds := by
  unfold Dl.xt at h
  generalize e : PyData.dict [(.none, .list ds)] = d at h
  cases h with
  | non => cases e
  | bl => cases e
  | int => cases e
  | str => cases e
  | lst => cases e
  | tup => cases e
  | xt h q r =>
    unfold Dl.xt at e
    injection e with e
    injection e with e _
    injection e with _ e
    injection e with e
    subst e
    exact ⟨_, _, _, rfl, h, q, r⟩
theorem Dat.xt_tup {H : Hp} {v : V} {ds : List PyData} (h : Dat H v (Dl.xt ds)) : Dat H v (.tuple ds) := by
  obtain ⟨a, o, xs, rfl, h1, _, h2⟩ := h.inv_xt
  exact .tup (.inr ⟨_, h1⟩) h2

/-! ## growing heaps: Hs the part that stays -/
structure Grw (Hs H Hs' H' : Hp) : Prop where
  all : Same H H'
  st : Same Hs Hs'
  sub : Same Hs' H'
  new : ∀ a, Hs' a ≠ none → Hs a ≠ none ∨ H a = none
  nt : ∀ a ps, Hs' a = some (.tbl ps) → Hs a = some (.tbl ps)
theorem Grw.refl {Hs H : Hp} (h : Same Hs H) : Grw Hs H Hs H := ⟨Same.refl H, Same.refl Hs, h, fun _ q => .inl q, fun _ _ q => q⟩
theorem Grw.trans {Hs H Hs1 H1 Hs2 H2 : Hp} (a : Grw Hs H Hs1 H1) (b : Grw Hs1 H1 Hs2 H2) : Grw Hs H Hs2 H2 :=
  ⟨a.all.trans b.all, a.st.trans b.st, b.sub, fun x q => by
    rcases b.new x q with q | q
    · exact a.new x q
    · exact .inr (a.all.free q), fun x ps q => a.nt x ps (b.nt x ps q)⟩
theorem nt_upd {Hs Hs0 : Hp} {p : Addr} {o : HO} (h : ∀ a ps, Hs a = some (.tbl ps) → Hs0 a = some (.tbl ps)) (hT : ∀ ps, o = .tbl ps → False) : ∀ a ps, upd Hs p o a = some (.tbl ps) → Hs0 a = some (.tbl ps) := fun a ps q => by
  by_cases e : a = p
  · subst e; rw [upd_same] at q; injection q with q; exact (hT ps q).elim
  · rw [upd_ne e] at q; exact h a ps q
theorem same_upd {H : Hp} {p : Addr} {o : HO} (h : H p = none) : Same H (upd H p o) := fun b x e => by
  rw [upd_ne (ne_of_none e h)]
  exact e
theorem same_upd2 {Hs H : Hp} {p : Addr} {o : HO} (h : Same Hs H) : Same (upd Hs p o) (upd H p o) := fun b x e => by
  by_cases q : b = p
  · subst q
    rw [upd_same] at e ⊢
    exact e
  · rw [upd_ne q] at e ⊢
    exact h _ _ e
/-- a new thing that stays -/
theorem Grw.laid {Hs H : Hp} {p : Addr} {o : HO} (s : Same Hs H) (h : H p = none) (hT : ∀ ps, o = .tbl ps → False := by intro _ z; cases z) : Grw Hs H (upd Hs p o) (upd H p o) :=
  ⟨same_upd h, same_upd (s.free h), same_upd2 s, fun a q => by
    by_cases e : a = p
    · subst e; exact .inr h
    · rw [upd_ne e] at q; exact .inl q, nt_upd (fun _ _ q => q) hT⟩
/-- a new thing that is owned -/
theorem Grw.laidO {Hs H : Hp} {p : Addr} {o : HO} (s : Same Hs H) (h : H p = none) : Grw Hs H Hs (upd H p o) :=
  ⟨same_upd h, Same.refl Hs, s.trans (same_upd h), fun a q => .inl q, fun _ _ q => q⟩
/-- an owned thing is changed -/
theorem same_mut {Hs H : Hp} {p : Addr} {o : HO} (s : Same Hs H) (h : Hs p = none) : Same Hs (upd H p o) := fun b x e => by
  rw [upd_ne (ne_of_none e h)]
  exact s _ _ e
theorem Grw.mut {Hs0 H0 Hs H : Hp} {p : Addr} {o : HO} (g : Grw Hs0 H0 Hs H) (h0 : H0 p = none) (h : Hs p = none) : Grw Hs0 H0 Hs (upd H p o) :=
  ⟨same_mut g.all h0, g.st, same_mut g.sub h, g.new, g.nt⟩
/-- an owned thing becomes one that stays -/
theorem Grw.freeze {Hs0 H0 Hs H : Hp} {p : Addr} {o : HO} (g : Grw Hs0 H0 Hs H) (h0 : H0 p = none) (h : Hs p = none) (hp : H p = some o) (hT : ∀ ps, o = .tbl ps → False := by intro _ z; cases z) : Grw Hs0 H0 (upd Hs p o) H :=
  ⟨g.all, g.st.trans (same_upd h), fun b x e => by
    by_cases q : b = p
    · subst q; rw [upd_same] at e; rw [hp]; exact e
    · rw [upd_ne q] at e; exact g.sub _ _ e, fun a q => by
    by_cases e : a = p
    · subst e; exact .inr h0
    · rw [upd_ne e] at q; exact g.new a q, nt_upd g.nt hT⟩

theorem Grw.stay {Hs H Hs' H' : Hp} {a : Addr} {o : HO} (g : Grw Hs H Hs' H') (h1 : Hs a = none) (h2 : H a = some o) : Hs' a = none := by
  cases q : Hs' a with
  | none => rfl
  | some z =>
    rcases g.new a (by rw [q]; simp) with w | w
    · exact absurd h1 w
    · rw [h2] at w
      cases w

/-- what holds of an object of one's own: J, over its footprint; calm: no thing of it is told by a predicate -/
structure Ob where
  J : Hp → Hp → Addr → List Addr → Prop
  chg : ∀ {Hs Hs' H H' : Hp} {a : Addr} {F : List Addr}, Same Hs Hs' → (∀ x ∈ F, ∀ o, H x = some o → H' x = some o) → J Hs H a F → J Hs' H' a F
  calm : Bool := false
  cm : calm = true → ∀ {Hs H : Hp} {a : Addr} {F : List Addr}, J Hs H a F → ∀ x ∈ F, ∃ o, H x = some o ∧ (∀ φ, o ≠ .ext φ) ∧ ∀ ps, o ≠ .tbl ps := by intro h; cases h
/-! ## slots -/
inductive Slot where
  | un
  | val (d : PyData)
  /-- a list of the name's own -/
  | own (ds : List PyData)
  /-- a dict of the name's own -/
  | dic (P : Program) (w : World) (kvs : List (NestedKey × PyData))
  /-- a dict that stays as it is -/
  | fd (P : Program) (w : World) (kvs : List (NestedKey × PyData))
  | scr (ns : List Int)
  /-- this very value -/
  | raw (v : V)
  /-- the script, and the tables of code objects that are the name's own -/
  | scrT (ns : List Int) (T : List (Addr × Str))
  /-- a list of lists, all of the name's own -/
  | oo (dss : List (List PyData))
  /-- an object of the name's own, at a -/
  | obj (a : Addr) (O : Ob)
  /-- a thing, and the tables of code objects that are the name's own -/
  | valT (d : PyData) (T : List (Addr × Str))
/-- slots with tables -/
def tabS : Slot → Bool
  | .scrT _ _ => true
  | .valT _ _ => true
  | _ => false
/-- all code objects of H0 are of the part that stays -/
def CodesIn (H0 Hs0 : Hp) : Prop := ∀ b q, H0 b = some (LamX.CodeO b q) → Hs0 b = some (LamX.CodeO b q)
structure CdTab (Hs0 H0 : Hp) : Prop where
  codes : CodesIn H0 Hs0
  st : ∀ b ps, Hs0 b ≠ some (.tbl ps)
  all : ∀ b ps, H0 b ≠ some (.tbl ps)
theorem CdTab.of {Hs0 H0 : Hp} (h1 : Same H0 Hs0) (h2 : ∀ b ps, Hs0 b ≠ some (.tbl ps)) : CdTab Hs0 H0 := ⟨fun b q e => h1 _ _ e, h2, fun b ps e => h2 b ps (h1 _ _ e)⟩
/-- a dict by its keys, where the keys stand, and its values; told of the one object at d -/
def dkO (P : Program) (w : World) (d : Addr) (xs : List (NestedKey × Addr × V)) : HO := .ext fun h => (d == sysModules) = false ∧ xs.length ≤ sizeLine ∧ ∃ us : List (NestedKey × Addr × Value), Paired (fun (p : NestedKey × Addr × V) (q : NestedKey × Addr × Value) => p.1 = q.1 ∧ p.2.1 = q.2.1 ∧ RelV p.2.2 q.2.2) xs us ∧
  ∃ o es ep, h.get? d = some o ∧ o.ExactDict ∧ o.data = .dict es ep ∧ es.toList = us.map (entryOfKey (nestedKind P w)) ∧ (us.map (·.1)).Nodup
def DKV (Hs : Hp) : List (NestedKey × Addr × V) → List (NestedKey × PyData) → Prop := Paired fun p q => p.1 = q.1 ∧ q.1.depth ≤ 8 ∧ Dat Hs (.ref p.2.1) q.1.data ∧ Dat Hs p.2.2 q.2
theorem DKV.mono {H H' : Hp} (e : Same H H') : ∀ {a : List (NestedKey × Addr × V)} {b : List (NestedKey × PyData)}, DKV H a b → DKV H' a b
  | _, _, .nil => .nil
  | _, _, .cons h r => .cons ⟨h.1, h.2.1, h.2.2.1.mono e, h.2.2.2.mono e⟩ (DKV.mono e r)
def DFS (Hs : Hp) : List (Str × V) → List (Str × PyData) → Prop := Paired fun p q => p.1 = q.1 ∧ Dat Hs p.2 q.2
theorem DFS.mono {H H' : Hp} (e : Same H H') : ∀ {a : List (Str × V)} {b : List (Str × PyData)}, DFS H a b → DFS H' a b
  | _, _, .nil => .nil
  | _, _, .cons h r => .cons ⟨h.1, h.2.mono e⟩ (DFS.mono e r)
/-- lists at these places -/
def LLs (Hs H : Hp) : List Addr → List (List PyData) → Prop := Paired fun l ds => ∃ vs, H l = some (.lst vs) ∧ Dats Hs vs ds
theorem LLs.chg {Hs Hs' H H' : Hp} (e : Same Hs Hs') : ∀ {ls : List Addr} {dss : List (List PyData)}, (∀ x ∈ ls, ∀ o, H x = some o → H' x = some o) → LLs Hs H ls dss → LLs Hs' H' ls dss
  | _, _, _, .nil => .nil
  | _, _, k, .cons ⟨vs, h1, h2⟩ r => .cons ⟨vs, k _ List.mem_cons_self _ h1, h2.mono e⟩ (LLs.chg e (fun x hx => k x (List.mem_cons_of_mem _ hx)) r)
theorem LLs.lst {Hs H : Hp} : ∀ {ls : List Addr} {dss : List (List PyData)}, LLs Hs H ls dss → ∀ x ∈ ls, ∃ vs, H x = some (.lst vs)
  | _, _, .nil, _, m => absurd m List.not_mem_nil
  | _, _, .cons ⟨vs, h1, h2⟩ r, x, m => by
    rcases List.mem_cons.mp m with e | e
    · exact ⟨vs, by rw [e]; exact h1⟩
    · exact LLs.lst r x e
/-- a table of code objects, told in the part that stays -/
def TabF (Hs H : Hp) (P : Addr) (q : Str) : Prop := ∃ ps : Array Value, H P = some (.tbl ps) ∧ TriplesOk ps.toList ∧ ∀ (pos : Pos) (cv : Value), codeAmong pos ps.toList = some cv → ∃ c, cv = .ref c ∧ Hs c = some (LamX.CodeO c q)
theorem TabF.chg {Hs Hs' H H' : Hp} {P : Addr} {q : Str} (e : Same Hs Hs') (k : ∀ o, H P = some o → H' P = some o) : TabF Hs H P q → TabF Hs' H' P q
  | ⟨ps, h1, h2, h3⟩ => ⟨ps, k _ h1, h2, fun pos cv h => by obtain ⟨c, e1, e2⟩ := h3 pos cv h; exact ⟨c, e1, e _ _ e2⟩⟩
/-- what a slot says; F: the places that are the name's own -/
def SlotF (K : PySem.W.Frag) (Hs H : Hp) : Slot → Option (Option V) → List Addr → Prop
  | .un, _, _ => True
  | .val d, o, _ => ∃ v, o = some (some v) ∧ Dat Hs v d
  | .own ds, o, F => ∃ a vs, a ∈ F ∧ o = some (some (.ref a)) ∧ H a = some (.lst vs) ∧ Dats Hs vs ds
  | .dic P w kvs, o, F => ∃ a xs, a ∈ F ∧ o = some (some (.ref a)) ∧ H a = some (dkO P w a xs) ∧ DKV Hs xs kvs
  | .fd P w kvs, o, _ => ∃ a ob xs, o = some (some (.ref a)) ∧ Hs a = some (.frz ob (dkO P w a xs)) ∧ DKV Hs xs kvs
  | .scr ns, o, _ => ∃ a, o = some (some (.ref a)) ∧ SqL K Hs a (ns.map V.int)
  | .raw v, o, _ => o = some (some v)
  | .scrT ns T, o, F => (∃ a, o = some (some (.ref a)) ∧ SqL K Hs a (ns.map V.int)) ∧ ∀ p ∈ T, p.1 ∈ F ∧ TabF Hs H p.1 p.2
  | .oo dss, o, F => ∃ a ls, (∀ x ∈ a :: ls, x ∈ F) ∧ (a :: ls).Nodup ∧ o = some (some (.ref a)) ∧ H a = some (.lst (ls.map V.ref)) ∧ LLs Hs H ls dss
  | .obj a O, o, F => o = some (some (.ref a)) ∧ O.J Hs H a F
  | .valT d T, o, F => (∃ v, o = some (some v) ∧ Dat Hs v d) ∧ ∀ p ∈ T, p.1 ∈ F ∧ TabF Hs H p.1 p.2
theorem SlotF.chg {K : PySem.W.Frag} {Hs Hs' H H' : Hp} {F : List Addr} (e : Same Hs Hs') (k : ∀ x ∈ F, ∀ o, H x = some o → H' x = some o) : ∀ {s : Slot} {o : Option (Option V)}, SlotF K Hs H s o F → SlotF K Hs' H' s o F
  | .un, _, _ => trivial
  | .val _, _, ⟨v, q, h⟩ => ⟨v, q, h.mono e⟩
  | .own _, _, ⟨a, vs, m, q, h2, h3⟩ => ⟨a, vs, m, q, k _ m _ h2, h3.mono e⟩
  | .dic _ _ _, _, ⟨a, vs, m, q, h2, h3⟩ => ⟨a, vs, m, q, k _ m _ h2, h3.mono e⟩
  | .fd _ _ _, _, ⟨a, ob, vs, q, h2, h3⟩ => ⟨a, ob, vs, q, e _ _ h2, h3.mono e⟩
  | .scr _, _, ⟨a, q, h⟩ => ⟨a, q, e.seq h⟩
  | .raw _, _, h => h
  | .scrT _ _, _, ⟨⟨a, q, h⟩, ht⟩ => ⟨⟨a, q, e.seq h⟩, fun p hp => ⟨(ht p hp).1, (ht p hp).2.chg e (k _ (ht p hp).1)⟩⟩
  | .oo _, _, ⟨a, ls, m, nd, q, h2, h3⟩ => ⟨a, ls, m, nd, q, k _ (m _ List.mem_cons_self) _ h2, h3.chg e fun x hx => k x (m x (List.mem_cons_of_mem _ hx))⟩
  | .obj _ O, _, ⟨q, h⟩ => ⟨q, O.chg e k h⟩
  | .valT _ _, _, ⟨⟨v, q, h⟩, ht⟩ => ⟨⟨v, q, h.mono e⟩, fun p hp => ⟨(ht p hp).1, (ht p hp).2.chg e (k _ (ht p hp).1)⟩⟩
abbrev Rho := List Slot
structure FrOk (K : PySem.W.Frag) (Hs0 H0 : Hp) (r : Rho) (σ : St) (Hs H : Hp) (F : Nat → List Addr) : Prop where
  at_ : ∀ (i : Nat) s, r[i]? = some s → SlotF K Hs H s (σ[i]?) (F i)
  own : ∀ i x, x ∈ F i → H0 x = none ∧ Hs x = none ∧ H x ≠ none
  dist : ∀ i j x, x ∈ F i → x ∈ F j → i = j
  tb : ∀ (i : Nat) s, r[i]? = some s → tabS s = true → CdTab Hs0 H0
structure Asn (K : PySem.W.Frag) (Hs0 H0 : Hp) (r : Rho) (σ : St) (Hs H : Hp) : Prop where
  g : Grw Hs0 H0 Hs H
  fr : ∃ F, FrOk K Hs0 H0 r σ Hs H F
  len : r.length = σ.length
/-- what a slot says, its own places new -/
def SlotOk (K : PySem.W.Frag) (H0 Hs H : Hp) : Slot → Option (Option V) → Prop
  | .un, _ => True
  | .val d, o => ∃ v, o = some (some v) ∧ Dat Hs v d
  | .own ds, o => ∃ a vs, o = some (some (.ref a)) ∧ H0 a = none ∧ Hs a = none ∧ H a = some (.lst vs) ∧ Dats Hs vs ds
  | .dic P w kvs, o => ∃ a xs, o = some (some (.ref a)) ∧ H0 a = none ∧ Hs a = none ∧ H a = some (dkO P w a xs) ∧ DKV Hs xs kvs
  | .fd P w kvs, o => ∃ a ob xs, o = some (some (.ref a)) ∧ Hs a = some (.frz ob (dkO P w a xs)) ∧ DKV Hs xs kvs
  | .scr ns, o => ∃ a, o = some (some (.ref a)) ∧ SqL K Hs a (ns.map V.int)
  | .raw v, o => o = some (some v)
  | .scrT ns T, o => (∃ a, o = some (some (.ref a)) ∧ SqL K Hs a (ns.map V.int)) ∧ ∀ p ∈ T, (H0 p.1 = none ∧ Hs p.1 = none) ∧ TabF Hs H p.1 p.2
  | .oo dss, o => ∃ a ls, (a :: ls).Nodup ∧ o = some (some (.ref a)) ∧ (∀ x ∈ a :: ls, H0 x = none ∧ Hs x = none) ∧ H a = some (.lst (ls.map V.ref)) ∧ LLs Hs H ls dss
  | .obj a O, o => ∃ F, o = some (some (.ref a)) ∧ (∀ x ∈ F, H0 x = none ∧ Hs x = none ∧ H x ≠ none) ∧ O.J Hs H a F
  | .valT d T, o => (∃ v, o = some (some v) ∧ Dat Hs v d) ∧ ∀ p ∈ T, (H0 p.1 = none ∧ Hs p.1 = none) ∧ TabF Hs H p.1 p.2
theorem Asn.at_ {K : PySem.W.Frag} {Hs0 H0 : Hp} {r : Rho} {σ : St} {Hs H : Hp} (A : Asn K Hs0 H0 r σ Hs H) (i : Nat) (s : Slot) (e : r[i]? = some s) : SlotOk K H0 Hs H s (σ[i]?) := by
  obtain ⟨F, f⟩ := A.fr
  have q := f.at_ i s e
  cases s with
  | un => trivial
  | val d => exact q
  | own ds => obtain ⟨a, vs, m, q, h2, h3⟩ := q; exact ⟨a, vs, q, (f.own i a m).1, (f.own i a m).2.1, h2, h3⟩
  | dic _ _ ds => obtain ⟨a, vs, m, q, h2, h3⟩ := q; exact ⟨a, vs, q, (f.own i a m).1, (f.own i a m).2.1, h2, h3⟩
  | fd _ _ ds => exact q
  | scr ns => exact q
  | raw v => exact q
  | scrT ns T => obtain ⟨h1, h2⟩ := q; exact ⟨h1, fun p hp => ⟨⟨(f.own i _ (h2 p hp).1).1, (f.own i _ (h2 p hp).1).2.1⟩, (h2 p hp).2⟩⟩
  | oo dss => obtain ⟨a, ls, m, nd, q, h2, h3⟩ := q; exact ⟨a, ls, nd, q, fun x hx => ⟨(f.own i x (m x hx)).1, (f.own i x (m x hx)).2.1⟩, h2, h3⟩
  | obj a O => exact ⟨F i, q.1, f.own i, q.2⟩
  | valT d T => obtain ⟨h1, h2⟩ := q; exact ⟨h1, fun p hp => ⟨⟨(f.own i _ (h2 p hp).1).1, (f.own i _ (h2 p hp).1).2.1⟩, (h2 p hp).2⟩⟩
theorem Asn.grow {K : PySem.W.Frag} {Hs0 H0 : Hp} {r : Rho} {σ : St} {Hs H Hs' H' : Hp} (A : Asn K Hs0 H0 r σ Hs H) (g : Grw Hs H Hs' H') : Asn K Hs0 H0 r σ Hs' H' := by
  obtain ⟨F, f⟩ := A.fr
  refine ⟨A.g.trans g, ⟨F, fun i s e => (f.at_ i s e).chg g.st fun x _ o q => g.all _ _ q, fun i x m => ?_, f.dist, f.tb⟩, A.len⟩
  obtain ⟨h0, h1, h2⟩ := f.own i x m
  cases q : H x with
  | none => exact absurd q h2
  | some o => exact ⟨h0, g.stay h1 q, by rw [g.all _ _ q]; simp⟩
theorem Asn.val {K : PySem.W.Frag} {Hs0 H0 : Hp} {r : Rho} {σ : St} {Hs H : Hp} {i : Nat} {d : PyData} (A : Asn K Hs0 H0 r σ Hs H) (e : r[i]? = some (.val d)) : ∃ v, σ[i]? = some (some v) ∧ Dat Hs v d := A.at_ i _ e
/-- one slot is told anew, with other places of its own -/
theorem FrOk.put {K : PySem.W.Frag} {Hs0 H0 : Hp} {r : Rho} {σ σ' : St} {Hs H Hs' H' : Hp} {F : Nat → List Addr} (f : FrOk K Hs0 H0 r σ Hs H F) (i : Nat) (s : Slot) (G : List Addr) (hσ : ∀ j, j ≠ i → σ'[j]? = σ[j]?) (hs : Same Hs Hs')
    (hk : ∀ j, j ≠ i → ∀ x ∈ F j, (∀ o, H x = some o → H' x = some o) ∧ Hs' x = none) (hn : i < r.length → SlotF K Hs' H' s (σ'[i]?) G) (ho : ∀ x ∈ G, H0 x = none ∧ Hs' x = none ∧ H' x ≠ none) (hd : ∀ j, j ≠ i → ∀ x ∈ G, x ∉ F j) (hT : tabS s = false := by rfl) :
    FrOk K Hs0 H0 (r.set i s) σ' Hs' H' fun j => if j = i then G else F j := by
  refine ⟨fun j s' e => ?_, fun j x m => ?_, fun j k x m m' => ?_, fun j s' e ht => ?_⟩
  · rw [List.getElem?_set] at e
    by_cases z : j = i
    · subst z
      rw [if_pos rfl] at e ⊢
      by_cases w : j < r.length
      · rw [if_pos w] at e
        cases e
        exact hn w
      · rw [if_neg w] at e
        cases e
    · rw [if_neg fun w => z w.symm] at e
      rw [if_neg z, hσ j z]
      exact (f.at_ j s' e).chg hs fun x hx => (hk j z x hx).1
  · by_cases z : j = i
    · rw [if_pos z] at m
      exact ho x m
    · rw [if_neg z] at m
      obtain ⟨h0, h1, h2⟩ := f.own j x m
      refine ⟨h0, (hk j z x m).2, fun w => ?_⟩
      cases q : H x with
      | none => exact h2 q
      | some o => rw [(hk j z x m).1 o q] at w; cases w
  · by_cases z : j = i
    · rw [if_pos z] at m
      by_cases z' : k = i
      · rw [z, z']
      · rw [if_neg z'] at m'
        exact absurd m' (hd k z' x m)
    · rw [if_neg z] at m
      by_cases z' : k = i
      · rw [if_pos z'] at m'
        exact absurd m (hd j z x m')
      · rw [if_neg z'] at m'
        exact f.dist j k x m m'
  · rw [List.getElem?_set] at e
    by_cases z : i = j
    · rw [if_pos z] at e
      split at e
      · injection e with e; rw [← e, hT] at ht; cases ht
      · cases e
    · rw [if_neg z] at e
      exact f.tb j s' e ht
theorem set_other {σ : St} {i : Nat} {v : Option V} : ∀ j, j ≠ i → (σ.set i v)[j]? = σ[j]? := fun j h => by rw [List.getElem?_set_ne fun z => h z.symm]
theorem set_at {σ : St} {i : Nat} {v : Option V} (h : i < σ.length) : (σ.set i v)[i]? = some v := by rw [List.getElem?_set, if_pos rfl, if_pos h]
theorem FrOk.stay {K : PySem.W.Frag} {Hs0 H0 : Hp} {r : Rho} {σ : St} {Hs H : Hp} {F : Nat → List Addr} (f : FrOk K Hs0 H0 r σ Hs H F) (i : Nat) : ∀ j, j ≠ i → ∀ x ∈ F j, (∀ o, H x = some o → H x = some o) ∧ Hs x = none := fun j _ x m => ⟨fun _ q => q, (f.own j x m).2.1⟩
theorem Asn.setV {K : PySem.W.Frag} {Hs0 H0 : Hp} {r : Rho} {σ : St} {Hs H : Hp} {i : Nat} {v : V} {d : PyData} (A : Asn K Hs0 H0 r σ Hs H) (h : Dat Hs v d) : Asn K Hs0 H0 (r.set i (.val d)) (σ.set i (some v)) Hs H := by
  obtain ⟨F, f⟩ := A.fr
  exact ⟨A.g, ⟨_, f.put i (.val d) [] set_other (Same.refl Hs) (f.stay i) (fun w => ⟨v, set_at (by rw [← A.len]; exact w), h⟩) (fun x m => by cases m) (fun j _ x m => by cases m)⟩, by rw [List.length_set, List.length_set, A.len]⟩
theorem Asn.setU {K : PySem.W.Frag} {Hs0 H0 : Hp} {r : Rho} {σ : St} {Hs H : Hp} {i : Nat} {v : V} (A : Asn K Hs0 H0 r σ Hs H) : Asn K Hs0 H0 (r.set i .un) (σ.set i (some v)) Hs H := by
  obtain ⟨F, f⟩ := A.fr
  exact ⟨A.g, ⟨_, f.put i .un [] set_other (Same.refl Hs) (f.stay i) (fun _ => trivial) (fun x m => by cases m) (fun j _ x m => by cases m)⟩, by rw [List.length_set, List.length_set, A.len]⟩
/-- a new thing of one's own is stored at a name -/
theorem Asn.setG {K : PySem.W.Frag} {Hs0 H0 : Hp} {r : Rho} {σ : St} {Hs H Hs' H' : Hp} {i : Nat} {v : V} {s : Slot} (A : Asn K Hs0 H0 r σ Hs H) (g : Grw Hs H Hs' H') (G : List Addr) (hG : ∀ x ∈ G, H x = none ∧ Hs' x = none ∧ H' x ≠ none) (h : SlotF K Hs' H' s (some (some v)) G) (hT : tabS s = false := by rfl) :
    Asn K Hs0 H0 (r.set i s) (σ.set i (some v)) Hs' H' := by
  obtain ⟨F, f⟩ := A.fr
  refine ⟨A.g.trans g, ⟨_, f.put i s G set_other g.st (fun j _ x m => ?_) (fun w => ?_) (fun x m => ⟨A.g.all.free (hG x m).1, (hG x m).2⟩) (fun j _ x m m' => (f.own j x m').2.2 (hG x m).1) hT⟩, by rw [List.length_set, List.length_set, A.len]⟩
  · obtain ⟨h0, h1, h2⟩ := f.own j x m
    refine ⟨fun o q => g.all _ _ q, ?_⟩
    cases q : H x with
    | none => exact absurd q h2
    | some o => exact g.stay h1 q
  · rw [set_at (by rw [← A.len]; exact w)]
    exact h
/-- a new list is stored at a name -/
theorem Asn.setO {K : PySem.W.Frag} {Hs0 H0 : Hp} {r : Rho} {σ : St} {Hs H Hs' H' : Hp} {i : Nat} {p : Addr} {vs : List V} {ds : List PyData} (A : Asn K Hs0 H0 r σ Hs H) (g : Grw Hs H Hs' H') (hp : H p = none) (hp' : Hs' p = none) (h : H' p = some (.lst vs)) (hd : Dats Hs' vs ds) :
    Asn K Hs0 H0 (r.set i (.own ds)) (σ.set i (some (.ref p))) Hs' H' :=
  A.setG g [p] (fun x m => by rw [List.mem_singleton.mp m]; exact ⟨hp, hp', by rw [h]; simp⟩) ⟨p, vs, List.mem_singleton.mpr rfl, rfl, h, hd⟩
/-- slots forgotten -/
theorem Asn.weak {K : PySem.W.Frag} {Hs0 H0 : Hp} {r r' : Rho} {σ σ' : St} {Hs H : Hp} (A : Asn K Hs0 H0 r σ Hs H) (hl : r'.length = σ'.length) (w : ∀ (i : Nat) s, r'[i]? = some s → s = .un ∨ (r[i]? = some s ∧ σ'[i]? = σ[i]?)) : Asn K Hs0 H0 r' σ' Hs H := by
  obtain ⟨F, f⟩ := A.fr
  refine ⟨A.g, ⟨F, fun i s e => ?_, f.own, f.dist, fun i s e ht => ?_⟩, hl⟩
  · rcases w i s e with q | ⟨q, z⟩
    · subst q; trivial
    · rw [z]; exact f.at_ i s q
  · rcases w i _ e with q | ⟨q, z⟩
    · rw [q] at ht; cases ht
    · exact f.tb i s q ht

/-! ## judgements -/
def tD (K : PySem.W.Frag) (r : Rho) (d : PyData) : TE := fun σ H Q => ∃ Hs0 H0 Hs, Asn K Hs0 H0 r σ Hs H ∧ ∀ v Hs' H', Grw Hs H Hs' H' → Dat Hs' v d → Q v H'
/-- a new list -/
def tN (K : PySem.W.Frag) (r : Rho) (ds : List PyData) : TE := fun σ H Q => ∃ Hs0 H0 Hs, Asn K Hs0 H0 r σ Hs H ∧ ∀ p vs Hs' H', Grw Hs H Hs' H' → H p = none → Hs' p = none → H' p = some (.lst vs) → Dats Hs' vs ds → Q (.ref p) H'
def tDT (K : PySem.W.Frag) (r : Rho) (b : Bool) : TT := fun σ H Q => ∃ Hs0 H0 Hs, Asn K Hs0 H0 r σ Hs H ∧ ∀ Hs' H', Grw Hs H Hs' H' → Q b H'
def ArgOk (K : PySem.W.Frag) (Hs : Hp) (v : V) : Slot → Prop
  | .val d => Dat Hs v d
  | .scr ns => ∃ a, v = .ref a ∧ SqL K Hs a (ns.map V.int)
  | .fd P w kvs => ∃ a ob xs, v = .ref a ∧ Hs a = some (.frz ob (dkO P w a xs)) ∧ DKV Hs xs kvs
  | .raw u => v = u
  | _ => False
theorem ArgOk.mono {K : PySem.W.Frag} {Hs Hs' : Hp} {v : V} (e : Same Hs Hs') : ∀ {s : Slot}, ArgOk K Hs v s → ArgOk K Hs' v s
  | .val _, h => Dat.mono e h
  | .scr _, ⟨a, q, h⟩ => ⟨a, q, e.seq h⟩
  | .scrT _ _, h => h
  | .raw _, h => h
  | .un, h => h
  | .own _, h => h
  | .dic _ _ _, h => h
  | .fd _ _ _, ⟨a, ob, xs, q, h, h2⟩ => ⟨a, ob, xs, q, e _ _ h, h2.mono e⟩
  | .oo _, h => h
  | .obj _ _, h => h
  | .valT _ _, h => h
def Args (K : PySem.W.Frag) (Hs : Hp) : List V → Rho → Prop := Paired (ArgOk K Hs)
theorem Args.mono {K : PySem.W.Frag} {Hs Hs' : Hp} (e : Same Hs Hs') : ∀ {vs : List V} {ss : Rho}, Args K Hs vs ss → Args K Hs' vs ss
  | _, _, .nil => .nil
  | _, _, .cons h t => .cons (h.mono e) (Args.mono e t)
theorem Args.length {K : PySem.W.Frag} {Hs : Hp} {vs : List V} {ss : Rho} (h : Args K Hs vs ss) : vs.length = ss.length := Paired.length h
theorem Args.dats {K : PySem.W.Frag} {Hs : Hp} : ∀ {vs : List V} {ds : List PyData}, Args K Hs vs (ds.map Slot.val) → Dats Hs vs ds
  | [], [], _ => .nil
  | _ :: _, [], h => by cases h
  | [], _ :: _, h => by cases h
  | _ :: _, _ :: _, h => by
    cases h with
    | cons h r => exact .cons h (Args.dats r)
def tDG (K : PySem.W.Frag) (r : Rho) (s : Slot) : TE := fun σ H Q => ∃ Hs0 H0 Hs, Asn K Hs0 H0 r σ Hs H ∧ ∀ v Hs' H', Grw Hs H Hs' H' → ArgOk K Hs' v s → Q v H'
def tDA (K : PySem.W.Frag) (r : Rho) (ss : Rho) : TA := fun σ H Q => ∃ Hs0 H0 Hs, Asn K Hs0 H0 r σ Hs H ∧ ∀ vs Hs' H', Grw Hs H Hs' H' → Args K Hs' vs ss → Q vs H'
def DE (X : Cx) (r : Rho) (e : Expr) (d : PyData) : Prop := PE X e (tD X.K r d)
def DN (X : Cx) (r : Rho) (e : Expr) (ds : List PyData) : Prop := PE X e (tN X.K r ds)
def DT (X : Cx) (r : Rho) (e : Expr) (b : Bool) : Prop := PT X e (tDT X.K r b)
def DW (X : Cx) (r : Rho) (e : Expr) (b : Bool) : Prop := PW X e (tDT X.K r b)
def DAr (X : Cx) (r : Rho) (e : Expr) (s : Slot) : Prop := PE X e (tDG X.K r s)
def DA (X : Cx) (r : Rho) (es : List Expr) (ss : Rho) : Prop := PA X es (tDA X.K r ss)

theorem PE.wk {X : Cx} {e : Expr} {t t' : TE} (h : PE X e t) (m : ∀ pins s σ H Q, Inv X pins σ H s → t' σ H Q → t σ H Q) : PE X e t' := ⟨fun pins s σ H Q I q => h.run pins s σ H Q I (m pins s σ H Q I q)⟩
theorem PT.wk {X : Cx} {e : Expr} {t t' : TT} (h : PT X e t) (m : ∀ σ H Q, t' σ H Q → t σ H Q) : PT X e t' := ⟨fun pins s σ H Q I q => h.run pins s σ H Q I (m σ H Q q)⟩
theorem PW.wk {X : Cx} {e : Expr} {t t' : TT} (h : PW X e t) (m : ∀ σ H Q, t' σ H Q → t σ H Q) : PW X e t' := ⟨fun wh pins s σ H Q I q => h.run wh pins s σ H Q I (m σ H Q q)⟩
theorem PA.wk {X : Cx} {e : List Expr} {t t' : TA} (h : PA X e t) (m : ∀ σ H Q, t' σ H Q → t σ H Q) : PA X e t' := ⟨fun p pins s σ H Q I q => h.run p pins s σ H Q I (m σ H Q q)⟩
theorem PS.wk {X : Cx} {e : Stmt} {t t' : TS} (h : PS X e t) (m : ∀ pins s D σ H, Inv X pins σ H s → t' D σ H → t D σ H) : PS X e t' := ⟨fun pins s σ H D I q => h.run pins s σ H D I (m pins s D σ H I q)⟩
theorem PSs.wk {X : Cx} {e : List Stmt} {t t' : TS} (h : PSs X e t) (m : ∀ D σ H, t' D σ H → t D σ H) : PSs X e t' := ⟨fun pins s σ H D I q => h.run pins s σ H D I (m D σ H q)⟩
section
variable {X : Cx} {r : Rho} {e a b c : Expr} {pos : Pos} {d d1 d2 d3 : PyData} {ds : List PyData}
theorem DE.is (h : DE X r e d1) (q : d1 = d) : DE X r e d := q ▸ h
theorem DT.is {b b' : Bool} (h : DT X r e b) (q : b = b') : DT X r e b' := q ▸ h
theorem DN.is {ds' : List PyData} (h : DN X r e ds') (q : ds' = ds) : DN X r e ds := q ▸ h
theorem DN.de (h : DN X r e ds) : DE X r e (.list ds) := PE.wk h fun pins s σ H Q I ⟨Hs0, H0, Hs, A, q⟩ => ⟨Hs0, H0, Hs, A, fun p vs Hs' H' g hp hp' hv hd =>
  q (.ref p) (upd Hs' p (.lst vs)) H' (g.freeze hp hp' hv) (.lst upd_same (hd.mono (same_upd hp')))⟩
theorem DE.arg (h : DE X r e d) : DAr X r e (.val d) := PE.wk h fun pins s σ H Q I ⟨Hs0, H0, Hs, A, q⟩ => ⟨Hs0, H0, Hs, A, fun v Hs' H' g hv => q v Hs' H' g hv⟩
theorem da_nil : DA X r [] [] := PA.wk pa_nil fun σ H Q ⟨Hs0, H0, Hs, A, q⟩ => q [] Hs H (Grw.refl A.g.sub) .nil
theorem da_cons {es : List Expr} {s : Slot} {ss : Rho} (h : DAr X r e s) (t : DA X r es ss) (hs : starEach (e :: es) X.env = (false, eval e X.env) :: starEach es X.env := by rfl) : DA X r (e :: es) (s :: ss) :=
  PA.wk (pa_cons h t hs) fun σ H Q ⟨Hs0, H0, Hs, A, q⟩ => ⟨Hs0, H0, Hs, A, fun v Hs1 H1 g1 h1 => ⟨Hs0, H0, Hs1, A.grow g1, fun vs Hs2 H2 g2 h2 => q _ Hs2 H2 (g1.trans g2) (.cons (h1.mono g2.st) h2)⟩⟩
theorem da_1 (h : DE X r e d) (hs : starEach (e :: []) X.env = (false, eval e X.env) :: starEach [] X.env := by rfl) : DA X r [e] [.val d] := da_cons h.arg da_nil hs
/-! ### names, constants -/
theorem de_var (i : Nat) {x : Str} (hr : r[i]? = some (.val d) := by rfl) (hN : X.N[i]? = some x := by rfl) (hv : Vis X.env.scope x := by first | exact Or.inl rfl | exact Or.inr (Or.inl rfl) | exact Or.inr (Or.inr rfl))
    (hd : (x == ("__debug__" : Str)) = false := by decide) (hcd : (x == ("__classdict__" : Str)) = false := by decide) : DE X r (.Name x pos) d :=
  PE.wk (pe_var (i := i) hN hv hd hcd) fun pins s σ H Q I ⟨Hs0, H0, Hs, A, q⟩ => by
    obtain ⟨v, e1, h1⟩ := A.val hr
    exact ⟨v, e1, q v Hs H (Grw.refl A.g.sub) h1⟩
theorem dar_scr (i : Nat) {x : Str} {ns : List Int} (hr : r[i]? = some (.scr ns) := by rfl) (hN : X.N[i]? = some x := by rfl) (hv : Vis X.env.scope x := by first | exact Or.inl rfl | exact Or.inr (Or.inl rfl) | exact Or.inr (Or.inr rfl))
    (hd : (x == ("__debug__" : Str)) = false := by decide) (hcd : (x == ("__classdict__" : Str)) = false := by decide) : DAr X r (.Name x pos) (.scr ns) :=
  PE.wk (pe_var (i := i) hN hv hd hcd) fun pins s σ H Q I ⟨Hs0, H0, Hs, A, q⟩ => by
    obtain ⟨a, e1, h1⟩ := A.at_ i _ hr
    exact ⟨_, e1, q _ Hs H (Grw.refl A.g.sub) ⟨a, rfl, h1⟩⟩
theorem de_const {v : V} (h : PE X e (tC v)) (hv : ∀ H, Dat H v d) : DE X r e d := PE.wk h fun pins s σ H Q I ⟨Hs0, H0, Hs, A, q⟩ => q v Hs H (Grw.refl A.g.sub) (hv Hs)
theorem de_int {i : Int} {j : Nat} : DE X r (.Constant (.int i) j pos) (.int i) := de_const pe_int fun _ => .int i
theorem de_bl {i : Bool} {j : Nat} : DE X r (.Constant (.bool i) j pos) (.bool i) := de_const pe_bl fun _ => .bl i
theorem de_non {j : Nat} : DE X r (.Constant .none j pos) .none := de_const pe_non fun _ => .non
theorem de_str {x : Str} {j : Nat} : DE X r (.Constant (.str x) j pos) (.str x) := de_const pe_str fun _ => .str x
/-! ### operators by values -/
def R2D (r2 : R2) (d1 d2 d : PyData) : Prop := ∀ x y Hs H Q, Dat Hs x d1 → Dat Hs y d2 → Same Hs H → (∀ v Hs' H', Grw Hs H Hs' H' → Dat Hs' v d → Q v H') → r2 x y H Q
theorem tOp_d {K : PySem.W.Frag} {r2 : R2} (h : R2D r2 d1 d2 d) {σ : St} {H : Hp} {Q : VK} (q : tD K r d σ H Q) : tOp r2 (tD K r d1) (tD K r d2) σ H Q := by
  obtain ⟨Hs0, H0, Hs, A, q⟩ := q
  exact ⟨Hs0, H0, Hs, A, fun x Hs1 H1 g1 h1 => ⟨Hs0, H0, Hs1, A.grow g1, fun y Hs2 H2 g2 h2 => h x y Hs2 H2 Q (h1.mono g2.st) h2 g2.sub fun v Hs3 H3 g3 h3 => q v Hs3 H3 ((g1.trans g2).trans g3) h3⟩⟩
theorem de_op {op : Operator} {r2 : R2} (ho : OpR X (binaryOp op) r2) (h : R2D r2 d1 d2 d) (ha : DE X r a d1) (hb : DE X r b d2) : DE X r (.BinOp a op b pos) d :=
  PE.wk (pe_op ho ha hb) fun pins s σ H Q I q => tOp_d h q
theorem de_cmp {op : CmpOp} {r2 : R2} (ho : OpR X (compareOp op) r2) (h : R2D r2 d1 d2 d) (ha : DE X r a d1) (hb : DE X r b d2) (hm : behindInMarks op b = false) : DE X r (.Compare a [op] [b] pos) d :=
  PE.wk (pe_cmpR ho ha hb hm) fun pins s σ H Q I q => tOp_d h q
theorem de_ixr {r2 : R2} (ho : IxR X r2) (h : R2D r2 d1 d2 d) (ha : DE X r a d1) (hb : DE X r b d2) (hs : PlainIx b) : DE X r (.Subscript a b pos) d :=
  PE.wk (pe_ix ho ha hb hs) fun pins s σ H Q I q => tOp_d h q
theorem r2_int {C : Int → Int → Prop} {g : Int → Int → Int} {i j : Int} (hc : C i j) : R2D (rI C fun i j => .int (g i j)) (.int i) (.int j) (.int (g i j)) := fun x y Hs H Q hx hy hs q => by
  rw [hx.inv_int, hy.inv_int]
  exact ⟨i, j, rfl, rfl, hc, q _ Hs H (Grw.refl hs) (.int _)⟩
theorem r2_int0 {g : Int → Int → Int} {i j : Int} : R2D (rI0 fun i j => .int (g i j)) (.int i) (.int j) (.int (g i j)) := fun x y Hs H Q hx hy hs q => by
  rw [hx.inv_int, hy.inv_int]
  exact ⟨i, j, rfl, rfl, q _ Hs H (Grw.refl hs) (.int _)⟩
theorem r2_bl0 {g : Int → Int → Bool} {i j : Int} : R2D (rI0 fun i j => .bl (g i j)) (.int i) (.int j) (.bool (g i j)) := fun x y Hs H Q hx hy hs q => by
  rw [hx.inv_int, hy.inv_int]
  exact ⟨i, j, rfl, rfl, q _ Hs H (Grw.refl hs) (.bl _)⟩
variable {i j : Int}
theorem de_add (ha : DE X r a (.int i)) (hb : DE X r b (.int j)) : DE X r (.BinOp a .Add b pos) (.int (i + j)) := de_op op_add r2_int0 ha hb
theorem de_sub (ha : DE X r a (.int i)) (hb : DE X r b (.int j)) : DE X r (.BinOp a .Sub b pos) (.int (i - j)) := de_op op_sub r2_int0 ha hb
theorem de_mul (hc : CMul i j) (ha : DE X r a (.int i)) (hb : DE X r b (.int j)) : DE X r (.BinOp a .Mult b pos) (.int (i * j)) := de_op op_mul (r2_int hc) ha hb
theorem de_fdiv (hc : 0 < j ∧ j < 1073741824) (ha : DE X r a (.int i)) (hb : DE X r b (.int j)) : DE X r (.BinOp a .FloorDiv b pos) (.int (i / j)) := de_op op_fdiv (r2_int hc) ha hb
theorem de_mod (hc : 0 < j) (ha : DE X r a (.int i)) (hb : DE X r b (.int j)) : DE X r (.BinOp a .Mod b pos) (.int (i % j)) := de_op op_mod (r2_int (C := fun _ j => 0 < j) hc) ha hb
theorem de_lt (ha : DE X r a (.int i)) (hb : DE X r b (.int j)) : DE X r (.Compare a [.Lt] [b] pos) (.bool (decide (i < j))) := de_cmp op_lt r2_bl0 ha hb (nomark _)
theorem de_le (ha : DE X r a (.int i)) (hb : DE X r b (.int j)) : DE X r (.Compare a [.LtE] [b] pos) (.bool (decide (i ≤ j))) := de_cmp op_le r2_bl0 ha hb (nomark _)
theorem de_gt (ha : DE X r a (.int i)) (hb : DE X r b (.int j)) : DE X r (.Compare a [.Gt] [b] pos) (.bool (decide (j < i))) := de_cmp op_gt r2_bl0 ha hb (nomark _)
theorem de_ge (ha : DE X r a (.int i)) (hb : DE X r b (.int j)) : DE X r (.Compare a [.GtE] [b] pos) (.bool (decide (j ≤ i))) := de_cmp op_ge r2_bl0 ha hb (nomark _)
def isNone : PyData → Bool
  | .none => true
  | _ => false
theorem Dat.isN {H : Hp} {v : V} {d : PyData} (h : Dat H v d) : decide (v = .non) = isNone d := by
  cases h <;> first | rfl | (apply decide_eq_false; intro q; cases q)
theorem de_isN {k : Nat} {p : Pos} (ha : DE X r a d) : DE X r (.Compare a [.Is] [.Constant .none k p] pos) (.bool (isNone d)) :=
  de_cmp op_isN (fun x y Hs H Q hx hy hs q => ⟨hy.inv_none, by rw [hx.isN]; exact q _ Hs H (Grw.refl hs) (.bl _)⟩) ha de_non (nomark _)
theorem de_notN {k : Nat} {p : Pos} (ha : DE X r a d) : DE X r (.Compare a [.IsNot] [.Constant .none k p] pos) (.bool (!isNone d)) :=
  de_cmp op_notN (fun x y Hs H Q hx hy hs q => ⟨hy.inv_none, by rw [hx.isN]; exact q _ Hs H (Grw.refl hs) (.bl _)⟩) ha de_non (nomark _)
/-! ### tests -/
theorem dt_val {b : Bool} (h : DE X r e (.bool b)) (he : ∀ whole, isTrue e X.env whole = (do let v ← whole; standAt e.pos; holding [v] (truthy v)) := by intro _; rfl) : DT X r e b :=
  PT.wk (pt_val h he) fun σ H Q ⟨Hs0, H0, Hs, A, q⟩ => ⟨Hs0, H0, Hs, A, fun v Hs' H' g hv => ⟨b, hv.inv_bool, q Hs' H' g⟩⟩
theorem dt_cmp {op : CmpOp} {r2 : R2} {k : Bool} (ho : OpR X (compareOp op) r2) (h : R2D r2 d1 d2 (.bool k)) (ha : DE X r a d1) (hb : DE X r b d2) (hm : behindInMarks op b = false) : DT X r (.Compare a [op] [b] pos) k :=
  PT.wk (pt_cmpR ho ha hb hm) fun σ H Q ⟨Hs0, H0, Hs, A, q⟩ => tOp_d h ⟨Hs0, H0, Hs, A, fun v Hs' H' g hv => ⟨k, hv.inv_bool, q Hs' H' g⟩⟩
theorem dt_lt (ha : DE X r a (.int i)) (hb : DE X r b (.int j)) : DT X r (.Compare a [.Lt] [b] pos) (decide (i < j)) := dt_cmp op_lt r2_bl0 ha hb (nomark _)
theorem dt_le (ha : DE X r a (.int i)) (hb : DE X r b (.int j)) : DT X r (.Compare a [.LtE] [b] pos) (decide (i ≤ j)) := dt_cmp op_le r2_bl0 ha hb (nomark _)
theorem dt_gt (ha : DE X r a (.int i)) (hb : DE X r b (.int j)) : DT X r (.Compare a [.Gt] [b] pos) (decide (j < i)) := dt_cmp op_gt r2_bl0 ha hb (nomark _)
theorem dt_ge (ha : DE X r a (.int i)) (hb : DE X r b (.int j)) : DT X r (.Compare a [.GtE] [b] pos) (decide (j ≤ i)) := dt_cmp op_ge r2_bl0 ha hb (nomark _)
theorem dt_isN {k : Nat} {p : Pos} (ha : DE X r a d) : DT X r (.Compare a [.Is] [.Constant .none k p] pos) (isNone d) :=
  dt_cmp op_isN (fun x y Hs H Q hx hy hs q => ⟨hy.inv_none, by rw [hx.isN]; exact q _ Hs H (Grw.refl hs) (.bl _)⟩) ha de_non (nomark _)
theorem dt_notN {k : Nat} {p : Pos} (ha : DE X r a d) : DT X r (.Compare a [.IsNot] [.Constant .none k p] pos) (!isNone d) :=
  dt_cmp op_notN (fun x y Hs H Q hx hy hs q => ⟨hy.inv_none, by rw [hx.isN]; exact q _ Hs H (Grw.refl hs) (.bl _)⟩) ha de_non (nomark _)
variable {k k' : Bool} {rest : List Expr}
theorem DW.dt (h : DW X r e k) : DT X r e k := PW.pt h
theorem dw_and1 (h : DT X r a k) : DW X r (.BoolOp .And [a] pos) k := pw_and1 h
theorem dw_or1 (h : DT X r a k) : DW X r (.BoolOp .Or [a] pos) k := pw_or1 h
theorem pw_never : PW X e (fun _ _ _ => False) := ⟨fun _ _ _ _ _ _ _ h => h.elim⟩
theorem dw_and (h : DT X r a k) (h' : k = true → DW X r (.BoolOp .And (b :: rest) pos) k') : DW X r (.BoolOp .And (a :: b :: rest) pos) (k && k') := by
  cases k with
  | true => exact PW.wk (pw_and h (h' rfl)) fun σ H Q ⟨Hs0, H0, Hs, A, q⟩ => ⟨Hs0, H0, Hs, A, fun Hs' H' g => iteT (⟨Hs0, H0, Hs', A.grow g, fun Hs2 H2 g2 => q Hs2 H2 (g.trans g2)⟩)⟩
  | false => exact PW.wk (pw_and h pw_never) fun σ H Q ⟨Hs0, H0, Hs, A, q⟩ => ⟨Hs0, H0, Hs, A, fun Hs' H' g => iteF (q Hs' H' g)⟩
theorem dw_or (h : DT X r a k) (h' : k = false → DW X r (.BoolOp .Or (b :: rest) pos) k') : DW X r (.BoolOp .Or (a :: b :: rest) pos) (k || k') := by
  cases k with
  | false => exact PW.wk (pw_or h (h' rfl)) fun σ H Q ⟨Hs0, H0, Hs, A, q⟩ => ⟨Hs0, H0, Hs, A, fun Hs' H' g => iteF (⟨Hs0, H0, Hs', A.grow g, fun Hs2 H2 g2 => q Hs2 H2 (g.trans g2)⟩)⟩
  | true => exact PW.wk (pw_or h pw_never) fun σ H Q ⟨Hs0, H0, Hs, A, q⟩ => ⟨Hs0, H0, Hs, A, fun Hs' H' g => iteT (q Hs' H' g)⟩
theorem dt_not (h : DT X r a k) : DT X r (.UnaryOp .Not a pos) (!k) := PT.wk (pt_not h) fun σ H Q ⟨Hs0, H0, Hs, A, q⟩ => ⟨Hs0, H0, Hs, A, q⟩
theorem de_not (h : DE X r a (.bool k)) : DE X r (.UnaryOp .Not a pos) (.bool (!k)) := PE.wk (pe_not h) fun pins s σ H Q I ⟨Hs0, H0, Hs, A, q⟩ => ⟨Hs0, H0, Hs, A, fun v Hs' H' g hv => ⟨k, hv.inv_bool, q _ Hs' H' g (.bl _)⟩⟩
theorem de_one {op : PySem.BoolOp} (h : DE X r a d) : DE X r (.BoolOp op [a] pos) d := pe_one h
theorem pe_never : PE X e (fun _ _ _ => False) := ⟨fun _ _ _ _ _ _ h => h.elim⟩
theorem pt_never : PT X e (fun _ _ _ => False) := ⟨fun _ _ _ _ _ _ h => h.elim⟩
theorem de_and (h : DE X r a (.bool k)) (h' : k = true → DE X r (.BoolOp .And (b :: rest) pos) (.bool k')) : DE X r (.BoolOp .And (a :: b :: rest) pos) (.bool (k && k')) := by
  cases k with
  | true => exact PE.wk (pe_and h (h' rfl)) fun pins s σ H Q I ⟨Hs0, H0, Hs, A, q⟩ => ⟨Hs0, H0, Hs, A, fun v Hs' H' g hv => ⟨true, hv.inv_bool, iteT (⟨Hs0, H0, Hs', A.grow g, fun v Hs2 H2 g2 h2 => q v Hs2 H2 (g.trans g2) h2⟩)⟩⟩
  | false => exact PE.wk (pe_and h pe_never) fun pins s σ H Q I ⟨Hs0, H0, Hs, A, q⟩ => ⟨Hs0, H0, Hs, A, fun v Hs' H' g hv => ⟨false, hv.inv_bool, iteF (q _ Hs' H' g (.bl _))⟩⟩
theorem de_or (h : DE X r a (.bool k)) (h' : k = false → DE X r (.BoolOp .Or (b :: rest) pos) (.bool k')) : DE X r (.BoolOp .Or (a :: b :: rest) pos) (.bool (k || k')) := by
  cases k with
  | false => exact PE.wk (pe_or h (h' rfl)) fun pins s σ H Q I ⟨Hs0, H0, Hs, A, q⟩ => ⟨Hs0, H0, Hs, A, fun v Hs' H' g hv => ⟨false, hv.inv_bool, iteF (⟨Hs0, H0, Hs', A.grow g, fun v Hs2 H2 g2 h2 => q v Hs2 H2 (g.trans g2) h2⟩)⟩⟩
  | true => exact PE.wk (pe_or h pe_never) fun pins s σ H Q I ⟨Hs0, H0, Hs, A, q⟩ => ⟨Hs0, H0, Hs, A, fun v Hs' H' g hv => ⟨true, hv.inv_bool, iteT (q _ Hs' H' g (.bl _))⟩⟩
theorem de_ifExp (h : DT X r c k) (ha : k = true → DE X r a d) (hb : k = false → DE X r b d) : DE X r (.IfExp c a b pos) d := by
  cases k with
  | true => exact PE.wk (pe_ifExp h (ha rfl) pe_never) fun pins s σ H Q I ⟨Hs0, H0, Hs, A, q⟩ => ⟨Hs0, H0, Hs, A, fun Hs' H' g => iteT (⟨Hs0, H0, Hs', A.grow g, fun v Hs2 H2 g2 h2 => q v Hs2 H2 (g.trans g2) h2⟩)⟩
  | false => exact PE.wk (pe_ifExp h pe_never (hb rfl)) fun pins s σ H Q I ⟨Hs0, H0, Hs, A, q⟩ => ⟨Hs0, H0, Hs, A, fun Hs' H' g => iteF (⟨Hs0, H0, Hs', A.grow g, fun v Hs2 H2 g2 h2 => q v Hs2 H2 (g.trans g2) h2⟩)⟩
/-! ### displays -/
theorem de_tup {es : List Expr} {k : Nat} (h : DA X r es (ds.map Slot.val)) (hz : ds.length ≤ sizeLine) : DE X r (.Tuple es k pos) (.tuple ds) :=
  PE.wk (pe_tup h) fun pins s σ H Q I ⟨Hs0, H0, Hs, A, q⟩ => ⟨Hs0, H0, Hs, A, fun vs Hs1 H1 g1 h1 => ⟨by rw [h1.length, List.length_map]; exact hz, fun p hp =>
    q _ _ _ (g1.trans (Grw.laid (o := .tup vs) g1.sub hp)) (.tup (.inl upd_same) (h1.dats.mono (same_upd (g1.sub.free hp))))⟩⟩
theorem dn_lst {es : List Expr} (h : DA X r es (ds.map Slot.val)) (hz : ds.length ≤ sizeLine) : DN X r (.List es pos) ds :=
  PE.wk (pe_lst h) fun pins s σ H Q I ⟨Hs0, H0, Hs, A, q⟩ => ⟨Hs0, H0, Hs, A, fun vs Hs1 H1 g1 h1 => ⟨by rw [h1.length, List.length_map]; exact hz, fun p hp =>
    q p vs Hs1 (upd H1 p (.lst vs)) (g1.trans (Grw.laidO g1.sub hp)) (g1.all.free hp) (g1.sub.free hp) upd_same h1.dats⟩⟩
/-! ### built-in calls, methods -/
def CRD (rc : List V → Hp → VK → Prop) (ds : List PyData) (d : PyData) : Prop := ∀ vs Hs H Q, Dats Hs vs ds → Same Hs H → (∀ v Hs' H', Grw Hs H Hs' H' → Dat Hs' v d → Q v H') → rc vs H Q
def CRN (rc : List V → Hp → VK → Prop) (ds es : List PyData) : Prop := ∀ vs Hs H Q, Dats Hs vs ds → Same Hs H → (∀ p vs Hs' H', Grw Hs H Hs' H' → H p = none → Hs' p = none → H' p = some (.lst vs) → Dats Hs' vs es → Q (.ref p) H') → rc vs H Q
theorem tCB_d {K : PySem.W.Frag} {rc : List V → Hp → VK → Prop} (h : CRD rc ds d) {σ : St} {H : Hp} {Q : VK} (q : tD K r d σ H Q) : tCB rc (tDA K r (ds.map Slot.val)) σ H Q := by
  obtain ⟨Hs0, H0, Hs, A, q⟩ := q
  exact ⟨Hs0, H0, Hs, A, fun vs Hs1 H1 g1 h1 => h vs Hs1 H1 Q h1.dats g1.sub fun v Hs2 H2 g2 h2 => q v Hs2 H2 (g1.trans g2) h2⟩
theorem tCB_n {K : PySem.W.Frag} {rc : List V → Hp → VK → Prop} {es : List PyData} (h : CRN rc ds es) {σ : St} {H : Hp} {Q : VK} (q : tN K r es σ H Q) : tCB rc (tDA K r (ds.map Slot.val)) σ H Q := by
  obtain ⟨Hs0, H0, Hs, A, q⟩ := q
  exact ⟨Hs0, H0, Hs, A, fun vs Hs1 H1 g1 h1 => h vs Hs1 H1 Q h1.dats g1.sub fun p vs Hs2 H2 g2 hp hp' h2 h3 => q p vs Hs2 H2 (g1.trans g2) (g1.all.free hp) hp' h2 h3⟩
theorem de_callB {id : String} {x : Str} {rc : List V → Hp → VK → Prop} {es : List Expr} {p : Pos} (hc : CallR X (.builtin id) rc) (h : CRD rc ds d) (hg : Gl X x) (hm : X.mg x = none) (hv : bootBuiltins x = some (.builtin id)) (ha : DA X r (e :: es) (ds.map Slot.val)) (hn : x ≠ "__name__" := by decide) (hdb : (x == ("__debug__" : Str)) = false := by decide)
    (he : starEach (e :: es) X.env = (false, eval e X.env) :: starEach es X.env := by rfl) (hpl : (backTo pos (starEach es X.env)).any (·.1) = false := by rfl) : DE X r (.Call (.Name x p) (e :: es) [] pos) d :=
  PE.wk (pe_callB hc hg hm hv ha hn hdb he hpl) fun pins s σ H Q I q => tCB_d h q
theorem dn_callB {id : String} {x : Str} {rc : List V → Hp → VK → Prop} {es : List Expr} {p : Pos} {ls : List PyData} (hc : CallR X (.builtin id) rc) (h : CRN rc ds ls) (hg : Gl X x) (hm : X.mg x = none) (hv : bootBuiltins x = some (.builtin id)) (ha : DA X r (e :: es) (ds.map Slot.val)) (hn : x ≠ "__name__" := by decide) (hdb : (x == ("__debug__" : Str)) = false := by decide)
    (he : starEach (e :: es) X.env = (false, eval e X.env) :: starEach es X.env := by rfl) (hpl : (backTo pos (starEach es X.env)).any (·.1) = false := by rfl) : DN X r (.Call (.Name x p) (e :: es) [] pos) ls :=
  PE.wk (pe_callB hc hg hm hv ha hn hdb he hpl) fun pins s σ H Q I q => tCB_n h q
theorem de_callT {T : String} {x : Str} {rc : List V → Hp → VK → Prop} {es : List Expr} {p : Pos} (hc : CallR X (.type T) rc) (h : CRD rc ds d) (hg : Gl X x) (hm : X.mg x = none) (hv : bootBuiltins x = some (.type T)) (ha : DA X r (e :: es) (ds.map Slot.val)) (hn : x ≠ "__name__" := by decide) (hdb : (x == ("__debug__" : Str)) = false := by decide)
    (he : starEach (e :: es) X.env = (false, eval e X.env) :: starEach es X.env := by rfl) (hpl : (backTo pos (starEach es X.env)).any (·.1) = false := by rfl) : DE X r (.Call (.Name x p) (e :: es) [] pos) d :=
  PE.wk (pe_callTy hc hg hm hv ha hn hdb he hpl) fun pins s σ H Q I q => tCB_d h q
theorem dn_callT {T : String} {x : Str} {rc : List V → Hp → VK → Prop} {es : List Expr} {p : Pos} {ls : List PyData} (hc : CallR X (.type T) rc) (h : CRN rc ds ls) (hg : Gl X x) (hm : X.mg x = none) (hv : bootBuiltins x = some (.type T)) (ha : DA X r (e :: es) (ds.map Slot.val)) (hn : x ≠ "__name__" := by decide) (hdb : (x == ("__debug__" : Str)) = false := by decide)
    (he : starEach (e :: es) X.env = (false, eval e X.env) :: starEach es X.env := by rfl) (hpl : (backTo pos (starEach es X.env)).any (·.1) = false := by rfl) : DN X r (.Call (.Name x p) (e :: es) [] pos) ls :=
  PE.wk (pe_callTy hc hg hm hv ha hn hdb he hpl) fun pins s σ H Q I q => tCB_n h q
end
end Dl

namespace Dl
open PySem L2
/-! ## statements -/
structure Post where
  nx : Rho → Prop
  rt : PyData → Prop := fun _ => False
  bk : Rho → Prop := fun _ => False
  ct : Rho → Prop := fun _ => False
  ex : Addr → Rho → Prop := fun _ _ => False
  /-- a thing of the def's own is returned -/
  rs : Slot → Prop := fun _ => False
  /-- returned, with what the names are -/
  ro : PyData → Rho → Prop := fun _ _ => False
structure Wants (K : PySem.W.Frag) (E : XK) (P : Post) (D : Ends) (Hs0 H0 Hs : Hp) : Prop where
  nx : ∀ r' σ' Hs' H', P.nx r' → Asn K Hs0 H0 r' σ' Hs' H' → Same Hs Hs' → D.nx σ' H'
  rt : ∀ d v Hs' H', P.rt d → Grw Hs0 H0 Hs' H' → Dat Hs' v d → D.rt v H'
  bk : ∀ r' σ' Hs' H', P.bk r' → Asn K Hs0 H0 r' σ' Hs' H' → Same Hs Hs' → D.bk σ' H'
  ct : ∀ r' σ' Hs' H', P.ct r' → Asn K Hs0 H0 r' σ' Hs' H' → Same Hs Hs' → D.ct σ' H'
  ex : ∀ C r' σ' Hs' H', P.ex C r' → Asn K Hs0 H0 r' σ' Hs' H' → E (.ref C) none H'
  rs : ∀ s v Hs' H' G, P.rs s → Grw Hs0 H0 Hs' H' → (∀ x ∈ G, H0 x = none ∧ Hs' x = none ∧ H' x ≠ none) → SlotF K Hs' H' s (some (some v)) G → D.rt v H'
  ro : ∀ d r' v σ' Hs' H', P.ro d r' → Asn K Hs0 H0 r' σ' Hs' H' → Dat Hs' v d → D.rt v H'
def tDS (K : PySem.W.Frag) (E : XK) (r : Rho) (P : Post) : TS := fun D σ H => ∃ Hs0 H0 Hs, Asn K Hs0 H0 r σ Hs H ∧ Wants K E P D Hs0 H0 Hs
def DS (X : Cx) (E : XK) (r : Rho) (st : Stmt) (P : Post) : Prop := PS X st (tDS X.K E r P)
def DSs (X : Cx) (E : XK) (r : Rho) (sts : List Stmt) (P : Post) : Prop := PSs X sts (tDS X.K E r P)
theorem Wants.st {K : PySem.W.Frag} {E : XK} {P : Post} {D : Ends} {Hs0 H0 Hs Hs1 : Hp} (w : Wants K E P D Hs0 H0 Hs) (e : Same Hs Hs1) : Wants K E P D Hs0 H0 Hs1 :=
  ⟨fun r' σ' Hs' H' p a s => w.nx r' σ' Hs' H' p a (e.trans s), w.rt, fun r' σ' Hs' H' p a s => w.bk r' σ' Hs' H' p a (e.trans s), fun r' σ' Hs' H' p a s => w.ct r' σ' Hs' H' p a (e.trans s), w.ex, w.rs, w.ro⟩
section
variable {X : Cx} {E : XK} {r r1 : Rho} {P : Post} {st : Stmt} {rest sts : List Stmt} {e a b c : Expr} {pos : Pos} {d d1 d2 : PyData} {ds : List PyData} {K : PySem.W.Frag}
theorem dss_nil (h : P.nx r) : DSs X E r [] P := PSs.wk pss_nil fun D σ H ⟨Hs0, H0, Hs, A, w⟩ => w.nx r σ Hs H h A (Same.refl Hs)
theorem dss_seq {M : Rho → Prop} (h : DS X E r st { P with nx := M }) (h' : ∀ r1, M r1 → DSs X E r1 rest P) : DSs X E r (st :: rest) P := by
  have hr : PSs X rest (fun D σ H => ∃ r1, M r1 ∧ tDS X.K E r1 P D σ H) := ⟨fun pins s σ H D I ⟨r1, m, q⟩ => (h' r1 m).run pins s σ H D I q⟩
  refine PSs.wk (pss_cons h hr) fun D σ H ⟨Hs0, H0, Hs, A, w⟩ => ⟨Hs0, H0, Hs, A, ?_⟩
  exact ⟨fun r' σ' Hs' H' p a s => ⟨r', p, Hs0, H0, Hs', a, w.st s⟩, w.rt, w.bk, w.ct, w.ex, w.rs, w.ro⟩
theorem dss_cons (h : DS X E r st { P with nx := fun z => z = r1 }) (h' : DSs X E r1 rest P) : DSs X E r (st :: rest) P := dss_seq h fun _ e => e ▸ h'
theorem dss_one (h : DS X E r st P) : DSs X E r [st] P := pss_one h
theorem ds_if {k : Bool} {as bs : List Stmt} (h : DT X r c k) (ha : k = true → DSs X E r as P) (hb : k = false → DSs X E r bs P) : DS X E r (.If c as bs pos) P := by
  cases k with
  | true => exact PS.wk (ps_if h (ha rfl) (pss_never (sts := bs))) fun _ _ D σ H _ ⟨Hs0, H0, Hs, A, w⟩ => ⟨Hs0, H0, Hs, A, fun Hs' H' g => iteT ⟨Hs0, H0, Hs', A.grow g, w.st g.st⟩⟩
  | false => exact PS.wk (ps_if h (pss_never (sts := as)) (hb rfl)) fun _ _ D σ H _ ⟨Hs0, H0, Hs, A, w⟩ => ⟨Hs0, H0, Hs, A, fun Hs' H' g => iteF ⟨Hs0, H0, Hs', A.grow g, w.st g.st⟩⟩
theorem ds_ret (h : DE X r e d) (hp : P.rt d) : DS X E r (.Return (some e) pos) P :=
  PS.wk (ps_ret h) fun _ _ D σ H _ ⟨Hs0, H0, Hs, A, w⟩ => ⟨Hs0, H0, Hs, A, fun v Hs' H' g hv => w.rt d v Hs' H' hp (A.g.trans g) hv⟩
theorem ds_expr (h : DE X r e d) (hp : P.nx r) (hs : swapsWith e none pos.line X.env = pure false := by rfl) : DS X E r (.Expr e pos) P :=
  PS.wk (ps_expr h hs) fun _ _ D σ H _ ⟨Hs0, H0, Hs, A, w⟩ => ⟨Hs0, H0, Hs, A, fun v Hs' H' g hv => w.nx r σ Hs' H' hp (A.grow g) g.st⟩
theorem ds_pass (hp : P.nx r) : DS X E r (.Pass pos) P := PS.wk ps_pass fun _ _ D σ H _ ⟨Hs0, H0, Hs, A, w⟩ => w.nx r σ Hs H hp A (Same.refl Hs)
theorem ds_break (hp : P.bk r) : DS X E r (.Break pos) P := PS.wk ps_break fun _ _ D σ H _ ⟨Hs0, H0, Hs, A, w⟩ => w.bk r σ Hs H hp A (Same.refl Hs)
theorem ds_set (i : Nat) {x : Str} {pos' : Pos} (hN : X.N.Nodup) (he : DE X r e d) (hp : P.nx (r.set i (.val d))) (hi : X.N[i]? = some x := by rfl) (hx : Loc X.env.scope x := by first | exact Or.inl rfl | exact Or.inr rfl)
    (hs : swapsWith e (some (.Name x pos')) pos.line X.env = pure false := by rfl) (hf : X.fn x = true ∨ X.env.scope.names.lookup x = some .local := by first | exact .inl rfl | exact .inr rfl | assumption) : DS X E r (.Assign [.Name x pos'] e pos) P :=
  PS.wk (ps_set (i := i) hN hi hx he hs hf) fun _ _ D σ H _ ⟨Hs0, H0, Hs, A, w⟩ => ⟨Hs0, H0, Hs, A, fun v Hs' H' g hv => w.nx _ _ Hs' H' hp ((A.grow g).setV hv) g.st⟩
theorem ds_setN (i : Nat) {x : Str} {pos' : Pos} (hN : X.N.Nodup) (he : DN X r e ds) (hp : P.nx (r.set i (.own ds))) (hi : X.N[i]? = some x := by rfl) (hx : Loc X.env.scope x := by first | exact Or.inl rfl | exact Or.inr rfl)
    (hs : swapsWith e (some (.Name x pos')) pos.line X.env = pure false := by rfl) (hf : X.fn x = true ∨ X.env.scope.names.lookup x = some .local := by first | exact .inl rfl | exact .inr rfl | assumption) : DS X E r (.Assign [.Name x pos'] e pos) P :=
  PS.wk (ps_set (i := i) hN hi hx he hs hf) fun _ _ D σ H _ ⟨Hs0, H0, Hs, A, w⟩ => ⟨Hs0, H0, Hs, A, fun p vs Hs' H' g hp1 hp2 hv hd => w.nx _ _ Hs' H' hp (A.setO g hp1 hp2 hv hd) g.st⟩
/-- an owned list handed from one name to another -/
theorem ds_move (i j : Nat) {x y : Str} {pos' py : Pos} (hN : X.N.Nodup) (hr : r[j]? = some (.own ds)) (hij : i ≠ j) (hp : P.nx ((r.set j .un).set i (.own ds))) (hi : X.N[i]? = some x := by rfl) (hj : X.N[j]? = some y := by rfl)
    (hx : Loc X.env.scope x := by first | exact Or.inl rfl | exact Or.inr rfl) (hv : Vis X.env.scope y := by first | exact Or.inl rfl | exact Or.inr (Or.inl rfl) | exact Or.inr (Or.inr rfl))
    (hd : (y == ("__debug__" : Str)) = false := by decide) (hcd : (y == ("__classdict__" : Str)) = false := by decide)
    (hs : swapsWith (.Name y py) (some (.Name x pos')) pos.line X.env = pure false := by rfl) (hf : X.fn x = true ∨ X.env.scope.names.lookup x = some .local := by first | exact .inl rfl | exact .inr rfl | assumption) : DS X E r (.Assign [.Name x pos'] (.Name y py) pos) P :=
  PS.wk (ps_set (i := i) hN hi hx (pe_var (i := j) hj hv hd hcd) hs hf) fun _ _ D σ H _ ⟨Hs0, H0, Hs, A, w⟩ => by
    obtain ⟨F, f⟩ := A.fr
    obtain ⟨p, vs, m, e1, h2, h3⟩ := f.at_ j _ hr
    refine ⟨_, e1, w.nx _ _ Hs H hp ?_ (Same.refl Hs)⟩
    have f1 := f.put (σ' := σ) j .un [] (fun _ _ => rfl) (Same.refl Hs) (f.stay j) (fun _ => trivial) (fun x m => by cases m) (fun _ _ x m => by cases m)
    refine ⟨A.g, ⟨_, f1.put i (.own ds) [p] set_other (Same.refl Hs) (f1.stay i) (fun w => ⟨p, vs, List.mem_singleton.mpr rfl, set_at (by rw [← A.len, ← List.length_set (i := j) (a := Slot.un)]; exact w), h2, h3⟩) (fun x mx => by rw [List.mem_singleton.mp mx]; exact f.own j p m) (fun k hk x mx mk => ?_)⟩, by rw [List.length_set, List.length_set, List.length_set, A.len]⟩
    rw [List.mem_singleton.mp mx] at mk
    by_cases z : k = j
    · rw [if_pos z] at mk
      cases mk
    · rw [if_neg z] at mk
      exact z (f.dist k j p mk m)
/-- an owned list stays as it is from now on -/
theorem Asn.freeze {Hs0 H0 : Hp} {σ : St} {Hs H : Hp} {i : Nat} (A : Asn K Hs0 H0 r σ Hs H) (hr : r[i]? = some (.own ds)) : ∃ Hs', Asn K Hs0 H0 (r.set i (.val (.list ds))) σ Hs' H ∧ Same Hs Hs' := by
  obtain ⟨F, f⟩ := A.fr
  obtain ⟨p, vs, m, e1, h2, h3⟩ := f.at_ i _ hr
  obtain ⟨h0, h1, _⟩ := f.own i p m
  refine ⟨upd Hs p (.lst vs), ⟨A.g.freeze h0 h1 h2, ⟨_, f.put (σ' := σ) i (.val (.list ds)) [] (fun _ _ => rfl) (same_upd h1) (fun j hj x mx => ⟨fun _ q => q, ?_⟩) (fun _ => ⟨_, e1, .lst upd_same (h3.mono (same_upd h1))⟩) (fun x mx => by cases mx) (fun _ _ x mx => by cases mx)⟩, by rw [List.length_set, A.len]⟩, same_upd h1⟩
  rw [upd_ne (show x ≠ p from fun z => hj (f.dist j i p (by rw [← z]; exact mx) m))]
  exact (f.own j x mx).2.1
theorem dss_freeze (i : Nat) (hr : r[i]? = some (.own ds)) (h : DSs X E (r.set i (.val (.list ds))) sts P) : DSs X E r sts P := PSs.wk h fun D σ H ⟨Hs0, H0, Hs, A, w⟩ => by
  obtain ⟨Hs', A', s⟩ := A.freeze hr
  exact ⟨Hs0, H0, Hs', A', w.st s⟩
/-- slots are forgotten -/
theorem dss_weak (r1 : Rho) (h : DSs X E r1 sts P) (hl : r1.length = r.length) (hw : ∀ (i : Nat) s, r1[i]? = some s → s = .un ∨ r[i]? = some s) : DSs X E r sts P := PSs.wk h fun D σ H ⟨Hs0, H0, Hs, A, w⟩ =>
  ⟨Hs0, H0, Hs, A.weak (by rw [hl, A.len]) fun i s e => (hw i s e).elim .inl fun q => .inr ⟨q, rfl⟩, w⟩
/-! ### a list that is owned, changed -/
theorem Asn.mut {Hs0 H0 : Hp} {σ : St} {Hs H Hs1 H1 : Hp} {i : Nat} {p : Addr} {vs : List V} {ds es : List PyData} (A : Asn K Hs0 H0 r σ Hs H) (g : Grw Hs H Hs1 H1) (hr : r[i]? = some (.own ds)) (e1 : σ[i]? = some (some (.ref p))) (hv : Dats Hs1 vs es) :
    Asn K Hs0 H0 (r.set i (.own es)) σ Hs1 (upd H1 p (.lst vs)) := by
  have A1 := A.grow g
  obtain ⟨F, f⟩ := A1.fr
  obtain ⟨q, ws, m, e2, h2, h3⟩ := f.at_ i _ hr
  rw [e1] at e2
  injection e2 with e2; injection e2 with e2; injection e2 with e2
  subst e2
  obtain ⟨h0, h1, _⟩ := f.own i p m
  refine ⟨A1.g.mut h0 h1, ⟨_, f.put (σ' := σ) i (.own es) [p] (fun _ _ => rfl) (Same.refl Hs1) (fun j hj x mx => ⟨fun o q => ?_, (f.own j x mx).2.1⟩) (fun _ => ⟨p, vs, List.mem_singleton.mpr rfl, e1, upd_same, hv⟩) (fun x mx => ?_) (fun j hj x mx mj => ?_)⟩, by rw [List.length_set, A.len]⟩
  · rw [upd_ne (show x ≠ p from fun z => hj (f.dist j i p (by rw [← z]; exact mx) m))]
    exact q
  · rw [List.mem_singleton.mp mx]
    exact ⟨h0, h1, by rw [upd_same]; simp⟩
  · rw [List.mem_singleton.mp mx] at mj
    exact hj (f.dist j i p mj m)
theorem ds_append (i : Nat) {x : Str} {px pa cpos : Pos} (hr : r[i]? = some (.own ds)) (he : DE X r e d) (hz : ds.length < sizeLine) (hp : P.nx (r.set i (.own (ds ++ [d]))))
    (hN : X.N[i]? = some x := by rfl) (hv : Vis X.env.scope x := by first | exact Or.inl rfl | exact Or.inr (Or.inl rfl) | exact Or.inr (Or.inr rfl))
    (hd : (x == ("__debug__" : Str)) = false := by decide) (hcd : (x == ("__classdict__" : Str)) = false := by decide)
    (hs : swapsWith (.Call (.Attribute (.Name x px) "append" pa) [e] [] cpos) none pos.line X.env = pure false := by rfl) (hes : starEach [e] X.env = (false, eval e X.env) :: starEach [] X.env := by rfl)
    (hpe : ∀ {to t}, PE X (.Name x px) to → PA X [e] t → PE X (.Call (.Attribute (.Name x px) "append" pa) [e] [] cpos) (tBM X.K "list" rAppend to t) := by
      intro to t h1 h2; exact pe_bm PySem.F.plainAttrs_list PySem.F.slot_list_append PySem.F.type_list_append mt_append h1 h2) :
    DS X E r (.Expr (.Call (.Attribute (.Name x px) "append" pa) [e] [] cpos) pos) P :=
  PS.wk (ps_expr (hpe (pe_var (i := i) hN hv hd hcd) (da_cons he.arg da_nil hes)) hs) fun _ _ D σ H _ ⟨Hs0, H0, Hs, A, w⟩ => by
    obtain ⟨p, vs, e1, h0, h1, h2, h3⟩ := A.at_ i _ hr
    refine ⟨_, e1, .inl ⟨rfl, vs, SqL.of h2⟩, Hs0, H0, Hs, A, fun us Hs1 H1 g1 ha => ?_⟩
    cases ha with
    | cons hu t =>
      cases t
      refine ⟨p, vs, _, rfl, rfl, g1.all _ _ h2, by rw [h3.length]; exact hz, w.nx _ _ Hs1 _ hp (A.mut g1 hr e1 ((h3.mono g1.st).snoc hu)) g1.st⟩
theorem ds_extend (i : Nat) {x : Str} {px pa cpos : Pos} {es : List PyData} (hr : r[i]? = some (.own ds)) (he : DE X r e (.list es)) (hz : ds.length + es.length ≤ sizeLine) (hp : P.nx (r.set i (.own (ds ++ es))))
    (hN : X.N[i]? = some x := by rfl) (hv : Vis X.env.scope x := by first | exact Or.inl rfl | exact Or.inr (Or.inl rfl) | exact Or.inr (Or.inr rfl))
    (hd : (x == ("__debug__" : Str)) = false := by decide) (hcd : (x == ("__classdict__" : Str)) = false := by decide)
    (hs : swapsWith (.Call (.Attribute (.Name x px) "extend" pa) [e] [] cpos) none pos.line X.env = pure false := by rfl) (hes : starEach [e] X.env = (false, eval e X.env) :: starEach [] X.env := by rfl)
    (hpe : ∀ {to t}, PE X (.Name x px) to → PA X [e] t → PE X (.Call (.Attribute (.Name x px) "extend" pa) [e] [] cpos) (tBM X.K "list" rExtend to t) := by
      intro to t h1 h2; exact pe_bm PySem.F.plainAttrs_list PySem.F.slot_list_extend PySem.F.type_list_extend mt_extend h1 h2) :
    DS X E r (.Expr (.Call (.Attribute (.Name x px) "extend" pa) [e] [] cpos) pos) P :=
  PS.wk (ps_expr (hpe (pe_var (i := i) hN hv hd hcd) (da_cons he.arg da_nil hes)) hs) fun _ _ D σ H _ ⟨Hs0, H0, Hs, A, w⟩ => by
    obtain ⟨p, vs, e1, h0, h1, h2, h3⟩ := A.at_ i _ hr
    refine ⟨_, e1, .inl ⟨rfl, vs, SqL.of h2⟩, Hs0, H0, Hs, A, fun us Hs1 H1 g1 ha => ?_⟩
    cases ha with
    | cons hu t =>
      cases t
      obtain ⟨b, ws, rfl, hb, hw⟩ := Dat.inv_list hu
      refine ⟨p, b, vs, ws, rfl, rfl, g1.all _ _ h2, g1.sub _ _ hb, by rw [h3.length, hw.length]; exact hz, w.nx _ _ Hs1 _ hp (A.mut g1 hr e1 ((h3.mono g1.st).append hw)) g1.st⟩
/-- x[i] where x is an owned list -/
theorem de_ixOwn (i : Nat) {x : Str} {px : Pos} {k : Int} (hr : r[i]? = some (.own ds)) (hb : DE X r b (.int k)) (hk : atI ds k = some d) (hs : PlainIx b)
    (hN : X.N[i]? = some x := by rfl) (hv : Vis X.env.scope x := by first | exact Or.inl rfl | exact Or.inr (Or.inl rfl) | exact Or.inr (Or.inr rfl))
    (hd : (x == ("__debug__" : Str)) = false := by decide) (hcd : (x == ("__classdict__" : Str)) = false := by decide) : DE X r (.Subscript (.Name x px) b pos) d :=
  PE.wk (pe_ix ix_list (pe_var (i := i) hN hv hd hcd) hb hs) fun _ _ σ H Q _ ⟨Hs0, H0, Hs, A, q⟩ => by
    obtain ⟨p, vs, e1, h0, h1, h2, h3⟩ := A.at_ i _ hr
    refine ⟨_, e1, Hs0, H0, Hs, A, fun u Hs1 H1 g1 hu => ?_⟩
    have hl := h3.length
    unfold atI at hk
    cases e : ixN ds.length k with
    | none => rw [e] at hk; cases hk
    | some j =>
      rw [e] at hk
      obtain ⟨v, e2, hv2⟩ := Dats.get h3 hk
      refine ⟨p, vs, k, v, rfl, hu.inv_int, SqL.of (g1.all _ _ h2), ?_, q v Hs1 H1 g1 (hv2.mono g1.st)⟩
      unfold atI
      rw [hl, e]
      exact e2
/-- x[k] = e where x is an owned list -/
theorem ds_setIx (i : Nat) {x : Str} {px ps : Pos} {k : Int} {j : Nat} (hr : r[i]? = some (.own ds)) (he : DE X r e d) (hb : DE X r b (.int k)) (hk : ixN ds.length k = some j) (hp : P.nx (r.set i (.own (ds.set j d))))
    (hN : X.N[i]? = some x := by rfl) (hv : Vis X.env.scope x := by first | exact Or.inl rfl | exact Or.inr (Or.inl rfl) | exact Or.inr (Or.inr rfl))
    (hd : (x == ("__debug__" : Str)) = false := by decide) (hcd : (x == ("__classdict__" : Str)) = false := by decide)
    (hpg : ∀ {to ti : TE}, PE X (.Name x px) to → PE X b ti → PG X (.Subscript (.Name x px) b ps) (gSub to ti rSetL) := by intro to ti h1 h2; exact pg_sub h1 h2 set_list)
    (hs : swapsWithSole [.Subscript (.Name x px) b ps] e pos.line X.env = pure false := by rfl) (hw : swappedStores [.Subscript (.Name x px) b ps] e X.env = pure none := by rfl)
    (h1 : (assignEach [.Subscript (.Name x px) b ps] X.env).map (·.2) = [assign (.Subscript (.Name x px) b ps) X.env] := by rfl) : DS X E r (.Assign [.Subscript (.Name x px) b ps] e pos) P :=
  PS.wk (ps_asg he (hpg (pe_var (i := i) hN hv hd hcd) hb) hs hw h1) fun _ _ D σ H _ ⟨Hs0, H0, Hs, A, w⟩ => ⟨Hs0, H0, Hs, A, fun v Hs1 H1 g1 hv1 => by
    obtain ⟨p, vs, e1, h0, h1, h2, h3⟩ := A.at_ i _ hr
    refine ⟨_, e1, Hs0, H0, Hs1, A.grow g1, fun u Hs2 H2 g2 hu => ?_⟩
    have g := g1.trans g2
    refine ⟨p, vs, k, j, rfl, hu.inv_int, g.all _ _ h2, by rw [h3.length]; exact hk, w.nx _ _ Hs2 _ hp (A.mut g hr e1 (Dats.set (hv1.mono g2.st) j (h3.mono g.st))) g.st⟩⟩
/-! ### targets -/
def tTg (K : PySem.W.Frag) (ws : List Nat) (r : Rho) (d : PyData) (r2 : Rho) : TG := fun v σ H Q => ∃ Hs0 H0 Hs, Asn K Hs0 H0 r σ Hs H ∧ Dat Hs v d ∧ ∀ σ', (∀ i : Nat, i ∉ ws → σ'[i]? = σ[i]?) → σ'.length = σ.length → Asn K Hs0 H0 r2 σ' Hs H → Q σ' H
def DG (X : Cx) (tg : Expr) (ws : List Nat) (r : Rho) (d : PyData) (r2 : Rho) : Prop := PG X tg (tTg X.K ws r d r2)
theorem PG.wk {tg : Expr} {t t' : TG} (h : PG X tg t) (m : ∀ v σ H Q, t' v σ H Q → t v σ H Q) : PG X tg t' := ⟨fun pins s σ H v u Q I rv q => h.run pins s σ H v u Q I rv (m v σ H Q q)⟩
theorem PGs.wk {tg : List Expr} {t t' : TGs} (h : PGs X tg t) (m : ∀ v σ H Q, t' v σ H Q → t v σ H Q) : PGs X tg t' := ⟨fun pins s σ H v u Q I rv q => h.run pins s σ H v u Q I rv (m v σ H Q q)⟩
theorem dg_name (i : Nat) {x : Str} (hN : X.N.Nodup) (hi : X.N[i]? = some x := by rfl) (hx : Loc X.env.scope x := by first | exact Or.inl rfl | exact Or.inr rfl)
    (hf : X.fn x = true ∨ X.env.scope.names.lookup x = some .local := by first | exact .inl rfl | exact .inr rfl | assumption) : DG X (.Name x pos) [i] r d (r.set i (.val d)) :=
  PG.wk (pg_name (i := i) hN hi hx hf) fun v σ H Q ⟨Hs0, H0, Hs, A, hv, q⟩ => q _ (fun j hj => by
    rw [List.getElem?_set_ne (fun z => hj (by rw [z]; exact List.mem_singleton.mpr rfl))]) (List.length_set ..) (A.setV hv)
def tTgs (K : PySem.W.Frag) (ws : List Nat) (r : Rho) (ds : List PyData) (r2 : Rho) : TGs := fun vs σ H Q => ∃ Hs0 H0 Hs, Asn K Hs0 H0 r σ Hs H ∧ Dats Hs vs ds ∧ ∀ σ', (∀ i : Nat, i ∉ ws → σ'[i]? = σ[i]?) → σ'.length = σ.length → Asn K Hs0 H0 r2 σ' Hs H → Q σ' H
def DGs (X : Cx) (tg : List Expr) (ws : List Nat) (r : Rho) (ds : List PyData) (r2 : Rho) : Prop := PGs X tg (tTgs X.K ws r ds r2)
theorem dgs_nil : DGs X [] [] r [] r := PGs.wk pgs_nil fun vs σ H Q ⟨Hs0, H0, Hs, A, hv, q⟩ => by
  cases hv
  exact ⟨rfl, q σ (fun _ _ => rfl) rfl A⟩
theorem dgs_cons {tg : Expr} {tgs : List Expr} {ws ws' : List Nat} {r2 r3 : Rho} (h : DG X tg ws r d r2) (h' : DGs X tgs ws' r2 ds r3)
    (hs : (assignEach (tg :: tgs) X.env).map (·.2) = assign tg X.env :: (assignEach tgs X.env).map (·.2) := by rfl) : DGs X (tg :: tgs) (ws ++ ws') r (d :: ds) r3 :=
  PGs.wk (pgs_cons h h' hs) fun vs σ H Q ⟨Hs0, H0, Hs, A, hv, q⟩ => by
    cases hv with
    | cons hv1 hv2 =>
      exact ⟨_, _, rfl, Hs0, H0, Hs, A, hv1, fun σ1 k1 l1 A1 => ⟨Hs0, H0, Hs, A1, hv2, fun σ2 k2 l2 A2 => q σ2 (fun i hi => by
        rw [k2 i (fun z => hi (List.mem_append_right _ z)), k1 i (fun z => hi (List.mem_append_left _ z))]) (l2.trans l1) A2⟩⟩
theorem dg_tup {tgs : List Expr} {ws : List Nat} {k : Nat} {r2 : Rho} (hc : X.calm = true) (h : DGs X tgs ws r ds r2) (hn : (assignEach tgs X.env).length = ds.length := by rfl) (hst : (assignEach tgs X.env).findIdx? (·.1) = none := by rfl) : DG X (.Tuple tgs k pos) ws r (.tuple ds) r2 :=
  PG.wk (pg_tup hc h hn hst) fun v σ H Q ⟨Hs0, H0, Hs, A, hv, q⟩ => by
    obtain ⟨a, xs, rfl, ha, hx⟩ := hv.inv_tuple
    exact ⟨a, xs, rfl, SqT.rd (Rd.same A.g.sub ha), hx.length, Hs0, H0, Hs, A, hx, q⟩
theorem ds_asg {tg : Expr} {ws : List Nat} {r2 : Rho} (he : DE X r e d) (hg : DG X tg ws r d r2) (hp : P.nx r2) (hs : swapsWithSole [tg] e pos.line X.env = pure false := by rfl) (hw : swappedStores [tg] e X.env = pure none := by rfl)
    (h1 : (assignEach [tg] X.env).map (·.2) = [assign tg X.env] := by rfl) : DS X E r (.Assign [tg] e pos) P :=
  PS.wk (ps_asg he hg hs hw h1) fun _ _ D σ H _ ⟨Hs0, H0, Hs, A, w⟩ => ⟨Hs0, H0, Hs, A, fun v Hs' H' g hv => ⟨Hs0, H0, Hs', A.grow g, hv, fun σ' _ _ A' => w.nx _ _ Hs' H' hp A' g.st⟩⟩
/-! ### what is walked -/
def ItOk (Hs : Hp) (J : It) (ds : List PyData) : Prop := ∀ (i : Nat) Hs1 H1, Same Hs Hs1 → Same Hs1 H1 → (∀ d, ds[i]? = some d → J.go i H1 ∧ ∀ v H2, J.yld i H1 v H2 → ∃ Hs2, Grw Hs1 H1 Hs2 H2 ∧ Dat Hs2 v d) ∧ (ds.length = i → J.stop i H1)
def iD (K : PySem.W.Frag) (r : Rho) (ds : List PyData) : TI := fun σ H R => ∃ Hs0 H0 Hs, Asn K Hs0 H0 r σ Hs H ∧ ∀ J Hs' H', Grw Hs H Hs' H' → ItOk Hs' J ds → ds.length ≤ sizeLine → R J H'
def DI (X : Cx) (r : Rho) (tg iter : Expr) (ds : List PyData) : Prop := PI X tg iter (iD X.K r ds)
theorem PI.wk {tg iter : Expr} {t t' : TI} (h : PI X tg iter t) (m : ∀ σ H R, t' σ H R → t σ H fun J H' => (∃ pins s, Inv X pins σ H' s) → R J H') : PI X tg iter t' := ⟨fun pins s σ H R I q =>
  thn (h.run pins s σ H _ I (m σ H R q)) fun v s1 q1 => thn q1 fun itv s2 ⟨it, fp, tn, J, H', e, I', T, t0, f, q'⟩ => ⟨it, fp, tn, J, H', e, I', T, t0, f, q' ⟨_, _, I'⟩⟩⟩
theorem lst_size {pins : List (Addr × Obj)} {σ : St} {H : Hp} {s : Shared} {a : Addr} {xs : List V} (I : Inv X pins σ H s) (h : H a = some (.lst xs)) : xs.length ≤ sizeLine := (I.hok a _ h).1
theorem tup_size {pins : List (Addr × Obj)} {σ : St} {H : Hp} {s : Shared} {a : Addr} {xs : List V} (I : Inv X pins σ H s) (h : Rd H a (.tup xs)) : xs.length ≤ sizeLine := (Rd.ok h I.hok).1
theorem sqL_det {K : PySem.W.Frag} {H : Hp} {a : Addr} {xs ys : List V} {pins : List (Addr × Obj)} {σ : St} {s : Shared} (I : Inv X pins σ H s) (h : SqL X.K H a xs) (h' : SqL X.K H a ys) : xs = ys := I.list_inj h h'
theorem itl_ok {Hs : Hp} {a : Addr} {xs : List V} (h : Hs a = some (.lst xs)) (hd : Dats Hs xs ds) : ItOk Hs (Itl K a) ds := fun i Hs1 H1 s1 s2 => ⟨fun d e => by
    obtain ⟨v, e1, hv⟩ := hd.get e
    have hq : SqL K H1 a xs := SqL.of (s2 _ _ (s1 _ _ h))
    refine ⟨⟨xs, v, hq, e1⟩, fun u H2 ⟨e2, f⟩ => ?_⟩
    subst e2
    have := f xs hq
    rw [e1] at this
    cases this
    exact ⟨Hs1, Grw.refl s2, hv.mono s1⟩, fun hl => ⟨xs, SqL.of (s2 _ _ (s1 _ _ h)), by rw [hd.length]; exact Nat.le_of_eq hl⟩⟩
theorem itt_ok {Hs : Hp} {a : Addr} {xs : List V} (h : Rd Hs a (.tup xs)) (hd : Dats Hs xs ds) : ItOk Hs (Itt K a) ds := fun i Hs1 H1 s1 s2 => ⟨fun d e => by
    obtain ⟨v, e1, hv⟩ := hd.get e
    have hq : SqT K H1 a xs := SqT.rd (Rd.same s2 (Rd.same s1 h))
    refine ⟨⟨xs, v, hq, e1⟩, fun u H2 ⟨e2, f⟩ => ?_⟩
    subst e2
    have := f xs hq
    rw [e1] at this
    cases this
    exact ⟨Hs1, Grw.refl s2, hv.mono s1⟩, fun hl => ⟨xs, SqT.rd (Rd.same s2 (Rd.same s1 h)), by rw [hd.length]; exact Nat.le_of_eq hl⟩⟩
variable {tg iter : Expr}
theorem di_list (h : DE X r iter (.list ds)) : DI X r tg iter ds := PI.wk (pi_list h) fun σ H R ⟨Hs0, H0, Hs, A, q⟩ => ⟨Hs0, H0, Hs, A, fun v Hs' H' g hv => by
    obtain ⟨a, xs, rfl, ha, hx⟩ := hv.inv_list
    exact ⟨a, rfl, ⟨xs, SqL.of (g.sub _ _ ha)⟩, fun ⟨_, _, I⟩ => q _ Hs' H' g (itl_ok ha hx) (by rw [← hx.length]; exact lst_size I (g.sub _ _ ha))⟩⟩
theorem di_tup (h : DE X r iter (.tuple ds)) : DI X r tg iter ds := PI.wk (pi_tup h) fun σ H R ⟨Hs0, H0, Hs, A, q⟩ => ⟨Hs0, H0, Hs, A, fun v Hs' H' g hv => by
    obtain ⟨a, xs, rfl, ha, hx⟩ := hv.inv_tuple
    exact ⟨a, rfl, ⟨xs, SqT.rd (Rd.same g.sub ha)⟩, fun ⟨_, _, I⟩ => q _ Hs' H' g (itt_ok ha hx) (by rw [← hx.length]; exact tup_size I (Rd.same g.sub ha))⟩⟩
def rangeD (lo : Int) (n : Nat) : List PyData := (List.range n).map fun (i : Nat) => .int (lo + (i : Int))
theorem rangeD_length (lo : Int) (n : Nat) : (rangeD lo n).length = n := by unfold rangeD; rw [List.length_map, List.length_range]
theorem itr_ok {Hs : Hp} {lo : Int} {n : Nat} : ItOk Hs (Itr lo n) (rangeD lo n) := fun i Hs1 H1 s1 s2 => ⟨fun d e => by
    unfold rangeD at e
    rw [List.getElem?_map] at e
    by_cases hi : i < n
    · rw [List.getElem?_range hi] at e
      injection e with e
      subst e
      refine ⟨hi, fun v H2 ⟨e1, e2⟩ => ?_⟩
      subst e1; subst e2
      exact ⟨Hs1, Grw.refl s2, .int _⟩
    · rw [List.getElem?_eq_none (by rw [List.length_range]; omega)] at e
      exact absurd e (by simp), fun hl => by rw [rangeD_length] at hl; exact Nat.le_of_eq hl⟩
theorem di_range1 {p : Pos} {n : Int} (hg : Gl X "range") (hm : X.mg "range" = none) (h : DE X r a (.int n)) (h1 : -(2 ^ 62) ≤ n) (h2 : n ≤ 16777216) (hs : starEach [a] X.env = [(false, eval a X.env)] := by rfl)
    (hs' : starEach (a :: []) X.env = (false, eval a X.env) :: starEach [] X.env := by rfl) : DI X r tg (.Call (.Name "range" p) [a] [] pos) (rangeD 0 n.toNat) :=
  PI.wk (pi_range1 hg hm (da_1 h hs') hs) fun σ H R ⟨Hs0, H0, Hs, A, q⟩ => ⟨Hs0, H0, Hs, A, fun vs Hs' H' g hv => by
    cases hv with
    | cons hu t =>
      cases t
      exact ⟨n, by rw [Dat.inv_int hu], h1, by omega, fun _ => q _ Hs' H' g itr_ok (by rw [rangeD_length, sizeLine_eq]; omega)⟩⟩
theorem di_range2 {p : Pos} {lo hi : Int} (hg : Gl X "range") (hm : X.mg "range" = none) (h : DE X r a (.int lo)) (h' : DE X r b (.int hi)) (hb : -(2 ^ 62) ≤ lo ∧ lo < 2 ^ 62 ∧ -(2 ^ 62) ≤ hi ∧ hi < 2 ^ 62) (hz : hi - lo ≤ 16777216) (hs : starEach [a, b] X.env = [(false, eval a X.env), (false, eval b X.env)] := by rfl) (hs2 : starEach [b] X.env = [(false, eval b X.env)] := by rfl)
    (hs' : starEach (a :: [b]) X.env = (false, eval a X.env) :: starEach [b] X.env := by rfl) (hs'' : starEach (b :: []) X.env = (false, eval b X.env) :: starEach [] X.env := by rfl) : DI X r tg (.Call (.Name "range" p) [a, b] [] pos) (rangeD lo (hi - lo).toNat) :=
  PI.wk (pi_range2 hg hm (da_cons h.arg (da_1 h' hs'') hs') hs hs2) fun σ H R ⟨Hs0, H0, Hs, A, q⟩ => ⟨Hs0, H0, Hs, A, fun vs Hs' H' g hv => by
    cases hv with
    | cons hu t =>
      cases t with
      | cons hu' t =>
        cases t
        exact ⟨lo, hi, by rw [Dat.inv_int hu, Dat.inv_int hu'], hb, fun _ => q _ Hs' H' g itr_ok (by rw [rangeD_length, sizeLine_eq]; omega)⟩⟩
theorem DI.is {ds' : List PyData} (h : DI X r tg iter ds') (q : ds' = ds) : DI X r tg iter ds := q ▸ h
theorem ds_for {body : List Stmt} (S : Nat → Rho → Prop) (hp : PassesOwn (model X.prog X.w) X.A X.env X.xe) (hc : X.calm = true) (hi : DI X r tg iter ds) (h0 : S 0 r)
    (hstep : ∀ (i : Nat) d r1, ds[i]? = some d → ds.length ≤ sizeLine → S i r1 → ∃ ws r2, DG X tg ws r1 d r2 ∧ DSs X E r2 body { P with nx := S (i + 1), ct := S (i + 1), bk := P.nx }) (hend : ∀ r1, S ds.length r1 → P.nx r1)
    (hs : ∀ x, foldedSetIterable iter X.env x = pure x := by intro _; rfl) : DS X E r (.For tg iter body [] pos) P := by
  have hg : PG X tg (fun v σ H Q => ∃ ws r1 d r2, DG X tg ws r1 d r2 ∧ tTg X.K ws r1 d r2 v σ H Q) := ⟨fun pins s σ H v u Q I rv ⟨ws, r1, d, r2, f, q⟩ => f.run pins s σ H v u Q I rv q⟩
  have hb : PSs X body (fun D σ H => ∃ r2 P2, DSs X E r2 body P2 ∧ tDS X.K E r2 P2 D σ H) := ⟨fun pins s σ H D I ⟨r2, P2, f, q⟩ => f.run pins s σ H D I q⟩
  refine PS.wk (ps_for hp hc hi hg hb hs) fun _ _ D σ H _ ⟨Hs0, H0, Hs, A, w⟩ => ⟨Hs0, H0, Hs, A, fun J Hs' H' g ok hz => ?_⟩
  refine ⟨fun i m σ1 H1 => i + m = ds.length ∧ ∃ r1 Hs1, S i r1 ∧ Asn X.K Hs0 H0 r1 σ1 Hs1 H1 ∧ Same Hs' Hs1, ⟨ds.length, by omega, r, Hs', h0, A.grow g, Same.refl Hs'⟩, fun i m σ1 H1 ⟨em, r1, Hs1, s1, A1, k1⟩ => ?_⟩
  obtain ⟨o1, o2⟩ := ok i Hs1 H1 k1 A1.g.sub
  by_cases hi' : i < ds.length
  · refine .inr ⟨(o1 _ (List.getElem?_eq_getElem hi')).1, fun σ2 H2 => ∃ r2 Hs2, S (i + 1) r2 ∧ Asn X.K Hs0 H0 r2 σ2 Hs2 H2 ∧ Same Hs' Hs2, fun σ2 H2 ⟨r2, Hs2, q1, q2, q3⟩ => ⟨m - 1, by omega, by omega, r2, Hs2, q1, q2, q3⟩, fun v H2 hy => ?_⟩
    obtain ⟨Hs2, g2, hv⟩ := (o1 _ (List.getElem?_eq_getElem hi')).2 v H2 hy
    obtain ⟨ws, r2, f1, f2⟩ := hstep i _ r1 (List.getElem?_eq_getElem hi') hz s1
    refine ⟨ws, r1, _, r2, f1, Hs0, H0, Hs2, A1.grow g2, hv, fun σ3 _ _ A3 => ⟨r2, _, f2, Hs0, H0, Hs2, A3, ?_⟩⟩
    have k2 : Same Hs' Hs2 := k1.trans g2.st
    exact ⟨fun r' σ' Hs3 H3 p a s => ⟨r', Hs3, p, a, k2.trans s⟩, w.rt, fun r' σ' Hs3 H3 p a s => w.nx r' σ' Hs3 H3 p a ((g.st.trans k2).trans s), fun r' σ' Hs3 H3 p a s => ⟨r', Hs3, p, a, k2.trans s⟩, w.ex, w.rs, w.ro⟩
  · have e : i = ds.length := by omega
    subst e
    exact .inl ⟨o2 rfl, w.nx r1 σ1 Hs1 H1 (hend r1 s1) A1 (g.st.trans k1)⟩
theorem ds_while {body : List Stmt} (S : Nat → Rho → Prop) (hp : PassesOwn (model X.prog X.w) X.A X.env X.xe) (h0 : ∃ m, S m r)
    (hstep : ∀ m r1, S m r1 → ∃ k, DT X r1 c k ∧ (k = true → DSs X E r1 body { P with nx := fun r2 => ∃ m', m' < m ∧ S m' r2, ct := fun r2 => ∃ m', m' < m ∧ S m' r2, bk := P.nx }) ∧ (k = false → P.nx r1)) : DS X E r (.While c body [] pos) P := by
  have ht : PT X c (fun σ H Q => ∃ r1 k, DT X r1 c k ∧ tDT X.K r1 k σ H Q) := ⟨fun pins s σ H Q I ⟨r1, k, f, q⟩ => f.run pins s σ H Q I q⟩
  have hb : PSs X body (fun D σ H => ∃ r2 P2, DSs X E r2 body P2 ∧ tDS X.K E r2 P2 D σ H) := ⟨fun pins s σ H D I ⟨r2, P2, f, q⟩ => f.run pins s σ H D I q⟩
  refine PS.wk (ps_while hp ht hb) fun _ _ D σ H _ ⟨Hs0, H0, Hs, A, w⟩ => ?_
  obtain ⟨m0, h0⟩ := h0
  refine ⟨fun m σ1 H1 => ∃ r1 Hs1, S m r1 ∧ Asn X.K Hs0 H0 r1 σ1 Hs1 H1 ∧ Same Hs Hs1, ⟨m0, r, Hs, h0, A, Same.refl Hs⟩, fun m σ1 H1 ⟨r1, Hs1, s1, A1, k1⟩ => ?_⟩
  obtain ⟨k, f1, f2, f3⟩ := hstep m r1 s1
  refine ⟨r1, k, f1, Hs0, H0, Hs1, A1, fun Hs2 H2 g2 => ?_⟩
  cases k with
  | true =>
    refine iteT ⟨fun σ2 H2 => ∃ m', m' < m ∧ ∃ r2 Hs2, S m' r2 ∧ Asn X.K Hs0 H0 r2 σ2 Hs2 H2 ∧ Same Hs Hs2, fun σ2 H2 q => q, r1, _, f2 rfl, Hs0, H0, Hs2, A1.grow g2, ?_⟩
    have k2 : Same Hs Hs2 := k1.trans g2.st
    exact ⟨fun r' σ' Hs3 H3 ⟨m', p1, p2⟩ a s => ⟨m', p1, r', Hs3, p2, a, k2.trans s⟩, w.rt, fun r' σ' Hs3 H3 p a s => w.nx r' σ' Hs3 H3 p a (k2.trans s), fun r' σ' Hs3 H3 ⟨m', p1, p2⟩ a s => ⟨m', p1, r', Hs3, p2, a, k2.trans s⟩, w.ex, w.rs, w.ro⟩
  | false => exact iteF (w.nx r1 σ1 Hs2 H2 (f3 rfl) (A1.grow g2) (k1.trans g2.st))
end
end Dl

namespace Dl
open PySem L2
/-! ## defs and calls -/
def spF (K : PySem.W.Frag) (R : Rho → PyData → Prop) : Sp := fun vs H Q _ => ∃ Hs as d, Same Hs H ∧ Args K Hs vs as ∧ R as d ∧ ∀ v Hs' H', Grw Hs H Hs' H' → Dat Hs' v d → Q v H'
theorem args_slots {K : PySem.W.Frag} {Hs H : Hp} {N : List Str} {vs : List V} {as : Rho} (hs : Same Hs H) (ha : Args K Hs vs as) (hl : as.length ≤ N.length) : Asn K Hs H (as ++ List.replicate (N.length - as.length) .un) (L2.start N vs) Hs H := by
  have el := ha.length
  have key : ∀ (i : Nat) s, (as ++ List.replicate (N.length - as.length) Slot.un)[i]? = some s → s = .un ∨ ∃ v, (L2.start N vs)[i]? = some (some v) ∧ ArgOk K Hs v s := fun i s e => by
    by_cases hi : i < as.length
    · rw [List.getElem?_append_left hi] at e
      refine .inr ?_
      have hi' : i < vs.length := by omega
      have hp : ArgOk K Hs vs[i] s := by
        have : ∀ {vs : List V} {as : Rho} {i : Nat} {s : Slot}, Args K Hs vs as → as[i]? = some s → ∀ v, vs[i]? = some v → ArgOk K Hs v s := by
          intro vs as i s h
          induction h generalizing i with
          | nil => intro e; simp at e
          | cons h t ih =>
            intro e v ev
            cases i with
            | zero => simp at e ev; subst e; subst ev; exact h
            | succ j => exact ih (by simpa using e) v (by simpa using ev)
        exact this ha e _ (List.getElem?_eq_getElem hi')
      refine ⟨vs[i], ?_, hp⟩
      unfold L2.start
      rw [List.getElem?_append_left (by rw [List.length_map]; exact hi'), List.getElem?_map, List.getElem?_eq_getElem hi']
      rfl
    · rw [List.getElem?_append_right (by omega), List.getElem?_replicate] at e
      split at e
      · injection e with e; exact .inl e.symm
      · cases e
  refine ⟨Grw.refl hs, ⟨fun _ => [], ⟨fun i s e => ?_, fun i x m => absurd m List.not_mem_nil, fun i j x m _ => absurd m List.not_mem_nil, fun i s e ht => by
    rcases key i _ e with q | ⟨v, q1, q2⟩
    · rw [q] at ht; cases ht
    · cases s <;> first | (cases ht; done) | exact q2.elim⟩⟩, ?_⟩
  · rcases key i s e with q | ⟨v, q1, q2⟩
    · subst q; trivial
    · cases s with
      | un => trivial
      | val d => exact ⟨v, q1, q2⟩
      | own ds => exact q2.elim
      | dic _ _ ds => exact q2.elim
      | fd _ _ ds => obtain ⟨a, ob, xs, rfl, h, h2⟩ := q2; exact ⟨a, ob, xs, q1, h, h2⟩
      | oo ds => exact q2.elim
      | obj _ O => exact q2.elim
      | scr ns => obtain ⟨a, rfl, h⟩ := q2; exact ⟨a, q1, h⟩
      | scrT ns T => exact q2.elim
      | valT _ _ => exact q2.elim
      | raw u => exact q1.trans (by rw [show v = u from q2])
  · unfold L2.start
    rw [List.length_append, List.length_replicate, List.length_append, List.length_replicate, List.length_map, el]
section
variable {P : Program} {w : World} {K : PySem.W.Frag} {mg : Str → Option Value} {base : Heap}
abbrev cx0 (P : Program) (w : World) (K : PySem.W.Frag) (mg : Str → Option Value) (base : Heap) (N : List Str) (qual : Str) (scope : Scope) (f : Addr) (cd : Value) (A : Around) (outer : List Env) (s : Shared) (H : Hp) (E : XK) : Cx := (cxOf CX0 P w K mg base N qual scope f cd A outer s H E).nox
theorem okD {x qual : Str} {st : Stmt} {f : Addr} {fd : FuncData} {N ps : List Str} {k : Nat} {R : Rho → PyData → Prop} (F : Fun K x qual st f fd) (S : FnScope N ps (defScope st)) (len : ∀ as d, R as d → as.length = ps.length) (hn : ps.length ≤ N.length)
    (hb : ∀ (cdv : Value) (A : Around) (outer : List Env) (s : Shared) (H : Hp) (E : XK), Room k (A.deeper (PyProof.Rows.envOfC qual (defScope st) s.heap.objs.size f cdv)) → ∀ as d, R as d →
      DSs (cx0 P w K mg base N qual (defScope st) f cdv A outer s H E) E0 (as ++ List.replicate (N.length - as.length) .un) (defBody st) { nx := fun _ => d = .none, rt := fun z => z = d }) : FnOk P w K mg base CX0 (k + 1) f fd ps (spF K R) := by
  refine F.ok S (fun vs H Q E h => ?_) (fun cdv A outer s H vs Q E hr h => ?_)
  · obtain ⟨Hs, as, d, _, ha, hR, _⟩ := h
    rw [ha.length]
    exact len as d hR
  · obtain ⟨Hs, as, d, hs, ha, hR, q⟩ := h
    refine ⟨_, hb cdv A outer s H E hr as d hR, Hs, H, Hs, args_slots hs ha (by rw [len as d hR]; exact hn), ?_⟩
    exact ⟨fun r' σ' Hs' H' p a _ => q _ Hs' H' a.g (by rw [p]; exact .non), fun d' v Hs' H' p g hv => q v Hs' H' g (by rw [← p]; exact hv), fun _ _ _ _ p => p.elim, fun _ _ _ _ p => p.elim, fun _ _ _ _ _ p => p.elim, fun _ _ _ _ _ p => p.elim, fun _ _ _ _ _ _ p => p.elim⟩
end
section
variable {X : Cx} {E : XK} {r r1 : Rho} {e a b c : Expr} {pos : Pos} {d d1 d2 : PyData} {ds : List PyData} {k : Nat} {f : Addr} {fd : FuncData} {ps : List Str} {R : Rho → PyData → Prop} {as : Rho} {x : Str} {p : Pos} {es : List Expr}
theorem de_call (F : FnOk X.prog X.w X.K X.mg X.base CX0 k f fd ps (spF X.K R)) (hr : Room k X.A) (hm : X.mg x = some (.ref f)) (hk : PySem.W.keepIn X.K (.ref f) = true) (hb : Binds X.K fd ps []) (ha : DA X r (e :: es) as) (hR : R as d) (hg : Gl X x := by rfl)
    (hdb : (x == ("__debug__" : Str)) = false := by decide) (he : starEach (e :: es) X.env = (false, eval e X.env) :: starEach es X.env := by rfl) (hpl : (backTo pos (starEach es X.env)).any (·.1) = false := by rfl) : DE X r (.Call (.Name x p) (e :: es) [] pos) d :=
  PE.wk (pe_call F hr hg hm hk hb .nil pass0 ha hdb he hpl) fun _ _ σ H Q _ ⟨Hs0, H0, Hs, A, q⟩ => ⟨Hs0, H0, Hs, A, fun vs Hs1 H1 g1 h1 => by
    show spF X.K R (vs ++ []) H1 Q E0
    rw [List.append_nil]
    exact ⟨Hs1, as, d, g1.sub, h1, hR, fun v Hs2 H2 g2 h2 => q v Hs2 H2 (g1.trans g2) h2⟩⟩
/-! ## comprehensions -/
def wipeR (r : Rho) : List Nat → Rho
  | [] => r
  | v :: vs => (wipeR r vs).set v .un
theorem wipeR_length (r : Rho) : ∀ vs : List Nat, (wipeR r vs).length = r.length
  | [] => rfl
  | v :: vs => by unfold wipeR; rw [List.length_set, wipeR_length r vs]
theorem wipeR_at {r : Rho} {i : Nat} {s : Slot} : ∀ {vs : List Nat}, (wipeR r vs)[i]? = some s → s = .un ∨ (r[i]? = some s ∧ i ∉ vs)
  | [], h => .inr ⟨h, by simp⟩
  | v :: vs, h => by
    unfold wipeR at h
    rw [List.getElem?_set] at h
    by_cases z : v = i
    · rw [if_pos z] at h
      split at h
      · injection h with h; exact .inl h.symm
      · cases h
    · rw [if_neg z] at h
      rcases wipeR_at h with q | ⟨q1, q2⟩
      · exact .inl q
      · exact .inr ⟨q1, by simp; exact ⟨fun w => z w.symm, q2⟩⟩
theorem Asn.wipe {K : PySem.W.Frag} {Hs0 H0 : Hp} {r : Rho} {σ : St} {Hs H : Hp} (A : Asn K Hs0 H0 r σ Hs H) (vs : List Nat) : Asn K Hs0 H0 (wipeR r vs) (L2.wipe σ vs) Hs H :=
  A.weak (by rw [wipeR_length, L2.wipe_length, A.len]) fun i s e => (wipeR_at e).elim .inl fun ⟨q1, q2⟩ => .inr ⟨q1, wipe_out q2⟩
theorem wipe_in {σ : St} {i : Nat} : ∀ {vs : List Nat}, i ∈ vs → i < σ.length → (L2.wipe σ vs)[i]? = some none
  | v :: vs, h, hl => by
    unfold L2.wipe
    rw [List.getElem?_set]
    by_cases z : v = i
    · rw [if_pos z, if_pos (by rw [z, L2.wipe_length]; exact hl)]
    · rw [if_neg z]
      rcases List.mem_cons.mp h with q | q
      · exact absurd q.symm z
      · exact wipe_in q hl
theorem wipe_eq {σ σ' : St} {vs : List Nat} (hl : σ'.length = σ.length) (h : ∀ i : Nat, i ∉ vs → σ'[i]? = σ[i]?) : L2.wipe σ' vs = L2.wipe σ vs := by
  apply List.ext_getElem?
  intro i
  by_cases hi : i ∈ vs
  · by_cases hl2 : i < σ.length
    · rw [wipe_in hi hl2, wipe_in hi (by omega)]
    · rw [List.getElem?_eq_none (by rw [L2.wipe_length]; omega), List.getElem?_eq_none (by rw [L2.wipe_length]; omega)]
  · rw [wipe_out hi, wipe_out hi, h i hi]
theorem wipe_idem {σ : St} {vs : List Nat} : L2.wipe (L2.wipe σ vs) vs = L2.wipe σ vs := wipe_eq (L2.wipe_length σ vs) fun _ hi => wipe_out hi
def DTs (X : Cx) (r : Rho) (ifs : List Expr) (b : Bool) : Prop := PTs X ifs (tDT X.K r b)
theorem dts_nil : DTs X r [] true := ⟨fun pins s σ H Q I ⟨Hs0, H0, Hs, A, q⟩ => pts_nil.run pins s σ H Q I (q Hs H (Grw.refl A.g.sub))⟩
theorem dts_one {b : Bool} (h : DT X r c b) : DTs X r [c] b := pts_one h
/-- the block of a comprehension -/
abbrev Blk (X : Cx) (scope : Scope) (s : Shared) (H : Hp) (C : Addr) (cl : List (Str × Addr)) (fp : List Addr) : Cx := X.blk s H scope (compEnvC scope cl C X.env) fp
structure LcTurn (X : Cx) (scope : Scope) (tg : Expr) (ws : List Nat) (ifs : List Expr) (elt : Expr) (r : Rho) (d : PyData) (r2 : Rho) (b : Bool) (y : PyData) : Prop where
  tgt : ∀ s H C cl fp, DG (Blk X scope s H C cl fp) tg ws r d r2
  tst : ∀ s H C cl fp, DTs (Blk X scope s H C cl fp) r2 ifs b
  el : b = true → ∀ s H C cl fp, DE (Blk X scope s H C cl fp) r2 elt y
theorem filter_take_succ {α : Type} (p : α → Bool) (xs : List α) {i : Nat} {x : α} (h : xs[i]? = some x) : (xs.take (i + 1)).filter p = (xs.take i).filter p ++ (if p x = true then [x] else []) := by
  rw [List.take_add_one, h, List.filter_append]
  cases hp : p x <;> simp [hp]
theorem lc_core_d {α : Type} {xs : List α} {rep : α → PyData} {q : α → Bool} {g : α → PyData} {elt tg : Expr} {ifs : List Expr} {scope : Scope} {own : List (Str × Nat)} {ws : List Nat} (hw : ∀ i ∈ ws, i ∈ own.map (·.2))
    (hturn : ∀ x ∈ xs, ∃ r2, LcTurn X scope tg ws ifs elt (wipeR r (own.map (·.2))) (rep x) r2 (q x) (g x)) {σ : St} {H : Hp} {Q : VK} (h : tN X.K r ((xs.filter q).map g) σ H Q) :
    tLc (iD X.K r (xs.map rep)) (fun v σ H Q => ∃ r1 d r2, (∀ s H C cl fp, DG (Blk X scope s H C cl fp) tg ws r1 d r2) ∧ tTg X.K ws r1 d r2 v σ H Q) (fun σ H Q => ∃ r2 b, (∀ s H C cl fp, DTs (Blk X scope s H C cl fp) r2 ifs b) ∧ tDT X.K r2 b σ H Q)
      (fun σ H Q => ∃ r2 y, (∀ s H C cl fp, DE (Blk X scope s H C cl fp) r2 elt y) ∧ tD X.K r2 y σ H Q) (own.map (·.2)) σ H Q := by
  obtain ⟨Hs0, H0, Hs, A, h⟩ := h
  refine ⟨Hs0, H0, Hs, A, fun J Hs' H' g1 ok hz D hD => ?_⟩
  rw [List.length_map] at hz
  have hlen : (xs.map rep).length = xs.length := List.length_map ..
  refine ⟨fun i m H1 => i + m = xs.length ∧ ∃ Hs1 vs, Grw Hs' H' Hs1 H1 ∧ H1 D = some (.lst vs) ∧ Hs1 D = none ∧ Dats Hs1 vs (((xs.take i).filter q).map g), ⟨xs.length, by omega, Hs', [], Grw.laidO g1.sub hD, upd_same, g1.sub.free hD, .nil⟩, fun i m H1 ⟨em, Hs1, vs, gg, h1, h2, h3⟩ => ?_⟩
  obtain ⟨o1, o2⟩ := ok i Hs1 H1 gg.st gg.sub
  by_cases hi : i < xs.length
  · have e0 : (xs.map rep)[i]? = some (rep xs[i]) := by rw [List.getElem?_map, List.getElem?_eq_getElem hi]; rfl
    refine .inr ⟨(o1 _ e0).1, fun H2 => ∃ Hs1 vs, Grw Hs' H' Hs1 H2 ∧ H2 D = some (.lst vs) ∧ Hs1 D = none ∧ Dats Hs1 vs (((xs.take (i + 1)).filter q).map g), fun H2 ⟨Hs2, vs2, a1, a2, a3, a4⟩ => ⟨m - 1, by omega, by omega, Hs2, vs2, a1, a2, a3, a4⟩, fun v H2 hy => ?_⟩
    obtain ⟨Hs2, g2, hv⟩ := (o1 _ e0).2 v H2 hy
    obtain ⟨r2, T⟩ := hturn xs[i] (List.getElem_mem hi)
    have A2 : Asn X.K Hs0 H0 (wipeR r (own.map (·.2))) (L2.wipe σ (own.map (·.2))) Hs2 H2 := (A.grow ((g1.trans gg).trans g2)).wipe _
    have n2 : Hs2 D = none := g2.stay h2 h1
    refine ⟨_, _, r2, T.tgt, Hs0, H0, Hs2, A2, hv, fun σ3 k3 l3 A3 => ⟨?_, r2, q xs[i], T.tst, Hs0, H0, Hs2, A3, fun Hs4 H4 g4 => ?_⟩⟩
    · rw [wipe_eq l3 fun j hj => k3 j fun z => hj (hw j z), wipe_idem]
    · have n4 : Hs4 D = none := g4.stay n2 (g2.all _ _ h1)
      have hf := filter_take_succ q xs (List.getElem?_eq_getElem hi)
      refine ite2 (fun hb => ?_) (fun hb => ?_)
      · refine ⟨r2, g xs[i], T.el hb, Hs0, H0, Hs4, A3.grow g4, fun y Hs5 H5 g5 hy5 => ?_⟩
        have gd := (g2.trans g4).trans g5
        refine ⟨vs, gd.all _ _ h1, ?_, Hs5, vs ++ [y], ?_, upd_same, g5.stay n4 (g4.all _ _ (g2.all _ _ h1)), ?_⟩
        · rw [h3.length, List.length_map]
          refine Nat.lt_of_le_of_lt (List.length_filter_le _ _) ?_
          rw [List.length_take]
          omega
        · exact (gg.trans gd).mut hD (g5.stay n4 (g4.all _ _ (g2.all _ _ h1)))
        · rw [hf, if_pos hb, List.map_append]
          exact (h3.mono gd.st).snoc hy5
      · refine ⟨Hs4, vs, gg.trans (g2.trans g4), (g2.trans g4).all _ _ h1, n4, ?_⟩
        rw [hf, if_neg hb, List.append_nil]
        exact h3.mono (g2.trans g4).st
  · have e : i = xs.length := by omega
    subst e
    refine .inl ⟨o2 hlen, ?_⟩
    rw [List.take_length] at h3
    exact h D vs Hs1 H1 (g1.trans gg) (g1.all.free hD) h2 h1 h3
theorem dn_lc {α : Type} {xs : List α} {rep : α → PyData} {q : α → Bool} {g : α → PyData} {elt tg iter : Expr} {ifs : List Expr} {scope : Scope} (own : List (Str × Nat)) (ws : List Nat) (hc : X.calm = true) (hN : X.N.Nodup) (ok : BlkOk X.N X.env.scope scope own)
    (hi : DI X r tg iter (xs.map rep)) (hturn : ∀ x ∈ xs, ∃ r2, LcTurn X scope tg ws ifs elt (wipeR r (own.map (·.2))) (rep x) r2 (q x) (g x)) (hw : ∀ i ∈ ws, i ∈ own.map (·.2) := by decide)
    (hs : ∀ x, foldedSetIterable iter X.env x = pure x := by intro _; rfl) : DN X r (.ListComp elt [⟨tg, iter, ifs, 0⟩] scope pos) ((xs.filter q).map g) :=
  PE.wk (pe_lc (own := own) hc hN hi ok (fun s H C cl fp => ⟨fun pins s' σ H' v u Q I rv ⟨r1, d, r2, f, z⟩ => (f s H C cl fp).run pins s' σ H' v u Q I rv z⟩) (fun s H C cl fp => ⟨fun pins s' σ H' Q I ⟨r2, b, f, z⟩ => (f s H C cl fp).run pins s' σ H' Q I z⟩)
    (fun s H C cl fp => ⟨fun pins s' σ H' Q I ⟨r2, y, f, z⟩ => (f s H C cl fp).run pins s' σ H' Q I z⟩) hs) fun _ _ σ H Q _ h => lc_core_d hw hturn h
theorem filter_true {α : Type} (xs : List α) : xs.filter (fun _ => true) = xs := by
  rw [List.filter_eq_self]
  intros; rfl
/-- without tests -/
theorem dn_lc1 {α : Type} {xs : List α} {rep : α → PyData} {g : α → PyData} {elt tg iter : Expr} {scope : Scope} (own : List (Str × Nat)) (ws : List Nat) (hc : X.calm = true) (hN : X.N.Nodup) (ok : BlkOk X.N X.env.scope scope own)
    (hi : DI X r tg iter (xs.map rep)) (hturn : ∀ x ∈ xs, ∃ r2, LcTurn X scope tg ws [] elt (wipeR r (own.map (·.2))) (rep x) r2 true (g x)) (hw : ∀ i ∈ ws, i ∈ own.map (·.2) := by decide)
    (hs : ∀ x, foldedSetIterable iter X.env x = pure x := by intro _; rfl) : DN X r (.ListComp elt [⟨tg, iter, [], 0⟩] scope pos) (xs.map g) := by
  have h := dn_lc (q := fun _ => true) (pos := pos) own ws hc hN ok hi hturn hw hs
  rw [filter_true] at h
  exact h
/-- y = [..], y a local -/
theorem ds_setLc (i : Nat) {α : Type} {xs : List α} {rep : α → PyData} {q : α → Bool} {g : α → PyData} {P : Post} {y : Str} {py spos : Pos} {elt tg iter : Expr} {ifs : List Expr} {scope : Scope} (own : List (Str × Nat)) (ws : List Nat) (hc : X.calm = true) (hN : X.N.Nodup) (ok : BlkOk X.N X.env.scope scope own)
    (hi : DI X r tg iter (xs.map rep)) (hturn : ∀ x ∈ xs, ∃ r2, LcTurn X scope tg ws ifs elt (wipeR r (own.map (·.2))) (rep x) r2 (q x) (g x)) (hp : P.nx (r.set i (.own ((xs.filter q).map g))))
    (hsw : swapsWith (.ListComp elt [⟨tg, iter, ifs, 0⟩] scope pos) (some (.Name y py)) spos.line X.env = pure true) (hw : ∀ i ∈ ws, i ∈ own.map (·.2) := by decide) (hy : X.N[i]? = some y := by rfl) (hyl : X.env.scope.names.lookup y = some .local := by rfl)
    (hs : ∀ x, foldedSetIterable iter X.env x = pure x := by intro _; rfl) : DS X E r (.Assign [.Name y py] (.ListComp elt [⟨tg, iter, ifs, 0⟩] scope pos) spos) P :=
  PS.wk (ps_setLc (own := own) (spos := spos) (i := i) hc hN hy hyl hsw hi ok (fun s H C cl fp => ⟨fun pins s' σ H' v u Q I rv ⟨r1, d, r2, f, z⟩ => (f s H C cl fp).run pins s' σ H' v u Q I rv z⟩) (fun s H C cl fp => ⟨fun pins s' σ H' Q I ⟨r2, b, f, z⟩ => (f s H C cl fp).run pins s' σ H' Q I z⟩)
    (fun s H C cl fp => ⟨fun pins s' σ H' Q I ⟨r2, y, f, z⟩ => (f s H C cl fp).run pins s' σ H' Q I z⟩) hs) fun _ _ D σ H _ ⟨Hs0, H0, Hs, A, w⟩ =>
    lc_core_d hw hturn ⟨Hs0, H0, Hs, A, fun p vs Hs' H' g' hp1 hp2 hv hd => w.nx _ _ Hs' H' hp (A.setO g' hp1 hp2 hv hd) g'.st⟩
end
end Dl

namespace Dl
open PySem L2
/-! ## depth, plainness -/
mutual
theorem Dat.plain {H : Hp} : ∀ {v : V} {d : PyData}, Dat H v d → (Dl.lo d).plain = true
  | _, _, .non => by rw [lo_none]; rfl
  | _, _, .bl _ => by rw [lo_bool]; rfl
  | _, _, .int _ => by rw [lo_int]; rfl
  | _, _, .str _ => by rw [lo_str]; rfl
  | _, _, .lst _ r => by rw [lo_list, PyData.plain]; exact Dats.plain r
  | _, _, .tup _ r => by rw [lo_tuple, PyData.plain]; exact Dats.plain r
  | _, _, .xt _ _ r => by rw [lo_xt, PyData.plain]; exact Dats.plain r
theorem Dats.plain {H : Hp} : ∀ {vs : List V} {ds : List PyData}, Dats H vs ds → PyData.plainAll (ds.map Dl.lo) = true
  | _, _, .nil => rfl
  | _, _, .cons h r => by rw [List.map_cons, PyData.plainAll, Dat.plain h, Dats.plain r]; rfl
end
/-- how deep the data are -/
def depL (d : PyData) : Nat := (Dl.lo d).depth
/-- == of data -/
def eqL (d e : PyData) : Bool := PyData.eqv (Dl.lo d) (Dl.lo e)
theorem depthAll_le {n : Nat} : ∀ {ds : List PyData}, (∀ d ∈ ds, d.depth ≤ n) → PyData.depthAll ds ≤ n
  | [], _ => Nat.zero_le _
  | d :: ds, h => by
    rw [PyData.depthAll]
    exact Nat.max_le.mpr ⟨h d List.mem_cons_self, depthAll_le fun x hx => h x (List.mem_cons_of_mem _ hx)⟩
theorem dep_tup {n : Nat} {ds : List PyData} (h : ∀ d ∈ ds, depL d ≤ n) : depL (PyData.tuple ds) ≤ n + 1 := by
  unfold depL
  rw [lo_tuple, PyData.depth]
  refine Nat.succ_le_succ (depthAll_le fun d hd => ?_)
  obtain ⟨x, hx, rfl⟩ := List.mem_map.mp hd
  exact h x hx
theorem dep_xt {n : Nat} {ds : List PyData} (h : ∀ d ∈ ds, depL d ≤ n) : depL (Dl.xt ds) ≤ n + 1 := by
  unfold depL
  rw [lo_xt, PyData.depth]
  refine Nat.succ_le_succ (depthAll_le fun d hd => ?_)
  obtain ⟨x, hx, rfl⟩ := List.mem_map.mp hd
  exact h x hx
theorem dep_lst {n : Nat} {ds : List PyData} (h : ∀ d ∈ ds, depL d ≤ n) : depL (PyData.list ds) ≤ n + 1 := by
  unfold depL
  rw [lo_list, PyData.depth]
  refine Nat.succ_le_succ (depthAll_le fun d hd => ?_)
  obtain ⟨x, hx, rfl⟩ := List.mem_map.mp hd
  exact h x hx
theorem dep_int (i : Int) : depL (.int i) = 0 := by unfold depL; rw [lo_int]; rfl
theorem dep_bool (i : Bool) : depL (.bool i) = 0 := by unfold depL; rw [lo_bool]; rfl
theorem dep_str (i : Str) : depL (.str i) = 0 := by unfold depL; rw [lo_str]; rfl
theorem dep_none : depL .none = 0 := by unfold depL; rw [lo_none]; rfl
theorem dep_map {α : Type} {n : Nat} {f : α → PyData} {xs : List α} (h : ∀ x ∈ xs, depL (f x) ≤ n) : ∀ d ∈ xs.map f, depL d ≤ n := fun d hd => by
  obtain ⟨x, hx, rfl⟩ := List.mem_map.mp hd
  exact h x hx
theorem Dat.reads {X : Cx} {pins : List (Addr × Obj)} {σ : St} {Hs H : Hp} {s : Shared} {v : V} {u : Value} {d : PyData} (h : Dat Hs v d) (e : Same Hs H) (I : Inv X pins σ H s) (r : RelV v u) : ∃ as, Reads s.heap u (Dl.lo d) as := Dp.reads I (Dl.lo d) v u (h.mono e).dp r
section
variable {X : Cx} {E : XK} {r r1 : Rho} {e a b c : Expr} {pos p : Pos} {d d1 d2 : PyData} {ds es : List PyData} {i j : Int}
/-! ### == and in, of data -/
def rEqP (neg : Bool) : R2 := fun x y H Q => ∃ d e, Dat H x d ∧ Dat H y e ∧ min (depL d) (depL e) ≤ 60 ∧ Q (.bl (if neg then !eqL d e else eqL d e)) H
theorem op_eqP (hu : X.A.units + 64 < cLine) : OpR X (compareOp .Eq) (rEqP false) := fun pins s σ H x y v u Q I rx ry ⟨d, e, hx, hy, hd, q⟩ => by
  obtain ⟨as, r1⟩ := hx.reads (Same.refl H) I rx
  obtain ⟨bs, r2⟩ := hy.reads (Same.refl H) I ry
  exact PySem.SeqAt.eq_plain r1 r2 hx.plain hy.plain (by unfold depL at hd; omega) ⟨.bl _, H, I, rfl, q⟩
theorem op_neP (hu : X.A.units + 64 < cLine) : OpR X (compareOp .NotEq) (rEqP true) := fun pins s σ H x y v u Q I rx ry ⟨d, e, hx, hy, hd, q⟩ => by
  obtain ⟨as, r1⟩ := hx.reads (Same.refl H) I rx
  obtain ⟨bs, r2⟩ := hy.reads (Same.refl H) I ry
  exact PySem.SeqAt.ne_plain r1 r2 hx.plain hy.plain (by unfold depL at hd; omega) ⟨.bl _, H, I, rfl, q⟩
theorem r2_eqP {neg : Bool} (hd : min (depL d1) (depL d2) ≤ 60) : R2D (rEqP neg) d1 d2 (.bool (if neg then !eqL d1 d2 else eqL d1 d2)) := fun x y Hs H Q hx hy hs q =>
  ⟨d1, d2, hx.mono hs, hy.mono hs, hd, q _ Hs H (Grw.refl hs) (.bl _)⟩
theorem de_eqP (hu : X.A.units + 64 < cLine) (hd : min (depL d1) (depL d2) ≤ 60) (ha : DE X r a d1) (hb : DE X r b d2) : DE X r (.Compare a [.Eq] [b] pos) (.bool (eqL d1 d2)) := de_cmp (op_eqP hu) (r2_eqP hd) ha hb (nomark _)
theorem de_neP (hu : X.A.units + 64 < cLine) (hd : min (depL d1) (depL d2) ≤ 60) (ha : DE X r a d1) (hb : DE X r b d2) : DE X r (.Compare a [.NotEq] [b] pos) (.bool (!eqL d1 d2)) := de_cmp (op_neP hu) (r2_eqP hd) ha hb (nomark _)
theorem dt_eqP (hu : X.A.units + 64 < cLine) (hd : min (depL d1) (depL d2) ≤ 60) (ha : DE X r a d1) (hb : DE X r b d2) : DT X r (.Compare a [.Eq] [b] pos) (eqL d1 d2) := dt_cmp (op_eqP hu) (r2_eqP hd) ha hb (nomark _)
theorem dt_neP (hu : X.A.units + 64 < cLine) (hd : min (depL d1) (depL d2) ≤ 60) (ha : DE X r a d1) (hb : DE X r b d2) : DT X r (.Compare a [.NotEq] [b] pos) (!eqL d1 d2) := dt_cmp (op_neP hu) (r2_eqP hd) ha hb (nomark _)
def seqOf : PyData → Option (List PyData)
  | .list xs => some xs
  | .tuple xs => some xs
  | _ => none
def rInP (neg : Bool) : R2 := fun x y H Q => ∃ d e xs, Dat H x d ∧ Dat H y e ∧ seqOf e = some xs ∧ depL d ≤ 60 ∧ Q (.bl (if neg then !xs.any fun z => eqL z d else xs.any fun z => eqL z d)) H
theorem op_inP (hu : X.A.units + 64 < cLine) : OpR X (compareOp .In) (rInP false) := fun pins s σ H x y v u Q I rx ry ⟨d, e, xs, hx, hy, hs, hd, q⟩ => by
  obtain ⟨as, r1⟩ := hx.reads (Same.refl H) I rx
  obtain ⟨bs, r2⟩ := hy.reads (Same.refl H) I ry
  have hp := hy.plain
  cases e with
  | list ys => cases hs; rw [lo_list, PyData.plain] at hp; rw [lo_list] at r2; exact PySem.SeqAt.in_list_data r2 r1 hp hx.plain (by unfold depL at hd; omega) ⟨.bl _, H, I, rfl, by rw [List.any_map]; exact q⟩
  | tuple ys => cases hs; rw [lo_tuple, PyData.plain] at hp; rw [lo_tuple] at r2; exact PySem.SeqAt.in_tuple_data r2 r1 hp hx.plain (by unfold depL at hd; omega) ⟨.bl _, H, I, rfl, by rw [List.any_map]; exact q⟩
  | none => cases hs
  | bool _ => cases hs
  | int _ => cases hs
  | str _ => cases hs
  | dict _ => cases hs
theorem op_niP (hu : X.A.units + 64 < cLine) : OpR X (compareOp .NotIn) (rInP true) := fun pins s σ H x y v u Q I rx ry ⟨d, e, xs, hx, hy, hs, hd, q⟩ => by
  obtain ⟨as, r1⟩ := hx.reads (Same.refl H) I rx
  obtain ⟨bs, r2⟩ := hy.reads (Same.refl H) I ry
  have hp := hy.plain
  cases e with
  | list ys => cases hs; rw [lo_list, PyData.plain] at hp; rw [lo_list] at r2; exact PySem.SeqAt.notIn_list_data r2 r1 hp hx.plain (by unfold depL at hd; omega) ⟨.bl _, H, I, rfl, by rw [List.any_map]; exact q⟩
  | tuple ys => cases hs; rw [lo_tuple, PyData.plain] at hp; rw [lo_tuple] at r2; exact PySem.SeqAt.notIn_tuple_data r2 r1 hp hx.plain (by unfold depL at hd; omega) ⟨.bl _, H, I, rfl, by rw [List.any_map]; exact q⟩
  | none => cases hs
  | bool _ => cases hs
  | int _ => cases hs
  | str _ => cases hs
  | dict _ => cases hs
theorem r2_inP {neg : Bool} {xs : List PyData} (hs : seqOf d2 = some xs) (hd : depL d1 ≤ 60) : R2D (rInP neg) d1 d2 (.bool (if neg then !xs.any fun z => eqL z d1 else xs.any fun z => eqL z d1)) := fun x y Hs H Q hx hy h q =>
  ⟨d1, d2, xs, hx.mono h, hy.mono h, hs, hd, q _ Hs H (Grw.refl h) (.bl _)⟩
variable {xs : List PyData}
theorem de_in (hu : X.A.units + 64 < cLine) (ha : DE X r a d1) (hb : DE X r b d2) (hs : seqOf d2 = some xs) (hd : depL d1 ≤ 60) (hm : behindInMarks .In b = false := by rfl) : DE X r (.Compare a [.In] [b] pos) (.bool (xs.any fun z => eqL z d1)) := de_cmp (op_inP hu) (r2_inP hs hd) ha hb hm
theorem de_ni (hu : X.A.units + 64 < cLine) (ha : DE X r a d1) (hb : DE X r b d2) (hs : seqOf d2 = some xs) (hd : depL d1 ≤ 60) (hm : behindInMarks .NotIn b = false := by rfl) : DE X r (.Compare a [.NotIn] [b] pos) (.bool (!xs.any fun z => eqL z d1)) := de_cmp (op_niP hu) (r2_inP hs hd) ha hb hm
theorem dt_in (hu : X.A.units + 64 < cLine) (ha : DE X r a d1) (hb : DE X r b d2) (hs : seqOf d2 = some xs) (hd : depL d1 ≤ 60) (hm : behindInMarks .In b = false := by rfl) : DT X r (.Compare a [.In] [b] pos) (xs.any fun z => eqL z d1) := dt_cmp (op_inP hu) (r2_inP hs hd) ha hb hm
theorem dt_ni (hu : X.A.units + 64 < cLine) (ha : DE X r a d1) (hb : DE X r b d2) (hs : seqOf d2 = some xs) (hd : depL d1 ≤ 60) (hm : behindInMarks .NotIn b = false := by rfl) : DT X r (.Compare a [.NotIn] [b] pos) (!xs.any fun z => eqL z d1) := dt_cmp (op_niP hu) (r2_inP hs hd) ha hb hm
/-! ### items, slices, + -/
theorem dats_at {H : Hp} {vs : List V} {k : Int} (h : Dats H vs ds) (hk : atI ds k = some d) : ∃ v, atI vs k = some v ∧ Dat H v d := by
  unfold atI at hk ⊢
  rw [h.length]
  cases e : ixN ds.length k with
  | none => rw [e] at hk; cases hk
  | some j =>
    rw [e] at hk
    obtain ⟨v, e2, hv⟩ := h.get hk
    exact ⟨v, e2, hv⟩
theorem de_ixL (ha : DE X r a (.list ds)) (hb : DE X r b (.int i)) (hk : atI ds i = some d) (hs : PlainIx b := by intro _ _; rfl) : DE X r (.Subscript a b pos) d :=
  de_ixr ix_list (fun x y Hs H Q hx hy h q => by
    obtain ⟨p, vs, rfl, hp, hv⟩ := hx.inv_list
    obtain ⟨v, e1, hv1⟩ := dats_at hv hk
    exact ⟨p, vs, i, v, rfl, hy.inv_int, SqL.of (h _ _ hp), e1, q v Hs H (Grw.refl h) hv1⟩) ha hb hs
theorem de_ixT (ha : DE X r a (.tuple ds)) (hb : DE X r b (.int i)) (hk : atI ds i = some d) (hs : PlainIx b := by intro _ _; rfl) : DE X r (.Subscript a b pos) d :=
  de_ixr ix_tup (fun x y Hs H Q hx hy h q => by
    obtain ⟨p, vs, rfl, hp, hv⟩ := hx.inv_tuple
    obtain ⟨v, e1, hv1⟩ := dats_at hv hk
    exact ⟨p, vs, i, v, rfl, hy.inv_int, SqT.rd (Rd.same h hp), e1, q v Hs H (Grw.refl h) hv1⟩) ha hb hs
theorem dn_cat (hz : ds.length + es.length ≤ sizeLine) (ha : DE X r a (.list ds)) (hb : DE X r b (.list es)) : DN X r (.BinOp a .Add b pos) (ds ++ es) :=
  PE.wk (pe_op op_cat ha hb) fun _ _ σ H Q _ ⟨Hs0, H0, Hs, A, q⟩ => ⟨Hs0, H0, Hs, A, fun x Hs1 H1 g1 h1 => ⟨Hs0, H0, Hs1, A.grow g1, fun y Hs2 H2 g2 h2 => by
    obtain ⟨p, vs, rfl, hp, hv⟩ := (h1.mono g2.st).inv_list
    obtain ⟨p', ws, rfl, hp', hw⟩ := h2.inv_list
    exact ⟨p, p', vs, ws, rfl, rfl, g2.sub _ _ hp, g2.sub _ _ hp', by rw [hv.length, hw.length]; exact hz, fun l hl =>
      q l _ Hs2 _ ((g1.trans g2).trans (Grw.laidO g2.sub hl)) ((g1.trans g2).all.free hl) (g2.sub.free hl) upd_same (hv.append hw)⟩⟩⟩
theorem de_catT (hz : ds.length + es.length ≤ sizeLine) (ha : DE X r a (.tuple ds)) (hb : DE X r b (.tuple es)) : DE X r (.BinOp a .Add b pos) (.tuple (ds ++ es)) :=
  de_op op_catA (fun x y Hs H Q hx hy h q => by
    obtain ⟨p, vs, rfl, hp, hv⟩ := hx.inv_tuple
    obtain ⟨p', ws, rfl, hp', hw⟩ := hy.inv_tuple
    refine ⟨p, p', vs, ws, rfl, rfl, SqT.rd (Rd.same h hp), SqT.rd (Rd.same h hp'), by rw [hv.length, hw.length]; exact hz, fun e0 => ?_, fun _ e0 => ?_, fun _ _ l hl => ?_⟩
    · subst e0
      cases hv
      exact q _ Hs H (Grw.refl h) (.tup hp' hw)
    · subst e0
      cases hw
      rw [List.append_nil] at q
      exact q _ Hs H (Grw.refl h) (.tup hp hv)
    · exact q _ _ _ (Grw.laid h hl) (.tup (.inl upd_same) ((hv.append hw).mono (same_upd (h.free hl))))) ha hb
theorem dn_rep (ha : DE X r a (.list ds)) (hb : DE X r b (.int i)) (h1 : -(2 ^ 63) ≤ i) (h2 : i < 2 ^ 63) (hz : ds.length * i.toNat ≤ sizeLine) : DN X r (.BinOp a .Mult b pos) (List.replicate i.toNat ds).flatten :=
  PE.wk (pe_op op_rep ha hb) fun _ _ σ H Q _ ⟨Hs0, H0, Hs, A, q⟩ => ⟨Hs0, H0, Hs, A, fun x Hs1 H1 g1 h1' => ⟨Hs0, H0, Hs1, A.grow g1, fun y Hs2 H2 g2 h2' => by
    obtain ⟨p, vs, rfl, hp, hv⟩ := (h1'.mono g2.st).inv_list
    exact ⟨p, i, vs, rfl, h2'.inv_int, g2.sub _ _ hp, h1, h2, by rw [hv.length]; exact hz, fun l hl =>
      q l _ Hs2 _ ((g1.trans g2).trans (Grw.laidO g2.sub hl)) ((g1.trans g2).all.free hl) (g2.sub.free hl) upd_same (hv.rep _)⟩⟩⟩
/-- a part of a slice -/
def tO (K : PySem.W.Frag) (r : Rho) (o : Option Int) : TO := fun σ H Q => ∃ Hs0 H0 Hs, Asn K Hs0 H0 r σ Hs H ∧ ∀ Hs' H', Grw Hs H Hs' H' → Q o H'
def DO (X : Cx) (r : Rho) (e : Option Expr) (o : Option Int) : Prop := PO X e (tO X.K r o)
theorem do_none : DO X r none none := ⟨fun pins s σ H Q I ⟨Hs0, H0, Hs, A, q⟩ => po_none.run pins s σ H Q I (q Hs H (Grw.refl A.g.sub))⟩
theorem do_some (h : DE X r a (.int i)) : DO X r (some a) (some i) := ⟨fun pins s σ H Q I ⟨Hs0, H0, Hs, A, q⟩ => (po_some h).run pins s σ H Q I ⟨Hs0, H0, Hs, A, fun v Hs' H' g hv => ⟨i, hv.inv_int, q Hs' H' g⟩⟩⟩
def cutD (ds : List PyData) (lo hi : Option Int) : List PyData := (ds.drop (HT.sIx ds.length 0 lo)).take (HT.sIx ds.length ds.length hi - HT.sIx ds.length 0 lo)
theorem Dats.cut {H : Hp} {vs : List V} (h : Dats H vs ds) (lo hi : Option Int) : Dats H (cutV vs lo hi) (cutD ds lo hi) := by
  unfold cutV cutD
  rw [h.length]
  exact (h.drop _).take _
variable {lo hi : Option Expr} {l u : Option Int} {p2 : Pos}
theorem dn_slL (ha : DE X r a (.list ds)) (hl : DO X r lo l) (hh : DO X r hi u) : DN X r (.Subscript a (.Slice lo hi none p2) pos) (cutD ds l u) :=
  PE.wk (pe_slice sl_list ha hl hh) fun _ _ σ H Q _ ⟨Hs0, H0, Hs, A, q⟩ => ⟨Hs0, H0, Hs, A, fun x Hs1 H1 g1 h1 => ⟨Hs0, H0, Hs1, A.grow g1, fun Hs2 H2 g2 => ⟨Hs0, H0, Hs2, A.grow (g1.trans g2), fun Hs3 H3 g3 => by
    obtain ⟨p, vs, rfl, hp, hv⟩ := (h1.mono (g2.trans g3).st).inv_list
    have g := (g1.trans g2).trans g3
    exact ⟨p, vs, rfl, SqL.of (g3.sub _ _ hp), fun z hz => q z _ Hs3 _ (g.trans (Grw.laidO g3.sub hz)) (g.all.free hz) (g3.sub.free hz) upd_same (hv.cut l u)⟩⟩⟩⟩
theorem cut_whole {vs : List V} (h : HT.sIx vs.length 0 l = 0 ∧ HT.sIx vs.length vs.length u = vs.length) : cutV vs l u = vs := by
  unfold cutV
  rw [h.1, h.2]
  simp
theorem de_slT (ha : DE X r a (.tuple ds)) (hl : DO X r lo l) (hh : DO X r hi u) : DE X r (.Subscript a (.Slice lo hi none p2) pos) (.tuple (cutD ds l u)) :=
  PE.wk (pe_slice sl_tupA ha hl hh) fun _ _ σ H Q _ ⟨Hs0, H0, Hs, A, q⟩ => ⟨Hs0, H0, Hs, A, fun x Hs1 H1 g1 h1 => ⟨Hs0, H0, Hs1, A.grow g1, fun Hs2 H2 g2 => ⟨Hs0, H0, Hs2, A.grow (g1.trans g2), fun Hs3 H3 g3 => by
    obtain ⟨p, vs, rfl, hp, hv⟩ := (h1.mono (g2.trans g3).st).inv_tuple
    have g := (g1.trans g2).trans g3
    have hc := hv.cut l u
    refine ⟨p, vs, rfl, SqT.rd (Rd.same g3.sub hp), fun hw => ?_, fun _ z hz => ?_⟩
    · rw [cut_whole hw] at hc
      exact q _ Hs3 H3 g (.tup hp hc)
    · exact q _ _ _ (g.trans (Grw.laid g3.sub hz)) (.tup (.inl upd_same) (hc.mono (same_upd (g3.sub.free hz))))⟩⟩⟩
/-! ### built-ins -/
variable {x : Str}
theorem cr_lenL : CRD (fun xs H Q => ∃ p ys, xs = [.ref p] ∧ (SqL X.K H p ys ∨ SqT X.K H p ys) ∧ Q (.int ys.length) H) [.list ds] (.int ds.length) := fun vs Hs H Q hv h q => by
  cases hv with
  | cons h1 t =>
    cases t
    obtain ⟨p, ws, rfl, hp, hw⟩ := h1.inv_list
    exact ⟨p, ws, rfl, .inl (SqL.of (h _ _ hp)), by rw [hw.length]; exact q _ Hs H (Grw.refl h) (.int _)⟩
theorem cr_lenT : CRD (fun xs H Q => ∃ p ys, xs = [.ref p] ∧ (SqL X.K H p ys ∨ SqT X.K H p ys) ∧ Q (.int ys.length) H) [.tuple ds] (.int ds.length) := fun vs Hs H Q hv h q => by
  cases hv with
  | cons h1 t =>
    cases t
    obtain ⟨p, ws, rfl, hp, hw⟩ := h1.inv_tuple
    exact ⟨p, ws, rfl, .inr (SqT.rd (Rd.same h hp)), by rw [hw.length]; exact q _ Hs H (Grw.refl h) (.int _)⟩
theorem de_len (hm : X.mg "len" = none) (ha : DE X r e d) (hs : seqOf d = some ds) (hg : Gl X "len" := by rfl) (he : starEach (e :: []) X.env = (false, eval e X.env) :: starEach [] X.env := by rfl) (hpl : (backTo pos (starEach [] X.env)).any (·.1) = false := by rfl) : DE X r (.Call (.Name "len" p) [e] [] pos) (.int ds.length) := by
  cases d with
  | list xs => cases hs; exact de_callB (ds := [.list ds]) call_len_seq cr_lenL hg hm PySem.boot_len (da_1 ha he) (by decide) (by decide) he hpl
  | tuple xs => cases hs; exact de_callB (ds := [.tuple ds]) call_len_seq cr_lenT hg hm PySem.boot_len (da_1 ha he) (by decide) (by decide) he hpl
  | none => cases hs
  | bool _ => cases hs
  | int _ => cases hs
  | str _ => cases hs
  | dict _ => cases hs
theorem dn_list (hm : X.mg "list" = none) (ha : DE X r e d) (hs : seqOf d = some ds) (hg : Gl X "list" := by rfl) (he : starEach (e :: []) X.env = (false, eval e X.env) :: starEach [] X.env := by rfl) (hpl : (backTo pos (starEach [] X.env)).any (·.1) = false := by rfl) : DN X r (.Call (.Name "list" p) [e] [] pos) ds := by
  refine dn_callT (ds := [d]) call_list_of (fun vs Hs H Q hv h q => ?_) hg hm (by decide +kernel) (da_1 ha he) (by decide) (by decide) he hpl
  cases hv with
  | cons h1 t =>
    cases t
    cases d with
    | list xs =>
      cases hs
      obtain ⟨p, ws, rfl, hp, hw⟩ := h1.inv_list
      exact ⟨p, ws, rfl, .inl (SqL.of (h _ _ hp)), fun z hz => q z ws Hs _ (Grw.laidO h hz) hz (h.free hz) upd_same hw⟩
    | tuple xs =>
      cases hs
      obtain ⟨p, ws, rfl, hp, hw⟩ := h1.inv_tuple
      exact ⟨p, ws, rfl, .inr (SqT.rd (Rd.same h hp)), fun z hz => q z ws Hs _ (Grw.laidO h hz) hz (h.free hz) upd_same hw⟩
    | none => cases hs
    | bool _ => cases hs
    | int _ => cases hs
    | str _ => cases hs
    | dict _ => cases hs
theorem de_tuple (hm : X.mg "tuple" = none) (ha : DE X r e d) (hs : seqOf d = some ds) (hg : Gl X "tuple" := by rfl) (he : starEach (e :: []) X.env = (false, eval e X.env) :: starEach [] X.env := by rfl) (hpl : (backTo pos (starEach [] X.env)).any (·.1) = false := by rfl) : DE X r (.Call (.Name "tuple" p) [e] [] pos) (.tuple ds) := by
  refine de_callT (ds := [d]) call_tuple_of (fun vs Hs H Q hv h q => ?_) hg hm (by decide +kernel) (da_1 ha he) (by decide) (by decide) he hpl
  cases hv with
  | cons h1 t =>
    cases t
    cases d with
    | list xs =>
      cases hs
      obtain ⟨p, ws, rfl, hp, hw⟩ := h1.inv_list
      exact ⟨p, ws, rfl, .inl ⟨SqL.of (h _ _ hp), fun z hz => q _ _ _ (Grw.laid h hz) (.tup (.inl upd_same) (hw.mono (same_upd (h.free hz))))⟩⟩
    | tuple xs =>
      cases hs
      obtain ⟨p, ws, rfl, hp, hw⟩ := h1.inv_tuple
      exact ⟨p, ws, rfl, .inr ⟨SqT.rd (Rd.same h hp), q _ Hs H (Grw.refl h) (.tup hp hw)⟩⟩
    | none => cases hs
    | bool _ => cases hs
    | int _ => cases hs
    | str _ => cases hs
    | dict _ => cases hs
end
end Dl

namespace Dl
open PySem L2 PySem.W PyProof.Rows
/-! ## sorted -/
section
variable {prog : Program} {w : World} {A : Around} {E : Value → Shared → Prop} {s : Shared}
/-- the items of a tuple, collected -/
theorem coll_tup {t : Addr} {us : List Value} {Q : List Value → Shared → Prop} (ht : IsTup s.heap t us.toArray) (hz : us.length ≤ sizeLine)
    (q : Q us { s with heap := (s.heap.push (seqObj "list" #[] 0)).update s.heap.objs.size (Obj.mapSeq (· ++ us.toArray)) }) : wpAny (model prog w) A (collect (.ref t)) Q E s := by
  obtain ⟨o, ho, hc, n, hd⟩ := id ht
  have ho1 := Heap.get?_push_of_some (seqObj "list" #[] 0) ho
  have hnew : (s.heap.push (seqObj "list" #[] 0)).get? s.heap.objs.size = some (seqObj "list" #[] 0) := Heap.get?_push_size _ rfl
  have hcat : (#[] : Array Value) ++ us.toArray = us.toArray := by simp
  unfold collect
  apply wpAny_bind
  apply wpAny_runValue
  apply codeAny_builtin entry_proto_collect'
  change wpAny _ _ (do again (.builtin "list.__iadd__" ⟨[← newList [], Value.ref t], []⟩)) _ _ s
  apply wpAny_bind
  refine wpAny_newList (wpAny_pure ⟨Code.quiet_builtin _ (by decide +kernel), ?_⟩)
  apply codeAny_builtin entry_list_iadd'
  change wpAny _ _ (Builtin.List.listExtendWith (Value.ref s.heap.objs.size) (Value.ref t) (Value.ref s.heap.objs.size)) _ _ { s with heap := s.heap.push (seqObj "list" #[] 0) }
  unfold Builtin.List.listExtendWith
  refine wpAny_bind (wpAny_typeOf (T := "tuple") ⟨o, ho1, hc⟩ ?_)
  rw [if_pos (by rw [show (Value.type "tuple" == Value.type "tuple") = true from rfl, Bool.or_true])]
  refine wpAny_bind (listItems_at ho1 hd ?_)
  refine wpAny_bind (listItems_at (xs := #[]) (n := 0) hnew rfl ?_)
  rw [if_neg (by simp)]
  refine wpAny_bind (listUpdate_at (xs := #[]) (n := 0) hnew rfl ?_ (Nat.zero_le _) (by rw [hcat, List.size_toArray]; omega))
  refine wpAny_pure ?_
  refine wpAny_bind (wpAny_load (get?_update_seq hnew _) ?_)
  change wpAny _ _ (pure ((#[] : Array Value) ++ us.toArray).toList) Q E _
  rw [hcat]
  exact wpAny_pure q
theorem sorted_tup {β : Type} {t : Addr} {us : List Value} {bs : List β} {enc : β → PyData} {R : Value → β → Prop} {Q : Value → Shared → Prop} (ht : IsTup s.heap t us.toArray) (e : EachIs R us bs) (er : EachIs (fun v b => ∃ as, Reads s.heap v (enc b) as) us bs) (hal : AllAlike (bs.map enc))
    (hk : Sortable (bs.map enc)) (hL : bs.length ≤ sizeLine) (hu : ∀ b, b ∈ bs → A.units + 2 + (enc b).depth < cLine) (q : ∀ out, out.length = bs.length → EachIs R out (bs.mergeSort (dataLe false enc)) → Q (.ref (s.heap.objs.size + 1)) { s with heap := sortedAll s.heap us (List.toArray out) }) :
    wpAny (model prog w) A (call (.builtin "sorted") [.ref t]) Q E s := by
  have hz : us.length ≤ sizeLine := by rw [e.length]; exact hL
  have er' : EachIs (fun v b => ∃ as, Reads (sortingHeap (copyHeap s.heap us) (s.heap.objs.size + 1) us) v (enc b) as) us bs := er.mono fun _ _ ⟨as, z⟩ => ⟨as, Reads.keeps (fun _ _ => sorting_copy_old) z⟩
  refine call_function_entry_kw kind_sorted plain_sorted entry_sorted (args_sorted1 _) ?_
  unfold Builtin.«sorted»
  refine wpAny_bind (m := checkCount "sorted" 1 1 _) (wpAny_pure ?_)
  refine wpAny_bind (coll_tup ht hz ?_)
  refine wpAny_bind (wpAny_newList ?_ hz)
  have hsz : ((s.heap.push (seqObj "list" #[] 0)).update s.heap.objs.size (Obj.mapSeq (· ++ us.toArray))).objs.size = s.heap.objs.size + 1 := by rw [Heap.size_update, size_push']
  change wpAny _ _ _ _ _ { s with heap := copyHeap s.heap us }
  rw [hsz]
  have S := SortsAt.data (A := A.in1.in1) (prog := prog) (w := w) (s := { s with heap := sortingHeap (copyHeap s.heap us) (s.heap.objs.size + 1) us }) (each_map (R := fun v d => ∃ as, Reads (sortingHeap (copyHeap s.heap us) (s.heap.objs.size + 1) us) v d as) enc er') hal hk (bound_map hu)
  refine wpAny_bind (wpAny_holding (wpAny_call_entry_kw slot_list_sort ⟨_, copyHeap_at s.heap us, rfl⟩ entry_list_sort ?body (args_list_sort _)))
  case body =>
    change wpAny (model prog w) A.in1.in1 (Builtin.«list.sort» ⟨[Value.ref (s.heap.objs.size + 1)], []⟩) _ _ _
    refine wpAny_mono (list_sort_vals (s := { s with heap := copyHeap s.heap us }) (P := fun f s' => f = .done (.ret .none) ∧ Q (.ref (s.heap.objs.size + 1)) s') (copyHeap_at s.heap us) S hz ⟨rfl, ?_⟩) (fun f s' hf => ?_) fun _ _ z => z
    · exact q _ (by rw [sortVals_length false rfl]; exact e.length) (sortVals_data false e er' hal)
    · obtain ⟨rfl, hq⟩ := hf
      exact ⟨_, rfl, wpAny_pure ⟨_, rfl, hq⟩⟩
end
theorem dats_each {H : Hp} : ∀ {xs : List V} {ds : List PyData} {us : List Value}, Dats H xs ds → Vals xs us → EachIs (fun (v : Value) (b : V × PyData) => RelV b.1 v ∧ Dat H b.1 b.2) us (xs.zip ds)
  | _, _, _, .nil, .nil => .nil
  | _, _, _, .cons h t, .cons r rs => .cons ⟨r, h⟩ (dats_each t rs)
theorem dats_each' {H : Hp} : ∀ {xs : List V} {ds : List PyData} {us : List Value}, Dats H xs ds → Vals xs us → (∀ d ∈ ds, Dl.lo d = d) → EachIs (fun (v : Value) (b : V × PyData) => RelV b.1 v ∧ Dat H b.1 b.2 ∧ Dl.lo b.2 = b.2) us (xs.zip ds)
  | _, _, _, .nil, .nil, _ => .nil
  | _, _, _, .cons h t, .cons r rs, q => .cons ⟨r, h, q _ List.mem_cons_self⟩ (dats_each' t rs fun d hd => q d (List.mem_cons_of_mem _ hd))
theorem each_dats {H : Hp} : ∀ {us : List Value} {bs : List (V × PyData)}, EachIs (fun (v : Value) (b : V × PyData) => RelV b.1 v ∧ Dat H b.1 b.2) us bs → Vals (bs.map (·.1)) us ∧ Dats H (bs.map (·.1)) (bs.map (·.2))
  | _, _, .nil => ⟨.nil, .nil⟩
  | _, _, .cons h t => ⟨.cons h.1 (each_dats t).1, .cons h.2 (each_dats t).2⟩
theorem zip_snd {H : Hp} : ∀ {xs : List V} {ds : List PyData}, Dats H xs ds → (xs.zip ds).map (·.2) = ds
  | _, _, .nil => rfl
  | _, _, .cons _ t => by rw [List.zip_cons_cons, List.map_cons, zip_snd t]
def sortD (ds : List PyData) : List PyData := ds.mergeSort (dataLe false fun d => d)
theorem zip_sort {H : Hp} {xs : List V} {ds : List PyData} (h : Dats H xs ds) : ((xs.zip ds).mergeSort (dataLe false fun b : V × PyData => b.2)).map (·.2) = sortD ds := by
  unfold sortD
  have q := sort_maps (r := dataLe false fun b : V × PyData => b.2) (s := dataLe false fun d : PyData => d) (fun b : V × PyData => b.2) (l := xs.zip ds) fun _ _ _ _ => rfl
  rw [zip_snd h] at q
  exact q
section
variable {X : Cx} {E : XK} {r r1 : Rho} {e a b c : Expr} {pos p : Pos} {d d1 d2 : PyData} {ds es : List PyData} {i j : Int} {x : Str}
def rSortD : List V → Hp → VK → Prop := fun vs H Q => ∃ Hs v d ds, vs = [v] ∧ Same Hs H ∧ Dat Hs v d ∧ seqOf d = some ds ∧ AllAlike ds ∧ Sortable ds ∧ (∀ d ∈ ds, d.depth ≤ 60) ∧ (∀ d ∈ ds, Dl.lo d = d) ∧ ∀ q ys, H q = none → Dats Hs ys (sortD ds) → Q (.ref q) (upd H q (.lst ys))
theorem cr_sortD (hu : X.A.units + 64 < cLine) : CallR X (.builtin "sorted") rSortD := fun pins s σ H vs us Q I rv ⟨Hs, v, d, ds, ev, hsub, hv, hs, hal, hk, hd, hlo, q⟩ => by
  subst ev
  obtain ⟨u, rfl, ru⟩ := vals1 rv
  have fin : ∀ {xs : List V} {its : List Value}, Dats Hs xs ds → Vals xs its → ds.length ≤ sizeLine → ∀ out : List Value, out.length = (xs.zip ds).length → EachIs (fun (v : Value) (b : V × PyData) => RelV b.1 v ∧ Dat Hs b.1 b.2) out ((xs.zip ds).mergeSort (dataLe false fun b : V × PyData => b.2)) →
      EP X pins σ Q (.ref (s.heap.objs.size + 1)) { s with heap := sortedAll s.heap its out.toArray } := fun {xs its} hx hr hz out ho eo => by
    obtain ⟨e1, e2⟩ := each_dats eo
    rw [zip_sort hx] at e2
    obtain ⟨c, hc⟩ := sortedAll_at s.heap its out.toArray
    have hf : H (s.heap.objs.size + 1) = none := I.hok.fresh (Nat.le_succ _)
    refine ⟨.ref _, _, I.laid (t' := s.toks) (a := s.heap.objs.size + 1) (o := .lst _) (fun b o hb => sortedAll_old hb) (Nat.le_succ _) ⟨?_, out, c, e1, hc⟩, rfl, q _ _ hf e2⟩
    rw [e1.length, ho, List.length_zip, hx.length, Nat.min_self]
    exact hz
  have rd : ∀ {xs : List V} {its : List Value}, Dats Hs xs ds → Vals xs its → EachIs (fun (v : Value) (b : V × PyData) => ∃ as, Reads s.heap v b.2 as) its (xs.zip ds) := fun {xs} {its} hx hr => (dats_each' hx hr hlo).mono fun v b z => by
    obtain ⟨as, q⟩ := z.2.1.reads hsub I z.1
    rw [z.2.2] at q
    exact ⟨as, q⟩
  have dp : ∀ {xs : List V}, Dats Hs xs ds → ∀ b ∈ xs.zip ds, X.A.units + 2 + b.2.depth < cLine := fun {xs} hx b hb => by
    have := hd b.2 (by rw [← zip_snd hx]; exact List.mem_map.mpr ⟨b, hb, rfl⟩)
    omega
  have lz : ∀ {xs : List V}, Dats Hs xs ds → (xs.zip ds).length = ds.length := fun {xs} hx => by rw [List.length_zip, hx.length, Nat.min_self]
  cases d with
  | list zs =>
    cases hs
    obtain ⟨l, xs, rfl, hl, hx⟩ := hv.inv_list
    cases ru
    obtain ⟨its, hr, hp, hz⟩ := I.list (SqL.of (hsub _ _ hl))
    rw [hx.length] at hz
    refine sorted_data (bs := xs.zip ds) (enc := fun b => b.2) hp.isList (dats_each hx hr) (rd hx hr) (by rw [zip_snd hx]; exact hal) (by rw [zip_snd hx]; exact hk) (by rw [lz hx]; exact hz) (dp hx) fun out ho eo => fin hx hr hz out ho eo
  | tuple zs =>
    cases hs
    obtain ⟨l, xs, rfl, hl, hx⟩ := hv.inv_tuple
    cases ru
    obtain ⟨its, hr, hp, hz⟩ := I.tuple (SqT.rd (Rd.same hsub hl))
    rw [hx.length] at hz
    refine sorted_tup (bs := xs.zip ds) (enc := fun b => b.2) hp (dats_each hx hr) (rd hx hr) (by rw [zip_snd hx]; exact hal) (by rw [zip_snd hx]; exact hk) (by rw [lz hx]; exact hz) (dp hx) fun out ho eo => fin hx hr hz out ho eo
  | none => cases hs
  | bool _ => cases hs
  | int _ => cases hs
  | str _ => cases hs
  | dict _ => cases hs
theorem dn_sorted (hu : X.A.units + 64 < cLine) (hm : X.mg "sorted" = none) (ha : DE X r e d) (hs : seqOf d = some ds) (hal : AllAlike ds) (hk : Sortable ds) (hd : ∀ d ∈ ds, d.depth ≤ 60) (hlo : ∀ d ∈ ds, Dl.lo d = d) (hg : Gl X "sorted" := by rfl)
    (he : starEach (e :: []) X.env = (false, eval e X.env) :: starEach [] X.env := by rfl) (hpl : (backTo pos (starEach [] X.env)).any (·.1) = false := by rfl) : DN X r (.Call (.Name "sorted" p) [e] [] pos) (sortD ds) := by
  refine dn_callB (ds := [d]) (cr_sortD hu) (fun vs Hs H Q hv h q => ?_) hg hm (by decide +kernel) (da_1 ha he) (by decide) (by decide) he hpl
  cases hv with
  | cons h1 t =>
    cases t
    exact ⟨Hs, _, d, ds, rfl, h, h1, hs, hal, hk, hd, hlo, fun z ys hz hy => q z ys Hs _ (Grw.laidO h hz) hz (h.free hz) upd_same hy⟩
end
end Dl

namespace Dl
open PySem L2 PySem.W PyProof.Rows
/-! ## sets of whole numbers -/
abbrev set0 (w : World) : Obj := { cls := .type "set", dict := none, data := .set #[] 0 (.fresh 0 0 (!w.params.followText "set-order")) }
section
variable {P : Program} {w : World} {A : Around} {E : Value → Shared → Prop} {s : Shared}
/-- what set(..) of a walk of whole numbers leaves -/
structure SetLaid (w : World) (ns : List Int) (s : Shared) (h' : Heap) (c : Nat) : Prop where
  set : SetR w h' s.heap.objs.size (fun j => decide (j ∈ ns)) c
  le : c ≤ ns.length
  keep : ∀ b o, s.heap.get? b = some o → h'.get? b = some o
set_option maxHeartbeats 3200000 in
theorem set_list_raw {l : Addr} {its : Array Value} (ns : List Int) {Q : Value → Shared → Prop} (hh : A.handled = none) (hl : s.heap.IsList l its) (hi : IntsAre its.toList ns) (hb : ns.length + 1 < scanBound)
    (q : ∀ (h' : Heap) (tk c : Nat), SetLaid w ns s h' c → Q (.ref s.heap.objs.size) { s with heap := h', toks := tk }) : wpAny (model P w) A (call (.type "set") [.ref l]) Q E s := by
  have hsz : its.size = ns.length := by
    have z := IntsAre.length hi
    rwa [Array.length_toList] at z
  have hlS : l < s.heap.objs.size := by
    obtain ⟨o, ho, _⟩ := hl
    exact Heap.lt_size ho
  have hS0 : (s.heap.push (set0 w)).get? s.heap.objs.size = some (set0 w) := Heap.get?_push_size _ rfl
  have hsz1 : (s.heap.push (set0 w)).objs.size = s.heap.objs.size + 1 := Heap.size_push ..
  have hl1 : (s.heap.push (set0 w)).IsList l its := hl.push _
  have hval : ∀ (i : Nat) (v : Value), its[i]? = some v → ∃ k t, ns[i]? = some k ∧ v = Value.int k t := fun i v hv => by
    have hlt : i < ns.length := by
      rw [← hsz]
      exact (Array.getElem?_eq_some_iff.mp hv).1
    obtain ⟨t, z⟩ := IntsAre.int_at hi i v (by rw [Array.getElem?_toList]; exact hv)
    refine ⟨ns[i], t, List.getElem?_eq_getElem hlt, ?_⟩
    rw [z, List.getD_eq_getElem?_getD, List.getElem?_eq_getElem hlt]
    rfl
  have hne : l ≠ (s.heap.push (set0 w)).objs.size := by
    rw [hsz1]
    exact Nat.ne_of_lt (Nat.lt_succ_of_lt hlS)
  have hnf : s.heap.objs.size ∉ [(s.heap.push (set0 w)).objs.size, l] := by
    rw [hsz1]
    intro z
    rcases List.mem_cons.mp z with z | z
    · exact absurd z (Nat.ne_of_lt (Nat.lt_succ_self _))
    · exact absurd (List.mem_singleton.mp z) (Nat.ne_of_gt hlS)
  obtain ⟨c, tl, hmro⟩ := F.called_set.mro
  have m1 := F.called_set.made
  have m2 := F.called_set.sub
  have m3 := F.called_set.notType
  have m4 := F.called_set.canCreate
  have m5 := F.typeCall_set_1 (.ref l)
  apply wpAny_call
  apply codeAny_of_tree
  change wpAny _ _ (callAny (.type "set") _) _ _ _
  refine wpAny_pure ⟨Code.quiet_builtin _ (by decide +kernel), codeAny_builtin F.entry_type_call ?_⟩
  rw [Around.under_plain (weight_type_call_type "set" [.ref l] []) rfl]
  repeat (any_goals (first | assumption | wp_step))
  refine codeAny_mono (code_set_led1 (.ref l) (E := E) (Q₁ := fun z s1 => z = .ref s.heap.objs.size ∧ s1 = { s with heap := s.heap.push (set0 w) }) ⟨rfl, rfl⟩) fun r1 s1 hr1 => ?_
  cases r1 with
  | error z => exact hr1
  | ok fl =>
    cases fl with
    | next => exact hr1
    | brk => exact hr1
    | cont => exact hr1
    | ret z =>
      obtain ⟨rfl, rfl⟩ := hr1
      have hT : Shared.TypeIs { s with heap := s.heap.push (set0 w) } (.ref s.heap.objs.size) "set" := ⟨_, hS0, rfl⟩
      have m6 := F.called_set.init.lookup
      have m7 := F.called_set.init.bind (.ref s.heap.objs.size)
      repeat (any_goals (first | assumption | wp_step))
      refine codeAny_mono (codeAny_call_builtin (R := wants (fun r s2 => r = .none ∧ ∃ h' tk c, s2 = { s with heap := h', toks := tk } ∧ SetLaid w ns s h' c) E) F.called_set.init.plain F.entry_set_init (check_set_init_1 hT ?_)) fun r2 s2 hr2 => ?_
      · have hl2 := hl1
        obtain ⟨ol, ho, hc, nl, hd⟩ := hl2
        obtain ⟨cl, di, da, sl⟩ := ol
        dsimp only at hc hd
        subst hc
        subst hd
        have m8 := F.sub_list_set
        have m9 := F.sub_list_frozenset
        have m10 : (Value.type "list" == Value.type "dict") = false := by decide
        unfold Builtin.«set.__init__» noKeywords Builtin.Frozenset.updateFrom
        generalize hPI : pyIter = PI
        wp_walk
        subst hPI
        refine wpAny_pyIter_list hl1 ?_
        refine wpAny_bind (wpAny_runValue ?_)
        have hh3 : A.in1.in1.in1.handled = none := by simp [hh]
        refine set_update_ints ((Walks.list hh3 _ l hne its).toS) s.heap.objs.size hnf ns hsz hb hval (its.size - 0) 0 _ (by omega) (Nat.zero_le _) ⟨⟨_, Heap.get?_push_size _ rfl, rfl, rfl⟩, hl1.push _⟩ ?h0 ?h1
        case h0 => exact ⟨0, Nat.le_refl 0, setR_new_at (Heap.get?_push_of_some _ hS0)⟩
        case h1 =>
          intro s' c' hm hc' hS'
          obtain ⟨h', g', d', t', o'⟩ := s'
          obtain rfl : g' = s.gens := hm.gens
          obtain rfl : d' = s.drawn := hm.drawn
          obtain rfl : o' = s.os := hm.os
          refine wpAny_pure ?_
          change wpAny _ _ (ret Value.none) _ _ _
          refine wpAny_pure ⟨rfl, h', t', c', rfl, hS', by rw [← hsz]; exact hc', fun b o e => ?_⟩
          have hlt : b < s.heap.objs.size := Heap.lt_size e
          refine hm.heap b o (fun z => ?_) (Heap.get?_push_of_some _ (Heap.get?_push_of_some _ e))
          rcases List.mem_cons.mp z with z | z
          · exact absurd z (Nat.ne_of_lt hlt)
          · rw [List.mem_singleton, hsz1] at z
            exact absurd z (Nat.ne_of_lt (Nat.lt_succ_of_lt hlt))
      · cases r2 with
        | error z => exact hr2
        | ok fl =>
          cases fl with
          | next => exact hr2
          | brk => exact hr2
          | cont => exact hr2
          | ret z =>
            obtain ⟨rfl, h', tk, c', rfl, L⟩ := hr2
            repeat (any_goals (first | assumption | wp_step))
            exact q h' tk c' L
end
end Dl

namespace Dl
open PySem L2 PySem.W PyProof.Rows
/-! ## rising lists -/
def insI (x : Int) : List Int → List Int
  | [] => [x]
  | y :: ys => if x < y then x :: y :: ys else if x = y then y :: ys else y :: insI x ys
def risen (ns : List Int) : List Int := ns.foldr insI []
theorem mem_insI (x k : Int) : ∀ l : List Int, k ∈ insI x l ↔ k = x ∨ k ∈ l
  | [] => by simp [insI]
  | y :: ys => by
    unfold insI
    split
    · simp
    · split
      · rename_i h1 h2
        subst h2
        simp
      · simp [mem_insI x k ys]
        constructor
        · rintro (h | h | h)
          · exact .inr (.inl h)
          · exact .inl h
          · exact .inr (.inr h)
        · rintro (h | h | h)
          · exact .inr (.inl h)
          · exact .inl h
          · exact .inr (.inr h)
theorem insI_pw (x : Int) : ∀ l : List Int, l.Pairwise (· < ·) → (insI x l).Pairwise (· < ·)
  | [], _ => by simp [insI]
  | y :: ys, h => by
    unfold insI
    rw [List.pairwise_cons] at h
    split
    · rename_i h1
      refine List.pairwise_cons.mpr ⟨fun z hz => ?_, List.pairwise_cons.mpr h⟩
      rcases List.mem_cons.mp hz with e | e
      · rw [e]; exact h1
      · have := h.1 z e; omega
    · split
      · exact List.pairwise_cons.mpr h
      · rename_i h1 h2
        refine List.pairwise_cons.mpr ⟨fun z hz => ?_, insI_pw x ys h.2⟩
        rcases (mem_insI x z ys).mp hz with e | e
        · rw [e]; omega
        · exact h.1 z e
theorem mem_risen (k : Int) : ∀ ns : List Int, k ∈ risen ns ↔ k ∈ ns
  | [] => by simp [risen]
  | n :: ns => by
    show k ∈ insI n (risen ns) ↔ _
    rw [mem_insI, mem_risen k ns, List.mem_cons]
theorem risen_pw : ∀ ns : List Int, (risen ns).Pairwise (· < ·)
  | [] => by simp [risen]
  | n :: ns => insI_pw n (risen ns) (risen_pw ns)
theorem rise_one : ∀ {l m : List Int}, l.Pairwise (· < ·) → m.Pairwise (· < ·) → (∀ k, k ∈ l ↔ k ∈ m) → l = m
  | [], [], _, _, _ => rfl
  | [], y :: m, _, _, h => absurd ((h y).mpr List.mem_cons_self) (by simp)
  | x :: l, [], _, _, h => absurd ((h x).mp List.mem_cons_self) (by simp)
  | x :: l, y :: m, hl, hm, h => by
    rw [List.pairwise_cons] at hl hm
    have e : x = y := by
      rcases List.mem_cons.mp ((h x).mp List.mem_cons_self) with z | z
      · exact z
      · rcases List.mem_cons.mp ((h y).mpr List.mem_cons_self) with z' | z'
        · exact z'.symm
        · have := hl.1 y z'; have := hm.1 x z; omega
    subst e
    have ht : ∀ k, k ∈ l ↔ k ∈ m := fun k => by
      constructor
      · intro hk
        rcases List.mem_cons.mp ((h k).mp (List.mem_cons_of_mem _ hk)) with z | z
        · have := hl.1 k hk; omega
        · exact z
      · intro hk
        rcases List.mem_cons.mp ((h k).mpr (List.mem_cons_of_mem _ hk)) with z | z
        · have := hm.1 k hk; omega
        · exact z
    rw [rise_one hl.2 hm.2 ht]
theorem risen_eq {ms ns : List Int} (h : ms.Pairwise (· < ·)) (hm : ∀ k, k ∈ ms ↔ k ∈ ns) : ms = risen ns := rise_one h (risen_pw ns) fun k => (hm k).trans (mem_risen k ns).symm
theorem pw_nodup {l : List Int} (h : l.Pairwise (· < ·)) : l.Nodup := h.imp fun z => by omega
theorem nodup_len {l m : List Int} (hl : l.Nodup) (hm : m.Nodup) (h : ∀ k, k ∈ l ↔ k ∈ m) : l.length = m.length := ((List.perm_ext_iff_of_nodup hl hm).mpr h).length_eq
theorem insI_len (x : Int) : ∀ l : List Int, (insI x l).length ≤ l.length + 1
  | [] => by simp [insI]
  | y :: ys => by
    unfold insI
    split
    · simp
    · split
      · simp
      · have := insI_len x ys
        simp only [List.length_cons]; omega
theorem risen_len : ∀ ns : List Int, (risen ns).length ≤ ns.length
  | [] => Nat.le_refl _
  | n :: ns => by
    show (insI n (risen ns)).length ≤ _
    have := insI_len n (risen ns)
    have := risen_len ns
    simp only [List.length_cons]; omega
theorem SetR.count {w : World} {h : Heap} {a : Addr} {ns : List Int} {n : Nat} (R : SetR w h a (fun j => decide (j ∈ ns)) n) : n = (risen ns).length := by
  obtain ⟨o, es, ep, t, ho, hx, hd, g, nd, hm, hb, hf, hn, _⟩ := R
  have : (es.toList.map keyOf).length = (risen ns).length := nodup_len nd (pw_nodup (risen_pw ns)) fun k => by
    rw [mem_risen, ← hm k, decide_eq_true_eq]
  rw [List.length_map, Array.length_toList] at this
  omega
section
variable {X : Cx} {E : XK} {r r1 : Rho} {e a b c : Expr} {pos p : Pos} {d d1 d2 : PyData} {ds es : List PyData} {i j : Int} {x : Str} {ns : List Int}
def tSt (K : PySem.W.Frag) (w : World) (r : Rho) (ns : List Int) : TE := fun σ H Q => ∃ Hs0 H0 Hs, Asn K Hs0 H0 r σ Hs H ∧ ∀ q Hs' H', Grw Hs H Hs' H' → H' q = some (SetO w q (fun j => decide (j ∈ ns)) (risen ns).length) → Q (.ref q) H'
def DSt (X : Cx) (r : Rho) (e : Expr) (ns : List Int) : Prop := PE X e (tSt X.K X.w r ns)
def rSetOfI (w : World) : List V → Hp → VK → Prop := fun vs H Q => ∃ v d, ∃ ns : List Int, vs = [v] ∧ Dat H v d ∧ seqOf d = some (ns.map .int) ∧ ns.length ≤ 4000 ∧ ∀ q, H q = none → Q (.ref q) (upd H q (SetO w q (fun j => decide (j ∈ ns)) (risen ns).length))
theorem cr_setOfI (hc : X.calm = true) : CallR X (.type "set") (rSetOfI X.w) := fun pins s σ H vs us Q I rv ⟨v, d, ns, ev, hv, hs, hn, q⟩ => by
  subst ev
  obtain ⟨u, rfl, ru⟩ := vals1 rv
  have hf : H s.heap.objs.size = none := I.hok.fresh (Nat.le_refl _)
  have hsc : ns.length + 1 < scanBound := by unfold scanBound; omega
  cases d with
  | list zs =>
    cases hs
    obtain ⟨l, xs, rfl, hl, hx⟩ := hv.inv_list
    obtain rfl := hx.ints
    cases ru
    obtain ⟨its, hr, hp, hz⟩ := I.list (SqL.of hl)
    refine set_list_raw ns (I.ok.hd hc) hp.isList (by simpa using hr.ints) hsc fun h' tk c L => ?_
    have R := L.set
    rw [SetR.count R] at R
    exact ⟨.ref _, _, I.laid (t' := tk) (fun b o hb => L.keep b o hb) (Nat.le_refl _) (setO_new R), rfl, q _ hf⟩
  | tuple zs =>
    cases hs
    obtain ⟨l, xs, rfl, hl, hx⟩ := hv.inv_tuple
    obtain rfl := hx.ints
    cases ru
    obtain ⟨its, hr, hp, hz⟩ := I.tuple (SqT.rd hl)
    refine call_set_tupI ns (I.ok.hd hc) hp (by simpa using hr.ints) hsc fun h' tk c R hcl hk => ?_
    rw [SetR.count R] at R
    exact ⟨.ref _, _, I.laid (t' := tk) (fun b o hb => hk b o hb) (Nat.le_refl _) (setO_new R), rfl, q _ hf⟩
  | none => cases hs
  | bool _ => cases hs
  | int _ => cases hs
  | str _ => cases hs
  | dict _ => cases hs
theorem dst_set (hc : X.calm = true) (hm : X.mg "set" = none) (ha : DE X r e d) (hs : seqOf d = some (ns.map .int)) (hn : ns.length ≤ 4000) (hg : Gl X "set" := by rfl)
    (he : starEach (e :: []) X.env = (false, eval e X.env) :: starEach [] X.env := by rfl) (hpl : (backTo pos (starEach [] X.env)).any (·.1) = false := by rfl) : DSt X r (.Call (.Name "set" p) [e] [] pos) ns :=
  PE.wk (pe_callTy (cr_setOfI hc) hg hm (by decide +kernel) (da_1 ha he) (by decide) (by decide) he hpl) fun _ _ σ H Q _ ⟨Hs0, H0, Hs, A, q⟩ => ⟨Hs0, H0, Hs, A, fun vs Hs1 H1 g1 h1 => by
    cases h1 with
    | cons hu t =>
      cases t
      exact ⟨_, d, ns, rfl, Dat.mono g1.sub hu, hs, hn, fun z hz => q z Hs1 _ (g1.trans (Grw.laidO g1.sub hz)) upd_same⟩⟩
theorem dn_sortSet (hc : X.calm = true) (hm : X.mg "sorted" = none) (ha : DSt X r e ns) (hn : ns.length < 64) (hg : Gl X "sorted" := by rfl)
    (he : starEach (e :: []) X.env = (false, eval e X.env) :: starEach [] X.env := by rfl) (hpl : (backTo pos (starEach [] X.env)).any (·.1) = false := by rfl) : DN X r (.Call (.Name "sorted" p) [e] [] pos) ((risen ns).map .int) :=
  PE.wk (pe_callB (cr_sortedSet hc) hg hm (by decide +kernel) (pa_cons ha pa_nil he) (by decide) (by decide) he hpl) fun _ _ σ H Q _ ⟨Hs0, H0, Hs, A, q⟩ => ⟨Hs0, H0, Hs, A, fun z Hs1 H1 g1 h1 =>
    ⟨z, _, _, rfl, h1, Nat.lt_of_le_of_lt (risen_len ns) hn, fun ms l hp hm' _ hl => by
      obtain rfl : ms = risen ns := risen_eq hp fun k => by rw [hm' k, decide_eq_true_eq]
      exact q l _ Hs1 _ (g1.trans (Grw.laidO g1.sub hl)) (g1.all.free hl) (g1.sub.free hl) upd_same (Dats.of_ints _)⟩⟩
theorem cr_lenSet : CallR X (.builtin "len") (fun vs H Q => ∃ (q : Addr) (S : Int → Bool) (n : Nat), vs = [.ref q] ∧ H q = some (SetO X.w q S n) ∧ Q (.int n) H) := fun pins s σ H vs us Q I rv ⟨z, S, n, ev, hz, q⟩ => by
  subst ev
  rw [Vals.ref1 rv]
  obtain ⟨o, es, ep, t, ho, hx, hd, g, nd, hm, hb, hf, hn, _⟩ := setO_get I hz
  exact call_len_set ho hx hd hf (by unfold scanBound at hb; omega) ⟨.int n, H, I.tok _, ⟨_, by rw [hn]⟩, q⟩
theorem de_lenSet (hm : X.mg "len" = none) (ha : DSt X r e ns) (hg : Gl X "len" := by rfl)
    (he : starEach (e :: []) X.env = (false, eval e X.env) :: starEach [] X.env := by rfl) (hpl : (backTo pos (starEach [] X.env)).any (·.1) = false := by rfl) : DE X r (.Call (.Name "len" p) [e] [] pos) (.int (risen ns).length) :=
  PE.wk (pe_callB cr_lenSet hg hm PySem.boot_len (pa_cons ha pa_nil he) (by decide) (by decide) he hpl) fun _ _ σ H Q _ ⟨Hs0, H0, Hs, A, q⟩ => ⟨Hs0, H0, Hs, A, fun z Hs1 H1 g1 h1 =>
    ⟨z, _, _, rfl, h1, q _ Hs1 H1 g1 (.int _)⟩⟩
/-! ### any, all, sum, least, greatest -/
variable {bs : List Bool}
theorem de_all (hc : X.calm = true) (hm : X.mg "all" = none) (ha : DE X r e (.list (bs.map .bool))) (hg : Gl X "all" := by rfl)
    (he : starEach (e :: []) X.env = (false, eval e X.env) :: starEach [] X.env := by rfl) (hpl : (backTo pos (starEach [] X.env)).any (·.1) = false := by rfl) : DE X r (.Call (.Name "all" p) [e] [] pos) (.bool (bs.all id)) :=
  de_callB (ds := [.list (bs.map .bool)]) (cr_all hc) (fun vs Hs H Q hv h q => by
    cases hv with
    | cons h1 t =>
      cases t
      obtain ⟨l, ws, rfl, hp, hw⟩ := h1.inv_list
      obtain rfl := hw.bls
      exact ⟨l, bs, rfl, SqL.of (h _ _ hp), q _ Hs H (Grw.refl h) (.bl _)⟩) hg hm (by decide +kernel) (da_1 ha he) (by decide) (by decide) he hpl
theorem de_any (hc : X.calm = true) (hm : X.mg "any" = none) (ha : DE X r e (.list (bs.map .bool))) (hg : Gl X "any" := by rfl)
    (he : starEach (e :: []) X.env = (false, eval e X.env) :: starEach [] X.env := by rfl) (hpl : (backTo pos (starEach [] X.env)).any (·.1) = false := by rfl) : DE X r (.Call (.Name "any" p) [e] [] pos) (.bool (bs.any id)) :=
  de_callB (ds := [.list (bs.map .bool)]) (cr_any hc) (fun vs Hs H Q hv h q => by
    cases hv with
    | cons h1 t =>
      cases t
      obtain ⟨l, ws, rfl, hp, hw⟩ := h1.inv_list
      obtain rfl := hw.bls
      exact ⟨l, bs, rfl, SqL.of (h _ _ hp), q _ Hs H (Grw.refl h) (.bl _)⟩) hg hm (by decide +kernel) (da_1 ha he) (by decide) (by decide) he hpl
theorem de_sumL (hc : X.calm = true) (hm : X.mg "sum" = none) (ha : DE X r e (.list (ns.map .int))) (hg : Gl X "sum" := by rfl)
    (he : starEach (e :: []) X.env = (false, eval e X.env) :: starEach [] X.env := by rfl) (hpl : (backTo pos (starEach [] X.env)).any (·.1) = false := by rfl) : DE X r (.Call (.Name "sum" p) [e] [] pos) (.int ns.sum) :=
  de_callB (ds := [.list (ns.map .int)]) (cr_sum hc) (fun vs Hs H Q hv h q => by
    cases hv with
    | cons h1 t =>
      cases t
      obtain ⟨l, ws, rfl, hp, hw⟩ := h1.inv_list
      obtain rfl := hw.ints
      exact ⟨l, ns, rfl, SqL.of (h _ _ hp), q _ Hs H (Grw.refl h) (.int _)⟩) hg hm (by decide +kernel) (da_1 ha he) (by decide) (by decide) he hpl
theorem de_min2 (hc : X.calm = true) (hm : X.mg "min" = none) (ha : DE X r a (.int i)) (hb : DE X r b (.int j)) (hg : Gl X "min" := by rfl)
    (he : starEach (a :: [b]) X.env = (false, eval a X.env) :: starEach [b] X.env := by rfl) (he2 : starEach (b :: []) X.env = (false, eval b X.env) :: starEach [] X.env := by rfl) (hpl : (backTo pos (starEach [b] X.env)).any (·.1) = false := by rfl) : DE X r (.Call (.Name "min" p) [a, b] [] pos) (.int (min i j)) :=
  de_callB (ds := [.int i, .int j]) (call_min2 hc) (fun vs Hs H Q hv h q => by
    cases hv with
    | cons h1 t =>
      cases t with
      | cons h2 t =>
        cases t
        refine ⟨i, j, by rw [h1.inv_int, h2.inv_int], ?_⟩
        have e : (if j < i then j else i) = min i j := by
          by_cases z : j < i
          · rw [if_pos z]; omega
          · rw [if_neg z]; omega
        rw [e]
        exact q _ Hs H (Grw.refl h) (.int _)) hg hm (by decide +kernel) (da_cons ha.arg (da_1 hb he2) he) (by decide) (by decide) he hpl
theorem de_intB {k : Bool} (hm : X.mg "int" = none) (ha : DE X r e (.bool k)) (hg : Gl X "int" := by rfl)
    (he : starEach (e :: []) X.env = (false, eval e X.env) :: starEach [] X.env := by rfl) (hpl : (backTo pos (starEach [] X.env)).any (·.1) = false := by rfl) : DE X r (.Call (.Name "int" p) [e] [] pos) (.int (if k then 1 else 0)) :=
  de_callT (ds := [.bool k]) call_int1 (fun vs Hs H Q hv h q => by
    cases hv with
    | cons h1 t =>
      cases t
      exact .inr ⟨k, by rw [h1.inv_bool], q _ Hs H (Grw.refl h) (.int _)⟩) hg hm (by decide +kernel) (da_1 ha he) (by decide) (by decide) he hpl
/-! ### sorted whole numbers -/
def sortI (ns : List Int) : List Int := ns.mergeSort fun a b => decide (a ≤ b)
theorem sortD_ints (ns : List Int) : sortD (ns.map .int) = (sortI ns).map .int := by
  unfold sortD sortI
  rw [sort_maps (r := fun a b : Int => decide (a ≤ b)) (s := dataLe false fun d : PyData => d) PyData.int fun a _ b _ => ?_]
  exact (congrFun (congrFun (dataLe_int (fun n : Int => n)) a) b).symm
theorem alike_intsL (ns : List Int) : AllAlike (ns.map .int) := AllAlike.of fun _ _ => by simp [alike]
theorem sortable_ints (ns : List Int) : Sortable (ns.map .int) := Sortable.others fun _ => ⟨by simp, by simp⟩
theorem dep_ints (ns : List Int) : ∀ d ∈ ns.map PyData.int, d.depth ≤ 60 := fun d hd => by
  obtain ⟨x, _, rfl⟩ := List.mem_map.mp hd
  simp [PyData.depth]
theorem lo_ints (ns : List Int) : ∀ d ∈ ns.map PyData.int, Dl.lo d = d := fun d hd => by
  obtain ⟨x, _, rfl⟩ := List.mem_map.mp hd
  exact lo_int x
theorem dn_sortI (hu : X.A.units + 64 < cLine) (hm : X.mg "sorted" = none) (ha : DE X r e d) (hs : seqOf d = some (ns.map .int)) (hg : Gl X "sorted" := by rfl)
    (he : starEach (e :: []) X.env = (false, eval e X.env) :: starEach [] X.env := by rfl) (hpl : (backTo pos (starEach [] X.env)).any (·.1) = false := by rfl) : DN X r (.Call (.Name "sorted" p) [e] [] pos) ((sortI ns).map .int) :=
  (dn_sorted hu hm ha hs (alike_intsL ns) (sortable_ints ns) (dep_ints ns) (lo_ints ns) hg he hpl).is (sortD_ints ns)
end
end Dl

namespace Dl
open PySem L2 PySem.W PyProof.Rows
/-- a def of the text, as it stands behind the top -/
structure Dfn (K : PySem.W.Frag) (mg : Str → Option Value) (name : Str) (st : Stmt) (ps : List Str) where
  f : Addr
  fd : FuncData
  F : Fun K name name st f fd
  b : Binds K fd ps []
  g : mg name = some (.ref f)
/-- the built-in names are still the built-in ones -/
structure Blt (mg : Str → Option Value) : Prop where
  len : mg "len" = none
  sorted : mg "sorted" = none
  set : mg "set" = none
  tuple : mg "tuple" = none
  list : mg "list" = none
  range : mg "range" = none
  min : mg "min" = none
  max : mg "max" = none
  sum : mg "sum" = none
  int : mg "int" = none
  str : mg "str" = none
  repr : mg "repr" = none
  isinstance : mg "isinstance" = none
  enumerate : mg "enumerate" = none
  zip : mg "zip" = none
  any : mg "any" = none
  all : mg "all" = none
  bool : mg "bool" = none
section
variable {P : Program} {w : World} {K : PySem.W.Frag} {mg : Str → Option Value} {base : Heap}
/-- the def keeps the promise R, by level k -/
abbrev Dfn.Ok (P : Program) (w : World) (base : Heap) {name : Str} {st : Stmt} {ps : List Str} (D : Dfn K mg name st ps) (k : Nat) (R : Rho → PyData → Prop) : Prop := FnOk P w K mg base CX0 k D.f D.fd ps (spF K R)
end
section
variable {X : Cx} {r : Rho} {e : Expr} {pos p : Pos} {d : PyData} {k : Nat} {R : Rho → PyData → Prop} {as : Rho} {x : Str} {es : List Expr} {st : Stmt} {ps : List Str}
theorem dc (D : Dfn X.K X.mg x st ps) (F : FnOk X.prog X.w X.K X.mg X.base CX0 k D.f D.fd ps (spF X.K R)) {k' : Nat} (hr : Room k' X.A) (hk : k ≤ k') (ha : DA X r (e :: es) as) (hR : R as d) (hg : Gl X x := by rfl)
    (hdb : (x == ("__debug__" : Str)) = false := by decide) (he : starEach (e :: es) X.env = (false, eval e X.env) :: starEach es X.env := by rfl) (hpl : (backTo pos (starEach es X.env)).any (·.1) = false := by rfl) : DE X r (.Call (.Name x p) (e :: es) [] pos) d :=
  de_call F (hr.mono hk) D.g D.F.kp D.b ha hR hg hdb he hpl
theorem da_2 {a b : Expr} {d1 d2 : PyData} (h1 : DE X r a d1) (h2 : DE X r b d2) (e1 : starEach (a :: [b]) X.env = (false, eval a X.env) :: starEach [b] X.env := by rfl) (e2 : starEach (b :: []) X.env = (false, eval b X.env) :: starEach [] X.env := by rfl) : DA X r [a, b] [.val d1, .val d2] := da_cons h1.arg (da_1 h2 e2) e1
theorem da_3 {a b c : Expr} {d1 d2 d3 : PyData} (h1 : DE X r a d1) (h2 : DE X r b d2) (h3 : DE X r c d3) (e1 : starEach (a :: [b, c]) X.env = (false, eval a X.env) :: starEach [b, c] X.env := by rfl) (e2 : starEach (b :: [c]) X.env = (false, eval b X.env) :: starEach [c] X.env := by rfl)
    (e3 : starEach (c :: []) X.env = (false, eval c X.env) :: starEach [] X.env := by rfl) : DA X r [a, b, c] [.val d1, .val d2, .val d3] := da_cons h1.arg (da_2 h2 h3 e2 e3) e1
end
end Dl

namespace Dl
open PySem
/-! ## == of data that stand for things -/
def EqRep {α : Type} [DecidableEq α] (f : α → PyData) : Prop := ∀ a b, eqL (f a) (f b) = decide (a = b)
theorem eqv_int (a b : Int) : eqL (.int a) (.int b) = decide (a = b) := by unfold eqL; rw [lo_int, lo_int, PyData.eqv, Bool.beq_eq_decide_eq]
theorem eqv_str (a b : Str) : eqL (.str a) (.str b) = decide (a = b) := by
  unfold eqL
  rw [lo_str, lo_str, PyData.eqv]
  by_cases h : a = b
  · subst h; simp
  · rw [decide_eq_false h]
    cases e : (a == b) with
    | false => rfl
    | true => exact absurd (eq_of_beq e) h
theorem eqRep_int : EqRep PyData.int := eqv_int
theorem eqRep_bool : EqRep PyData.bool := fun a b => by unfold eqL; rw [lo_bool, lo_bool, PyData.eqv, Bool.beq_eq_decide_eq]
theorem eqRep_str : EqRep PyData.str := eqv_str
theorem eqvAll_map {α : Type} [DecidableEq α] {f : α → PyData} (h : EqRep f) : ∀ xs ys : List α, PyData.eqvAll ((xs.map f).map Dl.lo) ((ys.map f).map Dl.lo) = decide (xs = ys)
  | [], [] => by rw [List.map_nil, List.map_nil, PyData.eqvAll]; rfl
  | [], y :: ys => by rw [List.map_nil, List.map_nil, List.map_cons, List.map_cons, PyData.eqvAll]; simp
  | x :: xs, [] => by rw [List.map_nil, List.map_nil, List.map_cons, List.map_cons, PyData.eqvAll]; simp
  | x :: xs, y :: ys => by
    have hxy := h x y
    unfold eqL at hxy
    rw [List.map_cons, List.map_cons, List.map_cons, List.map_cons, PyData.eqvAll, hxy, eqvAll_map h xs ys]
    by_cases a : x = y
    · by_cases b : xs = ys
      · simp [a, b]
      · simp [a, b]
    · simp [a]
theorem eqRep_tup {α : Type} [DecidableEq α] {f : α → PyData} (h : EqRep f) : EqRep fun xs : List α => PyData.tuple (xs.map f) := fun xs ys => by unfold eqL; rw [lo_tuple, lo_tuple, PyData.eqv]; exact eqvAll_map h xs ys
theorem eqRep_xt {α : Type} [DecidableEq α] {f : α → PyData} (h : EqRep f) : EqRep fun xs : List α => Dl.xt (xs.map f) := fun xs ys => by unfold eqL; rw [lo_xt, lo_xt, PyData.eqv]; exact eqvAll_map h xs ys
theorem eqRep_lst {α : Type} [DecidableEq α] {f : α → PyData} (h : EqRep f) : EqRep fun xs : List α => PyData.list (xs.map f) := fun xs ys => by unfold eqL; rw [lo_list, lo_list, PyData.eqv]; exact eqvAll_map h xs ys
theorem eqv_tup {α : Type} [DecidableEq α] {f : α → PyData} (h : EqRep f) (xs ys : List α) : eqL (.tuple (xs.map f)) (.tuple (ys.map f)) = decide (xs = ys) := eqRep_tup h xs ys
theorem eqv_lst {α : Type} [DecidableEq α] {f : α → PyData} (h : EqRep f) (xs ys : List α) : eqL (.list (xs.map f)) (.list (ys.map f)) = decide (xs = ys) := eqRep_lst h xs ys
theorem eqv_xt {α : Type} [DecidableEq α] {f : α → PyData} (h : EqRep f) (xs ys : List α) : eqL (Dl.xt (xs.map f)) (Dl.xt (ys.map f)) = decide (xs = ys) := eqRep_xt h xs ys
theorem eqL_xtl (ds : List PyData) (e : PyData) : eqL (Dl.xt ds) e = eqL (.tuple ds) e := by unfold eqL; rw [lo_xt, lo_tuple]
theorem eqL_xtr (ds : List PyData) (e : PyData) : eqL e (Dl.xt ds) = eqL e (.tuple ds) := by unfold eqL; rw [lo_xt, lo_tuple]
theorem any_map_eqv {α : Type} [DecidableEq α] {f : α → PyData} (h : EqRep f) (x : α) (xs : List α) : ((xs.map f).any fun z => eqL z (f x)) = xs.any fun z => decide (z = x) := by
  rw [List.any_map]
  congr 1
  funext z
  exact h z x
theorem any_mem {α : Type} [DecidableEq α] (x : α) (xs : List α) [Decidable (x ∈ xs)] : (xs.any fun z => decide (z = x)) = decide (x ∈ xs) := by
  by_cases h : x ∈ xs
  · rw [decide_eq_true h, List.any_eq_true]
    exact ⟨x, h, decide_eq_true rfl⟩
  · rw [decide_eq_false h, List.any_eq_false]
    intro z hz e
    exact h (of_decide_eq_true e ▸ hz)
/-! ## forgetting slots -/
open L2 in
def Forg : Rho → Rho → Prop
  | [], [] => True
  | a :: r, b :: r' => (b = .un ∨ b = a) ∧ Forg r r'
  | _, _ => False
theorem Forg.nil : Forg [] [] := trivial
theorem Forg.cons0 {a : Slot} {r r' : Rho} (h : Forg r r') : Forg (a :: r) (.un :: r') := ⟨.inl rfl, h⟩
theorem Forg.cons1 {a : Slot} {r r' : Rho} (h : Forg r r') : Forg (a :: r) (a :: r') := ⟨.inr rfl, h⟩
theorem Forg.refl : ∀ r : Rho, Forg r r
  | [] => trivial
  | a :: r => ⟨.inr rfl, Forg.refl r⟩
theorem Forg.length : ∀ {r r' : Rho}, Forg r r' → r'.length = r.length
  | [], [], _ => rfl
  | _ :: _, _ :: _, h => by rw [List.length_cons, List.length_cons, Forg.length h.2]
  | [], _ :: _, h => h.elim
  | _ :: _, [], h => h.elim
theorem Forg.at_ : ∀ {r r' : Rho}, Forg r r' → ∀ (i : Nat) s, r'[i]? = some s → s = .un ∨ r[i]? = some s
  | [], [], _, i, s, e => by simp at e
  | a :: r, b :: r', h, 0, s, e => by
    simp at e
    subst e
    rcases h.1 with z | z
    · exact .inl z
    · exact .inr (by rw [z]; rfl)
  | a :: r, b :: r', h, i + 1, s, e => Forg.at_ h.2 i s e
  | [], _ :: _, h, _, _, _ => h.elim
  | _ :: _, [], h, _, _, _ => h.elim
section
open L2
variable {X : Cx} {E : XK} {r r1 : Rho} {P : Post} {sts : List Stmt} {st : Stmt} {tg iter : Expr} {pos : Pos} {ds : List PyData} {c : Expr}
theorem Asn.forg {K : PySem.W.Frag} {Hs0 H0 : Hp} {σ : L2.St} {Hs H : Hp} (A : Asn K Hs0 H0 r σ Hs H) (f : Forg r r1) : Asn K Hs0 H0 r1 σ Hs H :=
  A.weak (by rw [f.length, A.len]) fun i s e => (f.at_ i s e).elim .inl fun q => .inr ⟨q, rfl⟩
theorem dss_forg (f : Forg r r1) (h : DSs X E r1 sts P) : DSs X E r sts P := PSs.wk h fun D σ H ⟨Hs0, H0, Hs, A, w⟩ => ⟨Hs0, H0, Hs, A.forg f, w⟩
theorem ds_forg (f : Forg r r1) (h : DS X E r1 st P) : DS X E r st P := PS.wk h fun _ _ D σ H _ ⟨Hs0, H0, Hs, A, w⟩ => ⟨Hs0, H0, Hs, A.forg f, w⟩
theorem dss_fin (f : Forg r r1) (h : P.nx r1) : DSs X E r [] P := dss_forg f (dss_nil h)
/-- the end of a block in a state that says more than is asked -/
theorem dss_post {r2 : Rho} (h : DSs X E r sts { P with nx := fun z => Forg z r2 }) (hp : P.nx r2) : DSs X E r sts P := PSs.wk h fun D σ H ⟨Hs0, H0, Hs, A, w⟩ => ⟨Hs0, H0, Hs, A, ⟨fun r' σ' Hs' H' p a s => w.nx r2 σ' Hs' H' hp (a.forg p) s, w.rt, w.bk, w.ct, w.ex, w.rs, w.ro⟩⟩
theorem ds_post {r2 : Rho} (h : DS X E r st { P with nx := fun z => Forg z r2 }) (hp : P.nx r2) : DS X E r st P := PS.wk h fun _ _ D σ H _ ⟨Hs0, H0, Hs, A, w⟩ => ⟨Hs0, H0, Hs, A, ⟨fun r' σ' Hs' H' p a s => w.nx r2 σ' Hs' H' hp (a.forg p) s, w.rt, w.bk, w.ct, w.ex, w.rs, w.ro⟩⟩
/-- one statement, then the rest from a state that may say less -/
theorem dss_st (r1 : Rho) (h : DS X E r st { P with nx := fun z => Forg z r1 }) (h' : DSs X E r1 sts P) : DSs X E r (st :: sts) P := dss_seq h fun _ f => dss_forg f h'
/-- a for loop by the slots S i behind i turns; G i : what else is known there -/
theorem ds_forS {body : List Stmt} (S : Nat → Rho) (G : Nat → Prop) (hp : PassesOwn (model X.prog X.w) X.A X.env X.xe) (hc : X.calm = true) (h0 : Forg r (S 0)) (hi : DI X (S 0) tg iter ds) (g0 : G 0)
    (hstep : ∀ (i : Nat) d, ds[i]? = some d → G i → ∃ ws r2, DG X tg ws (S i) d r2 ∧ DSs X E r2 body { P with nx := fun z => Forg z (S (i + 1)) ∧ G (i + 1), ct := fun z => Forg z (S (i + 1)) ∧ G (i + 1), bk := P.nx }) (hend : G ds.length → P.nx (S ds.length))
    (hs : ∀ x, foldedSetIterable iter X.env x = pure x := by intro _; rfl) : DS X E r (.For tg iter body [] pos) P := by
  refine ds_forg h0 (ds_for (fun i r1 => r1 = S i ∧ G i) hp hc hi ⟨rfl, g0⟩ (fun i d r1 hd _ ⟨e, g⟩ => ?_) (fun r1 ⟨e, g⟩ => e ▸ hend g) hs)
  subst e
  obtain ⟨ws, r2, h1, h2⟩ := hstep i d hd g
  refine ⟨ws, r2, h1, PSs.wk h2 fun D σ H ⟨Hs0, H0, Hs, A, w⟩ => ⟨Hs0, H0, Hs, A, ⟨fun r' σ' Hs' H' p a s => w.nx _ σ' Hs' H' ⟨rfl, p.2⟩ (a.forg p.1) s, w.rt, w.bk, fun r' σ' Hs' H' p a s => w.ct _ σ' Hs' H' ⟨rfl, p.2⟩ (a.forg p.1) s, w.ex, w.rs, w.ro⟩⟩⟩
/-- the same where nothing else is known -/
theorem ds_forT {body : List Stmt} (S : Nat → Rho) (hp : PassesOwn (model X.prog X.w) X.A X.env X.xe) (hc : X.calm = true) (h0 : Forg r (S 0)) (hi : DI X (S 0) tg iter ds)
    (hstep : ∀ (i : Nat) d, ds[i]? = some d → ∃ ws r2, DG X tg ws (S i) d r2 ∧ DSs X E r2 body { P with nx := fun z => Forg z (S (i + 1)), ct := fun z => Forg z (S (i + 1)), bk := P.nx }) (hend : P.nx (S ds.length))
    (hs : ∀ x, foldedSetIterable iter X.env x = pure x := by intro _; rfl) : DS X E r (.For tg iter body [] pos) P := by
  refine ds_forS S (fun _ => True) hp hc h0 hi trivial (fun i d hd _ => ?_) (fun _ => hend) hs
  obtain ⟨ws, r2, h1, h2⟩ := hstep i d hd
  exact ⟨ws, r2, h1, PSs.wk h2 fun D σ H ⟨Hs0, H0, Hs, A, w⟩ => ⟨Hs0, H0, Hs, A, ⟨fun r' σ' Hs' H' p a s => w.nx _ σ' Hs' H' ⟨p, trivial⟩ a s, w.rt, w.bk, fun r' σ' Hs' H' p a s => w.ct _ σ' Hs' H' ⟨p, trivial⟩ a s, w.ex, w.rs, w.ro⟩⟩⟩
end
/-! ## small things about lists -/
theorem sz (n : Nat) (h : n ≤ 1000 := by decide) : n ≤ sizeLine := by rw [sizeLine_eq]; omega
theorem size_ok {n : Nat} (h : n ≤ 1000000) : n ≤ sizeLine := by rw [sizeLine_eq]; omega
theorem map_at {α β : Type} {f : α → β} {xs : List α} {i : Nat} {d : β} (h : (xs.map f)[i]? = some d) : ∃ x, xs[i]? = some x ∧ d = f x := by
  rw [List.getElem?_map] at h
  cases e : xs[i]? with
  | none => rw [e] at h; cases h
  | some x => rw [e] at h; exact ⟨x, rfl, (Option.some.inj h).symm⟩
theorem at_mem {α : Type} {xs : List α} {i : Nat} {x : α} (h : xs[i]? = some x) : x ∈ xs := List.mem_of_getElem? h
theorem take_snoc {α : Type} {xs : List α} {i : Nat} {x : α} (h : xs[i]? = some x) : xs.take (i + 1) = xs.take i ++ [x] := by rw [List.take_add_one, h]; rfl
theorem flatMap_snoc {α β : Type} (f : α → List β) {xs : List α} {i : Nat} {x : α} (h : xs[i]? = some x) : (xs.take (i + 1)).flatMap f = (xs.take i).flatMap f ++ f x := by
  rw [take_snoc h, List.flatMap_append]
  simp
theorem map_snoc {α β : Type} (f : α → β) {xs : List α} {i : Nat} {x : α} (h : xs[i]? = some x) : (xs.take (i + 1)).map f = (xs.take i).map f ++ [f x] := by
  rw [take_snoc h, List.map_append]
  rfl
theorem foldl_snoc {α β : Type} (f : β → α → β) (b : β) {xs : List α} {i : Nat} {x : α} (h : xs[i]? = some x) : (xs.take (i + 1)).foldl f b = f ((xs.take i).foldl f b) x := by
  rw [take_snoc h, List.foldl_append]
  rfl
theorem flatMap_len {α β : Type} {f : α → List β} {n : Nat} : ∀ {xs : List α}, (∀ x ∈ xs, (f x).length ≤ n) → (xs.flatMap f).length ≤ xs.length * n
  | [], _ => Nat.zero_le _
  | x :: xs, h => by
    rw [List.flatMap_cons, List.length_append, List.length_cons, Nat.succ_mul]
    have h1 := h x List.mem_cons_self
    have h2 := flatMap_len (f := f) (n := n) fun y hy => h y (List.mem_cons_of_mem x hy)
    omega
theorem mem_take {α : Type} {xs : List α} {i : Nat} {x : α} (h : x ∈ xs.take i) : x ∈ xs := List.mem_of_mem_take h
theorem flatMap_take_len {α β : Type} {f : α → List β} {n m : Nat} {xs : List α} (hl : xs.length ≤ m) (h : ∀ x ∈ xs, (f x).length ≤ n) (i : Nat) : ((xs.take i).flatMap f).length ≤ m * n := by
  refine Nat.le_trans (flatMap_len fun x hx => h x (mem_take hx)) (Nat.mul_le_mul_right _ ?_)
  rw [List.length_take]
  omega
theorem take_all {α : Type} {xs : List α} : xs.take xs.length = xs := List.take_length
theorem rangeD_at {lo : Int} {n i : Nat} {d : PyData} (h : (rangeD lo n)[i]? = some d) : d = .int (lo + (i : Int)) ∧ i < n := by
  unfold rangeD at h
  obtain ⟨k, hk, rfl⟩ := map_at h
  obtain ⟨h1, h2⟩ := List.getElem?_eq_some_iff.mp hk
  rw [List.length_range] at h1
  rw [List.getElem_range] at h2
  subst h2
  exact ⟨rfl, h1⟩
end Dl

namespace Dl
open PySem L2 PySem.W PyProof.Rows
section
variable {X : Cx} {E : XK} {r r1 : Rho} {e a b c : Expr} {pos p : Pos} {d d1 d2 : PyData} {ds es : List PyData} {i j : Int} {x : Str} {ns : List Int}
/-! ## the script -/
theorem de_lenScr (hm : X.mg "len" = none) (ha : DAr X r e (.scr ns)) (hg : Gl X "len" := by rfl)
    (he : starEach (e :: []) X.env = (false, eval e X.env) :: starEach [] X.env := by rfl) (hpl : (backTo pos (starEach [] X.env)).any (·.1) = false := by rfl) : DE X r (.Call (.Name "len" p) [e] [] pos) (.int ns.length) :=
  PE.wk (pe_callB call_len_seq hg hm PySem.boot_len (da_cons ha da_nil he) (by decide) (by decide) he hpl) fun _ _ σ H Q _ ⟨Hs0, H0, Hs, A, q⟩ => ⟨Hs0, H0, Hs, A, fun vs Hs1 H1 g1 h1 => by
    cases h1 with
    | cons hu t =>
      cases t
      obtain ⟨l, rfl, hl⟩ := hu
      refine ⟨l, _, rfl, .inl (g1.sub.seq hl), ?_⟩
      rw [List.length_map]
      exact q _ Hs1 H1 g1 (.int _)⟩
theorem de_ixScr (ha : DAr X r a (.scr ns)) (hb : DE X r b (.int i)) (hk : atI ns i = some j) (hs : PlainIx b := by intro _ _; rfl) : DE X r (.Subscript a b pos) (.int j) :=
  PE.wk (pe_ix ix_list ha hb hs) fun _ _ σ H Q _ ⟨Hs0, H0, Hs, A, q⟩ => ⟨Hs0, H0, Hs, A, fun v Hs1 H1 g1 h1 => ⟨Hs0, H0, Hs1, A.grow g1, fun u Hs2 H2 g2 h2 => by
    obtain ⟨l, rfl, hl⟩ := h1
    refine ⟨l, _, i, .int j, rfl, h2.inv_int, g2.sub.seq (g2.st.seq hl), ?_, q _ Hs2 H2 (g1.trans g2) (.int _)⟩
    unfold atI at hk ⊢
    rw [List.length_map]
    cases z : ixN ns.length i with
    | none => rw [z] at hk; cases hk
    | some m =>
      rw [z] at hk
      show (ns.map V.int)[m]? = _
      rw [List.getElem?_map, show ns[m]? = some j from hk]
      rfl⟩⟩
end
theorem atI_lt {α : Type} {xs : List α} {k : Nat} (h : k < xs.length) : atI xs (k : Int) = some xs[k] := atI_nat (List.getElem?_eq_getElem h)
theorem atI_of {α : Type} {xs : List α} {i : Int} {x : α} (h0 : 0 ≤ i) (h : xs[i.toNat]? = some x) : atI xs i = some x := by
  have e : i = (i.toNat : Int) := by omega
  rw [e]
  exact atI_nat h
end Dl

namespace Dl
open PySem L2 PySem.W PyProof.Rows
/-! ## enumerate, zip: over lists and tuples in any mix -/
inductive Knd where
  | l
  | t
def SqK (c : Knd) (K : PySem.W.Frag) (H : Hp) (a : Addr) (xs : List V) : Prop := match c with
  | .l => SqL K H a xs
  | .t => SqT K H a xs
def ItK (c : Knd) (h : Heap) (it a : Addr) (i : Nat) : Prop := match c with
  | .l => h.IsListIter it a i
  | .t => h.IsTupleIter it a i
def SeqK (c : Knd) (h : Heap) (a : Addr) (items : Array Value) : Prop := match c with
  | .l => h.IsList a items
  | .t => h.IsTuple a items
def objK (c : Knd) (a : Addr) : Obj := match c with
  | .l => { cls := .type "list_iterator", data := .fields #[.ref a, .int 0 0] }
  | .t => { cls := .type "tuple_iterator", data := .fields #[.ref a, .int 0 0] }
theorem drawsK (c : Knd) {prog : Program} {w : World} {A : Around} (hh : A.handled = none) (it a : Addr) (hne : a ≠ it) (items : Array Value) :
    Draws prog w A it [it, a] items.size (fun i v => items[i]? = some v) (fun i h => ItK c h it a i ∧ SeqK c h a items) := by
  cases c with
  | l => exact Draws.list hh it a hne items
  | t => exact Draws.tuple hh it a hne items
theorem beginsK (c : Knd) (a : Addr) (items : Array Value) : Begins (.ref a) (objK c a) fun h => SeqK c h a items := by
  cases c with
  | l => exact begins_list a items
  | t => exact begins_tuple a items
theorem itK_0 {c : Knd} {h : Heap} {it a : Addr} (e : h.get? it = some (objK c a)) : ItK c h it a 0 := by
  cases c with
  | l => exact ⟨_, e, rfl, rfl⟩
  | t => exact ⟨_, e, rfl, rfl⟩
theorem itK_at {c : Knd} {h h' : Heap} {it a : Addr} {i : Nat} (s : ItK c h it a i) (k : ∀ o, h.get? it = some o → h'.get? it = some o) : ItK c h' it a i := by
  cases c with
  | l => exact Heap.IsListIter.at s k
  | t => exact Heap.IsTupleIter.at s k
theorem itK_ob {c : Knd} {h : Heap} {it a : Addr} {i : Nat} (s : ItK c h it a i) : ∃ o, h.get? it = some o ∧ ∀ v, o.data ≠ .cell v := by
  cases c with
  | l => obtain ⟨o, e, _, d⟩ := s; exact ⟨o, e, fun v z => by rw [d] at z; cases z⟩
  | t => obtain ⟨o, e, _, d⟩ := s; exact ⟨o, e, fun v z => by rw [d] at z; cases z⟩
theorem seqK_lt {c : Knd} {h : Heap} {a : Addr} {items : Array Value} (s : SeqK c h a items) : a < h.objs.size := by
  cases c with
  | l => obtain ⟨o, e, _⟩ := s; exact Heap.lt_size e
  | t => obtain ⟨o, e, _⟩ := s; exact Heap.lt_size e
section
variable {X : Cx} {pins : List (Addr × Obj)} {σ : L2.St} {H : Hp} {s : Shared} {a : Addr} {xs ys : List V}
theorem invK (c : Knd) (I : Inv X pins σ H s) (h : SqK c X.K H a xs) : ∃ its : List Value, Vals xs its ∧ SeqK c s.heap a its.toArray := by
  cases c with
  | l => obtain ⟨its, r, p, _⟩ := I.list h; exact ⟨its, r, p.isList⟩
  | t => obtain ⟨its, r, p, _⟩ := I.tuple h; exact ⟨its, r, p⟩
theorem invK_inj (c : Knd) (I : Inv X pins σ H s) (h : SqK c X.K H a xs) (h' : SqK c X.K H a ys) : xs = ys := by
  cases c with
  | l => exact I.list_inj h h'
  | t => exact I.tuple_inj h h'
end
theorem tupOf2_at {h h' : Heap} {T : Addr} {x y : Value} (e : IsTupOf2 h T x y) (k : ∀ o, h.get? T = some o → h'.get? T = some o) : IsTupOf2 h' T x y := k _ e
theorem tupOf3_at {h h' : Heap} {T : Addr} {x y z : Value} (e : IsTupOf3 h T x y z) (k : ∀ o, h.get? T = some o → h'.get? T = some o) : IsTupOf3 h' T x y z := k _ e
/-! ### enumerate -/
def ItEn (c : Knd) (K : PySem.W.Frag) (a : Addr) : It :=
  ⟨fun i H => ∃ xs x, SqK c K H a xs ∧ xs[i]? = some x, fun i H v H' => ∃ T x, v = .ref T ∧ H T = none ∧ H' = upd H T (.tup [.int (i : Int), x]) ∧ ∀ xs, SqK c K H a xs → xs[i]? = some x, fun i H => ∃ xs, SqK c K H a xs ∧ xs.length = i⟩
theorem turnEn (c : Knd) {P : Program} {w : World} {K : PySem.W.Frag} {elts : List Expr} {kk : Nat} {tpos : Pos} (a e it : Addr) :
    Turn P w K (.Tuple elts kk tpos) (ItEn c K a) [e, it] e (fun i h => (∃ old, IsEnum h e it ((0 : Int) + (i : Int)) old) ∧ ItK c h it a i ∧ e ≠ it ∧ a ≠ it ∧ a ≠ e) where
  mem := by simp
  obj := fun i h st b hb => by
    obtain ⟨⟨old, he⟩, hi, _⟩ := st
    rcases List.mem_cons.mp hb with z | z
    · rw [z]; exact ⟨_, he, fun v q => nomatch q⟩
    · rw [List.mem_singleton.mp z]; exact itK_ob hi
  keep := fun i h h' st k => let ⟨⟨old, he⟩, hi, n⟩ := st; ⟨⟨old, k e (by simp) _ he⟩, itK_at hi fun o q => k it (by simp) o q, n⟩
  item := by
    intro X hP hw hK hc i pins s σ H E I hf st hg
    subst hP hw hK
    obtain ⟨he, hit, n1, n2, n3⟩ := st
    obtain ⟨xs, x, hq, hx⟩ := hg
    obtain ⟨its, rv, hseq⟩ := invK c I hq
    have hlt : i < its.toArray.size := by
      rw [List.size_toArray, ← rv.length]
      exact (List.getElem?_eq_some_iff.mp hx).1
    have hD := drawsK c (prog := X.prog) (w := X.w) (A := X.A.in1) (by have := I.ok.hd hc; simpa using this) it a n2 its.toArray
    have G := GoesN.enumFrom (elts := elts) (x1 := kk) (pos := tpos) 0 hD e n1 (by simp; exact ⟨n1, n3.symm⟩) (by simp)
    have hel : e < s.heap.objs.size := by obtain ⟨old, q⟩ := he; exact Heap.lt_size q
    have hil : it < s.heap.objs.size := by obtain ⟨o, q, _⟩ := itK_ob hit; exact Heap.lt_size q
    refine G.goes i s _ E hlt ⟨he, hit, hseq⟩ fun v h' tk hY hSt hk htk => ?_
    obtain ⟨T, t, u, rfl, hT, hu, ht⟩ := hY
    obtain ⟨u', hu', ru⟩ := rv.get hx
    have eu : u = u' := by
      rw [List.getElem?_toArray, hu'] at hu
      exact (Option.some.inj hu).symm
    subst eu
    obtain ⟨he', hit', _⟩ := hSt
    have new : ObjOk X.prog X.w (upd H T (.tup [.int (i : Int), x])) h' T (.tup [.int (i : Int), x]) := ⟨by show 2 ≤ sizeLine; decide, [.int ((0 : Int) + (i : Int)) t, u], .cons ⟨_, by rw [Int.zero_add]⟩ (.cons ru .nil), ht⟩
    refine ⟨.ref T, _, I.turnedNew (t' := tk) (ch := [e, it]) (fun b ob hb q => hk b ob hb q) hf hT new, rfl, ⟨T, x, rfl, I.hok.fresh hT, rfl, fun ys hy => by rw [invK_inj c I hy hq]; exact hx⟩, ⟨he', hit', n1, n2, n3⟩, fun b hb => ?_⟩
    have hb' : b < s.heap.objs.size := by
      rcases List.mem_cons.mp hb with z | z
      · rw [z]; exact hel
      · rw [List.mem_singleton.mp z]; exact hil
    rw [upd_ne (Nat.ne_of_lt (Nat.lt_of_lt_of_le hb' hT))]
    exact (hf b hb).1
  done := by
    intro X hP hw hK hc i pins s σ H E I hf st hg
    subst hP hw hK
    obtain ⟨he, hit, n1, n2, n3⟩ := st
    obtain ⟨xs, hq, hx⟩ := hg
    obtain ⟨its, rv, hseq⟩ := invK c I hq
    have hn : i = its.toArray.size := by rw [List.size_toArray, ← rv.length]; exact hx.symm
    have hD := drawsK c (prog := X.prog) (w := X.w) (A := X.A.in1) (by have := I.ok.hd hc; simpa using this) it a n2 its.toArray
    have G := GoesN.enumFrom (elts := elts) (x1 := kk) (pos := tpos) 0 hD e n1 (by simp; exact ⟨n1, n3.symm⟩) (by simp)
    subst hn
    exact G.stops s _ E ⟨he, hit, hseq⟩ fun h' tk hk htk => I.turnedL (t' := tk) (ch := [e, it]) (fun b ob hb q => hk b ob hb q) hf
  self := fun A i s Q E st h => let ⟨⟨_, he⟩, _⟩ := st; wpAny_pyIter_enum he h

set_option maxHeartbeats 1000000 in
theorem enumNew1 {v : Value} {o : Obj} {Hy : Heap → Prop} (B : Begins v o Hy) :
    Meets (Builtin.«enumerate.__new__» ⟨[.type "enumerate", v], []⟩) (fun _ R s => Hy s.heap ∧ R (.ok (.ret (.ref (s.heap.push o).objs.size))) { s with heap := (s.heap.push o).push { cls := .type "enumerate", data := .fields #[.none, .bool false, .ref s.heap.objs.size, rawInt 0, .none, .none] } }) :=
  .of_wp fun prog w A R s h => by
    obtain ⟨hp, g, d, tk, os⟩ := s
    obtain ⟨h1, h⟩ := h
    have m1 := sub_enumerate
    have m2 : ∀ {A' : Around} {E : Value → Shared → Prop} {Q : Value → Shared → Prop}, Q (.ref hp.objs.size) ⟨hp.push o, g, d, tk, os⟩ → wpAny (model prog w) A' (pyIter v) Q E ⟨hp, g, d, tk, os⟩ := fun q => B.iter prog w _ _ ⟨hp, g, d, tk, os⟩ _ h1 q
    wp_walk using m2
    refine wpAny_stack_any fun st => wpAny_pure ?_
    split
    · rename_i c _ _ _ _ _
      cases (c == Value.type "enumerate")
      · wp_walk using m2
        exact ⟨_, rfl, h⟩
      · wp_walk using m2
        exact ⟨_, rfl, h⟩
    · wp_walk using m2
      exact ⟨_, rfl, h⟩
theorem enum_begins1 {prog : Program} {w : World} {A : Around} {E : Value → Shared → Prop} {s : Shared} {v : Value} {o : Obj} {Hy : Heap → Prop} {Q : Value → Shared → Prop} (B : Begins v o Hy) (h1 : Hy s.heap)
    (q : ∀ h', IsEnum h' (s.heap.objs.size + 1) s.heap.objs.size 0 .none → h'.get? s.heap.objs.size = some o → (∀ b ob, s.heap.get? b = some ob → h'.get? b = some ob) → Q (.ref (s.heap.objs.size + 1)) { s with heap := h' }) : wpAny (model prog w) A (call (.type "enumerate") [v]) Q E s := by
  refine callType_new F.called_enumerate (by decide) (F.typeCall_enumerate_1 _) (F.newCall_enumerate_1 _) (fun ob => F.args_object_init_2 ob _) F.entry_enumerate_new (enumNew1 B) ⟨h1, ?_⟩
  have hz : (s.heap.push o).objs.size = s.heap.objs.size + 1 := Heap.size_push ..
  have he := Heap.get?_push_size (s.heap.push o) (o := { cls := .type "enumerate", data := .fields #[.none, .bool false, .ref s.heap.objs.size, rawInt 0, .none, .none] }) rfl
  show _ ∧ _
  rw [hz] at he ⊢
  exact ⟨⟨_, he, rfl⟩, q _ he (Heap.get?_push_of_some _ (Heap.get?_push_size _ B.free)) fun b ob e => Heap.get?_push_of_some _ (Heap.get?_push_of_some _ e)⟩
def iEn (c : Knd) (K : PySem.W.Frag) (ta : TA) : TI := fun σ H R => ta σ H fun vs H1 => ∃ a xs, vs = [.ref a] ∧ SqK c K H1 a xs ∧ R (ItEn c K a) H1
theorem piEn (c : Knd) {X : Cx} {e : Expr} {ta : TA} {p pos tpos : Pos} {elts : List Expr} {kk : Nat} (hg : Gl X "enumerate") (hm : X.mg "enumerate" = none) (ha : PA X [e] ta) (hs : starEach [e] X.env = [(false, eval e X.env)] := by rfl) :
    PI X (.Tuple elts kk tpos) (.Call (.Name "enumerate" p) [e] [] pos) (iEn c X.K ta) := ⟨fun pins s σ H R I h => by
  refine Call_ (ld_blt I hg hm boot_enumerate (callWith_type1 (thn (ha.run pos pins s σ H _ I h) fun us s1 ⟨vs, H1, I1, r1, q1⟩ => ?_) hs rfl))
  obtain ⟨a, xs, ev, hq, q⟩ := q1
  subst ev
  obtain ⟨u, rfl, ru⟩ := vals1 r1
  cases ru
  obtain ⟨its, rv, hseq⟩ := invK c I1 hq
  have hal := seqK_lt hseq
  refine enum_begins1 (beginsK c a its.toArray) hseq fun h' he hi hk => wpAny_pyIter_enum he ?_
  refine ⟨_, [s1.heap.objs.size + 1, s1.heap.objs.size], _, _, H1, rfl, I1.kept (t' := s1.toks) hk, turnEn c a (s1.heap.objs.size + 1) s1.heap.objs.size, ⟨⟨_, he⟩, itK_0 hi, Nat.succ_ne_self _, Nat.ne_of_lt hal, Nat.ne_of_lt (Nat.lt_succ_of_lt hal)⟩, fun b hb => ?_, q⟩
  have hle : s1.heap.objs.size ≤ b := by
    rcases List.mem_cons.mp hb with z | z
    · rw [z]; exact Nat.le_succ _
    · rw [List.mem_singleton.mp z]; exact Nat.le_refl _
  exact I1.fpOk hle (I1.hok.fresh hle)⟩
/-! ### zip of two -/
def ItZ (c d : Knd) (K : PySem.W.Frag) (a b : Addr) : It :=
  ⟨fun i H => ∃ xs ys x y, SqK c K H a xs ∧ SqK d K H b ys ∧ xs[i]? = some x ∧ ys[i]? = some y, fun i H v H' => ∃ T x y, v = .ref T ∧ H T = none ∧ H' = upd H T (.tup [x, y]) ∧ (∀ xs, SqK c K H a xs → xs[i]? = some x) ∧ ∀ ys, SqK d K H b ys → ys[i]? = some y,
   fun i H => ∃ xs ys, SqK c K H a xs ∧ SqK d K H b ys ∧ min xs.length ys.length = i⟩
theorem turnZ (c d : Knd) {P : Program} {w : World} {K : PySem.W.Frag} {elts : List Expr} {kk : Nat} {tpos : Pos} {a b : Addr} {N : Nat} (ha : a < N) (hb : b < N) :
    Turn P w K (.Tuple elts kk tpos) (ItZ c d K a b) [N + 4, N + 2, N + 3, N, N + 1] (N + 4) (fun i h => IsZip h (N + 4) (N + 2) (N + 3) .none ∧ IsTupOf2 h (N + 2) (.ref N) (.ref (N + 1)) ∧ (∃ x y, IsTupOf2 h (N + 3) x y) ∧ ItK c h N a i ∧ ItK d h (N + 1) b i) where
  mem := by simp
  obj := fun i h st z hz => by
    obtain ⟨h1, h2, ⟨x, y, h3⟩, h4, h5⟩ := st
    simp only [List.mem_cons, List.not_mem_nil, or_false] at hz
    rcases hz with z | z | z | z | z
    · rw [z]; exact ⟨_, h1, fun v q => nomatch q⟩
    · rw [z]; exact ⟨_, h2, fun v q => nomatch q⟩
    · rw [z]; exact ⟨_, h3, fun v q => nomatch q⟩
    · rw [z]; exact itK_ob h4
    · rw [z]; exact itK_ob h5
  keep := fun i h h' st k => by
    obtain ⟨h1, h2, ⟨x, y, h3⟩, h4, h5⟩ := st
    exact ⟨k _ (by simp) _ h1, k _ (by simp) _ h2, ⟨x, y, k _ (by simp) _ h3⟩, itK_at h4 fun o q => k _ (by simp) o q, itK_at h5 fun o q => k _ (by simp) o q⟩
  item := by
    intro X hP hw hK hc i pins s σ H E I hf st hg
    subst hP hw hK
    obtain ⟨h1, h2, h3, h4, h5⟩ := st
    obtain ⟨xs, ys, x, y, hq, hq', hx, hy⟩ := hg
    obtain ⟨its, rv, hseq⟩ := invK c I hq
    obtain ⟨its', rv', hseq'⟩ := invK d I hq'
    have hh : X.A.in1.handled = none := by have := I.ok.hd hc; simpa using this
    have hD := drawsK c (prog := X.prog) (w := X.w) (A := X.A.in1) hh N a (Nat.ne_of_lt ha) its.toArray
    have hD' := drawsK d (prog := X.prog) (w := X.w) (A := X.A.in1) hh (N + 1) b (Nat.ne_of_lt (Nat.lt_succ_of_lt hb)) its'.toArray
    have G := GoesN.zip2 (elts := elts) (x1 := kk) (pos := tpos) (zip_sep2 (N := N) (fp1 := [a]) (fp2 := [b]) (by simpa using ha) (by simpa using hb)) hD hD'
    have hlt : i < min its.toArray.size its'.toArray.size := by
      rw [List.size_toArray, List.size_toArray, ← rv.length, ← rv'.length]
      have := (List.getElem?_eq_some_iff.mp hx).1
      have := (List.getElem?_eq_some_iff.mp hy).1
      omega
    have hN : N + 4 < s.heap.objs.size := Heap.lt_size h1
    refine G.goes i s _ E hlt ⟨h1, h2, h3, ⟨h4, hseq⟩, h5, hseq'⟩ fun v h' tk hY hSt hk htk => ?_
    obtain ⟨T, u, u2, rfl, hT, hu, hu2, ht⟩ := hY
    obtain ⟨w1, e1, r1⟩ := rv.get hx
    obtain ⟨w2, e2, r2⟩ := rv'.get hy
    have eu : u = w1 := by rw [List.getElem?_toArray, e1] at hu; exact (Option.some.inj hu).symm
    have eu2 : u2 = w2 := by rw [List.getElem?_toArray, e2] at hu2; exact (Option.some.inj hu2).symm
    subst eu; subst eu2
    obtain ⟨k1, k2, k3, ⟨k4, _⟩, k5, _⟩ := hSt
    have new : ObjOk X.prog X.w (upd H T (.tup [x, y])) h' T (.tup [x, y]) := ⟨by show 2 ≤ sizeLine; decide, [u, u2], .cons r1 (.cons r2 .nil), ht⟩
    refine ⟨.ref T, _, I.turnedNew (t' := tk) (ch := [N + 4, N + 2, N + 3, N, N + 1]) (fun z ob hz q => hk z ob (fun m => hz ?_) q) hf hT new, rfl, ⟨T, x, y, rfl, I.hok.fresh hT, rfl, fun zs hz => by rw [invK_inj c I hz hq]; exact hx, fun zs hz => by rw [invK_inj d I hz hq']; exact hy⟩, ⟨k1, k2, k3, k4, k5⟩, fun z hz => ?_⟩
    · simp only [List.mem_cons, List.not_mem_nil, or_false] at m ⊢
      rcases m with m | m | m | m <;> simp [m]
    · have hz' : z ≤ N + 4 := by
        simp only [List.mem_cons, List.not_mem_nil, or_false] at hz
        rcases hz with z | z | z | z | z <;> rw [z] <;> first | exact Nat.le_refl _ | exact Nat.le_add_right _ _ | exact Nat.add_le_add_left (by decide) _
      rw [upd_ne (Nat.ne_of_lt (Nat.lt_of_le_of_lt hz' (Nat.lt_of_lt_of_le hN hT)))]
      exact (hf z hz).1
  done := by
    intro X hP hw hK hc i pins s σ H E I hf st hg
    subst hP hw hK
    obtain ⟨h1, h2, h3, h4, h5⟩ := st
    obtain ⟨xs, ys, hq, hq', hi⟩ := hg
    obtain ⟨its, rv, hseq⟩ := invK c I hq
    obtain ⟨its', rv', hseq'⟩ := invK d I hq'
    have hh : X.A.in1.handled = none := by have := I.ok.hd hc; simpa using this
    have hD := drawsK c (prog := X.prog) (w := X.w) (A := X.A.in1) hh N a (Nat.ne_of_lt ha) its.toArray
    have hD' := drawsK d (prog := X.prog) (w := X.w) (A := X.A.in1) hh (N + 1) b (Nat.ne_of_lt (Nat.lt_succ_of_lt hb)) its'.toArray
    have G := GoesN.zip2 (elts := elts) (x1 := kk) (pos := tpos) (zip_sep2 (N := N) (fp1 := [a]) (fp2 := [b]) (by simpa using ha) (by simpa using hb)) hD hD'
    have hn : i = min its.toArray.size its'.toArray.size := by
      rw [List.size_toArray, List.size_toArray, ← rv.length, ← rv'.length]
      exact hi.symm
    subst hn
    refine G.stops s _ E ⟨h1, h2, h3, ⟨h4, hseq⟩, h5, hseq'⟩ fun h' tk hk htk => I.turnedL (t' := tk) (ch := [N + 4, N + 2, N + 3, N, N + 1]) (fun z ob hz q => hk z ob (fun m => hz ?_) q) hf
    simp only [List.mem_cons, List.not_mem_nil, or_false] at m ⊢
    rcases m with m | m | m | m <;> simp [m]
  self := fun A i s Q E st h => wpAny_pyIter_zip st.1 h
def iZ (c d : Knd) (K : PySem.W.Frag) (ta : TA) : TI := fun σ H R => ta σ H fun vs H1 => ∃ a b xs ys, vs = [.ref a, .ref b] ∧ SqK c K H1 a xs ∧ SqK d K H1 b ys ∧ R (ItZ c d K a b) H1
theorem piZ (c d : Knd) {X : Cx} {e e2 : Expr} {ta : TA} {p pos tpos : Pos} {elts : List Expr} {kk : Nat} (hg : Gl X "zip") (hm : X.mg "zip" = none) (ha : PA X [e, e2] ta)
    (hs : starEach [e, e2] X.env = (false, eval e X.env) :: starEach [e2] X.env := by rfl) (hpl : (backTo pos (starEach [e2] X.env)).any (·.1) = false := by rfl) : PI X (.Tuple elts kk tpos) (.Call (.Name "zip" p) [e, e2] [] pos) (iZ c d X.K ta) := ⟨fun pins s σ H R I h => by
  refine Call_ (ld_blt I hg hm boot_zip (callWith_type1 (thn (ha.run pos pins s σ H _ I h) fun us s1 ⟨vs, H1, I1, r1, q1⟩ => ?_) hs hpl))
  obtain ⟨a, b, xs, ys, ev, hq, hq', q⟩ := q1
  subst ev
  obtain ⟨u, u2, rfl, ru, ru2⟩ := vals2 r1
  cases ru
  cases ru2
  obtain ⟨its, rv, hseq⟩ := invK c I1 hq
  obtain ⟨its', rv', hseq'⟩ := invK d I1 hq'
  refine zip_begins2 (beginsK c a its.toArray) (beginsK d b its'.toArray) hseq hseq' fun h' z1 z2 z3 z4 z5 _ hk => wpAny_pyIter_zip z1 ?_
  refine ⟨_, [s1.heap.objs.size + 4, s1.heap.objs.size + 2, s1.heap.objs.size + 3, s1.heap.objs.size, s1.heap.objs.size + 1], _, _, H1, rfl, I1.kept (t' := s1.toks) hk, turnZ c d (seqK_lt hseq) (seqK_lt hseq'), ⟨z1, z2, ⟨_, _, z3⟩, itK_0 z4, itK_0 z5⟩, fun z hz => ?_, q⟩
  have hle : s1.heap.objs.size ≤ z := by
    simp only [List.mem_cons, List.not_mem_nil, or_false] at hz
    rcases hz with z | z | z | z | z <;> rw [z] <;> first | exact Nat.le_refl _ | exact Nat.le_add_right _ _
  exact I1.fpOk hle (I1.hok.fresh hle)⟩
/-! ### over data -/
def kd : Knd → List PyData → PyData
  | .l, xs => .list xs
  | .t, xs => .tuple xs
theorem Dat.inv_kd {c : Knd} {H : Hp} {v : V} {ds : List PyData} {K : PySem.W.Frag} (h : Dat H v (kd c ds)) : ∃ a xs, v = .ref a ∧ (∀ H', Same H H' → SqK c K H' a xs) ∧ Dats H xs ds := by
  cases c with
  | l => obtain ⟨a, xs, e, h1, h2⟩ := Dat.inv_list h; exact ⟨a, xs, e, fun H' s => SqL.of (s _ _ h1), h2⟩
  | t => obtain ⟨a, xs, e, h1, h2⟩ := Dat.inv_tuple h; exact ⟨a, xs, e, fun H' s => SqT.rd (Rd.same s h1), h2⟩
section
variable {X : Cx} {r : Rho} {e e2 : Expr} {pos p tpos : Pos} {ds es : List PyData} {elts : List Expr} {kk : Nat}
def enumD (ds : List PyData) : List PyData := (List.range ds.length).map fun (i : Nat) => .tuple [.int (i : Int), ds.getD i .none]
theorem di_enum (c : Knd) (hm : X.mg "enumerate" = none) (h : DE X r e (kd c ds)) (hz : ds.length ≤ 1000000) (hg : Gl X "enumerate" := by rfl) (hs : starEach [e] X.env = [(false, eval e X.env)] := by rfl) (hs' : starEach (e :: []) X.env = (false, eval e X.env) :: starEach [] X.env := by rfl) :
    DI X r (.Tuple elts kk tpos) (.Call (.Name "enumerate" p) [e] [] pos) (enumD ds) :=
  PI.wk (piEn c hg hm (da_1 h hs') hs) fun σ H R ⟨Hs0, H0, Hs, A, q⟩ => ⟨Hs0, H0, Hs, A, fun vs Hs1 H1 g1 hv => by
    cases hv with
    | cons hu t =>
      cases t
      obtain ⟨a, xs, rfl, hk, hx⟩ := Dat.inv_kd (K := X.K) hu
      refine ⟨a, xs, rfl, hk _ g1.sub, fun _ => q _ Hs1 H1 g1 (fun i Hs2 H2 s1 s2 => ⟨fun d hd => ?_, fun hl => ⟨xs, hk _ (s1.trans s2), ?_⟩⟩) ?_⟩
      · unfold enumD at hd
        obtain ⟨j, hj, rfl⟩ := map_at hd
        obtain ⟨hj1, hj2⟩ := List.getElem?_eq_some_iff.mp hj
        rw [List.length_range] at hj1
        rw [List.getElem_range] at hj2
        subst hj2
        have hdi : ds[i]? = some (ds.getD i .none) := by rw [List.getD_eq_getElem?_getD, List.getElem?_eq_getElem hj1]; rfl
        obtain ⟨v, ev, hv⟩ := hx.get hdi
        refine ⟨⟨xs, v, hk _ (s1.trans s2), ev⟩, fun u H3 ⟨T, y, eu, hT, eH, hy⟩ => ?_⟩
        subst eu; subst eH
        have := hy xs (hk _ (s1.trans s2))
        rw [ev] at this
        cases this
        exact ⟨_, Grw.laid s2 hT, .tup (.inl upd_same) (.cons (.int _) (.cons ((hv.mono s1).mono (same_upd (s2.free hT))) .nil))⟩
      · unfold enumD at hl
        rw [List.length_map, List.length_range] at hl
        rw [hx.length]; exact hl
      · unfold enumD
        rw [List.length_map, List.length_range]
        exact size_ok hz⟩
def zipD (ds es : List PyData) : List PyData := (ds.zip es).map fun p => .tuple [p.1, p.2]
theorem di_zip (c d : Knd) (hm : X.mg "zip" = none) (h : DE X r e (kd c ds)) (h' : DE X r e2 (kd d es)) (hz : ds.length ≤ 1000000) (hg : Gl X "zip" := by rfl) (hs : starEach [e, e2] X.env = (false, eval e X.env) :: starEach [e2] X.env := by rfl) (hs2 : starEach (e2 :: []) X.env = (false, eval e2 X.env) :: starEach [] X.env := by rfl)
    (hpl : (backTo pos (starEach [e2] X.env)).any (·.1) = false := by rfl) : DI X r (.Tuple elts kk tpos) (.Call (.Name "zip" p) [e, e2] [] pos) (zipD ds es) :=
  PI.wk (piZ c d hg hm (da_2 h h' hs hs2) hs hpl) fun σ H R ⟨Hs0, H0, Hs, A, q⟩ => ⟨Hs0, H0, Hs, A, fun vs Hs1 H1 g1 hv => by
    cases hv with
    | cons hu t =>
      cases t with
      | cons hu2 t =>
        cases t
        obtain ⟨a, xs, rfl, hk, hx⟩ := Dat.inv_kd (K := X.K) hu
        obtain ⟨b, ys, rfl, hk2, hy⟩ := Dat.inv_kd (K := X.K) hu2
        refine ⟨a, b, xs, ys, rfl, hk _ g1.sub, hk2 _ g1.sub, fun _ => q _ Hs1 H1 g1 (fun i Hs2 H2 s1 s2 => ⟨fun dd hd => ?_, fun hl => ⟨xs, ys, hk _ (s1.trans s2), hk2 _ (s1.trans s2), ?_⟩⟩) ?_⟩
        · unfold zipD at hd
          obtain ⟨⟨d1, d2⟩, hj, rfl⟩ := map_at hd
          rw [List.getElem?_zip_eq_some] at hj
          obtain ⟨v, ev, hv⟩ := hx.get hj.1
          obtain ⟨v2, ev2, hv2⟩ := hy.get hj.2
          refine ⟨⟨xs, ys, v, v2, hk _ (s1.trans s2), hk2 _ (s1.trans s2), ev, ev2⟩, fun u H3 ⟨T, y1, y2, eu, hT, eH, hy1, hy2⟩ => ?_⟩
          subst eu; subst eH
          have t1 := hy1 xs (hk _ (s1.trans s2))
          have t2 := hy2 ys (hk2 _ (s1.trans s2))
          rw [ev] at t1
          rw [ev2] at t2
          cases t1
          cases t2
          exact ⟨_, Grw.laid s2 hT, .tup (.inl upd_same) (.cons ((hv.mono s1).mono (same_upd (s2.free hT))) (.cons ((hv2.mono s1).mono (same_upd (s2.free hT))) .nil))⟩
        · unfold zipD at hl
          rw [List.length_map, List.length_zip] at hl
          rw [hx.length, hy.length]; exact hl
        · unfold zipD
          rw [List.length_map, List.length_zip]
          exact size_ok (by omega)⟩
end
end Dl

namespace Dl
open PySem L2 PySem.W PyProof.Rows
/-! ## t[::-1] -/
section
variable {prog : Program} {w : World} {A : Around} {E : Value → Shared → Prop} {s : Shared}
theorem applied_rev {sl : Addr} {vk : Value} {n : Nat} {Q : Int × Int × Nat → Shared → Prop} (hs : s.heap.IsSliceOf sl .none .none vk) (pk : IsPart vk (some (-1))) (q : Q ((n : Int) - 1, -1, n) s) : wpAny (model prog w) A (Builtin.Slice.sliceApplied (.ref sl) (pure (n : Int))) Q E s := by
  obtain ⟨ob, e1, e2, e3⟩ := id hs
  unfold Builtin.Slice.sliceApplied Builtin.Slice.sliceFields
  apply wpAny_bind
  apply wpAny_bind
  refine wpAny_field e1 e3 (x := .none) rfl ?_
  apply wpAny_bind
  refine wpAny_field e1 e3 (x := .none) rfl ?_
  apply wpAny_bind
  refine wpAny_field e1 e3 (x := vk) rfl ?_
  apply wpAny_pure
  refine wpAny_bind (HT.slicePart_ pk ?_)
  change wpAny _ _ (if ((-1 : Int) == 0) = true then _ else _) _ _ s
  rw [if_neg (by decide)]
  refine wpAny_bind (HT.slicePart_ (.none) ?_)
  refine wpAny_bind (HT.slicePart_ (.none) ?_)
  refine wpAny_bind (wpAny_pure ?_)
  have ea : Builtin.Slice.sliceAdjust none none (-1) (n : Int) = ((n : Int) - 1, -1) := by
    unfold Builtin.Slice.sliceAdjust
    simp
  have ep : Builtin.Slice.slicePlaces ((n : Int) - 1) (-1) (-1) = n := by
    unfold Builtin.Slice.slicePlaces
    rw [if_neg (by decide)]
    by_cases z : ((n : Int) - 1) > -1
    · rw [if_pos z]
      simp
    · rw [if_neg z]
      omega
  change wpAny _ _ (match Builtin.Slice.sliceAdjust none none (-1) (n : Int) with | (lo, hi) => pure (lo, (-1 : Int), Builtin.Slice.slicePlaces lo hi (-1))) _ _ s
  rw [ea]
  change wpAny _ _ (pure ((n : Int) - 1, (-1 : Int), Builtin.Slice.slicePlaces ((n : Int) - 1) (-1) (-1))) _ _ s
  rw [ep]
  exact wpAny_pure q
theorem pick_rev (xs : Array Value) : ((List.range xs.size).filterMap fun (k : Nat) => xs[(((xs.size : Nat) : Int) - 1 + (k : Int) * (-1)).toNat]?) = xs.toList.reverse := by
  have e1 : ∀ k ∈ List.range xs.size, xs[(((xs.size : Nat) : Int) - 1 + (k : Int) * (-1)).toNat]? = xs.toList.reverse[k]? := fun k hk => by
    rw [List.mem_range] at hk
    rw [List.getElem?_reverse (by rw [Array.length_toList]; exact hk), Array.length_toList, Array.getElem?_toList]
    congr 1
    omega
  have e2 : ∀ (l : List Nat), (∀ k ∈ l, xs[(((xs.size : Nat) : Int) - 1 + (k : Int) * (-1)).toNat]? = xs.toList.reverse[k]?) → (l.filterMap fun (k : Nat) => xs[(((xs.size : Nat) : Int) - 1 + (k : Int) * (-1)).toNat]?) = l.filterMap fun k => xs.toList.reverse[k]? := fun l h => by
    induction l with
    | nil => rfl
    | cons a l ih =>
      rw [List.filterMap_cons, List.filterMap_cons, h a List.mem_cons_self, ih fun k hk => h k (List.mem_cons_of_mem _ hk)]
  rw [e2 _ e1]
  have e3 := krv_all xs.toList.reverse.toArray
  simpa using e3
theorem getItem_tup_rev {t sl : Addr} {items : Array Value} {vk : Value} {Q : Value → Shared → Prop} (ht : IsTup s.heap t items) (hs : s.heap.IsSliceOf sl .none .none vk) (pk : IsPart vk (some (-1))) (hz : items.size ≤ sizeLine)
    (q : Q (.ref s.heap.objs.size) { s with heap := s.heap.push { cls := .type "tuple", data := .seq items.toList.reverse.toArray } }) : wpAny (model prog w) A (getItem (.ref t) (.ref sl)) Q E s := by
  have hok : sizeOk (.seq items.toList.reverse.toArray) := by
    show items.toList.reverse.toArray.size ≤ sizeLine
    rw [List.size_toArray, List.length_reverse, Array.length_toList]
    exact hz
  have hT : s.TypeIs (.ref sl) "slice" := by
    obtain ⟨ob, e1, e2, _⟩ := hs
    exact ⟨ob, e1, e2⟩
  unfold getItem
  try with_reducible refine wpAny_holding ?_
  first | refine wpAny_bind (wpAny_pure ?_) | skip
  refine wpAny_bind (wpAny_sequenceKey ht.typeIs (by decide) ?_)
  refine wpAny_bind (wpAny_callSpecial?_slot (name := Str.ofString "__getitem__") ht.typeIs slot_tuple_getitem (wpAny_call_entry slot_tuple_getitem ht.typeIs entry_tuple_getitem ?_ (args_tuple_getitem _ _)))
  change wpAny _ _ (Builtin.Tuple.tupleItemsOf (.ref t) >>= _) _ _ s
  refine wpAny_bind (tupleItemsOf_ ht ?_)
  refine wpAny_bind (wpAny_typeOf hT ?_)
  rw [if_pos (by decide)]
  refine wpAny_bind (applied_rev hs pk ?_)
  change wpAny _ _ (if (((items.size : Nat) : Int) - 1 == 0 && (-1 : Int) == 1 && items.size == items.size) = true then _ else _) _ _ s
  rw [if_neg (by simp), pick_rev]
  first
    | exact wpAny_bind (m := Builtin.Tuple.tupleExact _) (wpAny_newObj_type (wpAny_pure ⟨_, rfl, wpAny_pure q⟩) hok)
    | exact wpAny_bind (m := Builtin.Tuple.tupleExact _) (wpAny_newObj_type (wpAny_bind (wpAny_pure (wpAny_pure ⟨_, rfl, wpAny_pure q⟩))) hok)
    | exact wpAny_bind (wpAny_bind (m := Builtin.Tuple.tupleExact _) (wpAny_newObj_type (wpAny_pure (wpAny_pure ⟨_, rfl, wpAny_pure q⟩)) hok))
    | exact wpAny_bind (wpAny_bind (m := Builtin.Tuple.tupleExact _) (wpAny_newObj_type (wpAny_pure ⟨_, rfl, wpAny_pure q⟩) hok))
end
section
variable {X : Cx} {E : XK} {r r1 : Rho} {e a b c : Expr} {pos p : Pos} {d d1 d2 : PyData} {ds es : List PyData} {i j : Int} {x y : Str} {ns : List Int} {P : Post}
/-- the slice [::-1] of a value -/
def tRevT (K : PySem.W.Frag) (te : TE) : TE := fun σ H Q => te σ H fun x H1 => ∃ a xs, x = .ref a ∧ SqT K H1 a xs ∧ ∀ p, H1 p = none → Q (.ref p) (upd H1 p (.tup xs.reverse))
theorem pe_revT {te : TE} {k : Nat} {p1 p2 p3 : Pos} (he : PE X e te) : PE X (.Subscript e (.Slice none none (some (.UnaryOp .USub (.Constant (.int 1) k p1) p2)) p3) pos) (tRevT X.K te) := ⟨fun pins s σ H Q I h => by
  refine Subscript_ (thn (he.run pins s σ H _ I h) fun v s1 ⟨x, H1, I1, r1, q1⟩ => ?_)
  obtain ⟨a, xs, ex, hx, q⟩ := q1
  subst ex
  cases r1
  have hst : PO X (some (.UnaryOp .USub (.Constant (.int 1) k p1) p2)) (tPart (tUn (rU fun i => .int (-i)) (tC (.int 1)))) := po_some (pe_un un_neg pe_int)
  refine wpAny_Slice (thn (po_none.run pins s1 σ H1 (fun o H2 => o = none ∧ H2 = H1) I1 ⟨rfl, rfl⟩) fun vl s2 ⟨l, H2, I2, pl, el, e2⟩ => ?_)
  subst el e2
  cases pl
  refine thn (po_none.run pins s2 σ H2 (fun o H3 => o = none ∧ H3 = H2) I2 ⟨rfl, rfl⟩) fun vu s3 ⟨u, H3, I3, pu, eu, e3⟩ => ?_
  subst eu e3
  cases pu
  refine thn (hst.run pins s3 σ H3 (fun o H4 => o = some (-1) ∧ H4 = H3) I3 ⟨1, rfl, -1, rfl, rfl, rfl⟩) fun vk s4 ⟨o, H4, I4, pk, eo, e4⟩ => ?_
  subst eo e4
  have I5 : Inv X pins σ H4 { s4 with heap := s4.heap.push { cls := .type "slice", data := .fields #[.none, .none, vk] } } := I4.kept (t' := s4.toks) fun b ob q => Heap.get?_push_of_some _ q
  obtain ⟨its, rv, ht, hz⟩ := I5.tuple hx
  have hlen := rv.length
  change wpAny (model X.prog X.w) X.A (subscriptTail e (.Slice none none (some (.UnaryOp .USub (.Constant (.int 1) k p1) p2)) p3) (.ref a) (.ref s4.heap.objs.size)) (EP X pins σ Q) X.xe _
  refine tail_any (ops := [.ref a, .ref s4.heap.objs.size]) ht.typeIs slot_tuple_getitem.lookup ?_ (by with_unfolding_all rfl)
  refine getItem_tup_rev ht (Heap.IsSliceOf.new _ _ _ _) pk (by rw [List.size_toArray]; omega) ?_
  refine ⟨.ref _, _, I5.laid (t' := s4.toks) (o := .tup xs.reverse) (fun b ob q => Heap.get?_push_of_some _ q) (Nat.le_refl _) ⟨by rw [List.length_reverse]; exact hz, its.reverse, rv.reverse, ⟨_, Heap.get?_push_size _ rfl, rfl, _, rfl⟩⟩, rfl, q _ (I5.hok.fresh (Nat.le_refl _))⟩⟩
theorem dn_revL {k : Nat} {p1 p2 p3 : Pos} (he : DE X r e (.list ds)) : DN X r (.Subscript e (.Slice none none (some (.UnaryOp .USub (.Constant (.int 1) k p1) p2)) p3) pos) ds.reverse :=
  PE.wk (pe_revL he) fun _ _ σ H Q _ ⟨Hs0, H0, Hs, A, q⟩ => ⟨Hs0, H0, Hs, A, fun v Hs1 H1 g1 h1 => by
    obtain ⟨l, vs, rfl, hl, hv⟩ := h1.inv_list
    exact ⟨l, vs, rfl, SqL.of (g1.sub _ _ hl), fun z hz => q z _ Hs1 _ (g1.trans (Grw.laidO g1.sub hz)) (g1.all.free hz) (g1.sub.free hz) upd_same hv.reverse⟩⟩
theorem de_revT {k : Nat} {p1 p2 p3 : Pos} (he : DE X r e (.tuple ds)) : DE X r (.Subscript e (.Slice none none (some (.UnaryOp .USub (.Constant (.int 1) k p1) p2)) p3) pos) (.tuple ds.reverse) :=
  PE.wk (pe_revT he) fun _ _ σ H Q _ ⟨Hs0, H0, Hs, A, q⟩ => ⟨Hs0, H0, Hs, A, fun v Hs1 H1 g1 h1 => by
    obtain ⟨l, vs, rfl, hl, hv⟩ := h1.inv_tuple
    exact ⟨l, vs, rfl, SqT.rd (Rd.same g1.sub hl), fun z hz => q _ _ _ (g1.trans (Grw.laid g1.sub hz)) (.tup (.inl upd_same) (hv.reverse.mono (same_upd (g1.sub.free hz))))⟩⟩
/-! ### list(range(..)), tuple(range(..)) -/
theorem rgV_dats {H : Hp} (lo hi : Int) : Dats H (rgV lo hi) (rangeD lo (hi - lo).toNat) := by
  unfold rgV rangeD
  generalize List.range (hi - lo).toNat = l
  induction l with
  | nil => exact .nil
  | cons k l ih => exact .cons (.int _) ih
theorem prg_d {n : Int} (hm : X.mg "range" = none) (h : DE X r a (.int n)) (hg : Gl X "range" := by rfl) (na : starEach [a] X.env = (false, eval a X.env) :: starEach [] X.env := by rfl) :
    PRg X (.Call (.Name "range" p) [a] [] pos) (fun σ H Q => ∃ Hs0 H0 Hs, Asn X.K Hs0 H0 r σ Hs H ∧ ∀ Hs' H', Grw Hs H Hs' H' → Q 0 n H') := fun pins s σ H Q I ⟨Hs0, H0, Hs, A, q⟩ =>
  prg_1 hg hm h na pins s σ H Q I ⟨Hs0, H0, Hs, A, fun v Hs' H' g hv => ⟨n, hv.inv_int, q Hs' H' g⟩⟩
theorem dn_listRange {n : Int} {p2 pos2 : Pos} (hc : X.calm = true) (hl : X.mg "list" = none) (hm : X.mg "range" = none) (h : DE X r a (.int n)) (h0 : 0 ≤ n) (h1 : n ≤ 1000000) (hg : Gl X "range" := by rfl) (hg2 : Gl X "list" := by rfl) (na : starEach [a] X.env = (false, eval a X.env) :: starEach [] X.env := by rfl)
    (nb : starEach [.Call (.Name "range" p) [a] [] pos] X.env = (false, eval (.Call (.Name "range" p) [a] [] pos) X.env) :: starEach [] X.env := by rfl) : DN X r (.Call (.Name "list" p2) [.Call (.Name "range" p) [a] [] pos] [] pos2) (rangeD 0 n.toNat) :=
  PE.wk (pe_listRg hc hg2 hl (prg_d hm h hg na) nb) fun _ _ σ H Q _ ⟨Hs0, H0, Hs, A, q⟩ => ⟨Hs0, H0, Hs, A, fun Hs1 H1 g1 => ⟨RgOk.of_le (by decide) (by omega) (by decide) h0, fun z hz =>
    q z _ Hs1 _ (g1.trans (Grw.laidO g1.sub hz)) (g1.all.free hz) (g1.sub.free hz) upd_same (by have := rgV_dats (H := Hs1) 0 n; rw [Int.sub_zero] at this; exact this)⟩⟩
theorem de_tupRange {n : Int} {p2 pos2 : Pos} (hc : X.calm = true) (hl : X.mg "tuple" = none) (hm : X.mg "range" = none) (h : DE X r a (.int n)) (h0 : 0 ≤ n) (h1 : n ≤ 1000000) (hg : Gl X "range" := by rfl) (hg2 : Gl X "tuple" := by rfl) (na : starEach [a] X.env = (false, eval a X.env) :: starEach [] X.env := by rfl)
    (nb : starEach [.Call (.Name "range" p) [a] [] pos] X.env = (false, eval (.Call (.Name "range" p) [a] [] pos) X.env) :: starEach [] X.env := by rfl) : DE X r (.Call (.Name "tuple" p2) [.Call (.Name "range" p) [a] [] pos] [] pos2) (.tuple (rangeD 0 n.toNat)) :=
  PE.wk (pe_tupRg hc hg2 hl (prg_d hm h hg na) nb) fun _ _ σ H Q _ ⟨Hs0, H0, Hs, A, q⟩ => ⟨Hs0, H0, Hs, A, fun Hs1 H1 g1 => ⟨RgOk.of_le (by decide) (by omega) (by decide) h0, fun z hz =>
    q _ _ _ (g1.trans (Grw.laid g1.sub hz)) (.tup (.inl upd_same) (by have := rgV_dats (H := upd Hs1 z (.tup (rgV 0 n))) 0 n; rw [Int.sub_zero] at this; exact this))⟩⟩
/-! ### a, b = x, y -/
theorem ds_par2 (i j : Nat) {ea eb : Expr} {px py pt pt2 : Pos} {kt k2 : Nat} (hc : X.calm = true) (hN : X.N.Nodup) (h1 : DE X r ea d1) (h2 : DE X r eb d2) (hp : P.nx ((r.set i (.val d1)).set j (.val d2)))
    (hw : swappedStores [.Tuple [.Name x px, .Name y py] kt pt] (.Tuple [ea, eb] k2 pt2) X.env = pure (some [x, y]) := by rfl) (hij : i ≠ j := by decide) (hi : X.N[i]? = some x := by rfl) (hj : X.N[j]? = some y := by rfl)
    (hx : X.env.scope.names.lookup x = some .local := by rfl) (hy : X.env.scope.names.lookup y = some .local := by rfl) (e1 : starEach (ea :: [eb]) X.env = (false, eval ea X.env) :: starEach [eb] X.env := by rfl) (e2 : starEach (eb :: []) X.env = (false, eval eb X.env) :: starEach [] X.env := by rfl)
    (hs : swapsWithSole [.Tuple [.Name x px, .Name y py] kt pt] (.Tuple [ea, eb] k2 pt2) pos.line X.env = pure false := by rfl) : DS X E r (.Assign [.Tuple [.Name x px, .Name y py] kt pt] (.Tuple [ea, eb] k2 pt2) pos) P :=
  PS.wk (ps_par hc hN hi hj hij hx hy (da_2 h1 h2 e1 e2) hw hs) fun _ _ D σ H _ ⟨Hs0, H0, Hs, A, w⟩ => ⟨Hs0, H0, Hs, A, fun vs Hs1 H1 g1 hv => by
    cases hv with
    | cons hu t =>
      cases t with
      | cons hu2 t =>
        cases t
        exact ⟨_, _, rfl, w.nx _ _ Hs1 H1 hp (((A.grow g1).setV hu).setV hu2) g1.st⟩⟩
theorem ds_par3 (i j l : Nat) {z : Str} {d3 : PyData} {ea eb ec : Expr} {px py pz pt pt2 : Pos} {kt k2 : Nat} (hc : X.calm = true) (hN : X.N.Nodup) (h1 : DE X r ea d1) (h2 : DE X r eb d2) (h3 : DE X r ec d3) (hp : P.nx (((r.set i (.val d1)).set j (.val d2)).set l (.val d3)))
    (hw : swappedStores [.Tuple [.Name x px, .Name y py, .Name z pz] kt pt] (.Tuple [ea, eb, ec] k2 pt2) X.env = pure (some [x, y, z]) := by rfl) (hij : i ≠ j := by decide) (hil : i ≠ l := by decide) (hjl : j ≠ l := by decide) (hi : X.N[i]? = some x := by rfl) (hj : X.N[j]? = some y := by rfl) (hl : X.N[l]? = some z := by rfl)
    (hx : X.env.scope.names.lookup x = some .local := by rfl) (hy : X.env.scope.names.lookup y = some .local := by rfl) (hz : X.env.scope.names.lookup z = some .local := by rfl)
    (e1 : starEach (ea :: [eb, ec]) X.env = (false, eval ea X.env) :: starEach [eb, ec] X.env := by rfl) (e2 : starEach (eb :: [ec]) X.env = (false, eval eb X.env) :: starEach [ec] X.env := by rfl) (e3 : starEach (ec :: []) X.env = (false, eval ec X.env) :: starEach [] X.env := by rfl)
    (hs : swapsWithSole [.Tuple [.Name x px, .Name y py, .Name z pz] kt pt] (.Tuple [ea, eb, ec] k2 pt2) pos.line X.env = pure false := by rfl) : DS X E r (.Assign [.Tuple [.Name x px, .Name y py, .Name z pz] kt pt] (.Tuple [ea, eb, ec] k2 pt2) pos) P :=
  PS.wk (ps_par3 hc hN hi hj hl hij hil hjl hx hy hz (da_3 h1 h2 h3 e1 e2 e3) hw hs) fun _ _ D σ H _ ⟨Hs0, H0, Hs, A, w⟩ => ⟨Hs0, H0, Hs, A, fun vs Hs1 H1 g1 hv => by
    cases hv with
    | cons hu t =>
      cases t with
      | cons hu2 t =>
        cases t with
        | cons hu3 t =>
          cases t
          exact ⟨_, _, _, rfl, w.nx _ _ Hs1 H1 hp ((((A.grow g1).setV hu).setV hu2).setV hu3) g1.st⟩⟩
end
end Dl

namespace Dl
open PySem L2 PySem.W PyProof.Rows
/-! ### zip of three -/
def ItZ3 (c d f : Knd) (K : PySem.W.Frag) (a b g : Addr) : It :=
  ⟨fun i H => ∃ xs ys zs x y z, SqK c K H a xs ∧ SqK d K H b ys ∧ SqK f K H g zs ∧ xs[i]? = some x ∧ ys[i]? = some y ∧ zs[i]? = some z,
   fun i H v H' => ∃ T x y z, v = .ref T ∧ H T = none ∧ H' = upd H T (.tup [x, y, z]) ∧ (∀ xs, SqK c K H a xs → xs[i]? = some x) ∧ (∀ ys, SqK d K H b ys → ys[i]? = some y) ∧ ∀ zs, SqK f K H g zs → zs[i]? = some z,
   fun i H => ∃ xs ys zs, SqK c K H a xs ∧ SqK d K H b ys ∧ SqK f K H g zs ∧ min (min xs.length ys.length) zs.length = i⟩
theorem turnZ3 (c d f : Knd) {P : Program} {w : World} {K : PySem.W.Frag} {elts : List Expr} {kk : Nat} {tpos : Pos} {a b g : Addr} {N : Nat} (ha : a < N) (hb : b < N) (hgN : g < N) :
    Turn P w K (.Tuple elts kk tpos) (ItZ3 c d f K a b g) [N + 5, N + 3, N + 4, N, N + 1, N + 2] (N + 5) (fun i h => IsZip h (N + 5) (N + 3) (N + 4) .none ∧ IsTupOf3 h (N + 3) (.ref N) (.ref (N + 1)) (.ref (N + 2)) ∧ (∃ x y z, IsTupOf3 h (N + 4) x y z) ∧ ItK c h N a i ∧ ItK d h (N + 1) b i ∧ ItK f h (N + 2) g i) where
  mem := by simp
  obj := fun i h st z hz => by
    obtain ⟨h1, h2, ⟨x, y, z', h3⟩, h4, h5, h6⟩ := st
    simp only [List.mem_cons, List.not_mem_nil, or_false] at hz
    rcases hz with z | z | z | z | z | z
    · rw [z]; exact ⟨_, h1, fun v q => nomatch q⟩
    · rw [z]; exact ⟨_, h2, fun v q => nomatch q⟩
    · rw [z]; exact ⟨_, h3, fun v q => nomatch q⟩
    · rw [z]; exact itK_ob h4
    · rw [z]; exact itK_ob h5
    · rw [z]; exact itK_ob h6
  keep := fun i h h' st k => by
    obtain ⟨h1, h2, ⟨x, y, z', h3⟩, h4, h5, h6⟩ := st
    exact ⟨k _ (by simp) _ h1, k _ (by simp) _ h2, ⟨x, y, z', k _ (by simp) _ h3⟩, itK_at h4 fun o q => k _ (by simp) o q, itK_at h5 fun o q => k _ (by simp) o q, itK_at h6 fun o q => k _ (by simp) o q⟩
  item := by
    intro X hP hw hK hc i pins s σ H E I hf st hg
    subst hP hw hK
    obtain ⟨h1, h2, h3, h4, h5, h6⟩ := st
    obtain ⟨xs, ys, zs, x, y, z0, hq, hq', hq2, hx, hy, hz0⟩ := hg
    obtain ⟨its, rv, hseq⟩ := invK c I hq
    obtain ⟨its', rv', hseq'⟩ := invK d I hq'
    obtain ⟨its2, rv2, hseq2⟩ := invK f I hq2
    have hh : X.A.in1.handled = none := by have := I.ok.hd hc; simpa using this
    have hD := drawsK c (prog := X.prog) (w := X.w) (A := X.A.in1) hh N a (Nat.ne_of_lt ha) its.toArray
    have hD' := drawsK d (prog := X.prog) (w := X.w) (A := X.A.in1) hh (N + 1) b (Nat.ne_of_lt (Nat.lt_succ_of_lt hb)) its'.toArray
    have hD2 := drawsK f (prog := X.prog) (w := X.w) (A := X.A.in1) hh (N + 2) g (Nat.ne_of_lt (Nat.lt_of_lt_of_le hgN (Nat.le_add_right _ _))) its2.toArray
    have G := GoesN.zip3 (elts := elts) (x1 := kk) (pos := tpos) (zip_sep3 (N := N) (fp1 := [a]) (fp2 := [b]) (fp3 := [g]) (by simpa using ha) (by simpa using hb) (by simpa using hgN)) hD hD' hD2
    have hlt : i < min (min its.toArray.size its'.toArray.size) its2.toArray.size := by
      rw [List.size_toArray, List.size_toArray, List.size_toArray, ← rv.length, ← rv'.length, ← rv2.length]
      have := (List.getElem?_eq_some_iff.mp hx).1
      have := (List.getElem?_eq_some_iff.mp hy).1
      have := (List.getElem?_eq_some_iff.mp hz0).1
      omega
    have hN : N + 5 < s.heap.objs.size := Heap.lt_size h1
    refine G.goes i s _ E hlt ⟨h1, h2, h3, ⟨h4, hseq⟩, ⟨h5, hseq'⟩, h6, hseq2⟩ fun v h' tk hY hSt hk htk => ?_
    obtain ⟨T, u, u2, u3, rfl, hT, hu, hu2, hu3, ht⟩ := hY
    obtain ⟨w1, e1, r1⟩ := rv.get hx
    obtain ⟨w2, e2, r2⟩ := rv'.get hy
    obtain ⟨w3, e3, r3⟩ := rv2.get hz0
    have eu : u = w1 := by rw [List.getElem?_toArray, e1] at hu; exact (Option.some.inj hu).symm
    have eu2 : u2 = w2 := by rw [List.getElem?_toArray, e2] at hu2; exact (Option.some.inj hu2).symm
    have eu3 : u3 = w3 := by rw [List.getElem?_toArray, e3] at hu3; exact (Option.some.inj hu3).symm
    subst eu; subst eu2; subst eu3
    obtain ⟨k1, k2, k3, ⟨k4, _⟩, ⟨k5, _⟩, k6, _⟩ := hSt
    have new : ObjOk X.prog X.w (upd H T (.tup [x, y, z0])) h' T (.tup [x, y, z0]) := ⟨by show 3 ≤ sizeLine; decide, [u, u2, u3], .cons r1 (.cons r2 (.cons r3 .nil)), ht⟩
    refine ⟨.ref T, _, I.turnedNew (t' := tk) (ch := [N + 5, N + 3, N + 4, N, N + 1, N + 2]) (fun z ob hz q => hk z ob (fun m => hz ?_) q) hf hT new, rfl, ⟨T, x, y, z0, rfl, I.hok.fresh hT, rfl, fun zs hz => by rw [invK_inj c I hz hq]; exact hx, fun zs hz => by rw [invK_inj d I hz hq']; exact hy, fun zs hz => by rw [invK_inj f I hz hq2]; exact hz0⟩, ⟨k1, k2, k3, k4, k5, k6⟩, fun z hz => ?_⟩
    · simp only [List.mem_cons, List.not_mem_nil, or_false] at m ⊢
      rcases m with m | m | m | m | m <;> simp [m]
    · have hz' : z ≤ N + 5 := by
        simp only [List.mem_cons, List.not_mem_nil, or_false] at hz
        rcases hz with z | z | z | z | z | z <;> rw [z] <;> first | exact Nat.le_refl _ | exact Nat.le_add_right _ _ | exact Nat.add_le_add_left (by decide) _
      rw [upd_ne (Nat.ne_of_lt (Nat.lt_of_le_of_lt hz' (Nat.lt_of_lt_of_le hN hT)))]
      exact (hf z hz).1
  done := by
    intro X hP hw hK hc i pins s σ H E I hf st hg
    subst hP hw hK
    obtain ⟨h1, h2, h3, h4, h5, h6⟩ := st
    obtain ⟨xs, ys, zs, hq, hq', hq2, hi⟩ := hg
    obtain ⟨its, rv, hseq⟩ := invK c I hq
    obtain ⟨its', rv', hseq'⟩ := invK d I hq'
    obtain ⟨its2, rv2, hseq2⟩ := invK f I hq2
    have hh : X.A.in1.handled = none := by have := I.ok.hd hc; simpa using this
    have hD := drawsK c (prog := X.prog) (w := X.w) (A := X.A.in1) hh N a (Nat.ne_of_lt ha) its.toArray
    have hD' := drawsK d (prog := X.prog) (w := X.w) (A := X.A.in1) hh (N + 1) b (Nat.ne_of_lt (Nat.lt_succ_of_lt hb)) its'.toArray
    have hD2 := drawsK f (prog := X.prog) (w := X.w) (A := X.A.in1) hh (N + 2) g (Nat.ne_of_lt (Nat.lt_of_lt_of_le hgN (Nat.le_add_right _ _))) its2.toArray
    have G := GoesN.zip3 (elts := elts) (x1 := kk) (pos := tpos) (zip_sep3 (N := N) (fp1 := [a]) (fp2 := [b]) (fp3 := [g]) (by simpa using ha) (by simpa using hb) (by simpa using hgN)) hD hD' hD2
    have hn : i = min (min its.toArray.size its'.toArray.size) its2.toArray.size := by
      rw [List.size_toArray, List.size_toArray, List.size_toArray, ← rv.length, ← rv'.length, ← rv2.length]
      exact hi.symm
    subst hn
    refine G.stops s _ E ⟨h1, h2, h3, ⟨h4, hseq⟩, ⟨h5, hseq'⟩, h6, hseq2⟩ fun h' tk hk htk => I.turnedL (t' := tk) (ch := [N + 5, N + 3, N + 4, N, N + 1, N + 2]) (fun z ob hz q => hk z ob (fun m => hz ?_) q) hf
    simp only [List.mem_cons, List.not_mem_nil, or_false] at m ⊢
    rcases m with m | m | m | m | m <;> simp [m]
  self := fun A i s Q E st h => wpAny_pyIter_zip st.1 h
def iZ3 (c d f : Knd) (K : PySem.W.Frag) (ta : TA) : TI := fun σ H R => ta σ H fun vs H1 => ∃ a b g xs ys zs, vs = [.ref a, .ref b, .ref g] ∧ SqK c K H1 a xs ∧ SqK d K H1 b ys ∧ SqK f K H1 g zs ∧ R (ItZ3 c d f K a b g) H1
theorem piZ3 (c d f : Knd) {X : Cx} {e e2 e3 : Expr} {ta : TA} {p pos tpos : Pos} {elts : List Expr} {kk : Nat} (hg : Gl X "zip") (hm : X.mg "zip" = none) (ha : PA X [e, e2, e3] ta)
    (hs : starEach [e, e2, e3] X.env = (false, eval e X.env) :: starEach [e2, e3] X.env := by rfl) (hpl : (backTo pos (starEach [e2, e3] X.env)).any (·.1) = false := by rfl) : PI X (.Tuple elts kk tpos) (.Call (.Name "zip" p) [e, e2, e3] [] pos) (iZ3 c d f X.K ta) := ⟨fun pins s σ H R I h => by
  refine Call_ (ld_blt I hg hm boot_zip (callWith_type1 (thn (ha.run pos pins s σ H _ I h) fun us s1 ⟨vs, H1, I1, r1, q1⟩ => ?_) hs hpl))
  obtain ⟨a, b, g, xs, ys, zs, ev, hq, hq', hq2, q⟩ := q1
  subst ev
  cases r1 with
  | cons ru r2 =>
  obtain ⟨u2, u3, rfl, ru2, ru3⟩ := vals2 r2
  cases ru
  cases ru2
  cases ru3
  obtain ⟨its, rv, hseq⟩ := invK c I1 hq
  obtain ⟨its', rv', hseq'⟩ := invK d I1 hq'
  obtain ⟨its2, rv2, hseq2⟩ := invK f I1 hq2
  refine zip_begins3 (beginsK c a its.toArray) (beginsK d b its'.toArray) (beginsK f g its2.toArray) hseq hseq' hseq2 fun h' z1 z2 z3 z4 z5 z6 _ hk => wpAny_pyIter_zip z1 ?_
  refine ⟨_, [s1.heap.objs.size + 5, s1.heap.objs.size + 3, s1.heap.objs.size + 4, s1.heap.objs.size, s1.heap.objs.size + 1, s1.heap.objs.size + 2], _, _, H1, rfl, I1.kept (t' := s1.toks) hk, turnZ3 c d f (seqK_lt hseq) (seqK_lt hseq') (seqK_lt hseq2), ⟨z1, z2, ⟨_, _, _, z3⟩, itK_0 z4, itK_0 z5, itK_0 z6⟩, fun z hz => ?_, q⟩
  have hle : s1.heap.objs.size ≤ z := by
    simp only [List.mem_cons, List.not_mem_nil, or_false] at hz
    rcases hz with z | z | z | z | z | z <;> rw [z] <;> first | exact Nat.le_refl _ | exact Nat.le_add_right _ _
  exact I1.fpOk hle (I1.hok.fresh hle)⟩
section
variable {X : Cx} {r : Rho} {e e2 e3 : Expr} {pos p tpos : Pos} {ds es fs : List PyData} {elts : List Expr} {kk : Nat}
def zip3D (ds es fs : List PyData) : List PyData := ((ds.zip es).zip fs).map fun p => .tuple [p.1.1, p.1.2, p.2]
theorem di_zip3 (c d f : Knd) (hm : X.mg "zip" = none) (h : DE X r e (kd c ds)) (h' : DE X r e2 (kd d es)) (h2 : DE X r e3 (kd f fs)) (hz : ds.length ≤ 1000000) (hg : Gl X "zip" := by rfl) (hs : starEach [e, e2, e3] X.env = (false, eval e X.env) :: starEach [e2, e3] X.env := by rfl) (hs2 : starEach (e2 :: [e3]) X.env = (false, eval e2 X.env) :: starEach [e3] X.env := by rfl) (hs3 : starEach (e3 :: []) X.env = (false, eval e3 X.env) :: starEach [] X.env := by rfl)
    (hpl : (backTo pos (starEach [e2, e3] X.env)).any (·.1) = false := by rfl) : DI X r (.Tuple elts kk tpos) (.Call (.Name "zip" p) [e, e2, e3] [] pos) (zip3D ds es fs) :=
  PI.wk (piZ3 c d f hg hm (da_3 h h' h2 hs hs2 hs3) hs hpl) fun σ H R ⟨Hs0, H0, Hs, A, q⟩ => ⟨Hs0, H0, Hs, A, fun vs Hs1 H1 g1 hv => by
    cases hv with
    | cons hu t =>
      cases t with
      | cons hu2 t =>
        cases t with
        | cons hu3 t =>
        cases t
        obtain ⟨a, xs, rfl, hk, hx⟩ := Dat.inv_kd (K := X.K) hu
        obtain ⟨b, ys, rfl, hk2, hy⟩ := Dat.inv_kd (K := X.K) hu2
        obtain ⟨g, zs, rfl, hk3, hw⟩ := Dat.inv_kd (K := X.K) hu3
        refine ⟨a, b, g, xs, ys, zs, rfl, hk _ g1.sub, hk2 _ g1.sub, hk3 _ g1.sub, fun _ => q _ Hs1 H1 g1 (fun i Hs2 H2 s1 s2 => ⟨fun dd hd => ?_, fun hl => ⟨xs, ys, zs, hk _ (s1.trans s2), hk2 _ (s1.trans s2), hk3 _ (s1.trans s2), ?_⟩⟩) ?_⟩
        · unfold zip3D at hd
          obtain ⟨⟨⟨d1, d2⟩, d3⟩, hj, rfl⟩ := map_at hd
          rw [List.getElem?_zip_eq_some] at hj
          obtain ⟨hj, hj3⟩ := hj
          rw [List.getElem?_zip_eq_some] at hj
          obtain ⟨v, ev, hv⟩ := hx.get hj.1
          obtain ⟨v2, ev2, hv2⟩ := hy.get hj.2
          obtain ⟨v3, ev3, hv3⟩ := hw.get hj3
          refine ⟨⟨xs, ys, zs, v, v2, v3, hk _ (s1.trans s2), hk2 _ (s1.trans s2), hk3 _ (s1.trans s2), ev, ev2, ev3⟩, fun u H3 ⟨T, y1, y2, y3, eu, hT, eH, hy1, hy2, hy3⟩ => ?_⟩
          subst eu; subst eH
          have t1 := hy1 xs (hk _ (s1.trans s2))
          have t2 := hy2 ys (hk2 _ (s1.trans s2))
          have t3 := hy3 zs (hk3 _ (s1.trans s2))
          rw [ev] at t1
          rw [ev2] at t2
          rw [ev3] at t3
          cases t1
          cases t2
          cases t3
          exact ⟨_, Grw.laid s2 hT, .tup (.inl upd_same) (.cons ((hv.mono s1).mono (same_upd (s2.free hT))) (.cons ((hv2.mono s1).mono (same_upd (s2.free hT))) (.cons ((hv3.mono s1).mono (same_upd (s2.free hT))) .nil)))⟩
        · unfold zip3D at hl
          rw [List.length_map, List.length_zip, List.length_zip] at hl
          rw [hx.length, hy.length, hw.length]; exact hl
        · unfold zip3D
          rw [List.length_map, List.length_zip, List.length_zip]
          exact size_ok (by omega)⟩
end
end Dl

namespace Dl
open PySem L2 PySem.W PyProof.Rows PpSet
/-! ## sets of truth values -/
theorem setB_new_at {w : World} {h : Heap} {a : Addr} {bs : List Bool} (ho : h.get? a = some { cls := .type "set", dict := none, data := .set #[] 0 (.fresh 0 0 (!w.params.followText "set-order")) }) : SetB w h a (fun j => decide (j ∈ bs.take 0)) 0 :=
  ⟨_, #[], 0, _, ho, ⟨rfl, rfl, rfl⟩, rfl, (fun e he => by simp at he), (by simp), (fun k => by simp), (by decide), (by rfl), rfl, List.Pairwise.nil, by
    show _ ∨ (!w.params.followText "set-order") = true
    cases w.params.followText "set-order"
    · exact .inr rfl
    · exact .inl rfl⟩
section
variable {P : Program} {w : World} {A : Around} {E : Value → Shared → Prop} {s : Shared}
theorem set_update_bools {I : Addr} {fp wr : List Addr} {G : Array GenState → Array GenState → Prop} {n : Nat} {Pv : Nat → Value → Prop} {St : Nat → Shared → Prop} {R : Result → Shared → Prop}
    (W : WalksS P w A.in1 I fp wr G n Pv St) (S : Addr) (hSf : S ∉ fp) (bs : List Bool) (hn : n = bs.length) (hb : bs.length + 1 < scanBound) (hval : ∀ i v, Pv i v → ∃ k, bs[i]? = some k ∧ v = .bool k) :
    ∀ (k i : Nat) (s : Shared), n - i = k → i ≤ n → St i s → (∃ c, c ≤ i ∧ SetB w s.heap S (fun j => decide (j ∈ bs.take i)) c) →
      (∀ s' c, Moved (S :: wr) G s s' → c ≤ n → SetB w s'.heap S (fun j => decide (j ∈ bs)) c → R (.ok (.ret .none)) s') →
      codeAny (model P w) A (.builtin "set.update.loop" ⟨[.ref S, .ref I], []⟩) R s := by
  have hSw : S ∉ wr := fun h => hSf (W.sub _ h)
  have hsub : ∀ b ∈ wr, b ∈ S :: wr := fun b hb => List.mem_cons_of_mem _ hb
  intro k
  induction k with
  | zero =>
    intro i s hk' hi hst ⟨c, hc, hS⟩ hR
    have hin : i = n := by omega
    subst hin
    refine codeAny_builtin F.entry_set_update_loop ?_
    rw [Around.under_plainId F.plain_set_update_loop _]
    show wpAny _ A.in1 (pyNext (.ref I) >>= _) _ _ s
    refine wpAny_bind (W.done s _ _ hst fun s' hm => ?_)
    show wpAny _ A.in1 (ret Value.none) _ _ s'
    have e : bs.take i = bs := List.take_of_length_le (by omega)
    rw [e] at hS
    exact wpAny_pure (hR s' c (hm.mono hsub) hc (hS.at fun o e => hm.heap S o hSw e))
  | succ k ih =>
    intro i s hk' hi hst ⟨c, hc, hS⟩ hR
    have hlt : i < n := by omega
    refine codeAny_builtin F.entry_set_update_loop ?_
    rw [Around.under_plainId F.plain_set_update_loop _]
    show wpAny _ A.in1 (pyNext (.ref I) >>= _) _ _ s
    refine wpAny_bind (W.item i s _ _ hlt hst fun v s' hP hst' hm => ?_)
    obtain ⟨z, hz, rfl⟩ := hval i v hP
    have hS' : SetB w s'.heap S (fun j => decide (j ∈ bs.take i)) c := hS.at fun o e => hm.heap S o hSw e
    show wpAny _ A.in1 (holding [Value.bool z] (setAdd S (.bool z)) >>= _) _ _ s'
    refine wpAny_bind (wpAny_holding ?_)
    unfold setAdd
    refine wpAny_holding ?_
    refine wpAny_bind ((boolK P w).pyHash (boolK_is P w z) ?_)
    refine setB_add_hashed (s := { s' with toks := s'.toks + 1 }) hS' (by omega) fun h' hsb hS2 => ?_
    have hS3 : SetB w h' S (fun j => decide (j ∈ bs.take (i + 1))) (if decide (z ∈ bs.take i) = true then c else c + 1) := hS2.congr fun j => by
      rw [List.take_add_one, hz]
      simp [List.mem_append]
    have hc3 : (if decide (z ∈ bs.take i) = true then c else c + 1) ≤ i + 1 := by
      split <;> omega
    refine wpAny_pure ⟨plainId_quiet F.plain_set_update_loop _, ih (i + 1) _ (by omega) hlt (W.frame _ s' _ _ hst' (Nat.le_succ _) fun b hb o e => ?_) ⟨_, hc3, hS3⟩ fun s'' c2 hm'' hc'' hS'' => ?_⟩
    · rw [hsb.2 b (fun h : b = S => hSf (by rw [← h]; exact hb))]; exact e
    · refine hR s'' c2 (Moved.trans W.gtrans ((hm.mono hsub).then_heap (Nat.le_succ _) fun b o hb e => ?_) hm'') hc'' hS''
      rw [hsb.2 b (fun h : b = S => hb (by rw [h]; exact List.mem_cons_self))]; exact e
structure SetLaidB (w : World) (bs : List Bool) (s : Shared) (h' : Heap) (c : Nat) : Prop where
  set : SetB w h' s.heap.objs.size (fun j => decide (j ∈ bs)) c
  le : c ≤ bs.length
  keep : ∀ b o, s.heap.get? b = some o → h'.get? b = some o
set_option maxHeartbeats 3200000 in
theorem set_list_rawB {l : Addr} {its : Array Value} (bs : List Bool) {Q : Value → Shared → Prop} (hh : A.handled = none) (hl : s.heap.IsList l its) (hi : its = (bs.map Value.bool).toArray) (hb : bs.length + 1 < scanBound)
    (q : ∀ (h' : Heap) (tk c : Nat), SetLaidB w bs s h' c → Q (.ref s.heap.objs.size) { s with heap := h', toks := tk }) : wpAny (model P w) A (call (.type "set") [.ref l]) Q E s := by
  have hsz : its.size = bs.length := by
    rw [hi, List.size_toArray, List.length_map]
  have hlS : l < s.heap.objs.size := by
    obtain ⟨o, ho, _⟩ := hl
    exact Heap.lt_size ho
  have hS0 : (s.heap.push (set0 w)).get? s.heap.objs.size = some (set0 w) := Heap.get?_push_size _ rfl
  have hsz1 : (s.heap.push (set0 w)).objs.size = s.heap.objs.size + 1 := Heap.size_push ..
  have hl1 : (s.heap.push (set0 w)).IsList l its := hl.push _
  have hval : ∀ (i : Nat) (v : Value), its[i]? = some v → ∃ k, bs[i]? = some k ∧ v = Value.bool k := fun i v hv => by
    rw [hi, List.getElem?_toArray] at hv
    exact map_at hv
  have hne : l ≠ (s.heap.push (set0 w)).objs.size := by
    rw [hsz1]
    exact Nat.ne_of_lt (Nat.lt_succ_of_lt hlS)
  have hnf : s.heap.objs.size ∉ [(s.heap.push (set0 w)).objs.size, l] := by
    rw [hsz1]
    intro z
    rcases List.mem_cons.mp z with z | z
    · exact absurd z (Nat.ne_of_lt (Nat.lt_succ_self _))
    · exact absurd (List.mem_singleton.mp z) (Nat.ne_of_gt hlS)
  obtain ⟨c, tl, hmro⟩ := F.called_set.mro
  have m1 := F.called_set.made
  have m2 := F.called_set.sub
  have m3 := F.called_set.notType
  have m4 := F.called_set.canCreate
  have m5 := F.typeCall_set_1 (.ref l)
  apply wpAny_call
  apply codeAny_of_tree
  change wpAny _ _ (callAny (.type "set") _) _ _ _
  refine wpAny_pure ⟨Code.quiet_builtin _ (by decide +kernel), codeAny_builtin F.entry_type_call ?_⟩
  rw [Around.under_plain (weight_type_call_type "set" [.ref l] []) rfl]
  repeat (any_goals (first | assumption | wp_step))
  refine codeAny_mono (code_set_led1 (.ref l) (E := E) (Q₁ := fun z s1 => z = .ref s.heap.objs.size ∧ s1 = { s with heap := s.heap.push (set0 w) }) ⟨rfl, rfl⟩) fun r1 s1 hr1 => ?_
  cases r1 with
  | error z => exact hr1
  | ok fl =>
    cases fl with
    | next => exact hr1
    | brk => exact hr1
    | cont => exact hr1
    | ret z =>
      obtain ⟨rfl, rfl⟩ := hr1
      have hT : Shared.TypeIs { s with heap := s.heap.push (set0 w) } (.ref s.heap.objs.size) "set" := ⟨_, hS0, rfl⟩
      have m6 := F.called_set.init.lookup
      have m7 := F.called_set.init.bind (.ref s.heap.objs.size)
      repeat (any_goals (first | assumption | wp_step))
      refine codeAny_mono (codeAny_call_builtin (R := wants (fun r s2 => r = .none ∧ ∃ h' tk c, s2 = { s with heap := h', toks := tk } ∧ SetLaidB w bs s h' c) E) F.called_set.init.plain F.entry_set_init (check_set_init_1 hT ?_)) fun r2 s2 hr2 => ?_
      · have hl2 := hl1
        obtain ⟨ol, ho, hc, nl, hd⟩ := hl2
        obtain ⟨cl, di, da, sl⟩ := ol
        dsimp only at hc hd
        subst hc
        subst hd
        have m8 := F.sub_list_set
        have m9 := F.sub_list_frozenset
        have m10 : (Value.type "list" == Value.type "dict") = false := by decide
        unfold Builtin.«set.__init__» noKeywords Builtin.Frozenset.updateFrom
        generalize hPI : pyIter = PI
        wp_walk
        subst hPI
        refine wpAny_pyIter_list hl1 ?_
        refine wpAny_bind (wpAny_runValue ?_)
        have hh3 : A.in1.in1.in1.handled = none := by simp [hh]
        refine set_update_bools ((Walks.list hh3 _ l hne its).toS) s.heap.objs.size hnf bs hsz hb hval (its.size - 0) 0 _ (by omega) (Nat.zero_le _) ⟨⟨_, Heap.get?_push_size _ rfl, rfl, rfl⟩, hl1.push _⟩ ?h0 ?h1
        case h0 => exact ⟨0, Nat.le_refl 0, setB_new_at (Heap.get?_push_of_some _ hS0)⟩
        case h1 =>
          intro s' c' hm hc' hS'
          obtain ⟨h', g', d', t', o'⟩ := s'
          obtain rfl : g' = s.gens := hm.gens
          obtain rfl : d' = s.drawn := hm.drawn
          obtain rfl : o' = s.os := hm.os
          refine wpAny_pure ?_
          change wpAny _ _ (ret Value.none) _ _ _
          refine wpAny_pure ⟨rfl, h', t', c', rfl, hS', by rw [← hsz]; exact hc', fun b o e => ?_⟩
          have hlt : b < s.heap.objs.size := Heap.lt_size e
          refine hm.heap b o (fun z => ?_) (Heap.get?_push_of_some _ (Heap.get?_push_of_some _ e))
          rcases List.mem_cons.mp z with z | z
          · exact absurd z (Nat.ne_of_lt hlt)
          · rw [List.mem_singleton, hsz1] at z
            exact absurd z (Nat.ne_of_lt (Nat.lt_succ_of_lt hlt))
      · cases r2 with
        | error z => exact hr2
        | ok fl =>
          cases fl with
          | next => exact hr2
          | brk => exact hr2
          | cont => exact hr2
          | ret z =>
            obtain ⟨rfl, h', tk, c', rfl, L⟩ := hr2
            repeat (any_goals (first | assumption | wp_step))
            exact q h' tk c' L
end
/-- how many truth values there are in a list, each once -/
def cntB (bs : List Bool) : Nat := ([true, false].filter fun b => decide (b ∈ bs)).length
theorem SetB.count {w : World} {h : Heap} {a : Addr} {bs : List Bool} {n : Nat} (R : SetB w h a (fun j => decide (j ∈ bs)) n) : n = cntB bs := by
  obtain ⟨o, es, ep, t, ho, hx, hd, g, nd, hm, hb, hf, hn, _⟩ := R
  have : (es.toList.map keyB).length = cntB bs := by
    refine ((List.perm_ext_iff_of_nodup nd (List.Pairwise.filter _ (by decide : [true, false].Nodup))).mpr fun k => ?_).length_eq
    rw [← hm k, List.mem_filter]
    cases k <;> simp
  rw [List.length_map, Array.length_toList] at this
  omega
theorem vals_bls : ∀ {bs : List Bool} {us : List Value}, Vals (bs.map V.bl) us → us = bs.map Value.bool
  | [], _, h => by cases h; rfl
  | b :: bs, _, h => by
    cases h with
    | cons h1 h2 =>
      rw [vals_bls h2, h1]
      rfl
section
variable {X : Cx} {E : XK} {r r1 : Rho} {e a b c : Expr} {pos p : Pos} {d d1 d2 : PyData} {ds es : List PyData} {i j : Int} {x : Str} {bs : List Bool}
def tSb (K : PySem.W.Frag) (w : World) (r : Rho) (bs : List Bool) : TE := fun σ H Q => ∃ Hs0 H0 Hs, Asn K Hs0 H0 r σ Hs H ∧ ∀ q Hs' H', Grw Hs H Hs' H' → H' q = some (SetBO w q (fun j => decide (j ∈ bs)) (cntB bs)) → Q (.ref q) H'
def DSb (X : Cx) (r : Rho) (e : Expr) (bs : List Bool) : Prop := PE X e (tSb X.K X.w r bs)
def rSetOfB (w : World) : List V → Hp → VK → Prop := fun vs H Q => ∃ v, ∃ bs : List Bool, vs = [v] ∧ Dat H v (.list (bs.map .bool)) ∧ bs.length ≤ 4000 ∧ ∀ q, H q = none → Q (.ref q) (upd H q (SetBO w q (fun j => decide (j ∈ bs)) (cntB bs)))
theorem cr_setOfB (hc : X.calm = true) : CallR X (.type "set") (rSetOfB X.w) := fun pins s σ H vs us Q I rv ⟨v, bs, ev, hv, hn, q⟩ => by
  subst ev
  obtain ⟨u, rfl, ru⟩ := vals1 rv
  have hf : H s.heap.objs.size = none := I.hok.fresh (Nat.le_refl _)
  have hsc : bs.length + 1 < scanBound := by unfold scanBound; omega
  obtain ⟨l, xs, rfl, hl, hx⟩ := hv.inv_list
  obtain rfl := hx.bls
  cases ru
  obtain ⟨its, hr, hp, hz⟩ := I.list (SqL.of hl)
  refine set_list_rawB bs (I.ok.hd hc) hp.isList (by rw [vals_bls hr]) hsc fun h' tk c L => ?_
  have R := L.set
  rw [SetB.count R] at R
  exact ⟨.ref _, _, I.laid (t' := tk) (fun b o hb => L.keep b o hb) (Nat.le_refl _) (setBO_new R), rfl, q _ hf⟩
theorem dsb_set (hc : X.calm = true) (hm : X.mg "set" = none) (ha : DE X r e (.list (bs.map .bool))) (hn : bs.length ≤ 4000) (hg : Gl X "set" := by rfl)
    (he : starEach (e :: []) X.env = (false, eval e X.env) :: starEach [] X.env := by rfl) (hpl : (backTo pos (starEach [] X.env)).any (·.1) = false := by rfl) : DSb X r (.Call (.Name "set" p) [e] [] pos) bs :=
  PE.wk (pe_callTy (cr_setOfB hc) hg hm (by decide +kernel) (da_1 ha he) (by decide) (by decide) he hpl) fun _ _ σ H Q _ ⟨Hs0, H0, Hs, A, q⟩ => ⟨Hs0, H0, Hs, A, fun vs Hs1 H1 g1 h1 => by
    cases h1 with
    | cons hu t =>
      cases t
      exact ⟨_, bs, rfl, Dat.mono g1.sub hu, hn, fun z hz => q z Hs1 _ (g1.trans (Grw.laidO g1.sub hz)) upd_same⟩⟩
theorem cr_lenSetB : CallR X (.builtin "len") (fun vs H Q => ∃ (q : Addr) (S : Bool → Bool) (n : Nat), vs = [.ref q] ∧ H q = some (SetBO X.w q S n) ∧ Q (.int n) H) := fun pins s σ H vs us Q I rv ⟨z, S, n, ev, hz, q⟩ => by
  subst ev
  rw [Vals.ref1 rv]
  obtain ⟨o, es, ep, t, ho, hx, hd, g, nd, hm, hb, hf, hn, _⟩ := setBO_get I hz
  exact call_len_set ho hx hd hf (by unfold scanBound at hb; omega) ⟨.int n, H, I.tok _, ⟨_, by rw [hn]⟩, q⟩
theorem de_lenSetB (hm : X.mg "len" = none) (ha : DSb X r e bs) (hg : Gl X "len" := by rfl)
    (he : starEach (e :: []) X.env = (false, eval e X.env) :: starEach [] X.env := by rfl) (hpl : (backTo pos (starEach [] X.env)).any (·.1) = false := by rfl) : DE X r (.Call (.Name "len" p) [e] [] pos) (.int (cntB bs)) :=
  PE.wk (pe_callB cr_lenSetB hg hm PySem.boot_len (pa_cons ha pa_nil he) (by decide) (by decide) he hpl) fun _ _ σ H Q _ ⟨Hs0, H0, Hs, A, q⟩ => ⟨Hs0, H0, Hs, A, fun z Hs1 H1 g1 h1 =>
    ⟨z, _, _, rfl, h1, q _ Hs1 H1 g1 (.int _)⟩⟩
end
theorem cntB_one {bs : List Bool} (h : ∀ a ∈ bs, ∀ b ∈ bs, a = b) : cntB bs ≤ 1 := by
  unfold cntB
  by_cases h1 : true ∈ bs <;> by_cases h2 : false ∈ bs
  · exact absurd (h _ h1 _ h2) (by decide)
  all_goals simp [h1, h2]
end Dl

namespace Dl
open PySem L2 PySem.W PyProof.Rows
/-! ## exact tuples: their making, their methods -/
section
variable {X : Cx} {E : XK} {r r1 : Rho} {e a b c : Expr} {es : List Expr} {pos p : Pos} {d d1 d2 : PyData} {ds ds' : List PyData} {i j : Int} {x y : Str} {ns : List Int} {P : Post} {t : TA}
theorem DE.loose (h : DE X r e (Dl.xt ds)) : DE X r e (.tuple ds) := PE.wk h fun pins s σ H Q I ⟨Hs0, H0, Hs, A, q⟩ => ⟨Hs0, H0, Hs, A, fun v Hs' H' g hv => q v Hs' H' g hv.xt_tup⟩
theorem DE.lo (h : DE X r e d) : DE X r e (Dl.lo d) := PE.wk h fun pins s σ H Q I ⟨Hs0, H0, Hs, A, q⟩ => ⟨Hs0, H0, Hs, A, fun v Hs' H' g hv => q v Hs' H' g hv.lo⟩
theorem objX {H : Hp} {h : Heap} {us : List Value} {xs : List V} (z : xs.length ≤ sizeLine) (r : Vals xs us) :
    ObjOk X.prog X.w H (h.push { cls := .type "tuple", data := .seq us.toArray }) h.objs.size (.frz { cls := .type "tuple", data := .seq us.toArray } (.tup xs)) :=
  ⟨Heap.get?_push_size _ rfl, z, us, r, ⟨_, Heap.get?_push_size _ rfl, rfl, _, rfl⟩⟩
def tTupX (t : TA) : TE := fun σ H Q => t σ H fun xs H1 => xs.length ≤ sizeLine ∧ ∀ p o, H1 p = none → o.dict = none → Q (.ref p) (upd H1 p (.frz o (.tup xs)))
theorem pe_tupX {k : Nat} (h : PA X es t) : PE X (.Tuple es k pos) (tTupX t) := ⟨fun pins s σ H Q I hq => by
  refine wpAny_Tuple_spliced (thn (h.run pos pins s σ H _ I hq) fun us s1 ⟨xs, H1, I1, r, z, q⟩ => ⟨by rw [← r.length]; exact z, ?_⟩)
  exact ⟨.ref s1.heap.objs.size, _, I1.laid (t' := s1.toks) (fun b u e => Heap.get?_push_of_some _ e) (Nat.le_refl _) (objX z r), rfl, q _ _ (I1.hok.fresh (Nat.le_refl _)) rfl⟩⟩
theorem de_tupX {k : Nat} (h : DA X r es (ds.map Slot.val)) (hz : ds.length ≤ sizeLine) : DE X r (.Tuple es k pos) (Dl.xt ds) :=
  PE.wk (pe_tupX h) fun pins s σ H Q I ⟨Hs0, H0, Hs, A, q⟩ => ⟨Hs0, H0, Hs, A, fun vs Hs1 H1 g1 h1 => ⟨by rw [h1.length, List.length_map]; exact hz, fun p o hp ho =>
    q _ _ _ (g1.trans (Grw.laid g1.sub hp)) (.xt upd_same ho (h1.dats.mono (same_upd (g1.sub.free hp))))⟩⟩
def rCatX (K : PySem.W.Frag) : R2 := fun x y H Q => ∃ a b xs ys, x = .ref a ∧ y = .ref b ∧ SqT K H a xs ∧ SqT K H b ys ∧ xs.length + ys.length ≤ sizeLine ∧ (xs = [] → Q (.ref b) H) ∧ (xs ≠ [] → ys = [] → Q (.ref a) H) ∧
  (xs ≠ [] → ys ≠ [] → ∀ l o, H l = none → o.dict = none → Q (.ref l) (upd H l (.frz o (.tup (xs ++ ys)))))
theorem op_catX : OpR X (binaryOp .Add) (rCatX X.K) := by
  intro pins s σ H x y v u Q I rx ry h
  obtain ⟨a, b, xs, ys, rfl, rfl, ha, hb, hz, q0, q1, q2⟩ := h
  cases rx
  cases ry
  obtain ⟨its, r1, p1, _⟩ := I.tuple ha
  obtain ⟨its2, r2, p2, _⟩ := I.tuple hb
  by_cases hx : xs = []
  · subst hx
    cases r1
    exact cat_tup0 p1 p2 ⟨.ref b, H, I, rfl, q0 rfl⟩
  · refine HT.cat_tup p1 p2 (fun z => hx (r1.nil_iff.mp z)) (fun z => ⟨.ref a, H, I, rfl, q1 hx (r2.nil_iff.mp z)⟩) (fun z => ?_) (by rw [← r1.length, ← r2.length]; exact hz)
    exact ⟨.ref s.heap.objs.size, _, I.laid (t' := s.toks) (fun b ob q => Heap.get?_push_of_some _ q) (Nat.le_refl _) (objX (by rw [List.length_append]; exact hz) (r1.append r2)), rfl, q2 hx (fun w => z (r2.nil_iff.mpr w)) _ _ (I.hok.fresh (Nat.le_refl _)) rfl⟩
theorem de_catX (hz : ds.length + ds'.length ≤ sizeLine) (ha : DE X r a (Dl.xt ds)) (hb : DE X r b (Dl.xt ds')) : DE X r (.BinOp a .Add b pos) (Dl.xt (ds ++ ds')) :=
  de_op op_catX (fun x y Hs H Q hx hy h q => by
    obtain ⟨p, o, vs, rfl, hp, ho, hv⟩ := hx.inv_xt
    obtain ⟨p', o', ws, rfl, hp', ho', hw⟩ := hy.inv_xt
    refine ⟨p, p', vs, ws, rfl, rfl, SqT.rd (.inr ⟨_, h _ _ hp⟩), SqT.rd (.inr ⟨_, h _ _ hp'⟩), by rw [hv.length, hw.length]; exact hz, fun e0 => ?_, fun _ e0 => ?_, fun _ _ l o hl ho => ?_⟩
    · subst e0
      cases hv
      exact q _ Hs H (Grw.refl h) (.xt hp' ho' hw)
    · subst e0
      cases hw
      rw [List.append_nil] at q
      exact q _ Hs H (Grw.refl h) (.xt hp ho hv)
    · exact q _ _ _ (Grw.laid h hl) (.xt upd_same ho ((hv.append hw).mono (same_upd (h.free hl))))) ha hb
theorem call_tupleX : CallR X (.type "tuple") (fun xs H Q => ∃ p ys, xs = [.ref p] ∧ ((SqL X.K H p ys ∧ ∀ l o, H l = none → o.dict = none → Q (.ref l) (upd H l (.frz o (.tup ys)))) ∨ (SqT X.K H p ys ∧ Q (.ref p) H))) := by
  intro pins s σ H xs us Q I r h
  obtain ⟨p, ys, rfl, h⟩ := h
  obtain ⟨u, rfl, rx⟩ := vals1 r
  cases rx
  rcases h with ⟨hq, q⟩ | ⟨hq, q⟩
  · obtain ⟨its, r', pl, hz⟩ := I.list hq
    have hlen := r'.length
    refine call_tuple_list pl.isList (fun h' kp => ?_) (by simp only [List.size_toArray] <;> omega)
    have I1 : Inv X pins σ H { s with heap := h' } := I.kept (t' := s.toks) kp
    exact ⟨.ref h'.objs.size, _, I1.laid (t' := s.toks) (fun b o e => Heap.get?_push_of_some _ e) (Nat.le_refl _) (objX hz r'), rfl, q _ _ (I1.hok.fresh (Nat.le_refl _)) rfl⟩
  · obtain ⟨its, r', pl, hz⟩ := I.tuple hq
    exact call_tuple_same pl ⟨.ref p, H, I, rfl, q⟩
theorem de_tupleX (hm : X.mg "tuple" = none) (ha : DE X r e (.list ds)) (hg : Gl X "tuple" := by rfl) (he : starEach (e :: []) X.env = (false, eval e X.env) :: starEach [] X.env := by rfl) (hpl : (backTo pos (starEach [] X.env)).any (·.1) = false := by rfl) : DE X r (.Call (.Name "tuple" p) [e] [] pos) (Dl.xt ds) := by
  refine de_callT (ds := [.list ds]) call_tupleX (fun vs Hs H Q hv h q => ?_) hg hm (by decide +kernel) (da_1 ha he) (by decide) (by decide) he hpl
  cases hv with
  | cons h1 t =>
    cases t
    obtain ⟨p, ws, rfl, hp, hw⟩ := h1.inv_list
    exact ⟨p, ws, rfl, .inl ⟨SqL.of (h _ _ hp), fun z o hz ho => q _ _ _ (Grw.laid h hz) (.xt upd_same ho (hw.mono (same_upd (h.free hz))))⟩⟩
def tTupRgX (te : L2.St → Hp → (Int → Int → Hp → Prop) → Prop) : TE := fun σ H Q => te σ H fun a b H1 => RgOk a b ∧ ∀ p o, H1 p = none → o.dict = none → Q (.ref p) (upd H1 p (.frz o (.tup (rgV a b))))
theorem pe_tupRgX {te : L2.St → Hp → (Int → Int → Hp → Prop) → Prop} (hc : X.calm = true) (hg : Gl X "tuple") (hm : X.mg "tuple" = none) (he : PRg X e te) (na : starEach [e] X.env = (false, eval e X.env) :: starEach [] X.env := by rfl) : PE X (.Call (.Name "tuple" p) [e] [] pos) (tTupRgX te) := by
  refine ⟨fun pins s σ H Q I h => ?_⟩
  refine Call_ (ld_blt I hg hm boot_tuple (PyProof.Rows.callWith_type1 (args_cons (thn (he pins s σ H _ I h) fun x s1 ⟨r, a, b, t, u, v, H1, ex, hr, I1, ok, q⟩ => args_nil ?_) na) na))
  subst ex
  obtain ⟨b1, b2, b3, b4, b5⟩ := ok
  refine call_tuple_range (n := (b - a).toNat) (I1.ok.hd hc) hr (small_one b1 b2 b3 b4) (rangeSize_nat a b) b5 fun h' tk acc hk hi => ?_
  have I2 : Inv X pins σ H1 { s1 with heap := h', toks := tk } := I1.kept hk
  have ob := objX (X := X) (H := upd H1 h'.objs.size (.frz { cls := .type "tuple", data := .seq acc.toList.toArray } (.tup (rgV a b)))) (h := h') (us := acc.toList) (xs := rgV a b) (by rw [rgV_length, sizeLine_eq]; omega) (vals_rg hi)
  rw [Array.toArray_toList] at ob
  exact ⟨.ref h'.objs.size, _, I2.laid (t' := tk) (fun c o e => Heap.get?_push_of_some _ e) (Nat.le_refl _) ob, rfl, q _ _ (I2.hok.fresh (Nat.le_refl _)) rfl⟩
theorem de_tupRangeX {n : Int} {p2 pos2 : Pos} (hc : X.calm = true) (hl : X.mg "tuple" = none) (hm : X.mg "range" = none) (h : DE X r a (.int n)) (h0 : 0 ≤ n) (h1 : n ≤ 1000000) (hg : Gl X "range" := by rfl) (hg2 : Gl X "tuple" := by rfl) (na : starEach [a] X.env = (false, eval a X.env) :: starEach [] X.env := by rfl)
    (nb : starEach [.Call (.Name "range" p) [a] [] pos] X.env = (false, eval (.Call (.Name "range" p) [a] [] pos) X.env) :: starEach [] X.env := by rfl) : DE X r (.Call (.Name "tuple" p2) [.Call (.Name "range" p) [a] [] pos] [] pos2) (Dl.xt (rangeD 0 n.toNat)) :=
  PE.wk (pe_tupRgX hc hg2 hl (prg_d hm h hg na) nb) fun _ _ σ H Q _ ⟨Hs0, H0, Hs, A, q⟩ => ⟨Hs0, H0, Hs, A, fun Hs1 H1 g1 => ⟨RgOk.of_le (by decide) (by omega) (by decide) h0, fun z o hz ho =>
    q _ _ _ (g1.trans (Grw.laid g1.sub hz)) (.xt upd_same ho (by have := rgV_dats (H := upd Hs1 z (.frz o (.tup (rgV 0 n)))) 0 n; rw [Int.sub_zero] at this; exact this))⟩⟩
/-! ### methods of exact tuples -/
def tBX (rr : V → List V → Hp → VK → Prop) (to : TE) (t : TA) : TE := fun σ H Q => to σ H fun x H1 => (∃ a o xs, x = .ref a ∧ H1 a = some (.frz o (.tup xs)) ∧ o.dict = none) ∧ t σ H1 fun vs H2 => rr x vs H2 Q
theorem pe_bx {name : Str} {id : String} {apos cpos : Pos} {rr : V → List V → Hp → VK → Prop} {to : TE} (slot : PySem.Slot "tuple" name id) (hty : typeOf (.builtin id) = pure (.type "method_descriptor")) (hm : MtR X id rr) (ho : PE X a to) (ha : PA X (e :: es) t)
    (hbase : attributeBase a name X.env (eval a X.env) = eval a X.env := by rfl)
    (hfew : ((backTo cpos (starEach (e :: es) X.env)).all (fun x => !x.1) && (backToKw cpos (keywordEach [] X.env)).all (fun x => x.1.isSome)
      && decide ((e :: es).length + ([] : List Keyword).length + (if ([] : List Keyword).isEmpty then 0 else 1) < 30)) = true := by rfl)
    (hline : (apos.endLine == cpos.line) = true := by rfl) (hs : starEach (e :: es) X.env = (false, eval e X.env) :: starEach es X.env := by rfl) (hplain : (backTo cpos (starEach es X.env)).any (·.1) = false := by rfl) :
    PE X (.Call (.Attribute a name apos) (e :: es) [] cpos) (tBX rr to t) := by
  refine ⟨fun pins s σ H Q I h => ?_⟩
  refine wpAny_Call_method_late hbase hfew hline rfl (thn (ho.run pins s σ H _ I h) fun v s1 ⟨x, H1, I1, r1, ⟨l, o, xs, ex, hl, hd⟩, q1⟩ => ?_)
  subst ex
  cases r1
  obtain ⟨hg, _, its, _, hi⟩ := I1.hok l _ hl
  obtain ⟨o', ho', hc', _⟩ := hi
  refine ⟨"tuple", id, PySem.F.plainAttrs_tuple, slot, hty, ⟨o', ho', hc'⟩, fun a e => by cases e; exact ⟨o, hg, hd⟩, ?_⟩
  have hA := ha.run cpos pins s1 σ H1 _ I1 q1
  rw [hs] at hA ⊢
  refine Calls.callWith_builtin (by show (false || (backTo cpos (starEach es X.env)).any (·.1)) = false; rw [hplain] <;> rfl) (Calls.evalArgs_plain ?_)
  exact thn hA fun us s2 ⟨vs, H2, I2, r2, q2⟩ => hm pins s2 σ H2 (.ref l) vs (.ref l) us Q I2 rfl r2 q2
theorem mt_tindex : MtR X "tuple.index" (fun v xs H Q => ∃ (l : Addr) (ns : List Int) (k : Int), v = .ref l ∧ xs = [.int k] ∧ SqT X.K H l (ns.map V.int) ∧ k ∈ ns ∧ Q (.int (ns.idxOf k : Nat)) H) := fun pins s σ H v xs u us Q I rv rx ⟨l, ns, k, ev, ex, hq, hk, q⟩ => by
  subst ev; subst ex
  cases rv
  obtain ⟨w1, rfl, r1⟩ := vals1 rx
  obtain ⟨t, rfl⟩ := r1
  obtain ⟨its, r, ht, hz⟩ := I.tuple hq
  exact SeqAt.tuple_index_ints ht (by simpa using r.ints) hk ⟨.int _, H, I.tok _, ⟨_, rfl⟩, q⟩
theorem mt_lindex : MtR X "list.index" (fun v xs H Q => ∃ (l : Addr) (ns : List Int) (k : Int), v = .ref l ∧ xs = [.int k] ∧ SqL X.K H l (ns.map V.int) ∧ k ∈ ns ∧ Q (.int (ns.idxOf k : Nat)) H) := fun pins s σ H v xs u us Q I rv rx ⟨l, ns, k, ev, ex, hq, hk, q⟩ => by
  subst ev; subst ex
  cases rv
  obtain ⟨w1, rfl, r1⟩ := vals1 rx
  obtain ⟨t, rfl⟩ := r1
  obtain ⟨its, r, ht, hz⟩ := I.list hq
  exact SeqAt.list_index_ints ht.isList (by simpa using r.ints) (by rw [List.length_map] at hz; exact hz) hk ⟨.int _, H, I.tok _, ⟨_, rfl⟩, q⟩
theorem de_indexX {pa cpos : Pos} {k : Int} (ha : DE X r a (Dl.xt (ns.map .int))) (hb : DE X r e (.int k)) (hk : k ∈ ns) (hes : starEach [e] X.env = (false, eval e X.env) :: starEach [] X.env := by rfl)
    (hpe : ∀ {rr : V → List V → Hp → VK → Prop} {to t}, MtR X "tuple.index" rr → PE X a to → PA X [e] t → PE X (.Call (.Attribute a "index" pa) [e] [] cpos) (tBX rr to t) := by
      intro rr to t h0 h1 h2; exact pe_bx PySem.F.slot_tuple_index PySem.F.type_tuple_index h0 h1 h2) : DE X r (.Call (.Attribute a "index" pa) [e] [] cpos) (.int (ns.idxOf k : Nat)) :=
  PE.wk (hpe mt_tindex ha (da_1 hb hes)) fun _ _ σ H Q _ ⟨Hs0, H0, Hs, A, q⟩ => ⟨Hs0, H0, Hs, A, fun v Hs1 H1 g1 h1 => by
    obtain ⟨l, o, vs, rfl, hl, ho, hv⟩ := h1.inv_xt
    obtain rfl := hv.ints
    refine ⟨⟨l, o, _, rfl, g1.sub _ _ hl, ho⟩, Hs0, H0, Hs1, A.grow g1, fun us Hs2 H2 g2 h2 => ?_⟩
    cases h2 with
    | cons hu t =>
      cases t
      exact ⟨l, ns, k, rfl, by rw [Dat.inv_int hu], SqT.rd (.inr ⟨_, g2.sub _ _ (g2.st _ _ hl)⟩), hk, q _ Hs2 H2 (g1.trans g2) (.int _)⟩⟩
theorem de_indexL {pa cpos : Pos} {k : Int} (ha : DE X r a (.list (ns.map .int))) (hb : DE X r e (.int k)) (hk : k ∈ ns) (hes : starEach [e] X.env = (false, eval e X.env) :: starEach [] X.env := by rfl)
    (hpe : ∀ {rr : V → List V → Hp → VK → Prop} {to t}, MtR X "list.index" rr → PE X a to → PA X [e] t → PE X (.Call (.Attribute a "index" pa) [e] [] cpos) (tBM X.K "list" rr to t) := by
      intro rr to t h0 h1 h2; exact pe_bm PySem.F.plainAttrs_list PySem.F.slot_list_index PySem.F.type_list_index h0 h1 h2) : DE X r (.Call (.Attribute a "index" pa) [e] [] cpos) (.int (ns.idxOf k : Nat)) :=
  PE.wk (hpe mt_lindex ha (da_1 hb hes)) fun _ _ σ H Q _ ⟨Hs0, H0, Hs, A, q⟩ => ⟨Hs0, H0, Hs, A, fun v Hs1 H1 g1 h1 => by
    obtain ⟨l, vs, rfl, hl, hv⟩ := h1.inv_list
    obtain rfl := hv.ints
    refine ⟨.inl ⟨rfl, _, SqL.of (g1.sub _ _ hl)⟩, Hs0, H0, Hs1, A.grow g1, fun us Hs2 H2 g2 h2 => ?_⟩
    cases h2 with
    | cons hu t =>
      cases t
      exact ⟨l, ns, k, rfl, by rw [Dat.inv_int hu], SqL.of (g2.sub _ _ (g2.st _ _ hl)), hk, q _ Hs2 H2 (g1.trans g2) (.int _)⟩⟩
end
end Dl

namespace Dl
open PySem L2 PySem.W PyProof.Rows
/-! ## lists of lists -/
theorem LLs.snoc {Hs H : Hp} : ∀ {ls : List Addr} {dss : List (List PyData)} {l : Addr} {vs : List V} {ds : List PyData}, LLs Hs H ls dss → H l = some (.lst vs) → Dats Hs vs ds → LLs Hs H (ls ++ [l]) (dss ++ [ds])
  | _, _, _, _, _, .nil, h, q => .cons ⟨_, h, q⟩ .nil
  | _, _, _, _, _, .cons a r, h, q => .cons a (LLs.snoc r h q)
theorem LLs.there {Hs H : Hp} : ∀ {ls : List Addr} {dss : List (List PyData)} {x : Addr}, LLs Hs H ls dss → x ∈ ls → H x ≠ none
  | _, _, _, .nil, m => by cases m
  | _, _, _, .cons ⟨vs, h1, _⟩ r, m => by
    rcases List.mem_cons.mp m with w | w
    · rw [w, h1]; simp
    · exact LLs.there r w
section
variable {X : Cx} {E : XK} {r r1 : Rho} {e a b c : Expr} {pos p : Pos} {d d1 d2 : PyData} {ds : List PyData}
theorem lc_core_e {α : Type} {xs : List α} {rep : α → PyData} {tg : Expr} {scope : Scope} {own : List (Str × Nat)} {ws : List Nat} (hw : ∀ i ∈ ws, i ∈ own.map (·.2))
    (hturn : ∀ x ∈ xs, ∃ r2, ∀ s H C cl fp, DG (Blk X scope s H C cl fp) tg ws (wipeR r (own.map (·.2))) (rep x) r2) {σ : L2.St} {H : Hp} {Q : VK}
    (h : ∃ Hs0 H0 Hs, Asn X.K Hs0 H0 r σ Hs H ∧ ∀ D ls Hs' H', Grw Hs H Hs' H' → (D :: ls).Nodup → (∀ x ∈ D :: ls, H x = none ∧ Hs' x = none) → H' D = some (.lst (ls.map V.ref)) → LLs Hs' H' ls (List.replicate xs.length []) → Q (.ref D) H') :
    tLc (iD X.K r (xs.map rep)) (fun v σ H Q => ∃ r1 d r2, (∀ s H C cl fp, DG (Blk X scope s H C cl fp) tg ws r1 d r2) ∧ tTg X.K ws r1 d r2 v σ H Q) (fun _ H Q => Q true H)
      (fun _ H Q => ∀ p, H p = none → Q (.ref p) (upd H p (.lst []))) (own.map (·.2)) σ H Q := by
  obtain ⟨Hs0, H0, Hs, A, h⟩ := h
  refine ⟨Hs0, H0, Hs, A, fun J Hs' H' g1 ok hz D hD => ?_⟩
  rw [List.length_map] at hz
  have hlen : (xs.map rep).length = xs.length := List.length_map ..
  refine ⟨fun i m H1 => i + m = xs.length ∧ ∃ Hs1 ls, Grw Hs' H' Hs1 H1 ∧ (D :: ls).Nodup ∧ (∀ x ∈ D :: ls, H' x = none ∧ Hs1 x = none) ∧ H1 D = some (.lst (ls.map V.ref)) ∧ LLs Hs1 H1 ls (List.replicate i []),
    ⟨xs.length, by omega, Hs', [], Grw.laidO g1.sub hD, by simp, fun x hx => by rw [List.mem_singleton.mp hx]; exact ⟨hD, g1.sub.free hD⟩, upd_same, .nil⟩, fun i m H1 ⟨em, Hs1, ls, gg, nd, fr, h1, h3⟩ => ?_⟩
  obtain ⟨o1, o2⟩ := ok i Hs1 H1 gg.st gg.sub
  have hll : ls.length = i := by rw [Paired.length h3, List.length_replicate]
  by_cases hi : i < xs.length
  · have e0 : (xs.map rep)[i]? = some (rep xs[i]) := by rw [List.getElem?_map, List.getElem?_eq_getElem hi]; rfl
    refine .inr ⟨(o1 _ e0).1, fun H2 => ∃ Hs1 ls, Grw Hs' H' Hs1 H2 ∧ (D :: ls).Nodup ∧ (∀ x ∈ D :: ls, H' x = none ∧ Hs1 x = none) ∧ H2 D = some (.lst (ls.map V.ref)) ∧ LLs Hs1 H2 ls (List.replicate (i + 1) []), fun H2 ⟨Hs2, ls2, a1, a2, a3, a4, a5⟩ => ⟨m - 1, by omega, by omega, Hs2, ls2, a1, a2, a3, a4, a5⟩, fun v H2 hy => ?_⟩
    obtain ⟨Hs2, g2, hv⟩ := (o1 _ e0).2 v H2 hy
    obtain ⟨r2, T⟩ := hturn xs[i] (List.getElem_mem hi)
    have A2 : Asn X.K Hs0 H0 (wipeR r (own.map (·.2))) (L2.wipe σ (own.map (·.2))) Hs2 H2 := (A.grow ((g1.trans gg).trans g2)).wipe _
    have some_ : ∀ x ∈ D :: ls, ∃ o, H1 x = some o := fun x hx => by
      rcases List.mem_cons.mp hx with z | z
      · rw [z]; exact ⟨_, h1⟩
      · have : ∀ {ls : List Addr} {dss : List (List PyData)}, LLs Hs1 H1 ls dss → x ∈ ls → ∃ o, H1 x = some o := by
          intro ls dss q
          induction q with
          | nil => intro m; cases m
          | cons a r ih =>
            intro m
            obtain ⟨vs, q1, _⟩ := a
            rcases List.mem_cons.mp m with w | w
            · rw [w]; exact ⟨_, q1⟩
            · exact ih w
        exact this h3 z
    refine ⟨_, _, r2, T, Hs0, H0, Hs2, A2, hv, fun σ3 k3 l3 A3 => ⟨?_, ?_⟩⟩
    · rw [wipe_eq l3 fun j hj => k3 j fun z => hj (hw j z), wipe_idem]
    · show if (true : Bool) = true then _ else _
      rw [if_pos rfl]
      intro q hq
      have nq : ∀ x ∈ D :: ls, x ≠ q := fun x hx z => by
        obtain ⟨o, ho⟩ := some_ x hx
        rw [z] at ho
        rw [g2.all _ _ ho] at hq
        cases hq
      have hD2 : H2 D = some (.lst (ls.map V.ref)) := g2.all _ _ h1
      refine ⟨ls.map V.ref, by rw [upd_ne (nq D List.mem_cons_self)]; exact hD2, by rw [List.length_map, hll]; omega, Hs2, ls ++ [q], ?_, ?_, fun x hx => ?_, ?_, ?_⟩
      · have G2 : Grw Hs' H' Hs2 H2 := gg.trans g2
        have hqH : H' q = none := G2.all.free hq
        have hqS : Hs2 q = none := g2.sub.free hq
        exact (G2.mut hqH hqS).mut hD (g2.stay (fr D List.mem_cons_self).2 h1)
      · rw [← List.cons_append]
        refine List.nodup_append.mpr ⟨nd, by simp, fun x hx y hy => ?_⟩
        rw [List.mem_singleton.mp hy]
        exact nq x hx
      · rw [← List.cons_append] at hx
        rcases List.mem_append.mp hx with z | z
        · obtain ⟨o, ho⟩ := some_ x z
          exact ⟨(fr x z).1, g2.stay (fr x z).2 ho⟩
        · rw [List.mem_singleton.mp z]
          exact ⟨(gg.trans g2).all.free hq, g2.sub.free hq⟩
      · rw [upd_same, List.map_append]
        rfl
      · rw [List.replicate_succ']
        refine LLs.snoc (vs := []) (LLs.chg g2.st (fun x hx o ho => ?_) h3) ?_ .nil
        · have nd' := (List.nodup_cons.mp nd).1
          rw [upd_ne (show x ≠ D from fun z => nd' (by rw [← z]; exact hx)), upd_ne (nq x (List.mem_cons_of_mem _ hx))]
          exact g2.all _ _ ho
        · rw [upd_ne (fun z => nq D List.mem_cons_self z.symm), upd_same]
  · have e : i = xs.length := by omega
    subst e
    refine .inl ⟨o2 hlen, ?_⟩
    exact h D ls Hs1 H1 (g1.trans gg) nd (fun x hx => ⟨g1.all.free (fr x hx).1, (fr x hx).2⟩) h1 h3
variable {P : Post} {sts : List Stmt} {dss : List (List PyData)}
theorem pts_true : PTs X [] (fun _ H Q => Q true H) := pts_nil
/-- y = [[] for x in ..], y a local: new lists, all y's own -/
theorem ds_setLcE (i : Nat) {α : Type} {xs : List α} {rep : α → PyData} {y : Str} {py spos pe : Pos} {tg iter : Expr} {scope : Scope} (own : List (Str × Nat)) (ws : List Nat) (hc : X.calm = true) (hN : X.N.Nodup) (ok : BlkOk X.N X.env.scope scope own)
    (hi : DI X r tg iter (xs.map rep)) (hturn : ∀ x ∈ xs, ∃ r2, ∀ s H C cl fp, DG (Blk X scope s H C cl fp) tg ws (wipeR r (own.map (·.2))) (rep x) r2) (hp : P.nx (r.set i (.oo (List.replicate xs.length []))))
    (hsw : swapsWith (.ListComp (.List [] pe) [⟨tg, iter, [], 0⟩] scope pos) (some (.Name y py)) spos.line X.env = pure true) (hw : ∀ i ∈ ws, i ∈ own.map (·.2) := by decide) (hy : X.N[i]? = some y := by rfl) (hyl : X.env.scope.names.lookup y = some .local := by rfl)
    (hs : ∀ x, foldedSetIterable iter X.env x = pure x := by intro _; rfl) : DS X E r (.Assign [.Name y py] (.ListComp (.List [] pe) [⟨tg, iter, [], 0⟩] scope pos) spos) P :=
  PS.wk (ps_setLc (own := own) (spos := spos) (i := i) hc hN hy hyl hsw hi ok (fun s H C cl fp => ⟨fun pins s' σ H' v u Q I rv ⟨r1, d, r2, f, z⟩ => (f s H C cl fp).run pins s' σ H' v u Q I rv z⟩) (tt := fun _ H Q => Q true H) (fun s H C cl fp => ⟨fun pins s' σ H' Q I z => pts_nil.run pins s' σ H' Q I z⟩)
    (te := fun _ H Q => ∀ p, H p = none → Q (.ref p) (upd H p (.lst []))) (fun s H C cl fp => ⟨fun pins s' σ H' Q I z => (pe_lst pa_nil).run pins s' σ H' Q I ⟨Nat.zero_le _, z⟩⟩) hs) fun _ _ D σ H _ ⟨Hs0, H0, Hs, A, w⟩ =>
    lc_core_e hw hturn ⟨Hs0, H0, Hs, A, fun p ls Hs' H' g' nd fr h1 h2 => w.nx _ _ Hs' H' hp (A.setG g' (p :: ls) (fun x hx => ⟨(fr x hx).1, (fr x hx).2, by
      rcases List.mem_cons.mp hx with z | z
      · rw [z, h1]; simp
      · exact LLs.there h2 z⟩) ⟨p, ls, fun x hx => hx, nd, rfl, h1, h2⟩) g'.st⟩
theorem ref_inj : ∀ {xs ys : List Addr}, xs.map V.ref = ys.map V.ref → xs = ys
  | [], [], _ => rfl
  | [], _ :: _, h => by cases h
  | _ :: _, [], h => by cases h
  | x :: xs, y :: ys, h => by
    rw [List.map_cons, List.map_cons] at h
    injection h with h1 h2
    injection h1 with h1
    rw [h1, ref_inj h2]
theorem LLs.set {Hs H : Hp} {l : Addr} {vs : List V} {es : List PyData} (hd : Dats Hs vs es) : ∀ {ls : List Addr} {dss : List (List PyData)} {j : Nat}, LLs Hs H ls dss → ls.Nodup → ls[j]? = some l → LLs Hs (upd H l (.lst vs)) ls (dss.set j es)
  | _, _, _, .nil, _, e => by simp at e
  | x :: ls, ds :: dss, 0, .cons a r, nd, e => by
    simp at e
    subst e
    refine .cons ⟨vs, upd_same, hd⟩ (LLs.chg (Same.refl Hs) (fun y hy o q => ?_) r)
    rw [upd_ne fun z => (List.nodup_cons.mp nd).1 (by rw [← z]; exact hy)]
    exact q
  | x :: ls, ds :: dss, j + 1, .cons ⟨ws, h1, h2⟩ r, nd, e => by
    have e' : ls[j]? = some l := by simpa using e
    refine .cons ⟨ws, ?_, h2⟩ (LLs.set hd r (List.nodup_cons.mp nd).2 e')
    rw [upd_ne fun z => (List.nodup_cons.mp nd).1 (by rw [z]; exact List.mem_of_getElem? e')]
    exact h1
theorem LLs.get {Hs H : Hp} : ∀ {ls : List Addr} {dss : List (List PyData)} {j : Nat} {ds : List PyData}, LLs Hs H ls dss → dss[j]? = some ds → ∃ l vs, ls[j]? = some l ∧ H l = some (.lst vs) ∧ Dats Hs vs ds
  | _, _, _, _, .nil, e => by simp at e
  | x :: ls, _, 0, _, .cons ⟨vs, h1, h2⟩ r, e => by
    simp at e
    subst e
    exact ⟨x, vs, rfl, h1, h2⟩
  | x :: ls, _, j + 1, _, .cons _ r, e => by
    obtain ⟨l, vs, q1, q2, q3⟩ := LLs.get (j := j) r (by simpa using e)
    exact ⟨l, vs, by simpa using q1, q2, q3⟩
theorem Asn.mutOO {K : PySem.W.Frag} {Hs0 H0 : Hp} {σ : L2.St} {Hs H : Hp} {i j : Nat} {a l : Addr} {ls : List Addr} {vs : List V} {es : List PyData} (A : Asn K Hs0 H0 r σ Hs H) (hr : r[i]? = some (.oo dss)) (e1 : σ[i]? = some (some (.ref a))) (ha : H a = some (.lst (ls.map V.ref)))
    (hj : ls[j]? = some l) (hv : Dats Hs vs es) : Asn K Hs0 H0 (r.set i (.oo (dss.set j es))) σ Hs (upd H l (.lst vs)) := by
  obtain ⟨F, f⟩ := A.fr
  obtain ⟨a', ls', m, nd, q, h2, h3⟩ := f.at_ i _ hr
  rw [e1] at q
  injection q with q; injection q with q; injection q with q
  subst q
  rw [ha] at h2
  injection h2 with h2; injection h2 with h2
  obtain rfl := ref_inj h2
  have ml : l ∈ F i := m l (List.mem_cons_of_mem _ (List.mem_of_getElem? hj))
  obtain ⟨g0, g1, _⟩ := f.own i l ml
  refine ⟨A.g.mut g0 g1, ⟨_, f.put (σ' := σ) i (.oo (dss.set j es)) (F i) (fun _ _ => rfl) (Same.refl Hs) (fun k hk x mx => ⟨fun o q => ?_, (f.own k x mx).2.1⟩) (fun _ => ⟨a, ls, m, nd, e1, ?_, h3.set hv (List.nodup_cons.mp nd).2 hj⟩) (fun x mx => ?_) (fun k hk x mx mk => hk (f.dist k i x mk mx))⟩, by rw [List.length_set, A.len]⟩
  · rw [upd_ne (show x ≠ l from fun z => hk (f.dist k i l (by rw [← z]; exact mx) ml))]
    exact q
  · rw [upd_ne (show a ≠ l from fun z => (List.nodup_cons.mp nd).1 (by rw [z]; exact List.mem_of_getElem? hj))]
    exact ha
  · obtain ⟨q0, q1, q2⟩ := f.own i x mx
    refine ⟨q0, q1, ?_⟩
    by_cases z : x = l
    · rw [z, upd_same]; simp
    · rw [upd_ne z]; exact q2
theorem ds_appendOO (i : Nat) {x : Str} {px ps pa cpos : Pos} {k : Int} {j : Nat} (hr : r[i]? = some (.oo dss)) (hb : DE X r b (.int k)) (hk : ixN dss.length k = some j) (hj : dss[j]? = some ds) (he : DE X r e d) (hz : ds.length < sizeLine) (hp : P.nx (r.set i (.oo (dss.set j (ds ++ [d])))))
    (hsx : PlainIx b := by intro _ _; rfl) (hN : X.N[i]? = some x := by rfl) (hv : Vis X.env.scope x := by first | exact Or.inl rfl | exact Or.inr (Or.inl rfl) | exact Or.inr (Or.inr rfl))
    (hd : (x == ("__debug__" : Str)) = false := by decide) (hcd : (x == ("__classdict__" : Str)) = false := by decide)
    (hs : swapsWith (.Call (.Attribute (.Subscript (.Name x px) b ps) "append" pa) [e] [] cpos) none pos.line X.env = pure false := by rfl) (hes : starEach [e] X.env = (false, eval e X.env) :: starEach [] X.env := by rfl)
    (hpe : ∀ {to t}, PE X (.Subscript (.Name x px) b ps) to → PA X [e] t → PE X (.Call (.Attribute (.Subscript (.Name x px) b ps) "append" pa) [e] [] cpos) (tBM X.K "list" rAppend to t) := by
      intro to t h1 h2; exact pe_bm PySem.F.plainAttrs_list PySem.F.slot_list_append PySem.F.type_list_append mt_append h1 h2) :
    DS X E r (.Expr (.Call (.Attribute (.Subscript (.Name x px) b ps) "append" pa) [e] [] cpos) pos) P :=
  PS.wk (ps_expr (hpe (pe_ix ix_list (pe_var (i := i) hN hv hd hcd) hb hsx) (da_cons he.arg da_nil hes)) hs) fun _ _ D σ H _ ⟨Hs0, H0, Hs, A, w⟩ => by
    obtain ⟨p, ls, nd, e1, fr, h2, h3⟩ := A.at_ i _ hr
    refine ⟨_, e1, Hs0, H0, Hs, A, fun u Hs1 H1 g1 hu => ?_⟩
    obtain ⟨l, vs, q1, q2, q3⟩ := h3.get hj
    have hll : ls.length = dss.length := Paired.length h3
    refine ⟨p, ls.map V.ref, k, .ref l, rfl, hu.inv_int, SqL.of (g1.all _ _ h2), ?_, ?_⟩
    · unfold atI
      rw [List.length_map, hll, hk]
      show (ls.map V.ref)[j]? = _
      rw [List.getElem?_map, q1]
      rfl
    · refine ⟨.inl ⟨rfl, vs, SqL.of (g1.all _ _ q2)⟩, Hs0, H0, Hs1, A.grow g1, fun us Hs2 H2 g2 ha => ?_⟩
      cases ha with
      | cons hu2 t =>
        cases t
        have g := g1.trans g2
        exact ⟨l, vs, _, rfl, rfl, g.all _ _ q2, by rw [q3.length]; exact hz, w.nx _ _ Hs2 _ hp ((A.grow g).mutOO hr e1 (g.all _ _ h2) q1 ((q3.mono g.st).snoc hu2)) g.st⟩
/-- the lists stay as they are from now on -/
theorem LLs.dats {Hs Hs' H : Hp} (e : Same Hs Hs') : ∀ {ls : List Addr} {dss : List (List PyData)}, (∀ x ∈ ls, Hs' x = H x) → LLs Hs H ls dss → Dats Hs' (ls.map V.ref) (dss.map .list)
  | _, _, _, .nil => .nil
  | _, _, k, .cons ⟨vs, h1, h2⟩ r => .cons (.lst ((k _ List.mem_cons_self).trans h1) (h2.mono e)) (LLs.dats e (fun x hx => k x (List.mem_cons_of_mem _ hx)) r)
theorem Asn.freezeOO {K : PySem.W.Frag} {Hs0 H0 : Hp} {σ : L2.St} {Hs H : Hp} {i : Nat} (A : Asn K Hs0 H0 r σ Hs H) (hr : r[i]? = some (.oo dss)) : ∃ Hs', Asn K Hs0 H0 (r.set i (.val (.list (dss.map .list)))) σ Hs' H ∧ Same Hs Hs' := by
  obtain ⟨F, f⟩ := A.fr
  obtain ⟨a, ls, m, nd, e1, h2, h3⟩ := f.at_ i _ hr
  have hS : Same Hs fun x => if x ∈ a :: ls then H x else Hs x := fun x o q => by
    show (if x ∈ a :: ls then H x else Hs x) = _
    by_cases z : x ∈ a :: ls
    · rw [(f.own i x (m x z)).2.1] at q; cases q
    · rw [if_neg z]; exact q
  have hin : ∀ x ∈ a :: ls, (if x ∈ a :: ls then H x else Hs x) = H x := fun x hx => if_pos hx
  refine ⟨fun x => if x ∈ a :: ls then H x else Hs x, ⟨⟨A.g.all, A.g.st.trans hS, fun x o q => ?_, fun x q => ?_, fun x ps q => ?_⟩, ⟨_, f.put (σ' := σ) i _ [] (fun _ _ => rfl) hS (fun j hj x mx => ⟨fun _ q => q, ?_⟩) (fun _ => ⟨_, e1, .lst ((hin a List.mem_cons_self).trans h2) (h3.dats hS fun x hx => hin x (List.mem_cons_of_mem _ hx))⟩) (fun x mx => by cases mx) (fun _ _ x mx => by cases mx)⟩, by rw [List.length_set, A.len]⟩, hS⟩
  · have q : (if x ∈ a :: ls then H x else Hs x) = some o := q
    by_cases z : x ∈ a :: ls
    · rw [if_pos z] at q; exact q
    · rw [if_neg z] at q; exact A.g.sub _ _ q
  · have q : (if x ∈ a :: ls then H x else Hs x) ≠ none := q
    by_cases z : x ∈ a :: ls
    · exact .inr (f.own i x (m x z)).1
    · rw [if_neg z] at q; exact A.g.new x q
  · have q : (if x ∈ a :: ls then H x else Hs x) = some (.tbl ps) := q
    by_cases z : x ∈ a :: ls
    · rw [if_pos z] at q
      rcases List.mem_cons.mp z with z | z
      · rw [z, h2] at q; cases q
      · obtain ⟨vs, e⟩ := h3.lst x z
        rw [e] at q; cases q
    · rw [if_neg z] at q; exact A.g.nt x ps q
  · show (if x ∈ a :: ls then H x else Hs x) = none
    rw [if_neg fun z => hj (f.dist j i x mx (m x z))]
    exact (f.own j x mx).2.1
theorem dss_freezeOO (i : Nat) (hr : r[i]? = some (.oo dss)) (h : DSs X E (r.set i (.val (.list (dss.map .list)))) sts P) : DSs X E r sts P := PSs.wk h fun D σ H ⟨Hs0, H0, Hs, A, w⟩ => by
  obtain ⟨Hs', A', s⟩ := A.freezeOO hr
  exact ⟨Hs0, H0, Hs', A', w.st s⟩
end
end Dl

namespace Dl
open PySem L2 PySem.W PyProof.Rows
/-! ## sum of a tuple -/
theorem preSum_take (ns : List Int) : ∀ n : Nat, n ≤ ns.length → preSum (fun i => ns.getD i 0) n = (ns.take n).sum
  | 0, _ => by rw [List.take_zero]; rfl
  | n + 1, h => by
    have e : ns[n]? = some ns[n] := List.getElem?_eq_getElem (by omega)
    rw [take_snoc e, List.sum_append]
    show preSum _ n + ns.getD n 0 = _
    rw [preSum_take ns n (by omega), List.getD_eq_getElem?_getD, e]
    simp
section
variable {prog : Program} {w : World} {A : Around} {E : Value → Shared → Prop} {s : Shared} {l : Addr} {its : List Value} {ns : List Int} {Q : Value → Shared → Prop}
theorem sum_tup (hh : A.handled = none) (hl : s.heap.IsTuple l its.toArray) (hi : IntsAre its ns)
    (h : ∀ h' tk t', (∀ b o, s.heap.get? b = some o → h'.get? b = some o) → Q (.int ns.sum t') { s with heap := h', toks := tk }) : wpAny (model prog w) A (call (.builtin "sum") [.ref l]) Q E s := by
  have hlt : l < s.heap.objs.size := by
    obtain ⟨o, ho, _⟩ := hl
    exact Heap.lt_size ho
  refine call_sum_walkG (wpAny_pyIter_tuple hl ?_)
  refine ⟨_, [_, l], [_], _, _, _, fun i => ns.getD i 0, rfl, Walks.tuple (A := A.in1) (by simp [hh]) _ l (Nat.ne_of_lt hlt) its.toArray, ⟨⟨_, Heap.get?_push_size _ rfl, rfl, rfl⟩, hl.push _⟩, fun b hb => ?_, fun i v hv => ?_, fun h' tk t' hk => ?_⟩
  · have hz : ∀ o : Obj, (s.heap.push o).objs.size = s.heap.objs.size + 1 := fun o => Heap.size_push ..
    rw [hz]
    rcases List.mem_cons.mp hb with z | z
    · rw [z]; exact Nat.lt_succ_self _
    · rw [List.mem_singleton.mp z]; exact Nat.lt_succ_of_lt hlt
  · rw [List.getElem?_toArray] at hv
    exact IntsAre.int_at hi i v hv
  · have e : preSum (fun i => ns.getD i 0) its.toArray.size = ns.sum := by
      rw [List.size_toArray, IntsAre.length hi, preSum_take ns _ (Nat.le_refl _), List.take_length]
    rw [e]
    refine h h' tk t' fun b o q => hk b o (fun z => ?_) (Heap.get?_push_of_some _ q)
    have := Heap.lt_size q
    exact absurd (List.mem_singleton.mp z) (Nat.ne_of_lt this)
end
section
variable {X : Cx} {r : Rho} {e : Expr} {pos p : Pos} {ns : List Int}
theorem cr_sumT (hc : X.calm = true) : CallR X (.builtin "sum") (fun vs H Q => ∃ (a : Addr) (ns : List Int), vs = [V.ref a] ∧ SqT X.K H a (ns.map V.int) ∧ Q (.int ns.sum) H) := by
  intro pins s σ H vs us Q I r h
  obtain ⟨a, ns, rfl, hs, q⟩ := h
  obtain ⟨its, rv, hl, _⟩ := I.tuple hs
  rw [Vals.ref1 r]
  exact sum_tup (I.ok.hd hc) hl rv.ints fun h' tk t' hk => ⟨.int _, H, I.kept hk, ⟨_, rfl⟩, q⟩
theorem de_sumT (hc : X.calm = true) (hm : X.mg "sum" = none) (ha : DE X r e (.tuple (ns.map .int))) (hg : Gl X "sum" := by rfl)
    (he : starEach (e :: []) X.env = (false, eval e X.env) :: starEach [] X.env := by rfl) (hpl : (backTo pos (starEach [] X.env)).any (·.1) = false := by rfl) : DE X r (.Call (.Name "sum" p) [e] [] pos) (.int ns.sum) :=
  de_callB (ds := [.tuple (ns.map .int)]) (cr_sumT hc) (fun vs Hs H Q hv h q => by
    cases hv with
    | cons h1 t =>
      cases t
      obtain ⟨l, ws, rfl, hp, hw⟩ := h1.inv_tuple
      obtain rfl := hw.ints
      exact ⟨l, ns, rfl, SqT.rd (Rd.same h hp), q _ Hs H (Grw.refl h) (.int _)⟩) hg hm (by decide +kernel) (da_1 ha he) (by decide) (by decide) he hpl
end
end Dl

namespace Dl
open PySem L2 PySem.W PyProof.Rows
/-! ## natural numbers as data -/
def nI (n : Nat) : PyData := .int (n : Int)
def nT (ns : List Nat) : PyData := .tuple (ns.map nI)
def nX (ns : List Nat) : PyData := Dl.xt (ns.map nI)
def nL (ns : List Nat) : PyData := .list (ns.map nI)
theorem nI_map (ns : List Nat) : ns.map nI = (ns.map Int.ofNat).map PyData.int := by rw [List.map_map]; rfl
theorem eqRep_nI : EqRep nI := fun a b => by
  unfold nI
  rw [eqv_int]
  by_cases h : a = b
  · simp [h]
  · rw [decide_eq_false h, decide_eq_false (by omega)]
theorem eqRep_nT : EqRep nT := fun a b => eqv_tup eqRep_nI a b
theorem eqRep_nX : EqRep nX := fun a b => eqv_xt eqRep_nI a b
theorem eqRep_nL : EqRep nL := fun a b => eqv_lst eqRep_nI a b
theorem eqL_nI (a b : Nat) : eqL (nI a) (nI b) = decide (a = b) := eqRep_nI a b
theorem eqL_nT (a b : List Nat) : eqL (nT a) (nT b) = decide (a = b) := eqRep_nT a b
theorem lo_nI (n : Nat) : Dl.lo (nI n) = nI n := lo_int _
theorem lo_map_nI (ns : List Nat) : (ns.map nI).map Dl.lo = ns.map nI := by
  rw [List.map_map]
  exact List.map_congr_left fun x _ => lo_nI x
theorem lo_nT (ns : List Nat) : Dl.lo (nT ns) = nT ns := by unfold nT; rw [lo_tuple, lo_map_nI]
theorem lo_nX (ns : List Nat) : Dl.lo (nX ns) = nT ns := by unfold nX nT; rw [lo_xt, lo_map_nI]
theorem dep_nI (n : Nat) : depL (nI n) = 0 := dep_int _
theorem dep_nT (ns : List Nat) : depL (nT ns) ≤ 1 := dep_tup (n := 0) (dep_map fun x _ => Nat.le_of_eq (dep_nI x))
theorem dep_nX (ns : List Nat) : depL (nX ns) ≤ 1 := dep_xt (n := 0) (dep_map fun x _ => Nat.le_of_eq (dep_nI x))
theorem dep_nL (ns : List Nat) : depL (nL ns) ≤ 1 := dep_lst (n := 0) (dep_map fun x _ => Nat.le_of_eq (dep_nI x))
theorem dep_nTT (ns : List (List Nat)) : depL (.tuple (ns.map nT)) ≤ 2 := dep_tup (n := 1) (dep_map fun x _ => dep_nT x)
theorem dep_nLT (ns : List (List Nat)) : depL (.list (ns.map nT)) ≤ 2 := dep_lst (n := 1) (dep_map fun x _ => dep_nT x)
theorem rangeD_nI (n : Nat) : rangeD 0 n = (List.range n).map nI := by
  unfold rangeD
  refine List.map_congr_left fun i _ => ?_
  show PyData.int (0 + (i : Int)) = PyData.int (i : Int)
  rw [Int.zero_add]
theorem rangeD_nIz (n : Nat) : rangeD 0 ((n : Int)).toNat = (List.range n).map nI := by rw [Int.toNat_natCast, rangeD_nI]
/-! ### sorting -/
def insN (x : Nat) : List Nat → List Nat
  | [] => [x]
  | y :: ys => if x ≤ y then x :: y :: ys else y :: insN x ys
def isort : List Nat → List Nat
  | [] => []
  | x :: xs => insN x (isort xs)
theorem insN_perm (x : Nat) : ∀ l : List Nat, (insN x l).Perm (x :: l)
  | [] => List.Perm.refl _
  | y :: ys => by
    unfold insN
    split
    · exact List.Perm.refl _
    · exact ((insN_perm x ys).cons y).trans (List.Perm.swap x y ys)
theorem isort_perm : ∀ l : List Nat, (isort l).Perm l
  | [] => List.Perm.refl _
  | x :: xs => (insN_perm x (isort xs)).trans ((isort_perm xs).cons x)
theorem insN_pw (x : Nat) : ∀ l : List Nat, l.Pairwise (· ≤ ·) → (insN x l).Pairwise (· ≤ ·)
  | [], _ => by unfold insN; exact List.pairwise_singleton _ _
  | y :: ys, h => by
    obtain ⟨h1, h2⟩ := List.pairwise_cons.mp h
    unfold insN
    split
    · next hx =>
      refine List.pairwise_cons.mpr ⟨fun z hz => ?_, h⟩
      rcases List.mem_cons.mp hz with q | q
      · omega
      · have := h1 z q; omega
    · next hx =>
      refine List.pairwise_cons.mpr ⟨fun z hz => ?_, insN_pw x ys h2⟩
      rcases List.mem_cons.mp ((insN_perm x ys).mem_iff.mp hz) with q | q
      · omega
      · exact h1 z q
theorem isort_pw : ∀ l : List Nat, (isort l).Pairwise (· ≤ ·)
  | [] => List.Pairwise.nil
  | x :: xs => insN_pw x _ (isort_pw xs)
theorem isort_len (l : List Nat) : (isort l).length = l.length := (isort_perm l).length_eq
theorem isort_mem {l : List Nat} {x : Nat} : x ∈ isort l ↔ x ∈ l := (isort_perm l).mem_iff
theorem sorted_unique {l m : List Nat} (p : l.Perm m) (hl : l.Pairwise (· ≤ ·)) (hm : m.Pairwise (· ≤ ·)) : l = m :=
  p.eq_of_pairwise (fun a b _ _ h1 h2 => Nat.le_antisymm h1 h2) hl hm
theorem isort_congr {l m : List Nat} (p : l.Perm m) : isort l = isort m := sorted_unique (((isort_perm l).trans p).trans (isort_perm m).symm) (isort_pw l) (isort_pw m)
theorem isort_self {l : List Nat} (h : l.Pairwise (· ≤ ·)) : isort l = l := sorted_unique (isort_perm l) (isort_pw l) h
theorem sortI_nat (ns : List Nat) : sortI (ns.map Int.ofNat) = (isort ns).map Int.ofNat := by
  unfold sortI
  have p : ((ns.map Int.ofNat).mergeSort fun a b => decide (a ≤ b)).Perm ((isort ns).map Int.ofNat) := (List.mergeSort_perm _ _).trans ((isort_perm ns).map _).symm
  refine p.eq_of_pairwise (le := fun a b : Int => a ≤ b) (fun a b _ _ h1 h2 => by omega) ?_ ?_
  · have := List.pairwise_mergeSort (le := fun a b : Int => decide (a ≤ b)) (fun a b c h1 h2 => by simp at *; omega) (fun a b => by simp; omega) (ns.map Int.ofNat)
    exact this.imp fun h => by simpa using h
  · rw [List.pairwise_map]
    exact (isort_pw ns).imp fun h => by simpa using h
section
variable {X : Cx} {r : Rho} {e a b c : Expr} {pos p p2 pos2 : Pos} {ns : List Nat} {d : PyData} {P : Post} {E : XK}
theorem dn_sortN (hu : X.A.units + 64 < cLine) (hm : X.mg "sorted" = none) (ha : DE X r e d) (hs : seqOf d = some (ns.map nI)) (hg : Gl X "sorted" := by rfl)
    (he : starEach (e :: []) X.env = (false, eval e X.env) :: starEach [] X.env := by rfl) (hpl : (backTo pos (starEach [] X.env)).any (·.1) = false := by rfl) : DN X r (.Call (.Name "sorted" p) [e] [] pos) ((isort ns).map nI) :=
  (dn_sortI hu hm ha (hs.trans (by rw [nI_map])) hg he hpl).is (by rw [sortI_nat, nI_map])
theorem di_rangeN {tg : Expr} {n : Nat} (hg : Gl X "range") (hm : X.mg "range" = none) (h : DE X r a (nI n)) (h2 : n ≤ 1000000) (hs : starEach [a] X.env = [(false, eval a X.env)] := by rfl)
    (hs' : starEach (a :: []) X.env = (false, eval a X.env) :: starEach [] X.env := by rfl) : DI X r tg (.Call (.Name "range" p) [a] [] pos) ((List.range n).map nI) :=
  (di_range1 hg hm h (by omega) (by omega) hs hs').is (rangeD_nIz n)
theorem dn_listRangeN {n : Nat} (hc : X.calm = true) (hl : X.mg "list" = none) (hm : X.mg "range" = none) (h : DE X r a (nI n)) (h1 : n ≤ 1000000) (hg : Gl X "range" := by rfl) (hg2 : Gl X "list" := by rfl) (na : starEach [a] X.env = (false, eval a X.env) :: starEach [] X.env := by rfl)
    (nb : starEach [.Call (.Name "range" p) [a] [] pos] X.env = (false, eval (.Call (.Name "range" p) [a] [] pos) X.env) :: starEach [] X.env := by rfl) : DN X r (.Call (.Name "list" p2) [.Call (.Name "range" p) [a] [] pos] [] pos2) ((List.range n).map nI) :=
  (dn_listRange hc hl hm h (by omega) (by omega) hg hg2 na nb).is (rangeD_nIz n)
theorem de_tupRangeN {n : Nat} (hc : X.calm = true) (hl : X.mg "tuple" = none) (hm : X.mg "range" = none) (h : DE X r a (nI n)) (h1 : n ≤ 1000000) (hg : Gl X "range" := by rfl) (hg2 : Gl X "tuple" := by rfl) (na : starEach [a] X.env = (false, eval a X.env) :: starEach [] X.env := by rfl)
    (nb : starEach [.Call (.Name "range" p) [a] [] pos] X.env = (false, eval (.Call (.Name "range" p) [a] [] pos) X.env) :: starEach [] X.env := by rfl) : DE X r (.Call (.Name "tuple" p2) [.Call (.Name "range" p) [a] [] pos] [] pos2) (nX (List.range n)) :=
  (de_tupRangeX hc hl hm h (by omega) (by omega) hg hg2 na nb).is (by rw [rangeD_nIz]; rfl)
theorem idxOf_ofNat (ns : List Nat) (k : Nat) : (ns.map Int.ofNat).idxOf (Int.ofNat k) = ns.idxOf k := by
  induction ns with
  | nil => rfl
  | cons n ns ih =>
    rw [List.map_cons, List.idxOf_cons, List.idxOf_cons, ih]
    by_cases h : n = k
    · subst h; simp
    · have : (Int.ofNat n == Int.ofNat k) = false := by simp; omega
      rw [this]
      have : (n == k) = false := by simp [h]
      rw [this]
theorem de_indexN {pa cpos : Pos} {k : Nat} (ha : DE X r a (nX ns)) (hb : DE X r e (nI k)) (hk : k ∈ ns) (hes : starEach [e] X.env = (false, eval e X.env) :: starEach [] X.env := by rfl)
    (hpe : ∀ {rr : V → List V → Hp → VK → Prop} {to t}, MtR X "tuple.index" rr → PE X a to → PA X [e] t → PE X (.Call (.Attribute a "index" pa) [e] [] cpos) (tBX rr to t) := by
      intro rr to t h0 h1 h2; exact pe_bx PySem.F.slot_tuple_index PySem.F.type_tuple_index h0 h1 h2) : DE X r (.Call (.Attribute a "index" pa) [e] [] cpos) (nI (ns.idxOf k)) :=
  (de_indexX (ns := ns.map Int.ofNat) (k := Int.ofNat k) (ha.is (by unfold nX; rw [nI_map])) hb (List.mem_map_of_mem hk) hes hpe).is (by rw [idxOf_ofNat]; rfl)
theorem sum_ofNat (ns : List Nat) : (ns.map Int.ofNat).sum = ((ns.sum : Nat) : Int) := by
  induction ns with
  | nil => rfl
  | cons n ns ih =>
    rw [List.map_cons, List.sum_cons, List.sum_cons, ih]
    show (n : Int) + _ = _
    omega
theorem de_sumLN (hc : X.calm = true) (hm : X.mg "sum" = none) (ha : DE X r e (nL ns)) (hg : Gl X "sum" := by rfl)
    (he : starEach (e :: []) X.env = (false, eval e X.env) :: starEach [] X.env := by rfl) (hpl : (backTo pos (starEach [] X.env)).any (·.1) = false := by rfl) : DE X r (.Call (.Name "sum" p) [e] [] pos) (nI ns.sum) :=
  (de_sumL hc hm (ns := ns.map Int.ofNat) (ha.is (by unfold nL; rw [nI_map])) hg he hpl).is (by rw [sum_ofNat]; rfl)
theorem de_sumTN (hc : X.calm = true) (hm : X.mg "sum" = none) (ha : DE X r e (nT ns)) (hg : Gl X "sum" := by rfl)
    (he : starEach (e :: []) X.env = (false, eval e X.env) :: starEach [] X.env := by rfl) (hpl : (backTo pos (starEach [] X.env)).any (·.1) = false := by rfl) : DE X r (.Call (.Name "sum" p) [e] [] pos) (nI ns.sum) :=
  (de_sumT hc hm (ns := ns.map Int.ofNat) (ha.is (by unfold nT; rw [nI_map])) hg he hpl).is (by rw [sum_ofNat]; rfl)
variable {i j : Nat}
theorem de_nat {k : Int} {n : Nat} (h : DE X r e (.int k)) (q : k = (n : Int)) : DE X r e (nI n) := h.is (by rw [q]; rfl)
theorem de_addN (ha : DE X r a (nI i)) (hb : DE X r b (nI j)) : DE X r (.BinOp a .Add b pos) (nI (i + j)) := de_nat (de_add ha hb) (by omega)
theorem de_subN (ha : DE X r a (nI i)) (hb : DE X r b (nI j)) (h : j ≤ i) : DE X r (.BinOp a .Sub b pos) (nI (i - j)) := de_nat (de_sub ha hb) (by omega)
theorem de_mulN (ha : DE X r a (nI i)) (hb : DE X r b (nI j)) (h : i < 2 ^ 64) : DE X r (.BinOp a .Mult b pos) (nI (i * j)) := de_nat (de_mul (.inl ⟨by omega, by omega⟩) ha hb) (by rw [Int.natCast_mul])
theorem de_fdivN (ha : DE X r a (nI i)) (hb : DE X r b (nI j)) (h : 0 < j) (h' : j < 1073741824) : DE X r (.BinOp a .FloorDiv b pos) (nI (i / j)) := de_nat (de_fdiv ⟨by omega, by omega⟩ ha hb) (by rw [Int.natCast_ediv])
theorem de_modN (ha : DE X r a (nI i)) (hb : DE X r b (nI j)) (h : 0 < j) : DE X r (.BinOp a .Mod b pos) (nI (i % j)) := de_nat (de_mod (by omega) ha hb) (by rw [Int.natCast_emod])
theorem dt_eqN (hu : X.A.units + 64 < cLine) (ha : DE X r a (nI i)) (hb : DE X r b (nI j)) : DT X r (.Compare a [.Eq] [b] pos) (decide (i = j)) := (dt_eqP hu (by rw [dep_nI]; omega) ha hb).is (eqL_nI i j)
theorem dt_neN (hu : X.A.units + 64 < cLine) (ha : DE X r a (nI i)) (hb : DE X r b (nI j)) : DT X r (.Compare a [.NotEq] [b] pos) (!decide (i = j)) := (dt_neP hu (by rw [dep_nI]; omega) ha hb).is (by rw [eqL_nI])
theorem de_eqN (hu : X.A.units + 64 < cLine) (ha : DE X r a (nI i)) (hb : DE X r b (nI j)) : DE X r (.Compare a [.Eq] [b] pos) (.bool (decide (i = j))) := (de_eqP hu (by rw [dep_nI]; omega) ha hb).is (by rw [eqL_nI])
theorem dt_ltN (ha : DE X r a (nI i)) (hb : DE X r b (nI j)) : DT X r (.Compare a [.Lt] [b] pos) (decide (i < j)) := (dt_lt ha hb).is (decide_eq_decide.mpr (by omega))
theorem dt_leN (ha : DE X r a (nI i)) (hb : DE X r b (nI j)) : DT X r (.Compare a [.LtE] [b] pos) (decide (i ≤ j)) := (dt_le ha hb).is (decide_eq_decide.mpr (by omega))
theorem dt_gtN (ha : DE X r a (nI i)) (hb : DE X r b (nI j)) : DT X r (.Compare a [.Gt] [b] pos) (decide (j < i)) := (dt_gt ha hb).is (decide_eq_decide.mpr (by omega))
theorem dt_geN (ha : DE X r a (nI i)) (hb : DE X r b (nI j)) : DT X r (.Compare a [.GtE] [b] pos) (decide (j ≤ i)) := (dt_ge ha hb).is (decide_eq_decide.mpr (by omega))
theorem ixN_nat {n k : Nat} (h : k < n) : ixN n (k : Int) = some k := by
  unfold ixN
  rw [if_pos (by omega), if_pos (by omega), Int.toNat_natCast]
theorem atI_nI {α : Type} {xs : List α} {k : Nat} {x : α} (h : xs[k]? = some x) : atI xs (k : Int) = some x := atI_nat h
theorem dt_inN {k : Nat} (hu : X.A.units + 64 < cLine) (ha : DE X r a (nI k)) (hb : DE X r b d) (hs : seqOf d = some (ns.map nI)) (hm : behindInMarks .In b = false := by rfl) : DT X r (.Compare a [.In] [b] pos) (decide (k ∈ ns)) :=
  (dt_in hu ha hb hs (by rw [dep_nI]; omega) hm).is (by rw [any_map_eqv eqRep_nI, any_mem])
theorem dt_niN {k : Nat} (hu : X.A.units + 64 < cLine) (ha : DE X r a (nI k)) (hb : DE X r b d) (hs : seqOf d = some (ns.map nI)) (hm : behindInMarks .NotIn b = false := by rfl) : DT X r (.Compare a [.NotIn] [b] pos) (!decide (k ∈ ns)) :=
  (dt_ni hu ha hb hs (by rw [dep_nI]; omega) hm).is (by rw [any_map_eqv eqRep_nI, any_mem])
theorem de_inN {k : Nat} (hu : X.A.units + 64 < cLine) (ha : DE X r a (nI k)) (hb : DE X r b d) (hs : seqOf d = some (ns.map nI)) (hm : behindInMarks .In b = false := by rfl) : DE X r (.Compare a [.In] [b] pos) (.bool (decide (k ∈ ns))) :=
  (de_in hu ha hb hs (by rw [dep_nI]; omega) hm).is (by rw [any_map_eqv eqRep_nI, any_mem])
theorem de_niN {k : Nat} (hu : X.A.units + 64 < cLine) (ha : DE X r a (nI k)) (hb : DE X r b d) (hs : seqOf d = some (ns.map nI)) (hm : behindInMarks .NotIn b = false := by rfl) : DE X r (.Compare a [.NotIn] [b] pos) (.bool (!decide (k ∈ ns))) :=
  (de_ni hu ha hb hs (by rw [dep_nI]; omega) hm).is (by rw [any_map_eqv eqRep_nI, any_mem])
/-- if .. : return False, where the test is false -/
theorem dss_no {as rest : List Stmt} {k : Bool} (h : DT X r c k) (hk : k = false) (h' : DSs X E r rest P) : DSs X E r (.If c as [] pos :: rest) P := dss_cons (ds_if h (fun z => by rw [hk] at z; cases z) (fun _ => dss_nil rfl)) h'
theorem dt_ne0 {d1 d2 : PyData} (hu : X.A.units + 64 < cLine) (hd : min (depL d1) (depL d2) ≤ 60) (ha : DE X r a d1) (hb : DE X r b d2) (h : eqL d1 d2 = true) : DT X r (.Compare a [.NotEq] [b] pos) false := (dt_neP hu hd ha hb).is (by rw [h]; rfl)
theorem de_eq1 {d1 d2 : PyData} (hu : X.A.units + 64 < cLine) (hd : min (depL d1) (depL d2) ≤ 60) (ha : DE X r a d1) (hb : DE X r b d2) (h : eqL d1 d2 = true) : DE X r (.Compare a [.Eq] [b] pos) (.bool true) := (de_eqP hu hd ha hb).is (by rw [h])
theorem dt_eq1 {d1 d2 : PyData} (hu : X.A.units + 64 < cLine) (hd : min (depL d1) (depL d2) ≤ 60) (ha : DE X r a d1) (hb : DE X r b d2) (h : eqL d1 d2 = true) : DT X r (.Compare a [.Eq] [b] pos) true := (dt_eqP hu hd ha hb).is h
theorem eqRep_self {α : Type} [DecidableEq α] {f : α → PyData} (h : EqRep f) {x y : α} (e : x = y) : eqL (f x) (f y) = true := by rw [h]; exact decide_eq_true e
theorem eqRep_TT : EqRep fun hs : List (List Nat) => PyData.tuple (hs.map nT) := eqRep_tup eqRep_nT
theorem eqRep_LT : EqRep fun hs : List (List Nat) => PyData.list (hs.map nT) := eqRep_lst eqRep_nT
theorem eqRep_LL : EqRep fun hs : List (List Nat) => PyData.list (hs.map nL) := eqRep_lst eqRep_nL
theorem minl {m n : Nat} (h : m ≤ 2) : min m n ≤ 60 := by omega
theorem minr {m n : Nat} (h : n ≤ 2) : min m n ≤ 60 := by omega
theorem range_at {n i : Nat} {d : PyData} (hd : ((List.range n).map nI)[i]? = some d) : i < n ∧ d = nI i := by
  obtain ⟨j, hj, rfl⟩ := map_at hd
  obtain ⟨hj1, hj2⟩ := List.getElem?_eq_some_iff.mp hj
  rw [List.length_range] at hj1
  rw [List.getElem_range] at hj2
  exact ⟨hj1, by rw [hj2]⟩
/-! ### slices -/
theorem cutD_take (ds : List PyData) (k : Nat) : cutD ds none (some (k : Int)) = ds.take k := by
  unfold cutD
  rw [HT.sIx_none, HT.sIx_nat, List.drop_zero, Nat.sub_zero]
  by_cases h : k ≤ ds.length
  · rw [Nat.min_eq_left h]
  · rw [Nat.min_eq_right (by omega), List.take_of_length_le (Nat.le_refl _), List.take_of_length_le (by omega)]
theorem cutD_drop (ds : List PyData) (k : Nat) : cutD ds (some (k : Int)) none = ds.drop k := by
  unfold cutD
  rw [HT.sIx_none, HT.sIx_nat]
  by_cases h : k ≤ ds.length
  · rw [Nat.min_eq_left h, List.take_of_length_le (by rw [List.length_drop]; omega)]
  · rw [Nat.min_eq_right (by omega), List.drop_of_length_le (Nat.le_refl _), List.drop_of_length_le (by omega), List.take_nil]
end
end Dl

namespace Dl
open PySem L2 PySem.W PyProof.Rows
/-! ## min and max of lists of natural numbers -/
def maxN : List Nat → Nat
  | [] => 0
  | n :: ns => max n (maxN ns)
def minN : List Nat → Nat
  | [] => 0
  | [n] => n
  | n :: m :: ns => min n (minN (m :: ns))
theorem maxN_ge : ∀ {ns : List Nat} {x : Nat}, x ∈ ns → x ≤ maxN ns
  | n :: ns, x, h => by
    unfold maxN
    rcases List.mem_cons.mp h with q | q
    · subst q; omega
    · have := maxN_ge q; omega
theorem maxN_mem : ∀ {ns : List Nat}, ns ≠ [] → maxN ns ∈ ns
  | [], h => absurd rfl h
  | [n], _ => by unfold maxN maxN; simp
  | n :: m :: ns, _ => by
    have ih := maxN_mem (ns := m :: ns) (by simp)
    unfold maxN
    by_cases h : maxN (m :: ns) ≤ n
    · rw [Nat.max_eq_left h]; exact List.mem_cons_self
    · rw [Nat.max_eq_right (by omega)]; exact List.mem_cons_of_mem _ ih
theorem minN_le : ∀ {ns : List Nat} {x : Nat}, x ∈ ns → minN ns ≤ x
  | [n], x, h => by rw [List.mem_singleton.mp h]; exact Nat.le_refl _
  | n :: m :: ns, x, h => by
    unfold minN
    rcases List.mem_cons.mp h with q | q
    · subst q; omega
    · have := minN_le q; omega
theorem minN_mem : ∀ {ns : List Nat}, ns ≠ [] → minN ns ∈ ns
  | [], h => absurd rfl h
  | [n], _ => by unfold minN; simp
  | n :: m :: ns, _ => by
    have ih := minN_mem (ns := m :: ns) (by simp)
    unfold minN
    by_cases h : n ≤ minN (m :: ns)
    · rw [Nat.min_eq_left h]; exact List.mem_cons_self
    · rw [Nat.min_eq_right (by omega)]; exact List.mem_cons_of_mem _ ih
section
variable {X : Cx} {r : Rho} {e a b c : Expr} {pos p : Pos} {ns : List Nat}
theorem de_maxL (hc : X.calm = true) (hm : X.mg "max" = none) (ha : DE X r e (nL ns)) (hn : ns ≠ []) (hg : Gl X "max" := by rfl)
    (he : starEach (e :: []) X.env = (false, eval e X.env) :: starEach [] X.env := by rfl) (hpl : (backTo pos (starEach [] X.env)).any (·.1) = false := by rfl) : DE X r (.Call (.Name "max" p) [e] [] pos) (nI (maxN ns)) :=
  de_callB (ds := [nL ns]) (cr_max hc) (fun vs Hs H Q hv h q => by
    cases hv with
    | cons h1 t =>
      cases t
      obtain ⟨l, ws, rfl, hp, hw⟩ := h1.inv_list
      rw [nI_map] at hw
      obtain rfl := hw.ints
      refine ⟨l, _, rfl, SqL.of (h _ _ hp), by rw [List.length_map]; exact List.length_pos_iff.mpr hn, fun m h1 h2 => ?_⟩
      obtain ⟨k, hk, rfl⟩ := List.mem_map.mp h1
      have e1 := maxN_ge hk
      have e2 := h2 _ (List.mem_map_of_mem (maxN_mem hn))
      have e3 : k = maxN ns := by have : (Int.ofNat (maxN ns)) ≤ Int.ofNat k := e2; simp at this; omega
      rw [e3]
      exact q _ Hs H (Grw.refl h) (.int _)) hg hm (by decide +kernel) (da_1 ha he) (by decide) (by decide) he hpl
theorem de_minL (hc : X.calm = true) (hm : X.mg "min" = none) (ha : DE X r e (nL ns)) (hn : ns ≠ []) (hg : Gl X "min" := by rfl)
    (he : starEach (e :: []) X.env = (false, eval e X.env) :: starEach [] X.env := by rfl) (hpl : (backTo pos (starEach [] X.env)).any (·.1) = false := by rfl) : DE X r (.Call (.Name "min" p) [e] [] pos) (nI (minN ns)) :=
  de_callB (ds := [nL ns]) (cr_min hc) (fun vs Hs H Q hv h q => by
    cases hv with
    | cons h1 t =>
      cases t
      obtain ⟨l, ws, rfl, hp, hw⟩ := h1.inv_list
      rw [nI_map] at hw
      obtain rfl := hw.ints
      refine ⟨l, _, rfl, SqL.of (h _ _ hp), by rw [List.length_map]; exact List.length_pos_iff.mpr hn, fun m h1 h2 => ?_⟩
      obtain ⟨k, hk, rfl⟩ := List.mem_map.mp h1
      have e1 := minN_le hk
      have e2 := h2 _ (List.mem_map_of_mem (minN_mem hn))
      have e3 : k = minN ns := by have : Int.ofNat k ≤ Int.ofNat (minN ns) := e2; simp at this; omega
      rw [e3]
      exact q _ Hs H (Grw.refl h) (.int _)) hg hm (by decide +kernel) (da_1 ha he) (by decide) (by decide) he hpl
/-- sum of a list of data that is natural numbers, min of two -/
theorem de_min2N {i j : Nat} (hc : X.calm = true) (hm : X.mg "min" = none) (ha : DE X r a (nI i)) (hb : DE X r b (nI j)) (hg : Gl X "min" := by rfl)
    (he : starEach (a :: [b]) X.env = (false, eval a X.env) :: starEach [b] X.env := by rfl) (he2 : starEach (b :: []) X.env = (false, eval b X.env) :: starEach [] X.env := by rfl) (hpl : (backTo pos (starEach [b] X.env)).any (·.1) = false := by rfl) : DE X r (.Call (.Name "min" p) [a, b] [] pos) (nI (min i j)) :=
  de_nat (de_min2 hc hm ha hb hg he he2 hpl) (by omega)
variable {E : XK} {P : Post}
/-- a while loop by states -/
theorem ds_whileT {α : Type} {body : List Stmt} (T : α → Rho) (J : α → Prop) (μ : α → Nat) (a0 : α) (hp : PassesOwn (model X.prog X.w) X.A X.env X.xe) (h0 : Forg r (T a0)) (j0 : J a0)
    (hstep : ∀ x, J x → ∃ k, DT X (T x) c k ∧ (k = true → ∃ y, J y ∧ μ y < μ x ∧ DSs X E (T x) body { P with nx := fun z => Forg z (T y), ct := fun z => Forg z (T y), bk := P.nx }) ∧ (k = false → P.nx (T x))) : DS X E r (.While c body [] pos) P := by
  refine ds_forg h0 (ds_while (fun m r1 => ∃ x, μ x = m ∧ J x ∧ r1 = T x) hp ⟨_, a0, rfl, j0, rfl⟩ fun m r1 ⟨x, em, jx, er⟩ => ?_)
  subst er
  obtain ⟨k, h1, h2, h3⟩ := hstep x jx
  refine ⟨k, h1, fun hk => ?_, h3⟩
  obtain ⟨y, jy, my, hb⟩ := h2 hk
  exact PSs.wk hb fun D σ H ⟨Hs0, H0, Hs, A, w⟩ => ⟨Hs0, H0, Hs, A, ⟨fun r' σ' Hs' H' p a s => w.nx _ σ' Hs' H' ⟨_, em ▸ my, y, rfl, jy, rfl⟩ (a.forg p) s, w.rt, w.bk, fun r' σ' Hs' H' p a s => w.ct _ σ' Hs' H' ⟨_, em ▸ my, y, rfl, jy, rfl⟩ (a.forg p) s, w.ex, w.rs, w.ro⟩⟩
end
end Dl

namespace Dl
open PySem L2 PySem.W PyProof.Rows
def R_true : Rho → PyData → Prop := fun as d => ∃ ns : List Int, as = [.scr ns] ∧ ns.length ≤ 63 ∧ d = .bool true
def spLaw (K : PySem.W.Frag) : Sp := fun vs H Q _ => ∃ (a : Addr) (ns : List Int), vs = [.ref a] ∧ SqL K H a (ns.map V.int) ∧ ns.length ≤ 63 ∧ ∀ H', Q (.bl true) H'
theorem law_end {P : Program} {w : World} {K : PySem.W.Frag} {mg : Str → Option Value} {base : Heap} {k : Nat} {f : Addr} {fd : FuncData} (F : FnOk P w K mg base CX0 k f fd ["script"] (spF K R_true)) : FnOk P w K mg base CX0 k f fd ["script"] (spLaw K) :=
  F.imp fun vs H Q E ⟨a, ns, e, hs, hl, q⟩ => ⟨H, [.scr ns], .bool true, Same.refl H, e ▸ .cons ⟨a, rfl, hs⟩ .nil, ⟨ns, rfl, hl, rfl⟩, fun v Hs' H' g hv => by rw [hv.inv_bool]; exact q H'⟩
end Dl

namespace Dl
open PySem L2 PySem.W PyProof.Rows
/-! ## dicts over data -/
section
variable {κ β γ : Type} [DecidableEq κ]
def dget (L : List (κ × β)) (k : κ) : Option β := (L.find? fun x => decide (x.1 = k)).map (·.2)
def dput (L : List (κ × β)) (k : κ) (v : β) : List (κ × β) := if (dget L k).isSome then L.map fun x => if x.1 = k then (x.1, v) else x else L ++ [(k, v)]
theorem dget_nil (k : κ) : dget ([] : List (κ × β)) k = none := rfl
theorem dget_cons (x : κ × β) (L : List (κ × β)) (k : κ) : dget (x :: L) k = if x.1 = k then some x.2 else dget L k := by
  unfold dget
  by_cases h : x.1 = k
  · rw [List.find?_cons_of_pos (by simpa using h), if_pos h]; rfl
  · rw [List.find?_cons_of_neg (by simpa using h), if_neg h]
theorem dget_isSome {L : List (κ × β)} {k : κ} : (dget L k).isSome = true ↔ k ∈ L.map (·.1) := by
  induction L with
  | nil => simp [dget]
  | cons x L ih =>
    rw [dget_cons, List.map_cons, List.mem_cons]
    by_cases h : x.1 = k
    · simp [h]
    · rw [if_neg h, ih]
      exact ⟨.inr, fun q => q.elim (fun z => absurd z.symm h) fun z => z⟩
theorem dget_snoc (L : List (κ × β)) (k j : κ) (v : β) (h : dget L k = none) : dget (L ++ [(k, v)]) j = if k = j then some v else dget L j := by
  induction L with
  | nil => rw [List.nil_append, dget_cons]
  | cons x L ih =>
    rw [dget_cons] at h
    by_cases hx : x.1 = k
    · rw [if_pos hx] at h; cases h
    · rw [if_neg hx] at h
      rw [List.cons_append, dget_cons, ih h, dget_cons]
      by_cases hj : x.1 = j
      · rw [if_pos hj, if_neg (fun z => hx (hj.trans z.symm)), if_pos hj]
      · rw [if_neg hj, if_neg hj]
theorem dget_upd (L : List (κ × β)) (k j : κ) (v : β) : dget (L.map fun x => if x.1 = k then (x.1, v) else x) j = if k = j ∧ (dget L k).isSome = true then some v else dget L j := by
  induction L with
  | nil => simp [dget]
  | cons x L ih =>
    rw [List.map_cons, dget_cons, ih, dget_cons, dget_cons]
    by_cases hx : x.1 = k
    · simp only [if_pos hx]
      by_cases hj : x.1 = j
      · rw [if_pos hj, if_pos ⟨hx.symm.trans hj, rfl⟩]
      · rw [if_neg hj, if_neg hj, if_neg (fun z => hj (hx.trans z.1)), if_neg (fun z => hj (hx.trans z.1))]
    · simp only [if_neg hx]
      by_cases hj : x.1 = j
      · rw [if_pos hj, if_neg (fun z => hx (hj.trans z.1.symm)), if_pos hj]
      · rw [if_neg hj, if_neg hj]
theorem dget_dput (L : List (κ × β)) (k j : κ) (v : β) : dget (dput L k v) j = if k = j then some v else dget L j := by
  unfold dput
  cases h : dget L k with
  | none => rw [if_neg (by simp), dget_snoc L k j v h]
  | some z =>
    rw [if_pos (by simp), dget_upd, h]
    by_cases hj : k = j
    · rw [if_pos ⟨hj, rfl⟩, if_pos hj]
    · rw [if_neg (fun q => hj q.1), if_neg hj]
theorem dput_keys (L : List (κ × β)) (k : κ) (v : β) : (dput L k v).map (·.1) = if k ∈ L.map (·.1) then L.map (·.1) else L.map (·.1) ++ [k] := by
  unfold dput
  by_cases h : k ∈ L.map (·.1)
  · rw [if_pos (dget_isSome.mpr h), if_pos h, List.map_map]
    refine List.map_congr_left fun x _ => ?_
    simp only [Function.comp]
    split <;> rfl
  · rw [if_neg (fun q => h (dget_isSome.mp q)), if_neg h, List.map_append]
    rfl
theorem dput_len (L : List (κ × β)) (k : κ) (v : β) : (dput L k v).length ≤ L.length + 1 := by
  unfold dput
  split
  · rw [List.length_map]; omega
  · rw [List.length_append]; exact Nat.le_refl _
theorem dput_nodup {L : List (κ × β)} (h : (L.map (·.1)).Nodup) (k : κ) (v : β) : ((dput L k v).map (·.1)).Nodup := by
  rw [dput_keys]
  split
  · exact h
  · next q => exact List.nodup_append.mpr ⟨h, List.pairwise_singleton _ _, fun a ha b hb => by rw [List.mem_singleton.mp hb]; exact fun z => q (z ▸ ha)⟩
/-- the dict's keys and values told otherwise -/
def dmap {κ' : Type} (kf : κ → κ') (vf : β → γ) (L : List (κ × β)) : List (κ' × γ) := L.map fun x => (kf x.1, vf x.2)
variable {κ' : Type} [DecidableEq κ'] {kf : κ → κ'} {vf : β → γ}
theorem dget_dmap (hk : ∀ a b, kf a = kf b → a = b) (L : List (κ × β)) (k : κ) : dget (dmap kf vf L) (kf k) = (dget L k).map vf := by
  unfold dmap
  induction L with
  | nil => rfl
  | cons x L ih =>
    rw [List.map_cons, dget_cons, dget_cons, ih]
    by_cases h : x.1 = k
    · rw [if_pos h, if_pos (by rw [h])]; rfl
    · rw [if_neg h, if_neg (fun z => h (hk _ _ z))]
theorem dput_dmap (hk : ∀ a b, kf a = kf b → a = b) (L : List (κ × β)) (k : κ) (v : β) : dput (dmap kf vf L) (kf k) (vf v) = dmap kf vf (dput L k v) := by
  have e := dget_dmap (vf := vf) hk L k
  unfold dput
  rw [e, Option.isSome_map]
  split
  · unfold dmap
    rw [List.map_map, List.map_map]
    refine List.map_congr_left fun x _ => ?_
    simp only [Function.comp]
    by_cases h : x.1 = k
    · rw [if_pos h, if_pos (by rw [h])]
    · rw [if_neg h, if_neg (fun z => h (hk _ _ z))]
  · unfold dmap
    rw [List.map_append]; rfl
end
/-! ### keys -/
def kN (n : Nat) : NestedKey := .num (n : Int)
def kT (ns : List Nat) : NestedKey := .tup (ns.map kN)
def kP (p : Nat × Nat) : NestedKey := .tup [kN p.1, kN p.2]
def kTT (ns : List (List Nat)) : NestedKey := .tup (ns.map kT)
theorem datas_map {α : Type} (f : α → NestedKey) (g : α → PyData) (h : ∀ x, (f x).data = g x) : ∀ xs : List α, NestedKey.datas (xs.map f) = xs.map g
  | [] => by rw [List.map_nil, List.map_nil, NestedKey.datas]
  | x :: xs => by rw [List.map_cons, List.map_cons, NestedKey.datas, h, datas_map f g h xs]
theorem kN_data (n : Nat) : (kN n).data = nI n := by unfold kN; rw [NestedKey.data]; rfl
theorem kT_data (ns : List Nat) : (kT ns).data = nT ns := by unfold kT; rw [NestedKey.data, datas_map _ nI kN_data]; rfl
theorem kTT_data (ns : List (List Nat)) : (kTT ns).data = .tuple (ns.map nT) := by unfold kTT; rw [NestedKey.data, datas_map _ nT kT_data]
theorem kP_data (p : Nat × Nat) : (kP p).data = .tuple [nI p.1, nI p.2] := by unfold kP; rw [NestedKey.data, NestedKey.datas, NestedKey.datas, NestedKey.datas, kN_data, kN_data]
theorem depAll_map {α : Type} (f : α → NestedKey) {n : Nat} (h : ∀ x, (f x).depth ≤ n) : ∀ xs : List α, NestedKey.depthAll (xs.map f) ≤ n
  | [] => by rw [List.map_nil, NestedKey.depthAll]; omega
  | x :: xs => by
    rw [List.map_cons, NestedKey.depthAll]
    have := h x
    have := depAll_map f h xs
    omega
theorem kN_dep (n : Nat) : (kN n).depth ≤ 0 := by unfold kN; rw [NestedKey.depth]; exact Nat.le_refl _
theorem kT_dep (ns : List Nat) : (kT ns).depth ≤ 1 := by unfold kT; rw [NestedKey.depth]; have := depAll_map kN kN_dep ns; omega
theorem kTT_dep (ns : List (List Nat)) : (kTT ns).depth ≤ 2 := by unfold kTT; rw [NestedKey.depth]; have := depAll_map kT kT_dep ns; omega
theorem kP_dep (p : Nat × Nat) : (kP p).depth ≤ 1 := by unfold kP; rw [NestedKey.depth, NestedKey.depthAll, NestedKey.depthAll, NestedKey.depthAll]; have := kN_dep p.1; have := kN_dep p.2; omega
theorem kN_inj {a b : Nat} (h : kN a = kN b) : a = b := by unfold kN at h; injection h with h; omega
theorem map_inj {α : Type} {f : α → NestedKey} (h : ∀ a b, f a = f b → a = b) : ∀ {xs ys : List α}, xs.map f = ys.map f → xs = ys
  | [], [], _ => rfl
  | [], _ :: _, e => by cases e
  | _ :: _, [], e => by cases e
  | x :: xs, y :: ys, e => by
    rw [List.map_cons, List.map_cons] at e
    injection e with e1 e2
    rw [h _ _ e1, map_inj h e2]
theorem kT_inj (a b : List Nat) (h : kT a = kT b) : a = b := by unfold kT at h; injection h with h; exact map_inj (fun _ _ => kN_inj) h
theorem kTT_inj (a b : List (List Nat)) (h : kTT a = kTT b) : a = b := by unfold kTT at h; injection h with h; exact map_inj kT_inj h
theorem kP_inj (a b : Nat × Nat) (h : kP a = kP b) : a = b := by
  unfold kP at h
  injection h with h
  injection h with h1 h2
  injection h2 with h2 _
  exact Prod.ext (kN_inj h1) (kN_inj h2)
/-! ### the heap's part -/
section
variable {X : Cx} {pins : List (Addr × Obj)} {σ : L2.St} {Hs H : Hp} {s : Shared}
mutual
theorem key_is (I : Inv X pins σ H s) : ∀ (k : NestedKey) {v : V} {u : Value}, Dat H v k.data → RelV v u → NestedIs s.heap k u
  | .none, v, u, h, r => by rw [NestedKey.data] at h; rw [h.inv_none] at r; cases r; exact .none
  | .num i, v, u, h, r => by rw [NestedKey.data] at h; rw [h.inv_int] at r; obtain ⟨t, rfl⟩ := r; exact .int _ _
  | .text x, v, u, h, r => by rw [NestedKey.data] at h; rw [h.inv_str] at r; obtain ⟨t, rfl⟩ := r; exact .text _ _
  | .tup ks, v, u, h, r => by
    rw [NestedKey.data] at h
    obtain ⟨a, xs, rfl, ha, hx⟩ := h.inv_tuple
    obtain rfl : u = .ref a := r
    obtain ⟨its, rv, ⟨o, ho, hc, n, hd⟩, _⟩ := I.tuple (SqT.rd (K := X.K) ha)
    exact .tup ho hc hd (by simpa using keys_are I ks hx rv)
theorem keys_are (I : Inv X pins σ H s) : ∀ (ks : List NestedKey) {vs : List V} {us : List Value}, Dats H vs (NestedKey.datas ks) → Vals vs us → NestedAll s.heap ks us
  | [], vs, us, h, r => by rw [NestedKey.datas] at h; cases h; cases r; exact .nil
  | k :: ks, vs, us, h, r => by
    rw [NestedKey.datas] at h
    cases h with
    | cons h1 h2 =>
      cases r with
      | cons r1 r2 => exact .cons (key_is I k h1 r1) (keys_are I ks h2 r2)
end
def PXU : List (NestedKey × Addr × V) → List (NestedKey × Addr × Value) → Prop := Paired (fun (p : NestedKey × Addr × V) (q : NestedKey × Addr × Value) => p.1 = q.1 ∧ p.2.1 = q.2.1 ∧ RelV p.2.2 q.2.2)
theorem pxu_is (I : Inv X pins σ H s) : ∀ {xs : List (NestedKey × Addr × V)} {us : List (NestedKey × Addr × Value)} {kvs : List (NestedKey × PyData)}, PXU xs us → DKV H xs kvs → ∀ y ∈ us, (nestedKind X.prog X.w).is s.heap y.1 y.2.1
  | _, _, _, .nil, _, y, hy => by cases hy
  | _, _, _, .cons h r, d, y, hy => by
    cases d with
    | cons d1 d2 =>
      rcases List.mem_cons.mp hy with q | q
      · subst q
        refine ⟨?_, ?_⟩
        · rw [← h.1, d1.1, ← h.2.1]; exact key_is I _ d1.2.2.1 rfl
        · rw [← h.1, d1.1]; exact d1.2.1
      · exact pxu_is I r d2 y q
theorem Rd.obj {a : Addr} {u : HO} (I : Inv X pins σ H s) (h : Rd H a u) : ObjOk X.prog X.w H s.heap a u := Rd.ok h I.hok
theorem inv_dk {a : Addr} {xs : List (NestedKey × Addr × V)} {kvs : List (NestedKey × PyData)} (I : Inv X pins σ H s) (hr : Rd H a (dkO X.prog X.w a xs)) (hd : DKV H xs kvs) :
    ∃ us, PXU xs us ∧ s.heap.DictOfH (nestedKind X.prog X.w) a us ∧ (a == sysModules) = false ∧ xs.length ≤ sizeLine := by
  obtain ⟨⟨hs, hz, us, pu, o, es, ep, h1, h2, h3, h4, h5⟩, _⟩ := Rd.obj I hr
  exact ⟨us, pu, ⟨o, es, ep, h1, h2, h3, h4, pxu_is I pu hd, h5⟩, hs, hz⟩
theorem pxu_get {Hs : Hp} (k : NestedKey) : ∀ {xs : List (NestedKey × Addr × V)} {us : List (NestedKey × Addr × Value)} {kvs : List (NestedKey × PyData)}, PXU xs us → DKV Hs xs kvs →
    (dget kvs k = none ∧ atKey us k = none) ∨ ∃ d v p, dget kvs k = some d ∧ atKey us k = some p ∧ RelV v p.2 ∧ Dat Hs v d
  | _, _, _, .nil, d => by cases d; exact .inl ⟨rfl, rfl⟩
  | x :: xs, u :: us, _, .cons h r, d => by
    cases d with
    | @cons _ y _ ys d1 d2 =>
      have e1 : x.1 = u.1 := h.1
      have e2 : x.1 = y.1 := d1.1
      by_cases hk : y.1 = k
      · refine .inr ⟨y.2, x.2.2, u.2, ?_, ?_, h.2.2, d1.2.2.2⟩
        · rw [dget_cons, if_pos hk]
        · unfold atKey
          rw [List.find?_cons_of_pos (by simp [← e1, e2, hk])]
          rfl
      · have ea : atKey (u :: us) k = atKey us k := by
          unfold atKey
          rw [List.find?_cons_of_neg (by simp [← e1, e2, hk])]
        rw [dget_cons, if_neg hk, ea]
        exact pxu_get k r d2
theorem pxu_len : ∀ {xs : List (NestedKey × Addr × V)} {us : List (NestedKey × Addr × Value)}, PXU xs us → xs.length = us.length
  | _, _, .nil => rfl
  | _, _, .cons _ r => by rw [List.length_cons, List.length_cons, pxu_len r]
theorem dkv_len {Hs : Hp} : ∀ {xs : List (NestedKey × Addr × V)} {kvs : List (NestedKey × PyData)}, DKV Hs xs kvs → xs.length = kvs.length
  | _, _, .nil => rfl
  | _, _, .cons _ r => by rw [List.length_cons, List.length_cons, dkv_len r]
/-- the same store in the three tellings -/
def xput (xs : List (NestedKey × Addr × V)) (k : NestedKey) (b : Addr) (v : V) (is : Bool) : List (NestedKey × Addr × V) := if is then xs.map fun x => if x.1 = k then (x.1, x.2.1, v) else x else xs ++ [(k, b, v)]
theorem pxu_put {k : NestedKey} {b : Addr} {v : V} {u : Value} (rv : RelV v u) {xs : List (NestedKey × Addr × V)} {us : List (NestedKey × Addr × Value)} (h : PXU xs us) : PXU (xput xs k b v (atKey us k).isSome) (storedH us k b u) := by
  unfold xput storedH
  cases (atKey us k).isSome with
  | true =>
    rw [if_pos rfl, if_pos rfl]
    induction h with
    | nil => exact .nil
    | @cons x y xs ys h r ih =>
      refine .cons ?_ ih
      unfold putAt
      dsimp only
      by_cases hk : x.1 = k
      · rw [if_pos hk, if_pos (h.1 ▸ hk)]; exact ⟨h.1, h.2.1, rv⟩
      · rw [if_neg hk, if_neg (h.1 ▸ hk)]; exact h
  | false =>
    rw [if_neg (by simp), if_neg (by simp)]
    induction h with
    | nil => exact .cons ⟨rfl, rfl, rv⟩ .nil
    | cons h r ih => exact .cons h ih
theorem dkv_put {Hs : Hp} {k : NestedKey} {b : Addr} {v : V} {d : PyData} (hk : k.depth ≤ 8) (hb : Dat Hs (.ref b) k.data) (hv : Dat Hs v d) {is : Bool} {xs : List (NestedKey × Addr × V)} {kvs : List (NestedKey × PyData)} (h : DKV Hs xs kvs) (e : (dget kvs k).isSome = is) : DKV Hs (xput xs k b v is) (dput kvs k d) := by
  unfold xput dput
  rw [e]
  clear e
  cases is with
  | true =>
    rw [if_pos rfl, if_pos rfl]
    induction h with
    | nil => exact .nil
    | @cons x y xs ys h r ih =>
      refine .cons ?_ ih
      dsimp only
      by_cases hk : x.1 = k
      · rw [if_pos hk, if_pos (h.1 ▸ hk)]; exact ⟨h.1, h.2.1, h.2.2.1, hv⟩
      · rw [if_neg hk, if_neg (h.1 ▸ hk)]; exact h
  | false =>
    rw [if_neg (by simp), if_neg (by simp)]
    induction h with
    | nil => exact .cons ⟨rfl, hk, hb, hv⟩ .nil
    | cons h r ih => exact .cons h ih
theorem dk_new {H : Hp} {P : Program} {w : World} {h : Heap} {a : Addr} {xs : List (NestedKey × Addr × V)} {us : List (NestedKey × Addr × Value)} (hs : (a == sysModules) = false) (hz : xs.length ≤ sizeLine) (pu : PXU xs us) (hm : h.DictOfH (nestedKind P w) a us) : ObjOk P w H h a (dkO P w a xs) := by
  obtain ⟨o, es, ep, h1, h2, h3, h4, _, h5⟩ := hm
  refine ⟨⟨hs, hz, us, pu, o, es, ep, h1, h2, h3, h4, h5⟩, ⟨o, h1⟩, ?_⟩
  rintro g1 g2 ⟨q1, q2, us', q3, o', es', ep', q4, q5⟩ k
  exact ⟨q1, q2, us', q3, o', es', ep', k _ q4, q5⟩
end
/-! ### the rules -/
/-- a dict that may be read -/
def tDD (K : PySem.W.Frag) (P : Program) (w : World) (r : Rho) (kvs : List (NestedKey × PyData)) : TE := fun σ H Q => ∃ Hs0 H0 Hs, Asn K Hs0 H0 r σ Hs H ∧ ∀ a xs Hs' H', Grw Hs H Hs' H' → Rd H' a (dkO P w a xs) → DKV Hs' xs kvs → Q (.ref a) H'
def DD (X : Cx) (r : Rho) (e : Expr) (kvs : List (NestedKey × PyData)) : Prop := PE X e (tDD X.K X.prog X.w r kvs)
/-- a new thing of one's own -/
def tR (K : PySem.W.Frag) (r : Rho) (s : Slot) : TE := fun σ H Q => ∃ Hs0 H0 Hs, Asn K Hs0 H0 r σ Hs H ∧ ∀ v Hs' H' G, Grw Hs H Hs' H' → (∀ x ∈ G, H x = none ∧ Hs' x = none ∧ H' x ≠ none) → SlotF K Hs' H' s (some (some v)) G → Q v H'
def DR (X : Cx) (r : Rho) (e : Expr) (s : Slot) : Prop := PE X e (tR X.K r s)
section
variable {X : Cx} {E : XK} {r r1 : Rho} {Po : Post} {e a b c : Expr} {pos p : Pos} {d d1 d2 : PyData} {ds : List PyData} {kvs : List (NestedKey × PyData)} {k : NestedKey} {x : Str} {sts : List Stmt}
theorem dd_own (i : Nat) {x : Str} (hr : r[i]? = some (.dic X.prog X.w kvs) := by rfl) (hN : X.N[i]? = some x := by rfl) (hv : Vis X.env.scope x := by first | exact Or.inl rfl | exact Or.inr (Or.inl rfl) | exact Or.inr (Or.inr rfl))
    (hd : (x == ("__debug__" : Str)) = false := by decide) (hcd : (x == ("__classdict__" : Str)) = false := by decide) : DD X r (.Name x pos) kvs :=
  PE.wk (pe_var (i := i) hN hv hd hcd) fun _ _ σ H Q _ ⟨Hs0, H0, Hs, A, q⟩ => by
    obtain ⟨a, xs, e1, _, _, h2, h3⟩ := A.at_ i _ hr
    exact ⟨_, e1, q a xs Hs H (Grw.refl A.g.sub) (.inl h2) h3⟩
theorem dar_fd (i : Nat) {x : Str} (hr : r[i]? = some (.fd X.prog X.w kvs) := by rfl) (hN : X.N[i]? = some x := by rfl) (hv : Vis X.env.scope x := by first | exact Or.inl rfl | exact Or.inr (Or.inl rfl) | exact Or.inr (Or.inr rfl))
    (hd : (x == ("__debug__" : Str)) = false := by decide) (hcd : (x == ("__classdict__" : Str)) = false := by decide) : DAr X r (.Name x pos) (.fd X.prog X.w kvs) :=
  PE.wk (pe_var (i := i) hN hv hd hcd) fun _ _ σ H Q _ ⟨Hs0, H0, Hs, A, q⟩ => by
    obtain ⟨a, ob, xs, e1, h2, h3⟩ := A.at_ i _ hr
    exact ⟨_, e1, q _ Hs H (Grw.refl A.g.sub) ⟨a, ob, xs, rfl, h2, h3⟩⟩
theorem DAr.dd (h : DAr X r e (.fd X.prog X.w kvs)) : DD X r e kvs := PE.wk h fun _ _ σ H Q _ ⟨Hs0, H0, Hs, A, q⟩ => ⟨Hs0, H0, Hs, A, fun v Hs' H' g ⟨a, ob, xs, ev, h1, h2⟩ => by
  subst ev
  exact q a xs Hs' H' g (.inr ⟨ob, g.sub _ _ h1⟩) h2⟩
theorem dd_fd (i : Nat) {x : Str} (hr : r[i]? = some (.fd X.prog X.w kvs) := by rfl) (hN : X.N[i]? = some x := by rfl) (hv : Vis X.env.scope x := by first | exact Or.inl rfl | exact Or.inr (Or.inl rfl) | exact Or.inr (Or.inr rfl))
    (hd : (x == ("__debug__" : Str)) = false := by decide) (hcd : (x == ("__classdict__" : Str)) = false := by decide) : DD X r (.Name x pos) kvs := DAr.dd (dar_fd i hr hN hv hd hcd)
theorem DR.dd (h : DR X r e (.dic X.prog X.w kvs)) : DD X r e kvs := PE.wk h fun _ _ σ H Q _ ⟨Hs0, H0, Hs, A, q⟩ => ⟨Hs0, H0, Hs, A, fun v Hs' H' G g hG ⟨a, xs, m, ev, h1, h2⟩ => by
  injection ev with ev; injection ev with ev
  subst ev
  exact q a xs Hs' H' g (.inl h1) h2⟩
/-- {} -/
theorem dr_new : DR X r (.Dict [] [] pos) (.dic X.prog X.w []) := ⟨fun pins s σ H Q I ⟨Hs0, H0, Hs, A, q⟩ => by
  have hs : (s.heap.objs.size == sysModules) = false := beq_eq_false_iff_ne.mpr (Nat.ne_of_gt I.big)
  have hf := I.hok.fresh (Nat.le_refl _)
  refine wpAny_Dict_empty ⟨.ref s.heap.objs.size, _, I.laid (a := s.heap.objs.size) (o := dkO X.prog X.w s.heap.objs.size []) (t' := s.toks) (fun _ _ q => Heap.get?_push_of_some _ q) (Nat.le_refl _) (dk_new hs (Nat.zero_le _) .nil (Heap.DictOfH.new s.heap)), rfl, ?_⟩
  exact q _ Hs _ [s.heap.objs.size] (Grw.laidO A.g.sub hf) (fun x m => by rw [List.mem_singleton.mp m]; exact ⟨hf, A.g.sub.free hf, by rw [upd_same]; simp⟩) ⟨_, [], List.mem_singleton.mpr rfl, rfl, upd_same, .nil⟩⟩
theorem ds_setR (i : Nat) {x : Str} {pos' : Pos} {s : Slot} (hN : X.N.Nodup) (he : DR X r e s) (hp : Po.nx (r.set i s)) (hi : X.N[i]? = some x := by rfl) (hx : Loc X.env.scope x := by first | exact Or.inl rfl | exact Or.inr rfl)
    (hs : swapsWith e (some (.Name x pos')) pos.line X.env = pure false := by rfl) (hf : X.fn x = true ∨ X.env.scope.names.lookup x = some .local := by first | exact .inl rfl | exact .inr rfl | assumption) (hT : tabS s = false := by rfl) : DS X E r (.Assign [.Name x pos'] e pos) Po :=
  PS.wk (ps_set (i := i) hN hi hx he hs hf) fun _ _ D σ H _ ⟨Hs0, H0, Hs, A, w⟩ => ⟨Hs0, H0, Hs, A, fun v Hs' H' G g hG h => w.nx _ _ Hs' H' hp (A.setG g G hG h hT) g.st⟩
/-- an own thing is returned by its name -/
theorem ds_retR (i : Nat) {x : Str} {s : Slot} (hr : r[i]? = some s) (hp : Po.rs s) (hN : X.N[i]? = some x := by rfl) (hv : Vis X.env.scope x := by first | exact Or.inl rfl | exact Or.inr (Or.inl rfl) | exact Or.inr (Or.inr rfl))
    (hd : (x == ("__debug__" : Str)) = false := by decide) (hcd : (x == ("__classdict__" : Str)) = false := by decide) (hv' : ∀ {K : PySem.W.Frag} {Hs H : Hp} {o : Option (Option V)} {F : List Addr}, SlotF K Hs H s o F → ∃ v, o = some (some v) := by rintro _ _ _ _ _ ⟨a, xs, m, e, _⟩; exact ⟨_, e⟩) : DS X E r (.Return (some (.Name x pos)) p) Po :=
  PS.wk (ps_ret (pe_var (i := i) hN hv hd hcd)) fun _ _ D σ H _ ⟨Hs0, H0, Hs, A, w⟩ => by
    obtain ⟨F, f⟩ := A.fr
    have q := f.at_ i _ hr
    obtain ⟨v, ev⟩ := hv' q
    rw [ev] at q
    exact ⟨v, ev, w.rs s v Hs H (F i) hp A.g (fun x m => f.own i x m) q⟩
/-- a dict stays as it is from now on -/
theorem dss_freezeD (i : Nat) (hr : r[i]? = some (.dic X.prog X.w kvs)) (h : DSs X E (r.set i (.fd X.prog X.w kvs)) sts Po) : DSs X E r sts Po := ⟨fun pins s σ H D I ⟨Hs0, H0, Hs, A, w⟩ => by
  obtain ⟨F, f⟩ := A.fr
  obtain ⟨a, xs, m, e1, h2, h3⟩ := f.at_ i _ hr
  obtain ⟨h0, h1, _⟩ := f.own i a m
  obtain ⟨od, I2⟩ := I.lock h2 trivial
  have hs1 : Same Hs (upd Hs a (.frz od (dkO X.prog X.w a xs))) := same_upd h1
  refine h.run pins s σ _ D I2 ⟨Hs0, H0, upd Hs a (.frz od (dkO X.prog X.w a xs)), ⟨(A.g.mut h0 h1).freeze h0 h1 upd_same, ⟨_, f.put (σ' := σ) i (.fd X.prog X.w kvs) [] (fun _ _ => rfl) hs1 (fun j hj x mx => ?_) (fun _ => ⟨a, od, xs, e1, upd_same, h3.mono hs1⟩) (fun x mx => by cases mx) (fun _ _ x mx => by cases mx)⟩, by rw [List.length_set, A.len]⟩, w.st hs1⟩
  have hx : x ≠ a := fun z => hj (f.dist j i a (by rw [← z]; exact mx) m)
  refine ⟨fun o q => by rw [upd_ne hx]; exact q, by rw [upd_ne hx]; exact (f.own j x mx).2.1⟩⟩
/-- .. where it is made -/
theorem DR.fd (h : DR X r e (.dic X.prog X.w kvs)) : DAr X r e (.fd X.prog X.w kvs) := ⟨fun pins s σ H Q I ⟨Hs0, H0, Hs, A, q⟩ =>
  thn (h.run pins s σ H (fun v H' => ∃ a xs Hs', v = .ref a ∧ Grw Hs H Hs' H' ∧ H a = none ∧ Hs' a = none ∧ H' a = some (dkO X.prog X.w a xs) ∧ DKV Hs' xs kvs) I ⟨Hs0, H0, Hs, A, fun v Hs' H' G g hG ⟨a, xs, m, ev, h1, h2⟩ => by
    injection ev with ev; injection ev with ev
    exact ⟨a, xs, Hs', ev, g, (hG a m).1, (hG a m).2.1, h1, h2⟩⟩) fun v s1 ⟨x, H1, I1, rv, a, xs, Hs', ev, g, n0, n1, h1, h2⟩ => by
    obtain ⟨od, I2⟩ := I1.lock h1 trivial
    refine ⟨x, _, I2, rv, q x (upd Hs' a (.frz od (dkO X.prog X.w a xs))) _ ((g.mut n0 n1).freeze n0 n1 upd_same) ⟨a, od, xs, ev, upd_same, h2.mono (same_upd n1)⟩⟩⟩
/-! k in d -/
def rInD (X : Cx) (neg : Bool) : R2 := fun x y H Q => ∃ a b k xs kvs, x = .ref b ∧ y = .ref a ∧ Rd H a (dkO X.prog X.w a xs) ∧ DKV H xs kvs ∧ k.depth ≤ 8 ∧ Dat H (.ref b) k.data ∧ Q (.bl (if neg then !(dget kvs k).isSome else (dget kvs k).isSome)) H
theorem dk_some {us : List (NestedKey × Addr × Value)} {kvs : List (NestedKey × PyData)} {k : NestedKey} {Hs : Hp} (h : (dget kvs k = none ∧ atKey us k = none) ∨ ∃ d v p, dget kvs k = some d ∧ atKey us k = some p ∧ RelV v p.2 ∧ Dat Hs v d) : (atKey us k).isSome = (dget kvs k).isSome := by
  rcases h with ⟨h1, h2⟩ | ⟨d, v, p, h1, h2, _⟩
  · rw [h1, h2]; rfl
  · rw [h1, h2]; rfl
theorem op_inD (hu : X.A.units + 64 < cLine) : OpR X (compareOp .In) (rInD X false) := fun pins s σ H x y v u Q I rx ry ⟨a, b, k, xs, kvs, ex, ey, hr, hd, hk, hb, q⟩ => by
  subst ex; subst ey
  cases rx; cases ry
  obtain ⟨us, pu, hm, hs, hz⟩ := inv_dk I hr hd
  refine wpAny_in_heap (knd := nestedKind X.prog X.w) (k := k) (by show X.A.units + 1 + 8 < cLine; omega) ⟨key_is I k hb rfl, hk⟩ hs hm ⟨.bl _, H, I.tok _, rfl, ?_⟩
  rw [dk_some (pxu_get k pu hd)]
  exact q
theorem op_niD (hu : X.A.units + 64 < cLine) : OpR X (compareOp .NotIn) (rInD X true) := fun pins s σ H x y v u Q I rx ry ⟨a, b, k, xs, kvs, ex, ey, hr, hd, hk, hb, q⟩ => by
  subst ex; subst ey
  cases rx; cases ry
  obtain ⟨us, pu, hm, hs, hz⟩ := inv_dk I hr hd
  refine wpAny_notIn_heap (knd := nestedKind X.prog X.w) (k := k) (by show X.A.units + 1 + 8 < cLine; omega) ⟨key_is I k hb rfl, hk⟩ hs hm ⟨.bl _, H, I.tok _, rfl, ?_⟩
  rw [dk_some (pxu_get k pu hd)]
  exact q
theorem Dat.key_ref {H : Hp} {v : V} {ks : List NestedKey} (h : Dat H v (NestedKey.tup ks).data) : ∃ b, v = .ref b := by
  rw [NestedKey.data] at h
  obtain ⟨a, _, e, _⟩ := h.inv_tuple
  exact ⟨a, e⟩
def IsT : NestedKey → Prop
  | .tup _ => True
  | _ => False
theorem isT_ref {H : Hp} {v : V} (hk : IsT k) (h : Dat H v k.data) : ∃ b, v = .ref b := by
  cases k with
  | tup ks => exact h.key_ref
  | none => cases hk
  | num _ => cases hk
  | text _ => cases hk
theorem tOp_inD {neg : Bool} (hT : IsT k) (hk : k.depth ≤ 8) {σ : L2.St} {H : Hp} {Q : VK} (q : tD X.K r (.bool (if neg then !(dget kvs k).isSome else (dget kvs k).isSome)) σ H Q) : tOp (rInD X neg) (tD X.K r k.data) (tDD X.K X.prog X.w r kvs) σ H Q := by
  obtain ⟨Hs0, H0, Hs, A, q⟩ := q
  refine ⟨Hs0, H0, Hs, A, fun x Hs1 H1 g1 h1 => ⟨Hs0, H0, Hs1, A.grow g1, fun a xs Hs2 H2 g2 h2 h3 => ?_⟩⟩
  obtain ⟨b, rfl⟩ := isT_ref hT h1
  exact ⟨a, b, k, xs, kvs, rfl, rfl, h2, h3.mono g2.sub, hk, (h1.mono g2.st).mono g2.sub, q _ Hs2 H2 (g1.trans g2) (.bl _)⟩
theorem de_inD (hu : X.A.units + 64 < cLine) (hT : IsT k) (hk : k.depth ≤ 8) (ha : DE X r a k.data) (hb : DD X r b kvs) (hm : behindInMarks .In b = false := by rfl) : DE X r (.Compare a [.In] [b] pos) (.bool (dget kvs k).isSome) :=
  PE.wk (pe_cmpR (op_inD hu) ha hb hm) fun _ _ σ H Q _ q => tOp_inD (neg := false) hT hk q
theorem de_niD (hu : X.A.units + 64 < cLine) (hT : IsT k) (hk : k.depth ≤ 8) (ha : DE X r a k.data) (hb : DD X r b kvs) (hm : behindInMarks .NotIn b = false := by rfl) : DE X r (.Compare a [.NotIn] [b] pos) (.bool (!(dget kvs k).isSome)) :=
  PE.wk (pe_cmpR (op_niD hu) ha hb hm) fun _ _ σ H Q _ q => tOp_inD (neg := true) hT hk q
theorem dt_inD (hu : X.A.units + 64 < cLine) (hT : IsT k) (hk : k.depth ≤ 8) (ha : DE X r a k.data) (hb : DD X r b kvs) (hm : behindInMarks .In b = false := by rfl) : DT X r (.Compare a [.In] [b] pos) (dget kvs k).isSome :=
  PT.wk (pt_cmpR (op_inD hu) ha hb hm) fun σ H Q ⟨Hs0, H0, Hs, A, q⟩ => tOp_inD (neg := false) hT hk ⟨Hs0, H0, Hs, A, fun v Hs' H' g hv => ⟨_, hv.inv_bool, q Hs' H' g⟩⟩
theorem dt_niD (hu : X.A.units + 64 < cLine) (hT : IsT k) (hk : k.depth ≤ 8) (ha : DE X r a k.data) (hb : DD X r b kvs) (hm : behindInMarks .NotIn b = false := by rfl) : DT X r (.Compare a [.NotIn] [b] pos) (!(dget kvs k).isSome) :=
  PT.wk (pt_cmpR (op_niD hu) ha hb hm) fun σ H Q ⟨Hs0, H0, Hs, A, q⟩ => tOp_inD (neg := true) hT hk ⟨Hs0, H0, Hs, A, fun v Hs' H' g hv => ⟨_, hv.inv_bool, q Hs' H' g⟩⟩
/-! d[k] -/
theorem de_ixD (hu : X.A.units + 64 < cLine) (hT : IsT k) (hk : k.depth ≤ 8) (ha : DD X r a kvs) (hb : DE X r b k.data) (hg : dget kvs k = some d) (hs : NoSl b := by intro _ _; rfl) : DE X r (.Subscript a b pos) d := ⟨fun pins s σ H Q I ⟨Hs0, H0, Hs, A, q⟩ => by
  refine subD_of PySem.F.slot_dict_getitem.lookup hs (thn (ha.run pins s σ H (fun v H1 => ∃ a xs Hs1, v = .ref a ∧ Grw Hs H Hs1 H1 ∧ Rd H1 a (dkO X.prog X.w a xs) ∧ DKV Hs1 xs kvs) I ⟨Hs0, H0, Hs, A, fun a xs Hs1 H1 g1 h1 h2 => ⟨a, xs, Hs1, rfl, g1, h1, h2⟩⟩) fun u s1 ⟨x, H1, I1, rx, a, xs, Hs1, ex, g1, h1, h2⟩ =>
    thn (hb.run pins s1 σ H1 (fun v H2 => ∃ Hs2, Grw Hs1 H1 Hs2 H2 ∧ Dat Hs2 v k.data) I1 ⟨Hs0, H0, Hs1, A.grow g1, fun v Hs2 H2 g2 h3 => ⟨Hs2, g2, h3⟩⟩) fun iv s2 ⟨y, H2, I2, ry, Hs2, g2, h3⟩ => ?_)
  subst ex
  obtain rfl : u = Value.ref a := rx
  obtain ⟨b', rfl⟩ := isT_ref hT h3
  obtain rfl : iv = Value.ref b' := ry
  have hd := (h2.mono g2.st).mono g2.sub
  obtain ⟨us, pu, hm, hsm, hz⟩ := inv_dk I2 (Rd.same g2.all h1) hd
  refine ⟨hm.typeIs, ?_⟩
  rcases pxu_get k pu (h2.mono g2.st) with ⟨z, _⟩ | ⟨d', v, p, z1, z2, z3, z4⟩
  · rw [hg] at z; cases z
  · rw [hg] at z1
    cases z1
    refine wpAny_getItem_heap (knd := nestedKind X.prog X.w) (k := k) (by show X.A.units + 1 + 8 < cLine; omega) ⟨key_is I2 k (h3.mono g2.sub) rfl, hk⟩ hm z2 ⟨v, H2, I2.tok _, z3, q v Hs2 H2 (g1.trans g2) z4⟩⟩
/-! d[k] = v -/
def rSetD (X : Cx) : TSet := fun o i v H Q => ∃ a b k xs kvs is, o = .ref a ∧ i = .ref b ∧ H a = some (dkO X.prog X.w a xs) ∧ DKV H xs kvs ∧ (dget kvs k).isSome = is ∧ k.depth ≤ 8 ∧ Dat H (.ref b) k.data ∧ xs.length < sizeLine ∧ Q (upd H a (dkO X.prog X.w a (xput xs k b v is)))
theorem xput_len (xs : List (NestedKey × Addr × V)) (k : NestedKey) (b : Addr) (v : V) (is : Bool) : (xput xs k b v is).length ≤ xs.length + 1 := by
  unfold xput
  split
  · rw [List.length_map]; omega
  · rw [List.length_append]; exact Nat.le_refl _
theorem set_dk (hu : X.A.units + 64 < cLine) : PSet X (rSetD X) := by
  rintro pins s σ H o i v ov iv u Q I ro ri rv ⟨a, b, k, xs, kvs, is, rfl, rfl, ha, hd, his, hk, hb, hz, q⟩
  obtain rfl : ov = Value.ref a := ro
  obtain rfl : iv = Value.ref b := ri
  obtain ⟨us, pu, hm, hsm, _⟩ := inv_dk I (.inl ha) hd
  refine wpAny_setItem_heap (knd := nestedKind X.prog X.w) (k := k) (by show X.A.units + 1 + 8 < cLine; omega) ⟨key_is I k hb rfl, hk⟩ hm (fun h' hm' sb => ?_) (by rw [← pxu_len pu]; omega)
  have pu2 := pxu_put (k := k) (b := b) rv pu
  rw [dk_some (pxu_get k pu hd), his] at pu2
  have hz2 := xput_len xs k b v is
  refine ⟨_, I.write (x := a) (e := a) (o := dkO X.prog X.w a (xput xs k b v is)) (by rw [ha]; trivial) (.inl rfl) (fun c ob hc e => (sb.2 c hc).trans e) ?_ (dk_new hsm (by omega) pu2 hm'), q⟩
  obtain ⟨o, _, _, e, _⟩ := hm'
  exact ⟨o, e⟩
theorem Asn.mutD {K : PySem.W.Frag} {Hs0 H0 : Hp} {σ : L2.St} {Hs H Hs1 H1 : Hp} {i : Nat} {P : Program} {w : World} {a : Addr} {xs : List (NestedKey × Addr × V)} {kvs' : List (NestedKey × PyData)} (A : Asn K Hs0 H0 r σ Hs H) (g : Grw Hs H Hs1 H1) (hr : r[i]? = some (.dic P w kvs)) (e1 : σ[i]? = some (some (.ref a))) (hv : DKV Hs1 xs kvs') :
    Asn K Hs0 H0 (r.set i (.dic P w kvs')) σ Hs1 (upd H1 a (dkO P w a xs)) := by
  have A1 := A.grow g
  obtain ⟨F, f⟩ := A1.fr
  obtain ⟨q, ws, m, e2, h2, h3⟩ := f.at_ i _ hr
  rw [e1] at e2
  injection e2 with e2; injection e2 with e2; injection e2 with e2
  subst e2
  obtain ⟨h0, h1, _⟩ := f.own i a m
  refine ⟨A1.g.mut h0 h1, ⟨_, f.put (σ' := σ) i (.dic P w kvs') [a] (fun _ _ => rfl) (Same.refl Hs1) (fun j hj x mx => ⟨fun o q => ?_, (f.own j x mx).2.1⟩) (fun _ => ⟨a, xs, List.mem_singleton.mpr rfl, e1, upd_same, hv⟩) (fun x mx => ?_) (fun j hj x mx mj => ?_)⟩, by rw [List.length_set, A.len]⟩
  · rw [upd_ne (show x ≠ a from fun z => hj (f.dist j i a (by rw [← z]; exact mx) m))]
    exact q
  · rw [List.mem_singleton.mp mx]
    exact ⟨h0, h1, by rw [upd_same]; simp⟩
  · rw [List.mem_singleton.mp mx] at mj
    exact hj (f.dist j i a mj m)
theorem ds_putD (i : Nat) {x : Str} {px ps : Pos} (hu : X.A.units + 64 < cLine) (hr : r[i]? = some (.dic X.prog X.w kvs)) (he : DE X r e d) (hb : DE X r b k.data) (hT : IsT k) (hk : k.depth ≤ 8) (hz : kvs.length < sizeLine) (hp : Po.nx (r.set i (.dic X.prog X.w (dput kvs k d))))
    (hN : X.N[i]? = some x := by rfl) (hv : Vis X.env.scope x := by first | exact Or.inl rfl | exact Or.inr (Or.inl rfl) | exact Or.inr (Or.inr rfl))
    (hd : (x == ("__debug__" : Str)) = false := by decide) (hcd : (x == ("__classdict__" : Str)) = false := by decide)
    (hpg : ∀ {to ti : TE}, PE X (.Name x px) to → PE X b ti → PSet X (rSetD X) → PG X (.Subscript (.Name x px) b ps) (gSub to ti (rSetD X)) := by intro to ti h1 h2 h3; exact pg_sub h1 h2 h3)
    (hs : swapsWithSole [.Subscript (.Name x px) b ps] e pos.line X.env = pure false := by rfl) (hw : swappedStores [.Subscript (.Name x px) b ps] e X.env = pure none := by rfl)
    (h1 : (assignEach [.Subscript (.Name x px) b ps] X.env).map (·.2) = [assign (.Subscript (.Name x px) b ps) X.env] := by rfl) : DS X E r (.Assign [.Subscript (.Name x px) b ps] e pos) Po :=
  PS.wk (ps_asg he (hpg (pe_var (i := i) hN hv hd hcd) hb (set_dk hu)) hs hw h1) fun _ _ D σ H _ ⟨Hs0, H0, Hs, A, w⟩ => ⟨Hs0, H0, Hs, A, fun v Hs1 H1 g1 hv1 => by
    obtain ⟨a, xs, e1, h0, h1, h2, h3⟩ := A.at_ i _ hr
    refine ⟨_, e1, Hs0, H0, Hs1, A.grow g1, fun u Hs2 H2 g2 hu => ?_⟩
    have g := g1.trans g2
    obtain ⟨b', rfl⟩ := isT_ref hT hu
    exact ⟨a, b', k, xs, kvs, _, rfl, rfl, g.all _ _ h2, (h3.mono g.st).mono g.sub, rfl, hk, hu.mono g2.sub, by rw [dkv_len h3]; exact hz, w.nx _ _ Hs2 _ hp (A.mutD g hr e1 (dkv_put hk hu (hv1.mono g2.st) (h3.mono g.st) rfl)) g.st⟩⟩
/-! d.get(k, x) -/
def tBD (X : Cx) (rr : V → List V → Hp → VK → Prop) (to : TE) (t : TA) : TE := fun σ H Q => to σ H fun x H1 => (∃ a xs kvs, x = .ref a ∧ Rd H1 a (dkO X.prog X.w a xs) ∧ DKV H1 xs kvs) ∧ t σ H1 fun vs H2 => rr x vs H2 Q
theorem pe_bd {name : Str} {id : String} {apos cpos : Pos} {rr : V → List V → Hp → VK → Prop} {to : TE} {t : TA} {es : List Expr} (slot : PySem.Slot "dict" name id) (hty : typeOf (.builtin id) = pure (.type "method_descriptor")) (hm : MtR X id rr) (ho : PE X a to) (ha : PA X (e :: es) t)
    (hbase : attributeBase a name X.env (eval a X.env) = eval a X.env := by rfl)
    (hfew : ((backTo cpos (starEach (e :: es) X.env)).all (fun x => !x.1) && (backToKw cpos (keywordEach [] X.env)).all (fun x => x.1.isSome)
      && decide ((e :: es).length + ([] : List Keyword).length + (if ([] : List Keyword).isEmpty then 0 else 1) < 30)) = true := by rfl)
    (hline : (apos.endLine == cpos.line) = true := by rfl) (hs : starEach (e :: es) X.env = (false, eval e X.env) :: starEach es X.env := by rfl) (hplain : (backTo cpos (starEach es X.env)).any (·.1) = false := by rfl) :
    PE X (.Call (.Attribute a name apos) (e :: es) [] cpos) (tBD X rr to t) := by
  refine ⟨fun pins s σ H Q I h => ?_⟩
  refine wpAny_Call_method_late hbase hfew hline rfl (thn (ho.run pins s σ H _ I h) fun v s1 ⟨x, H1, I1, r1, ⟨l, xs, kvs, ex, hl, hd⟩, q1⟩ => ?_)
  subst ex
  cases r1
  obtain ⟨us, pu, hmm, _, _⟩ := inv_dk I1 hl hd
  refine ⟨"dict", id, PySem.F.plainAttrs_dict, slot, hty, hmm.typeIs, dictOfH_noDict hmm, ?_⟩
  have hA := ha.run cpos pins s1 σ H1 _ I1 q1
  rw [hs] at hA ⊢
  refine Calls.callWith_builtin (by show (false || (backTo cpos (starEach es X.env)).any (·.1)) = false; rw [hplain] <;> rfl) (Calls.evalArgs_plain ?_)
  exact thn hA fun us s2 ⟨vs, H2, I2, r2, q2⟩ => hm pins s2 σ H2 (.ref l) vs (.ref l) us Q I2 rfl r2 q2
theorem mt_getD (hu : X.A.units + 64 < cLine) : MtR X "dict.get" (fun v vs H Q => ∃ a b k xs kvs x Hs, v = .ref a ∧ vs = [.ref b, x] ∧ Rd H a (dkO X.prog X.w a xs) ∧ DKV H xs kvs ∧ DKV Hs xs kvs ∧ k.depth ≤ 8 ∧ Dat H (.ref b) k.data ∧
    (dget kvs k = none → Q x H) ∧ ∀ d v, dget kvs k = some d → Dat Hs v d → Q v H) := fun pins s σ H v vs u us Q I rv rx ⟨a, b, k, xs, kvs, x, Hs, ev, ex, hr, hd, hd2, hk, hb, q1, q2⟩ => by
  subst ev; subst ex
  cases rv
  obtain ⟨w1, w2, rfl, r1, r2⟩ : ∃ w1 w2, us = [w1, w2] ∧ RelV (.ref b) w1 ∧ RelV x w2 := by
    cases rx with
    | cons r1 t =>
      cases t with
      | cons r2 t => cases t; exact ⟨_, _, rfl, r1, r2⟩
  cases r1
  obtain ⟨us, pu, hm, hsm, hz⟩ := inv_dk I hr hd
  refine call_meetsIn F.slot_dict_get hm.typeIs F.entry_dict_get (F.args_dict_get_3 _ _ _) (meetsH_dict_get_default (nestedKind X.prog X.w) a b hsm w2) ⟨by show X.A.units + 1 + 8 < cLine; omega, k, us, ⟨key_is I k hb rfl, hk⟩, hm, ?_⟩
  rcases pxu_get k pu hd2 with ⟨z1, z2⟩ | ⟨d, v, p, z1, z2, z3, z4⟩
  · rw [z2]; exact ⟨x, H, I.tok _, r2, q1 z1⟩
  · rw [z2]; exact ⟨v, H, I.tok _, z3, q2 d v z1 z4⟩
theorem de_getD {pa cpos : Pos} (hu : X.A.units + 64 < cLine) (hT : IsT k) (hk : k.depth ≤ 8) (ha : DD X r a kvs) (hb : DE X r b k.data) (hc : DE X r c d2) (h1 : dget kvs k = none → d = d2) (h2 : ∀ z, dget kvs k = some z → d = z) (e1 : starEach (b :: [c]) X.env = (false, eval b X.env) :: starEach [c] X.env := by rfl) (e2 : starEach (c :: []) X.env = (false, eval c X.env) :: starEach [] X.env := by rfl)
    (hpe : ∀ {rr : V → List V → Hp → VK → Prop} {to t}, MtR X "dict.get" rr → PE X a to → PA X [b, c] t → PE X (.Call (.Attribute a "get" pa) [b, c] [] cpos) (tBD X rr to t) := by
      intro rr to t h0 h1 h2; exact pe_bd PySem.F.slot_dict_get PySem.F.type_dict_get h0 h1 h2) : DE X r (.Call (.Attribute a "get" pa) [b, c] [] cpos) d :=
  PE.wk (hpe (mt_getD hu) ha (da_2 hb hc e1 e2)) fun _ _ σ H Q _ ⟨Hs0, H0, Hs, A, q⟩ => ⟨Hs0, H0, Hs, A, fun a xs Hs1 H1 g1 z1 z2 => ⟨⟨a, xs, kvs, rfl, z1, z2.mono g1.sub⟩, Hs0, H0, Hs1, A.grow g1, fun vs Hs2 H2 g2 hv => by
    cases hv with
    | cons v1 t =>
      cases t with
      | cons v2 t =>
        cases t
        obtain ⟨b', rfl⟩ := isT_ref hT v1
        have g := g1.trans g2
        exact ⟨a, b', k, xs, kvs, _, Hs2, rfl, rfl, Rd.same g2.all z1, (z2.mono g2.st).mono g2.sub, z2.mono g2.st, hk, Dat.mono g2.sub v1, fun z => q _ Hs2 H2 g (by rw [h1 z]; exact v2), fun dd v z hv => q v Hs2 H2 g (by rw [h2 dd z]; exact hv)⟩⟩⟩
/-! len(d) -/
theorem cr_lenD : CallR X (.builtin "len") (fun vs H Q => ∃ a xs kvs, vs = [.ref a] ∧ Rd H a (dkO X.prog X.w a xs) ∧ DKV H xs kvs ∧ Q (.int (kvs.length : Nat)) H) := fun pins s σ H vs us Q I rv ⟨a, xs, kvs, ev, hr, hd, q⟩ => by
  subst ev
  obtain ⟨u, rfl, ru⟩ := vals1 rv
  cases ru
  obtain ⟨ws, pu, hm, hsm, hz⟩ := inv_dk I hr hd
  have e1 : ws.length = kvs.length := by rw [← pxu_len pu, dkv_len hd]
  have hl := line63
  refine call_len_dictH hsm hm (by rw [← pxu_len pu]; omega) ⟨.int _, H, I.tok _, ⟨_, rfl⟩, ?_⟩
  rw [e1]; exact q
theorem de_lenD (hm : X.mg "len" = none) (ha : DD X r e kvs) (hg : Gl X "len" := by rfl) (he : starEach (e :: []) X.env = (false, eval e X.env) :: starEach [] X.env := by rfl) (hpl : (backTo pos (starEach [] X.env)).any (·.1) = false := by rfl) : DE X r (.Call (.Name "len" p) [e] [] pos) (nI kvs.length) :=
  PE.wk (pe_callB cr_lenD hg hm PySem.boot_len (pa_cons ha pa_nil he) (by decide) (by decide) he hpl) fun _ _ σ H Q _ ⟨Hs0, H0, Hs, A, q⟩ => ⟨Hs0, H0, Hs, A, fun a xs Hs1 H1 g1 z1 z2 => ⟨a, xs, kvs, rfl, z1, z2.mono g1.sub, q _ Hs1 H1 g1 (.int _)⟩⟩
/-! walks -/
variable {tg : Expr}
/-- the entry at a place, in the three tellings -/
theorem pxu_at : ∀ {xs : List (NestedKey × Addr × V)} {us : List (NestedKey × Addr × Value)} {i : Nat} {y : NestedKey × Addr × V}, PXU xs us → xs[i]? = some y → ∃ u, us[i]? = some (y.1, y.2.1, u) ∧ RelV y.2.2 u
  | _, _, _, _, .nil, e => by simp at e
  | _, _, 0, _, @Paired.cons _ _ _ _ q _ _ h _, e => by
    simp at e; subst e
    refine ⟨q.2.2, ?_, h.2.2⟩
    rw [h.1, h.2.1]; rfl
  | _, _, i + 1, _, .cons _ r, e => by
    obtain ⟨u, h1, h2⟩ := pxu_at (i := i) r (by simpa using e)
    exact ⟨u, by simpa using h1, h2⟩
theorem dkv_at {Hs : Hp} : ∀ {xs : List (NestedKey × Addr × V)} {kvs : List (NestedKey × PyData)} {i : Nat} {y : NestedKey × Addr × V}, DKV Hs xs kvs → xs[i]? = some y → ∃ z, kvs[i]? = some z ∧ Dat Hs (.ref y.2.1) z.1.data ∧ Dat Hs y.2.2 z.2
  | _, _, _, _, .nil, e => by simp at e
  | _, _, 0, _, .cons h _, e => by
    simp at e; subst e
    exact ⟨_, rfl, h.2.2.1, h.2.2.2⟩
  | _, _, i + 1, _, .cons _ r, e => by
    obtain ⟨u, h1, h2⟩ := dkv_at (i := i) r (by simpa using e)
    exact ⟨u, by simpa using h1, h2⟩
def ItDk (P : Program) (w : World) (d : Addr) (o : Obj) (xs : List (NestedKey × Addr × V)) : It :=
  ⟨fun i H => H d = some (.frz o (dkO P w d xs)) ∧ i < xs.length, fun i H x H' => H' = H ∧ ∃ y, xs[i]? = some y ∧ x = .ref y.2.1, fun i H => H d = some (.frz o (dkO P w d xs)) ∧ xs.length ≤ i⟩
def ItDv (P : Program) (w : World) (d : Addr) (o : Obj) (xs : List (NestedKey × Addr × V)) : It :=
  ⟨fun i H => H d = some (.frz o (dkO P w d xs)) ∧ i < xs.length, fun i H x H' => H' = H ∧ ∃ y, xs[i]? = some y ∧ x = y.2.2, fun i H => H d = some (.frz o (dkO P w d xs)) ∧ xs.length ≤ i⟩
/-- a locked dict's object -/
theorem frz_dk {pins : List (Addr × Obj)} {σ : L2.St} {H : Hp} {s : Shared} {d : Addr} {o : Obj} {xs : List (NestedKey × Addr × V)} (I : Inv X pins σ H s) (hd : H d = some (.frz o (dkO X.prog X.w d xs))) :
    (d == sysModules) = false ∧ s.heap.get? d = some o ∧ o.ExactDict ∧ ∃ es ep us, o.data = .dict es ep ∧ es.size = xs.length ∧ PXU xs us ∧ es.toList = us.map (entryOfKey (nestedKind X.prog X.w)) := by
  obtain ⟨h0, ⟨hs, hz, us, pu, o', es, ep, h1, h2, h3, h4, h5⟩, _⟩ := I.hok d _ hd
  rw [h0] at h1
  cases h1
  exact ⟨hs, h0, h2, es, ep, us, h3, by rw [size_of_entries h4, pxu_len pu], pu, h4⟩
theorem turn_dk {P : Program} {w : World} {K : PySem.W.Frag} {d : Addr} {o : Obj} {es : Array DictEntry} {ep : Nat} {xs : List (NestedKey × Addr × V)} (it : Addr) (hod : o.data = .dict es ep) : Turn P w K tg (ItDk P w d o xs) [it] it (fun i h => h.IsKeyIter it d i xs.length ep) where
  mem := by simp
  obj := fun i h st b hb => by
    have e : b = it := by simpa using hb
    subst e
    obtain ⟨oi, e, c, dd⟩ := st
    exact ⟨oi, e, fun v z => by rw [dd] at z; cases z⟩
  keep := fun i h h' st k => st.at fun oi e => k it (by simp) oi e
  item := by
    intro X hP hw hK hc i pins s σ H E I hf st hg
    subst hP hw hK
    obtain ⟨hd, hi⟩ := hg
    obtain ⟨f0, f1, f2, f3, f4, f5⟩ := hf it (by simp)
    obtain ⟨hs, hgd, hx, es', ep', us, hdt, hsz, pu, ent⟩ := frz_dk I hd
    obtain ⟨rfl, rfl⟩ := dict_ep hod hdt
    have hy : xs[i]? = some xs[i] := List.getElem?_eq_getElem hi
    obtain ⟨u, hu, ru⟩ := pxu_at pu hy
    have hen : es'[i]? = some (entryOfKey (nestedKind X.prog X.w) (xs[i].1, xs[i].2.1, u)) := by rw [entry_at ent, hu]; rfl
    refine next_key_item st hgd hdt hsz hen fun h' st' sb => ?_
    have I1 : Inv X pins σ H { s with heap := h' } := I.turned (t' := s.toks) (fun b ob hb e => (sb.2 b hb).trans e) f0 f1 f3 f4 f5
    obtain ⟨oi, e, c, dd⟩ := id st'
    exact ⟨.ref xs[i].2.1, rfl, go_of (s := { s with heap := h' }) e c dd (by decide) ⟨.ref xs[i].2.1, H, I1, rfl, ⟨rfl, _, hy, rfl⟩, st', fun b hb => (hf b hb).1⟩⟩
  done := by
    intro X hP hw hK hc i pins s σ H E I hf st hg
    subst hP hw hK
    obtain ⟨hd, hi⟩ := hg
    obtain ⟨f0, f1, f2, f3, f4, f5⟩ := hf it (by simp)
    obtain ⟨hs, hgd, hx, es', ep', us, hdt, hsz, pu, ent⟩ := frz_dk I hd
    obtain ⟨rfl, rfl⟩ := dict_ep hod hdt
    exact next_key_end (I.ok.hd hc) st hgd hdt hsz hi fun h' eb => ⟨rfl, I.turned (t' := s.toks) (fun b ob hb e => eb b ob hb e) f0 f1 f3 f4 f5⟩
  self := fun A i s Q E st h => wpAny_pyIter_keyiter st h
theorem turn_dv {P : Program} {w : World} {K : PySem.W.Frag} {d : Addr} {o : Obj} {es : Array DictEntry} {ep : Nat} {xs : List (NestedKey × Addr × V)} (it : Addr) (hod : o.data = .dict es ep) (hxs : es.size = xs.length) : Turn P w K tg (ItDv P w d o xs) [it] it (fun i h => h.IsValIter it d i es.size ep) where
  mem := by simp
  obj := fun i h st b hb => by
    have e : b = it := by simpa using hb
    subst e
    obtain ⟨oi, e, c, dd⟩ := st
    exact ⟨oi, e, fun v z => by rw [dd] at z; cases z⟩
  keep := fun i h h' st k => st.at fun oi e => k it (by simp) oi e
  item := by
    intro X hP hw hK hc i pins s σ H E I hf st hg
    subst hP hw hK
    obtain ⟨hd, hi⟩ := hg
    obtain ⟨f0, f1, f2, f3, f4, f5⟩ := hf it (by simp)
    obtain ⟨hs, hgd, hx, es', ep', us, hdt, hsz, pu, ent⟩ := frz_dk I hd
    obtain ⟨rfl, rfl⟩ := dict_ep hod hdt
    have hy : xs[i]? = some xs[i] := List.getElem?_eq_getElem hi
    obtain ⟨u, hu, ru⟩ := pxu_at pu hy
    have hi' : i < es'.size := by omega
    have hen : es'[i]? = some (entryOfKey (nestedKind X.prog X.w) (xs[i].1, xs[i].2.1, u)) := by rw [entry_at ent, hu]; rfl
    have hev : es'[i].val = u := by
      rw [Array.getElem?_eq_getElem hi'] at hen
      rw [Option.some.inj hen]
      rfl
    refine wpAny_pyNext_values_item_raw st ⟨o, hgd, hx, hdt⟩ hi' fun h' st' sb => ?_
    have I1 : Inv X pins σ H { s with heap := h' } := I.turned (t' := s.toks) (fun b ob hb e => (sb.2 b hb).trans e) f0 f1 f3 f4 f5
    obtain ⟨oi, e, c, dd⟩ := id st'
    rw [hev]
    exact ⟨u, rfl, go_of (s := { s with heap := h' }) e c dd (by decide) ⟨xs[i].2.2, H, I1, ru, ⟨rfl, _, hy, rfl⟩, st', fun b hb => (hf b hb).1⟩⟩
  done := by
    intro X hP hw hK hc i pins s σ H E I hf st hg
    subst hP hw hK
    obtain ⟨hd, hi⟩ := hg
    obtain ⟨f0, f1, f2, f3, f4, f5⟩ := hf it (by simp)
    obtain ⟨hs, hgd, hx, es', ep', us, hdt, hsz, pu, ent⟩ := frz_dk I hd
    obtain ⟨rfl, rfl⟩ := dict_ep hod hdt
    exact wpAny_pyNext_values_end_raw (I.ok.hd hc) st ⟨o, hgd, hx, hdt⟩ (by omega) fun h' eb => ⟨rfl, I.turned (t' := s.toks) (fun b ob hb e => eb b ob hb e) f0 f1 f3 f4 f5⟩
  self := fun A i s Q E st h => wpAny_pyIter_valiter st h
def iDk (X : Cx) (td : TE) : TI := fun σ H R => td σ H fun x H1 => ∃ d o xs, x = .ref d ∧ H1 d = some (.frz o (dkO X.prog X.w d xs)) ∧ R (ItDk X.prog X.w d o xs) H1
def iDv (X : Cx) (td : TE) : TI := fun σ H R => td σ H fun x H1 => ∃ d o xs, x = .ref d ∧ H1 d = some (.frz o (dkO X.prog X.w d xs)) ∧ R (ItDv X.prog X.w d o xs) H1
theorem pi_dk {td : TE} (he : PE X e td) : PI X tg e (iDk X td) := by
  refine ⟨fun pins s σ H R I h => ?_⟩
  refine thn (he.run pins s σ H _ I h) fun u s1 ⟨x, H1, I1, rx, d, o, xs, ex, hd, q⟩ => ?_
  subst ex
  obtain rfl : u = Value.ref d := rx
  obtain ⟨hs, hgd, hx, es, ep, us, hdt, hsz, pu, ent⟩ := frz_dk I1 hd
  refine iter_keys hs hgd hx hdt (pi_one (tk := s1.toks) I1 _ (turn_dk _ hdt) ⟨_, Heap.get?_push_size _ rfl, rfl, ?_⟩ q)
  rw [hsz] <;> rfl
theorem pi_dv {td : TE} {apos cpos : Pos} (he : PE X e td) (hbase : attributeBase e "values" X.env (eval e X.env) = eval e X.env := by rfl) (hline : (apos.endLine == cpos.line) = true := by rfl) : PI X tg (.Call (.Attribute e "values" apos) [] [] cpos) (iDv X td) := by
  refine ⟨fun pins s σ H R I h => ?_⟩
  refine wpAny_Call_method (T := "dict") (id := "dict.values") hbase rfl hline F.plainAttrs_dict F.slot_dict_values F.type_dict_values (thn (he.run pins s σ H _ I h) fun u s1 ⟨x, H1, I1, rx, d, o, xs, ex, hd, q⟩ => ?_)
  subst ex
  obtain rfl : u = Value.ref d := rx
  obtain ⟨hs, hgd, hx, es, ep, us, hdt, hsz, pu, ent⟩ := frz_dk I1 hd
  have hT : s1.TypeIs (.ref d) "dict" := ⟨o, hgd, hx.1⟩
  refine ⟨hT, fun b e => by injection e with e; subst e; exact ⟨o, hgd, hx.2.1⟩, ?_⟩
  have I2 : Inv X pins σ H1 { s1 with heap := s1.heap.push { cls := .type "dict_values", data := .fields #[.ref d] } } := I1.kept (t' := s1.toks) fun b ob q => Heap.get?_push_of_some _ q
  have fin : wpAny (model X.prog X.w) X.A (pyIter (.ref s1.heap.objs.size)) (PIE X pins σ tg R) X.xe { s1 with heap := s1.heap.push { cls := .type "dict_values", data := .fields #[.ref d] } } := by
    exact wpAny_pyIter_values_raw (d := d) (es := es) (ep := ep) ⟨_, Heap.get?_push_size _ rfl, rfl, rfl⟩ ⟨o, Heap.get?_push_of_some _ hgd, hx, hdt⟩ (pi_one (tk := s1.toks) I2 _ (turn_dv _ hdt hsz) ⟨_, Heap.get?_push_size _ rfl, rfl, rfl⟩ q)
  show wpAny _ _ (callWith cpos (.builtin "dict.values") [.ref d] [] []) _ X.xe s1
  exact method_meetsIn F.slot_dict_values F.entry_dict_values rfl (PySem.evalArgs_none ⟨rfl, hT, F.args_dict_values_1 _, _, meets_dict_values_raw d hs, ⟨es, ep, o, hgd, hx, hdt⟩, fin⟩)
theorem itdk_ok {Hs : Hp} {P : Program} {w : World} {d : Addr} {o : Obj} {xs : List (NestedKey × Addr × V)} (h : Hs d = some (.frz o (dkO P w d xs))) (hd : DKV Hs xs kvs) : ItOk Hs (ItDk P w d o xs) (kvs.map fun z => z.1.data) := fun i Hs1 H1 s1 s2 => ⟨fun y e => by
    obtain ⟨z, hz, rfl⟩ := map_at e
    have hi : i < xs.length := by rw [dkv_len hd]; exact (List.getElem?_eq_some_iff.mp hz).1
    refine ⟨⟨s2 _ _ (s1 _ _ h), hi⟩, fun u H2 ⟨e2, y, hy, ey⟩ => ?_⟩
    subst e2; subst ey
    obtain ⟨z', hz', k1, _⟩ := dkv_at hd hy
    rw [hz] at hz'
    cases hz'
    exact ⟨Hs1, Grw.refl s2, k1.mono s1⟩, fun hl => ⟨s2 _ _ (s1 _ _ h), by rw [List.length_map] at hl; rw [dkv_len hd]; exact Nat.le_of_eq hl⟩⟩
theorem itdv_ok {Hs : Hp} {P : Program} {w : World} {d : Addr} {o : Obj} {xs : List (NestedKey × Addr × V)} (h : Hs d = some (.frz o (dkO P w d xs))) (hd : DKV Hs xs kvs) : ItOk Hs (ItDv P w d o xs) (kvs.map fun z => z.2) := fun i Hs1 H1 s1 s2 => ⟨fun y e => by
    obtain ⟨z, hz, rfl⟩ := map_at e
    have hi : i < xs.length := by rw [dkv_len hd]; exact (List.getElem?_eq_some_iff.mp hz).1
    refine ⟨⟨s2 _ _ (s1 _ _ h), hi⟩, fun u H2 ⟨e2, y, hy, ey⟩ => ?_⟩
    subst e2; subst ey
    obtain ⟨z', hz', _, k2⟩ := dkv_at hd hy
    rw [hz] at hz'
    cases hz'
    exact ⟨Hs1, Grw.refl s2, k2.mono s1⟩, fun hl => ⟨s2 _ _ (s1 _ _ h), by rw [List.length_map] at hl; rw [dkv_len hd]; exact Nat.le_of_eq hl⟩⟩
theorem frz_size {pins : List (Addr × Obj)} {σ : L2.St} {H : Hp} {s : Shared} {d : Addr} {o : Obj} {xs : List (NestedKey × Addr × V)} (I : Inv X pins σ H s) (hd : H d = some (.frz o (dkO X.prog X.w d xs))) : xs.length ≤ sizeLine := by
  obtain ⟨h0, ⟨hs, hz, _⟩, _⟩ := I.hok d _ hd
  exact hz
/-- for k in d -/
theorem di_keys (h : DAr X r e (.fd X.prog X.w kvs)) : DI X r tg e (kvs.map fun z => z.1.data) := PI.wk (pi_dk h) fun σ H R ⟨Hs0, H0, Hs, A, q⟩ => ⟨Hs0, H0, Hs, A, fun v Hs' H' g ⟨d, o, xs, ev, h1, h2⟩ =>
  ⟨d, o, xs, ev, g.sub _ _ h1, fun ⟨_, _, I⟩ => q _ Hs' H' g (itdk_ok h1 h2) (by rw [List.length_map, ← dkv_len h2]; exact frz_size I (g.sub _ _ h1))⟩⟩
/-- for v in d.values() -/
theorem di_vals {apos cpos : Pos} (h : DAr X r e (.fd X.prog X.w kvs)) (hbase : attributeBase e "values" X.env (eval e X.env) = eval e X.env := by rfl) (hline : (apos.endLine == cpos.line) = true := by rfl) : DI X r tg (.Call (.Attribute e "values" apos) [] [] cpos) (kvs.map fun z => z.2) := PI.wk (pi_dv h hbase hline) fun σ H R ⟨Hs0, H0, Hs, A, q⟩ => ⟨Hs0, H0, Hs, A, fun v Hs' H' g ⟨d, o, xs, ev, h1, h2⟩ =>
  ⟨d, o, xs, ev, g.sub _ _ h1, fun ⟨_, _, I⟩ => q _ Hs' H' g (itdv_ok h1 h2) (by rw [List.length_map, ← dkv_len h2]; exact frz_size I (g.sub _ _ h1))⟩⟩
end
end Dl

namespace Dl
open PySem L2 PySem.W PyProof.Rows
/-! ## sorted(d) -/
section
variable {prog : Program} {w : World} {A : Around} {E : Value → Shared → Prop} {s : Shared}
theorem sorted_coll {β : Type} {src : Value} {us : List Value} {bs : List β} {enc : β → PyData} {R : Value → β → Prop} {Q : Value → Shared → Prop}
    (col : ∀ (A' : Around) (E' : Value → Shared → Prop) (Q' : List Value → Shared → Prop), A'.handled = A.handled → (∀ h' tk, (∀ b o, s.heap.get? b = some o → h'.get? b = some o) → Q' us { s with heap := h', toks := tk }) → wpAny (model prog w) A' (collect src) Q' E' s)
    (e : EachIs R us bs) (er : EachIs (fun v b => ∃ as, Reads s.heap v (enc b) as) us bs) (hal : AllAlike (bs.map enc)) (hk : Sortable (bs.map enc)) (hL : bs.length ≤ sizeLine) (hu : ∀ b, b ∈ bs → A.units + 2 + (enc b).depth < cLine)
    (q : ∀ h' tk p out n, out.length = bs.length → EachIs R out (bs.mergeSort (dataLe false enc)) → (∀ b o, s.heap.get? b = some o → h'.get? b = some o) → s.heap.get? p = none → h'.get? p = some (seqObj "list" (List.toArray out) n) → Q (.ref p) { s with heap := h', toks := tk }) :
    wpAny (model prog w) A (call (.builtin "sorted") [src]) Q E s := by
  have hz : us.length ≤ sizeLine := by rw [e.length]; exact hL
  refine call_function_entry_kw kind_sorted plain_sorted entry_sorted (args_sorted1 _) ?_
  unfold Builtin.«sorted»
  refine wpAny_bind (m := checkCount "sorted" 1 1 _) (wpAny_pure ?_)
  refine wpAny_bind (col _ _ _ rfl fun h' tk kp => ?_)
  refine wpAny_bind (wpAny_newList ?_ hz)
  have hat : (h'.push (seqObj "list" us.toArray 0)).get? h'.objs.size = some (seqObj "list" us.toArray 0) := Heap.get?_push_size _ rfl
  have hsz : s.heap.get? h'.objs.size = none := by
    cases e0 : s.heap.get? h'.objs.size with
    | none => rfl
    | some o => exact absurd (Heap.lt_size (kp _ _ e0)) (Nat.lt_irrefl _)
  have er' : EachIs (fun v b => ∃ as, Reads (sortingHeap (h'.push (seqObj "list" us.toArray 0)) h'.objs.size us) v (enc b) as) us bs := er.mono fun _ _ ⟨as, z⟩ => ⟨as, Reads.keeps (fun b o hb => sortingHeap_old (Nat.ne_of_lt (Heap.lt_size (kp _ _ hb))) (Heap.get?_push_of_some _ (kp _ _ hb))) z⟩
  have S := SortsAt.data (A := A.in1.in1) (prog := prog) (w := w) (s := { s with heap := sortingHeap (h'.push (seqObj "list" us.toArray 0)) h'.objs.size us, toks := tk }) (each_map (R := fun v d => ∃ as, Reads (sortingHeap (h'.push (seqObj "list" us.toArray 0)) h'.objs.size us) v d as) enc er') hal hk (bound_map hu)
  refine wpAny_bind (wpAny_holding (wpAny_call_entry_kw slot_list_sort ⟨_, hat, rfl⟩ entry_list_sort ?body (args_list_sort _)))
  case body =>
    change wpAny (model prog w) A.in1.in1 (Builtin.«list.sort» ⟨[Value.ref h'.objs.size], []⟩) _ _ _
    refine wpAny_mono (list_sort_vals (s := { s with heap := h'.push (seqObj "list" us.toArray 0), toks := tk }) (P := fun f s' => f = .done (.ret .none) ∧ Q (.ref h'.objs.size) s') hat S hz ⟨rfl, ?_⟩) (fun f s' hf => ?_) fun _ _ z => z
    · obtain ⟨n, hn⟩ := sortedHeap_at (vs := us) (out := (sortVals _ false us us).toArray) hat
      exact q _ tk _ _ n (by rw [sortVals_length false rfl]; exact e.length) (sortVals_data false e er' hal) (fun b o hb => by
        have h1 := kp _ _ hb
        have hlt := Heap.lt_size h1
        rw [sortedHeap_old (Nat.ne_of_lt hlt) (by rw [size_push']; exact Nat.lt_succ_of_lt hlt)]
        exact Heap.get?_push_of_some _ h1) hsz hn
    · obtain ⟨rfl, hq⟩ := hf
      exact ⟨_, rfl, wpAny_pure ⟨_, rfl, hq⟩⟩
end
theorem ObjOk.there {P : Program} {w : World} {H : Hp} {h : Heap} {a : Addr} {o : HO} (x : ObjOk P w H h a o) : ∃ ob, h.get? a = some ob := by
  cases o with
  | lst xs => obtain ⟨_, _, _, _, e⟩ := x; exact ⟨_, e⟩
  | tup xs => obtain ⟨_, _, _, ob, e, _⟩ := x; exact ⟨_, e⟩
  | dK kvs => obtain ⟨_, _, _, _, o, _, _, e, _⟩ := x; exact ⟨_, e⟩
  | dT kvs => obtain ⟨_, _, _, _, o, _, _, e, _⟩ := x; exact ⟨_, e⟩
  | set S n => obtain ⟨o, _, _, _, e, _⟩ := x; exact ⟨_, e⟩
  | ins C dx fs => obtain ⟨_, _, _, e, _⟩ := x; exact ⟨_, e⟩
  | own y => exact x
  | xd fs => obtain ⟨_, ⟨_, _, _, e, _⟩, _⟩ := x; exact ⟨_, e⟩
  | rng lo hi => obtain ⟨_, _, _, e⟩ := x; exact ⟨_, e⟩
  | frz ob u => obtain ⟨e, _⟩ := x; exact ⟨_, e⟩
  | tbl ps => exact ⟨_, x⟩
  | met f y => exact ⟨_, x⟩
  | ext φ => obtain ⟨_, e, _⟩ := x; exact e
theorem Inv.newAt {X : Cx} {pins : List (Addr × Obj)} {σ : L2.St} {H : Hp} {s : Shared} {p : Addr} (I : Inv X pins σ H s) (h : s.heap.get? p = none) : H p = none := by
  cases e : H p with
  | none => rfl
  | some u =>
    obtain ⟨ob, eo⟩ := ObjOk.there (I.hok p u e)
    rw [h] at eo; cases eo
section
variable {X : Cx} {E : XK} {r : Rho} {e : Expr} {pos p : Pos} {kvs : List (NestedKey × PyData)} {ds : List PyData}
theorem dkv_dats {Hs : Hp} : ∀ {xs : List (NestedKey × Addr × V)} {kvs : List (NestedKey × PyData)}, DKV Hs xs kvs → Dats Hs (xs.map fun x => V.ref x.2.1) (kvs.map fun z => z.1.data)
  | _, _, .nil => .nil
  | _, _, .cons h r => .cons h.2.2.1 (dkv_dats r)
theorem pxu_vals : ∀ {xs : List (NestedKey × Addr × V)} {us : List (NestedKey × Addr × Value)}, PXU xs us → Vals (xs.map fun x => V.ref x.2.1) (us.map fun y => Value.ref y.2.1)
  | _, _, .nil => .nil
  | _, _, .cons h r => .cons (by show Value.ref _ = _; rw [h.2.1]) (pxu_vals r)
def rSortK (X : Cx) : List V → Hp → VK → Prop := fun vs H Q => ∃ Hs a xs kvs, vs = [.ref a] ∧ Same Hs H ∧ Rd H a (dkO X.prog X.w a xs) ∧ DKV Hs xs kvs ∧ AllAlike (kvs.map fun z => z.1.data) ∧ Sortable (kvs.map fun z => z.1.data) ∧ (∀ d ∈ kvs.map fun z => z.1.data, d.depth ≤ 60) ∧ (∀ d ∈ kvs.map fun z => z.1.data, Dl.lo d = d) ∧
  ∀ q ys, H q = none → Dats Hs ys (sortD (kvs.map fun z => z.1.data)) → Q (.ref q) (upd H q (.lst ys))
theorem cr_sortK (hc : X.calm = true) (hu : X.A.units + 64 < cLine) : CallR X (.builtin "sorted") (rSortK X) := fun pins s σ H vs us Q I rv ⟨Hs, a, xs, kvs, ev, hsub, hr, hd, hal, hk, hdp, hlo, q⟩ => by
  subst ev
  obtain ⟨u, rfl, ru⟩ := vals1 rv
  obtain rfl : u = Value.ref a := ru
  obtain ⟨ws, pu, hm, hsm, hz⟩ := inv_dk I hr (hd.mono hsub)
  obtain ⟨es, ep, hraw, hes, hent⟩ := hm.raw
  have hx := dkv_dats hd
  have hv := pxu_vals pu
  have lz : ((xs.map fun x => V.ref x.2.1).zip (kvs.map fun z => z.1.data)).length = xs.length := by rw [List.length_zip, List.length_map, List.length_map, dkv_len hd, Nat.min_self]
  refine sorted_coll (us := ws.map fun y => Value.ref y.2.1) (bs := (xs.map fun x => V.ref x.2.1).zip (kvs.map fun z => z.1.data)) (enc := fun b => b.2) (R := fun v b => RelV b.1 v ∧ Dat Hs b.1 b.2) (fun A' E' Q' hA hq => ?_) (dats_each hx hv) ((dats_each' hx hv hlo).mono fun v b z => ?_) (by rw [zip_snd hx]; exact hal) (by rw [zip_snd hx]; exact hk) (by rw [lz]; exact hz) (fun b hb => ?_) (fun h' tk pp out n ho eo kp hn hat => ?_)
  · refine kdu_collect (KdlSrc.rawDict (es := es) (ep := ep) hsm) (hA.trans (I.ok.hd hc)) hraw (by rw [hes, ← pxu_len pu]; exact hz) fun h' tk acc kp items => ?_
    have e1 : acc.toList = ws.map fun y => Value.ref y.2.1 := by
      obtain ⟨hlen, hat⟩ := items
      apply List.ext_getElem?
      intro i
      by_cases hi : i < es.size
      · obtain ⟨y, hy, k1, _, _⟩ := hent i hi
        have hi2 : i < acc.size := by rw [hlen]; exact hi
        obtain ⟨hi', ev⟩ := hat i _ (Array.getElem?_eq_getElem hi2)
        rw [List.getElem?_map, hy, Array.getElem?_toList, Array.getElem?_eq_getElem hi2, ev, k1]
        rfl
      · rw [List.getElem?_eq_none (by rw [Array.length_toList, hlen]; omega), List.getElem?_eq_none (by rw [List.length_map, ← hes]; omega)]
    rw [e1]
    exact hq h' tk kp
  · obtain ⟨as, z2⟩ := z.2.1.reads hsub I z.1
    rw [z.2.2] at z2
    exact ⟨as, z2⟩
  · have := hdp b.2 (by rw [← zip_snd hx]; exact List.mem_map.mpr ⟨b, hb, rfl⟩)
    show X.A.units + 2 + b.2.depth < cLine
    omega
  · obtain ⟨e1, e2⟩ := each_dats eo
    rw [zip_sort hx] at e2
    have hf := Inv.newAt I hn
    refine ⟨.ref pp, _, I.laidN (t' := tk) (a := pp) (o := .lst _) kp hn hf ⟨?_, out, n, e1, hat⟩, rfl, q _ _ hf e2⟩
    rw [e1.length, ho, lz]
    exact hz
theorem dn_sortK (hc : X.calm = true) (hu : X.A.units + 64 < cLine) (hm : X.mg "sorted" = none) (ha : DD X r e kvs) (hs : (kvs.map fun z => z.1.data) = ds) (hal : AllAlike ds) (hk : Sortable ds) (hd : ∀ d ∈ ds, d.depth ≤ 60) (hlo : ∀ d ∈ ds, Dl.lo d = d) (hg : Gl X "sorted" := by rfl)
    (he : starEach (e :: []) X.env = (false, eval e X.env) :: starEach [] X.env := by rfl) (hpl : (backTo pos (starEach [] X.env)).any (·.1) = false := by rfl) : DN X r (.Call (.Name "sorted" p) [e] [] pos) (sortD ds) := by
  subst hs
  exact PE.wk (pe_callB (cr_sortK hc hu) hg hm (by decide +kernel) (pa_cons ha pa_nil he) (by decide) (by decide) he hpl) fun _ _ σ H Q _ ⟨Hs0, H0, Hs, A, q⟩ => ⟨Hs0, H0, Hs, A, fun a xs Hs1 H1 g1 z1 z2 => ⟨Hs1, a, xs, kvs, rfl, g1.sub, z1, z2, hal, hk, hd, hlo, fun z ys hz hy => q z ys Hs1 _ (g1.trans (Grw.laidO g1.sub hz)) (g1.all.free hz) (g1.sub.free hz) upd_same hy⟩⟩
end
/-! ## defs that return a thing of their own -/
def spR (K : PySem.W.Frag) (R : Rho → Slot → Prop) : Sp := fun vs H Q _ => ∃ Hs as s, Same Hs H ∧ Args K Hs vs as ∧ R as s ∧ ∀ v Hs' H' G, Grw Hs H Hs' H' → (∀ x ∈ G, H x = none ∧ Hs' x = none ∧ H' x ≠ none) → SlotF K Hs' H' s (some (some v)) G → Q v H'
section
variable {P : Program} {w : World} {K : PySem.W.Frag} {mg : Str → Option Value} {base : Heap}
theorem okR {x qual : Str} {st : Stmt} {f : Addr} {fd : FuncData} {N ps : List Str} {k : Nat} {R : Rho → Slot → Prop} (F : Fun K x qual st f fd) (S : FnScope N ps (defScope st)) (len : ∀ as s, R as s → as.length = ps.length) (hn : ps.length ≤ N.length)
    (hb : ∀ (cdv : Value) (A : Around) (outer : List Env) (s : Shared) (H : Hp) (E : XK), Room k (A.deeper (PyProof.Rows.envOfC qual (defScope st) s.heap.objs.size f cdv)) → ∀ as sl, R as sl →
      DSs (cx0 P w K mg base N qual (defScope st) f cdv A outer s H E) E0 (as ++ List.replicate (N.length - as.length) .un) (defBody st) { nx := fun _ => False, rs := fun z => z = sl }) : FnOk P w K mg base CX0 (k + 1) f fd ps (spR K R) := by
  refine F.ok S (fun vs H Q E h => ?_) (fun cdv A outer s H vs Q E hr h => ?_)
  · obtain ⟨Hs, as, d, _, ha, hR, _⟩ := h
    rw [ha.length]
    exact len as d hR
  · obtain ⟨Hs, as, sl, hs, ha, hR, q⟩ := h
    refine ⟨_, hb cdv A outer s H E hr as sl hR, Hs, H, Hs, args_slots hs ha (by rw [len as sl hR]; exact hn), ?_⟩
    exact ⟨fun r' σ' Hs' H' p a _ => p.elim, fun d' v Hs' H' p g hv => p.elim, fun _ _ _ _ p => p.elim, fun _ _ _ _ p => p.elim, fun _ _ _ _ _ p => p.elim, fun s' v Hs' H' G p g hG h => q v Hs' H' G g hG (by rw [← p]; exact h), fun _ _ _ _ _ _ p => p.elim⟩
/-- the def keeps the promise R, by level k -/
abbrev Dfn.OkR (P : Program) (w : World) (base : Heap) {name : Str} {st : Stmt} {ps : List Str} (D : Dfn K mg name st ps) (k : Nat) (R : Rho → Slot → Prop) : Prop := FnOk P w K mg base CX0 k D.f D.fd ps (spR K R)
end
section
variable {X : Cx} {r : Rho} {e : Expr} {pos p : Pos} {d : PyData} {k : Nat} {R : Rho → Slot → Prop} {as : Rho} {x : Str} {es : List Expr} {st : Stmt} {ps : List Str} {sl : Slot}
theorem dcR (D : Dfn X.K X.mg x st ps) (F : FnOk X.prog X.w X.K X.mg X.base CX0 k D.f D.fd ps (spR X.K R)) {k' : Nat} (hr : Room k' X.A) (hk : k ≤ k') (ha : DA X r (e :: es) as) (hR : R as sl) (hg : Gl X x := by rfl)
    (hdb : (x == ("__debug__" : Str)) = false := by decide) (he : starEach (e :: es) X.env = (false, eval e X.env) :: starEach es X.env := by rfl) (hpl : (backTo pos (starEach es X.env)).any (·.1) = false := by rfl) : DR X r (.Call (.Name x p) (e :: es) [] pos) sl :=
  PE.wk (pe_call F (hr.mono hk) hg D.g D.F.kp D.b .nil pass0 ha hdb he hpl) fun _ _ σ H Q _ ⟨Hs0, H0, Hs, A, q⟩ => ⟨Hs0, H0, Hs, A, fun vs Hs1 H1 g1 h1 => by
    show spR X.K R (vs ++ []) H1 Q E0
    rw [List.append_nil]
    exact ⟨Hs1, as, sl, g1.sub, h1, hR, fun v Hs2 H2 G g2 hG h2 => q v Hs2 H2 G (g1.trans g2) (fun x m => ⟨g1.all.free (hG x m).1, (hG x m).2⟩) h2⟩⟩
end
end Dl

namespace Dl
open PySem L2 PySem.W PyProof.Rows
/-! ## rows of natural numbers, by Python's order -/
def lxLt : List Nat → List Nat → Bool
  | [], [] => false
  | [], _ :: _ => true
  | _ :: _, [] => false
  | x :: xs, y :: ys => if x = y then lxLt xs ys else decide (x < y)
def lxLe (a b : List Nat) : Bool := !lxLt b a
theorem lx_irr : ∀ a : List Nat, lxLt a a = false
  | [] => rfl
  | x :: xs => by rw [lxLt, if_pos rfl]; exact lx_irr xs
theorem lx_trans : ∀ {a b c : List Nat}, lxLt a b = true → lxLt b c = true → lxLt a c = true
  | [], [], _, h, _ => by cases h
  | [], _ :: _, [], _, h => by cases h
  | [], _ :: _, _ :: _, _, _ => rfl
  | _ :: _, [], _, h, _ => by cases h
  | _ :: _, _ :: _, [], _, h => by cases h
  | x :: xs, y :: ys, z :: zs, h1, h2 => by
    rw [lxLt] at h1 h2 ⊢
    by_cases e1 : x = y
    · rw [if_pos e1] at h1
      by_cases e2 : y = z
      · rw [if_pos e2] at h2
        rw [if_pos (e1.trans e2)]
        exact lx_trans h1 h2
      · rw [if_neg e2] at h2
        rw [if_neg (fun q => e2 (e1 ▸ q)), e1]
        exact h2
    · rw [if_neg e1] at h1
      have h1 := of_decide_eq_true h1
      by_cases e2 : y = z
      · rw [if_neg (fun q => e1 (q.trans e2.symm)), ← e2]
        exact decide_eq_true h1
      · rw [if_neg e2] at h2
        have h2 := of_decide_eq_true h2
        rw [if_neg (by omega)]
        exact decide_eq_true (by omega)
theorem lx_tri : ∀ a b : List Nat, lxLt a b = true ∨ a = b ∨ lxLt b a = true
  | [], [] => .inr (.inl rfl)
  | [], _ :: _ => .inl rfl
  | _ :: _, [] => .inr (.inr rfl)
  | x :: xs, y :: ys => by
    rw [lxLt, lxLt]
    by_cases e : x = y
    · subst e
      rw [if_pos rfl, if_pos rfl]
      rcases lx_tri xs ys with h | h | h
      · exact .inl h
      · exact .inr (.inl (by rw [h]))
      · exact .inr (.inr h)
    · rw [if_neg e, if_neg (fun q => e q.symm)]
      rcases Nat.lt_or_gt_of_ne e with h | h
      · exact .inl (decide_eq_true h)
      · exact .inr (.inr (decide_eq_true h))
theorem lx_asym {a b : List Nat} (h : lxLt a b = true) : lxLt b a = false := by
  cases e : lxLt b a with
  | false => rfl
  | true => rw [← lx_irr a, lx_trans h e]
theorem lxLe_antisymm {a b : List Nat} (h1 : lxLe a b = true) (h2 : lxLe b a = true) : a = b := by
  unfold lxLe at h1 h2
  rcases lx_tri a b with h | h | h
  · rw [h] at h2; cases h2
  · exact h
  · rw [h] at h1; cases h1
theorem lxLe_of_lt {a b : List Nat} (h : lxLt a b = true) : lxLe a b = true := by unfold lxLe; rw [lx_asym h]; rfl
theorem lxLe_total (a b : List Nat) : (lxLe a b || lxLe b a) = true := by
  unfold lxLe
  rcases lx_tri a b with h | h | h
  · rw [lx_asym h]; rfl
  · subst h; rw [lx_irr]; rfl
  · rw [lx_asym h]; simp
theorem lxLe_trans (a b c : List Nat) (h1 : lxLe a b = true) (h2 : lxLe b c = true) : lxLe a c = true := by
  unfold lxLe at *
  cases e : lxLt c a with
  | false => rfl
  | true =>
    rcases lx_tri a b with h | h | h
    · rw [lx_trans e h] at h2; cases h2
    · subst h; rw [e] at h2; cases h2
    · rw [h] at h1; cases h1
def sortL (xs : List (List Nat)) : List (List Nat) := xs.mergeSort lxLe
theorem sortL_perm (xs : List (List Nat)) : (sortL xs).Perm xs := List.mergeSort_perm _ _
theorem sortL_pw (xs : List (List Nat)) : (sortL xs).Pairwise fun a b => lxLe a b = true := List.pairwise_mergeSort lxLe_trans lxLe_total xs
theorem lx_unique {l m : List (List Nat)} (p : l.Perm m) (hl : l.Pairwise fun a b => lxLe a b = true) (hm : m.Pairwise fun a b => lxLe a b = true) : l = m :=
  p.eq_of_pairwise (fun a b _ _ h1 h2 => lxLe_antisymm h1 h2) hl hm
theorem sortL_eq {xs ys : List (List Nat)} (p : xs.Perm ys) (h : ys.Pairwise fun a b => lxLt a b = true) : sortL xs = ys := lx_unique ((sortL_perm xs).trans p) (sortL_pw xs) (h.imp fun q => lxLe_of_lt q)
theorem sortL_congr {xs ys : List (List Nat)} (p : xs.Perm ys) : sortL xs = sortL ys := lx_unique (((sortL_perm xs).trans p).trans (sortL_perm ys).symm) (sortL_pw xs) (sortL_pw ys)
theorem sortL_self {xs : List (List Nat)} (h : xs.Pairwise fun a b => lxLt a b = true) : sortL xs = xs := sortL_eq (List.Perm.refl _) h
theorem lx_nodup {l : List (List Nat)} (h : l.Pairwise fun a b => lxLt a b = true) : l.Nodup := h.imp fun q e => by subst e; rw [lx_irr] at q; cases q
/-- two strictly rising rows with the same members are one -/
theorem lx_ext {l m : List (List Nat)} (hl : l.Pairwise fun a b => lxLt a b = true) (hm : m.Pairwise fun a b => lxLt a b = true) (h : ∀ x, x ∈ l ↔ x ∈ m) : l = m :=
  lx_unique ((List.perm_ext_iff_of_nodup (lx_nodup hl) (lx_nodup hm)).mpr h) (hl.imp fun q => lxLe_of_lt q) (hm.imp fun q => lxLe_of_lt q)
/-! ### the data's order -/
theorem toks_nI (n : Nat) : keyToks (nI n) = [.inl (n : Int)] := by unfold nI; rw [keyToks]
theorem lex_rows : ∀ xs ys : List Nat, PyProof.Rows.lexLt itemOrd (keyToksAll (xs.map nI)) (keyToksAll (ys.map nI)) = lxLt xs ys
  | [], [] => by rw [List.map_nil, keyToksAll, lxLt]; exact lex_irrefl (O := itemOrd) _
  | [], y :: ys => by
    rw [List.map_nil, List.map_cons, keyToksAll, keyToksAll, lxLt]
    rw [lex_diff (O := itemOrd) (by simp)]
    rfl
  | x :: xs, [] => by
    rw [List.map_nil, List.map_cons, keyToksAll, keyToksAll, lxLt]
    rw [lex_diff (O := itemOrd) (by simp)]
    rfl
  | x :: xs, y :: ys => by
    rw [List.map_cons, List.map_cons, keyToksAll, keyToksAll, lex_self (O := itemOrd), toks_nI, toks_nI, lxLt]
    by_cases e : x = y
    · subst e
      rw [if_pos rfl]
      show PyProof.Rows.lexLt itemOrd (Sum.inl (x : Int) :: keyToksAll (xs.map nI)) (Sum.inl (x : Int) :: keyToksAll (ys.map nI)) = _
      rw [lex_self (O := itemOrd)]
      exact lex_rows xs ys
    · rw [if_neg e]
      show PyProof.Rows.lexLt itemOrd (Sum.inl (x : Int) :: keyToksAll (xs.map nI)) (Sum.inl (y : Int) :: keyToksAll (ys.map nI)) = _
      rw [lex_diff (O := itemOrd) (by intro q; injection q with q; omega)]
      show decide ((x : Int) < (y : Int)) = _
      exact decide_eq_decide.mpr (by omega)
theorem dataLe_nT (a b : List Nat) : dataLe false (fun d : PyData => d) (nT a) (nT b) = lxLe a b := by
  show (!PyProof.Rows.lexLt itemOrd (keyToks (nT b)) (keyToks (nT a))) = _
  unfold nT lxLe
  rw [keyToks, keyToks, lex_rows]
theorem sortD_rows (xs : List (List Nat)) : sortD (xs.map nT) = (sortL xs).map nT := by
  unfold sortD sortL
  rw [sort_maps (r := lxLe) (s := dataLe false fun d : PyData => d) nT fun a _ b _ => (dataLe_nT a b).symm]
theorem alike_nI : ∀ xs ys : List Nat, alikeAll (xs.map nI) (ys.map nI) = true
  | [], _ => by rw [List.map_nil, alikeAll]
  | _ :: _, [] => by rw [List.map_nil, List.map_cons, alikeAll]
  | x :: xs, y :: ys => by rw [List.map_cons, List.map_cons, alikeAll, alike_nI xs ys]; unfold nI; rw [alike]; rfl
theorem alike_rows (xs : List (List Nat)) : AllAlike (xs.map nT) := AllAlike.of fun a b => by unfold nT; rw [alike]; exact alike_nI a b
theorem sortable_rows {xs : List (List Nat)} (h : ∀ x ∈ xs, x ≠ []) : Sortable (xs.map nT) := .inl fun d hd => by
  obtain ⟨b, hb, rfl⟩ := List.mem_map.mp hd
  cases b with
  | nil => exact absurd rfl (h _ hb)
  | cons x r => exact ⟨nI x, r.map nI, rfl⟩
theorem depth_rows (xs : List (List Nat)) : ∀ d ∈ xs.map nT, d.depth ≤ 60 := fun d hd => by
  obtain ⟨b, _, rfl⟩ := List.mem_map.mp hd
  have := dep_nT b
  unfold depL at this
  rw [lo_nT] at this
  omega
theorem lo_rows (xs : List (List Nat)) : ∀ d ∈ xs.map nT, Dl.lo d = d := fun d hd => by
  obtain ⟨b, _, rfl⟩ := List.mem_map.mp hd
  exact lo_nT b
section
variable {X : Cx} {r : Rho} {e : Expr} {pos p : Pos} {d : PyData} {rows : List (List Nat)} {kvs : List (NestedKey × PyData)}
theorem dn_sortRows (hu : X.A.units + 64 < cLine) (hm : X.mg "sorted" = none) (ha : DE X r e d) (hs : seqOf d = some (rows.map nT)) (hne : ∀ x ∈ rows, x ≠ []) (hg : Gl X "sorted" := by rfl)
    (he : starEach (e :: []) X.env = (false, eval e X.env) :: starEach [] X.env := by rfl) (hpl : (backTo pos (starEach [] X.env)).any (·.1) = false := by rfl) : DN X r (.Call (.Name "sorted" p) [e] [] pos) ((sortL rows).map nT) :=
  (dn_sorted hu hm ha hs (alike_rows rows) (sortable_rows hne) (depth_rows rows) (lo_rows rows) hg he hpl).is (sortD_rows rows)
/-- sorted(d), the keys tuples of natural numbers -/
theorem dn_sortKRows (hc : X.calm = true) (hu : X.A.units + 64 < cLine) (hm : X.mg "sorted" = none) (ha : DD X r e kvs) (hs : (kvs.map fun z => z.1.data) = rows.map nT) (hne : ∀ x ∈ rows, x ≠ []) (hg : Gl X "sorted" := by rfl)
    (he : starEach (e :: []) X.env = (false, eval e X.env) :: starEach [] X.env := by rfl) (hpl : (backTo pos (starEach [] X.env)).any (·.1) = false := by rfl) : DN X r (.Call (.Name "sorted" p) [e] [] pos) ((sortL rows).map nT) :=
  (dn_sortK hc hu hm ha hs (alike_rows rows) (sortable_rows hne) (depth_rows rows) (lo_rows rows) hg he hpl).is (sortD_rows rows)
theorem de_neg {a : Expr} {i : Int} (ha : DE X r a (.int i)) : DE X r (.UnaryOp .USub a pos) (.int (-i)) := PE.wk (pe_un un_neg ha) fun _ _ σ H Q _ ⟨Hs0, H0, Hs, A, q⟩ => ⟨Hs0, H0, Hs, A, fun v Hs' H' g hv => ⟨i, hv.inv_int, q _ Hs' H' g (.int _)⟩⟩
theorem de_neg1 {k : Nat} {p1 : Pos} : DE X r (.UnaryOp .USub (.Constant (.int 1) k p1) pos) (.int (-1)) := de_neg de_int
end
end Dl

namespace Dl
open PySem L2 PySem.W PyProof.Rows
/-! ## isinstance of data -/
section
variable {X : Cx} {r : Rho} {e b : Expr} {pos p p2 : Pos} {d : PyData} {x : Str}
def IsaR (T : String) (f : PyData → Bool) : Prop := ∀ {prog : Program} {w : World} {A : Around} {E : Value → Shared → Prop} {s : Shared} {v : Value} {d : PyData} {as : List Addr} {Q : Value → Shared → Prop}, Reads s.heap v d as → (∀ tk, s.toks ≤ tk → Q (.bool (f d)) { s with toks := tk }) → wpAny (model prog w) A (call (.builtin "isinstance") [v, .type T]) Q E s
theorem isaR_bool : IsaR "bool" PyData.isBool := fun r h => isinstance_bool_data r h
theorem isaR_int : IsaR "int" PyData.isInt := fun r h => isinstance_int_data r h
theorem isaR_tuple : IsaR "tuple" PyData.isTuple := fun r h => isinstance_tuple_data r h
theorem isaR_str : IsaR "str" PyData.isStr := fun r h => isinstance_str_data r h
theorem cr_isi {T : String} {f : PyData → Bool} (hT : IsaR T f) : CallR X (.builtin "isinstance") (fun vs H Q => ∃ v d, vs = [v, .ty T] ∧ Dat H v d ∧ Q (.bl (f (Dl.lo d))) H) := fun pins s σ H vs us Q I rv ⟨v, d, ev, hv, q⟩ => by
  subst ev
  obtain ⟨u, w, rfl, r1, r2⟩ : ∃ u w, us = [u, w] ∧ RelV v u ∧ RelV (.ty T) w := by
    cases rv with
    | cons r1 t => cases t with | cons r2 t => cases t; exact ⟨_, _, rfl, r1, r2⟩
  obtain rfl : w = Value.type T := r2
  obtain ⟨as, hr⟩ := hv.reads (Same.refl H) I r1
  exact hT hr fun tk _ => ⟨.bl _, H, I.tok tk, rfl, q⟩
theorem pe_tyN {T : String} (hg : Gl X x) (hm : X.mg x = none) (hv : bootBuiltins x = some (.type T)) (hn : x ≠ "__name__" := by decide) (hd : (x == ("__debug__" : Str)) = false := by decide) : PE X (.Name x pos) (tC (.ty T)) := ⟨fun pins s σ H Q I h => ld_blt I hg hm hv ⟨.ty T, H, I, rfl, h⟩ hn hd⟩
theorem de_isa {T : String} {f : PyData → Bool} (hT : IsaR T f) (hi : X.mg "isinstance" = none) (hm : X.mg x = none) (hv : bootBuiltins x = some (.type T)) (ha : DE X r e d) (hg : Gl X x := by rfl) (hgi : Gl X "isinstance" := by rfl) (hn : x ≠ "__name__" := by decide) (hd : (x == ("__debug__" : Str)) = false := by decide)
    (e1 : starEach (e :: [.Name x p2]) X.env = (false, eval e X.env) :: starEach [.Name x p2] X.env := by rfl) (e2 : starEach [.Name x p2] X.env = (false, eval (.Name x p2) X.env) :: starEach [] X.env := by rfl) (hpl : (backTo pos (starEach [.Name x p2] X.env)).any (·.1) = false := by rfl) :
    DE X r (.Call (.Name "isinstance" p) [e, .Name x p2] [] pos) (.bool (f (Dl.lo d))) :=
  PE.wk (pe_callB (cr_isi hT) hgi hi (by decide +kernel) (pa_cons ha (pa_cons (pe_tyN hg hm hv hn hd) pa_nil e2) e1) (by decide) (by decide) e1 hpl) fun _ _ σ H Q _ ⟨Hs0, H0, Hs, A, q⟩ => ⟨Hs0, H0, Hs, A, fun v Hs' H' g hv => ⟨v, d, rfl, hv.mono g.sub, q _ Hs' H' g (.bl _)⟩⟩
theorem r2_isB {k k' : Bool} : R2D rIsB (.bool k) (.bool k') (.bool (decide (k = k'))) := fun x y Hs H Q hx hy hs q => ⟨k, k', hx.inv_bool, hy.inv_bool, q _ Hs H (Grw.refl hs) (.bl _)⟩
theorem r2_notB {k k' : Bool} : R2D rNotB (.bool k) (.bool k') (.bool (!decide (k = k'))) := fun x y Hs H Q hx hy hs q => ⟨k, k', hx.inv_bool, hy.inv_bool, q _ Hs H (Grw.refl hs) (.bl _)⟩
theorem de_isB {a b : Expr} {k k' : Bool} (ha : DE X r a (.bool k)) (hb : DE X r b (.bool k')) : DE X r (.Compare a [.Is] [b] pos) (.bool (decide (k = k'))) := de_cmp op_isBl r2_isB ha hb (nomark _)
theorem dt_isB {a b : Expr} {k k' : Bool} (ha : DE X r a (.bool k)) (hb : DE X r b (.bool k')) : DT X r (.Compare a [.Is] [b] pos) (decide (k = k')) := dt_cmp op_isBl r2_isB ha hb (nomark _)
theorem dt_notB {a b : Expr} {k k' : Bool} (ha : DE X r a (.bool k)) (hb : DE X r b (.bool k')) : DT X r (.Compare a [.IsNot] [b] pos) (!decide (k = k')) := dt_cmp op_notBl r2_notB ha hb (nomark _)
end
end Dl

namespace Dl
open PySem L2 PySem.W PyProof.Rows
/-! ## raising -/
/-- a class of the program's own whose instances are raised -/
structure ECls (K : PySem.W.Frag) (mg : Str → Option Value) (name : Str) (C : Addr) : Prop where
  g : mg name = some (.ref C)
  x : PySem.W.excIn K C [.type "ValueError", .type "Exception", .type "BaseException", .type "object"] "ValueError.__new__" = true
  k : PySem.W.keepIn K (.ref C) = true
  b : PySem.W.subIn K (.ref C) (.type "BaseException") = some true
  t : PySem.W.typeIn K (.ref C) = some (.type "type")
/-- an expression that raises C -/
def tX (K : PySem.W.Frag) (W : WX) (r : Rho) (C : Addr) : TE := fun σ H _ => ∃ Hs0 H0 Hs, Asn K Hs0 H0 r σ Hs H ∧ ∀ Hs' H', Grw Hs H Hs' H' → W (.ref C) none σ H'
def DX (X : Cx) (W : WX) (r : Rho) (e : Expr) (C : Addr) : Prop := PE X e (tX X.K W r C)
/-- what a def wants of an exception that leaves it -/
abbrev WEx (E : XK) : WX := fun cls d _ H => E cls d H
def spE (K : PySem.W.Frag) (R : Rho → Addr → Prop) : Sp := fun vs H _ E => ∃ Hs as C, Same Hs H ∧ Args K Hs vs as ∧ R as C ∧ ∀ Hs' H', Grw Hs H Hs' H' → E (.ref C) none H'
section
variable {P : Program} {w : World} {K : PySem.W.Frag} {mg : Str → Option Value} {base : Heap}
abbrev cxE (P : Program) (w : World) (K : PySem.W.Frag) (mg : Str → Option Value) (base : Heap) (N : List Str) (qual : Str) (scope : Scope) (f : Addr) (cd : Value) (A : Around) (outer : List Env) (s : Shared) (H : Hp) (E : XK) : Cx := cxOf (L2.CX P w) P w K mg base N qual scope f cd A outer s H E
theorem okE {x qual : Str} {st : Stmt} {f : Addr} {fd : FuncData} {N ps : List Str} {k : Nat} {R : Rho → Addr → Prop} (F : Fun K x qual st f fd) (S : FnScope N ps (defScope st)) (len : ∀ as C, R as C → as.length = ps.length) (hn : ps.length ≤ N.length)
    (hb : ∀ (cdv : Value) (A : Around) (outer : List Env) (s : Shared) (H : Hp) (E : XK), Room k (A.deeper (PyProof.Rows.envOfC qual (defScope st) s.heap.objs.size f cdv)) → ∀ as C, R as C →
      DSs (cxE P w K mg base N qual (defScope st) f cdv A outer s H E) E (as ++ List.replicate (N.length - as.length) .un) (defBody st) { nx := fun _ => False, ex := fun z _ => z = C }) : FnOk P w K mg base (L2.CX P w) (k + 1) f fd ps (spE K R) := by
  refine F.okX S (fun vs H Q E h => ?_) (fun cdv A outer s H vs Q E hr h => ?_)
  · obtain ⟨Hs, as, d, _, ha, hR, _⟩ := h
    rw [ha.length]
    exact len as d hR
  · obtain ⟨Hs, as, C, hs, ha, hR, q⟩ := h
    refine ⟨_, hb cdv A outer s H E hr as C hR, Hs, H, Hs, args_slots hs ha (by rw [len as C hR]; exact hn), ?_⟩
    exact ⟨fun r' σ' Hs' H' p a _ => p.elim, fun d' v Hs' H' p g hv => p.elim, fun _ _ _ _ p => p.elim, fun _ _ _ _ p => p.elim, fun C' r' σ' Hs' H' p a => by rw [p]; exact q Hs' H' a.g, fun _ _ _ _ _ p => p.elim, fun _ _ _ _ _ _ p => p.elim⟩
abbrev Dfn.OkE (P : Program) (w : World) (base : Heap) {name : Str} {st : Stmt} {ps : List Str} (D : Dfn K mg name st ps) (k : Nat) (R : Rho → Addr → Prop) : Prop := FnOk P w K mg base (L2.CX P w) k D.f D.fd ps (spE K R)
end
section
variable {X : Cx} {W : WX} {E : XK} {r : Rho} {e a b : Expr} {pos p p2 : Pos} {d : PyData} {k : Nat} {R : Rho → Addr → Prop} {as : Rho} {x : Str} {es : List Expr} {st : Stmt} {ps : List Str} {C : Addr} {Po : Post} {sts : List Stmt}
theorem dxc (D : Dfn X.K X.mg x st ps) (F : FnOk X.prog X.w X.K X.mg X.base (L2.CX X.prog X.w) k D.f D.fd ps (spE X.K R)) (tk : Takes X W) {k' : Nat} (hr : Room k' X.A) (hk : k ≤ k') (ha : DA X r (e :: es) as) (hR : R as C) (hg : Gl X x := by rfl)
    (hdb : (x == ("__debug__" : Str)) = false := by decide) (he : starEach (e :: es) X.env = (false, eval e X.env) :: starEach es X.env := by rfl) (hpl : (backTo pos (starEach es X.env)).any (·.1) = false := by rfl) : DX X W r (.Call (.Name x p) (e :: es) [] pos) C :=
  PE.wk (pe_callS F (hr.mono hk) hg D.g D.F.kp D.b (fun σ => passAt tk σ) ha hdb he hpl) fun _ _ σ H Q _ ⟨Hs0, H0, Hs, A, q⟩ => ⟨Hs0, H0, Hs, A, fun vs Hs1 H1 g1 h1 => ⟨Hs1, as, C, g1.sub, h1, hR, fun Hs2 H2 g2 => q Hs2 H2 (g1.trans g2)⟩⟩
theorem ds_exprX (h : DX X (WEx E) r e C) (hp : Po.ex C r) (hs : swapsWith e none pos.line X.env = pure false := by rfl) : DS X E r (.Expr e pos) Po :=
  PS.wk (ps_expr h hs) fun _ _ D σ H _ ⟨Hs0, H0, Hs, A, w⟩ => ⟨Hs0, H0, Hs, A, fun Hs' H' g => w.ex C r σ Hs' H' hp (A.grow g)⟩
theorem ds_setX (i : Nat) {y : Str} {pos' : Pos} (hN : X.N.Nodup) (h : DX X (WEx E) r e C) (hp : Po.ex C r) (hi : X.N[i]? = some y := by rfl) (hx : Loc X.env.scope y := by first | exact Or.inl rfl | exact Or.inr rfl)
    (hs : swapsWith e (some (.Name y pos')) pos.line X.env = pure false := by rfl) (hf : X.fn y = true ∨ X.env.scope.names.lookup y = some .local := by first | exact .inl rfl | exact .inr rfl | assumption) : DS X E r (.Assign [.Name y pos'] e pos) Po :=
  PS.wk (ps_set (i := i) hN hi hx h hs hf) fun _ _ D σ H _ ⟨Hs0, H0, Hs, A, w⟩ => ⟨Hs0, H0, Hs, A, fun Hs' H' g => w.ex C r σ Hs' H' hp (A.grow g)⟩
theorem ds_retX (h : DX X (WEx E) r e C) (hp : Po.ex C r) : DS X E r (.Return (some e) pos) Po :=
  PS.wk (ps_ret h) fun _ _ D σ H _ ⟨Hs0, H0, Hs, A, w⟩ => ⟨Hs0, H0, Hs, A, fun Hs' H' g => w.ex C r σ Hs' H' hp (A.grow g)⟩
/-- raise C("..") -/
theorem ds_raise {m : Str} {j : Nat} {p3 : Pos} (hc : X.calm = true) (tk : Takes X (WEx E)) (c : ECls X.K X.mg x C) (hp : Po.ex C r) (hg : Gl X x := by rfl) (hdb : (x == ("__debug__" : Str)) = false := by decide) : DS X E r (.Raise (some (.Call (.Name x p) [.Constant (.str m) j p2] [] p3)) none pos) Po :=
  PS.wk (ps_raise hc tk (pmk_own PySem.F.excBase_ValueError c.x c.g c.k (raises_own c.b c.t) hg hdb)) fun _ _ D σ H _ ⟨Hs0, H0, Hs, A, w⟩ => w.ex C r σ Hs H hp A
/-- what stands behind a statement that surely leaves -/
theorem dss_leave {st : Stmt} (h : DS X E r st { Po with nx := fun _ => False }) : DSs X E r (st :: sts) Po := dss_seq h fun _ z => z.elim
/-! ## things that may change what is owned: the value is told with the slots behind it -/
def tDm (K : PySem.W.Frag) (r : Rho) (d : PyData) : TE := fun σ H Q => ∃ Hs0 H0 Hs, Asn K Hs0 H0 r σ Hs H ∧ ∀ v Hs' H', Asn K Hs0 H0 r σ Hs' H' → Same Hs Hs' → Dat Hs' v d → Q v H'
def tTm (K : PySem.W.Frag) (r : Rho) (b : Bool) : TT := fun σ H Q => ∃ Hs0 H0 Hs, Asn K Hs0 H0 r σ Hs H ∧ ∀ Hs' H', Asn K Hs0 H0 r σ Hs' H' → Same Hs Hs' → Q b H'
def DEm (X : Cx) (r : Rho) (e : Expr) (d : PyData) : Prop := PE X e (tDm X.K r d)
def DTm (X : Cx) (r : Rho) (e : Expr) (b : Bool) : Prop := PT X e (tTm X.K r b)
theorem DE.m (h : DE X r e d) : DEm X r e d := PE.wk h fun _ _ σ H Q _ ⟨Hs0, H0, Hs, A, q⟩ => ⟨Hs0, H0, Hs, A, fun v Hs' H' g hv => q v Hs' H' (A.grow g) g.st hv⟩
theorem DT.m {b : Bool} (h : DT X r e b) : DTm X r e b := PT.wk h fun σ H Q ⟨Hs0, H0, Hs, A, q⟩ => ⟨Hs0, H0, Hs, A, fun Hs' H' g => q Hs' H' (A.grow g) g.st⟩
variable {d1 d2 : PyData}
theorem tOp_m {r2 : R2} (h : R2D r2 d1 d2 d) {σ : L2.St} {H : Hp} {Q : VK} (q : tDm X.K r d σ H Q) : tOp r2 (tDm X.K r d1) (tDm X.K r d2) σ H Q := by
  obtain ⟨Hs0, H0, Hs, A, q⟩ := q
  exact ⟨Hs0, H0, Hs, A, fun x Hs1 H1 A1 s1 h1 => ⟨Hs0, H0, Hs1, A1, fun y Hs2 H2 A2 s2 h2 => h x y Hs2 H2 Q (h1.mono s2) h2 A2.g.sub fun v Hs3 H3 g3 h3 => q v Hs3 H3 (A2.grow g3) ((s1.trans s2).trans g3.st) h3⟩⟩
theorem dem_eq (hu : X.A.units + 64 < cLine) (hd : min (depL d1) (depL d2) ≤ 60) (ha : DEm X r a d1) (hb : DEm X r b d2) : DEm X r (.Compare a [.Eq] [b] pos) (.bool (eqL d1 d2)) := PE.wk (pe_cmpR (op_eqP hu) ha hb (nomark _)) fun _ _ σ H Q _ q => tOp_m (r2_eqP hd) q
theorem dtm_cmp {op : CmpOp} {r2 : R2} {k : Bool} (ho : OpR X (compareOp op) r2) (h : R2D r2 d1 d2 (.bool k)) (ha : DEm X r a d1) (hb : DEm X r b d2) (hm : behindInMarks op b = false) : DTm X r (.Compare a [op] [b] pos) k :=
  PT.wk (pt_cmpR ho ha hb hm) fun σ H Q ⟨Hs0, H0, Hs, A, q⟩ => tOp_m h ⟨Hs0, H0, Hs, A, fun v Hs' H' A' s' hv => ⟨k, hv.inv_bool, q Hs' H' A' s'⟩⟩
theorem dtm_eq (hu : X.A.units + 64 < cLine) (hd : min (depL d1) (depL d2) ≤ 60) (ha : DEm X r a d1) (hb : DEm X r b d2) : DTm X r (.Compare a [.Eq] [b] pos) (eqL d1 d2) := dtm_cmp (op_eqP hu) (r2_eqP hd) ha hb (nomark _)
theorem dtm_ne (hu : X.A.units + 64 < cLine) (hd : min (depL d1) (depL d2) ≤ 60) (ha : DEm X r a d1) (hb : DEm X r b d2) : DTm X r (.Compare a [.NotEq] [b] pos) (!eqL d1 d2) := dtm_cmp (op_neP hu) (r2_eqP hd) ha hb (nomark _)
theorem dem_ixT {i : Int} {ds : List PyData} (ha : DEm X r a (.tuple ds)) (hb : DEm X r b (.int i)) (hk : atI ds i = some d) (hs : PlainIx b := by intro _ _; rfl) : DEm X r (.Subscript a b pos) d :=
  PE.wk (pe_ix ix_tup ha hb hs) fun _ _ σ H Q _ q => tOp_m (fun x y Hs H Q hx hy hs q => by
    obtain ⟨t, xs, rfl, ht, hxs⟩ := hx.inv_tuple
    obtain ⟨v, e1, hv⟩ := dats_at hxs hk
    exact ⟨t, xs, i, v, rfl, hy.inv_int, SqT.rd (Rd.same hs ht), e1, q v Hs H (Grw.refl hs) hv⟩) q
theorem ds_setm (i : Nat) {y : Str} {pos' : Pos} (hN : X.N.Nodup) (he : DEm X r e d) (hp : Po.nx (r.set i (.val d))) (hi : X.N[i]? = some y := by rfl) (hx : Loc X.env.scope y := by first | exact Or.inl rfl | exact Or.inr rfl)
    (hs : swapsWith e (some (.Name y pos')) pos.line X.env = pure false := by rfl) (hf : X.fn y = true ∨ X.env.scope.names.lookup y = some .local := by first | exact .inl rfl | exact .inr rfl | assumption) : DS X E r (.Assign [.Name y pos'] e pos) Po :=
  PS.wk (ps_set (i := i) hN hi hx he hs hf) fun _ _ D σ H _ ⟨Hs0, H0, Hs, A, w⟩ => ⟨Hs0, H0, Hs, A, fun v Hs' H' A' s' hv => w.nx _ _ Hs' H' hp (A'.setV hv) s'⟩
/-- y = [e] -/
theorem ds_setL1m (i : Nat) {y : Str} {pos' : Pos} (hN : X.N.Nodup) (he : DEm X r e d) (hp : Po.nx (r.set i (.own [d]))) (hi : X.N[i]? = some y := by rfl) (hx : Loc X.env.scope y := by first | exact Or.inl rfl | exact Or.inr rfl)
    (hs : swapsWith (.List [e] p) (some (.Name y pos')) pos.line X.env = pure false := by rfl) (hf : X.fn y = true ∨ X.env.scope.names.lookup y = some .local := by first | exact .inl rfl | exact .inr rfl | assumption) (hes : starEach [e] X.env = (false, eval e X.env) :: starEach [] X.env := by rfl) : DS X E r (.Assign [.Name y pos'] (.List [e] p) pos) Po :=
  PS.wk (ps_set (i := i) hN hi hx (pe_lst (pa_cons he pa_nil hes)) hs hf) fun _ _ D σ H _ ⟨Hs0, H0, Hs, A, w⟩ => ⟨Hs0, H0, Hs, A, fun v Hs' H' A' s' hv => ⟨sz 1, fun q hq => w.nx _ _ Hs' _ hp (A'.setO (Grw.laidO A'.g.sub hq) hq (A'.g.sub.free hq) upd_same (.cons hv .nil)) s'⟩⟩
theorem ds_retm (h : DEm X r e d) (hp : Po.rt d) : DS X E r (.Return (some e) pos) Po :=
  PS.wk (ps_ret h) fun _ _ D σ H _ ⟨Hs0, H0, Hs, A, w⟩ => ⟨Hs0, H0, Hs, A, fun v Hs' H' A' _ hv => w.rt d v Hs' H' hp A'.g hv⟩
theorem ds_ifm {k : Bool} {c : Expr} {as bs : List Stmt} (h : DTm X r c k) (ha : k = true → DSs X E r as Po) (hb : k = false → DSs X E r bs Po) : DS X E r (.If c as bs pos) Po := by
  cases k with
  | true => exact PS.wk (ps_if h (ha rfl) (pss_never (sts := bs))) fun _ _ D σ H _ ⟨Hs0, H0, Hs, A, w⟩ => ⟨Hs0, H0, Hs, A, fun Hs' H' A' s' => iteT ⟨Hs0, H0, Hs', A', w.st s'⟩⟩
  | false => exact PS.wk (ps_if h (pss_never (sts := as)) (hb rfl)) fun _ _ D σ H _ ⟨Hs0, H0, Hs, A, w⟩ => ⟨Hs0, H0, Hs, A, fun Hs' H' A' s' => iteF ⟨Hs0, H0, Hs', A', w.st s'⟩⟩
theorem dss_nom {as rest : List Stmt} {k : Bool} {c : Expr} (h : DTm X r c k) (hk : k = false) (h' : DSs X E r rest Po) : DSs X E r (.If c as [] pos :: rest) Po := dss_cons (ds_ifm h (fun z => by rw [hk] at z; cases z) (fun _ => dss_nil rfl)) h'
theorem ds_appendm (i : Nat) {y : Str} {px pa cpos : Pos} {ds : List PyData} (hr : r[i]? = some (.own ds)) (he : DEm X r e d) (hz : ds.length < sizeLine) (hp : Po.nx (r.set i (.own (ds ++ [d]))))
    (hN : X.N[i]? = some y := by rfl) (hv : Vis X.env.scope y := by first | exact Or.inl rfl | exact Or.inr (Or.inl rfl) | exact Or.inr (Or.inr rfl))
    (hd : (y == ("__debug__" : Str)) = false := by decide) (hcd : (y == ("__classdict__" : Str)) = false := by decide)
    (hs : swapsWith (.Call (.Attribute (.Name y px) "append" pa) [e] [] cpos) none pos.line X.env = pure false := by rfl) (hes : starEach [e] X.env = (false, eval e X.env) :: starEach [] X.env := by rfl)
    (hpe : ∀ {to t}, PE X (.Name y px) to → PA X [e] t → PE X (.Call (.Attribute (.Name y px) "append" pa) [e] [] cpos) (tBM X.K "list" rAppend to t) := by
      intro to t h1 h2; exact pe_bm PySem.F.plainAttrs_list PySem.F.slot_list_append PySem.F.type_list_append mt_append h1 h2) :
    DS X E r (.Expr (.Call (.Attribute (.Name y px) "append" pa) [e] [] cpos) pos) Po :=
  PS.wk (ps_expr (hpe (pe_var (i := i) hN hv hd hcd) (pa_cons he pa_nil hes)) hs) fun _ _ D σ H _ ⟨Hs0, H0, Hs, A, w⟩ => by
    obtain ⟨p, vs, e1, h0, h1, h2, h3⟩ := A.at_ i _ hr
    refine ⟨_, e1, .inl ⟨rfl, vs, SqL.of h2⟩, Hs0, H0, Hs, A, fun u Hs1 H1 A1 s1 hu => ?_⟩
    obtain ⟨p', vs', e1', _, _, h2', h3'⟩ := A1.at_ i _ hr
    rw [e1] at e1'
    injection e1' with e1'; injection e1' with e1'; injection e1' with e1'
    subst e1'
    exact ⟨p, vs', u, rfl, rfl, h2', by rw [h3'.length]; exact hz, w.nx _ _ Hs1 _ hp (A1.mut (Grw.refl A1.g.sub) hr e1 (h3'.snoc hu)) s1⟩
theorem dar_scrT (i : Nat) {y : Str} {ns : List Int} {T : List (Addr × Str)} (hr : r[i]? = some (.scrT ns T) := by rfl) (hN : X.N[i]? = some y := by rfl) (hv : Vis X.env.scope y := by first | exact Or.inl rfl | exact Or.inr (Or.inl rfl) | exact Or.inr (Or.inr rfl))
    (hd : (y == ("__debug__" : Str)) = false := by decide) (hcd : (y == ("__classdict__" : Str)) = false := by decide) : DAr X r (.Name y pos) (.scr ns) :=
  PE.wk (pe_var (i := i) hN hv hd hcd) fun _ _ σ H Q _ ⟨Hs0, H0, Hs, A, q⟩ => by
    obtain ⟨⟨a, e1, h1⟩, _⟩ := A.at_ i _ hr
    exact ⟨_, e1, q _ Hs H (Grw.refl A.g.sub) ⟨a, rfl, h1⟩⟩
end
/-! ## l.count(x), l.index(x) over data -/
section
variable {X : Cx} {r : Rho} {e a b : Expr} {pos p : Pos} {d : PyData} {ds : List PyData}
theorem mt_countD (hu : X.A.units + 128 < cLine) : MtR X "list.count" (fun v xs H Q => ∃ l y d ds, v = .ref l ∧ xs = [y] ∧ Dat H v (.list ds) ∧ Dat H y d ∧ depL d ≤ 60 ∧ Q (.int ((ds.countP fun z => eqL z d : Nat) : Int)) H) := fun pins s σ H v xs u us Q I rv rx ⟨l, y, d, ds, ev, ex, hv, hy, hd, q⟩ => by
  subst ev; subst ex
  cases rv
  obtain ⟨w1, rfl, r1⟩ := vals1 rx
  obtain ⟨as, h1⟩ := hy.reads (Same.refl H) I r1
  obtain ⟨l', vs, e, hl, hvs⟩ := hv.inv_list
  cases e
  obtain ⟨its, r', pl, hz⟩ := I.list (SqL.of (K := X.K) hl)
  obtain ⟨bs, h2⟩ := Dp.readsAll I _ _ its hvs.dp r'
  refine SeqAt.count_list_data pl.isList (by simpa using h2) h1 hvs.plain hy.plain (by show X.A.units + 1 + min _ (depL d) < cLine; omega) ⟨.int _, H, I.tok _, ⟨_, rfl⟩, ?_⟩
  rw [List.countP_map]
  exact q
end
end Dl

namespace Dl
open PySem L2 PySem.W PyProof.Rows
/-! ## the classes that _law_told tells apart -/
structure TCls (K : PySem.W.Frag) (mg : Str → Option Value) (c : Nat → Addr) (CH : Addr) : Prop where
  h : mg "HeatError" = some (.ref CH)
  e0 : ECls K mg "Clash" (c 0)
  e1 : ECls K mg "TooMany" (c 1)
  e2 : ECls K mg "NoHeat" (c 2)
  e3 : ECls K mg "NoText" (c 3)
  ex : ∀ k, k < 4 → ExcC K (c k)
  exm : ∀ k, k < 4 → PySem.W.exmOne K (.ref (c k)) (.ref CH) = some true
  kit : ∀ j k, j < 4 → k < 4 → PySem.W.kitOne K (.ref (c j)) (.ref (c k)) = some (decide (j = k))
  kv : ∀ k, k < 4 → PySem.W.kitOne K (.ref (c k)) (.type "ValueError") = some true
  vE : mg "ValueError" = none
  is : mg "isinstance" = none
/-- the statements behind the first clause of a try -/
def suiteOf : List Stmt → List Stmt
  | .Try _ (.ExceptHandler _ _ s _ :: _) _ _ _ :: _ => s
  | _ => []
/-- what is wanted may be told by less -/
theorem PE.mn {X : Cx} {e : Expr} {t : TE} (h : PE X e t) : PE X e (fun σ H Q => ∃ Q', t σ H Q' ∧ ∀ v H', Q' v H' → Q v H') := ⟨fun pins s σ H Q I ⟨Q', h1, h2⟩ => thn (h.run pins s σ H Q' I h1) fun v s1 ⟨x, H', I', r, q⟩ => ⟨x, H', I', r, h2 x H' q⟩⟩
/-- what _law_told makes of what it is handed -/
def TTt (c : Nat → Addr) : (XK → Hp → VK → Prop) → Hp → VK → Prop := fun tl H Q =>
  tl (fun cls d H' => d = none ∧ ∃ (k : Nat) (Hs' : Hp), k < 4 ∧ cls = .ref (c k) ∧ Same Hs' H' ∧ ∀ v' Hs'' H'', Grw Hs' H' Hs'' H'' → Dat Hs'' v' (.tuple [.str "refused", .int (k : Int)]) → Q v' H'') H
    fun v H' => ∃ (d : PyData) (Hs' : Hp), Same Hs' H' ∧ Dat Hs' v d ∧ ∀ v' Hs'' H'', Grw Hs' H' Hs'' H'' → Dat Hs'' v' (.tuple [.str "told", d]) → Q v' H''
section
variable {X : Cx} {r : Rho} {e a b : Expr} {pos p p2 : Pos} {d : PyData} {ds : List PyData} {x y : Str}
theorem de_countL {pa cpos : Pos} (hu : X.A.units + 128 < cLine) (ha : DE X r a (.list ds)) (hb : DE X r e d) (hd : depL d ≤ 60) (hes : starEach [e] X.env = (false, eval e X.env) :: starEach [] X.env := by rfl)
    (hpe : ∀ {rr : V → List V → Hp → VK → Prop} {to t}, MtR X "list.count" rr → PE X a to → PA X [e] t → PE X (.Call (.Attribute a "count" pa) [e] [] cpos) (tBM X.K "list" rr to t) := by
      intro rr to t h0 h1 h2; exact pe_bm PySem.F.plainAttrs_list PySem.F.slot_list_count PySem.F.type_list_count h0 h1 h2) : DE X r (.Call (.Attribute a "count" pa) [e] [] cpos) (.int ((ds.countP fun z => eqL z d : Nat) : Int)) :=
  PE.wk (hpe (mt_countD hu) ha (da_1 hb hes)) fun _ _ σ H Q _ ⟨Hs0, H0, Hs, A, q⟩ => ⟨Hs0, H0, Hs, A, fun v Hs1 H1 g1 h1 => by
    obtain ⟨l, vs, rfl, hl, hv⟩ := h1.inv_list
    refine ⟨.inl ⟨rfl, _, SqL.of (g1.sub _ _ hl)⟩, Hs0, H0, Hs1, A.grow g1, fun us Hs2 H2 g2 h2 => ?_⟩
    cases h2 with
    | cons hu t =>
      cases t
      exact ⟨l, _, d, ds, rfl, rfl, (h1.mono g2.st).mono g2.sub, Dat.mono g2.sub hu, hd, q _ Hs2 H2 (g1.trans g2) (.int _)⟩⟩
/-- l.index(x), the first place of an equal one -/
theorem de_indexLD {pa cpos : Pos} {j : Nat} {z : PyData} (hu : X.A.units + 65 < cLine) (ha : DE X r a (.list ds)) (hb : DE X r e d) (hs1 : SeqAt.shaped (.list (ds.map Dl.lo)) = true) (hs2 : SeqAt.shaped (Dl.lo d) = true) (hz : ds[j]? = some z) (hj : eqL z d = true) (hn : ∀ (m : Nat) z', m < j → ds[m]? = some z' → eqL z' d = false) (hes : starEach [e] X.env = (false, eval e X.env) :: starEach [] X.env := by rfl)
    (hpe : ∀ {rr : V → List V → Hp → VK → Prop} {to t}, MtR X "list.index" rr → PE X a to → PA X [e] t → PE X (.Call (.Attribute a "index" pa) [e] [] cpos) (tBM X.K "list" rr to t) := by
      intro rr to t h0 h1 h2; exact pe_bm PySem.F.plainAttrs_list PySem.F.slot_list_index PySem.F.type_list_index h0 h1 h2) : DE X r (.Call (.Attribute a "index" pa) [e] [] cpos) (.int (j : Nat)) :=
  PE.wk (hpe (mt_indexD hu) ha (da_1 hb hes)) fun _ _ σ H Q _ ⟨Hs0, H0, Hs, A, q⟩ => ⟨Hs0, H0, Hs, A, fun v Hs1 H1 g1 h1 => by
    obtain ⟨l, vs, rfl, hl, hv⟩ := h1.inv_list
    refine ⟨.inl ⟨rfl, _, SqL.of (g1.sub _ _ hl)⟩, Hs0, H0, Hs1, A.grow g1, fun us Hs2 H2 g2 h2 => ?_⟩
    cases h2 with
    | cons hu t =>
      cases t
      have hL := Dat.dp (K := X.K) ((h1.mono g2.st).mono g2.sub)
      rw [lo_list] at hL
      exact ⟨l, _, Dl.lo d, ds.map Dl.lo, j, Dl.lo z, rfl, rfl, hL, Dat.dp (K := X.K) (Dat.mono g2.sub hu), hs1, hs2, by rw [List.getElem?_map, hz]; rfl, hj, fun m z' hm hz' => by
        obtain ⟨z2, e2, rfl⟩ := map_at hz'
        exact hn m z2 hm e2, q _ Hs2 H2 (g1.trans g2) (.int _)⟩⟩
/-- isinstance(e, C), e the exception that the suite holds -/
theorem de_isE (i : Nat) {D aE : Addr} {oe : Obj} {pn : List (Addr × Obj)} {c : V} {cv : Value} {bb : Bool} {Y : Cx} (hY : Y = X.suite aE ((aE, oe) :: pn)) (C : ExcC X.K D) (hz : Zc (.ref D) none oe) (hf : ∃ vs, oe.data = .fields vs) (hr : r[i]? = some (.raw (.ref aE)))
    (hc : PE Y (.Name y p2) (tC c)) (hcv : ∀ u, RelV c u → u = cv) (hk : PySem.W.kitOne X.K (.ref D) cv = some bb) (hi : Y.mg "isinstance" = none) (hg : Gl Y "isinstance") (hN : Y.N[i]? = some x) (hv : Vis Y.env.scope x) (hd : (x == ("__debug__" : Str)) = false := by decide) (hcd : (x == ("__classdict__" : Str)) = false := by decide)
    (e1 : starEach (.Name x pos :: [.Name y p2]) Y.env = (false, eval (.Name x pos) Y.env) :: starEach [.Name y p2] Y.env := by rfl) (e2 : starEach [.Name y p2] Y.env = (false, eval (.Name y p2) Y.env) :: starEach [] Y.env := by rfl) {p3 p4 : Pos} (hpl : (backTo p4 (starEach [.Name y p2] Y.env)).any (·.1) = false := by rfl) :
    DE Y r (.Call (.Name "isinstance" p3) [.Name x pos, .Name y p2] [] p4) (.bool bb) := by
  subst hY
  exact PE.wk (pe_callB (call_isE C hz hf) hg hi (by decide +kernel) (pa_cons (pe_var (i := i) hN hv hd hcd) (pa_cons hc pa_nil e2) e1) (by decide) (by decide) e1 hpl) fun _ _ σ H Q _ ⟨Hs0, H0, Hs, A, q⟩ => by
    have ez := A.at_ i _ hr
    exact ⟨_, ez, c, cv, bb, rfl, hcv, hk, q _ Hs H (Grw.refl A.g.sub) (.bl _)⟩
theorem de_isT (i : Nat) {aE CH : Addr} {oe : Obj} {pn : List (Addr × Obj)} {c : Nat → Addr} {k j : Nat} (t : TCls X.K X.mg c CH) (hk : k < 4) (hj : j < 4) (hm : X.mg y = some (.ref (c j))) (hz : Zc (.ref (c k)) none oe) (hf : ∃ vs, oe.data = .fields vs) (hr : r[i]? = some (.raw (.ref aE)) := by rfl)
    (hg : Gl (X.suite aE ((aE, oe) :: pn)) y := by rfl) (hgi : Gl (X.suite aE ((aE, oe) :: pn)) "isinstance" := by rfl) (hN : (X.suite aE ((aE, oe) :: pn)).N[i]? = some x := by rfl) (hv : Vis (X.suite aE ((aE, oe) :: pn)).env.scope x := by exact Or.inl rfl) (hd : (x == ("__debug__" : Str)) = false := by decide) (hcd : (x == ("__classdict__" : Str)) = false := by decide) (hdy : (y == ("__debug__" : Str)) = false := by decide)
    (e1 : starEach (.Name x pos :: [.Name y p2]) (X.suite aE ((aE, oe) :: pn)).env = (false, eval (.Name x pos) (X.suite aE ((aE, oe) :: pn)).env) :: starEach [.Name y p2] (X.suite aE ((aE, oe) :: pn)).env := by rfl) (e2 : starEach [.Name y p2] (X.suite aE ((aE, oe) :: pn)).env = (false, eval (.Name y p2) (X.suite aE ((aE, oe) :: pn)).env) :: starEach [] (X.suite aE ((aE, oe) :: pn)).env := by rfl) {p3 p4 : Pos} (hpl : (backTo p4 (starEach [.Name y p2] (X.suite aE ((aE, oe) :: pn)).env)).any (·.1) = false := by rfl) :
    DE (X.suite aE ((aE, oe) :: pn)) r (.Call (.Name "isinstance" p3) [.Name x pos, .Name y p2] [] p4) (.bool (decide (k = j))) :=
  de_isE (X := X) i rfl (t.ex k hk) hz hf hr (pe_glob (v := .ref (c j)) hg hm rfl hdy) (fun _ z => z) (t.kit k j hk hj) t.is hgi hN hv hd hcd e1 e2 hpl
theorem de_isV (i : Nat) {aE CH : Addr} {oe : Obj} {pn : List (Addr × Obj)} {c : Nat → Addr} {k : Nat} (t : TCls X.K X.mg c CH) (hk : k < 4) (hz : Zc (.ref (c k)) none oe) (hf : ∃ vs, oe.data = .fields vs) (hr : r[i]? = some (.raw (.ref aE)) := by rfl)
    (hg : Gl (X.suite aE ((aE, oe) :: pn)) "ValueError" := by rfl) (hgi : Gl (X.suite aE ((aE, oe) :: pn)) "isinstance" := by rfl) (hN : (X.suite aE ((aE, oe) :: pn)).N[i]? = some x := by rfl) (hv : Vis (X.suite aE ((aE, oe) :: pn)).env.scope x := by exact Or.inl rfl) (hd : (x == ("__debug__" : Str)) = false := by decide) (hcd : (x == ("__classdict__" : Str)) = false := by decide)
    (e1 : starEach (.Name x pos :: [.Name "ValueError" p2]) (X.suite aE ((aE, oe) :: pn)).env = (false, eval (.Name x pos) (X.suite aE ((aE, oe) :: pn)).env) :: starEach [.Name "ValueError" p2] (X.suite aE ((aE, oe) :: pn)).env := by rfl) (e2 : starEach [.Name "ValueError" p2] (X.suite aE ((aE, oe) :: pn)).env = (false, eval (.Name "ValueError" p2) (X.suite aE ((aE, oe) :: pn)).env) :: starEach [] (X.suite aE ((aE, oe) :: pn)).env := by rfl) {p3 p4 : Pos} (hpl : (backTo p4 (starEach [.Name "ValueError" p2] (X.suite aE ((aE, oe) :: pn)).env)).any (·.1) = false := by rfl) :
    DE (X.suite aE ((aE, oe) :: pn)) r (.Call (.Name "isinstance" p3) [.Name x pos, .Name "ValueError" p2] [] p4) (.bool true) :=
  de_isE (X := X) i rfl (t.ex k hk) hz hf hr (pe_tyN (T := "ValueError") hg t.vE (by decide +kernel)) (fun _ z => z) (t.kv k hk) t.is hgi hN hv hd hcd e1 e2 hpl
end
end Dl

namespace Dl
open PySem L2 PySem.W PyProof.Rows
/-! ## a lambda handed to _law_told; the law's own table of code objects -/
/-- slots that hold no dict, instance or table of their own -/
def plainS : Slot → Bool
  | .dic _ _ _ => false
  | .obj _ O => O.calm
  | .scrT _ _ => false
  | .valT _ _ => false
  | _ => true
def restOk (i : Nat) : Rho → Bool
  | [] => true
  | s :: r => match i with
    | 0 => r.all plainS
    | j + 1 => plainS s && restOk j r
theorem restOk_at : ∀ {r : Rho} {i : Nat}, restOk i r = true → ∀ (j : Nat) s, j ≠ i → r[j]? = some s → plainS s = true
  | [], _, _, j, s, _, e => by simp at e
  | s0 :: r, 0, h, j, s, hj, e => by
    cases j with
    | zero => exact absurd rfl hj
    | succ j => exact (List.all_eq_true.mp h) s (List.mem_of_getElem? (by simpa using e))
  | s0 :: r, i + 1, h, j, s, hj, e => by
    have h' : plainS s0 = true ∧ restOk i r = true := by simpa [restOk] using h
    cases j with
    | zero => simp at e; rw [← e]; exact h'.1
    | succ j => exact restOk_at h'.2 j s (fun z => hj (by rw [z])) (by simpa using e)
theorem LLs.lam {Hs Hs' H H' : Hp} (e : Same Hs Hs') (k : ∀ x vs, H x = some (.lst vs) → H' x = some (.lst vs)) : ∀ {ls : List Addr} {dss : List (List PyData)}, LLs Hs H ls dss → LLs Hs' H' ls dss
  | _, _, .nil => .nil
  | _, _, .cons ⟨vs, h1, h2⟩ r => .cons ⟨vs, k _ vs h1, h2.mono e⟩ (LLs.lam e k r)
def tabsOf : Slot → List (Addr × Str)
  | .scrT _ T => T
  | .valT _ T => T
  | _ => []
/-- what a slot with tables says besides -/
def headS (K : PySem.W.Frag) (Hs : Hp) : Slot → Option (Option V) → Prop
  | .scrT ns _, o => ∃ a, o = some (some (.ref a)) ∧ SqL K Hs a (ns.map V.int)
  | .valT d _, o => ∃ v, o = some (some v) ∧ Dat Hs v d
  | _, _ => False
theorem headS.mono {K : PySem.W.Frag} {Hs Hs' : Hp} (e : Same Hs Hs') : ∀ {s : Slot} {o : Option (Option V)}, headS K Hs s o → headS K Hs' s o
  | .scrT _ _, _, ⟨a, q, h⟩ => ⟨a, q, e.seq h⟩
  | .valT _ _, _, ⟨v, q, h⟩ => ⟨v, q, h.mono e⟩
  | .un, _, h => h.elim
  | .val _, _, h => h.elim
  | .own _, _, h => h.elim
  | .dic _ _ _, _, h => h.elim
  | .fd _ _ _, _, h => h.elim
  | .scr _, _, h => h.elim
  | .raw _, _, h => h.elim
  | .oo _, _, h => h.elim
  | .obj _ _, _, h => h.elim
theorem tab_split {K : PySem.W.Frag} {Hs H : Hp} {s : Slot} {o : Option (Option V)} {F : List Addr} (hs : tabS s = true) (h : SlotF K Hs H s o F) : headS K Hs s o ∧ ∀ p ∈ tabsOf s, p.1 ∈ F ∧ TabF Hs H p.1 p.2 := by
  cases s <;> first | (cases hs; done) | exact h
theorem tab_join {K : PySem.W.Frag} {Hs H : Hp} {s : Slot} {o : Option (Option V)} {F : List Addr} (hs : tabS s = true) (h : headS K Hs s o) (h' : ∀ p ∈ tabsOf s, p.1 ∈ F ∧ TabF Hs H p.1 p.2) : SlotF K Hs H s o F := by
  cases s <;> first | (cases hs; done) | exact ⟨h, h'⟩
/-- a footprint without what is told by a predicate, and without tables -/
def CalmF (H : Hp) (x : Addr) : Prop := ∃ o, H x = some o ∧ (∀ φ, o ≠ .ext φ) ∧ ∀ ps, o ≠ .tbl ps
open Classical in
/-- a slot's footprint made calm -/
theorem calm_slot {K : PySem.W.Frag} {Hs Hs1 H H1 : Hp} {s : Slot} {o : Option (Option V)} {F : List Addr} (hp : plainS s = true) (hS : Same Hs Hs1) (e : ∀ x ∈ F, ∀ o, H x = some o → (∀ ps, o ≠ .tbl ps) → H1 x = some o) (q0 : SlotF K Hs H s o F) : SlotF K Hs1 H1 s o (F.filter fun x => decide (CalmF H x)) := by
  have kl : ∀ x vs, x ∈ F → H x = some (.lst vs) → H1 x = some (.lst vs) := fun x vs m y => e x m _ y fun ps w => by cases w
  have km : ∀ x vs, x ∈ F → H x = some (.lst vs) → x ∈ F.filter fun x => decide (CalmF H x) := fun x vs m y => List.mem_filter.mpr ⟨m, decide_eq_true ⟨_, y, fun _ z => (by cases z), fun _ z => (by cases z)⟩⟩
  cases s with
  | un => trivial
  | val d => obtain ⟨v, y, hv⟩ := q0; exact ⟨v, y, hv.mono hS⟩
  | own ds => obtain ⟨a, vs, m, y, h2, h3⟩ := q0; exact ⟨a, vs, km a vs m h2, y, kl a vs m h2, h3.mono hS⟩
  | dic _ _ _ => cases hp
  | fd _ _ _ => obtain ⟨a, ob, xs, y, h2, h3⟩ := q0; exact ⟨a, ob, xs, y, hS _ _ h2, h3.mono hS⟩
  | scr ns => obtain ⟨a, y, h⟩ := q0; exact ⟨a, y, hS.seq h⟩
  | raw v => exact q0
  | scrT _ _ => cases hp
  | valT _ _ => cases hp
  | oo dss =>
    obtain ⟨a, ls, m, nd, y, h2, h3⟩ := q0
    refine ⟨a, ls, fun x hx => ?_, nd, y, kl a _ (m a List.mem_cons_self) h2, ?_⟩
    · rcases List.mem_cons.mp hx with w | w
      · rw [w]; exact km a _ (m a List.mem_cons_self) h2
      · obtain ⟨vs, u⟩ := h3.lst x w; exact km x vs (m x hx) u
    · refine h3.chg hS fun x hx o z => ?_
      obtain ⟨vs, u⟩ := h3.lst x hx
      rw [u] at z; cases z
      exact kl x vs (m x (List.mem_cons_of_mem _ hx)) u
  | obj a O =>
    obtain ⟨y, hJ⟩ := q0
    have hcm := O.cm hp hJ
    have ef : F.filter (fun x => decide (CalmF H x)) = F := List.filter_eq_self.mpr fun x hx => decide_eq_true (hcm x hx)
    rw [ef]
    refine ⟨y, O.chg hS (fun x hx o z => ?_) hJ⟩
    obtain ⟨o', z', _, n2⟩ := hcm x hx
    rw [z] at z'; cases z'
    exact e x hx o z n2
open Classical in
/-- the tables are written: all else is as it was; all code objects stay from now on -/
theorem Asn.lamT {K : PySem.W.Frag} {Hs0 H0 : Hp} {r : Rho} {σ : L2.St} {Hs H H1 : Hp} {i : Nat} {s : Slot} (A : Asn K Hs0 H0 r σ Hs H) (hr : r[i]? = some s) (hs : tabS s = true) (hn : restOk i r = true) (e : LamX.ExtN H H1) (t : LamX.Tabs (tabsOf s) H1) :
    ∃ Hs1, Asn K Hs0 H0 r σ Hs1 H1 ∧ Same Hs Hs1 ∧ CodesIn H1 Hs1 := by
  obtain ⟨F, f⟩ := A.fr
  have tb := f.tb i s hr hs
  have hst : ∀ b ps, Hs b ≠ some (.tbl ps) := fun b ps z => tb.st b ps (A.g.nt b ps z)
  have hk : ∀ b o, Hs b = some o → H1 b = some o := fun b o z => e b o (A.g.sub b o z) fun ps w => hst b ps (by rw [z, w])
  have hS : Same Hs fun b => if Hs b = none ∧ (∃ q, H1 b = some (LamX.CodeO b q)) then H1 b else Hs b := fun b o z => by
    show (if _ then _ else _) = _
    rw [if_neg fun w => by rw [w.1] at z; cases z]
    exact z
  have hC : CodesIn H1 fun b => if Hs b = none ∧ (∃ q, H1 b = some (LamX.CodeO b q)) then H1 b else Hs b := fun b q z => by
    show (if _ then _ else _) = _
    by_cases w : Hs b = none
    · rw [if_pos ⟨w, q, z⟩]; exact z
    · rw [if_neg fun y => w y.1]
      cases u : Hs b with
      | none => exact absurd u w
      | some o => rw [← z, hk b o u]
  have hin : ∀ b o, (if Hs b = none ∧ (∃ q, H1 b = some (LamX.CodeO b q)) then H1 b else Hs b) = some o → H1 b = some o := fun b o z => by
    split at z
    · exact z
    · exact hk b o z
  have hno : ∀ x, Hs x = none → (∀ φ, H1 x ≠ some (.ext φ)) → (if Hs x = none ∧ (∃ q, H1 x = some (LamX.CodeO x q)) then H1 x else Hs x) = none := fun x z w => by
    rw [if_neg fun y => y.2.elim fun _ u => w _ u]
    exact z
  obtain ⟨hs1, hs2⟩ := tab_split hs (f.at_ i _ hr)
  refine ⟨_, ⟨⟨fun b o z => e b o (A.g.all b o z) fun ps w => tb.all b ps (by rw [z, w]), A.g.st.trans hS, hin, fun b z => ?_, fun b ps z => ?_⟩, ⟨fun j => if j = i then (tabsOf s).map (·.1) else (F j).filter fun x => decide (CalmF H x), fun j s' z => ?_, fun j x m => ?_, fun j k x m m' => ?_, f.tb⟩, A.len⟩, hS, hC⟩
  · by_cases w : Hs b = none
    · refine .inr ?_
      cases u : H0 b with
      | none => rfl
      | some o =>
        have n1 : H1 b = some o := e b o (A.g.all b o u) fun ps w => tb.all b ps (by rw [u, w])
        have z : (if Hs b = none ∧ (∃ q, H1 b = some (LamX.CodeO b q)) then H1 b else Hs b) ≠ none := z
        by_cases y : Hs b = none ∧ (∃ q, H1 b = some (LamX.CodeO b q))
        · obtain ⟨q, y2⟩ := y.2
          rw [n1] at y2
          injection y2 with y2
          have := A.g.st _ _ (tb.codes b q (by rw [u, y2]))
          rw [w] at this; cases this
        · rw [if_neg y] at z; exact absurd w z
    · exact A.g.new b w
  · split at z
    · rename_i w; obtain ⟨q, w⟩ := w.2; rw [w] at z; injection z with z; exact absurd z (LamX.codeO_ne ps)
    · exact absurd z (hst b ps)
  · by_cases hj : j = i
    · subst hj
      rw [if_pos rfl]
      rw [hr] at z
      injection z with z
      subst z
      refine tab_join hs (hs1.mono hS) fun p hp => ⟨List.mem_map_of_mem hp, ?_⟩
      obtain ⟨ps, h1, h2, h3⟩ := t p hp
      refine ⟨ps, h1, h2, fun pos cv hc => ?_⟩
      obtain ⟨c, e1, e2⟩ := h3 pos cv hc
      exact ⟨c, e1, hC c _ e2⟩
    · rw [if_neg hj]
      exact calm_slot (restOk_at hn j s' hj z) hS (fun x _ => e x) (f.at_ j s' z)
  · by_cases hj : j = i
    · rw [if_pos hj] at m
      obtain ⟨p, hp, rfl⟩ := List.mem_map.mp m
      have := f.own i _ (hs2 p hp).1
      obtain ⟨ps, h1, _⟩ := t p hp
      exact ⟨this.1, hno _ this.2.1 (fun φ w => by rw [h1] at w; cases w), by rw [h1]; simp⟩
    · rw [if_neg hj] at m
      obtain ⟨m1, m2⟩ := List.mem_filter.mp m
      obtain ⟨o, y, n1, n2⟩ := of_decide_eq_true m2
      have y1 := e x _ y n2
      have := f.own j x m1
      exact ⟨this.1, hno x this.2.1 (fun φ w => by rw [y1] at w; cases w; exact n1 φ rfl), by rw [y1]; simp⟩
  · by_cases hj : j = i
    · by_cases hk' : k = i
      · rw [hj, hk']
      · rw [if_pos hj] at m; rw [if_neg hk'] at m'
        obtain ⟨p, hp, rfl⟩ := List.mem_map.mp m
        exact absurd (f.dist k i _ (List.mem_filter.mp m').1 (hs2 p hp).1) hk'
    · rw [if_neg hj] at m
      by_cases hk' : k = i
      · rw [if_pos hk'] at m'
        obtain ⟨p, hp, rfl⟩ := List.mem_map.mp m'
        exact absurd (f.dist j i _ (List.mem_filter.mp m).1 (hs2 p hp).1) hj
      · rw [if_neg hk'] at m'
        exact f.dist j k x (List.mem_filter.mp m).1 (List.mem_filter.mp m').1
theorem Asn.lam {K : PySem.W.Frag} {Hs0 H0 : Hp} {r : Rho} {σ : L2.St} {Hs H H1 : Hp} {i : Nat} {ns : List Int} {T : List (Addr × Str)} (A : Asn K Hs0 H0 r σ Hs H) (hr : r[i]? = some (.scrT ns T)) (hn : restOk i r = true) (e : LamX.ExtN H H1) (t : LamX.Tabs T H1) :
    ∃ Hs1, Asn K Hs0 H0 r σ Hs1 H1 ∧ Same Hs Hs1 := by
  obtain ⟨Hs1, A1, s1, _⟩ := A.lamT hr rfl hn e t
  exact ⟨Hs1, A1, s1⟩
theorem Asn.tabsT {K : PySem.W.Frag} {Hs0 H0 : Hp} {r : Rho} {σ : L2.St} {Hs H : Hp} {i : Nat} {s : Slot} (A : Asn K Hs0 H0 r σ Hs H) (hr : r[i]? = some s) (hs : tabS s = true) : LamX.Tabs (tabsOf s) H := fun p hp => by
  obtain ⟨F, f⟩ := A.fr
  obtain ⟨ps, h1, h2, h3⟩ := ((tab_split hs (f.at_ i _ hr)).2 p hp).2
  exact ⟨ps, h1, h2, fun pos cv hc => by obtain ⟨c, e1, e2⟩ := h3 pos cv hc; exact ⟨c, e1, A.g.sub _ _ e2⟩⟩
theorem Asn.tabs {K : PySem.W.Frag} {Hs0 H0 : Hp} {r : Rho} {σ : L2.St} {Hs H : Hp} {i : Nat} {ns : List Int} {T : List (Addr × Str)} (A : Asn K Hs0 H0 r σ Hs H) (hr : r[i]? = some (.scrT ns T)) : LamX.Tabs T H := A.tabsT hr rfl
section
variable {X : Cx} {r : Rho} {st : Stmt} {ns : List Int} {P c : Addr} {cl : Nat → Addr} {k : Nat} {scope : Scope} {params : Arguments} {body : Expr} {d : PyData} {Ng : List Str} {p lpos pos : Pos}
/-- _law_told(lambda: body), the body tells d -/
theorem dem_told (i : Nat) (D : Dfn X.K X.mg "_law_told" st ["deed"]) (Sg : FnScope Ng ["deed"] (defScope st)) (hG : ∀ cdv q, LamX.GivesTo X Ng "_law_told" (defScope st) D.f cdv (defBody st) "deed" q (TTt cl)) (TB : LamX.TabB X.base X.mg c P) (hcode : X.env.code = .ref c) (room : Room (k + 2) X.A)
    (hbody : ∀ (A : Around) (outer : List Env) (s : Shared) (H : Hp) (E : XK) (f c' : Addr), Room k (A.deeper (LamX.lamEnv X scope s.heap.objs.size f c')) → DE (LamX.lamCx X A outer s H E scope f c') r body d) (L : LamX.LamS X.env.scope scope)
    (hr : r[i]? = some (.scrT ns [(P, X.env.qual ++ "<lambda>")]) := by rfl) (hn : restOk i r = true := by rfl) (hg : Gl X "_law_told" := by rfl) (hNg : Ng[0]? = some ("deed" : Str) := by rfl) (hva : Vis (defScope st) "deed" := by exact Or.inl rfl) (hdef : defaultsOf params X.env = ([], []) := by rfl)
    (hbind : ∀ (q : Str) (cl : List (Str × Addr)) (pm cv ctv : Value), bindArgs (PySem.W.kla_fn "<lambda>" q params body scope cl pm cv ctv) ⟨[], []⟩ = pure [] := by intros; rfl) : DEm X r (.Call (.Name "_law_told" p) [.Lambda params body scope lpos] [] pos) (.tuple [.str "told", d]) := by
  obtain ⟨oc, od, kV, doc, pm, an, cdv, ct, osl, hfd, lk, hcd⟩ := D.F.ex
  have hb := D.b
  rw [hfd] at lk hb
  exact PE.wk (LamX.pe_lamcall (T := [(P, X.env.qual ++ "<lambda>")]) hg D.g D.F.kp lk hcd hb Sg hNg hva (hG cdv _) TB hcode (List.mem_singleton.mpr rfl) (fun q hq _ => by rw [List.mem_singleton.mp hq]) room L hdef hbind (t := fun _ => tD X.K r d) hbody) fun _ _ σ H Q _ ⟨Hs0, H0, Hs, A, q⟩ => ⟨A.tabs hr, fun H1 eN T1 => by
    obtain ⟨Hs1, A1, s1⟩ := A.lam hr hn eN T1
    exact ⟨Hs0, H0, Hs1, A1, fun v Hs' H' g hv => ⟨d, Hs', g.sub, hv, fun v' Hs'' H'' g2 hv' => q v' Hs'' H'' (A1.grow (g.trans g2)) (s1.trans (g.trans g2).st) hv'⟩⟩⟩
/-- _law_told(lambda: body), the body raises -/
theorem dem_refused (i : Nat) {j : Nat} (hj : j < 4) (D : Dfn X.K X.mg "_law_told" st ["deed"]) (Sg : FnScope Ng ["deed"] (defScope st)) (hG : ∀ cdv q, LamX.GivesTo X Ng "_law_told" (defScope st) D.f cdv (defBody st) "deed" q (TTt cl)) (TB : LamX.TabB X.base X.mg c P) (hcode : X.env.code = .ref c) (room : Room (k + 2) X.A)
    (hbody : ∀ (A : Around) (outer : List Env) (s : Shared) (H : Hp) (E : XK) (f c' : Addr), Room k (A.deeper (LamX.lamEnv X scope s.heap.objs.size f c')) → Takes (LamX.lamCx X A outer s H E scope f c') (WEx E) → DX (LamX.lamCx X A outer s H E scope f c') (WEx E) r body (cl j)) (L : LamX.LamS X.env.scope scope)
    (hr : r[i]? = some (.scrT ns [(P, X.env.qual ++ "<lambda>")]) := by rfl) (hn : restOk i r = true := by rfl) (hg : Gl X "_law_told" := by rfl) (hNg : Ng[0]? = some ("deed" : Str) := by rfl) (hva : Vis (defScope st) "deed" := by exact Or.inl rfl) (hdef : defaultsOf params X.env = ([], []) := by rfl)
    (hbind : ∀ (q : Str) (cl : List (Str × Addr)) (pm cv ctv : Value), bindArgs (PySem.W.kla_fn "<lambda>" q params body scope cl pm cv ctv) ⟨[], []⟩ = pure [] := by intros; rfl) : DEm X r (.Call (.Name "_law_told" p) [.Lambda params body scope lpos] [] pos) (.tuple [.str "refused", .int (j : Int)]) := by
  obtain ⟨oc, od, kV, doc, pm, an, cdv, ct, osl, hfd, lk, hcd⟩ := D.F.ex
  have hb := D.b
  rw [hfd] at lk hb
  exact PE.wk (LamX.pe_lamcall (T := [(P, X.env.qual ++ "<lambda>")]) hg D.g D.F.kp lk hcd hb Sg hNg hva (hG cdv _) TB hcode (List.mem_singleton.mpr rfl) (fun q hq _ => by rw [List.mem_singleton.mp hq]) room L hdef hbind (t := fun E => tX X.K (WEx E) r (cl j)) fun A outer s H E f c' hr' => hbody A outer s H E f c' hr' (takes_of rfl rfl rfl rfl)) fun _ _ σ H Q _ ⟨Hs0, H0, Hs, A, q⟩ => ⟨A.tabs hr, fun H1 eN T1 => by
    obtain ⟨Hs1, A1, s1⟩ := A.lam hr hn eN T1
    exact ⟨Hs0, H0, Hs1, A1, fun Hs' H' g => ⟨rfl, j, Hs', hj, rfl, g.sub, fun v' Hs'' H'' g2 hv' => q v' Hs'' H'' (A1.grow (g.trans g2)) (s1.trans (g.trans g2).st) hv'⟩⟩⟩
end
/-! ## the law itself, with its table -/
section
variable {Pr : Program} {w : World} {K : PySem.W.Frag} {mg : Str → Option Value} {base : Heap}
/-- what is promised of the law: handed the script, its table at P there, it tells d -/
def spL (K : PySem.W.Frag) (P : Addr) (q : Str) (R : List Int → PyData → Prop) : Sp := fun vs H Q _ => ∃ (a : Addr) (ns : List Int) (H0 : Hp) (d : PyData), vs = [.ref a] ∧ Same H0 H ∧ (∀ b ps, H0 b ≠ some (.tbl ps)) ∧ SqL K H0 a (ns.map V.int) ∧ H P = some (.tbl #[]) ∧ R ns d ∧ ∀ v Hs' H', Dat Hs' v d → Q v H'
/-- the slots at the law's beginning -/
theorem asn_law {N : List Str} {a P : Addr} {q : Str} {ns : List Int} {H0 H : Hp} (hn : 1 ≤ N.length) (h1 : Same H0 H) (h2 : ∀ b ps, H0 b ≠ some (.tbl ps)) (h3 : SqL K H0 a (ns.map V.int)) (h4 : H P = some (.tbl #[])) : Asn K H0 H0 (.scrT ns [(P, q)] :: List.replicate (N.length - 1) .un) (L2.start N [.ref a]) H0 H := by
  refine ⟨⟨h1, Same.refl H0, h1, fun _ z => .inl z, fun _ _ z => z⟩, ⟨fun i => if i = 0 then [P] else [], fun i sl e => ?_, fun i y m => ?_, fun i j y m m' => ?_, fun i s' e _ => CdTab.of (Same.refl H0) h2⟩, ?_⟩
  · cases i with
    | zero =>
      cases e
      exact ⟨⟨a, rfl, h3⟩, fun p hp => by
        obtain rfl := List.mem_singleton.mp hp
        exact ⟨List.mem_singleton.mpr rfl, #[], h4, True.intro, fun pos cv hc => by
          have z : codeAmong pos [] = some cv := hc
          simp [codeAmong] at z⟩⟩
    | succ i =>
      rw [List.getElem?_cons_succ, List.getElem?_replicate] at e
      split at e
      · injection e with e; subst e; trivial
      · cases e
  · by_cases z : i = 0
    · rw [if_pos z] at m
      obtain rfl := List.mem_singleton.mp m
      have : H0 y = none := by
        cases u : H0 y with
        | none => rfl
        | some o => have := h1 y o u; rw [h4] at this; injection this with this; exact absurd (by rw [u, ← this]) (h2 y #[])
      exact ⟨this, this, by rw [h4]; simp⟩
    · rw [if_neg z] at m; exact absurd m List.not_mem_nil
  · by_cases z : i = 0
    · by_cases z' : j = 0
      · rw [z, z']
      · rw [if_neg z'] at m'; exact absurd m' List.not_mem_nil
    · rw [if_neg z] at m; exact absurd m List.not_mem_nil
  · simp [L2.start]
theorem okL {x : Str} {st : Stmt} {f c : Addr} {N ps : List Str} {k : Nat} {P : Addr} {q : Str} {R : List Int → PyData → Prop} {oc : Value} {od : Option Addr} {kV doc pm ct : Value} {an : Option Addr} {osl : Array (Option Value)}
    (lk : K.lookup f = some ⟨oc, od, .func (PySem.W.fnOf x x (defArgs st) (defBody st) (defScope st) .none kV doc pm an (.ref c) ct), osl⟩) (hcd : PySem.W.codeIn K (.ref c) x = true) (S : FnScope N ps (defScope st)) (hps : ps.length = 1) (hn : 1 ≤ N.length)
    (hb : ∀ (A : Around) (outer : List Env) (s : Shared) (H : Hp) (E : XK), Room k (A.deeper (PyProof.Rows.envOfC x (defScope st) s.heap.objs.size f (.ref c))) → ∀ ns d, R ns d →
      DSs (cxOf C8.CX0 Pr w K mg base N x (defScope st) f (.ref c) A outer s H E).nox C8.E0 (.scrT ns [(P, q)] :: List.replicate (N.length - 1) .un) (defBody st) { nx := fun _ => False, rt := fun z => z = d }) :
    FnOk Pr w K mg base C8.CX0 (k + 1) f (PySem.W.fnOf x x (defArgs st) (defBody st) (defScope st) .none kV doc pm an (.ref c) ct) ps (spL K P q R) := by
  refine fn_of lk hcd S (fun vs H Q E h => ?_) fun A outer s H vs Q E hr h => ?_
  · obtain ⟨a, ns, H0, d, rfl, _⟩ := h
    exact hps.symm
  · obtain ⟨a, ns, H0, d, rfl, h1, h2, h3, h4, hR, hQ⟩ := h
    refine ⟨_, (hb A outer s H E hr ns d hR).nox, H0, H0, H0, asn_law hn h1 h2 h3 h4, ?_⟩
    · exact ⟨fun r' σ' Hs' H' p a _ => p.elim, fun d' v Hs' H' p g hv => by rw [p] at hv; exact hQ v Hs' H' hv, fun _ _ _ _ p => p.elim, fun _ _ _ _ p => p.elim, fun _ _ _ _ _ p => p.elim, fun _ _ _ _ _ p => p.elim, fun _ _ _ _ _ _ p => p.elim⟩
end
end Dl

namespace Dl
open PySem L2 PySem.W PyProof.Rows
/-! ## min of rows of natural numbers that stand in order: the first -/
theorem readsAll_nI {h : Heap} : ∀ {vs : List Value} {a b : List Nat} {as bs : List Addr}, ReadsAll h vs (a.map nI) as → ReadsAll h vs (b.map nI) bs → a = b
  | [], [], [], _, _, _, _ => rfl
  | [], [], y :: b, _, _, _, h2 => by cases h2
  | [], x :: a, _, _, _, h1, _ => by cases h1
  | v :: vs, [], _, _, _, h1, _ => by cases h1
  | v :: vs, x :: a, [], _, _, _, h2 => by cases h2
  | v :: vs, x :: a, y :: b, _, _, h1, h2 => by
    rw [List.map_cons] at h1 h2
    unfold nI at h1 h2
    cases h1 with
    | cons p1 r1 =>
      cases h2 with
      | cons p2 r2 =>
        have e : a = b := readsAll_nI (by unfold nI; exact r1) (by unfold nI; exact r2)
        cases p1
        cases p2
        rw [e]
theorem reads_nT {h : Heap} {v : Value} {a b : List Nat} {as bs : List Addr} (h1 : Reads h v (nT a) as) (h2 : Reads h v (nT b) bs) : a = b := by
  unfold nT at h1 h2
  cases h1 with
  | tuple e1 c1 d1 r1 =>
    cases h2 with
    | tuple e2 c2 d2 r2 =>
      rw [e1] at e2
      cases e2
      rw [d1] at d2
      cases d2
      exact readsAll_nI r1 r2
theorem dataLt_nT (a b : List Nat) : dataLt (nT a) (nT b) = lxLt a b := by
  show PyProof.Rows.lexLt itemOrd (keyToks (nT a)) (keyToks (nT b)) = _
  unfold nT
  rw [keyToks, keyToks, lex_rows]
theorem minD_rows {a : List Nat} : ∀ {b : List (List Nat)}, (∀ x ∈ b, lxLt a x = true) → minD (nT a) (b.map nT) = nT a
  | [], _ => rfl
  | x :: b, h => by
    have e : dataLt (nT x) (nT a) = false := by rw [dataLt_nT]; exact lx_asym (h x List.mem_cons_self)
    have ih := minD_rows (b := b) fun y hy => h y (List.mem_cons_of_mem _ hy)
    unfold minD at ih ⊢
    rw [List.map_cons, List.foldl_cons, e]
    exact ih
theorem depthAll_rows : ∀ xs : List (List Nat), PyData.depthAll (xs.map nT) ≤ 60 := fun xs => by
  have key : ∀ (ds : List PyData), (∀ d ∈ ds, d.depth ≤ 60) → PyData.depthAll ds ≤ 60 := by
    intro ds
    induction ds with
    | nil => intro _; rw [PyData.depthAll]; omega
    | cons d ds ih =>
      intro h
      rw [PyData.depthAll]
      have h1 := h d List.mem_cons_self
      have h2 := ih fun x hx => h x (List.mem_cons_of_mem _ hx)
      omega
  exact key _ (depth_rows xs)
theorem dats_ix {H : Hp} : ∀ {xs : List V} {ds : List PyData} {us : List Value} {i : Nat} {u : Value}, Dats H xs ds → Vals xs us → us[i]? = some u → ∃ x d, RelV x u ∧ Dat H x d ∧ ds[i]? = some d
  | _, _, _, i, u, .nil, .nil, e => by simp at e
  | _, _, _, 0, u, .cons h t, .cons r rs, e => by simp at e; subst e; exact ⟨_, _, r, h, rfl⟩
  | _, _, _, i + 1, u, .cons h t, .cons r rs, e => by
    obtain ⟨x, d, q1, q2, q3⟩ := dats_ix t rs (i := i) (u := u) (by simpa using e)
    exact ⟨x, d, q1, q2, by simpa using q3⟩
section
variable {X : Cx} {r : Rho} {e : Expr} {pos p : Pos} {a : List Nat} {rest : List (List Nat)}
def rMinR : List V → Hp → VK → Prop := fun vs H Q => ∃ (Hs : Hp) (v : V) (a : List Nat) (rest : List (List Nat)), vs = [v] ∧ Same Hs H ∧ Dat Hs v (.list ((a :: rest).map nT)) ∧ (∀ x ∈ rest, lxLt a x = true) ∧ ∀ x, Dat Hs x (nT a) → Q x H
theorem cr_minR (hc : X.calm = true) (hu : X.A.units + 64 < cLine) : CallR X (.builtin "min") rMinR := fun pins s σ H vs us Q I rv ⟨Hs, v, a, rest, ev, hsub, hv, hl, q⟩ => by
  subst ev
  obtain ⟨u, rfl, ru⟩ := vals1 rv
  obtain ⟨l, xs, rfl, hl', hx⟩ := hv.inv_list
  cases ru
  obtain ⟨its, hr, hp, hz⟩ := I.list (SqL.of (K := X.K) (hsub _ _ hl'))
  obtain ⟨as, h2⟩ := Dp.readsAll I _ _ its (Dats.dp (hx.mono hsub)) hr
  have el : ((a :: rest).map nT).map Dl.lo = nT a :: rest.map nT := by
    rw [List.map_map]
    show Dl.lo (nT a) :: _ = _
    rw [lo_nT]
    congr 1
    exact List.map_congr_left fun x _ => lo_nT x
  rw [el] at h2
  refine min_list_data (I.ok.hd hc) hp.isList (by simpa using h2) ⟨fun x hx y hy => ?_, fun x hx => ?_⟩ (by have := depthAll_rows (a :: rest); rw [List.map_cons] at this; omega) fun i v h' tk bs hi hrd hk => ?_
  · have := alike_rows (a :: rest)
    rw [List.map_cons] at this
    obtain ⟨x', _, rfl⟩ := List.mem_map.mp (show x ∈ (a :: rest).map nT by rw [List.map_cons]; exact hx)
    obtain ⟨y', _, rfl⟩ := List.mem_map.mp (show y ∈ (a :: rest).map nT by rw [List.map_cons]; exact hy)
    unfold nT; rw [alike]; exact alike_nI x' y'
  · obtain ⟨x', _, rfl⟩ := List.mem_map.mp (show x ∈ (a :: rest).map nT by rw [List.map_cons]; exact hx)
    unfold nT; intro z; cases z
  · obtain ⟨x, d, e1, e2, e3⟩ := dats_ix hx hr (by simpa using hi)
    obtain ⟨b, e4, rfl⟩ := map_at e3
    obtain ⟨cs, e5⟩ := e2.reads hsub I e1
    rw [lo_nT] at e5
    rw [minD_rows hl] at hrd
    have e6 := reads_nT (Reads.keeps hk e5) hrd
    rw [e6] at e2
    exact ⟨x, H, I.kept hk, e1, q x e2⟩
theorem de_minR (hc : X.calm = true) (hu : X.A.units + 64 < cLine) (hm : X.mg "min" = none) (ha : DE X r e (.list ((a :: rest).map nT))) (hl : ∀ x ∈ rest, lxLt a x = true) (hg : Gl X "min" := by rfl)
    (he : starEach (e :: []) X.env = (false, eval e X.env) :: starEach [] X.env := by rfl) (hpl : (backTo pos (starEach [] X.env)).any (·.1) = false := by rfl) : DE X r (.Call (.Name "min" p) [e] [] pos) (nT a) :=
  de_callB (ds := [.list ((a :: rest).map nT)]) (cr_minR hc hu) (fun vs Hs H Q hv h q => by
    cases hv with
    | cons h1 t =>
      cases t
      exact ⟨Hs, _, a, rest, rfl, h, h1, hl, fun x hx => q x Hs H (Grw.refl h) hx⟩) hg hm (by decide +kernel) (da_1 ha he) (by decide) (by decide) he hpl
end
end Dl

namespace Dl
open PySem L2 PySem.W PyProof.Rows
/-! ## the end of a law with its table, over a head by facts -/
theorem fun_of {K : PySem.W.Frag} {x qual : Str} {st : Stmt} {f : Addr} {fd : FuncData} (F : FunD K x qual (defArgs st) (defBody st) (defScope st) [] [] f fd) : Fun K x qual st f fd := by
  obtain ⟨oc, od, dV, kV, doc, pm, an, cdv, ct, osl, e, lk, hcd, hd, _⟩ := F.ex
  rcases hd with ⟨_, hd⟩ | ⟨hd, _⟩
  · subst hd
    exact ⟨⟨oc, od, kV, doc, pm, an, cdv, ct, osl, e, lk, hcd⟩, F.kp⟩
  · exact absurd rfl hd
def noTab (H : Hp) : Hp := fun b => match H b with
  | some (.tbl _) => none
  | o => o
theorem noTab_same (H : Hp) : Same (noTab H) H := fun b o e => by
  unfold noTab at e
  split at e
  · cases e
  · exact e
theorem noTab_tbl (H : Hp) : ∀ b ps, noTab H b ≠ some (.tbl ps) := fun b ps e => by
  unfold noTab at e
  split at e
  · cases e
  · rename_i h; exact h ps e
theorem noTab_of {H : Hp} {b : Addr} {o : HO} (e : H b = some o) (h : ∀ ps, o ≠ .tbl ps) : noTab H b = some o := by
  unfold noTab
  rw [e]
  split
  · rename_i ps q; injection q with q; exact absurd q (h ps)
  · rfl
theorem noTab_seq {K : PySem.W.Frag} {H : Hp} {a : Addr} {xs : List V} (h : SqL K H a xs) : SqL K (noTab H) a xs := by
  rcases h with (h | ⟨o, h⟩) | h
  · exact .inl (.inl (noTab_of h fun _ z => by cases z))
  · exact .inl (.inr ⟨o, noTab_of h fun _ z => by cases z⟩)
  · exact .inr h
/-- what the law promises -/
def R_L : List Int → PyData → Prop := fun ns d => ns.length ≤ 63 ∧ d = .bool true
section
variable {Pr : Program} {w : World} {K : PySem.W.Frag} {mg : Str → Option Value} {base : Heap}
theorem okLaw {st : Stmt} {c P : Addr} {N : List Str} {k : Nat} {q : Str} (D : Dfn K mg "law" st ["script"]) (hc : D.fd.code = .ref c) (S : FnScope N ["script"] (defScope st)) (hn : 1 ≤ N.length)
    (hb : ∀ (A : Around) (outer : List Env) (s : Shared) (H : Hp) (E : XK), Room k (A.deeper (PyProof.Rows.envOfC "law" (defScope st) s.heap.objs.size D.f (.ref c))) → ∀ ns, ns.length ≤ 63 →
      DSs (cxOf C8.CX0 Pr w K mg base N "law" (defScope st) D.f (.ref c) A outer s H E).nox C8.E0 (.scrT ns [(P, q)] :: List.replicate (N.length - 1) .un) (defBody st) { nx := fun _ => False, rt := fun z => z = .bool true }) :
    FnOk Pr w K mg base C8.CX0 (k + 1) D.f D.fd ["script"] (spL K P q R_L) := by
  obtain ⟨oc, od, kV, doc, pm, an, cdv, ct, osl, e, lk, hcd⟩ := D.F.ex
  rw [e] at hc lk
  have hc' : cdv = .ref c := hc
  subst hc'
  have := okL (Pr := Pr) (w := w) (mg := mg) (base := base) (k := k) (P := P) (q := q) (R := R_L) lk hcd S rfl hn fun A outer s H E hr ns d ⟨h1, h2⟩ => by rw [h2]; exact hb A outer s H E hr ns h1
  rw [e]
  exact this
theorem law_at {l : PySem.W.OpenLaw} {h : Heap} {st : Stmt} {k : Nat} {q : Str} {fa : List He.Fa} {fn : List He.DefD} {ts : List He.Tab} {tf : List He.Defn} {ex : PySem.W.Frag → Bool} (X : K.In h) (s : He.SaysX fa fn ts tf ex w h K) (htf : (("law", none) : He.Defn) ∈ tf) (D : Dfn K mg "law" st ["script"]) (hD : D.f = He.ga K "law")
    (hok : ∀ base c P, K.In base → base.Ns mainGlobals mg → D.fd.code = .ref c → LamX.TabB base mg c P → FnOk l.prog w K mg base C8.CX0 k D.f D.fd ["script"] (spL K P q R_L)) (hbd : ∀ (s : Shared) (u : Value), BindsTo s D.fd ⟨[u], []⟩ [("script", u)]) : LamX.LawAtS l w K C8.CX0 k 63 "script" mg D.f h := by
  have hcode : D.fd.code = .ref (He.cT K ("law", none)).1 := by
    obtain ⟨oc, od, kV, doc, pm, an, cdv, ct, osl, e, lk, hcd⟩ := D.F.ex
    obtain ⟨c, rfl⟩ := He.codeIn_ref hcd
    rw [hD] at lk
    have : D.fd.code = .ref c := by rw [e]
    rw [this]
    exact congrArg Value.ref (He.codeOf_eq (p := ("law", none)) lk this).symm
  refine ⟨D.fd, [He.cT K ("law", none)], spL K (He.cT K ("law", none)).2 q R_L, fun p hp => ?_, fun p hp => ?_, fun p hp => ?_, hbd, fun H a ns hl _ hT hS => ?_, fun base hK hG hT => hok base _ _ hK hG hcode (hT _ (List.mem_singleton.mpr rfl))⟩
  · rw [List.mem_singleton.mp hp]; exact s.empty _ htf
  · rw [List.mem_singleton.mp hp]; exact s.out _ htf
  · rw [List.mem_singleton.mp hp]; exact PySem.W.codeHd_of_K X (s.hd _ htf)
  · exact ⟨a, ns, noTab H, .bool true, rfl, noTab_same H, noTab_tbl H, noTab_seq hS, hT _ (List.mem_singleton.mpr rfl), ⟨hl, rfl⟩, fun v Hs' H' hv => hv.inv_bool⟩
end
/-! ## the refusals' classes -/
def toldNames : List Str := ["Clash", "TooMany", "NoHeat", "NoText"]
def toldAt (K : PySem.W.Frag) (k : Nat) : Addr := He.ga K (toldNames.getD k "")
def excB (K : PySem.W.Frag) (D : Addr) : Bool :=
  He.eqO (PySem.W.findIn K (.ref D) "__getattribute__") (some (some (.builtin "BaseException.__getattribute__"))) && (He.eqO (PySem.W.findIn K (.ref D) "__getattr__") (some none) && (decide (PySem.W.subIn K (.ref D) (.type "BaseException") = some true) && (PySem.W.hasDictIn K D &&
  (He.eqO (PySem.W.findIn K (.ref D) "__class__") (some (some (.builtin "object.__class__"))) && (He.eqO (PySem.W.specialIn K (.builtin "object.__class__") "__get__") (some (some (.builtin "getset_descriptor.__get__"))) && (decide (PySem.W.takesIn K (.builtin "object.__class__") = some true) && decide (PySem.W.mroIn K D (.type "object") = some true)))))))
theorem excB_ok {K : PySem.W.Frag} {D : Addr} (h : excB K D = true) : ExcC K D := by
  obtain ⟨h1, h⟩ := He.ba h
  obtain ⟨h2, h⟩ := He.ba h
  obtain ⟨h3, h⟩ := He.ba h
  obtain ⟨h4, h⟩ := He.ba h
  obtain ⟨h5, h⟩ := He.ba h
  obtain ⟨h6, h⟩ := He.ba h
  obtain ⟨h7, h8⟩ := He.ba h
  exact ⟨He.eqO_ok h1, He.eqO_ok h2, of_decide_eq_true h3, h4, He.eqO_ok h5, He.eqO_ok h6, of_decide_eq_true h7, of_decide_eq_true h8⟩
def toldB (K : PySem.W.Frag) : Bool := (List.range 4).all fun k => excB K (toldAt K k) && (decide (PySem.W.exmOne K (.ref (toldAt K k)) (.ref (He.ga K "HeatError")) = some true) && (decide (PySem.W.kitOne K (.ref (toldAt K k)) (.type "ValueError") = some true) &&
  (List.range 4).all fun j => decide (PySem.W.kitOne K (.ref (toldAt K k)) (.ref (toldAt K j)) = some (decide (k = j)))))
/-- the facts that are asked of the head for _law_told -/
def toldFa : List He.Fa := [.glo "HeatError", .glo "Clash", .glo "TooMany", .glo "NoHeat", .glo "NoText", .exc "Clash", .exc "TooMany", .exc "NoHeat", .exc "NoText", .free "ValueError", .free "isinstance"]
theorem ecls_of {K : PySem.W.Frag} {h : Heap} {mg : Str → Option Value} (X : K.In h) (G : h.Ns mainGlobals mg) {x : Str} (c1 : (He.Fa.glo x).ok K = true) (c2 : (He.Fa.exc x).ok K = true) : ECls K mg x (He.ga K x) := by
  obtain ⟨h1, h2, h3, h4⟩ := He.exc_ok c2
  exact ⟨He.glo_ok X G c1, h1, h2, h3, h4⟩
theorem tcls_of {K : PySem.W.Frag} {h : Heap} {mg : Str → Option Value} (X : K.In h) (G : h.Ns mainGlobals mg) (c : ∀ f ∈ toldFa, f.ok K = true) (b : toldB K = true) : TCls K mg (toldAt K) (He.ga K "HeatError") := by
  have hb := fun k (hk : k < 4) => List.all_eq_true.mp b k (List.mem_range.mpr hk)
  refine ⟨He.glo_ok X G (c _ (by simp [toldFa])), ecls_of X G (c (.glo "Clash") (by simp [toldFa])) (c (.exc "Clash") (by simp [toldFa])), ecls_of X G (c (.glo "TooMany") (by simp [toldFa])) (c (.exc "TooMany") (by simp [toldFa])), ecls_of X G (c (.glo "NoHeat") (by simp [toldFa])) (c (.exc "NoHeat") (by simp [toldFa])), ecls_of X G (c (.glo "NoText") (by simp [toldFa])) (c (.exc "NoText") (by simp [toldFa])),
    fun k hk => excB_ok (He.ba (hb k hk)).1, fun k hk => of_decide_eq_true (He.ba (He.ba (hb k hk)).2).1, fun j k hj hk => ?_, fun k hk => of_decide_eq_true (He.ba (He.ba (He.ba (hb k hk)).2).2).1, He.free_ok X G (c (.free "ValueError") (by simp [toldFa])), He.free_ok X G (c (.free "isinstance") (by simp [toldFa]))⟩
  exact of_decide_eq_true (List.all_eq_true.mp (He.ba (He.ba (He.ba (hb j hj)).2).2).2 k (List.mem_range.mpr hk))
end Dl

namespace Dl
open PySem L2 PySem.W PyProof.Rows
/-! ## told, refused; things that are the same -/
def toldD (d : PyData) : PyData := .tuple [.str "told", d]
def refD (k : Nat) : PyData := .tuple [.str "refused", .int (k : Int)]
theorem dep_2 {n : Nat} {a b : PyData} (ha : depL a ≤ n) (hb : depL b ≤ n) : ∀ d ∈ [a, b], depL d ≤ n := fun d hd => by
  rcases List.mem_cons.mp hd with z | z
  · rw [z]; exact ha
  · rw [List.mem_singleton.mp z]; exact hb
theorem dep_cons {n : Nat} {a : PyData} {ds : List PyData} (ha : depL a ≤ n) (hb : ∀ d ∈ ds, depL d ≤ n) : ∀ d ∈ a :: ds, depL d ≤ n := fun d hd => by
  rcases List.mem_cons.mp hd with z | z
  · rw [z]; exact ha
  · exact hb d z
theorem dep_nil {n : Nat} : ∀ d ∈ ([] : List PyData), depL d ≤ n := fun d hd => by cases hd
theorem dep_ref (k : Nat) : depL (refD k) ≤ 1 := dep_tup (n := 0) (dep_2 (by rw [dep_str]; exact Nat.le_refl _) (by rw [dep_int]; exact Nat.le_refl _))
theorem dep_told {n : Nat} {d : PyData} (h : depL d ≤ n) : depL (toldD d) ≤ n + 1 := dep_tup (n := n) (dep_2 (by rw [dep_str]; exact Nat.zero_le _) h)
section
variable {X : Cx} {r : Rho} {e a b : Expr} {pos : Pos} {d : PyData}
theorem eqL_refl {H : Hp} {v : V} (h : Dat H v d) : eqL d d = true := PySem.SeqAt.eqv_refl_plain _ h.plain
theorem r2_eqS {neg : Bool} (hd : depL d ≤ 60) : R2D (rEqP neg) d d (.bool (!neg)) := fun x y Hs H Q hx hy hs q => by
  refine ⟨d, d, hx.mono hs, hy.mono hs, by omega, ?_⟩
  have := q (.bl (!neg)) Hs H (Grw.refl hs) (.bl _)
  rw [eqL_refl hx]
  cases neg <;> exact this
theorem de_eqS (hu : X.A.units + 64 < cLine) (hd : depL d ≤ 60) (ha : DE X r a d) (hb : DE X r b d) : DE X r (.Compare a [.Eq] [b] pos) (.bool true) := de_cmp (op_eqP hu) (r2_eqS (neg := false) hd) ha hb (nomark _)
theorem dt_eqS (hu : X.A.units + 64 < cLine) (hd : depL d ≤ 60) (ha : DE X r a d) (hb : DE X r b d) : DT X r (.Compare a [.Eq] [b] pos) true := dt_cmp (op_eqP hu) (r2_eqS (neg := false) hd) ha hb (nomark _)
theorem dt_neS (hu : X.A.units + 64 < cLine) (hd : depL d ≤ 60) (ha : DE X r a d) (hb : DE X r b d) : DT X r (.Compare a [.NotEq] [b] pos) false := dt_cmp (op_neP hu) (r2_eqS (neg := true) hd) ha hb (nomark _)
theorem dem_eqS (hu : X.A.units + 64 < cLine) (hd : depL d ≤ 60) (ha : DEm X r a d) (hb : DEm X r b d) : DEm X r (.Compare a [.Eq] [b] pos) (.bool true) := PE.wk (pe_cmpR (op_eqP hu) ha hb (nomark _)) fun _ _ σ H Q _ q => tOp_m (r2_eqS (neg := false) hd) q
theorem dtm_eqS (hu : X.A.units + 64 < cLine) (hd : depL d ≤ 60) (ha : DEm X r a d) (hb : DEm X r b d) : DTm X r (.Compare a [.Eq] [b] pos) true := dtm_cmp (op_eqP hu) (r2_eqS (neg := false) hd) ha hb (nomark _)
theorem dtm_neS (hu : X.A.units + 64 < cLine) (hd : depL d ≤ 60) (ha : DEm X r a d) (hb : DEm X r b d) : DTm X r (.Compare a [.NotEq] [b] pos) false := dtm_cmp (op_neP hu) (r2_eqS (neg := true) hd) ha hb (nomark _)
end
end Dl

namespace PySem.AutoSeq1
theorem list_extend_tup (l : Addr) (items : Array Value) (n : Nat) (b : Addr) (items2 : Array Value) (n2 : Nat) (od : Option Addr) (sl : Array (Option Value)) (hs0 : ¬(!items.isEmpty && Builtin.List.listTooLong (items.size + items2.size)) = true) (hs1 : items.size ≤ sizeLine) (hs2 : items.size + items2.size ≤ sizeLine + 1 := by seq_fits) :
    Meets (Builtin.«list.extend» ⟨[.ref l, .ref b], []⟩) (fun _ R s => s.heap.get? l = some { cls := .type "list", dict := none, data := .seq items n, slots := #[] } ∧ s.heap.get? b = some { cls := .type "tuple", dict := od, data := .seq items2 n2, slots := sl } ∧ R (.ok (.ret Value.none)) { s with heap := s.heap.update l (Obj.mapSeq fun x => x ++ items2), toks := s.toks }) :=
  .of_wp fun prog w A R s h => by
    obtain ⟨hp, g, d, tk, os⟩ := s; obtain ⟨hl, hb, h⟩ := h; have f1 := idx_int; have f2 := sub_tuple_tuple; have f3 := sub_list_list; have f4 := sub_tuple_list; have f5 := sub_list_tuple;
    have hz' : (items ++ items2).size ≤ sizeLine + 1 := by rw [Array.size_append]; exact hs2
    wp_walk using (wpAny_updateSeq hl rfl (hz := hs1) (_hz' := hz')), wpAny_loadPart' hl, wpAny_loadPart' hb; exact ⟨_, rfl, h⟩
end PySem.AutoSeq1
namespace Dl
open PySem L2 PySem.W PyProof.Rows
section
variable {X : Cx} {E : XK} {r : Rho} {e a b c f : Expr} {pos : Pos} {d d1 d2 d3 d4 : PyData} {ds es : List PyData} {P : Post}
/-! ## l.extend(t), t a tuple -/
def rExtendT (K : PySem.W.Frag) : V → List V → Hp → VK → Prop := fun x vs H Q => ∃ l b xs zs, x = .ref l ∧ vs = [.ref b] ∧ H l = some (.lst xs) ∧ Rd H b (.tup zs) ∧ xs.length + zs.length ≤ sizeLine ∧ Q .non (upd H l (.lst (xs ++ zs)))
theorem mt_extendT : MtM X "list.extend" (rExtendT X.K) := by
  intro pins s σ H x vs v us Q I rx rv h
  obtain ⟨l, b, xs, zs, rfl, rfl, hH, hB, hz, q⟩ := h
  cases rx
  obtain ⟨u, rfl, ru⟩ := rv.one
  cases ru
  obtain ⟨z, its, n, r, hl, e⟩ := I.lstM hH
  obtain ⟨hz2, its2, r2, ob, e2, hc2, n2, hd2⟩ := Rd.ok hB I.hok
  have hl2 := r2.length
  have hsz : its.toArray.size + its2.toArray.size ≤ sizeLine := by rw [List.size_toArray, List.size_toArray]; omega
  have hlong : ¬ (!its.toArray.isEmpty && Builtin.List.listTooLong (its.toArray.size + its2.toArray.size)) = true := by
    rw [notLongL hsz, Bool.and_false]
    exact Bool.false_ne_true
  obtain ⟨oc, od, dt, sl⟩ := ob
  dsimp only at hc2 hd2
  subst hc2 hd2
  refine call_meets F.slot_list_extend ⟨_, e, rfl⟩ F.entry_list_extend (F.args_list_extend_2 _ _)
    (AutoSeq1.list_extend_tup l its.toArray n b its2.toArray n2 od sl hlong (by rw [List.size_toArray]; omega) (by omega)) ⟨e, e2, ?_⟩
  refine ⟨.non, _, I.lset (its' := its ++ its2) hH e (by simp) (r.append r2) ?_, rfl, q⟩
  rw [List.length_append]
  omega
theorem ds_extendT (i : Nat) {x : Str} {px pa cpos : Pos} (hr : r[i]? = some (.own ds)) (he : DE X r e (.tuple es)) (hz : ds.length + es.length ≤ sizeLine) (hp : P.nx (r.set i (.own (ds ++ es))))
    (hN : X.N[i]? = some x := by rfl) (hv : Vis X.env.scope x := by first | exact Or.inl rfl | exact Or.inr (Or.inl rfl) | exact Or.inr (Or.inr rfl))
    (hd : (x == ("__debug__" : Str)) = false := by decide) (hcd : (x == ("__classdict__" : Str)) = false := by decide)
    (hs : swapsWith (.Call (.Attribute (.Name x px) "extend" pa) [e] [] cpos) none pos.line X.env = pure false := by rfl) (hes : starEach [e] X.env = (false, eval e X.env) :: starEach [] X.env := by rfl)
    (hpe : ∀ {to t}, PE X (.Name x px) to → PA X [e] t → PE X (.Call (.Attribute (.Name x px) "extend" pa) [e] [] cpos) (tBM X.K "list" (rExtendT X.K) to t) := by
      intro to t h1 h2; exact pe_bm PySem.F.plainAttrs_list PySem.F.slot_list_extend PySem.F.type_list_extend mt_extendT h1 h2) :
    DS X E r (.Expr (.Call (.Attribute (.Name x px) "extend" pa) [e] [] cpos) pos) P :=
  PS.wk (ps_expr (hpe (pe_var (i := i) hN hv hd hcd) (da_cons he.arg da_nil hes)) hs) fun _ _ D σ H _ ⟨Hs0, H0, Hs, A, w⟩ => by
    obtain ⟨p, vs, e1, h0, h1, h2, h3⟩ := A.at_ i _ hr
    refine ⟨_, e1, .inl ⟨rfl, vs, SqL.of h2⟩, Hs0, H0, Hs, A, fun us Hs1 H1 g1 ha => ?_⟩
    cases ha with
    | cons hu t =>
      cases t
      obtain ⟨b, ws, rfl, hb, hw⟩ := Dat.inv_tuple hu
      refine ⟨p, b, vs, ws, rfl, rfl, g1.all _ _ h2, Rd.same g1.sub hb, by rw [h3.length, hw.length]; exact hz, w.nx _ _ Hs1 _ hp (A.mut g1 hr e1 ((h3.mono g1.st).append hw)) g1.st⟩
theorem ds_continue (hp : P.ct r) : DS X E r (.Continue pos) P := PS.wk ps_continue fun _ _ D σ H _ ⟨Hs0, H0, Hs, A, w⟩ => w.ct r σ Hs H hp A (Same.refl Hs)
/-! ## chains of comparisons -/
theorem dt_chain {o1 o2 : CmpOp} {r1 r2 : R2} {k1 k2 : Bool} (ho1 : OpR X (compareOp o1) r1) (h1 : R2D r1 d1 d2 (.bool k1)) (ho2 : OpR X (compareOp o2) r2) (h2 : R2D r2 d2 d3 (.bool k2)) (ha : DE X r a d1) (hb : DE X r b d2) (hc : DE X r c d3) (hm : lastMarks [o1, o2] [b, c] = false := by with_unfolding_all rfl) :
    DT X r (.Compare a [o1, o2] [b, c] pos) (k1 && k2) :=
  PT.wk (pt_chain ho1 ho2 ha hb hc hm) fun σ H Q ⟨Hs0, H0, Hs, A, q⟩ => ⟨Hs0, H0, Hs, A, fun x Hs1 H1 g1 hx => ⟨Hs0, H0, Hs1, A.grow g1, fun y Hs2 H2 g2 hy => h1 x y Hs2 H2 _ (hx.mono g2.st) hy g2.sub fun v Hs3 H3 g3 hv => ⟨k1, hv.inv_bool, by
    cases k1 with
    | false => exact iteF ⟨false, rfl, q Hs3 H3 ((g1.trans g2).trans g3)⟩
    | true => exact iteT ⟨Hs0, H0, Hs3, A.grow ((g1.trans g2).trans g3), fun z Hs4 H4 g4 hz => h2 y z Hs4 H4 _ ((hy.mono g3.st).mono g4.st) hz g4.sub fun v' Hs5 H5 g5 hv' => ⟨k2, hv'.inv_bool, q Hs5 H5 ((((g1.trans g2).trans g3).trans g4).trans g5)⟩⟩⟩⟩⟩
theorem de_chain {o1 o2 : CmpOp} {r1 r2 : R2} {k1 k2 : Bool} (ho1 : OpR X (compareOp o1) r1) (h1 : R2D r1 d1 d2 (.bool k1)) (ho2 : OpR X (compareOp o2) r2) (h2 : R2D r2 d2 d3 (.bool k2)) (ha : DE X r a d1) (hb : DE X r b d2) (hc : DE X r c d3) (hm : lastMarks [o1, o2] [b, c] = false := by with_unfolding_all rfl) :
    DE X r (.Compare a [o1, o2] [b, c] pos) (.bool (k1 && k2)) :=
  PE.wk (pe_chain ho1 ho2 ha hb hc hm) fun _ _ σ H Q _ ⟨Hs0, H0, Hs, A, q⟩ => ⟨Hs0, H0, Hs, A, fun x Hs1 H1 g1 hx => ⟨Hs0, H0, Hs1, A.grow g1, fun y Hs2 H2 g2 hy => h1 x y Hs2 H2 _ (hx.mono g2.st) hy g2.sub fun v Hs3 H3 g3 hv => ⟨k1, hv.inv_bool, by
    cases k1 with
    | false => exact iteF (q _ Hs3 H3 ((g1.trans g2).trans g3) (.bl _))
    | true => exact iteT ⟨Hs0, H0, Hs3, A.grow ((g1.trans g2).trans g3), fun z Hs4 H4 g4 hz => h2 y z Hs4 H4 _ ((hy.mono g3.st).mono g4.st) hz g4.sub fun v' Hs5 H5 g5 hv' => by rw [hv'.inv_bool]; exact q _ Hs5 H5 ((((g1.trans g2).trans g3).trans g4).trans g5) (.bl _)⟩⟩⟩⟩
def tChain3 (r r' r'' : R2) (ta tb tc td : TE) : TT := fun σ H Q => ta σ H fun x H1 => tb σ H1 fun y H2 => r x y H2 fun z H3 => ∃ k, z = .bl k ∧
  (if k = true then tc σ H3 fun w' H4 => r' y w' H4 fun z' H5 => ∃ k', z' = .bl k' ∧ (if k' = true then td σ H5 fun w'' H6 => r'' w' w'' H6 fun z'' H7 => ∃ k'', z'' = .bl k'' ∧ Q k'' H7 else Q false H5) else Q false H3)
theorem pt_chain3 {ta tb tc td : TE} {op op' op'' : CmpOp} {r r' r'' : R2} (ho : OpR X (compareOp op) r) (ho' : OpR X (compareOp op') r') (ho'' : OpR X (compareOp op'') r'') (ha : PE X a ta) (hb : PE X b tb) (hc : PE X c tc) (hd : PE X f td)
    (hm : lastMarks [op, op', op''] [b, c, f] = false := by with_unfolding_all rfl) : PT X (.Compare a [op, op', op''] [b, c, f] pos) (tChain3 r r' r'' ta tb tc td) := by
  refine ⟨fun pins s σ H Q I h => ?_⟩
  refine isTrue_chain (thn (ha.run pins s σ H _ I h) fun v s1 ⟨x, H1, I1, r1, q1⟩ => test_link (thn (hb.run pins s1 σ H1 _ I1 q1) fun u s2 ⟨y, H2, I2, r2, q2⟩ =>
    thn (ho pins s2 σ H2 x y v u _ I2 r1 r2 q2) fun d s3 ⟨z, H3, I3, r3, k, e, q3⟩ => ?_)) hm
  subst e
  cases r3
  refine wpAny_truthy_bool ?_
  cases k with
  | false => exact ite_ff ⟨H3, I3, q3⟩
  | true =>
    refine ite_tt (test_link (thn (hc.run pins s3 σ H3 _ I3 q3) fun w' s4 ⟨z', H4, I4, r4, q4⟩ => thn (ho' pins s4 σ H4 y z' u w' _ I4 r2 r4 q4) fun d' s5 ⟨z2, H5, I5, r5, k2, e2, q5⟩ => ?_))
    subst e2
    cases r5
    refine wpAny_truthy_bool ?_
    cases k2 with
    | false => exact ite_ff ⟨H5, I5, q5⟩
    | true =>
      refine ite_tt (test_last (thn (hd.run pins s5 σ H5 _ I5 q5) fun w'' s6 ⟨z'', H6, I6, r6, q6⟩ => thn (ho'' pins s6 σ H6 z' z'' w' w'' _ I6 r4 r6 q6) fun d'' s7 ⟨z3, H7, I7, r7, k3, e3, q7⟩ => ?_))
      subst e3
      cases r7
      exact wpAny_truthy_bool ⟨H7, I7, q7⟩
theorem dt_chain3 {o1 o2 o3 : CmpOp} {r1 r2 r3 : R2} {k1 k2 k3 : Bool} (ho1 : OpR X (compareOp o1) r1) (h1 : R2D r1 d1 d2 (.bool k1)) (ho2 : OpR X (compareOp o2) r2) (h2 : R2D r2 d2 d3 (.bool k2)) (ho3 : OpR X (compareOp o3) r3) (h3 : R2D r3 d3 d4 (.bool k3)) (ha : DE X r a d1) (hb : DE X r b d2) (hc : DE X r c d3) (hd : DE X r f d4) (hm : lastMarks [o1, o2, o3] [b, c, f] = false := by with_unfolding_all rfl) :
    DT X r (.Compare a [o1, o2, o3] [b, c, f] pos) (k1 && (k2 && k3)) :=
  PT.wk (pt_chain3 ho1 ho2 ho3 ha hb hc hd hm) fun σ H Q ⟨Hs0, H0, Hs, A, q⟩ => ⟨Hs0, H0, Hs, A, fun x Hs1 H1 g1 hx => ⟨Hs0, H0, Hs1, A.grow g1, fun y Hs2 H2 g2 hy => h1 x y Hs2 H2 _ (hx.mono g2.st) hy g2.sub fun v Hs3 H3 g3 hv => ⟨k1, hv.inv_bool, by
    have G3 := (g1.trans g2).trans g3
    cases k1 with
    | false => exact iteF (q Hs3 H3 G3)
    | true => exact iteT ⟨Hs0, H0, Hs3, A.grow G3, fun z Hs4 H4 g4 hz => h2 y z Hs4 H4 _ ((hy.mono g3.st).mono g4.st) hz g4.sub fun v' Hs5 H5 g5 hv' => ⟨k2, hv'.inv_bool, by
        have G5 := (G3.trans g4).trans g5
        cases k2 with
        | false => exact iteF (q Hs5 H5 G5)
        | true => exact iteT ⟨Hs0, H0, Hs5, A.grow G5, fun u Hs6 H6 g6 hu => h3 z u Hs6 H6 _ ((hz.mono g5.st).mono g6.st) hu g6.sub fun v'' Hs7 H7 g7 hv'' => ⟨k3, hv''.inv_bool, q Hs7 H7 ((G5.trans g6).trans g7)⟩⟩⟩⟩⟩⟩⟩
theorem dt_le3N {i j k l : Nat} (ha : DE X r a (nI i)) (hb : DE X r b (nI j)) (hc : DE X r c (nI k)) (hd : DE X r f (nI l)) (hm : lastMarks [CmpOp.LtE, .LtE, .LtE] [b, c, f] = false := by with_unfolding_all rfl) : DT X r (.Compare a [.LtE, .LtE, .LtE] [b, c, f] pos) (decide (i ≤ j ∧ j ≤ k ∧ k ≤ l)) :=
  DT.is (dt_chain3 op_le r2_bl0 op_le r2_bl0 op_le r2_bl0 ha hb hc hd hm) (by
    rw [← Bool.decide_and, ← Bool.decide_and]
    exact decide_eq_decide.mpr ⟨fun ⟨h1, h2, h3⟩ => ⟨by omega, by omega, by omega⟩, fun ⟨h1, h2, h3⟩ => ⟨by omega, by omega, by omega⟩⟩)
theorem dt_lele {i j k : Int} (ha : DE X r a (.int i)) (hb : DE X r b (.int j)) (hc : DE X r c (.int k)) (hm : lastMarks [CmpOp.LtE, .LtE] [b, c] = false := by with_unfolding_all rfl) : DT X r (.Compare a [.LtE, .LtE] [b, c] pos) (decide (i ≤ j ∧ j ≤ k)) :=
  DT.is (dt_chain op_le r2_bl0 op_le r2_bl0 ha hb hc hm) (by rw [← Bool.decide_and])
theorem de_lele {i j k : Int} (ha : DE X r a (.int i)) (hb : DE X r b (.int j)) (hc : DE X r c (.int k)) (hm : lastMarks [CmpOp.LtE, .LtE] [b, c] = false := by with_unfolding_all rfl) : DE X r (.Compare a [.LtE, .LtE] [b, c] pos) (.bool (decide (i ≤ j ∧ j ≤ k))) :=
  DE.is (de_chain op_le r2_bl0 op_le r2_bl0 ha hb hc hm) (by rw [← Bool.decide_and])
theorem dt_lelt {i j k : Int} (ha : DE X r a (.int i)) (hb : DE X r b (.int j)) (hc : DE X r c (.int k)) (hm : lastMarks [CmpOp.LtE, .Lt] [b, c] = false := by with_unfolding_all rfl) : DT X r (.Compare a [.LtE, .Lt] [b, c] pos) (decide (i ≤ j ∧ j < k)) :=
  DT.is (dt_chain op_le r2_bl0 op_lt r2_bl0 ha hb hc hm) (by rw [← Bool.decide_and])
theorem de_lelt {i j k : Int} (ha : DE X r a (.int i)) (hb : DE X r b (.int j)) (hc : DE X r c (.int k)) (hm : lastMarks [CmpOp.LtE, .Lt] [b, c] = false := by with_unfolding_all rfl) : DE X r (.Compare a [.LtE, .Lt] [b, c] pos) (.bool (decide (i ≤ j ∧ j < k))) :=
  DE.is (de_chain op_le r2_bl0 op_lt r2_bl0 ha hb hc hm) (by rw [← Bool.decide_and])
end
end Dl

namespace Dl
open PySem L2 PySem.W PyProof.Rows PySem.Spec
/-! ## exceptions out of comprehensions -/
/-- an exception in flight, or held by the def's frame; sI: the state without it -/
def XF (X : Cx) (E : XK) (u : Value) (s' : Shared) : Prop :=
  ∃ (a : Addr) (B : Heap) (sI : Shared) (pins : List (Addr × Obj)) (σ : L2.St) (H : Hp) (cls : Value) (d : Option Addr) (L : Addr),
    u = .ref a ∧ X.env.frame = some L ∧ Inv X pins σ H sI ∧ (∀ b o, sI.heap.get? b = some o → b ∉ frs X.stack → B.get? b = some o) ∧ sI.heap.UpToSlots s'.heap ∧
    (HandSPX.FlyingZ B X.stack a (Zc cls d) s'.heap ∨ HandSPX.HeldZ B X.stack a (Zc cls d) L s'.heap) ∧ H a = none ∧ s'.os = sI.os ∧ AllBare s'.gens ∧ E cls d H
/-- what may fly out of X -/
def Lets (X : Cx) (E : XK) : Prop := ∀ u s', XF X E u s' → X.xe u s'
/-- the frame that X stands in -/
def Fr (X : Cx) : Prop := ∃ F rest L, X.stack = F :: rest ∧ F.frame = some L ∧ X.env.frame = some L
theorem lets_of {X : Cx} {E : XK} (tk : Takes X (WEx E)) (hf : X.env.frame = some X.env.locals) : Lets X E := fun u s' ⟨a, B, sI, pins, σ, H, cls, d, L, e1, e2, I, nb, up, sky, na, os, ag, w⟩ => by
  rw [hf] at e2
  cases e2
  exact tk u s' ⟨a, B, sI, pins, σ, H, cls, d, e1, I, nb, up, .inr sky, na, os, ag, w⟩
theorem traced_one {h B B' : Heap} {e : Addr} {Z Z' : Obj → Prop} {f f' : Value} (t : HandSPX.TracedZ h B e Z f) (t' : HandSPX.TracedZ h B' e Z' f') : f = f' := by
  obtain ⟨oe, vs, T, oT, ts, he, _, hd, h1, _, _, hT, hdT, h3⟩ := t
  obtain ⟨oe', vs', T', oT', ts', he', _, hd', h1', _, _, hT', hdT', h3'⟩ := t'
  rw [he] at he'; cases he'
  rw [hd] at hd'; cases hd'
  rw [h1] at h1'; cases h1'
  rw [hT] at hT'; cases hT'
  rw [hdT] at hdT'; cases hdT'
  rw [h3] at h3'; cases h3'
  rfl
/-- what a callee lets out -/
theorem Lets.pass {X : Cx} {E : XK} (lt : Lets X E) (fr : Fr X) (σ : L2.St) : PassesAt (L2.CX X.prog X.w) X σ E := fun pins H s e s' I c => by
  obtain ⟨F, rest, L, _, _, hL⟩ := fr
  obtain ⟨a, B, sI, pins', σ', H', cls, d, eu, I', nb, up, sky, na, os, ag, w⟩ := XE.of_call (W := WEx E) I (fun _ _ _ h => h) c
  obtain ⟨a0, B0, H0, cls0, d0, eu0, ⟨_, _, _, t0⟩, _⟩ := c
  rw [eu] at eu0
  cases eu0
  refine lt e s' ⟨a, B, sI, pins', σ', H', cls, d, L, eu, hL, I', nb, up, .inl ?_, na, os, ag, w⟩
  rcases sky with ⟨_, _, _, oe, vs, he, _, hd, h1⟩ | q | q
  · obtain ⟨oe', vs', T', oT', ts', he', _, hd', h1', _⟩ := t0
    rw [he] at he'; cases he'
    rw [hd] at hd'; cases hd'
    rw [h1] at h1'; cases h1'
  · exact q
  · have := traced_one t0 q.2.2.2
    simp [rawInt] at this
/-- a comprehension's block that may raise -/
abbrev BlkX (X : Cx) (scope : Scope) (s : Shared) (H : Hp) (C : Addr) (cl : List (Str × Addr)) (fp : List Addr) : Cx :=
  { X.blk s H scope (compEnvC scope cl C X.env) fp with xe := notedBy (model X.prog X.w) X.A (compEnvC scope cl C X.env) (CompFails (model X.prog X.w) X.A X.xe (compEnvC scope cl C X.env)) }
theorem inv_xe {X : Cx} {pins : List (Addr × Obj)} {σ : L2.St} {H : Hp} {s : Shared} {x x' : Value → Shared → Prop} (I : Inv { X with xe := x } pins σ H s) : Inv { X with xe := x' } pins σ H s :=
  ⟨⟨I.ok.mod, I.ok.kind, I.ok.glob, I.ok.blt, I.ok.above, I.ok.inj, I.ok.has, I.ok.cab, I.ok.hd, I.ok.frames, I.ok.stk, I.ok.exf, I.ok.bs, I.ok.bsz, I.ok.noex, I.ok.exfs, I.ok.funs, I.ok.frf⟩, I.os, I.bare, I.base, I.loc, I.cell, I.free, I.freeC, I.pin, I.hok, I.len⟩
theorem held_but {B h h' : Heap} {l : List Env} {a L C : Addr} {Z : Obj → Prop} {m m' : Str → Option Value} (hh : HandSPX.HeldZ B l a Z L h) (hn : h.Ns C m) (hn' : h'.Ns C m') (sb : Heap.SameBut C h h') : HandSPX.HeldZ (PySem.W.hideAll B [C]) l a Z L h' := by
  obtain ⟨b1, b2, b3, oe, vs, T, oT, ts, he, hz, hd, h1, hnT, hTe, hT, hdT, h3⟩ := hh
  obtain ⟨oC, es, ep, eC, dC, _⟩ := hn
  have nC : ∀ b o vs, h.get? b = some o → o.data = .fields vs → b ≠ C := fun b o vs q r z => by
    rw [z, eC] at q; cases q
    rw [dC] at r; cases r
  have hid : ∀ b, B.get? b = none → (PySem.W.hideAll B [C]).get? b = none := fun b q => by
    cases e : (PySem.W.hideAll B [C]).get? b with
    | none => rfl
    | some o =>
      have := PySem.W.of_hideAll _ e
      rw [q] at this; cases this
  refine ⟨fun b o q => ?_, hid a b2, ?_, oe, vs, T, oT, ts, (sb.2 a (nC a oe vs he hd)).trans he, hz, hd, h1, hid T hnT, hTe, (sb.2 T (nC T oT ts hT hdT)).trans hT, hdT, h3⟩
  · have hb : b ≠ C := fun z => by
      rw [z, PySem.W.hideAll_none [C] (List.mem_singleton.mpr rfl)] at q; cases q
    exact (sb.2 b hb).trans (b1 b o (PySem.W.of_hideAll _ q))
  · have f2 := Heap.FunFrames.sameBut sb hn' b3
    have key : ∀ {l : List Env}, h'.FunFrames B l → h'.FunFrames (PySem.W.hideAll B [C]) l := by
      intro l
      induction l with
      | nil => intro _; trivial
      | cons e l ih =>
        rintro ⟨k, ⟨L', o, hf, hB, ho, hd'⟩, r⟩
        exact ⟨k, ⟨L', o, hf, hid L' hB, ho, hd'⟩, ih r⟩
    exact key f2
theorem lets_blk {X : Cx} {E : XK} {pins : List (Addr × Obj)} {σ : L2.St} {H : Hp} {s : Shared} {scope : Scope} {cl : List (Str × Addr)} {fp : List Addr} (lt : Lets X E) (fr : Fr X) (I : Inv X pins σ H s) (hf : ∀ b ∈ fp, FpOk X pins H b) :
    Lets (BlkX X scope s H s.heap.objs.size cl fp) E := fun u s' ⟨a, B, sI, pins', σ', H', cls, d, L, eu, e2, I', nb, up, sky, na, os, ag, w⟩ => by
  subst eu
  obtain ⟨F, rest, L0, hs, hF, hL⟩ := fr
  have eL : L0 = L := by
    have : X.env.frame = some L := e2
    rw [hL] at this
    injection this
  subst eL
  obtain ⟨ce, ece⟩ : ∃ ce, ce = compEnvC scope cl s.heap.objs.size X.env := ⟨_, rfl⟩
  have cl0 : ce.locals = s.heap.objs.size := by rw [ece]; rfl
  have cf : ce.frame = F.frame := by rw [hF, ← hL, ece]; rfl
  have hst : X.A.frames = some (F :: rest) := by rw [I.ok.frames, hs]
  have sky : HandSPX.FlyingZ B (F :: rest) a (Zc cls d) s'.heap ∨ HandSPX.HeldZ B (F :: rest) a (Zc cls d) L0 s'.heap := by
    rw [← hs]
    exact sky
  obtain ⟨m, hm, _⟩ := I'.loc
  have hm : sI.heap.Ns ce.locals m := by rw [ece]; exact hm
  have fre : H' ce.locals = none := by rw [ece]; exact I'.free
  have IX : Inv X pins σ H' sI := I.call' (ch := fp) I'.os I'.base I'.hok I'.bare fun b hb => ⟨(hf b hb).2.2.2.1, (hf b hb).2.1, (hf b hb).2.2.2.2.1, (hf b hb).2.2.2.2.2⟩
  have fC : FpOk X pins H' ce.locals := I.fpOk (by rw [cl0]; exact Nat.le_refl _) fre
  have IH : Inv X pins σ H' { sI with heap := PySem.W.hideAll sI.heap [ce.locals] } := IX.turned (t' := sI.toks) (fun b o hb q => PySem.W.hideAll_get _ q fun z => hb (List.mem_singleton.mp z)) fC.1 fC.2.1 fC.2.2.2.1 fC.2.2.2.2.1 fC.2.2.2.2.2
  have fails : ∀ h1, HandSPX.HeldZ B (F :: rest) a (Zc cls d) L0 h1 → s'.heap.UpToSlots h1 → CompFails (model X.prog X.w) X.A X.xe ce (.ref a) { s' with heap := h1 } := fun h1 hh up1 => by
    have n1 : h1.Ns ce.locals m := hm.upToSlots (up.trans up1)
    refine ⟨m, n1, fun h2 m2 n2 sb => ?_⟩
    have hh2 := held_but hh n1 n2 sb
    obtain ⟨_, _, _, oe, vs, T, oT, ts, he, _, hd, hv1, _⟩ := id hh2
    unfold PySem.passOn
    refine wpAny_bind (wpAny_field he hd hv1 ?_)
    rw [if_neg (show ¬ ((Value.ref T == Value.none) = true) by simp), cf, hF]
    refine wpAny_bind (HandSPX.setFlight_onZ hh2 fun h3 hh3 up3 => wpAny_throw ?_)
    refine lt _ _ ⟨a, _, { sI with heap := PySem.W.hideAll sI.heap [ce.locals] }, pins, σ, H', cls, d, L0, rfl, hL, IH, fun b o q hb => ?_, fun b o q hnf => ?_, .inr (by rw [hs]; exact hh3), na, os, ag, w⟩
    · have hbC : b ≠ ce.locals := fun z => by
        have q : (PySem.W.hideAll sI.heap [ce.locals]).get? b = some o := q
        rw [z, PySem.W.hideAll_none [ce.locals] (List.mem_singleton.mpr rfl)] at q; cases q
      exact PySem.W.hideAll_get _ (nb b o (PySem.W.of_hideAll _ q) hb) fun z => hbC (List.mem_singleton.mp z)
    · have hbC : b ≠ ce.locals := fun z => by
        have q : (PySem.W.hideAll sI.heap [ce.locals]).get? b = some o := q
        rw [z, PySem.W.hideAll_none [ce.locals] (List.mem_singleton.mpr rfl)] at q; cases q
      obtain ⟨sl, q1⟩ := up b o (PySem.W.of_hideAll _ q) hnf
      obtain ⟨sl1, q2⟩ := up1 b _ q1 hnf
      obtain ⟨sl2, q3⟩ := up3 b _ ((sb.2 b hbC).trans q2) hnf
      exact ⟨sl2, q3⟩
  show wpAny _ _ (noteFrame (.ref a) (compEnvC scope cl s.heap.objs.size X.env)) _ _ _
  rw [← ece, noteFrame_env _ cf]
  rcases sky with fl | hh
  · exact HandSPX.looks_onZ Zc.steady hst hF fl fun h1 hh up1 => fails h1 hh up1
  · exact HandSPX.againZ hF hh.2.2.2 (fails s'.heap hh (Heap.UpToSlots.refl _))
theorem fr_blk {X : Cx} {scope : Scope} {s : Shared} {H : Hp} {C : Addr} {cl : List (Str × Addr)} {fp : List Addr} (fr : Fr X) : Fr (BlkX X scope s H C cl fp) := by
  obtain ⟨F, rest, L, h1, h2, h3⟩ := fr
  exact ⟨F, rest, L, h1, h2, h3⟩
end Dl

namespace Dl
open PySem L2 PySem.W PyProof.Rows PySem.Spec
section
variable {X : Cx} {E : XK}
theorem thx {α : Type} {t : Sem α} {Q Q' : α → Shared → Prop} {M : Model} {A : Around} {F : Value → Shared → Prop} {s : Shared} (h : wpAny M A t Q F s) (hQ : ∀ a s, Q a s → Q' a s) : wpAny M A t Q' F s := wpAny_mono h hQ fun _ _ z => z
/-- [elt for tg in iter if ..] where a turn may raise -/
theorem pe_lcX {elt tg iter : Expr} {ifs : List Expr} {scope : Scope} {own : List (Str × Nat)} {pos : Pos} {wi : TI} {g : TG} {tt : TT} {te : TE} (hc : X.calm = true) (hN : X.N.Nodup) (lt : Lets X E) (fr : Fr X) (hi : PI X tg iter wi) (ok : BlkOk X.N X.env.scope scope own)
    (hg : ∀ s H C cl fp, PG (BlkX X scope s H C cl fp) tg g) (ht : ∀ s H C cl fp, Lets (BlkX X scope s H C cl fp) E → PTs (BlkX X scope s H C cl fp) ifs tt) (he : ∀ s H C cl fp, Lets (BlkX X scope s H C cl fp) E → PE (BlkX X scope s H C cl fp) elt te)
    (hs : ∀ x, foldedSetIterable iter X.env x = pure x := by intro _; rfl) : PE X (.ListComp elt [⟨tg, iter, ifs, 0⟩] scope pos) (tLc wi g tt te (own.map (·.2))) := by
  refine ⟨fun pins s σ H Q I0 h => ?_⟩
  rw [eval_ListComp]
  have cells : ∀ y ∈ scope.names, y.2 = .free → ∃ c, X.env.cells.lookup y.1 = some c := fun y hy q => (ok.free y hy q).elim (fun k => I0.ok.has _ (.inl k)) fun k => I0.ok.has _ (.inr k)
  refine comprehension_at (use := none) rfl hs (closure_ok cells) ok.kind (fun y hy q => (ok.uniq y hy).trans (by rw [q])) (thn (hi.run pins s σ H _ I0 h) fun xv s1 hx => thn hx fun itv s2 h2 => ?_)
  obtain ⟨it, fp, tn, J, H2, eit, I2, T, st2, f2, q⟩ := h2
  subst eit
  refine wpAny_newObj_type (newEnv_comp ?_) (show 0 ≤ sizeLine by decide)
  -- the list that grows
  obtain ⟨D, hD⟩ : ∃ D, D = s2.heap.objs.size := ⟨_, rfl⟩
  rw [← hD]
  have dn : H2 D = none := I2.hok.fresh (Nat.le_of_eq hD.symm)
  obtain ⟨Wv, ⟨m0, w0⟩, turn⟩ := q D dn
  obtain ⟨s3, es3⟩ : ∃ s3 : Shared, s3 = { s2 with heap := s2.heap.push { cls := .type "list", data := .seq ([] : List Value).toArray } } := ⟨_, rfl⟩
  have h3 : s3.heap = s2.heap.push { cls := .type "list", data := .seq ([] : List Value).toArray } := congrArg Shared.heap es3
  obtain ⟨H3, eH3⟩ : ∃ H3, H3 = upd H2 D (.lst []) := ⟨_, rfl⟩
  have I3 : Inv X pins σ H3 s3 := by
    rw [es3, eH3]
    exact I2.laid (t' := s2.toks) (fun b o z => Heap.get?_push_of_some _ z) (Nat.le_of_eq hD.symm) ⟨Nat.zero_le _, [], 0, .nil, by rw [hD]; exact Heap.get?_push_size _ rfl⟩
  have lts : ∀ b ∈ fp, b < s2.heap.objs.size := fun b hb => by
    obtain ⟨o, z, _⟩ := T.obj _ _ st2 b hb
    exact Heap.lt_size z
  have f3 : ∀ b ∈ fp, FpOk X pins H3 b ∧ b < s3.heap.objs.size := fun b hb => by
    have l := lts b hb
    refine ⟨⟨?_, (f2 b hb).2⟩, ?_⟩
    · rw [eH3, upd_ne (by rw [hD]; exact Nat.ne_of_lt l)]; exact (f2 b hb).1
    · rw [h3, Heap.size_push]; exact Nat.lt_succ_of_lt l
  have st3 : tn 0 s3.heap := T.keep _ _ _ st2 fun b _ o z => by rw [h3]; exact Heap.get?_push_of_some _ z
  rw [← eH3] at w0
  rw [← es3]
  have I4 := block_start I3 ok hN f3
  obtain ⟨cl, ecl⟩ : ∃ cl, cl = cellsFrom (s3.heap.objs.size + 1) scope.names (cloFrom X.env.cells scope.names []) := ⟨_, rfl⟩
  obtain ⟨s4, es4⟩ : ∃ s4 : Shared, s4 = { s3 with heap := pushCells (s3.heap.push { cls := .type "dict", data := .dict #[] }) scope.names } := ⟨_, rfl⟩
  rw [← ecl, ← es4] at I4
  have ltB := lets_blk (scope := scope) (cl := cl) (fp := fp) lt fr I3 fun b hb => (f3 b hb).1
  have pg := hg s3 H3 s3.heap.objs.size cl fp
  have pt := ht s3 H3 s3.heap.objs.size cl fp ltB
  have pe := he s3 H3 s3.heap.objs.size cl fp ltB
  obtain ⟨Y, eY⟩ : ∃ Y, Y = BlkX X scope s3 H3 s3.heap.objs.size cl fp := ⟨_, rfl⟩
  have J4 : Inv Y [] (L2.wipe σ (own.map (·.2))) H3 s4 := by rw [eY]; exact inv_xe I4
  have st4 : tn 0 s4.heap := T.keep _ _ _ st3 fun b _ o z => by rw [es4]; exact pushCells_keeps _ _ _ _ (Heap.get?_push_of_some _ z)
  rw [← eY] at pg pt pe
  obtain ⟨ce, ece⟩ : ∃ ce, ce = compEnvC scope cl s3.heap.objs.size X.env := ⟨_, rfl⟩
  have yenv : Y.env = ce := by rw [eY, ece]
  have yxe : Y.xe = notedBy (model X.prog X.w) X.A ce (CompFails (model X.prog X.w) X.A X.xe ce) := by rw [eY, ece]
  have ya : Y.A = X.A := by rw [eY]
  have yp : Y.prog = X.prog := by rw [eY]
  have yw : Y.w = X.w := by rw [eY]
  have yk : Y.K = X.K := by rw [eY]
  have yc : Y.calm = true := by rw [eY]; exact hc
  have loc : ce.locals = s3.heap.objs.size := by rw [ece]; rfl
  have fpY : ∀ {σ' : L2.St} {H' : Hp} {s' : Shared}, Inv Y [] σ' H' s' → (∀ b ∈ fp, H' b = none) → ∀ b ∈ fp, FpOk Y [] H' b := fun {σ' H' s'} I' hn b hb => by
    have hex : b ∈ Y.ex := by rw [eY]; exact hb
    have hpn : Y.pn = [] := by rw [eY]
    exact ⟨hn b hb, (I'.ok.exf b hex).1, I'.ok.exfs b hex, .inl hex, fun x c z => (I'.ok.exf b hex).2 x c z, fun p hp => by rw [hpn] at hp; cases hp⟩
  show codeAny _ _ (.compStart (.ListComp elt [⟨tg, iter, ifs, 0⟩] scope pos) 0 (.ref it) (.ref D) (compEnvC scope (cellsFrom (s3.heap.objs.size + 1) scope.names (cloFrom X.env.cells scope.names [])) s3.heap.objs.size X.env)) (compEnds (model X.prog X.w) X.A X.xe none (EP X pins σ Q) (.ref D) (compEnvC scope (cellsFrom (s3.heap.objs.size + 1) scope.names (cloFrom X.env.cells scope.names [])) s3.heap.objs.size X.env)) { s3 with heap := pushCells (s3.heap.push { cls := .type "dict", data := .dict #[] }) scope.names }
  rw [← ecl, ← ece, ← es4]
  have loop : codeAny (model X.prog X.w) X.A (.compLoop (.ListComp elt [⟨tg, iter, ifs, 0⟩] scope pos) 0 (.ref it) (.ref D) ce) (compEnds (model X.prog X.w) X.A X.xe none (EP X pins σ Q) (.ref D) ce) s4 := by
    refine compLoop_any (fun n s' => ∃ i H', Inv Y [] (L2.wipe σ (own.map (·.2))) H' s' ∧ tn i s'.heap ∧ (∀ b ∈ fp, H' b = none) ∧ Wv i n H') ?_ m0 ⟨0, H3, J4, st4, fun b hb => (f3 b hb).1.1, w0⟩
    rintro n s5 ⟨i, H5, I5, st5, n5, w5⟩
    show wpAny _ _ _ _ (notedBy (model X.prog X.w) X.A ce (CompFails (model X.prog X.w) X.A X.xe ce)) _
    rcases turn i n H5 w5 with ⟨stop, qq⟩ | ⟨go, Nx, hNx, step⟩
    · have td := T.done Y yp yw yk yc i [] s5 _ H5 (fun _ _ => False) I5 (fpY I5 n5) st5 stop
      rw [ya] at td
      refine thnF td fun r s6 ⟨hr, I6⟩ => ?_
      subst hr
      have I6' : Inv (BlkX X scope s3 H3 s3.heap.objs.size cl fp) [] (L2.wipe σ (own.map (·.2))) H5 s6 := eY ▸ I6
      have I7 : Inv X pins σ H5 s6 := I3.call' (ch := fp) I6'.os I6'.base I6'.hok I6'.bare fun b hb => ⟨(f3 b hb).1.2.2.2.1, (f3 b hb).1.2.1, (f3 b hb).1.2.2.2.2.1, (f3 b hb).1.2.2.2.2.2⟩
      have nC : H5 s3.heap.objs.size = none := I6'.free
      obtain ⟨mm, hn, _⟩ := I6'.loc
      obtain ⟨z0, z1, z2, z3, z4, z5⟩ : FpOk X pins H5 s3.heap.objs.size := I3.fpOk (Nat.le_refl _) nC
      refine ⟨mm, by rw [loc]; exact hn, fun h'' sb => ⟨.ref D, H5, I7.turned (t' := s6.toks) (it := s3.heap.objs.size) (fun b o hb z => (sb.2 b (by rw [loc]; exact hb)).trans z) z0 z1 z3 z4 z5, rfl, qq⟩⟩
    · have ti := T.item Y yp yw yk yc i [] s5 _ H5 (fun _ _ => False) I5 (fpY I5 n5) st5 go
      rw [ya] at ti
      refine thnF ti fun r s6 ⟨u, hr, h6⟩ => ?_
      subst hr
      refine thnF h6 fun _ s7 ⟨x, H7, I7, r7, y7, st7, n7⟩ => ?_
      have P7 := I7.pinned (fpY I7 n7) (T.obj _ _ st7)
      have g7 := pg.run _ s7 _ H7 x u _ P7 r7 (step x H7 y7)
      rw [yp, yw, ya, yenv, yxe] at g7
      refine thx g7 fun _ s8 ⟨σ8, H8, I8, hw8, q8⟩ => ?_
      have t8 := pt.run _ s8 σ8 H8 _ I8 q8
      rw [yp, yw, ya, yenv, yxe] at t8
      refine thx t8 fun b s9 ⟨H9, I9, q9⟩ => ?_
      have fin : ∀ {s' : Shared} {H' : Hp}, Inv Y ([] ++ pinsAt fp s7.heap) σ8 H' s' → Nx H' → ∃ k, k < n ∧ ∃ i H', Inv Y [] (L2.wipe σ (own.map (·.2))) H' s' ∧ tn i s'.heap ∧ (∀ b ∈ fp, H' b = none) ∧ Wv i k H' := fun {s' H'} I' nx => by
        obtain ⟨k, hk, w'⟩ := hNx H' nx
        have pn' : ∀ b ∈ fp, ∀ o, s7.heap.get? b = some o → s'.heap.get? b = some o ∧ H' b = none := fun b hb o z =>
          have y := I'.pin (b, o) (List.mem_append_right _ (List.mem_append_right _ (mem_pinsAt hb z)))
          ⟨y.1, y.2.1⟩
        refine ⟨k, hk, i + 1, H', (I'.unpinned (pins := [])).weak (by rw [← hw8, L2.wipe_length]) (fun j v z => ?_), T.keep _ _ _ st7 fun b hb o z => (pn' b hb o z).1, fun b hb => ?_, w'⟩
        · rw [← hw8] at z
          exact (wipe_some z).1
        · obtain ⟨o, z, _⟩ := T.obj _ _ st7 b hb
          exact (pn' b hb o z).2
      cases b with
      | false =>
        rw [if_neg (by decide)] at q9 ⊢
        exact fin I9 q9
      | true =>
        rw [if_pos rfl] at q9 ⊢
        have e9 := pe.run _ s9 σ8 H9 _ I9 q9
        rw [yp, yw, ya, yenv, yxe] at e9
        refine thx e9 fun z s10 ⟨yv, H10, I10, r10, acc, hD10, hz10, nx⟩ => ?_
        have a10 := app_ok (X := Y) (E := notedBy (model X.prog X.w) X.A ce (CompFails (model X.prog X.w) X.A X.xe ce)) (Q := fun _ s₅ => ∃ m, m < n ∧ ∃ i H', Inv Y [] (L2.wipe σ (own.map (·.2))) H' s₅ ∧ tn i s₅.heap ∧ (∀ b ∈ fp, H' b = none) ∧ Wv i m H') I10 hD10 hz10 r10 fun s11 I11 => fin I11 nx
        rw [yp, yw, ya] at a10
        exact a10
  exact codeAny_compStart_list loop (T.self X.A 0 _ _ _ st4 loop)
end
end Dl

namespace Dl
open PySem L2 PySem.W PyProof.Rows PySem.Spec
/-! ## expressions that raise -/
def tXT (K : PySem.W.Frag) (W : WX) (r : Rho) (C : Addr) : TT := fun σ H _ => ∃ Hs0 H0 Hs, Asn K Hs0 H0 r σ Hs H ∧ ∀ Hs' H', Grw Hs H Hs' H' → W (.ref C) none σ H'
def tXA (K : PySem.W.Frag) (W : WX) (r : Rho) (C : Addr) : TA := fun σ H _ => ∃ Hs0 H0 Hs, Asn K Hs0 H0 r σ Hs H ∧ ∀ Hs' H', Grw Hs H Hs' H' → W (.ref C) none σ H'
def DXT (X : Cx) (W : WX) (r : Rho) (e : Expr) (C : Addr) : Prop := PT X e (tXT X.K W r C)
def DXTs (X : Cx) (W : WX) (r : Rho) (es : List Expr) (C : Addr) : Prop := PTs X es (tXT X.K W r C)
def DXA (X : Cx) (W : WX) (r : Rho) (es : List Expr) (C : Addr) : Prop := PA X es (tXA X.K W r C)
section
variable {X : Cx} {W : WX} {E : XK} {r : Rho} {e a b c : Expr} {es : List Expr} {pos p : Pos} {d d1 : PyData} {C : Addr} {Po : Post} {x : Str}
theorem pa_never : PA X es (fun _ _ _ => False) := ⟨fun _ _ _ _ _ _ _ h => h.elim⟩
theorem dxa_here (h : DX X W r e C) (hs : starEach (e :: es) X.env = (false, eval e X.env) :: starEach es X.env := by rfl) : DXA X W r (e :: es) C :=
  PA.wk (pa_cons h pa_never hs) fun σ H Q ⟨Hs0, H0, Hs, A, q⟩ => ⟨Hs0, H0, Hs, A, q⟩
theorem dxa_next {s : Slot} (h : DAr X r e s) (t : DXA X W r es C) (hs : starEach (e :: es) X.env = (false, eval e X.env) :: starEach es X.env := by rfl) : DXA X W r (e :: es) C :=
  PA.wk (pa_cons h t hs) fun σ H Q ⟨Hs0, H0, Hs, A, q⟩ => ⟨Hs0, H0, Hs, A, fun v Hs1 H1 g1 h1 => ⟨Hs0, H0, Hs1, A.grow g1, fun Hs2 H2 g2 => q Hs2 H2 (g1.trans g2)⟩⟩
/-- a built-in call whose arguments raise -/
theorem dx_callB {id : String} {rc : List V → Hp → VK → Prop} (hc : CallR X (.builtin id) rc) (ha : DXA X W r (e :: es) C) (hm : X.mg x = none) (hv : bootBuiltins x = some (.builtin id)) (hg : Gl X x := by rfl) (hn : x ≠ "__name__" := by decide) (hdb : (x == ("__debug__" : Str)) = false := by decide)
    (he : starEach (e :: es) X.env = (false, eval e X.env) :: starEach es X.env := by rfl) (hpl : (backTo pos (starEach es X.env)).any (·.1) = false := by rfl) : DX X W r (.Call (.Name x p) (e :: es) [] pos) C :=
  PE.wk (pe_callB hc hg hm hv ha hn hdb he hpl) fun _ _ σ H Q _ q => q
theorem dx_callT {T : String} {rc : List V → Hp → VK → Prop} (hc : CallR X (.type T) rc) (ha : DXA X W r (e :: es) C) (hm : X.mg x = none) (hv : bootBuiltins x = some (.type T)) (hg : Gl X x := by rfl) (hn : x ≠ "__name__" := by decide) (hdb : (x == ("__debug__" : Str)) = false := by decide)
    (he : starEach (e :: es) X.env = (false, eval e X.env) :: starEach es X.env := by rfl) (hpl : (backTo pos (starEach es X.env)).any (·.1) = false := by rfl) : DX X W r (.Call (.Name x p) (e :: es) [] pos) C :=
  PE.wk (pe_callTy hc hg hm hv ha hn hdb he hpl) fun _ _ σ H Q _ q => q
theorem dx_tuple (hm : X.mg "tuple" = none) (h : DX X W r e C) (hg : Gl X "tuple" := by rfl) (hs : starEach (e :: []) X.env = (false, eval e X.env) :: starEach [] X.env := by rfl) (hpl : (backTo pos (starEach [] X.env)).any (·.1) = false := by rfl) : DX X W r (.Call (.Name "tuple" p) [e] [] pos) C :=
  dx_callT (T := "tuple") call_tupleX (dxa_here h hs) hm (by decide +kernel) hg (by decide) (by decide) hs hpl
theorem dx_len (hm : X.mg "len" = none) (h : DX X W r e C) (hg : Gl X "len" := by rfl) (hs : starEach (e :: []) X.env = (false, eval e X.env) :: starEach [] X.env := by rfl) (hpl : (backTo pos (starEach [] X.env)).any (·.1) = false := by rfl) : DX X W r (.Call (.Name "len" p) [e] [] pos) C :=
  dx_callB (id := "len") call_len (dxa_here h hs) hm (by decide +kernel) hg (by decide) (by decide) hs hpl
/-- a def's call whose arguments raise -/
theorem dx_callD {st : Stmt} {ps : List Str} {k : Nat} {R : Rho → PyData → Prop} (D : Dfn X.K X.mg x st ps) (F : FnOk X.prog X.w X.K X.mg X.base CX0 k D.f D.fd ps (spF X.K R)) {k' : Nat} (hr : Room k' X.A) (hk : k ≤ k') (ha : DXA X W r (e :: es) C) (hg : Gl X x := by rfl)
    (hdb : (x == ("__debug__" : Str)) = false := by decide) (he : starEach (e :: es) X.env = (false, eval e X.env) :: starEach es X.env := by rfl) (hpl : (backTo pos (starEach es X.env)).any (·.1) = false := by rfl) : DX X W r (.Call (.Name x p) (e :: es) [] pos) C :=
  PE.wk (pe_call F (hr.mono hk) hg D.g D.F.kp D.b .nil pass0 ha hdb he hpl) fun _ _ σ H Q _ q => q
/-- a def that raises, called where exceptions may fly out -/
theorem dxl {st : Stmt} {ps : List Str} {k : Nat} {R : Rho → Addr → Prop} {as : Rho} (D : Dfn X.K X.mg x st ps) (F : FnOk X.prog X.w X.K X.mg X.base (L2.CX X.prog X.w) k D.f D.fd ps (spE X.K R)) (lt : Lets X E) (fr : Fr X) {k' : Nat} (hr : Room k' X.A) (hk : k ≤ k') (ha : DA X r (e :: es) as) (hR : R as C) (hg : Gl X x := by rfl)
    (hdb : (x == ("__debug__" : Str)) = false := by decide) (he : starEach (e :: es) X.env = (false, eval e X.env) :: starEach es X.env := by rfl) (hpl : (backTo pos (starEach es X.env)).any (·.1) = false := by rfl) : DX X (WEx E) r (.Call (.Name x p) (e :: es) [] pos) C :=
  PE.wk (pe_callS (E := fun _ => E) F (hr.mono hk) hg D.g D.F.kp D.b (fun σ => lt.pass fr σ) ha hdb he hpl) fun _ _ σ H Q _ ⟨Hs0, H0, Hs, A, q⟩ => ⟨Hs0, H0, Hs, A, fun vs Hs1 H1 g1 h1 => ⟨Hs1, as, C, g1.sub, h1, hR, fun Hs2 H2 g2 => q Hs2 H2 (g1.trans g2)⟩⟩
theorem dx_ix (h : DX X W r a C) (hs : PlainIx b := by intro _ _; rfl) : DX X W r (.Subscript a b pos) C := PE.wk (pe_ix ix_tup h pe_never hs) fun _ _ σ H Q _ q => q
theorem dx_cmp1 {op : CmpOp} (h : DX X W r a C) (hm : behindInMarks op b = false := by exact nomark _) : DX X W r (.Compare a [op] [b] pos) C :=
  PE.wk (pe_cmpR (r := fun _ _ _ _ => False) (fun _ _ _ _ _ _ _ _ _ _ _ _ z => z.elim) h pe_never hm) fun _ _ σ H Q _ q => q
theorem dxt_cmp1 {op : CmpOp} (h : DX X W r a C) (hm : behindInMarks op b = false := by exact nomark _) : DXT X W r (.Compare a [op] [b] pos) C :=
  PT.wk (pt_cmpR (r := fun _ _ _ _ => False) (fun _ _ _ _ _ _ _ _ _ _ _ _ z => z.elim) h pe_never hm) fun σ H Q q => q
theorem dx_op1 {op : Operator} (h : DX X W r a C) : DX X W r (.BinOp a op b pos) C := PE.wk (pe_op (r := fun _ _ _ _ => False) (fun _ _ _ _ _ _ _ _ _ _ _ _ z => z.elim) h pe_never) fun _ _ σ H Q _ q => q
theorem dx_op2 {op : Operator} (ha : DE X r a d) (h : DX X W r b C) : DX X W r (.BinOp a op b pos) C :=
  PE.wk (pe_op (r := fun _ _ _ _ => False) (fun _ _ _ _ _ _ _ _ _ _ _ _ z => z.elim) ha h) fun _ _ σ H Q _ ⟨Hs0, H0, Hs, A, q⟩ => ⟨Hs0, H0, Hs, A, fun v Hs1 H1 g1 _ => ⟨Hs0, H0, Hs1, A.grow g1, fun Hs2 H2 g2 => q Hs2 H2 (g1.trans g2)⟩⟩
theorem dxts_one (h : DXT X W r e C) : DXTs X W r [e] C := pts_one h
theorem ds_ifX {as bs : List Stmt} (h : DXT X (WEx E) r c C) (hp : Po.ex C r) : DS X E r (.If c as bs pos) Po :=
  PS.wk (ps_if h (pss_never (sts := as)) (pss_never (sts := bs))) fun _ _ D σ H _ ⟨Hs0, H0, Hs, A, w⟩ => ⟨Hs0, H0, Hs, A, fun Hs' H' g => w.ex C r σ Hs' H' hp (A.grow g)⟩
end
/-! ## comprehensions -/
section
variable {X : Cx} {E : XK} {r : Rho} {C : Addr}
structure LcTurnX (X : Cx) (E : XK) (scope : Scope) (tg : Expr) (ws : List Nat) (ifs : List Expr) (elt : Expr) (r : Rho) (d : PyData) (r2 : Rho) (b : Bool) (y : PyData) : Prop where
  tgt : ∀ s H C cl fp, DG (BlkX X scope s H C cl fp) tg ws r d r2
  tst : ∀ s H C cl fp, Lets (BlkX X scope s H C cl fp) E → DTs (BlkX X scope s H C cl fp) r2 ifs b
  el : b = true → ∀ s H C cl fp, Lets (BlkX X scope s H C cl fp) E → DE (BlkX X scope s H C cl fp) r2 elt y
/-- the turn that raises -/
structure LcRaise (X : Cx) (E : XK) (scope : Scope) (tg : Expr) (ws : List Nat) (ifs : List Expr) (elt : Expr) (r : Rho) (d : PyData) (r2 : Rho) (C : Addr) : Prop where
  tgt : ∀ s H C cl fp, DG (BlkX X scope s H C cl fp) tg ws r d r2
  out : (∀ s H B cl fp, Lets (BlkX X scope s H B cl fp) E → DXTs (BlkX X scope s H B cl fp) (WEx E) r2 ifs C) ∨
    ((∀ s H B cl fp, Lets (BlkX X scope s H B cl fp) E → DTs (BlkX X scope s H B cl fp) r2 ifs true) ∧ ∀ s H B cl fp, Lets (BlkX X scope s H B cl fp) E → DX (BlkX X scope s H B cl fp) (WEx E) r2 elt C)
/-- [elt for tg in iter if ..], the i-th turn raises -/
theorem dx_lc {α : Type} {xs : List α} {rep : α → PyData} {q : α → Bool} {g : α → PyData} {elt tg iter : Expr} {ifs : List Expr} {scope : Scope} {pos : Pos} (own : List (Str × Nat)) (ws : List Nat) (k : Nat) {xk : α} (hk : xs[k]? = some xk) (hc : X.calm = true) (hN : X.N.Nodup) (lt : Lets X E) (fr : Fr X) (ok : BlkOk X.N X.env.scope scope own)
    (hi : DI X r tg iter (xs.map rep)) (hturn : ∀ (i : Nat) x, i < k → xs[i]? = some x → ∃ r2, LcTurnX X E scope tg ws ifs elt (wipeR r (own.map (·.2))) (rep x) r2 (q x) (g x)) (hlast : ∃ r2, LcRaise X E scope tg ws ifs elt (wipeR r (own.map (·.2))) (rep xk) r2 C) (hw : ∀ i ∈ ws, i ∈ own.map (·.2) := by decide)
    (hs : ∀ x, foldedSetIterable iter X.env x = pure x := by intro _; rfl) : DX X (WEx E) r (.ListComp elt [⟨tg, iter, ifs, 0⟩] scope pos) C := by
  refine PE.wk (pe_lcX (E := E) (own := own)
    (g := fun v σ H Q => ∃ r1 d r2, (∀ s H C cl fp, DG (BlkX X scope s H C cl fp) tg ws r1 d r2) ∧ tTg X.K ws r1 d r2 v σ H Q)
    (tt := fun σ H Q => (∃ r2 b, (∀ s H C cl fp, Lets (BlkX X scope s H C cl fp) E → DTs (BlkX X scope s H C cl fp) r2 ifs b) ∧ tDT X.K r2 b σ H Q) ∨ ∃ r2, (∀ s H B cl fp, Lets (BlkX X scope s H B cl fp) E → DXTs (BlkX X scope s H B cl fp) (WEx E) r2 ifs C) ∧ tXT X.K (WEx E) r2 C σ H Q)
    (te := fun σ H Q => (∃ r2 y, (∀ s H C cl fp, Lets (BlkX X scope s H C cl fp) E → DE (BlkX X scope s H C cl fp) r2 elt y) ∧ tD X.K r2 y σ H Q) ∨ ∃ r2, (∀ s H B cl fp, Lets (BlkX X scope s H B cl fp) E → DX (BlkX X scope s H B cl fp) (WEx E) r2 elt C) ∧ tX X.K (WEx E) r2 C σ H Q)
    hc hN lt fr hi ok
    (fun s H B cl fp => ⟨fun pins s' σ H' v u Q I rv ⟨r1, d, r2, f, z⟩ => (f s H B cl fp).run pins s' σ H' v u Q I rv z⟩)
    (fun s H B cl fp lb => ⟨fun pins s' σ H' Q I z => z.elim (fun ⟨r2, b, f, z⟩ => (f s H B cl fp lb).run pins s' σ H' Q I z) fun ⟨r2, f, z⟩ => (f s H B cl fp lb).run pins s' σ H' Q I z⟩)
    (fun s H B cl fp lb => ⟨fun pins s' σ H' Q I z => z.elim (fun ⟨r2, y, f, z⟩ => (f s H B cl fp lb).run pins s' σ H' Q I z) fun ⟨r2, f, z⟩ => (f s H B cl fp lb).run pins s' σ H' Q I z⟩) hs) fun _ _ σ H Q _ ⟨Hs0, H0, Hs, A, h⟩ => ?_
  refine ⟨Hs0, H0, Hs, A, fun J Hs' H' g1 ok' hz D hD => ?_⟩
  rw [List.length_map] at hz
  obtain ⟨hk1, hk2⟩ := List.getElem?_eq_some_iff.mp hk
  refine ⟨fun i m H1 => i ≤ k ∧ i + m = k + 1 ∧ ∃ Hs1 vs, Grw Hs' H' Hs1 H1 ∧ H1 D = some (.lst vs) ∧ Hs1 D = none ∧ Dats Hs1 vs (((xs.take i).filter q).map g), ⟨k + 1, by omega, by omega, Hs', [], Grw.laidO g1.sub hD, upd_same, g1.sub.free hD, .nil⟩, fun i m H1 ⟨hik, em, Hs1, vs, gg, h1, h2, h3⟩ => ?_⟩
  obtain ⟨o1, o2⟩ := ok' i Hs1 H1 gg.st gg.sub
  have hi' : i < xs.length := by omega
  have e0 : (xs.map rep)[i]? = some (rep xs[i]) := by rw [List.getElem?_map, List.getElem?_eq_getElem hi']; rfl
  refine .inr ⟨(o1 _ e0).1, fun H2 => i < k ∧ ∃ Hs1 vs, Grw Hs' H' Hs1 H2 ∧ H2 D = some (.lst vs) ∧ Hs1 D = none ∧ Dats Hs1 vs (((xs.take (i + 1)).filter q).map g), fun H2 ⟨hlt, Hs2, vs2, a1, a2, a3, a4⟩ => ⟨m - 1, by omega, by omega, by omega, Hs2, vs2, a1, a2, a3, a4⟩, fun v H2 hy => ?_⟩
  obtain ⟨Hs2, g2, hv⟩ := (o1 _ e0).2 v H2 hy
  have A2 : Asn X.K Hs0 H0 (wipeR r (own.map (·.2))) (L2.wipe σ (own.map (·.2))) Hs2 H2 := (A.grow ((g1.trans gg).trans g2)).wipe _
  have n2 : Hs2 D = none := g2.stay h2 h1
  by_cases hlt : i < k
  · obtain ⟨r2, T⟩ := hturn i xs[i] hlt (List.getElem?_eq_getElem hi')
    refine ⟨_, _, r2, T.tgt, Hs0, H0, Hs2, A2, hv, fun σ3 k3 l3 A3 => ⟨?_, .inl ⟨r2, q xs[i], T.tst, Hs0, H0, Hs2, A3, fun Hs4 H4 g4 => ?_⟩⟩⟩
    · rw [wipe_eq l3 fun j hj => k3 j fun z => hj (hw j z), wipe_idem]
    · have n4 : Hs4 D = none := g4.stay n2 (g2.all _ _ h1)
      have hf := filter_take_succ q xs (List.getElem?_eq_getElem hi')
      refine ite2 (fun hb => ?_) (fun hb => ?_)
      · refine .inl ⟨r2, g xs[i], T.el hb, Hs0, H0, Hs4, A3.grow g4, fun y Hs5 H5 g5 hy5 => ?_⟩
        have gd := (g2.trans g4).trans g5
        refine ⟨vs, gd.all _ _ h1, ?_, hlt, Hs5, vs ++ [y], ?_, upd_same, g5.stay n4 (g4.all _ _ (g2.all _ _ h1)), ?_⟩
        · rw [h3.length, List.length_map]
          refine Nat.lt_of_le_of_lt (List.length_filter_le _ _) ?_
          rw [List.length_take]
          omega
        · exact (gg.trans gd).mut hD (g5.stay n4 (g4.all _ _ (g2.all _ _ h1)))
        · rw [hf, if_pos hb, List.map_append]
          exact (h3.mono gd.st).snoc hy5
      · refine ⟨hlt, Hs4, vs, gg.trans (g2.trans g4), (g2.trans g4).all _ _ h1, n4, ?_⟩
        rw [hf, if_neg hb, List.append_nil]
        exact h3.mono (g2.trans g4).st
  · have ek : i = k := by omega
    subst ek
    rw [hk2] at hv
    obtain ⟨r2, T⟩ := hlast
    refine ⟨_, _, r2, T.tgt, Hs0, H0, Hs2, A2, hv, fun σ3 k3 l3 A3 => ⟨?_, ?_⟩⟩
    · rw [wipe_eq l3 fun j hj => k3 j fun z => hj (hw j z), wipe_idem]
    · rcases T.out with t | ⟨t1, t2⟩
      · exact .inr ⟨r2, t, Hs0, H0, Hs2, A3, fun Hs4 H4 g4 => h Hs4 H4 ((g1.trans gg).trans (g2.trans g4))⟩
      · exact .inl ⟨r2, true, t1, Hs0, H0, Hs2, A3, fun Hs4 H4 g4 => iteT (.inr ⟨r2, t2, Hs0, H0, Hs4, A3.grow g4, fun Hs5 H5 g5 => h Hs5 H5 ((g1.trans gg).trans ((g2.trans g4).trans g5))⟩)⟩
end
end Dl

namespace Dl
open PySem L2 PySem.W PyProof.Rows PySem.Spec
/-! ## defs that are called where nothing is being shown: repr -/
structure FnG (P : Program) (w : World) (K : PySem.W.Frag) (mg : Str → Option Value) (base : Heap) (CX : CXT) (k : Nat) (f : Addr) (fd : FuncData) (ps : List Str) (sp : Sp) : Prop where
  len : ∀ vs H Q E, sp vs H Q E → vs.length = ps.length
  go : ∀ (A : Around) (outer : List Env) (s : Shared) (H : Hp) (args : PySem.Args) (us : List Value) (vs : List V) (Q : VK) (E : XK), A.guards = some [] → Room k A → Env0 P w K mg base A outer s H → BindsTo s fd args (ps.zip us) → Vals vs us → sp vs H Q E →
    codeAny (model P w) A (.call (.ref f) args) (CR CX outer P w H s Q E) s
section
variable {P : Program} {w : World} {K : PySem.W.Frag} {mg : Str → Option Value} {base : Heap} {CX : CXT} {k : Nat} {f : Addr} {fd : FuncData} {ps : List Str} {sp : Sp}
theorem FnG.of (F : FnOk P w K mg base CX k f fd ps sp) : FnG P w K mg base CX k f fd ps sp := ⟨F.len, fun A outer s H args us vs Q E _ => F.run A outer s H args us vs Q E⟩
theorem fnG_of {name qual : Str} {params : Arguments} {body : List Stmt} {scope : Scope} {dV kV doc pm cdv ct oc : Value} {an od : Option Addr} {osl : Array (Option Value)} {N : List Str}
    (lk : K.lookup f = some ⟨oc, od, .func (PySem.W.fnOf name qual params body scope dV kV doc pm an cdv ct), osl⟩) (hcd : PySem.W.codeIn K cdv qual = true) (S : FnScope N ps scope) (len : ∀ vs H Q E, sp vs H Q E → vs.length = ps.length)
    (hbody : ∀ (A : Around) (outer : List Env) (s : Shared) (H : Hp) (vs : List V) (Q : VK) (E : XK), A.guards = some [] → Room k (A.deeper (envOfC qual scope s.heap.objs.size f cdv)) → sp vs H Q E →
      ∃ t, PSs (cxOf CX P w K mg base N qual scope f cdv A outer s H E) body t ∧ t { nx := fun _ H' => Q .non H', rt := Q } (L2.start N vs) H) :
    FnG P w K mg base CX (k + 1) f (PySem.W.fnOf name qual params body scope dV kV doc pm an cdv ct) ps sp := by
  refine ⟨len, fun A outer s H args us vs Q E gd room env bind rel want => ?_⟩
  have keep : ∀ b o, base.get? b = some o → s.heap.get? b = some o := fun b o z => (env.bs b o z).1
  have KX := env.mod.kin.keeps keep
  have lim := env.mod.nolimit.keeps keep
  refine codeAny_call_function room.depth (KX _ _ lk) rfl S.co S.gen rfl (PySem.W.codeRec_of KX hcd) (bind _ _ _ _ ?_)
  refine wpAny_newFunctionEnv_cells S.kind (fun ⟨n, v⟩ hy => (S.par n (List.of_mem_zip hy).1).imp id fun z => ⟨z, PySem.W.cellsFrom_some _ _ _ (.inl z)⟩) fun en he s1 x => ?_
  subst he
  refine ⟨lim.keeps x.toInCall.keep, codeAny_func ?_⟩
  obtain ⟨t, ht, hq⟩ := hbody A outer s H vs Q E gd (room.deeper _) want
  refine wpAny_mono (ht.run [] s1 (L2.start N vs) H _ (inv_start S room.hd env (len _ _ _ _ want) rel x) hq) (fun fl s' z => ?_) fun _ _ z => z
  match fl, z with
  | .ret u, ⟨v, σ', H', J, rv, q⟩ => exact ⟨v, H', J.os, J.bare, J.base, J.hok, rv, q⟩
  | .next, ⟨σ', H', J, q⟩ => exact ⟨V.non, H', J.os, J.bare, J.base, J.hok, rfl, q⟩
  | .brk, ⟨_, _, _, q⟩ => exact q.elim
  | .cont, ⟨_, _, _, q⟩ => exact q.elim
theorem FnG.mono {j : Nat} (F : FnG P w K mg base CX j f fd ps sp) (h : j ≤ k) : FnG P w K mg base CX k f fd ps sp := ⟨F.len, fun A outer s H args us vs Q E g hr => F.go A outer s H args us vs Q E g (hr.mono h)⟩
end
section
variable {P : Program} {w : World} {K : PySem.W.Frag} {mg : Str → Option Value} {base : Heap}
abbrev Dfn.OkG (P : Program) (w : World) (base : Heap) {name : Str} {st : Stmt} {ps : List Str} (D : Dfn K mg name st ps) (k : Nat) (R : Rho → PyData → Prop) : Prop := FnG P w K mg base CX0 k D.f D.fd ps (spF K R)
theorem okG {x qual : Str} {st : Stmt} {f : Addr} {fd : FuncData} {N ps : List Str} {k : Nat} {R : Rho → PyData → Prop} (F : Fun K x qual st f fd) (S : FnScope N ps (defScope st)) (len : ∀ as d, R as d → as.length = ps.length) (hn : ps.length ≤ N.length)
    (hb : ∀ (cdv : Value) (A : Around) (outer : List Env) (s : Shared) (H : Hp) (E : XK), (A.deeper (PyProof.Rows.envOfC qual (defScope st) s.heap.objs.size f cdv)).guards = some [] → Room k (A.deeper (PyProof.Rows.envOfC qual (defScope st) s.heap.objs.size f cdv)) → ∀ as d, R as d →
      DSs (cx0 P w K mg base N qual (defScope st) f cdv A outer s H E) E0 (as ++ List.replicate (N.length - as.length) .un) (defBody st) { nx := fun _ => d = .none, rt := fun z => z = d }) : FnG P w K mg base CX0 (k + 1) f fd ps (spF K R) := by
  obtain ⟨oc, od, kV, doc, pm, an, cdv, ct, osl, rfl, lk, hcd⟩ := F.ex
  refine fnG_of lk hcd S (fun vs H Q E h => ?_) (fun A outer s H vs Q E gd hr h => ?_)
  · obtain ⟨Hs, as, d, _, ha, hR, _⟩ := h
    rw [ha.length]
    exact len as d hR
  · obtain ⟨Hs, as, d, hs, ha, hR, q⟩ := h
    refine ⟨_, (hb cdv A outer s H E gd hr as d hR).nox, Hs, H, Hs, args_slots hs ha (by rw [len as d hR]; exact hn), ?_⟩
    exact ⟨fun r' σ' Hs' H' p a _ => q _ Hs' H' a.g (by rw [p]; exact .non), fun d' v Hs' H' p g hv => q v Hs' H' g (by rw [← p]; exact hv), fun _ _ _ _ p => p.elim, fun _ _ _ _ p => p.elim, fun _ _ _ _ _ p => p.elim, fun _ _ _ _ _ p => p.elim, fun _ _ _ _ _ _ p => p.elim⟩
end
mutual
theorem nd_plain : ∀ e : PyData, e.plain = true → e.hasDict = false
  | .none, _ => by rw [PyData.hasDict]
  | .bool _, _ => by rw [PyData.hasDict]
  | .int _, _ => by rw [PyData.hasDict]
  | .str _, _ => by rw [PyData.hasDict]
  | .list xs, h => by rw [PyData.plain] at h; rw [PyData.hasDict]; exact nd_all xs h
  | .tuple xs, h => by rw [PyData.plain] at h; rw [PyData.hasDict]; exact nd_all xs h
  | .dict _, h => by simp [PyData.plain] at h
theorem nd_all : ∀ xs : List PyData, PyData.plainAll xs = true → PyData.hasDictAll xs = false
  | [], _ => by rw [PyData.hasDictAll]
  | x :: xs, h => by
    rw [PyData.plainAll, Bool.and_eq_true] at h
    rw [PyData.hasDictAll, nd_plain x h.1, nd_all xs h.2]
    rfl
end
section
variable {X : Cx} {r : Rho} {e : Expr} {es : List Expr} {pos p : Pos} {d : PyData} {k : Nat} {R : Rho → PyData → Prop} {as : Rho} {x : Str} {st : Stmt} {ps : List Str}
theorem runG {CX : CXT} {f : Addr} {fd : FuncData} {sp : Sp} {E : XK} {pins : List (Addr × Obj)} {σ : L2.St} {H : Hp} {s : Shared} {Q : VK} {us : List Value} {vs : List V} (F : FnG X.prog X.w X.K X.mg X.base CX k f fd ps sp) (hr : Room k X.A) (hg : X.A.guards = some []) (hb : Binds X.K fd ps []) (hx : Passes CX X E)
    (I : Inv X pins σ H s) (rl : Vals vs us) (h : sp vs H Q E) : wpAny (model X.prog X.w) X.A (call (.ref f) us) (EP X pins σ Q) X.xe s := by
  have hl : us.length = ps.length := by rw [← rl.length]; exact F.len _ _ _ _ h
  have b := hb s us I.kIn (by rw [List.append_nil]; exact hl)
  rw [List.append_nil] at b
  refine wpAny_call (codeAny_mono (F.go X.A X.stack s H ⟨us, []⟩ us vs Q E hg hr I.env0 b rl h) fun z s' q => ?_)
  match z, q with
  | .error y, q => exact hx pins σ H s y s' I q
  | .ok (.ret u), ⟨v, H', os, bare, un, hok, rv, qq⟩ => exact ⟨v, H', I.call' (ch := []) os un hok bare (fun b hb => nomatch hb), rv, qq⟩
theorem dcG (D : Dfn X.K X.mg x st ps) (F : FnG X.prog X.w X.K X.mg X.base CX0 k D.f D.fd ps (spF X.K R)) {k' : Nat} (hr : Room k' X.A) (hG : X.A.guards = some []) (hk : k ≤ k') (ha : DA X r (e :: es) as) (hR : R as d) (hg : Gl X x := by rfl)
    (hdb : (x == ("__debug__" : Str)) = false := by decide) (he : starEach (e :: es) X.env = (false, eval e X.env) :: starEach es X.env := by rfl) (hpl : (backTo pos (starEach es X.env)).any (·.1) = false := by rfl) : DE X r (.Call (.Name x p) (e :: es) [] pos) d := by
  refine ⟨fun pins s σ H Q I ⟨Hs0, H0, Hs, A, q⟩ => ?_⟩
  refine wpAny_Call_Name_kw (ld_glob I hg D.g ?_ hdb)
  refine PySem.W.callWith_K (h₀ := X.base) I.ok.mod.kin D.F.kp (thn (ha.run pos pins s σ H (fun vs H1 => spF X.K R vs H1 Q E0) I ⟨Hs0, H0, Hs, A, fun vs Hs1 H1 g1 h1 => ⟨Hs1, as, d, g1.sub, h1, hR, fun v Hs2 H2 g2 h2 => q v Hs2 H2 (g1.trans g2) h2⟩⟩) fun us s1 ⟨vs, H1, I1, rl, z⟩ => ⟨I1.kIn, ?_⟩) he hpl
  exact runG F (hr.mono hk) hG D.b pass0 I1 rl z
/-! ### repr -/
theorem noDict_lo {H : Hp} {v : V} (h : Dat H v d) : (Dl.lo d).hasDict = false := nd_plain _ h.plain
theorem cr_repr (hg : X.A.guards = some []) (hu : X.A.units + 64 < cLine) : CallR X (.builtin "repr") (fun vs H Q => ∃ a d, vs = [.ref a] ∧ Dat H (.ref a) d ∧ (Dl.lo d).showable = true ∧ (Dl.lo d).shown.length ≤ sizeLine ∧ depL d ≤ 60 ∧ Q (.str (Dl.lo d).shown) H) := fun pins s σ H vs us Q I rv ⟨a, d, ev, hv, hs, hz, hd, q⟩ => by
  subst ev
  obtain ⟨u, rfl, ru⟩ := vals1 rv
  cases ru
  obtain ⟨as, rd⟩ := hv.reads (Same.refl H) I rfl
  refine repr_of_reads' (h₀ := s.heap) rd hs (fun z => by rw [noDict_lo hv] at z; cases z) hg (by unfold depL at hd; omega) (fun _ _ z => z) (fun h' u tk kp => ⟨.str _, H, ?_, ⟨u, rfl⟩, q⟩) hz
  exact I.kept (t' := tk) kp
theorem de_repr (hg : X.A.guards = some []) (hu : X.A.units + 64 < cLine) (hm : X.mg "repr" = none) (h : DE X r e d) (href : ∀ H v, Dat H v d → ∃ a, v = .ref a) (hs : (Dl.lo d).showable = true) (hz : (Dl.lo d).shown.length ≤ sizeLine) (hd : depL d ≤ 60) (hgl : Gl X "repr" := by rfl)
    (he : starEach (e :: []) X.env = (false, eval e X.env) :: starEach [] X.env := by rfl) (hpl : (backTo pos (starEach [] X.env)).any (·.1) = false := by rfl) : DE X r (.Call (.Name "repr" p) [e] [] pos) (.str (Dl.lo d).shown) :=
  de_callB (ds := [d]) (cr_repr hg hu) (fun vs Hs H Q hv hs' q => by
    cases hv with
    | cons h1 t =>
      cases t
      obtain ⟨a, rfl⟩ := href _ _ h1
      exact ⟨a, d, rfl, h1.mono hs', hs, hz, hd, q _ Hs H (Grw.refl hs') (.str _)⟩) hgl hm (by decide +kernel) (da_1 h he) (by decide) (by decide) he hpl
end
end Dl

namespace Dl
open PySem L2 PySem.W PyProof.Rows PySem.Spec
/-! ## the end of a law that shows things -/
open Classical in
/-- the script (if the head does not know it) and the tables -/
noncomputable def H1 (K : PySem.W.Frag) (a : Addr) (o : Obj) (ns : List Int) (ts : List Addr) : Hp := fun b => if b ∈ ts then some (.tbl #[]) else if b = a ∧ K.lookup a = none then some (.frz o (.lst (ns.map V.int))) else none
theorem law_goG {P : Program} {w : World} {K : PySem.W.Frag} {mg mb : Str → Option Value} {CX : CXT} {k : Nat} {fa a : Addr} {cs : List (Addr × Addr)} {fd : FuncData} {x : Str} {sp : Sp} {s : Shared} {vs : List Value} {ns : List Int}
    (KX : K.In s.heap) (gns : s.heap.Ns mainGlobals mg) (bns : s.heap.Ns builtinsNs mb) (hbb : ∀ x : Str, x ≠ "__name__" → mb x = bootBuiltins x) (lim : s.heap.NoLimit) (hg : s.gens = #[])
    (hT : ∀ p ∈ cs, s.heap.get? p.2 = some { cls := .none, data := .fields #[] }) (nT : ∀ p ∈ cs, K.lookup p.2 = none) (hC : ∀ p ∈ cs, PySem.W.CodeHd s.heap p.1 p.2)
    (bm : ∃ (m : Addr) (ob : Obj), mg "__builtins__" = some (.ref m) ∧ m ≠ builtinsNs ∧ s.heap.get? m = some ob ∧ ob.cls = .type "module" ∧ ob.dict = some builtinsNs ∧ ob.data = .plain)
    (ha : s.heap.get? a = some { cls := .type "list", data := .seq vs.toArray }) (hi : IntsAre vs ns) (hl : ns.length ≤ sizeLine) (room : Room k callerA)
    (F : ∀ base : Heap, K.In base → base.Ns mainGlobals mg → (∀ p ∈ cs, LamX.TabB base mg p.1 p.2) → FnG P w K mg base CX k fa fd [x] sp) (bind : ∀ (s : Shared) (u : Value), BindsTo s fd ⟨[u], []⟩ [(x, u)])
    (hsp : ∀ H : Hp, (∀ p ∈ cs, H p.2 = some (.tbl #[])) → SqL K H a (ns.map V.int) → sp [.ref a] H (fun v _ => v = .bl true) fun _ _ _ => False) (hCX : ∀ H e s', CX [] H s (fun _ _ _ => False) e s' → False) :
    codeAny (model P w) callerA (.call (.ref fa) ⟨[.ref a], []⟩) (fun r s' => r = .ok (.ret (.bool true)) ∧ OldK s.heap s'.heap ∧ s'.os = s.os ∧ AllBare s'.gens) s := by
  have rv := vals_ints hi
  have lv := hi.length
  obtain ⟨ts, ets⟩ : ∃ ts, ts = cs.map (·.2) := ⟨_, rfl⟩
  have tab : ∀ b ∈ ts, s.heap.get? b = some { cls := .none, data := .fields #[] } ∧ K.lookup b = none := fun b hb => by
    rw [ets] at hb
    obtain ⟨p, hp, rfl⟩ := List.mem_map.mp hb
    exact ⟨hT p hp, nT p hp⟩
  have mem : ∀ p ∈ cs, p.2 ∈ ts := fun p hp => by rw [ets]; exact List.mem_map.mpr ⟨p, hp, rfl⟩
  have hat : a ∉ ts := fun z => by
    have y := (tab a z).1
    rw [ha] at y
    cases y
  obtain ⟨o0, eo⟩ : ∃ o0 : Obj, o0 = { cls := .type "list", data := .seq vs.toArray } := ⟨_, rfl⟩
  rw [← eo] at ha
  obtain ⟨H, eH⟩ : ∃ H, H = H1 K a o0 ns ts := ⟨_, rfl⟩
  have inT : ∀ b ∈ ts, H b = some (.tbl #[]) := fun b hb => by rw [eH]; unfold H1; rw [if_pos hb]
  have only : ∀ b, H b ≠ none → b ∈ ts ∨ (b = a ∧ K.lookup a = none) := fun b hb => by
    rw [eH] at hb
    unfold H1 at hb
    by_cases z : b ∈ ts
    · exact .inl z
    · rw [if_neg z] at hb
      by_cases y : b = a ∧ K.lookup a = none
      · exact .inr y
      · rw [if_neg y] at hb; exact absurd rfl hb
  have atA : K.lookup a = none → H a = some (.frz o0 (.lst (ns.map V.int))) := fun z => by
    rw [eH]; unfold H1; rw [if_neg hat, if_pos ⟨rfl, z⟩]
  have okA : ObjOk P w H s.heap a (.lst (ns.map V.int)) := ⟨by rw [List.length_map]; exact hl, vs, 0, rv, by rw [ha, eo]⟩
  have hok : HOk P w H s.heap := fun b u z => by
    rcases only b (by rw [z]; simp) with y | ⟨y1, y2⟩
    · rw [inT b y] at z
      cases z
      exact (tab b y).1
    · subst y1
      rw [atA y2] at z
      cases z
      exact ⟨ha, okA⟩
  have sq : SqL K H a (ns.map V.int) := by
    cases q : K.lookup a with
    | none => exact .inl (.inr ⟨o0, atA q⟩)
    | some o =>
      have y := KX a o q
      rw [ha] at y
      cases y
      exact .inr ⟨o0, vs.toArray, 0, q, by rw [eo], by rw [eo], by rw [eo], by rw [List.size_toArray, lv]; exact hl, by simpa using rv⟩
  -- what is not tracked is in the base
  have other : ∀ {b : Addr} {o : Obj}, s.heap.get? b = some o → (∀ us n, o.data ≠ .seq us n) → o.data ≠ .fields #[] → H b = none := fun {b o} e d1 d2 => by
    cases q : H b with
    | none => rfl
    | some u =>
      rcases only b (by rw [q]; simp) with y | ⟨y, _⟩
      · rw [(tab b y).1] at e; cases e; exact absurd rfl d2
      · rw [y, ha, eo] at e; cases e; exact absurd rfl (d1 _ _)
  have nsB : ∀ {b : Addr} {m : Str → Option Value}, s.heap.Ns b m → (hidT s.heap H).Ns b m := fun {b m} ⟨o, es, ep, e, dt, rest⟩ =>
    ⟨o, es, ep, hidT_get e (other e (fun us n z => by rw [dt] at z; cases z) fun z => by rw [dt] at z; cases z), dt, rest⟩
  have kB : K.In (hidT s.heap H) := fun b o e => hidT_get (KX b o e) (by
    cases q : H b with
    | none => rfl
    | some u =>
      rcases only b (by rw [q]; simp) with y | ⟨y1, y2⟩
      · rw [(tab b y).2] at e; cases e
      · rw [y1, y2] at e; cases e)
  have modB : L2.Mod K mg (hidT s.heap H) := ⟨kB, nsB gns, ⟨mb, nsB bns, hbb⟩, by
    obtain ⟨mc, l1, l2⟩ := lim
    exact ⟨mc, nsB l1, l2⟩⟩
  have tB : ∀ p ∈ cs, LamX.TabB (hidT s.heap H) mg p.1 p.2 := fun p hp => by
    have pT := hT p hp
    refine ⟨?_, ?_, fun z => ?_⟩
    · obtain ⟨o, us, file, tf, flags, tg, inF, text, tt, e1, q1, q2, q3, rest⟩ := hC p hp
      refine ⟨o, us, file, tf, flags, tg, inF, text, tt, hidT_get e1 (other e1 (fun _ _ z => by rw [q2] at z; cases z) fun z => ?_), q1, q2, q3, rest⟩
      rw [q2] at z
      cases z
      simp at q3
    · obtain ⟨m, ob, b1, b2, b3, b4, b5, b6⟩ := bm
      refine ⟨m, ob, b1, b2, fun z => ?_, fun z => ?_, hidT_get b3 (other b3 (fun _ _ y => by rw [b6] at y; cases y) fun y => by rw [b6] at y; cases y), b4, b5, b6⟩
      · obtain ⟨o, es, ep, e, dt, _⟩ := gns
        rw [z, e] at b3; cases b3
        rw [dt] at b6; cases b6
      · rw [z, pT] at b3; cases b3
        cases b6
    · obtain ⟨o, es, ep, e, dt, _⟩ := gns
      rw [z, pT] at e; cases e
      cases dt
  have env : Env0 P w K mg (hidT s.heap H) callerA [] s H := ⟨rfl, modB, fun b o e => of_hidT e, Nat.le_of_eq (hidT_size _ _), trivial, fun b hb => absurd (show b ∈ ([] : List Addr) from hb) (by simp), hok, .of_eq hg⟩
  refine codeAny_mono ((F _ kB (nsB gns) tB).go callerA [] s H ⟨[.ref a], []⟩ [.ref a] [.ref a] _ _ rfl room env (bind s (.ref a)) (.cons rfl .nil) (hsp H (fun p hp => inT _ (mem p hp)) sq)) fun r s' z => ?_
  match r, z with
  | .error e, z => exact (hCX H e s' z).elim
  | .ok (.ret u), ⟨v, H', os, bare, un, hok', ru, q⟩ =>
    have q : v = .bl true := q
    subst q
    obtain rfl : u = Value.bool true := ru
    have kept : ∀ b o, b ∉ ts → s.heap.get? b = some o → s'.heap.get? b = some o := fun b o nb e => by
      cases q : H b with
      | none => exact un.keep b o e q (by intro y; exact absurd (show b ∈ ([] : List Addr) from y) (by simp)) (by simp)
      | some u =>
        rcases only b (by rw [q]; simp) with y | ⟨y1, y2⟩
        · exact absurd y nb
        · subst y1
          have f := un.frzs _ _ _ (atA y2)
          obtain ⟨e2, _⟩ := hok' _ _ f
          rw [ha] at e; cases e
          exact e2
    have grown : ∀ b ∈ ts, ∃ more : Array Value, s'.heap.get? b = some { cls := .none, data := .fields more } := fun b hb => by
      obtain ⟨more, y⟩ := un.tbls b #[] (inT b hb)
      exact ⟨_, hok' b _ y⟩
    refine ⟨rfl, ⟨fun b o e => ?_, fun b o e => ?_⟩, os, bare⟩
    · by_cases hb : b ∈ ts
      · have hb2 := hb
        rw [ets] at hb2
        obtain ⟨p, hp, ep⟩ := List.mem_map.mp hb2
        obtain ⟨more, hm⟩ := grown b hb
        rw [(tab b hb).1] at e; cases e
        rw [← ep] at hm ⊢
        exact .inr (.inl ⟨((hC p hp).tab (hT p hp)).isCodeTable, rfl, #[], more, rfl, by rw [Array.empty_append]; exact hm⟩)
      · exact .inl (kept b o hb e)
    · by_cases hb : b ∈ ts
      · obtain ⟨more, hm⟩ := grown b hb
        exact ⟨_, hm⟩
      · exact ⟨o, kept b o hb e⟩
/-- what is known of the law at the head's heap -/
def LawAtG (l : PySem.W.OpenLaw) (w : World) (K : PySem.W.Frag) (CX : CXT) (k n : Nat) (x : Str) (mg : Str → Option Value) (fa : Addr) (h : Heap) : Prop :=
  ∃ (fd : FuncData) (cs : List (Addr × Addr)) (sp : Sp), ((∀ p ∈ cs, h.get? p.2 = some { cls := .none, data := .fields #[] }) ∧ (∀ p ∈ cs, K.lookup p.2 = none) ∧ (∀ p ∈ cs, PySem.W.CodeHd h p.1 p.2)) ∧ (∀ (s : Shared) (u : Value), BindsTo s fd ⟨[u], []⟩ [(x, u)]) ∧
    (∀ (H : Hp) (a : Addr) (ns : List Int), ns.length ≤ n → (∀ p ∈ cs, H p.2 = some (.tbl #[])) → SqL K H a (ns.map V.int) → sp [.ref a] H (fun v _ => v = .bl true) fun _ _ _ => False) ∧
    ∀ base : Heap, K.In base → base.Ns mainGlobals mg → (∀ p ∈ cs, LamX.TabB base mg p.1 p.2) → FnG l.prog w K mg base CX k fa fd [x] sp
theorem walkG {l : PySem.W.OpenLaw} {n k : Nat} {q : Program} {loose : List Str} {XP : (Str → Option Value) → Heap → Prop} {YP : World → Heap → Prop} {d : DefRec} {x : Str} (hn : l.most = some n) (hn2 : n ≤ sizeLine) (hdf : d.params.defaults = []) (room : Room k callerA)
    (F : ∀ (w : World) (mg : Str → Option Value) (fa : Addr) (h : Heap), YP w h → h.Ns mainGlobals mg → mg d.name = some (.ref fa) → ∃ K : PySem.W.Frag, K.In h ∧ LawAtG l w K C8.CX0 k n x mg fa h) : PySem.W.WalkO q loose XP YP l.row.toRowW d [] (fun f vs => PySem.call f vs) := by
  refine Att.attach_callB hn hdf fun w s₀ s₁ mg mb fa o pm cd doc a vs ns G Y ho hd hcd hmg hobj hints hlen hbits hg => ?_
  obtain ⟨K, KX, fd, cs, sp, ⟨h1, h2, h3⟩, hb, hsp, hF⟩ := F w mg fa _ Y G.T.g hmg
  exact law_goG KX G.T.g G.T.b G.T.builtins G.T.nolimit hg h1 h2 h3 G.T.bmain hobj hints (Nat.le_trans hlen hn2) room hF hb (fun H z y => hsp H a ns hlen z y) fun _ _ _ z => z
section
variable {Pr : Program} {w : World} {K : PySem.W.Frag} {mg : Str → Option Value} {base : Heap}
/-- the law, with its table, where things may be shown -/
theorem okLawG {st : Stmt} {c P : Addr} {N : List Str} {k : Nat} {q : Str} (D : Dfn K mg "law" st ["script"]) (hc : D.fd.code = .ref c) (S : FnScope N ["script"] (defScope st)) (hn : 1 ≤ N.length)
    (hb : ∀ (A : Around) (outer : List Env) (s : Shared) (H : Hp) (E : XK), (A.deeper (PyProof.Rows.envOfC "law" (defScope st) s.heap.objs.size D.f (.ref c))).guards = some [] → Room k (A.deeper (PyProof.Rows.envOfC "law" (defScope st) s.heap.objs.size D.f (.ref c))) → ∀ ns, ns.length ≤ 63 →
      DSs (cxOf C8.CX0 Pr w K mg base N "law" (defScope st) D.f (.ref c) A outer s H E).nox C8.E0 (.scrT ns [(P, q)] :: List.replicate (N.length - 1) .un) (defBody st) { nx := fun _ => False, rt := fun z => z = .bool true }) :
    FnG Pr w K mg base C8.CX0 (k + 1) D.f D.fd ["script"] (spL K P q R_L) := by
  obtain ⟨oc, od, kV, doc, pm, an, cdv, ct, osl, e, lk, hcd⟩ := D.F.ex
  rw [e] at hc lk
  have hc' : cdv = .ref c := hc
  subst hc'
  have := fnG_of (CX := C8.CX0) (P := Pr) (w := w) (mg := mg) (base := base) (k := k) (sp := spL K P q R_L) lk hcd S (fun vs H Q E h => by obtain ⟨a, ns, H0, d, rfl, _⟩ := h; rfl) fun A outer s H vs Q E gd hr h => by
    obtain ⟨a, ns, H0, d, rfl, h1, h2, h3, h4, ⟨hR1, rfl⟩, hQ⟩ := h
    refine ⟨_, (hb A outer s H E gd hr ns hR1).nox, H0, H0, H0, asn_law hn h1 h2 h3 h4, ?_⟩
    exact ⟨fun r' σ' Hs' H' p a _ => p.elim, fun d' v Hs' H' p g hv => by rw [p] at hv; exact hQ v Hs' H' hv, fun _ _ _ _ p => p.elim, fun _ _ _ _ p => p.elim, fun _ _ _ _ _ p => p.elim, fun _ _ _ _ _ p => p.elim, fun _ _ _ _ _ _ p => p.elim⟩
  rw [e]
  exact this
theorem law_atG {l : PySem.W.OpenLaw} {h : Heap} {st : Stmt} {k : Nat} {q : Str} {fa : List He.Fa} {fn : List He.DefD} {ts : List He.Tab} {tf : List He.Defn} {ex : PySem.W.Frag → Bool} (X : K.In h) (s : He.SaysX fa fn ts tf ex w h K) (htf : (("law", none) : He.Defn) ∈ tf) (D : Dfn K mg "law" st ["script"]) (hD : D.f = He.ga K "law")
    (hok : ∀ base c P, K.In base → base.Ns mainGlobals mg → D.fd.code = .ref c → LamX.TabB base mg c P → FnG l.prog w K mg base C8.CX0 k D.f D.fd ["script"] (spL K P q R_L)) (hbd : ∀ (s : Shared) (u : Value), BindsTo s D.fd ⟨[u], []⟩ [("script", u)]) : LawAtG l w K C8.CX0 k 63 "script" mg D.f h := by
  have hcode : D.fd.code = .ref (He.cT K ("law", none)).1 := by
    obtain ⟨oc, od, kV, doc, pm, an, cdv, ct, osl, e, lk, hcd⟩ := D.F.ex
    obtain ⟨c, rfl⟩ := He.codeIn_ref hcd
    rw [hD] at lk
    have : D.fd.code = .ref c := by rw [e]
    rw [this]
    exact congrArg Value.ref (He.codeOf_eq (p := ("law", none)) lk this).symm
  refine ⟨D.fd, [He.cT K ("law", none)], spL K (He.cT K ("law", none)).2 q R_L, ⟨fun p hp => ?_, fun p hp => ?_, fun p hp => ?_⟩, hbd, fun H a ns hl hT hS => ?_, fun base hK hG hT => hok base _ _ hK hG hcode (hT _ (List.mem_singleton.mpr rfl))⟩
  · rw [List.mem_singleton.mp hp]; exact s.empty _ htf
  · rw [List.mem_singleton.mp hp]; exact s.out _ htf
  · rw [List.mem_singleton.mp hp]; exact PySem.W.codeHd_of_K X (s.hd _ htf)
  · exact ⟨a, ns, noTab H, .bool true, rfl, noTab_same H, noTab_tbl H, noTab_seq hS, hT _ (List.mem_singleton.mpr rfl), ⟨hl, rfl⟩, fun v Hs' H' hv => hv.inv_bool⟩
end
end Dl

namespace Dl
open PySem L2 PySem.W PyProof.Rows PySem.Spec
/-! ## how long a thing is when shown -/
structure ShOk (c : Nat) (d : PyData) : Prop where
  s : (Dl.lo d).showable = true
  l : (Dl.lo d).shown.length ≤ c
theorem ShOk.mono {c c' : Nat} {d : PyData} (h : ShOk c d) (hc : c ≤ c') : ShOk c' d := ⟨h.s, Nat.le_trans h.l hc⟩
theorem sh_bool (b : Bool) : ShOk 5 (.bool b) := ⟨by rw [lo_bool]; cases b <;> decide, by rw [lo_bool]; cases b <;> decide +kernel⟩
theorem sh_none : ShOk 4 .none := ⟨by rw [lo_none]; decide, by rw [lo_none]; decide +kernel⟩
theorem nat_shown : ∀ n : Nat, n < 100 → (PyData.shown (.int (n : Int))).length ≤ 2 := by
  have : (List.range 100).all (fun (n : Nat) => decide ((PyData.shown (.int (n : Int))).length ≤ 2)) = true := by decide +kernel
  intro n hn
  exact of_decide_eq_true (List.all_eq_true.mp this n (List.mem_range.mpr hn))
theorem nat_showable {n : Nat} (h : n < 2 ^ 1000) : PyData.showable (.int (n : Int)) = true := by
  rw [PyData.showable]
  refine decide_eq_true ?_
  show (n : Int).natAbs.log2 < 1920
  rw [Int.natAbs_natCast]
  by_cases z : n = 0
  · subst z; decide
  · have := (Nat.log2_lt z).mpr h
    omega
theorem sh_nI {n : Nat} (h : n < 100) : ShOk 2 (nI n) := ⟨by rw [lo_nI]; exact nat_showable (Nat.lt_of_lt_of_le h (by decide)), by rw [lo_nI]; exact nat_shown n h⟩
theorem shAll {c : Nat} : ∀ {ds : List PyData}, (∀ d ∈ ds, ShOk c d) → PyData.showableAll (ds.map Dl.lo) = true ∧ ((PyData.shownAll (ds.map Dl.lo)).map (·.length)).sum ≤ ds.length * c ∧ (PyData.shownAll (ds.map Dl.lo)).length = ds.length
  | [], _ => ⟨rfl, Nat.zero_le _, rfl⟩
  | d :: ds, h => by
    obtain ⟨h1, h2, h3⟩ := shAll fun x hx => h x (List.mem_cons_of_mem _ hx)
    have h0 := h d List.mem_cons_self
    refine ⟨?_, ?_, ?_⟩
    · rw [List.map_cons, PyData.showableAll, h0.s, h1]; rfl
    · rw [List.map_cons, PyData.shownAll, List.map_cons, List.sum_cons, List.length_cons, Nat.succ_mul]
      have := h0.l
      omega
    · rw [List.map_cons, PyData.shownAll, List.length_cons, h3, List.length_cons]
theorem from_len : ∀ (ts : List Str) (k : Nat) (acc : Str), (textFrom k acc ts).length ≤ acc.length + (ts.map (·.length)).sum + 2 * ts.length
  | [], k, acc => by show acc.length ≤ _; omega
  | t :: ts, k, acc => by
    show (textFrom (k + 1) (acc ++ (if k > 0 then ", " else "" : String) ++ t) ts).length ≤ _
    have ih := from_len ts (k + 1) (acc ++ (if k > 0 then ", " else "" : String) ++ t)
    rw [Str.length_append, Str.length_append] at ih
    have : (((if k > 0 then ", " else "" : String) : Str)).length ≤ 2 := by split <;> decide
    rw [List.map_cons, List.sum_cons, List.length_cons]
    omega
theorem sh_lst {c : Nat} {ds : List PyData} (h : ∀ d ∈ ds, ShOk c d) : ShOk (ds.length * (c + 2) + 2) (.list ds) := by
  obtain ⟨h1, h2, h3⟩ := shAll h
  refine ⟨by rw [lo_list, PyData.showable]; exact h1, ?_⟩
  rw [lo_list, PyData.shown]
  unfold listText
  rw [Str.length_append]
  have := from_len (PyData.shownAll (ds.map Dl.lo)) 0 "["
  rw [h3] at this
  have e1 : (("[" : String) : Str).length = 1 := by decide
  have e2 : (("]" : String) : Str).length = 1 := by decide
  rw [e1] at this
  rw [e2, Nat.mul_add]
  omega
theorem sh_tupL {c : Nat} {ds : List PyData} (h : ∀ d ∈ ds, ShOk c d) : ShOk (ds.length * (c + 2) + 3) (.tuple ds) := by
  obtain ⟨h1, h2, h3⟩ := shAll h
  refine ⟨by rw [lo_tuple, PyData.showable]; exact h1, ?_⟩
  rw [lo_tuple, PyData.shown]
  unfold tupleText
  rw [Str.length_append, Str.length_append]
  have := StrLaws.join_length_le ", " (PyData.shownAll (ds.map Dl.lo))
  have e0 : ((", " : String) : Str).length = 2 := by decide
  rw [h3, e0] at this
  have e1 : (("(" : String) : Str).length = 1 := by decide
  have e2 : (((if (PyData.shownAll (ds.map Dl.lo)).length == 1 then ",)" else ")" : String) : Str)).length ≤ 2 := by split <;> decide
  rw [e1, Nat.mul_add]
  omega
theorem sh_xtL {c : Nat} {ds : List PyData} (h : ∀ d ∈ ds, ShOk c d) : ShOk (ds.length * (c + 2) + 3) (Dl.xt ds) := by
  have := sh_tupL h
  exact ⟨by have := this.s; rw [lo_tuple] at this; rw [lo_xt]; exact this, by have := this.l; rw [lo_tuple] at this; rw [lo_xt]; exact this⟩
theorem sh_nT {ns : List Nat} (h : ∀ n ∈ ns, n < 100) : ShOk (ns.length * 4 + 3) (nT ns) := by
  have := sh_tupL (c := 2) (ds := ns.map nI) fun d hd => by obtain ⟨n, hn, rfl⟩ := List.mem_map.mp hd; exact sh_nI (h n hn)
  rw [List.length_map] at this
  exact this
theorem sh_map {α : Type} {c : Nat} {f : α → PyData} {xs : List α} (h : ∀ x ∈ xs, ShOk c (f x)) : ∀ d ∈ xs.map f, ShOk c d := fun d hd => by
  obtain ⟨x, hx, rfl⟩ := List.mem_map.mp hd
  exact h x hx
theorem sh_cons {c : Nat} {d : PyData} {ds : List PyData} (h : ShOk c d) (t : ∀ x ∈ ds, ShOk c x) : ∀ x ∈ d :: ds, ShOk c x := fun x hx => (List.mem_cons.mp hx).elim (fun e => e ▸ h) (t x)
theorem sh_nil {c : Nat} : ∀ x ∈ ([] : List PyData), ShOk c x := fun _ h => nomatch h
theorem sh_told {c : Nat} {d : PyData} (h : ShOk c d) : ShOk (2 * (c + 6 + 2) + 3) (toldD d) := sh_tupL (ds := [.str "told", d]) (sh_cons ⟨by rw [lo_str]; decide, by rw [lo_str]; exact Nat.le_trans (show (PyData.shown (.str "told")).length ≤ 6 by decide +kernel) (by omega)⟩ (sh_cons (h.mono (by omega)) sh_nil))
section
variable {X : Cx} {r : Rho} {e : Expr} {pos p : Pos} {ds : List PyData} {c : Nat}
theorem de_reprL (hg : X.A.guards = some []) (hu : X.A.units + 64 < cLine) (hm : X.mg "repr" = none) (h : DE X r e (.list ds)) (hs : ShOk c (.list ds)) (hc : c ≤ 1000000) (hd : depL (.list ds) ≤ 60) (hgl : Gl X "repr" := by rfl)
    (he : starEach (e :: []) X.env = (false, eval e X.env) :: starEach [] X.env := by rfl) (hpl : (backTo pos (starEach [] X.env)).any (·.1) = false := by rfl) : DE X r (.Call (.Name "repr" p) [e] [] pos) (.str (Dl.lo (.list ds)).shown) :=
  de_repr hg hu hm h (fun H v hv => by obtain ⟨a, xs, rfl, _⟩ := hv.inv_list; exact ⟨a, rfl⟩) hs.s (size_ok (Nat.le_trans hs.l hc)) hd hgl he hpl
theorem de_reprT (hg : X.A.guards = some []) (hu : X.A.units + 64 < cLine) (hm : X.mg "repr" = none) (h : DE X r e (.tuple ds)) (hs : ShOk c (.tuple ds)) (hc : c ≤ 1000000) (hd : depL (.tuple ds) ≤ 60) (hgl : Gl X "repr" := by rfl)
    (he : starEach (e :: []) X.env = (false, eval e X.env) :: starEach [] X.env := by rfl) (hpl : (backTo pos (starEach [] X.env)).any (·.1) = false := by rfl) : DE X r (.Call (.Name "repr" p) [e] [] pos) (.str (Dl.lo (.tuple ds)).shown) :=
  de_repr hg hu hm h (fun H v hv => by obtain ⟨a, xs, rfl, _⟩ := hv.inv_tuple; exact ⟨a, rfl⟩) hs.s (size_ok (Nat.le_trans hs.l hc)) hd hgl he hpl
end
end Dl

namespace Dl
open PySem L2 PySem.W PyProof.Rows PySem.Spec
/-! ## objects of one's own: what may change them -/
structure AsnF (K : PySem.W.Frag) (Hs0 H0 : Hp) (r : Rho) (σ : L2.St) (Hs H : Hp) (F : Nat → List Addr) : Prop where
  g : Grw Hs0 H0 Hs H
  fr : FrOk K Hs0 H0 r σ Hs H F
  len : r.length = σ.length
theorem AsnF.asn {K : PySem.W.Frag} {Hs0 H0 : Hp} {r : Rho} {σ : L2.St} {Hs H : Hp} {F : Nat → List Addr} (A : AsnF K Hs0 H0 r σ Hs H F) : Asn K Hs0 H0 r σ Hs H := ⟨A.g, ⟨F, A.fr⟩, A.len⟩
theorem Asn.ex {K : PySem.W.Frag} {Hs0 H0 : Hp} {r : Rho} {σ : L2.St} {Hs H : Hp} (A : Asn K Hs0 H0 r σ Hs H) : ∃ F, AsnF K Hs0 H0 r σ Hs H F := let ⟨F, f⟩ := A.fr; ⟨F, A.g, f, A.len⟩
theorem AsnF.grow {K : PySem.W.Frag} {Hs0 H0 : Hp} {r : Rho} {σ : L2.St} {Hs H Hs' H' : Hp} {F : Nat → List Addr} (A : AsnF K Hs0 H0 r σ Hs H F) (g : Grw Hs H Hs' H') : AsnF K Hs0 H0 r σ Hs' H' F := by
  refine ⟨A.g.trans g, ⟨fun i s e => (A.fr.at_ i s e).chg g.st fun x _ o q => g.all _ _ q, fun i x m => ?_, A.fr.dist, A.fr.tb⟩, A.len⟩
  obtain ⟨h0, h1, h2⟩ := A.fr.own i x m
  cases q : H x with
  | none => exact absurd q h2
  | some o => exact ⟨h0, g.stay h1 q, by rw [g.all _ _ q]; simp⟩
/-- the object at the slot i may have been changed; all else has grown -/
structure Mv (i : Nat) (F : Nat → List Addr) (Hs H Hs' H' : Hp) (F' : Nat → List Addr) : Prop where
  st : Same Hs Hs'
  oth : ∀ j, j ≠ i → F' j = F j
  own : ∀ x ∈ F' i, x ∈ F i ∨ H x = none
  keep : ∀ x o, x ∉ F i → H x = some o → H' x = some o
  new : ∀ x, Hs' x ≠ none → Hs x ≠ none ∨ H x = none ∨ x ∈ F i
theorem Mv.grw {i : Nat} {F : Nat → List Addr} {Hs H Hs' H' : Hp} (g : Grw Hs H Hs' H') : Mv i F Hs H Hs' H' F := ⟨g.st, fun _ _ => rfl, fun x m => .inl m, fun x o _ q => g.all _ _ q, fun x q => (g.new x q).imp id .inl⟩
theorem Mv.trans {i : Nat} {F F1 F2 : Nat → List Addr} {Hs H Hs1 H1 Hs2 H2 : Hp} (a : Mv i F Hs H Hs1 H1 F1) (b : Mv i F1 Hs1 H1 Hs2 H2 F2) : Mv i F Hs H Hs2 H2 F2 := by
  have back : ∀ x, H1 x = none → H x = none ∨ x ∈ F i := fun x q => by
    by_cases m : x ∈ F i
    · exact .inr m
    · cases z : H x with
      | none => exact .inl rfl
      | some o => rw [a.keep x o m z] at q; cases q
  refine ⟨a.st.trans b.st, fun j h => (b.oth j h).trans (a.oth j h), fun x m => ?_, fun x o m q => ?_, fun x q => ?_⟩
  · rcases b.own x m with z | z
    · exact a.own x z
    · exact (back x z).elim .inr .inl
  · refine b.keep x o (fun z => ?_) (a.keep x o m q)
    rcases a.own x z with y | y
    · exact m y
    · rw [q] at y; cases y
  · rcases b.new x q with z | z | z
    · exact a.new x z
    · exact .inr ((back x z).imp id id)
    · exact .inr ((a.own x z).elim .inr .inl)
/-- evaluates to d; the object at the slot i may be changed: r' tells the slots then -/
def tDo (K : PySem.W.Frag) (i : Nat) (r : Rho) (d : PyData) (r' : Rho) : TE := fun σ H Q => ∃ Hs0 H0 Hs F, AsnF K Hs0 H0 r σ Hs H F ∧ ∀ v Hs' H' F', Mv i F Hs H Hs' H' F' → AsnF K Hs0 H0 r' σ Hs' H' F' → Dat Hs' v d → Q v H'
def tDTo (K : PySem.W.Frag) (i : Nat) (r : Rho) (b : Bool) (r' : Rho) : TT := fun σ H Q => ∃ Hs0 H0 Hs F, AsnF K Hs0 H0 r σ Hs H F ∧ ∀ Hs' H' F', Mv i F Hs H Hs' H' F' → AsnF K Hs0 H0 r' σ Hs' H' F' → Q b H'
def tNo (K : PySem.W.Frag) (i : Nat) (r : Rho) (ds : List PyData) (r' : Rho) : TE := fun σ H Q => ∃ Hs0 H0 Hs F, AsnF K Hs0 H0 r σ Hs H F ∧ ∀ p vs Hs' H' F', Mv i F Hs H Hs' H' F' → AsnF K Hs0 H0 r' σ Hs' H' F' → (H p = none ∨ p ∈ F i) → Hs' p = none → (∀ j, p ∉ F' j) → H' p = some (.lst vs) → Dats Hs' vs ds → Q (.ref p) H'
def DOb (X : Cx) (i : Nat) (r : Rho) (e : Expr) (d : PyData) (r' : Rho) : Prop := PE X e (tDo X.K i r d r')
def DTo (X : Cx) (i : Nat) (r : Rho) (e : Expr) (b : Bool) (r' : Rho) : Prop := PT X e (tDTo X.K i r b r')
def DNo (X : Cx) (i : Nat) (r : Rho) (e : Expr) (ds : List PyData) (r' : Rho) : Prop := PE X e (tNo X.K i r ds r')
section
variable {X : Cx} {E : XK} {i : Nat} {r r' r1 r2 : Rho} {e a b c : Expr} {pos p : Pos} {d d1 d2 : PyData} {ds : List PyData} {P : Post} {x : Str}
theorem DE.o (h : DE X r e d) : DOb X i r e d r := PE.wk h fun _ _ σ H Q _ ⟨Hs0, H0, Hs, F, A, q⟩ => ⟨Hs0, H0, Hs, A.asn, fun v Hs' H' g hv => q v Hs' H' F (Mv.grw g) (A.grow g) hv⟩
theorem DOb.is (h : DOb X i r e d1 r') (q : d1 = d) : DOb X i r e d r' := q ▸ h
theorem DNo.o (h : DNo X i r e ds r') : DOb X i r e (.list ds) r' := PE.wk h fun _ _ σ H Q _ ⟨Hs0, H0, Hs, F, A, q⟩ => ⟨Hs0, H0, Hs, F, A, fun p vs Hs' H' F' m A' hp hp' hn hv hd => by
  have h0 : H0 p = none := hp.elim A.g.all.free fun z => (A.fr.own i p z).1
  refine q (.ref p) (upd Hs' p (.lst vs)) H' F' ⟨m.st.trans (same_upd hp'), m.oth, m.own, m.keep, fun y z => ?_⟩ ⟨A'.g.freeze h0 hp' hv, ⟨fun j s z => (A'.fr.at_ j s z).chg (same_upd hp') fun _ _ _ y => y, fun j y my => ?_, A'.fr.dist, A'.fr.tb⟩, A'.len⟩ (.lst upd_same (hd.mono (same_upd hp')))
  · by_cases ey : y = p
    · rw [ey]; exact .inr hp
    · rw [upd_ne ey] at z; exact m.new y z
  · obtain ⟨k0, k1, k2⟩ := A'.fr.own j y my
    have ny : y ≠ p := fun z => hn j (by rw [← z]; exact my)
    exact ⟨k0, by rw [upd_ne ny]; exact k1, k2⟩⟩
theorem tOp_o {rr : R2} (h : R2D rr d1 d2 d) {σ : L2.St} {H : Hp} {Q : VK} (q : tDo X.K i r d r2 σ H Q) : tOp rr (tDo X.K i r d1 r1) (tDo X.K i r1 d2 r2) σ H Q := by
  obtain ⟨Hs0, H0, Hs, F, A, q⟩ := q
  exact ⟨Hs0, H0, Hs, F, A, fun u Hs1 H1 F1 m1 A1 h1 => ⟨Hs0, H0, Hs1, F1, A1, fun y Hs2 H2 F2 m2 A2 h2 => h u y Hs2 H2 Q (h1.mono m2.st) h2 A2.g.sub fun v Hs3 H3 g3 h3 => q v Hs3 H3 F2 ((m1.trans m2).trans (Mv.grw g3)) (A2.grow g3) h3⟩⟩
theorem do_op {op : Operator} {rr : R2} (ho : OpR X (binaryOp op) rr) (h : R2D rr d1 d2 d) (ha : DOb X i r a d1 r1) (hb : DOb X i r1 b d2 r2) : DOb X i r (.BinOp a op b pos) d r2 := PE.wk (pe_op ho ha hb) fun _ _ σ H Q _ q => tOp_o h q
theorem do_add {k l : Int} (ha : DOb X i r a (.int k) r1) (hb : DOb X i r1 b (.int l) r2) : DOb X i r (.BinOp a .Add b pos) (.int (k + l)) r2 := do_op op_add r2_int0 ha hb
theorem do_sub {k l : Int} (ha : DOb X i r a (.int k) r1) (hb : DOb X i r1 b (.int l) r2) : DOb X i r (.BinOp a .Sub b pos) (.int (k - l)) r2 := do_op op_sub r2_int0 ha hb
theorem do_cmp {op : CmpOp} {rr : R2} (ho : OpR X (compareOp op) rr) (h : R2D rr d1 d2 d) (ha : DOb X i r a d1 r1) (hb : DOb X i r1 b d2 r2) (hm : behindInMarks op b = false) : DOb X i r (.Compare a [op] [b] pos) d r2 := PE.wk (pe_cmpR ho ha hb hm) fun _ _ σ H Q _ q => tOp_o h q
theorem dto_cmp {op : CmpOp} {rr : R2} {k : Bool} (ho : OpR X (compareOp op) rr) (h : R2D rr d1 d2 (.bool k)) (ha : DOb X i r a d1 r1) (hb : DOb X i r1 b d2 r2) (hm : behindInMarks op b = false) : DTo X i r (.Compare a [op] [b] pos) k r2 :=
  PT.wk (pt_cmpR ho ha hb hm) fun σ H Q ⟨Hs0, H0, Hs, F, A, q⟩ => tOp_o h ⟨Hs0, H0, Hs, F, A, fun v Hs' H' F' m A' hv => ⟨k, hv.inv_bool, q Hs' H' F' m A'⟩⟩
theorem dto_val {k : Bool} (h : DOb X i r e (.bool k) r') (he : ∀ whole, isTrue e X.env whole = (do let v ← whole; standAt e.pos; holding [v] (truthy v)) := by intro _; rfl) : DTo X i r e k r' :=
  PT.wk (pt_val h he) fun σ H Q ⟨Hs0, H0, Hs, F, A, q⟩ => ⟨Hs0, H0, Hs, F, A, fun v Hs' H' F' m A' hv => ⟨k, hv.inv_bool, q Hs' H' F' m A'⟩⟩
theorem dto_not {k : Bool} (h : DTo X i r a k r') : DTo X i r (.UnaryOp .Not a pos) (!k) r' := PT.wk (pt_not h) fun σ H Q ⟨Hs0, H0, Hs, F, A, q⟩ => ⟨Hs0, H0, Hs, F, A, q⟩
theorem DT.o {k : Bool} (h : DT X r e k) : DTo X i r e k r := PT.wk h fun σ H Q ⟨Hs0, H0, Hs, F, A, q⟩ => ⟨Hs0, H0, Hs, A.asn, fun Hs' H' g => q Hs' H' F (Mv.grw g) (A.grow g)⟩
theorem dto_eqS {r1 : Rho} (hu : X.A.units + 64 < cLine) (hd : depL d ≤ 60) (ha : DOb X i r a d r1) (hb : DOb X i r1 b d r2) : DTo X i r (.Compare a [.Eq] [b] pos) true r2 := dto_cmp (op_eqP hu) (r2_eqS (neg := false) hd) ha hb (nomark _)
theorem dto_neS {r1 : Rho} (hu : X.A.units + 64 < cLine) (hd : depL d ≤ 60) (ha : DOb X i r a d r1) (hb : DOb X i r1 b d r2) : DTo X i r (.Compare a [.NotEq] [b] pos) false r2 := dto_cmp (op_neP hu) (r2_eqS (neg := true) hd) ha hb (nomark _)
theorem dto_eqP {r1 : Rho} (hu : X.A.units + 64 < cLine) (hd : min (depL d1) (depL d2) ≤ 60) (ha : DOb X i r a d1 r1) (hb : DOb X i r1 b d2 r2) : DTo X i r (.Compare a [.Eq] [b] pos) (eqL d1 d2) r2 := dto_cmp (op_eqP hu) (r2_eqP hd) ha hb (nomark _)
theorem dto_neP {r1 : Rho} (hu : X.A.units + 64 < cLine) (hd : min (depL d1) (depL d2) ≤ 60) (ha : DOb X i r a d1 r1) (hb : DOb X i r1 b d2 r2) : DTo X i r (.Compare a [.NotEq] [b] pos) (!eqL d1 d2) r2 := dto_cmp (op_neP hu) (r2_eqP hd) ha hb (nomark _)
/-- a built-in call on what may have changed the object -/
theorem do_callB1 {id : String} {rc : List V → Hp → VK → Prop} (hc : CallR X (.builtin id) rc) (h : CRD rc [d1] d) (ha : DOb X i r e d1 r') (hm : X.mg x = none) (hv : bootBuiltins x = some (.builtin id)) (hg : Gl X x := by rfl) (hn : x ≠ "__name__" := by decide) (hdb : (x == ("__debug__" : Str)) = false := by decide)
    (he : starEach (e :: []) X.env = (false, eval e X.env) :: starEach [] X.env := by rfl) (hpl : (backTo pos (starEach [] X.env)).any (·.1) = false := by rfl) : DOb X i r (.Call (.Name x p) [e] [] pos) d r' :=
  PE.wk (pe_callB hc hg hm hv (pa_cons ha pa_nil he) hn hdb he hpl) fun _ _ σ H Q _ ⟨Hs0, H0, Hs, F, A, q⟩ => ⟨Hs0, H0, Hs, F, A, fun v Hs1 H1 F1 m1 A1 h1 => h [v] Hs1 H1 Q (.cons h1 .nil) A1.g.sub fun u Hs2 H2 g2 h2 => q u Hs2 H2 F1 (m1.trans (Mv.grw g2)) (A1.grow g2) h2⟩
theorem do_callT1 {T : String} {rc : List V → Hp → VK → Prop} (hc : CallR X (.type T) rc) (h : CRD rc [d1] d) (ha : DOb X i r e d1 r') (hm : X.mg x = none) (hv : bootBuiltins x = some (.type T)) (hg : Gl X x := by rfl) (hn : x ≠ "__name__" := by decide) (hdb : (x == ("__debug__" : Str)) = false := by decide)
    (he : starEach (e :: []) X.env = (false, eval e X.env) :: starEach [] X.env := by rfl) (hpl : (backTo pos (starEach [] X.env)).any (·.1) = false := by rfl) : DOb X i r (.Call (.Name x p) [e] [] pos) d r' :=
  PE.wk (pe_callTy hc hg hm hv (pa_cons ha pa_nil he) hn hdb he hpl) fun _ _ σ H Q _ ⟨Hs0, H0, Hs, F, A, q⟩ => ⟨Hs0, H0, Hs, F, A, fun v Hs1 H1 F1 m1 A1 h1 => h [v] Hs1 H1 Q (.cons h1 .nil) A1.g.sub fun u Hs2 H2 g2 h2 => q u Hs2 H2 F1 (m1.trans (Mv.grw g2)) (A1.grow g2) h2⟩
theorem do_ixT {k : Int} (ha : DOb X i r a (.tuple ds) r1) (hb : DOb X i r1 b (.int k) r2) (hk : atI ds k = some d) (hs : PlainIx b := by intro _ _; rfl) : DOb X i r (.Subscript a b pos) d r2 :=
  PE.wk (pe_ix ix_tup ha hb hs) fun _ _ σ H Q _ q => tOp_o (fun x y Hs H Q hx hy hs q => by
    obtain ⟨t, xs, rfl, ht, hxs⟩ := hx.inv_tuple
    obtain ⟨v, e1, hv⟩ := dats_at hxs hk
    exact ⟨t, xs, k, v, rfl, hy.inv_int, SqT.rd (Rd.same hs ht), e1, q v Hs H (Grw.refl hs) hv⟩) q
theorem do_ixL {k : Int} (ha : DOb X i r a (.list ds) r1) (hb : DOb X i r1 b (.int k) r2) (hk : atI ds k = some d) (hs : PlainIx b := by intro _ _; rfl) : DOb X i r (.Subscript a b pos) d r2 :=
  PE.wk (pe_ix ix_list ha hb hs) fun _ _ σ H Q _ q => tOp_o (fun x y Hs H Q hx hy hs q => by
    obtain ⟨t, xs, rfl, ht, hxs⟩ := hx.inv_list
    obtain ⟨v, e1, hv⟩ := dats_at hxs hk
    exact ⟨t, xs, k, v, rfl, hy.inv_int, SqL.of (hs _ _ ht), e1, q v Hs H (Grw.refl hs) hv⟩) q
/-! ### statements -/
theorem ds_setO (j : Nat) {y : Str} {pos' : Pos} (hN : X.N.Nodup) (he : DOb X i r e d r') (hp : P.nx (r'.set j (.val d))) (hi : X.N[j]? = some y := by rfl) (hx : Loc X.env.scope y := by first | exact Or.inl rfl | exact Or.inr rfl)
    (hs : swapsWith e (some (.Name y pos')) pos.line X.env = pure false := by rfl) (hf : X.fn y = true ∨ X.env.scope.names.lookup y = some .local := by first | exact .inl rfl | exact .inr rfl | assumption) : DS X E r (.Assign [.Name y pos'] e pos) P :=
  PS.wk (ps_set (i := j) hN hi hx he hs hf) fun _ _ D σ H _ ⟨Hs0, H0, Hs, A, w⟩ => by
    obtain ⟨F, A⟩ := A.ex
    exact ⟨Hs0, H0, Hs, F, A, fun v Hs' H' F' m A' hv => w.nx _ _ Hs' H' hp (A'.asn.setV hv) m.st⟩
theorem ds_exprO (he : DOb X i r e d r') (hp : P.nx r') (hs : swapsWith e none pos.line X.env = pure false := by rfl) : DS X E r (.Expr e pos) P :=
  PS.wk (ps_expr he hs) fun _ _ D σ H _ ⟨Hs0, H0, Hs, A, w⟩ => by
    obtain ⟨F, A⟩ := A.ex
    exact ⟨Hs0, H0, Hs, F, A, fun v Hs' H' F' m A' hv => w.nx _ _ Hs' H' hp A'.asn m.st⟩
/-- return, with what the names are then -/
theorem ds_retO (he : DOb X i r e d r') (hp : P.ro d r') : DS X E r (.Return (some e) pos) P :=
  PS.wk (ps_ret he) fun _ _ D σ H _ ⟨Hs0, H0, Hs, A, w⟩ => by
    obtain ⟨F, A⟩ := A.ex
    exact ⟨Hs0, H0, Hs, F, A, fun v Hs' H' F' m A' hv => w.ro d r' v σ Hs' H' hp A'.asn hv⟩
theorem ds_retOv (he : DOb X i r e d r') (hp : P.rt d) : DS X E r (.Return (some e) pos) P :=
  PS.wk (ps_ret he) fun _ _ D σ H _ ⟨Hs0, H0, Hs, A, w⟩ => by
    obtain ⟨F, A⟩ := A.ex
    exact ⟨Hs0, H0, Hs, F, A, fun v Hs' H' F' m A' hv => w.rt d v Hs' H' hp A'.g hv⟩
theorem ds_ifO {k : Bool} {as bs : List Stmt} (h : DTo X i r c k r') (ha : k = true → DSs X E r' as P) (hb : k = false → DSs X E r' bs P) : DS X E r (.If c as bs pos) P := by
  cases k with
  | true =>
    refine PS.wk (ps_if h (ha rfl) (pss_never (sts := bs))) fun _ _ D σ H _ ⟨Hs0, H0, Hs, A, w⟩ => ?_
    obtain ⟨F, A⟩ := A.ex
    exact ⟨Hs0, H0, Hs, F, A, fun Hs' H' F' m A' => iteT ⟨Hs0, H0, Hs', A'.asn, w.st m.st⟩⟩
  | false =>
    refine PS.wk (ps_if h (pss_never (sts := as)) (hb rfl)) fun _ _ D σ H _ ⟨Hs0, H0, Hs, A, w⟩ => ?_
    obtain ⟨F, A⟩ := A.ex
    exact ⟨Hs0, H0, Hs, F, A, fun Hs' H' F' m A' => iteF ⟨Hs0, H0, Hs', A'.asn, w.st m.st⟩⟩
theorem dss_noO {as rest : List Stmt} {k : Bool} (h : DTo X i r c k r') (hk : k = false) (h' : DSs X E r' rest P) : DSs X E r (.If c as [] pos :: rest) P := dss_cons (ds_ifO h (fun z => by rw [hk] at z; cases z) (fun _ => dss_nil rfl)) h'
end
/-! ## methods -/
/-- behind a method: G the object's footprint ahead of it, G' behind -/
structure Mo (G : List Addr) (Hs H Hs' H' : Hp) (G' : List Addr) : Prop where
  st : Same Hs Hs'
  sub : Same Hs' H'
  keep : ∀ x o, x ∉ G → H x = some o → H' x = some o
  new : ∀ x, Hs' x ≠ none → Hs x ≠ none ∨ H x = none ∨ x ∈ G
  nt : ∀ x ps, Hs' x = some (.tbl ps) → Hs x = some (.tbl ps)
  own : ∀ x ∈ G', (x ∈ G ∨ H x = none) ∧ Hs' x = none ∧ H' x ≠ none
/-- a method's promise: the object O, handed as, tells d and is O' then -/
def spO (K : PySem.W.Frag) (R : Ob → Rho → Ob → PyData → Prop) : Sp := fun vs H Q _ => ∃ Hs a G us O as O' d, vs = .ref a :: us ∧ Same Hs H ∧ (∀ x ∈ G, Hs x = none ∧ H x ≠ none) ∧ O.J Hs H a G ∧ Args K Hs us as ∧ R O as O' d ∧ ∀ v Hs' H' G', Mo G Hs H Hs' H' G' → O'.J Hs' H' a G' → Dat Hs' v d → Q v H'
/-- a method that raises leaves the object as it was -/
def spOE (K : PySem.W.Frag) (R : Ob → Rho → Addr → Prop) : Sp := fun vs H _ E => ∃ Hs a G us O as C, vs = .ref a :: us ∧ Same Hs H ∧ (∀ x ∈ G, Hs x = none ∧ H x ≠ none) ∧ O.J Hs H a G ∧ Args K Hs us as ∧ R O as C ∧ ∀ Hs' H' G', Mo G Hs H Hs' H' G' → O.J Hs' H' a G' → E (.ref C) none H'
open Classical in
theorem args_obj {K : PySem.W.Frag} {Hs H : Hp} {N : List Str} {us : List V} {as : Rho} {a : Addr} {G : List Addr} {O : Ob} (hs : Same Hs H) (hG : ∀ x ∈ G, Hs x = none ∧ H x ≠ none) (hJ : O.J Hs H a G) (ha : Args K Hs us as) (hl : as.length + 1 ≤ N.length) :
    Asn K Hs (fun x => if x ∈ G then none else H x) (.obj a O :: as ++ List.replicate (N.length - (as.length + 1)) .un) (L2.start N (.ref a :: us)) Hs H := by
  have el := ha.length
  have at2 : ∀ {vs : List V} {as : Rho} {i : Nat} {s : Slot}, Args K Hs vs as → as[i]? = some s → ∃ v, vs[i]? = some v ∧ ArgOk K Hs v s := by
    intro vs as i s h
    induction h generalizing i with
    | nil => intro e; simp at e
    | cons h t ih =>
      intro e
      cases i with
      | zero => simp at e; subst e; exact ⟨_, rfl, h⟩
      | succ j => obtain ⟨v, e1, e2⟩ := ih (i := j) (by simpa using e); exact ⟨v, by simpa using e1, e2⟩
  have key : ∀ (i : Nat) s, (Slot.obj a O :: as ++ List.replicate (N.length - (as.length + 1)) Slot.un)[i]? = some s → (i = 0 ∧ s = .obj a O) ∨ s = .un ∨ ∃ v, (L2.start N (.ref a :: us))[i]? = some (some v) ∧ ArgOk K Hs v s := fun i s e => by
    cases i with
    | zero => simp at e; exact .inl ⟨rfl, e.symm⟩
    | succ j =>
      rw [List.cons_append, List.getElem?_cons_succ] at e
      by_cases hj : j < as.length
      · rw [List.getElem?_append_left hj] at e
        obtain ⟨v, e1, e2⟩ := at2 ha e
        refine .inr (.inr ⟨v, ?_, e2⟩)
        unfold L2.start
        rw [List.map_cons, List.cons_append, List.getElem?_cons_succ, List.getElem?_append_left (by rw [List.length_map]; omega), List.getElem?_map, e1]
        rfl
      · rw [List.getElem?_append_right (by omega), List.getElem?_replicate] at e
        split at e
        · injection e with e; exact .inr (.inl e.symm)
        · cases e
  refine ⟨⟨fun x o q => ?_, Same.refl Hs, hs, fun _ q => .inl q, fun _ _ q => q⟩, ⟨fun j => if j = 0 then G else [], fun i s e => ?_, fun i x m => ?_, fun i j x m m' => ?_, fun i s e ht => ?_⟩, ?_⟩
  · have q : (if x ∈ G then none else H x) = some o := q
    by_cases z : x ∈ G
    · rw [if_pos z] at q; cases q
    · rw [if_neg z] at q; exact q
  · rcases key i s e with ⟨rfl, rfl⟩ | rfl | ⟨v, q1, q2⟩
    · exact ⟨rfl, hJ⟩
    · trivial
    · cases s with
      | un => trivial
      | val d => exact ⟨v, q1, q2⟩
      | own ds => exact q2.elim
      | dic _ _ ds => exact q2.elim
      | fd _ _ ds => obtain ⟨a, ob, xs, rfl, h, h2⟩ := q2; exact ⟨a, ob, xs, q1, h, h2⟩
      | oo ds => exact q2.elim
      | obj _ _ => exact q2.elim
      | scr ns => obtain ⟨a, rfl, h⟩ := q2; exact ⟨a, q1, h⟩
      | scrT ns T => exact q2.elim
      | valT _ _ => exact q2.elim
      | raw u => exact q1.trans (by rw [show v = u from q2])
  · by_cases z : i = 0
    · rw [if_pos z] at m
      exact ⟨if_pos m, (hG x m).1, (hG x m).2⟩
    · rw [if_neg z] at m; cases m
  · by_cases z : i = 0
    · by_cases z' : j = 0
      · rw [z, z']
      · rw [if_neg z'] at m'; cases m'
    · rw [if_neg z] at m; cases m
  · rcases key i _ e with ⟨_, q⟩ | q | ⟨v, _, q⟩
    · rw [q] at ht; cases ht
    · rw [q] at ht; cases ht
    · cases s <;> first | (cases ht; done) | exact q.elim
  · unfold L2.start
    simp [el]
theorem mo_of {K : PySem.W.Frag} {Hs H Hs' H' : Hp} {G : List Addr} {r' : Rho} {σ' : L2.St} {a : Addr} {O' : Ob} {H0 : Hp} (e0 : ∀ x, H0 x = none ↔ (x ∈ G ∨ H x = none)) (e1 : ∀ x o, x ∉ G → H x = some o → H0 x = some o) (A : Asn K Hs H0 r' σ' Hs' H') (h0 : r'[0]? = some (.obj a O')) : ∃ G', Mo G Hs H Hs' H' G' ∧ O'.J Hs' H' a G' := by
  obtain ⟨F, A⟩ := A.ex
  obtain ⟨_, hJ⟩ := A.fr.at_ 0 _ h0
  refine ⟨F 0, ⟨A.g.st, A.g.sub, fun x o m q => A.g.all _ _ (e1 x o m q), fun x q => ?_, A.g.nt, fun x m => ?_⟩, hJ⟩
  · rcases A.g.new x q with z | z
    · exact .inl z
    · exact .inr (((e0 x).mp z).elim .inr .inl)
  · obtain ⟨z, k⟩ := A.fr.own 0 x m
    exact ⟨(e0 x).mp z, k⟩
section
variable {P : Program} {w : World} {K : PySem.W.Frag} {mg : Str → Option Value} {base : Heap}
open Classical in
/-- a method keeps its promise -/
theorem okO {x qual : Str} {st : Stmt} {f : Addr} {fd : FuncData} {N ps : List Str} {k : Nat} {R : Ob → Rho → Ob → PyData → Prop} (F : Fun K x qual st f fd) (S : FnScope N ps (defScope st)) (len : ∀ O as O' d, R O as O' d → as.length + 1 = ps.length) (hn : ps.length ≤ N.length)
    (hb : ∀ (cdv : Value) (A : Around) (outer : List Env) (s : Shared) (H : Hp) (E : XK), Room k (A.deeper (PyProof.Rows.envOfC qual (defScope st) s.heap.objs.size f cdv)) → ∀ a O as O' d, R O as O' d →
      DSs (cx0 P w K mg base N qual (defScope st) f cdv A outer s H E) E0 (.obj a O :: as ++ List.replicate (N.length - (as.length + 1)) .un) (defBody st) { nx := fun z => d = .none ∧ z[0]? = some (.obj a O'), ro := fun z r' => z = d ∧ r'[0]? = some (.obj a O') }) : FnOk P w K mg base CX0 (k + 1) f fd ps (spO K R) := by
  refine F.ok S (fun vs H Q E h => ?_) (fun cdv A outer s H vs Q E hr h => ?_)
  · obtain ⟨Hs, a, G, us, O, as, O', d, rfl, _, _, _, ha, hR, _⟩ := h
    rw [List.length_cons, ha.length]
    exact len O as O' d hR
  · obtain ⟨Hs, a, G, us, O, as, O', d, rfl, hs, hG, hJ, ha, hR, q⟩ := h
    have e0 : ∀ x, (if x ∈ G then none else H x) = none ↔ (x ∈ G ∨ H x = none) := fun x => by
      by_cases z : x ∈ G
      · rw [if_pos z]; exact ⟨fun _ => .inl z, fun _ => rfl⟩
      · rw [if_neg z]; exact ⟨.inr, fun y => y.elim (fun u => absurd u z) id⟩
    refine ⟨_, hb cdv A outer s H E hr a O as O' d hR, Hs, _, Hs, args_obj hs hG hJ ha (by rw [len O as O' d hR]; exact hn), ?_⟩
    refine ⟨fun r' σ' Hs' H' p A' _ => ?_, fun d' v Hs' H' p g hv => p.elim, fun _ _ _ _ p => p.elim, fun _ _ _ _ p => p.elim, fun _ _ _ _ _ p => p.elim, fun _ _ _ _ _ p => p.elim, fun d' r' v σ' Hs' H' p A' hv => ?_⟩
    · obtain ⟨G', m, j⟩ := mo_of e0 (fun x o z y => (if_neg z).trans y) A' p.2
      exact q _ Hs' H' G' m j (by rw [p.1]; exact .non)
    · obtain ⟨G', m, j⟩ := mo_of e0 (fun x o z y => (if_neg z).trans y) A' p.2
      exact q v Hs' H' G' m j (by rw [← p.1]; exact hv)
open Classical in
theorem okOE {x qual : Str} {st : Stmt} {f : Addr} {fd : FuncData} {N ps : List Str} {k : Nat} {R : Ob → Rho → Addr → Prop} (F : Fun K x qual st f fd) (S : FnScope N ps (defScope st)) (len : ∀ O as C, R O as C → as.length + 1 = ps.length) (hn : ps.length ≤ N.length)
    (hb : ∀ (cdv : Value) (A : Around) (outer : List Env) (s : Shared) (H : Hp) (E : XK), Room k (A.deeper (PyProof.Rows.envOfC qual (defScope st) s.heap.objs.size f cdv)) → ∀ a O as C, R O as C →
      DSs (cxE P w K mg base N qual (defScope st) f cdv A outer s H E) E (.obj a O :: as ++ List.replicate (N.length - (as.length + 1)) .un) (defBody st) { nx := fun _ => False, ex := fun z r' => z = C ∧ r'[0]? = some (.obj a O) }) : FnOk P w K mg base (L2.CX P w) (k + 1) f fd ps (spOE K R) := by
  refine F.okX S (fun vs H Q E h => ?_) (fun cdv A outer s H vs Q E hr h => ?_)
  · obtain ⟨Hs, a, G, us, O, as, C, rfl, _, _, _, ha, hR, _⟩ := h
    rw [List.length_cons, ha.length]
    exact len O as C hR
  · obtain ⟨Hs, a, G, us, O, as, C, rfl, hs, hG, hJ, ha, hR, q⟩ := h
    have e0 : ∀ x, (if x ∈ G then none else H x) = none ↔ (x ∈ G ∨ H x = none) := fun x => by
      by_cases z : x ∈ G
      · rw [if_pos z]; exact ⟨fun _ => .inl z, fun _ => rfl⟩
      · rw [if_neg z]; exact ⟨.inr, fun y => y.elim (fun u => absurd u z) id⟩
    refine ⟨_, hb cdv A outer s H E hr a O as C hR, Hs, _, Hs, args_obj hs hG hJ ha (by rw [len O as C hR]; exact hn), ?_⟩
    refine ⟨fun r' σ' Hs' H' p A' _ => p.elim, fun d' v Hs' H' p g hv => p.elim, fun _ _ _ _ p => p.elim, fun _ _ _ _ p => p.elim, fun C' r' σ' Hs' H' p A' => ?_, fun _ _ _ _ _ p => p.elim, fun _ _ _ _ _ _ p => p.elim⟩
    obtain ⟨G', m, j⟩ := mo_of e0 (fun x o z y => (if_neg z).trans y) A' p.2
    rw [p.1]
    exact q Hs' H' G' m j
end
end Dl

namespace Dl
open PySem L2 PySem.W PyProof.Rows PySem.Spec
/-! ## methods called, objects made -/
/-- a class of the text -/
structure Cld (K : PySem.W.Frag) (mg : Str → Option Value) (name : Str) (flds : List Str) where
  C : Addr
  g : mg name = some (.ref C)
  cls : Cls K C
  na : ∀ f ∈ flds, NoAttr K C f
/-- a method of the text -/
structure Mtd (K : PySem.W.Frag) (C : Addr) (m qual : Str) (st : Stmt) (ps : List Str) where
  f : Addr
  fd : FuncData
  F : Fun K m qual st f fd
  b : Binds K fd ps []
  m : Meth K C m f
/-- the maker of a class -/
structure Mkd (K : PySem.W.Frag) (C : Addr) (qual : Str) (st : Stmt) (ps : List Str) where
  f : Addr
  fd : FuncData
  F : Fun K "__init__" qual st f fd
  b : Binds K fd ps []
  m : Mk K C f
theorem AsnF.put {K : PySem.W.Frag} {Hs0 H0 : Hp} {r : Rho} {σ : L2.St} {Hs H Hs' H' : Hp} {F : Nat → List Addr} {i : Nat} {a : Addr} {O' : Ob} {G' : List Addr} (A : AsnF K Hs0 H0 r σ Hs H F) (e : σ[i]? = some (some (.ref a))) (m : Mo (F i) Hs H Hs' H' G') (j : O'.J Hs' H' a G') :
    AsnF K Hs0 H0 (r.set i (.obj a O')) σ Hs' H' (fun k => if k = i then G' else F k) ∧ Mv i F Hs H Hs' H' (fun k => if k = i then G' else F k) := by
  have nF : ∀ k, k ≠ i → ∀ x ∈ F k, x ∉ F i := fun k hk x h1 h2 => hk (A.fr.dist k i x h1 h2)
  have kp : ∀ x o, H0 x = some o → x ∉ F i := fun x o q z => by have := (A.fr.own i x z).1; rw [q] at this; cases this
  have g' : Grw Hs0 H0 Hs' H' := ⟨fun x o q => m.keep x o (kp x o q) (A.g.all _ _ q), A.g.st.trans m.st, m.sub, fun x q => by
    rcases m.new x q with z | z | z
    · exact A.g.new x z
    · exact .inr (A.g.all.free z)
    · exact .inr (A.fr.own i x z).1, fun x ps q => A.g.nt x ps (m.nt x ps q)⟩
  have h0 : ∀ x ∈ G', H0 x = none := fun x z => by
    rcases (m.own x z).1 with y | y
    · exact (A.fr.own i x y).1
    · exact A.g.all.free y
  refine ⟨⟨g', A.fr.put (σ' := σ) i (.obj a O') G' (fun _ _ => rfl) m.st (fun k hk x z => ⟨fun o q => m.keep x o (nF k hk x z) q, ?_⟩) (fun _ => ⟨e, j⟩) (fun x z => ⟨h0 x z, (m.own x z).2⟩) (fun k hk x z y => ?_), by rw [List.length_set]; exact A.len⟩, ⟨m.st, fun k hk => if_neg hk, fun x z => by rw [if_pos rfl] at z; exact (m.own x z).1, m.keep, m.new⟩⟩
  · cases q : Hs' x with
    | none => rfl
    | some o =>
      obtain ⟨_, h1, h2⟩ := A.fr.own k x z
      rcases m.new x (by rw [q]; simp) with y | y | y
      · exact absurd h1 y
      · exact absurd y h2
      · exact absurd y (nF k hk x z)
  · rcases (m.own x z).1 with u | u
    · exact nF k hk x y u
    · exact (A.fr.own k x y).2.2 u
theorem Grw.trans' {Hs H Hs1 H1 Hs2 H2 : Hp} {G G' : List Addr} {Ha : Hp} {Hb : Hp} (g : Grw Hs H Hs1 H1) (hG : ∀ x ∈ G, H x = none ∧ Ha x = none ∧ Hb x ≠ none) (m : Mo G Hs1 H1 Hs2 H2 G') : Grw Hs H Hs2 H2 :=
  ⟨fun x o q => m.keep x o (fun z => by have := (hG x z).1; rw [q] at this; cases this) (g.all _ _ q), g.st.trans m.st, m.sub, fun x q => by
    rcases m.new x q with z | z | z
    · exact g.new x z
    · exact .inr (g.all.free z)
    · exact .inr (hG x z).1, fun x ps q => g.nt x ps (m.nt x ps q)⟩
section
variable {X : Cx} {E : XK} {i : Nat} {r r' : Rho} {e o : Expr} {es : List Expr} {pos apos px p : Pos} {d : PyData} {ds : List PyData} {k : Nat} {m qual x : Str} {st : Stmt} {ps : List Str} {C a : Addr} {O O' : Ob} {as : Rho} {P : Post}
/-- the object is an instance of C that has no attribute m of its own -/
def InsAt (O : Ob) (C : Addr) (m : Str) : Prop := ∀ Hs H a F, O.J Hs H a F → ∃ dx fs, H a = some (.ins C dx fs) ∧ fs.lookup m = none
/-- x.m(..), x the object at the slot i -/
theorem do_meth (i : Nat) {R : Ob → Rho → Ob → PyData → Prop} (c : Cls X.K C) (D : Mtd X.K C m qual st ps) (F : FnOk X.prog X.w X.K X.mg X.base CX0 k D.f D.fd ps (spO X.K R)) {k' : Nat} (hr : Room k' X.A) (hk : k ≤ k') (hI : InsAt O C m) (ha : DA X r (e :: es) as) (hR : R O as O' d) (ho : r[i]? = some (.obj a O) := by rfl)
    (hN : X.N[i]? = some x := by rfl) (hv : Vis X.env.scope x := by first | exact Or.inl rfl | exact Or.inr (Or.inl rfl) | exact Or.inr (Or.inr rfl)) (hd : (x == ("__debug__" : Str)) = false := by decide) (hcd : (x == ("__classdict__" : Str)) = false := by decide)
    (hst : starEach (e :: es) X.env = (false, eval e X.env) :: starEach es X.env := by rfl) (hpl : (backTo pos (starEach es X.env)).any (·.1) = false := by rfl)
    {pl : Sem Bool} (ht : eval (.Call (.Attribute (.Name x px) m apos) (e :: es) [] pos) X.env = (do
      let ov ← eval (.Name x px) X.env
      standAt apos.atName
      let (f, first) ← holding [ov] (getMethod ov m pl)
      callWith pos f first (backTo pos (starEach (e :: es) X.env)) (backToKw pos (keywordEach [] X.env))) := by rfl) : DOb X i r (.Call (.Attribute (.Name x px) m apos) (e :: es) [] pos) d (r.set i (.obj a O')) :=
  PE.wk (pe_meth (pe_var (i := i) hN hv hd hcd) c D.m F (hr.mono hk) D.b .nil pass0 ha hst hpl ht) fun _ _ σ H Q _ ⟨Hs0, H0, Hs, Fp, A, q⟩ => by
    obtain ⟨e1, hJ⟩ := A.fr.at_ i _ ho
    obtain ⟨dx, fs, h1, h2⟩ := hI Hs H a _ hJ
    refine ⟨_, e1, a, dx, fs, rfl, h1, h2, Hs0, H0, Hs, A.asn, fun vs Hs1 H1 g1 ha1 => ?_⟩
    have A1 := A.grow g1
    show spO X.K R (V.ref a :: (vs ++ [])) H1 Q E0
    rw [List.append_nil]
    refine ⟨Hs1, a, Fp i, vs, O, as, O', d, rfl, g1.sub, fun x z => (A1.fr.own i x z).2, O.chg g1.st (fun x _ o z => g1.all _ _ z) hJ, ha1, hR, fun v Hs' H' G' mo j hv => ?_⟩
    obtain ⟨A2, m2⟩ := A1.put e1 mo j
    exact q v Hs' H' _ ((Mv.grw g1).trans m2) A2 hv
/-- x.m() -/
theorem do_meth0 (i : Nat) {R : Ob → Rho → Ob → PyData → Prop} (c : Cls X.K C) (D : Mtd X.K C m qual st ps) (F : FnOk X.prog X.w X.K X.mg X.base CX0 k D.f D.fd ps (spO X.K R)) {k' : Nat} (hr : Room k' X.A) (hk : k ≤ k') (hI : InsAt O C m) (hR : R O [] O' d) (ho : r[i]? = some (.obj a O) := by rfl)
    (hN : X.N[i]? = some x := by rfl) (hv : Vis X.env.scope x := by first | exact Or.inl rfl | exact Or.inr (Or.inl rfl) | exact Or.inr (Or.inr rfl)) (hd : (x == ("__debug__" : Str)) = false := by decide) (hcd : (x == ("__classdict__" : Str)) = false := by decide)
    {pl : Sem Bool} (ht : eval (.Call (.Attribute (.Name x px) m apos) [] [] pos) X.env = (do
      let ov ← eval (.Name x px) X.env
      standAt apos.atName
      let (f, first) ← holding [ov] (getMethod ov m pl)
      callWith pos f first (backTo pos (starEach [] X.env)) (backToKw pos (keywordEach [] X.env))) := by rfl) : DOb X i r (.Call (.Attribute (.Name x px) m apos) [] [] pos) d (r.set i (.obj a O')) :=
  PE.wk (pe_meth0 (pe_var (i := i) hN hv hd hcd) c D.m F (hr.mono hk) D.b .nil pass0 ht) fun _ _ σ H Q _ ⟨Hs0, H0, Hs, Fp, A, q⟩ => by
    obtain ⟨e1, hJ⟩ := A.fr.at_ i _ ho
    obtain ⟨dx, fs, h1, h2⟩ := hI Hs H a _ hJ
    refine ⟨_, e1, a, dx, fs, rfl, h1, h2, ?_⟩
    refine ⟨Hs, a, Fp i, [], O, [], O', d, rfl, A.g.sub, fun x z => (A.fr.own i x z).2, hJ, .nil, hR, fun v Hs' H' G' mo j hv => ?_⟩
    obtain ⟨A2, m2⟩ := A.put e1 mo j
    exact q v Hs' H' _ m2 A2 hv
/-! ### new objects -/
def tRo (K : PySem.W.Frag) (r : Rho) (O : Ob) : TE := fun σ H Q => ∃ Hs0 H0 Hs, Asn K Hs0 H0 r σ Hs H ∧ ∀ a Hs' H' G, Grw Hs H Hs' H' → (∀ x ∈ G, H x = none ∧ Hs' x = none ∧ H' x ≠ none) → O.J Hs' H' a G → Q (.ref a) H'
def DRo (X : Cx) (r : Rho) (e : Expr) (O : Ob) : Prop := PE X e (tRo X.K r O)
/-- a new instance -/
def blankOb (C : Addr) : Ob where
  J := fun _ H a F => ∃ dx, a ∈ F ∧ dx ∈ F ∧ (∀ x ∈ F, x = a ∨ x = dx) ∧ H a = some (.ins C dx []) ∧ H dx = some (.own a)
  chg := fun _ k ⟨dx, h1, h2, h0, h3, h4⟩ => ⟨dx, h1, h2, h0, k _ h1 _ h3, k _ h2 _ h4⟩
theorem dro_make {R : Ob → Rho → Ob → PyData → Prop} (hg0 : X.mg x = some (.ref C)) (D : Mkd X.K C qual st ps) (F : FnOk X.prog X.w X.K X.mg X.base CX0 k D.f D.fd ps (spO X.K R)) {k' : Nat} (hr : Room k' X.A) (hk : k + 1 ≤ k') (ha : DA X r (e :: es) as) (hR : R (blankOb C) as O .none) (hg : Gl X x := by rfl)
    (hdb : (x == ("__debug__" : Str)) = false := by decide) (he : starEach (e :: es) X.env = (false, eval e X.env) :: starEach es X.env := by rfl) (hpl : (backTo pos (starEach es X.env)).any (·.1) = false := by rfl) : DRo X r (.Call (.Name x p) (e :: es) [] pos) O :=
  PE.wk (pe_make D.m F (hr.mono hk) hg hg0 D.b .nil pass0 ha hdb he hpl) fun _ _ σ H Q _ ⟨Hs0, H0, Hs, A, q⟩ => ⟨Hs0, H0, Hs, A, fun vs Hs1 H1 g1 ha1 y dx hy hdx ne => by
    rw [List.append_nil]
    have s1 : Same Hs1 (upd (upd H1 dx (.own y)) y (.ins C dx [])) := (g1.sub.trans (same_upd hdx)).trans (same_upd (by rw [upd_ne (Ne.symm ne)]; exact hy))
    have eA : (upd (upd H1 dx (.own y)) y (.ins C dx [])) y = some (.ins C dx []) := upd_same
    have eD : (upd (upd H1 dx (.own y)) y (.ins C dx [])) dx = some (.own y) := by rw [upd_ne ne, upd_same]
    refine ⟨Hs1, y, [y, dx], vs, blankOb C, as, O, .none, rfl, s1, fun x z => ?_, ⟨dx, by simp, by simp, fun x hx => by simpa using hx, eA, eD⟩, ha1, hR, fun v Hs' H' G' mo j hv => ⟨hv.inv_none, q y Hs' H' G' ⟨fun b u z => ?_, g1.st.trans mo.st, mo.sub, fun b z => ?_, fun b ps z => g1.nt b ps (mo.nt b ps z)⟩ (fun b z => ⟨?_, (mo.own b z).2⟩) j⟩⟩
    · rcases List.mem_cons.mp z with z | z
      · rw [z]; exact ⟨g1.sub.free hy, by rw [eA]; simp⟩
      · rw [List.mem_singleton.mp z]; exact ⟨g1.sub.free hdx, by rw [eD]; simp⟩
    · have z1 := g1.all _ _ z
      have n1 : b ≠ y := fun w => by rw [w, hy] at z1; cases z1
      have n2 : b ≠ dx := fun w => by rw [w, hdx] at z1; cases z1
      exact mo.keep b u (by simp [n1, n2]) (by rw [upd_ne n1, upd_ne n2]; exact z1)
    · have fr : ∀ c, H1 c = none → H c = none := fun c w => g1.all.free w
      rcases mo.new b z with w | w | w
      · exact g1.new b w
      · refine .inr (fr b ?_)
        by_cases n1 : b = y
        · rw [n1]; exact hy
        · by_cases n2 : b = dx
          · rw [n2]; exact hdx
          · rw [upd_ne n1, upd_ne n2] at w; exact w
      · rcases List.mem_cons.mp w with w | w
        · rw [w]; exact .inr (fr _ hy)
        · rw [List.mem_singleton.mp w]; exact .inr (fr _ hdx)
    · rcases (mo.own b z).1 with w | w
      · rcases List.mem_cons.mp w with w | w
        · rw [w]; exact g1.all.free hy
        · rw [List.mem_singleton.mp w]; exact g1.all.free hdx
      · by_cases n1 : b = y
        · rw [n1]; exact g1.all.free hy
        · by_cases n2 : b = dx
          · rw [n2]; exact g1.all.free hdx
          · rw [upd_ne n1, upd_ne n2] at w; exact g1.all.free w⟩
/-- x = C(..) -/
theorem ds_setObj (j : Nat) {y : Str} {pos' : Pos} (hN : X.N.Nodup) (he : DRo X r e O) (hp : ∀ a, P.nx (r.set j (.obj a O))) (hi : X.N[j]? = some y := by rfl) (hx : Loc X.env.scope y := by first | exact Or.inl rfl | exact Or.inr rfl)
    (hs : swapsWith e (some (.Name y pos')) pos.line X.env = pure false := by rfl) (hf : X.fn y = true ∨ X.env.scope.names.lookup y = some .local := by first | exact .inl rfl | exact .inr rfl | assumption) : DS X E r (.Assign [.Name y pos'] e pos) P :=
  PS.wk (ps_set (i := j) hN hi hx he hs hf) fun _ _ D σ H _ ⟨Hs0, H0, Hs, A, w⟩ => ⟨Hs0, H0, Hs, A, fun a Hs' H' G g hG h => w.nx _ _ Hs' H' (hp a) (A.setG g G hG ⟨rfl, h⟩) g.st⟩
/-- C(..).m(..): the object is forgotten behind it -/
theorem de_methT {R : Ob → Rho → Ob → PyData → Prop} (c : Cls X.K C) (D : Mtd X.K C m qual st ps) (F : FnOk X.prog X.w X.K X.mg X.base CX0 k D.f D.fd ps (spO X.K R)) {k' : Nat} (hr : Room k' X.A) (hk : k ≤ k') (hI : InsAt O C m) (h0 : DRo X r o O) (ha : DA X r (e :: es) as) (hR : R O as O' d)
    (hst : starEach (e :: es) X.env = (false, eval e X.env) :: starEach es X.env := by rfl) (hpl : (backTo pos (starEach es X.env)).any (·.1) = false := by rfl)
    {pl : Sem Bool} (ht : eval (.Call (.Attribute o m apos) (e :: es) [] pos) X.env = (do
      let ov ← eval o X.env
      standAt apos.atName
      let (f, first) ← holding [ov] (getMethod ov m pl)
      callWith pos f first (backTo pos (starEach (e :: es) X.env)) (backToKw pos (keywordEach [] X.env))) := by rfl) : DE X r (.Call (.Attribute o m apos) (e :: es) [] pos) d :=
  PE.wk (pe_meth h0 c D.m F (hr.mono hk) D.b .nil pass0 ha hst hpl ht) fun _ _ σ H Q _ ⟨Hs0, H0, Hs, A, q⟩ => ⟨Hs0, H0, Hs, A, fun a Hs1 H1 G g1 hG hJ => by
    obtain ⟨dx, fs, h1, h2⟩ := hI Hs1 H1 a G hJ
    refine ⟨a, dx, fs, rfl, h1, h2, Hs0, H0, Hs1, A.grow g1, fun vs Hs2 H2 g2 ha2 => ?_⟩
    show spO X.K R (V.ref a :: (vs ++ [])) H2 Q E0
    rw [List.append_nil]
    have nG : ∀ x ∈ G, Hs2 x = none ∧ H2 x ≠ none := fun x z => by
      obtain ⟨_, k1, k2⟩ := hG x z
      cases w : H1 x with
      | none => exact absurd w k2
      | some u => exact ⟨g2.stay k1 w, by rw [g2.all _ _ w]; simp⟩
    refine ⟨Hs2, a, G, vs, O, as, O', d, rfl, g2.sub, nG, O.chg g2.st (fun x _ u z => g2.all _ _ z) hJ, ha2, hR, fun v Hs' H' G' mo _ hv => ?_⟩
    refine q v Hs' H' ((g1.trans g2).trans' hG mo) hv⟩
end
end Dl

namespace Dl
open PySem L2 PySem.W PyProof.Rows PySem.Spec
/-! ## fields -/
/-- an instance whose attributes are data -/
def recOb (C : Addr) (fs : List (Str × PyData)) : Ob where
  J := fun Hs H a F => ∃ dx vs, a ∈ F ∧ dx ∈ F ∧ (∀ x ∈ F, x = a ∨ x = dx) ∧ H a = some (.ins C dx vs) ∧ H dx = some (.own a) ∧ DFS Hs vs fs
  chg := fun e k ⟨dx, vs, h1, h2, h3, h4, h5, h6⟩ => ⟨dx, vs, h1, h2, h3, k _ h1 _ h4, k _ h2 _ h5, h6.mono e⟩
  calm := true
  cm := fun _ Hs H a F ⟨dx, vs, h1, h2, h3, h4, h5, h6⟩ x hx => by
    rcases h3 x hx with z | z
    · rw [z]; exact ⟨_, h4, fun _ w => (by cases w), fun _ w => (by cases w)⟩
    · rw [z]; exact ⟨_, h5, fun _ w => (by cases w), fun _ w => (by cases w)⟩
theorem blank_rec {C : Addr} {Hs H : Hp} {a dx : Addr} (h1 : H a = some (.ins C dx [])) (h2 : H dx = some (.own a)) : (recOb C []).J Hs H a [a, dx] := ⟨dx, [], by simp, by simp, fun x hx => by simpa using hx, h1, h2, .nil⟩
theorem blank_imp {C : Addr} {Hs H : Hp} {a : Addr} {F : List Addr} : (blankOb C).J Hs H a F → (recOb C []).J Hs H a F := fun ⟨dx, h1, h2, h0, h3, h4⟩ => ⟨dx, [], h1, h2, h0, h3, h4, .nil⟩
def fput (f : Str) (d : PyData) : List (Str × PyData) → List (Str × PyData)
  | [] => [(f, d)]
  | (g, x) :: r => if g = f then (g, d) :: r else (g, x) :: fput f d r
theorem dfs_put {Hs : Hp} {f : Str} {v : V} {d : PyData} (h : Dat Hs v d) : ∀ {vs : List (Str × V)} {fs : List (Str × PyData)}, DFS Hs vs fs → DFS Hs (putF f v vs) (fput f d fs)
  | _, _, .nil => .cons ⟨rfl, h⟩ .nil
  | (g, x) :: vs, (g', y) :: fs, .cons ⟨e, q⟩ t => by
    have e : g = g' := e
    subst e
    unfold putF fput
    split
    · exact .cons ⟨rfl, h⟩ t
    · exact .cons ⟨rfl, q⟩ (dfs_put h t)
theorem dfs_get {Hs : Hp} {f : Str} {d : PyData} : ∀ {vs : List (Str × V)} {fs : List (Str × PyData)}, DFS Hs vs fs → fs.lookup f = some d → ∃ v, vs.lookup f = some v ∧ Dat Hs v d
  | _, _, .nil, h => by cases h
  | (g, x) :: vs, (g', y) :: fs, .cons ⟨e, q⟩ t, h => by
    have e : g = g' := e
    subst e
    rw [List.lookup_cons] at h ⊢
    cases z : f == g with
    | true => rw [z] at h; cases h; exact ⟨x, rfl, q⟩
    | false => rw [z] at h; exact dfs_get t h
theorem dfs_none {Hs : Hp} {f : Str} : ∀ {vs : List (Str × V)} {fs : List (Str × PyData)}, DFS Hs vs fs → fs.lookup f = none → vs.lookup f = none
  | _, _, .nil, _ => rfl
  | (g, x) :: vs, (g', y) :: fs, .cons ⟨e, q⟩ t, h => by
    have e : g = g' := e
    subst e
    rw [List.lookup_cons] at h ⊢
    cases z : f == g with
    | true => rw [z] at h; cases h
    | false => rw [z] at h; exact dfs_none t h
theorem dfs_len {Hs : Hp} {vs : List (Str × V)} {fs : List (Str × PyData)} (h : DFS Hs vs fs) : vs.length = fs.length := Paired.length h
/-- the field f is the data d -/
def FldAt (O : Ob) (C : Addr) (f : Str) (d : PyData) : Prop := ∀ Hs H a F, O.J Hs H a F → ∃ dx vs v, H a = some (.ins C dx vs) ∧ vs.lookup f = some v ∧ Dat Hs v d
theorem fld_rec {C : Addr} {fs : List (Str × PyData)} {f : Str} {d : PyData} (h : fs.lookup f = some d) : FldAt (recOb C fs) C f d := fun Hs H a F ⟨dx, vs, _, _, _, h4, _, h6⟩ => by
  obtain ⟨v, e, q⟩ := dfs_get h6 h
  exact ⟨dx, vs, v, h4, e, q⟩
theorem ins_rec {C : Addr} {fs : List (Str × PyData)} {m : Str} (h : fs.lookup m = none) : InsAt (recOb C fs) C m := fun Hs H a F ⟨dx, vs, _, _, _, h4, _, h6⟩ => ⟨dx, vs, h4, dfs_none h6 h⟩
/-- the field f is stored -/
def WrAt (O : Ob) (C : Addr) (f : Str) (d : PyData) (O' : Ob) : Prop := ∀ Hs H a F, O.J Hs H a F → a ∈ F ∧ ∃ dx vs, H a = some (.ins C dx vs) ∧ vs.length < 1000 ∧ ∀ Hs' H' v, Same Hs Hs' → (∀ x ∈ F, ∀ o, H x = some o → H' x = some o) → Dat Hs' v d → O'.J Hs' (upd H' a (.ins C dx (putF f v vs))) a F
theorem wr_rec {C : Addr} {fs : List (Str × PyData)} {f : Str} {d : PyData} (hl : fs.length < 1000) : WrAt (recOb C fs) C f d (recOb C (fput f d fs)) := fun Hs H a F ⟨dx, vs, h1, h2, h3, h4, h5, h6⟩ => ⟨h1, dx, vs, h4, by rw [dfs_len h6]; exact hl, fun Hs' H' v e k hv => by
  have ne : dx ≠ a := fun z => by rw [z, h4] at h5; cases h5
  exact ⟨dx, _, h1, h2, h3, upd_same, by rw [upd_ne ne]; exact k _ h2 _ h5, dfs_put hv (h6.mono e)⟩⟩
section
variable {X : Cx} {E : XK} {i : Nat} {r r' : Rho} {e b : Expr} {pos apos px p ps : Pos} {d : PyData} {ds : List PyData} {x f : Str} {C a : Addr} {O O' : Ob} {P : Post} {sts : List Stmt}
/-- x.f -/
theorem de_fld (i : Nat) (c : Cls X.K C) (n : NoAttr X.K C f) (hF : FldAt O C f d) (ho : r[i]? = some (.obj a O) := by rfl) (hN : X.N[i]? = some x := by rfl) (hv : Vis X.env.scope x := by first | exact Or.inl rfl | exact Or.inr (Or.inl rfl) | exact Or.inr (Or.inr rfl))
    (hd : (x == ("__debug__" : Str)) = false := by decide) (hcd : (x == ("__classdict__" : Str)) = false := by decide) (hb : attributeBase (.Name x px) f X.env (eval (.Name x px) X.env) = eval (.Name x px) X.env := by rfl) : DE X r (.Attribute (.Name x px) f pos) d :=
  PE.wk (pe_fld (pe_var (i := i) hN hv hd hcd) hb) fun _ _ σ H Q _ ⟨Hs0, H0, Hs, A, q⟩ => by
    obtain ⟨F, e1, _, hJ⟩ := A.at_ i _ ho
    obtain ⟨dx, vs, v, h1, h2, h3⟩ := hF Hs H a F hJ
    exact ⟨_, e1, a, C, dx, vs, v, rfl, h1, c, n, h2, q v Hs H (Grw.refl A.g.sub) h3⟩
theorem Asn.objPut {K : PySem.W.Frag} {Hs0 H0 : Hp} {σ : L2.St} {Hs H Hs' H' : Hp} (A : Asn K Hs0 H0 r σ Hs H) (ho : r[i]? = some (.obj a O)) (hq : ∀ F, O.J Hs H a F → (∀ x ∈ F, H0 x = none ∧ Hs x = none ∧ H x ≠ none) → ∃ G', Mo F Hs H Hs' H' G' ∧ O'.J Hs' H' a G') : Asn K Hs0 H0 (r.set i (.obj a O')) σ Hs' H' := by
  obtain ⟨F, A⟩ := A.ex
  obtain ⟨e1, hJ⟩ := A.fr.at_ i _ ho
  obtain ⟨G', m, j⟩ := hq (F i) hJ (A.fr.own i)
  exact (A.put e1 m j).1.asn
/-- x.f = e -/
theorem ds_setFld (i : Nat) (c : Cls X.K C) (n : NoAttr X.K C f) (he : DE X r e d) (hW : WrAt O C f d O') (hp : P.nx (r.set i (.obj a O'))) (ho : r[i]? = some (.obj a O) := by rfl) (hN : X.N[i]? = some x := by rfl) (hv : Vis X.env.scope x := by first | exact Or.inl rfl | exact Or.inr (Or.inl rfl) | exact Or.inr (Or.inr rfl))
    (hd : (x == ("__debug__" : Str)) = false := by decide) (hcd : (x == ("__classdict__" : Str)) = false := by decide) (hs : swapsWith e (some (.Attribute (.Name x px) f apos)) pos.line X.env = pure false := by rfl) : DS X E r (.Assign [.Attribute (.Name x px) f apos] e pos) P :=
  PS.wk (ps_fld (pe_var (i := i) hN hv hd hcd) he hs) fun _ _ D σ H _ ⟨Hs0, H0, Hs, A, w⟩ => ⟨Hs0, H0, Hs, A, fun v Hs1 H1 g1 hv1 => by
    have A1 := A.grow g1
    obtain ⟨F, e1, _, hJ⟩ := A1.at_ i _ ho
    obtain ⟨_, dx, vs, h1, h2, _⟩ := hW Hs1 H1 a F hJ
    refine ⟨_, e1, a, C, dx, vs, rfl, h1, c, n, h2, w.nx _ _ Hs1 _ hp (A1.objPut ho fun F' hJ' hown => ?_) g1.st⟩
    obtain ⟨ma, dx', vs', h1', _, h3'⟩ := hW Hs1 H1 a F' hJ'
    rw [h1] at h1'
    cases h1'
    refine ⟨F', ⟨Same.refl _, same_mut A1.g.sub (hown a ma).2.1, fun x o z q => ?_, fun x q => .inl q, fun _ _ q => q, fun x z => ⟨.inl z, (hown x z).2.1, ?_⟩⟩, h3' Hs1 H1 v (Same.refl _) (fun _ _ _ q => q) hv1⟩
    · rw [upd_ne (show x ≠ a from fun w => z (by rw [w]; exact ma))]; exact q
    · by_cases w : x = a
      · rw [w, upd_same]; simp
      · rw [upd_ne w]; exact (hown x z).2.2⟩
/-- what is known of the object is told by less -/
theorem dss_impO (i : Nat) (ho : r[i]? = some (.obj a O)) (h : ∀ Hs H F, O.J Hs H a F → O'.J Hs H a F) (h' : DSs X E (r.set i (.obj a O')) sts P) : DSs X E r sts P := PSs.wk h' fun D σ H ⟨Hs0, H0, Hs, A, w⟩ =>
  ⟨Hs0, H0, Hs, A.objPut ho fun F hJ hown => ⟨F, ⟨Same.refl _, A.g.sub, fun _ _ _ q => q, fun _ q => .inl q, fun _ _ q => q, fun x z => ⟨.inl z, (hown x z).2⟩⟩, h _ _ _ hJ⟩, w⟩
/-- the object is one of several -/
theorem dss_casesO {ι : Type} (i : Nat) {O' : ι → Ob} (ho : r[i]? = some (.obj a O)) (h : ∀ Hs H F, O.J Hs H a F → ∃ z, (O' z).J Hs H a F) (h' : ∀ z, DSs X E (r.set i (.obj a (O' z))) sts P) : DSs X E r sts P := by
  have hh : PSs X sts (fun D σ H => ∃ z, tDS X.K E (r.set i (.obj a (O' z))) P D σ H) := ⟨fun pins s σ H D I ⟨z, q⟩ => (h' z).run pins s σ H D I q⟩
  refine PSs.wk hh fun D σ H ⟨Hs0, H0, Hs, A, w⟩ => ?_
  obtain ⟨F, A⟩ := A.ex
  obtain ⟨e1, hJ⟩ := A.fr.at_ i _ ho
  obtain ⟨z, hz⟩ := h _ _ _ hJ
  exact ⟨z, Hs0, H0, Hs, (A.put e1 ⟨Same.refl _, A.g.sub, fun _ _ _ q => q, fun _ q => .inl q, fun _ _ q => q, fun x y => ⟨.inl y, (A.fr.own i x y).2⟩⟩ hz).1.asn, w⟩
theorem DOb.imp (h : DOb X i r e d r') (ho : r'[i]? = some (.obj a O)) (hi : ∀ Hs H F, O.J Hs H a F → O'.J Hs H a F) : DOb X i r e d (r'.set i (.obj a O')) := PE.wk h fun _ _ σ H Q _ ⟨Hs0, H0, Hs, F, A, q⟩ => ⟨Hs0, H0, Hs, F, A, fun v Hs' H' F' m A' hv => by
  obtain ⟨e1, hJ⟩ := A'.fr.at_ i _ ho
  obtain ⟨A2, m2⟩ := A'.put e1 ⟨Same.refl _, A'.g.sub, fun _ _ _ q => q, fun _ q => .inl q, fun _ _ q => q, fun x y => ⟨.inl y, (A'.fr.own i x y).2⟩⟩ (hi _ _ _ hJ)
  exact q v Hs' H' _ (m.trans m2) A2 hv⟩
end
/-! ## comprehensions whose turns may change the object -/
theorem AsnF.setV {K : PySem.W.Frag} {Hs0 H0 : Hp} {r : Rho} {σ : L2.St} {Hs H : Hp} {F : Nat → List Addr} {k : Nat} {v : V} {d : PyData} (A : AsnF K Hs0 H0 r σ Hs H F) (h : Dat Hs v d) : AsnF K Hs0 H0 (r.set k (.val d)) (σ.set k (some v)) Hs H (fun j => if j = k then [] else F j) :=
  ⟨A.g, A.fr.put k (.val d) [] set_other (Same.refl Hs) (A.fr.stay k) (fun w => ⟨v, set_at (by rw [← A.len]; exact w), h⟩) (fun x m => by cases m) (fun j _ x m => by cases m), by rw [List.length_set, List.length_set, A.len]⟩
theorem AsnF.wipe {K : PySem.W.Frag} {Hs0 H0 : Hp} {r : Rho} {σ : L2.St} {Hs H : Hp} {F : Nat → List Addr} (A : AsnF K Hs0 H0 r σ Hs H F) (vs : List Nat) : AsnF K Hs0 H0 (wipeR r vs) (L2.wipe σ vs) Hs H F :=
  ⟨A.g, ⟨fun j s e => by
    rcases wipeR_at e with q | ⟨q1, q2⟩
    · subst q; trivial
    · rw [wipe_out q2]; exact A.fr.at_ j s q1, A.fr.own, A.fr.dist, fun j s e ht => by
    rcases wipeR_at e with q | ⟨q1, q2⟩
    · rw [q] at ht; cases ht
    · exact A.fr.tb j s q1 ht⟩, by rw [wipeR_length, L2.wipe_length, A.len]⟩
/-- behind a turn: the slots as they were, the object changed -/
theorem AsnF.back {K : PySem.W.Frag} {Hs0 H0 : Hp} {r : Rho} {σ : L2.St} {Hs H Hs' H' : Hp} {F : Nat → List Addr} {i : Nat} {G : List Addr} {s : Slot} (A : AsnF K Hs0 H0 r σ Hs H F) (hr : r[i]? = some s) (m : Mo (F i) Hs H Hs' H' G) (hi : SlotF K Hs' H' s (σ[i]?) G) (hT : tabS s = false := by rfl) :
    AsnF K Hs0 H0 r σ Hs' H' (fun k => if k = i then G else F k) ∧ Mv i F Hs H Hs' H' (fun k => if k = i then G else F k) := by
  have nF : ∀ k, k ≠ i → ∀ x ∈ F k, x ∉ F i := fun k hk x h1 h2 => hk (A.fr.dist k i x h1 h2)
  have kp : ∀ x o, H0 x = some o → x ∉ F i := fun x o q z => by have := (A.fr.own i x z).1; rw [q] at this; cases this
  have er : r.set i s = r := List.ext_getElem? fun j => by
    rw [List.getElem?_set]
    by_cases z : i = j
    · subst z
      rw [if_pos rfl, hr, if_pos (List.getElem?_eq_some_iff.mp hr).1]
    · rw [if_neg z]
  have f := A.fr.put (σ' := σ) (Hs' := Hs') (H' := H') i s G (fun _ _ => rfl) m.st (fun k hk x z => ⟨fun o q => m.keep x o (nF k hk x z) q, by
    cases q : Hs' x with
    | none => rfl
    | some o =>
      obtain ⟨_, h1, h2⟩ := A.fr.own k x z
      rcases m.new x (by rw [q]; simp) with y | y | y
      · exact absurd h1 y
      · exact absurd y h2
      · exact absurd y (nF k hk x z)⟩) (fun _ => hi) (fun x z => ⟨by
      rcases (m.own x z).1 with y | y
      · exact (A.fr.own i x y).1
      · exact A.g.all.free y, (m.own x z).2⟩) (fun k hk x z y => by
      rcases (m.own x z).1 with u | u
      · exact nF k hk x y u
      · exact (A.fr.own k x y).2.2 u) hT
  rw [er] at f
  refine ⟨⟨⟨fun x o q => m.keep x o (kp x o q) (A.g.all _ _ q), A.g.st.trans m.st, m.sub, fun x q => ?_, fun x ps q => A.g.nt x ps (m.nt x ps q)⟩, f, A.len⟩, ⟨m.st, fun k hk => if_neg hk, fun x z => by rw [if_pos rfl] at z; exact (m.own x z).1, m.keep, m.new⟩⟩
  rcases m.new x q with z | z | z
  · exact A.g.new x z
  · exact .inr (A.g.all.free z)
  · exact .inr (A.fr.own i x z).1
def iDo (K : PySem.W.Frag) (i : Nat) (r : Rho) (ds : List PyData) : TI := fun σ H R => ∃ Hs0 H0 Hs F, AsnF K Hs0 H0 r σ Hs H F ∧ ∀ J Hs' H' F', Mv i F Hs H Hs' H' F' → AsnF K Hs0 H0 r σ Hs' H' F' → ItOk Hs' J ds → ds.length ≤ sizeLine → R J H'
def DIo (X : Cx) (i : Nat) (r : Rho) (tg iter : Expr) (ds : List PyData) : Prop := PI X tg iter (iDo X.K i r ds)
def DTso (X : Cx) (i : Nat) (r : Rho) (ifs : List Expr) (b : Bool) : Prop := PTs X ifs (tDTo X.K i r b r)
section
variable {X : Cx} {i : Nat} {r : Rho} {tg iter c : Expr} {ds : List PyData}
theorem DI.o (h : DI X r tg iter ds) : DIo X i r tg iter ds := PI.wk h fun σ H R ⟨Hs0, H0, Hs, F, A, q⟩ => ⟨Hs0, H0, Hs, A.asn, fun J Hs' H' g ok hz _ => q J Hs' H' F (Mv.grw g) (A.grow g) ok hz⟩
theorem dio_list (h : DOb X i r iter (.list ds) r) : DIo X i r tg iter ds := PI.wk (pi_list h) fun σ H R ⟨Hs0, H0, Hs, F, A, q⟩ => ⟨Hs0, H0, Hs, F, A, fun v Hs' H' F' m A' hv => by
    obtain ⟨a, xs, rfl, ha, hx⟩ := hv.inv_list
    exact ⟨a, rfl, ⟨xs, SqL.of (A'.g.sub _ _ ha)⟩, fun ⟨_, _, I⟩ => q _ Hs' H' F' m A' (itl_ok ha hx) (by rw [← hx.length]; exact lst_size I (A'.g.sub _ _ ha))⟩⟩
theorem dtso_nil : DTso X i r [] true := ⟨fun pins s σ H Q I ⟨Hs0, H0, Hs, F, A, q⟩ => pts_nil.run pins s σ H Q I (q Hs H F (Mv.grw (Grw.refl A.g.sub)) A)⟩
theorem dtso_one {b : Bool} (h : DTo X i r c b r) : DTso X i r [c] b := pts_one h
/-- [elt for name in iter if ..] -/
theorem dno_lc {α : Type} {xs : List α} {rep : α → PyData} {q : α → Bool} {g : α → PyData} {elt iter : Expr} {ifs : List Expr} {scope : Scope} {pos tpos : Pos} {name : Str} {a : Addr} {O : Ob} (k : Nat) (own : List (Str × Nat)) (how : own.map (·.2) = [k]) (hki : k ≠ i) (ho : r[i]? = some (.obj a O)) (hc : X.calm = true) (hN : X.N.Nodup) (hi0 : X.N[k]? = some name) (ok : BlkOk X.N X.env.scope scope own)
    (hloc : ∀ s H C cl fp, Loc (Blk X scope s H C cl fp).env.scope name ∧ ((Blk X scope s H C cl fp).fn name = true ∨ (Blk X scope s H C cl fp).env.scope.names.lookup name = some .local))
    (hi : DIo X i r (.Name name tpos) iter (xs.map rep)) (htst : ∀ x ∈ xs, ∀ s H C cl fp, DTso (Blk X scope s H C cl fp) i ((wipeR r [k]).set k (.val (rep x))) ifs (q x)) (helt : ∀ x ∈ xs, q x = true → ∀ s H C cl fp, DOb (Blk X scope s H C cl fp) i ((wipeR r [k]).set k (.val (rep x))) elt (g x) ((wipeR r [k]).set k (.val (rep x))))
    (hs : ∀ x, foldedSetIterable iter X.env x = pure x := by intro _; rfl) : DNo X i r (.ListComp elt [⟨.Name name tpos, iter, ifs, 0⟩] scope pos) ((xs.filter q).map g) r := by
  have wi : ∀ d : PyData, ((wipeR r [k]).set k (.val d))[i]? = some (.obj a O) := fun d => by
    rw [List.getElem?_set_ne hki]
    show ((wipeR r []).set k .un)[i]? = _
    rw [List.getElem?_set_ne hki]
    exact ho
  refine PE.wk (pe_lc (own := own) (g := gName k)
    (tt := fun σ H Q => ∃ x, x ∈ xs ∧ tDTo X.K i ((wipeR r [k]).set k (.val (rep x))) (q x) ((wipeR r [k]).set k (.val (rep x))) σ H Q)
    (te := fun σ H Q => ∃ x, x ∈ xs ∧ q x = true ∧ tDo X.K i ((wipeR r [k]).set k (.val (rep x))) (g x) ((wipeR r [k]).set k (.val (rep x))) σ H Q)
    hc hN hi ok (fun s H C cl fp => pg_name (i := k) hN hi0 (hloc s H C cl fp).1 (hloc s H C cl fp).2)
    (fun s H C cl fp => ⟨fun pins s' σ H' Q I ⟨x, hx, z⟩ => (htst x hx s H C cl fp).run pins s' σ H' Q I z⟩) (fun s H C cl fp => ⟨fun pins s' σ H' Q I ⟨x, hx, hq, z⟩ => (helt x hx hq s H C cl fp).run pins s' σ H' Q I z⟩) hs) fun _ _ σ H Q _ ⟨Hs0, H0, Hs, F, A, h⟩ => ?_
  rw [how]
  refine ⟨Hs0, H0, Hs, F, A, fun J Hs' H' F' m0 A' ok' hz D hD => ?_⟩
  rw [List.length_map] at hz
  have nD : ∀ j, D ∉ F' j := fun j z => (A'.fr.own j D z).2.2 hD
  have hl : (xs.map rep).length = xs.length := List.length_map ..
  refine ⟨fun n m H1 => n + m = xs.length ∧ ∃ Hs1 F1 vs, Mv i F' Hs' H' Hs1 H1 F1 ∧ AsnF X.K Hs0 H0 r σ Hs1 H1 F1 ∧ H1 D = some (.lst vs) ∧ Hs1 D = none ∧ (∀ j, D ∉ F1 j) ∧ Dats Hs1 vs (((xs.take n).filter q).map g), ⟨xs.length, by omega, Hs', F', [], Mv.grw (Grw.laidO A'.g.sub hD), A'.grow (Grw.laidO A'.g.sub hD), upd_same, A'.g.sub.free hD, nD, .nil⟩, fun n m H1 ⟨em, Hs1, F1, vs, m1, A1, h1, h2, h3, h4⟩ => ?_⟩
  obtain ⟨o1, o2⟩ := ok' n Hs1 H1 m1.st A1.g.sub
  by_cases hn : n < xs.length
  · have e0 : (xs.map rep)[n]? = some (rep xs[n]) := by rw [List.getElem?_map, List.getElem?_eq_getElem hn]; rfl
    refine .inr ⟨(o1 _ e0).1, fun H2 => ∃ Hs1 F1 vs, Mv i F' Hs' H' Hs1 H2 F1 ∧ AsnF X.K Hs0 H0 r σ Hs1 H2 F1 ∧ H2 D = some (.lst vs) ∧ Hs1 D = none ∧ (∀ j, D ∉ F1 j) ∧ Dats Hs1 vs (((xs.take (n + 1)).filter q).map g), fun H2 ⟨Hs2, F2, vs2, a1, a2, a3, a4, a5, a6⟩ => ⟨m - 1, by omega, by omega, Hs2, F2, vs2, a1, a2, a3, a4, a5, a6⟩, fun v H2 hy => ?_⟩
    obtain ⟨Hs2, g2, hv⟩ := (o1 _ e0).2 v H2 hy
    have A2 := A1.grow g2
    have B2 := (A2.wipe [k]).setV (k := k) hv
    have D2 : H2 D = some (.lst vs) := g2.all _ _ h1
    have n2 : Hs2 D = none := g2.stay h2 h1
    have bk : ∀ {Hs4 H4 : Hp} {F4 : Nat → List Addr}, Mv i (fun j => if j = k then [] else F1 j) Hs2 H2 Hs4 H4 F4 → AsnF X.K Hs0 H0 ((wipeR r [k]).set k (.val (rep xs[n]))) ((L2.wipe σ [k]).set k (some v)) Hs4 H4 F4 → (AsnF X.K Hs0 H0 r σ Hs4 H4 (fun j => if j = i then F4 i else F1 j) ∧ Mv i F1 Hs2 H2 Hs4 H4 (fun j => if j = i then F4 i else F1 j)) ∧ H4 D = some (.lst vs) ∧ Hs4 D = none ∧ D ∉ F4 i := fun {Hs4 H4 F4} m4 A4 => by
      have ei : (if i = k then [] else F1 i) = F1 i := if_neg (Ne.symm hki)
      obtain ⟨e4, j4⟩ := A4.fr.at_ i _ (wi _)
      have eσ : σ[i]? = some (some (.ref a)) := by
        rw [List.getElem?_set_ne hki] at e4
        have : (L2.wipe σ [k])[i]? = σ[i]? := wipe_out (by simp; exact Ne.symm hki)
        rw [← this]; exact e4
      have mo : Mo (F1 i) Hs2 H2 Hs4 H4 (F4 i) := ⟨m4.st, A4.g.sub, fun x o z => m4.keep x o (by rw [ei]; exact z), fun x z => by have := m4.new x z; rw [ei] at this; exact this, fun x ps z => ?_, fun x z => ⟨by have := m4.own x z; rw [ei] at this; exact this, (A4.fr.own i x z).2⟩⟩
      · refine ⟨A2.back (s := .obj a O) ho mo ⟨eσ, j4⟩, m4.keep D _ (by rw [ei]; exact h3 i) D2, ?_, fun z => ?_⟩
        · cases w : Hs4 D with
          | none => rfl
          | some o =>
            rcases m4.new D (by rw [w]; simp) with y | y | y
            · exact absurd n2 y
            · rw [D2] at y; cases y
            · rw [ei] at y; exact absurd y (h3 i)
        · rcases m4.own D z with y | y
          · rw [ei] at y; exact h3 i y
          · rw [D2] at y; cases y
      · have y := A4.g.nt x ps z
        exact A2.g.st _ _ y
    have hf := filter_take_succ q xs (List.getElem?_eq_getElem hn)
    refine ⟨?_, xs[n], List.getElem_mem hn, Hs0, H0, Hs2, _, B2, fun Hs4 H4 F4 m4 A4 => ?_⟩
    · rw [wipe_eq (σ := L2.wipe σ [k]) (List.length_set ..) fun j hj => List.getElem?_set_ne (fun z => hj (by rw [z]; exact List.mem_singleton.mpr rfl)), wipe_idem]
    · refine ite2 (fun hb => ?_) (fun hb => ?_)
      · refine ⟨xs[n], List.getElem_mem hn, hb, Hs0, H0, Hs4, F4, A4, fun y Hs5 H5 F5 m5 A5 hy5 => ?_⟩
        obtain ⟨⟨C5, M5⟩, d5, s5, f5⟩ := bk (m4.trans m5) A5
        have h0 : H0 D = none := A'.g.all.free hD
        have nF5 : ∀ j, D ∉ (if j = i then F5 i else F1 j) := fun j => by
          by_cases z : j = i
          · rw [if_pos z]; exact f5
          · rw [if_neg z]; exact h3 j
        refine ⟨vs, d5, ?_, Hs5, _, vs ++ [y], ?_, ?_, upd_same, s5, nF5, ?_⟩
        · rw [h4.length, List.length_map]
          refine Nat.lt_of_le_of_lt (List.length_filter_le _ _) ?_
          rw [List.length_take]
          omega
        · have M := (m1.trans (Mv.grw g2)).trans M5
          refine ⟨M.st, M.oth, M.own, fun x o z w => ?_, M.new⟩
          rw [upd_ne (fun u => by rw [u, hD] at w; cases w)]
          exact M.keep x o z w
        · refine ⟨C5.g.mut h0 s5, ⟨fun j s z => (C5.fr.at_ j s z).chg (Same.refl _) fun x hx o w => ?_, fun j x hx => ?_, C5.fr.dist, C5.fr.tb⟩, C5.len⟩
          · rw [upd_ne (show x ≠ D from fun u => nF5 j (by rw [← u]; exact hx))]; exact w
          · obtain ⟨b0, b1, b2⟩ := C5.fr.own j x hx
            exact ⟨b0, b1, by rw [upd_ne (show x ≠ D from fun u => nF5 j (by rw [← u]; exact hx))]; exact b2⟩
        · rw [hf, if_pos hb, List.map_append]
          exact (h4.mono ((g2.st.trans m4.st).trans m5.st)).snoc hy5
      · obtain ⟨⟨C4, M4⟩, d4, s4, f4⟩ := bk m4 A4
        refine ⟨Hs4, _, vs, (m1.trans (Mv.grw g2)).trans M4, C4, d4, s4, fun j => ?_, ?_⟩
        · by_cases z : j = i
          · show D ∉ (if j = i then F4 i else F1 j)
            rw [if_pos z]; exact f4
          · show D ∉ (if j = i then F4 i else F1 j)
            rw [if_neg z]; exact h3 j
        · rw [hf, if_neg hb, List.append_nil]
          exact h4.mono (g2.st.trans m4.st)
  · have e : n = xs.length := by omega
    subst e
    refine .inl ⟨o2 hl, ?_⟩
    rw [List.take_length] at h4
    refine h D vs Hs1 H1 F1 (m0.trans m1) A1 ?_ h2 h3 h1 h4
    cases w : H D with
    | none => exact .inl rfl
    | some o =>
      by_cases z : D ∈ F i
      · exact .inr z
      · rw [m0.keep D o z w] at hD; cases hD
end
end Dl

namespace Dl
open PySem L2 PySem.W PyProof.Rows PySem.Spec
/-! ## len(set(..)) of rows -/
def ddp : List (List Nat) → List (List Nat)
  | [] => []
  | x :: xs => if x ∈ ddp xs then ddp xs else x :: ddp xs
theorem mem_ddp : ∀ {xs : List (List Nat)} {x : List Nat}, x ∈ ddp xs ↔ x ∈ xs
  | [], x => Iff.rfl
  | y :: xs, x => by
    unfold ddp
    split
    · next h => rw [mem_ddp, List.mem_cons]; exact ⟨.inr, fun z => z.elim (fun e => by rw [e]; exact mem_ddp.mp h) id⟩
    · rw [List.mem_cons, List.mem_cons, mem_ddp]
theorem ddp_nd : ∀ xs : List (List Nat), (ddp xs).Nodup
  | [] => List.Pairwise.nil
  | y :: xs => by
    unfold ddp
    split
    · exact ddp_nd xs
    · next h => exact List.nodup_cons.mpr ⟨h, ddp_nd xs⟩
theorem nd_len {α : Type} [DecidableEq α] {l m : List α} (hl : l.Nodup) (h : ∀ x ∈ l, x ∈ m) : l.length ≤ m.length := by
  induction l generalizing m with
  | nil => exact Nat.zero_le _
  | cons x l ih =>
    obtain ⟨h1, h2⟩ := List.nodup_cons.mp hl
    have hx := h x List.mem_cons_self
    have := ih (m := m.erase x) h2 fun y hy => (List.mem_erase_of_ne (fun e => h1 (by rw [← e]; exact hy))).mpr (h y (List.mem_cons_of_mem _ hy))
    rw [List.length_erase_of_mem hx] at this
    have := List.length_pos_of_mem hx
    rw [List.length_cons]
    omega
theorem nd_len_eq {α : Type} [DecidableEq α] {l m : List α} (hl : l.Nodup) (hm : m.Nodup) (h : ∀ x, x ∈ l ↔ x ∈ m) : l.length = m.length := Nat.le_antisymm (nd_len hl fun x z => (h x).mp z) (nd_len hm fun x z => (h x).mpr z)
theorem ddp_one {xs : List (List Nat)} : (ddp xs).length ≤ 1 ↔ ∀ a ∈ xs, ∀ b ∈ xs, a = b := by
  constructor
  · intro h a ha b hb
    have ha := mem_ddp.mpr ha
    have hb := mem_ddp.mpr hb
    match e : ddp xs, h with
    | [], _ => rw [e] at ha; cases ha
    | [c], _ => rw [e] at ha hb; rw [List.mem_singleton.mp ha, List.mem_singleton.mp hb]
    | _ :: _ :: _, h => simp at h
  · intro h
    have nd := ddp_nd xs
    match e : ddp xs with
    | [] => exact Nat.zero_le _
    | [c] => exact Nat.le_refl _
    | c :: c' :: l =>
      exfalso
      rw [e] at nd
      have h1 : c ∈ xs := mem_ddp.mp (by rw [e]; exact List.mem_cons_self)
      have h2 : c' ∈ xs := mem_ddp.mp (by rw [e]; exact List.mem_cons_of_mem _ List.mem_cons_self)
      have := h c h1 c' h2
      rw [this] at nd
      simp at nd
section
variable {X : Cx} {r : Rho} {e : Expr} {pos p : Pos} {xs : List (List Nat)} {d : PyData}
def tSr (K : PySem.W.Frag) (P : Program) (w : World) (r : Rho) (xs : List (List Nat)) : TE := fun σ H Q => ∃ Hs0 H0 Hs, Asn K Hs0 H0 r σ Hs H ∧ ∀ q L Hs' H', Grw Hs H Hs' H' → H' q = some (SetTO P w q L) → (∀ x, x ∈ L.map (·.2) ↔ x ∈ xs.map fun r => r.map Int.ofNat) → Q (.ref q) H'
def DSr (X : Cx) (r : Rho) (e : Expr) (xs : List (List Nat)) : Prop := PE X e (tSr X.K X.prog X.w r xs)
theorem rows_keys {H : Hp} : ∀ {vs : List V} {xs : List (List Nat)}, Dats H vs (xs.map nT) → ∃ ks : List (Addr × List Int), vs = ks.map (fun p => V.ref p.1) ∧ ks.map (·.2) = xs.map (fun r => r.map Int.ofNat) ∧ ∀ p ∈ ks, Rd H p.1 (.tup (p.2.map V.int))
  | _, [], .nil => ⟨[], rfl, rfl, fun _ h => nomatch h⟩
  | _, x :: xs, .cons h t => by
    obtain ⟨ks, e1, e2, e3⟩ := rows_keys t
    obtain ⟨a, vs, rfl, ha, hv⟩ := h.inv_tuple
    rw [nI_map] at hv
    have := hv.ints
    subst this
    refine ⟨(a, x.map Int.ofNat) :: ks, by rw [e1]; rfl, by rw [List.map_cons, e2]; rfl, fun p hp => ?_⟩
    rcases List.mem_cons.mp hp with z | z
    · rw [z]; exact ha
    · exact e3 p z
theorem dsr_set (hc : X.calm = true) (hu : X.A.units + 64 < cLine) (hm : X.mg "set" = none) (ha : DE X r e (.list (xs.map nT))) (hn : xs.length < 64) (hg : Gl X "set" := by rfl)
    (he : starEach (e :: []) X.env = (false, eval e X.env) :: starEach [] X.env := by rfl) (hpl : (backTo pos (starEach [] X.env)).any (·.1) = false := by rfl) : DSr X r (.Call (.Name "set" p) [e] [] pos) xs :=
  PE.wk (pe_callTy (cr_setOfT hc hu) hg hm (by decide +kernel) (da_1 ha he) (by decide) (by decide) he hpl) fun _ _ σ H Q _ ⟨Hs0, H0, Hs, A, q⟩ => ⟨Hs0, H0, Hs, A, fun vs Hs1 H1 g1 h1 => by
    cases h1 with
    | cons hu t =>
      cases t
      obtain ⟨l, ws, rfl, hl, hw⟩ := Dat.inv_list hu
      obtain ⟨ks, e1, e2, e3⟩ := rows_keys hw
      subst e1
      have hlen : ks.length = xs.length := by have := congrArg List.length e2; rw [List.length_map, List.length_map] at this; exact this
      refine ⟨l, ks, rfl, SqL.of (g1.sub _ _ hl), fun p hp => SqT.rd (Rd.same g1.sub (e3 p hp)), by omega, fun a L ha' s1 s2 => q a L Hs1 _ (g1.trans (Grw.laidO g1.sub ha')) upd_same fun x => ?_⟩
      rw [← e2]
      constructor
      · intro z
        obtain ⟨p, hp, rfl⟩ := List.mem_map.mp z
        exact List.mem_map.mpr ⟨p, s1 p hp, rfl⟩
      · intro z
        obtain ⟨p, hp, rfl⟩ := List.mem_map.mp z
        exact s2 p hp⟩
theorem set_fits {P : Program} {w : World} {L : List (Addr × List Int)} {es : Array (Int × Value)} {t : SetTable} (T : TabOk t (L.map fun p => thash P w p.2)) (hs : es.size = L.length) (hr : L.length * 5 < t.mask * 3) : t.fits es.size = true := by
  have z := T.sz
  rw [List.length_map] at z
  unfold SetTable.fits SetTable.fill
  rw [T.dm, Bool.and_eq_true, beq_iff_eq, decide_eq_true_eq]
  exact ⟨by omega, by show t.place.size + 0 ≤ t.mask; omega⟩
theorem cr_lenSr : CallR X (.builtin "len") (fun vs H Q => ∃ (q : Addr) (L : List (Addr × List Int)), vs = [.ref q] ∧ H q = some (SetTO X.prog X.w q L) ∧ ((L.map (·.2)).Nodup → Q (.int (L.length : Nat)) H)) := fun pins s σ H vs us Q I rv ⟨z, L, ev, hz, q⟩ => by
  subst ev
  rw [Vals.ref1 rv]
  obtain ⟨⟨es, ep, t, ⟨o, ho, hx, hd⟩, hrows, htab, hnd, hpl, hled, hroom, hfew⟩, _⟩ := I.hok z _ hz
  have hsz : es.size = L.length := by
    have h := congrArg List.length hrows
    unfold L2.rowsOf at h
    rw [Array.length_toList, List.length_map] at h
    exact h
  exact call_len_set ho hx hd (set_fits htab hsz hroom) (by omega) ⟨.int (L.length : Nat), H, I.tok _, ⟨_, by rw [hsz]⟩, q hnd⟩
theorem de_lenSr (hm : X.mg "len" = none) (ha : DSr X r e xs) (hg : Gl X "len" := by rfl)
    (he : starEach (e :: []) X.env = (false, eval e X.env) :: starEach [] X.env := by rfl) (hpl : (backTo pos (starEach [] X.env)).any (·.1) = false := by rfl) : DE X r (.Call (.Name "len" p) [e] [] pos) (nI (ddp xs).length) :=
  PE.wk (pe_callB cr_lenSr hg hm PySem.boot_len (pa_cons ha pa_nil he) (by decide) (by decide) he hpl) fun _ _ σ H Q _ ⟨Hs0, H0, Hs, A, q⟩ => ⟨Hs0, H0, Hs, A, fun z L Hs1 H1 g1 h1 h2 => ⟨z, L, rfl, h1, fun nd => by
    have inj : ∀ a b : List Nat, a.map Int.ofNat = b.map Int.ofNat → a = b := fun a b h => List.map_inj_right (fun x y z => by injection z) |>.mp h
    have nd2 : ((ddp xs).map fun r => r.map Int.ofNat).Nodup := List.Pairwise.map _ (fun a b n z => n (inj a b z)) (ddp_nd xs)
    have e1 : L.length = (ddp xs).length := by
      have := nd_len_eq nd nd2 fun x => by
        rw [h2]
        constructor
        · intro y; obtain ⟨w, hw, rfl⟩ := List.mem_map.mp y; exact List.mem_map.mpr ⟨w, mem_ddp.mpr hw, rfl⟩
        · intro y; obtain ⟨w, hw, rfl⟩ := List.mem_map.mp y; exact List.mem_map.mpr ⟨w, mem_ddp.mp hw, rfl⟩
      rw [List.length_map, List.length_map] at this
      exact this
    rw [e1]
    exact q _ Hs1 H1 g1 (.int _)⟩⟩
end
/-! ## the planner: a memo of its own -/
def planOb (P : Program) (w : World) (C : Addr) (hD sD : PyData) (V : List (NestedKey × PyData) → Prop) : Ob where
  J := fun Hs H a F => ∃ dx D hv sv xs kvs, a ∈ F ∧ dx ∈ F ∧ D ∈ F ∧ H a = some (.ins C dx [("heats", hv), ("sought", sv), ("known", .ref D)]) ∧ H dx = some (.own a) ∧ Dat Hs hv hD ∧ Dat Hs sv sD ∧ H D = some (dkO P w D xs) ∧ DKV Hs xs kvs ∧ V kvs
  chg := fun e k ⟨dx, D, hv, sv, xs, kvs, h1, h2, h3, h4, h5, h6, h7, h8, h9, h10⟩ => ⟨dx, D, hv, sv, xs, kvs, h1, h2, h3, k _ h1 _ h4, k _ h2 _ h5, h6.mono e, h7.mono e, k _ h3 _ h8, h9.mono e, h10⟩
section
variable {P : Program} {w : World} {C : Addr} {hD sD : PyData} {V : List (NestedKey × PyData) → Prop}
theorem plan_heats : FldAt (planOb P w C hD sD V) C "heats" hD := fun Hs H a F ⟨dx, D, hv, sv, xs, kvs, h1, h2, h3, h4, h5, h6, h7, h8, h9, h10⟩ => ⟨dx, _, hv, h4, rfl, h6⟩
theorem plan_sought : FldAt (planOb P w C hD sD V) C "sought" sD := fun Hs H a F ⟨dx, D, hv, sv, xs, kvs, h1, h2, h3, h4, h5, h6, h7, h8, h9, h10⟩ => ⟨dx, _, sv, h4, by rw [List.lookup_cons, show (("sought" : Str) == ("heats" : Str)) = false by decide]; rfl, h7⟩
theorem plan_ins {m : Str} (h1 : (m == ("heats" : Str)) = false) (h2 : (m == ("sought" : Str)) = false) (h3 : (m == ("known" : Str)) = false) : InsAt (planOb P w C hD sD V) C m := fun Hs H a F ⟨dx, D, hv, sv, xs, kvs, k1, k2, k3, k4, _⟩ => ⟨dx, _, k4, by simp [List.lookup_cons, h1, h2, h3]⟩
theorem plan_imp {V' : List (NestedKey × PyData) → Prop} (h : ∀ k, V k → V' k) {Hs H : Hp} {a : Addr} {F : List Addr} : (planOb P w C hD sD V).J Hs H a F → (planOb P w C hD sD V').J Hs H a F := fun ⟨dx, D, hv, sv, xs, kvs, h1, h2, h3, h4, h5, h6, h7, h8, h9, h10⟩ => ⟨dx, D, hv, sv, xs, kvs, h1, h2, h3, h4, h5, h6, h7, h8, h9, h _ h10⟩
theorem plan_open {Hs H : Hp} {a : Addr} {F : List Addr} : (planOb P w C hD sD V).J Hs H a F → ∃ k : { k // V k }, (planOb P w C hD sD (fun z => z = k.1)).J Hs H a F := fun ⟨dx, D, hv, sv, xs, kvs, h1, h2, h3, h4, h5, h6, h7, h8, h9, h10⟩ => ⟨⟨kvs, h10⟩, dx, D, hv, sv, xs, kvs, h1, h2, h3, h4, h5, h6, h7, h8, h9, rfl⟩
end
theorem lk_known (hv sv v : V) : List.lookup ("known" : Str) [(("heats" : Str), hv), (("sought" : Str), sv), (("known" : Str), v)] = some v := by
  rw [List.lookup_cons, show (("known" : Str) == ("heats" : Str)) = false by decide, List.lookup_cons, show (("known" : Str) == ("sought" : Str)) = false by decide]
  rfl
theorem putF_known (v hv sv : V) : putF ("known" : Str) v [(("heats" : Str), hv), (("sought" : Str), sv)] = [(("heats" : Str), hv), (("sought" : Str), sv), (("known" : Str), v)] := by
  rfl
section
variable {X : Cx} {E : XK} {i : Nat} {r r' : Rho} {e b : Expr} {pos apos px p ps : Pos} {d hD sD : PyData} {x : Str} {C a : Addr} {Po : Post} {sts : List Stmt} {kvs : List (NestedKey × PyData)} {k : NestedKey} {V V' : List (NestedKey × PyData) → Prop}
/-- self.known, read -/
theorem dd_known (i : Nat) (c : Cls X.K C) (n : NoAttr X.K C "known") (ho : r[i]? = some (.obj a (planOb X.prog X.w C hD sD (fun z => z = kvs))) := by rfl) (hN : X.N[i]? = some x := by rfl) (hv : Vis X.env.scope x := by first | exact Or.inl rfl | exact Or.inr (Or.inl rfl) | exact Or.inr (Or.inr rfl))
    (hd : (x == ("__debug__" : Str)) = false := by decide) (hcd : (x == ("__classdict__" : Str)) = false := by decide) (hb : attributeBase (.Name x px) "known" X.env (eval (.Name x px) X.env) = eval (.Name x px) X.env := by rfl) : DD X r (.Attribute (.Name x px) "known" pos) kvs :=
  PE.wk (pe_fld (pe_var (i := i) hN hv hd hcd) hb) fun _ _ σ H Q _ ⟨Hs0, H0, Hs, A, q⟩ => by
    obtain ⟨F, e1, _, dx, D, hv, sv, xs, kvs', h1, h2, h3, h4, h5, h6, h7, h8, h9, rfl⟩ := A.at_ i _ ho
    exact ⟨_, e1, a, C, dx, _, .ref D, rfl, h4, c, n, lk_known _ _ _, q D xs Hs H (Grw.refl A.g.sub) (.inl h8) h9⟩
/-- self.known = {} -/
theorem ds_setKnown (i : Nat) (c : Cls X.K C) (n : NoAttr X.K C "known") (he : DR X r e (.dic X.prog X.w [])) (hp : Po.nx (r.set i (.obj a (planOb X.prog X.w C hD sD V)))) (hV : V []) (ho : r[i]? = some (.obj a (recOb C [("heats", hD), ("sought", sD)])) := by rfl) (hN : X.N[i]? = some x := by rfl) (hv : Vis X.env.scope x := by first | exact Or.inl rfl | exact Or.inr (Or.inl rfl) | exact Or.inr (Or.inr rfl))
    (hd : (x == ("__debug__" : Str)) = false := by decide) (hcd : (x == ("__classdict__" : Str)) = false := by decide) (hs : swapsWith e (some (.Attribute (.Name x px) "known" apos)) pos.line X.env = pure false := by rfl) : DS X E r (.Assign [.Attribute (.Name x px) "known" apos] e pos) Po :=
  PS.wk (ps_fld (pe_var (i := i) hN hv hd hcd) he hs) fun _ _ D σ H _ ⟨Hs0, H0, Hs, A, w⟩ => ⟨Hs0, H0, Hs, A, fun v Hs1 H1 G g1 hG hS => by
    obtain ⟨D0, xs, mD, ev, hD0, hK⟩ := hS
    injection ev with ev; injection ev with ev
    subst ev
    obtain ⟨F, A⟩ := A.ex
    obtain ⟨e1, dx, vs, f1, f2, f3, f4, f5, f6⟩ := A.fr.at_ i _ ho
    have hlen : vs.length = 2 := dfs_len f6
    have hD1 : D0 ∉ F i := fun z => (A.fr.own i D0 z).2.2 (hG D0 mD).1
    have nDa : D0 ≠ a := fun z => hD1 (by rw [z]; exact f1)
    have nDx : D0 ≠ dx := fun z => hD1 (by rw [z]; exact f2)
    have nxa : dx ≠ a := fun z => by rw [z, f4] at f5; cases f5
    have a1 := g1.all _ _ f4
    have sa : Hs1 a = none := g1.stay (A.fr.own i a f1).2.1 f4
    refine ⟨_, e1, a, C, dx, vs, rfl, a1, c, n, by omega, w.nx _ _ Hs1 _ hp ((A.put e1 (G' := D0 :: F i) ⟨g1.st, same_mut g1.sub sa, fun y o z q => ?_, fun y q => (g1.new y q).imp id .inl, g1.nt, fun y z => ?_⟩ ?_).1.asn) g1.st⟩
    · rw [upd_ne (show y ≠ a from fun u => z (by rw [u]; exact f1))]; exact g1.all _ _ q
    · rcases List.mem_cons.mp z with u | u
      · rw [u]
        exact ⟨.inr (hG D0 mD).1, (hG D0 mD).2.1, by rw [upd_ne nDa]; exact (hG D0 mD).2.2⟩
      · obtain ⟨_, h1, h2⟩ := A.fr.own i y u
        cases q : H y with
        | none => exact absurd q h2
        | some o =>
          refine ⟨.inl u, g1.stay h1 q, ?_⟩
          by_cases ya : y = a
          · rw [ya, upd_same]; simp
          · rw [upd_ne ya, g1.all _ _ q]; simp
    · match vs, f6 with
      | [(g0, hv), (g2, sv)], .cons ⟨q1, q2⟩ (.cons ⟨q3, q4⟩ .nil) =>
        have q1 : g0 = "heats" := q1
        have q3 : g2 = "sought" := q3
        subst q1
        subst q3
        refine ⟨dx, D0, hv, sv, xs, [], List.mem_cons_of_mem _ f1, List.mem_cons_of_mem _ f2, List.mem_cons_self, ?_, by rw [upd_ne nxa]; exact g1.all _ _ f5, q2.mono g1.st, q4.mono g1.st, by rw [upd_ne nDa]; exact hD0, hK, hV⟩
        rw [upd_same, putF_known]⟩
/-- self.known[b] = e -/
theorem ds_putKnown (i : Nat) (hu : X.A.units + 64 < cLine) (c : Cls X.K C) (n : NoAttr X.K C "known") (he : DOb X i r e d r) (hb : DE X r b k.data) (hT : IsT k) (hk : k.depth ≤ 8) (hV : ∀ kvs, V kvs → kvs.length < sizeLine ∧ V' (dput kvs k d)) (hp : Po.nx (r.set i (.obj a (planOb X.prog X.w C hD sD V'))))
    (ho : r[i]? = some (.obj a (planOb X.prog X.w C hD sD V)) := by rfl) (hN : X.N[i]? = some x := by rfl) (hv : Vis X.env.scope x := by first | exact Or.inl rfl | exact Or.inr (Or.inl rfl) | exact Or.inr (Or.inr rfl))
    (hd : (x == ("__debug__" : Str)) = false := by decide) (hcd : (x == ("__classdict__" : Str)) = false := by decide) (hat : attributeBase (.Name x px) "known" X.env (eval (.Name x px) X.env) = eval (.Name x px) X.env := by rfl)
    (hpg : ∀ {to ti : TE}, PE X (.Attribute (.Name x px) "known" apos) to → PE X b ti → PSet X (rSetD X) → PG X (.Subscript (.Attribute (.Name x px) "known" apos) b ps) (gSub to ti (rSetD X)) := by intro to ti h1 h2 h3; exact pg_sub h1 h2 h3)
    (hs : swapsWithSole [.Subscript (.Attribute (.Name x px) "known" apos) b ps] e pos.line X.env = pure false := by rfl) (hw : swappedStores [.Subscript (.Attribute (.Name x px) "known" apos) b ps] e X.env = pure none := by rfl)
    (h1 : (assignEach [.Subscript (.Attribute (.Name x px) "known" apos) b ps] X.env).map (·.2) = [assign (.Subscript (.Attribute (.Name x px) "known" apos) b ps) X.env] := by rfl) : DS X E r (.Assign [.Subscript (.Attribute (.Name x px) "known" apos) b ps] e pos) Po :=
  PS.wk (ps_asg he (hpg (pe_fld (pe_var (i := i) hN hv hd hcd) hat) hb (set_dk hu)) hs hw h1) fun _ _ D σ H _ ⟨Hs0, H0, Hs, A, w⟩ => by
    obtain ⟨F, A⟩ := A.ex
    refine ⟨Hs0, H0, Hs, F, A, fun v Hs1 H1 F1 m1 A1 hv1 => ?_⟩
    obtain ⟨e1, dx, D1, hv', sv, xs, kvs, f1, f2, f3, f4, f5, f6, f7, f8, f9, f10⟩ := A1.fr.at_ i _ ho
    refine ⟨_, e1, a, C, dx, _, .ref D1, rfl, f4, c, n, lk_known _ _ _, Hs0, H0, Hs1, A1.asn, fun u Hs2 H2 g2 hu2 => ?_⟩
    obtain ⟨bb, rfl⟩ := isT_ref hT hu2
    obtain ⟨hz, hV'⟩ := hV kvs f10
    have A2 := A1.grow g2
    have k2 : DKV Hs2 xs kvs := f9.mono g2.st
    have nDa : D1 ≠ a := fun z => by rw [z, f4] at f8; cases f8
    have nDx : D1 ≠ dx := fun z => by rw [z, f5] at f8; cases f8
    refine ⟨D1, bb, k, xs, kvs, (dget kvs k).isSome, rfl, rfl, g2.all _ _ f8, k2.mono g2.sub, rfl, hk, hu2.mono g2.sub, by rw [dkv_len k2]; exact hz, w.nx _ _ Hs2 _ hp ((A2.put e1 (G' := F1 i) ⟨Same.refl _, same_mut A2.g.sub (A2.fr.own i D1 f3).2.1, fun y o z q => ?_, fun y q => .inl q, fun _ _ q => q, fun y z => ?_⟩ ?_).1.asn) (m1.st.trans g2.st)⟩
    · rw [upd_ne (show y ≠ D1 from fun z' => z (by rw [z']; exact f3))]; exact q
    · obtain ⟨_, h1, h2⟩ := A2.fr.own i y z
      refine ⟨.inl z, h1, ?_⟩
      by_cases yD : y = D1
      · rw [yD, upd_same]; simp
      · rw [upd_ne yD]; exact h2
    · exact ⟨dx, D1, hv', sv, _, dput kvs k d, f1, f2, f3, by rw [upd_ne (Ne.symm nDa)]; exact g2.all _ _ f4, by rw [upd_ne (Ne.symm nDx)]; exact g2.all _ _ f5, f6.mono g2.st, f7.mono g2.st, upd_same, dkv_put hk hu2 (hv1.mono g2.st) k2 rfl, hV'⟩
end
/-! max and min of what may have changed the object -/
theorem crd_max {X : Cx} {ns : List Nat} (hn : ns ≠ []) : CRD (fun vs H Q => ∃ (a : Addr) (is : List Int), vs = [.ref a] ∧ SqL X.K H a (is.map V.int) ∧ 0 < is.length ∧ ∀ m, m ∈ is → (∀ k ∈ is, k ≤ m) → Q (.int m) H) [nL ns] (nI (maxN ns)) := fun vs Hs H Q hv h q => by
  cases hv with
  | cons h1 t =>
    cases t
    obtain ⟨l, ws, rfl, hp, hw⟩ := h1.inv_list
    rw [nI_map] at hw
    obtain rfl := hw.ints
    refine ⟨l, _, rfl, SqL.of (h _ _ hp), by rw [List.length_map]; exact List.length_pos_iff.mpr hn, fun m h1 h2 => ?_⟩
    obtain ⟨k, hk, rfl⟩ := List.mem_map.mp h1
    have e1 := maxN_ge hk
    have e2 := h2 _ (List.mem_map_of_mem (maxN_mem hn))
    have e3 : k = maxN ns := by have : (Int.ofNat (maxN ns)) ≤ Int.ofNat k := e2; simp at this; omega
    rw [e3]
    exact q _ Hs H (Grw.refl h) (.int _)
theorem crd_min {X : Cx} {ns : List Nat} (hn : ns ≠ []) : CRD (fun vs H Q => ∃ (a : Addr) (is : List Int), vs = [.ref a] ∧ SqL X.K H a (is.map V.int) ∧ 0 < is.length ∧ ∀ m, m ∈ is → (∀ k ∈ is, m ≤ k) → Q (.int m) H) [nL ns] (nI (minN ns)) := fun vs Hs H Q hv h q => by
  cases hv with
  | cons h1 t =>
    cases t
    obtain ⟨l, ws, rfl, hp, hw⟩ := h1.inv_list
    rw [nI_map] at hw
    obtain rfl := hw.ints
    refine ⟨l, _, rfl, SqL.of (h _ _ hp), by rw [List.length_map]; exact List.length_pos_iff.mpr hn, fun m h1 h2 => ?_⟩
    obtain ⟨k, hk, rfl⟩ := List.mem_map.mp h1
    have e1 := minN_le hk
    have e2 := h2 _ (List.mem_map_of_mem (minN_mem hn))
    have e3 : k = minN ns := by have : Int.ofNat k ≤ (Int.ofNat (minN ns)) := e2; simp at this; omega
    rw [e3]
    exact q _ Hs H (Grw.refl h) (.int _)
section
variable {X : Cx} {i : Nat} {r r' : Rho} {e : Expr} {pos p : Pos} {ns : List Nat}
theorem do_maxL (hc : X.calm = true) (hm : X.mg "max" = none) (ha : DOb X i r e (nL ns) r') (hn : ns ≠ []) (hg : Gl X "max" := by rfl)
    (he : starEach (e :: []) X.env = (false, eval e X.env) :: starEach [] X.env := by rfl) (hpl : (backTo pos (starEach [] X.env)).any (·.1) = false := by rfl) : DOb X i r (.Call (.Name "max" p) [e] [] pos) (nI (maxN ns)) r' :=
  do_callB1 (cr_max hc) (crd_max hn) ha hm (by decide +kernel) hg (by decide) (by decide) he hpl
theorem do_minL (hc : X.calm = true) (hm : X.mg "min" = none) (ha : DOb X i r e (nL ns) r') (hn : ns ≠ []) (hg : Gl X "min" := by rfl)
    (he : starEach (e :: []) X.env = (false, eval e X.env) :: starEach [] X.env := by rfl) (hpl : (backTo pos (starEach [] X.env)).any (·.1) = false := by rfl) : DOb X i r (.Call (.Name "min" p) [e] [] pos) (nI (minN ns)) r' :=
  do_callB1 (cr_min hc) (crd_min hn) ha hm (by decide +kernel) hg (by decide) (by decide) he hpl
end
/-- a number kept under a global name -/
theorem de_gint {X : Cx} {r : Rho} {x : Str} {k : Int} {pos : Pos} (h : ∃ t, X.mg x = some (.int k t)) (hg : Gl X x := by rfl) (hd : (x == ("__debug__" : Str)) = false := by decide) : DE X r (.Name x pos) (.int k) :=
  let ⟨t, e⟩ := h
  de_const (pe_glob (v := .int k) hg e ⟨t, rfl⟩ hd) fun _ => .int k
end Dl

namespace Dl
open PySem L2 PySem.W PyProof.Rows PySem.Spec
/-! ## min of pairs of a number and a row -/
def pD (p : Int × List Nat) : PyData := .tuple [.int p.1, nT p.2]
def pLt (p q : Int × List Nat) : Bool := if p.1 = q.1 then lxLt p.2 q.2 else decide (p.1 < q.1)
theorem lex_rowsC (c : List (Int ⊕ List Nat)) : ∀ xs ys : List Nat, PyProof.Rows.lexLt itemOrd (keyToksAll (xs.map nI) ++ c) (keyToksAll (ys.map nI) ++ c) = lxLt xs ys
  | [], [] => by rw [List.map_nil, keyToksAll, lxLt]; exact lex_irrefl (O := itemOrd) _
  | [], y :: ys => by
    rw [List.map_nil, List.map_cons, keyToksAll, keyToksAll, lxLt, List.cons_append, List.cons_append]
    rw [lex_diff (O := itemOrd) (by simp)]
    rfl
  | x :: xs, [] => by
    rw [List.map_nil, List.map_cons, keyToksAll, keyToksAll, lxLt, List.cons_append, List.cons_append]
    rw [lex_diff (O := itemOrd) (by simp)]
    rfl
  | x :: xs, y :: ys => by
    rw [List.map_cons, List.map_cons, keyToksAll, keyToksAll, List.cons_append, List.cons_append, lex_self (O := itemOrd), toks_nI, toks_nI, lxLt]
    by_cases e : x = y
    · subst e
      rw [if_pos rfl]
      show PyProof.Rows.lexLt itemOrd (Sum.inl (x : Int) :: (keyToksAll (xs.map nI) ++ c)) (Sum.inl (x : Int) :: (keyToksAll (ys.map nI) ++ c)) = _
      rw [lex_self (O := itemOrd)]
      exact lex_rowsC c xs ys
    · rw [if_neg e]
      show PyProof.Rows.lexLt itemOrd (Sum.inl (x : Int) :: (keyToksAll (xs.map nI) ++ c)) (Sum.inl (y : Int) :: (keyToksAll (ys.map nI) ++ c)) = _
      rw [lex_diff (O := itemOrd) (by intro q; injection q with q; omega)]
      show decide ((x : Int) < (y : Int)) = _
      exact decide_eq_decide.mpr (by omega)
theorem toks_pD (p : Int × List Nat) : keyToks (pD p) = .inl 1 :: .inl p.1 :: .inl 1 :: (keyToksAll (p.2.map nI) ++ [.inl 0]) := by
  unfold pD nT
  rw [keyToks, keyToksAll, keyToksAll, keyToksAll, keyToks, keyToks]
  rfl
theorem dataLt_pD (p q : Int × List Nat) : dataLt (pD p) (pD q) = pLt p q := by
  show PyProof.Rows.lexLt itemOrd (keyToks (pD p)) (keyToks (pD q)) = _
  rw [toks_pD, toks_pD, lex_self (O := itemOrd)]
  unfold pLt
  by_cases e : p.1 = q.1
  · rw [if_pos e, e, lex_self (O := itemOrd), lex_self (O := itemOrd), lex_rowsC]
  · rw [if_neg e, lex_diff (O := itemOrd) (by intro z; injection z with z; exact e z)]
    rfl
def minPr (x : Int × List Nat) (xs : List (Int × List Nat)) : Int × List Nat := xs.foldl (fun a y => if pLt y a = true then y else a) x
theorem minD_pD : ∀ (x : Int × List Nat) (xs : List (Int × List Nat)), minD (pD x) (xs.map pD) = pD (minPr x xs)
  | _, [] => rfl
  | x, y :: xs => by
    have ih := minD_pD (if pLt y x = true then y else x) xs
    unfold minD at ih ⊢
    rw [List.map_cons, List.foldl_cons, dataLt_pD]
    unfold minPr
    rw [List.foldl_cons]
    rw [show (if pLt y x = true then pD y else pD x) = pD (if pLt y x = true then y else x) by split <;> rfl]
    exact ih
theorem pLt_irr (p : Int × List Nat) : pLt p p = false := by unfold pLt; rw [if_pos rfl]; exact lx_irr _
theorem pLt_trans {p q r : Int × List Nat} (h1 : pLt p q = true) (h2 : pLt q r = true) : pLt p r = true := by
  unfold pLt at h1 h2 ⊢
  by_cases e1 : p.1 = q.1
  · rw [if_pos e1] at h1
    by_cases e2 : q.1 = r.1
    · rw [if_pos e2] at h2
      rw [if_pos (e1.trans e2)]
      exact lx_trans h1 h2
    · rw [if_neg e2] at h2
      rw [if_neg (by rw [e1]; exact e2), e1]
      exact h2
  · rw [if_neg e1, decide_eq_true_eq] at h1
    by_cases e2 : q.1 = r.1
    · rw [if_neg (by rw [← e2]; exact e1), ← e2]
      exact decide_eq_true h1
    · rw [if_neg e2, decide_eq_true_eq] at h2
      rw [if_neg (by omega)]
      exact decide_eq_true (by omega)
theorem pLt_tri (p q : Int × List Nat) : pLt p q = true ∨ p = q ∨ pLt q p = true := by
  unfold pLt
  by_cases e : p.1 = q.1
  · rw [if_pos e, if_pos e.symm]
    rcases lx_tri p.2 q.2 with z | z | z
    · exact .inl z
    · exact .inr (.inl (Prod.ext e z))
    · exact .inr (.inr z)
  · rw [if_neg e, if_neg (Ne.symm e)]
    simp only [decide_eq_true_eq]
    omega
theorem minPr_mem : ∀ (x : Int × List Nat) (xs : List (Int × List Nat)), minPr x xs ∈ x :: xs
  | x, [] => List.mem_singleton.mpr rfl
  | x, y :: xs => by
    unfold minPr
    rw [List.foldl_cons]
    have ih := minPr_mem (if pLt y x = true then y else x) xs
    rcases List.mem_cons.mp ih with z | z
    · unfold minPr at z
      rw [z]
      split
      · exact List.mem_cons_of_mem _ List.mem_cons_self
      · exact List.mem_cons_self
    · exact List.mem_cons_of_mem _ (List.mem_cons_of_mem _ z)
theorem minPr_le : ∀ (x : Int × List Nat) (xs : List (Int × List Nat)), ∀ y ∈ x :: xs, pLt y (minPr x xs) = false
  | x, [], y, h => by rw [List.mem_singleton.mp h]; exact pLt_irr x
  | x, z :: xs, y, h => by
    have ih := minPr_le (if pLt z x = true then z else x) xs
    have e : minPr x (z :: xs) = minPr (if pLt z x = true then z else x) xs := by unfold minPr; rw [List.foldl_cons]
    rw [e]
    have nlt : ∀ a b c : Int × List Nat, pLt a b = false → pLt b c = false → pLt a c = false := fun a b c h1 h2 => by
      cases q : pLt a c with
      | false => rfl
      | true =>
        rcases pLt_tri b c with w | w | w
        · rw [h2] at w; cases w
        · rw [w] at h1; rw [q] at h1; cases h1
        · rw [pLt_trans q w] at h1; cases h1
    have h0 := ih _ List.mem_cons_self
    rcases List.mem_cons.mp h with w | w
    · subst w
      by_cases q : pLt z y = true
      · rw [if_pos q] at h0 ⊢
        refine nlt _ z _ ?_ h0
        cases k : pLt y z with
        | false => rfl
        | true => have := pLt_trans q k; rw [pLt_irr] at this; cases this
      · rw [if_neg q] at h0 ⊢; exact h0
    · rcases List.mem_cons.mp w with w | w
      · subst w
        by_cases q : pLt y x = true
        · rw [if_pos q] at h0 ⊢; exact h0
        · rw [if_neg q] at h0 ⊢
          refine nlt _ x _ ?_ h0
          cases k : pLt y x with
          | false => rfl
          | true => exact absurd k q
      · exact ih y (List.mem_cons_of_mem _ w)
theorem minPr_eq {x p : Int × List Nat} {xs : List (Int × List Nat)} (hm : p ∈ x :: xs) (hl : ∀ y ∈ x :: xs, pLt y p = false) : minPr x xs = p := by
  have h1 := minPr_le x xs p hm
  have h2 := hl _ (minPr_mem x xs)
  rcases pLt_tri (minPr x xs) p with z | z | z
  · rw [h2] at z; cases z
  · exact z
  · rw [h1] at z; cases z
theorem readsAll_p {h : Heap} : ∀ {vs : List Value} {a b : Int × List Nat} {as bs : List Addr}, ReadsAll h vs [.int a.1, nT a.2] as → ReadsAll h vs [.int b.1, nT b.2] bs → a = b
  | [], _, _, _, _, h1, _ => by cases h1
  | [_], _, _, _, _, h1, _ => by
    cases h1 with
    | cons _ r => cases r
  | v :: u :: vs, a, b, _, _, h1, h2 => by
    cases h1 with
    | cons p1 q1 =>
      cases h2 with
      | cons p2 q2 =>
        cases q1 with
        | cons p3 q3 =>
          cases q2 with
          | cons p4 q4 =>
            have e := reads_nT p3 p4
            obtain ⟨a1, a2⟩ := a
            obtain ⟨b1, b2⟩ := b
            cases p1
            cases p2
            have e : a2 = b2 := e
            rw [e]
theorem reads_pD {h : Heap} {v : Value} {a b : Int × List Nat} {as bs : List Addr} (h1 : Reads h v (pD a) as) (h2 : Reads h v (pD b) bs) : a = b := by
  unfold pD at h1 h2
  cases h1 with
  | tuple e1 c1 d1 r1 =>
    cases h2 with
    | tuple e2 c2 d2 r2 =>
      rw [e1] at e2
      cases e2
      rw [d1] at d2
      cases d2
      exact readsAll_p r1 r2
theorem lo_pD (p : Int × List Nat) : Dl.lo (pD p) = pD p := by
  unfold pD
  rw [Dl.lo, Dl.loAll, Dl.loAll, Dl.loAll, lo_nT, Dl.lo]
  all_goals (intro ds z; cases z)
theorem dep_pD (p : Int × List Nat) : (pD p).depth ≤ 60 := by
  unfold pD
  rw [PyData.depth, PyData.depthAll, PyData.depthAll, PyData.depthAll, PyData.depth]
  have := depth_rows [p.2] (nT p.2) (by simp)
  have h2 := dep_nT p.2
  unfold depL at h2
  rw [lo_nT] at h2
  omega
theorem depAll_pD : ∀ xs : List (Int × List Nat), PyData.depthAll (xs.map pD) ≤ 60
  | [] => by rw [List.map_nil, PyData.depthAll]; omega
  | x :: xs => by rw [List.map_cons, PyData.depthAll]; have := dep_pD x; have := depAll_pD xs; omega
section
variable {X : Cx} {i : Nat} {r r' : Rho} {e : Expr} {pos p : Pos} {x : Int × List Nat} {xs : List (Int × List Nat)}
def rMinP : List V → Hp → VK → Prop := fun vs H Q => ∃ (Hs : Hp) (v : V) (x : Int × List Nat) (xs : List (Int × List Nat)), vs = [v] ∧ Same Hs H ∧ Dat Hs v (.list ((x :: xs).map pD)) ∧ ∀ u, Dat Hs u (pD (minPr x xs)) → Q u H
theorem cr_minP (hc : X.calm = true) (hu : X.A.units + 64 < cLine) : CallR X (.builtin "min") rMinP := fun pins s σ H vs us Q I rv ⟨Hs, v, a, rest, ev, hsub, hv, q⟩ => by
  subst ev
  obtain ⟨u, rfl, ru⟩ := vals1 rv
  obtain ⟨l, xs, rfl, hl', hx⟩ := hv.inv_list
  cases ru
  obtain ⟨its, hr, hp, hz⟩ := I.list (SqL.of (K := X.K) (hsub _ _ hl'))
  obtain ⟨as, h2⟩ := Dp.readsAll I _ _ its (Dats.dp (hx.mono hsub)) hr
  have el : ((a :: rest).map pD).map Dl.lo = pD a :: rest.map pD := by
    rw [List.map_map]
    show Dl.lo (pD a) :: _ = _
    rw [lo_pD]
    congr 1
    exact List.map_congr_left fun x _ => lo_pD x
  rw [el] at h2
  refine min_list_data (I.ok.hd hc) hp.isList (by simpa using h2) ⟨fun x hx y hy => ?_, fun x hx => ?_⟩ (by have := depAll_pD (a :: rest); rw [List.map_cons] at this; omega) fun i v h' tk bs hi hrd hk => ?_
  · obtain ⟨x', _, rfl⟩ := List.mem_map.mp (show x ∈ (a :: rest).map pD by rw [List.map_cons]; exact hx)
    obtain ⟨y', _, rfl⟩ := List.mem_map.mp (show y ∈ (a :: rest).map pD by rw [List.map_cons]; exact hy)
    unfold pD nT; rw [alike, alikeAll, alikeAll, alikeAll, alike, alike, alike_nI]; rfl
  · obtain ⟨x', _, rfl⟩ := List.mem_map.mp (show x ∈ (a :: rest).map pD by rw [List.map_cons]; exact hx)
    unfold pD; intro z; cases z
  · obtain ⟨x, d, e1, e2, e3⟩ := dats_ix hx hr (by simpa using hi)
    obtain ⟨b, e4, rfl⟩ := map_at e3
    obtain ⟨cs, e5⟩ := e2.reads hsub I e1
    rw [lo_pD] at e5
    rw [minD_pD] at hrd
    have e6 := reads_pD (Reads.keeps hk e5) hrd
    rw [e6] at e2
    exact ⟨x, H, I.kept hk, e1, q x e2⟩
theorem crd_minP : CRD rMinP [.list ((x :: xs).map pD)] (pD (minPr x xs)) := fun vs Hs H Q hv h q => by
  cases hv with
  | cons h1 t =>
    cases t
    exact ⟨Hs, _, x, xs, rfl, h, h1, fun u hu => q u Hs H (Grw.refl h) hu⟩
theorem de_minP (hc : X.calm = true) (hu : X.A.units + 64 < cLine) (hm : X.mg "min" = none) (ha : DE X r e (.list ((x :: xs).map pD))) (hg : Gl X "min" := by rfl)
    (he : starEach (e :: []) X.env = (false, eval e X.env) :: starEach [] X.env := by rfl) (hpl : (backTo pos (starEach [] X.env)).any (·.1) = false := by rfl) : DE X r (.Call (.Name "min" p) [e] [] pos) (pD (minPr x xs)) :=
  de_callB (ds := [.list ((x :: xs).map pD)]) (cr_minP hc hu) crd_minP hg hm (by decide +kernel) (da_1 ha he) (by decide) (by decide) he hpl
theorem do_minP (hc : X.calm = true) (hu : X.A.units + 64 < cLine) (hm : X.mg "min" = none) (ha : DOb X i r e (.list ((x :: xs).map pD)) r') (hg : Gl X "min" := by rfl)
    (he : starEach (e :: []) X.env = (false, eval e X.env) :: starEach [] X.env := by rfl) (hpl : (backTo pos (starEach [] X.env)).any (·.1) = false := by rfl) : DOb X i r (.Call (.Name "min" p) [e] [] pos) (pD (minPr x xs)) r' :=
  do_callB1 (cr_minP hc hu) crd_minP ha hm (by decide +kernel) hg (by decide) (by decide) he hpl
end
/-- a tuple whose parts may change the object -/
theorem do_tup2 {X : Cx} {i : Nat} {r r1 r2 : Rho} {a b : Expr} {d1 d2 : PyData} {k : Nat} {pos : Pos} (ha : DOb X i r a d1 r1) (hb : DOb X i r1 b d2 r2) (e1 : starEach (a :: [b]) X.env = (false, eval a X.env) :: starEach [b] X.env := by rfl) (e2 : starEach (b :: []) X.env = (false, eval b X.env) :: starEach [] X.env := by rfl) : DOb X i r (.Tuple [a, b] k pos) (.tuple [d1, d2]) r2 :=
  PE.wk (pe_tup (pa_cons ha (pa_cons hb pa_nil e2) e1)) fun _ _ σ H Q _ ⟨Hs0, H0, Hs, F, A, q⟩ => ⟨Hs0, H0, Hs, F, A, fun u Hs1 H1 F1 m1 A1 h1 => ⟨Hs0, H0, Hs1, F1, A1, fun v Hs2 H2 F2 m2 A2 h2 => by
    refine ⟨by show 2 ≤ sizeLine; exact sz 2, fun p hp => ?_⟩
    have g3 : Grw Hs2 H2 _ _ := Grw.laid (o := .tup [u, v]) A2.g.sub hp
    exact q (.ref p) _ _ F2 ((m1.trans m2).trans (Mv.grw g3)) (A2.grow g3) (.tup (.inl upd_same) (.cons (h1.mono (m2.st.trans g3.st)) (.cons (h2.mono g3.st) .nil)))⟩⟩
theorem dto_eqN {X : Cx} {i : Nat} {r r1 r2 : Rho} {a b : Expr} {pos : Pos} {k l : Nat} (hu : X.A.units + 64 < cLine) (ha : DOb X i r a (nI k) r1) (hb : DOb X i r1 b (nI l) r2) : DTo X i r (.Compare a [.Eq] [b] pos) (decide (k = l)) r2 := by
  have := dto_eqP (pos := pos) hu (by rw [dep_nI]; omega) ha hb
  rw [eqL_nI] at this
  exact this
end Dl

namespace Dl
open PySem L2 PySem.W PyProof.Rows PySem.Spec
/-! ## things that may change any of the slots -/
def tDM (K : PySem.W.Frag) (r : Rho) (d : PyData) (r' : Rho) : TE := fun σ H Q => ∃ Hs0 H0 Hs, Asn K Hs0 H0 r σ Hs H ∧ ∀ v Hs' H', Asn K Hs0 H0 r' σ Hs' H' → Same Hs Hs' → Dat Hs' v d → Q v H'
def tTM (K : PySem.W.Frag) (r : Rho) (b : Bool) (r' : Rho) : TT := fun σ H Q => ∃ Hs0 H0 Hs, Asn K Hs0 H0 r σ Hs H ∧ ∀ Hs' H', Asn K Hs0 H0 r' σ Hs' H' → Same Hs Hs' → Q b H'
def tXM (K : PySem.W.Frag) (W : WX) (r : Rho) (C : Addr) (r' : Rho) : TE := fun σ H _ => ∃ Hs0 H0 Hs, Asn K Hs0 H0 r σ Hs H ∧ ∀ Hs' H', Asn K Hs0 H0 r' σ Hs' H' → Same Hs Hs' → W (.ref C) none σ H'
def tAM (K : PySem.W.Frag) (r : Rho) (ss : Rho) (r' : Rho) : TA := fun σ H Q => ∃ Hs0 H0 Hs, Asn K Hs0 H0 r σ Hs H ∧ ∀ vs Hs' H', Asn K Hs0 H0 r' σ Hs' H' → Same Hs Hs' → Args K Hs' vs ss → Q vs H'
def DM (X : Cx) (r : Rho) (e : Expr) (d : PyData) (r' : Rho) : Prop := PE X e (tDM X.K r d r')
def DTM (X : Cx) (r : Rho) (e : Expr) (b : Bool) (r' : Rho) : Prop := PT X e (tTM X.K r b r')
def DWM (X : Cx) (r : Rho) (e : Expr) (b : Bool) (r' : Rho) : Prop := PW X e (tTM X.K r b r')
def DXM (X : Cx) (W : WX) (r : Rho) (e : Expr) (C : Addr) (r' : Rho) : Prop := PE X e (tXM X.K W r C r')
def DAM (X : Cx) (r : Rho) (es : List Expr) (ss : Rho) (r' : Rho) : Prop := PA X es (tAM X.K r ss r')
section
variable {X : Cx} {E : XK} {W : WX} {i : Nat} {r r' r1 r2 : Rho} {e a b c : Expr} {es rest : List Expr} {pos p : Pos} {d d1 d2 : PyData} {ds : List PyData} {P : Post} {x : Str} {k k' : Bool} {C : Addr}
theorem DEm.M (h : DEm X r e d) : DM X r e d r := h
theorem DE.M (h : DE X r e d) : DM X r e d r := h.m
theorem DT.M (h : DT X r e k) : DTM X r e k r := h.m
theorem DOb.M (h : DOb X i r e d r') : DM X r e d r' := PE.wk h fun _ _ σ H Q _ ⟨Hs0, H0, Hs, A, q⟩ => by
  obtain ⟨F, A⟩ := A.ex
  exact ⟨Hs0, H0, Hs, F, A, fun v Hs' H' F' m A' hv => q v Hs' H' A'.asn m.st hv⟩
theorem DM.is (h : DM X r e d1 r') (q : d1 = d) : DM X r e d r' := q ▸ h
theorem DM.to (h : DM X r e d r1) (q : r1 = r') : DM X r e d r' := q ▸ h
theorem DTM.is (h : DTM X r e k r') (q : k = k') : DTM X r e k' r' := q ▸ h
theorem tOp_M {rr : R2} (h : R2D rr d1 d2 d) {σ : L2.St} {H : Hp} {Q : VK} (q : tDM X.K r d r2 σ H Q) : tOp rr (tDM X.K r d1 r1) (tDM X.K r1 d2 r2) σ H Q := by
  obtain ⟨Hs0, H0, Hs, A, q⟩ := q
  exact ⟨Hs0, H0, Hs, A, fun x Hs1 H1 A1 s1 h1 => ⟨Hs0, H0, Hs1, A1, fun y Hs2 H2 A2 s2 h2 => h x y Hs2 H2 Q (h1.mono s2) h2 A2.g.sub fun v Hs3 H3 g3 h3 => q v Hs3 H3 (A2.grow g3) ((s1.trans s2).trans g3.st) h3⟩⟩
theorem dM_op {op : Operator} {rr : R2} (ho : OpR X (binaryOp op) rr) (h : R2D rr d1 d2 d) (ha : DM X r a d1 r1) (hb : DM X r1 b d2 r2) : DM X r (.BinOp a op b pos) d r2 := PE.wk (pe_op ho ha hb) fun _ _ σ H Q _ q => tOp_M h q
theorem dM_cmp {op : CmpOp} {rr : R2} (ho : OpR X (compareOp op) rr) (h : R2D rr d1 d2 d) (ha : DM X r a d1 r1) (hb : DM X r1 b d2 r2) (hm : behindInMarks op b = false) : DM X r (.Compare a [op] [b] pos) d r2 := PE.wk (pe_cmpR ho ha hb hm) fun _ _ σ H Q _ q => tOp_M h q
theorem dTM_cmp {op : CmpOp} {rr : R2} (ho : OpR X (compareOp op) rr) (h : R2D rr d1 d2 (.bool k)) (ha : DM X r a d1 r1) (hb : DM X r1 b d2 r2) (hm : behindInMarks op b = false) : DTM X r (.Compare a [op] [b] pos) k r2 :=
  PT.wk (pt_cmpR ho ha hb hm) fun σ H Q ⟨Hs0, H0, Hs, A, q⟩ => tOp_M h ⟨Hs0, H0, Hs, A, fun v Hs' H' A' s' hv => ⟨k, hv.inv_bool, q Hs' H' A' s'⟩⟩
theorem dM_eqS (hu : X.A.units + 64 < cLine) (hd : depL d ≤ 60) (ha : DM X r a d r1) (hb : DM X r1 b d r2) : DM X r (.Compare a [.Eq] [b] pos) (.bool true) r2 := dM_cmp (op_eqP hu) (r2_eqS (neg := false) hd) ha hb (nomark _)
theorem dM_eqP (hu : X.A.units + 64 < cLine) (hd : min (depL d1) (depL d2) ≤ 60) (ha : DM X r a d1 r1) (hb : DM X r1 b d2 r2) : DM X r (.Compare a [.Eq] [b] pos) (.bool (eqL d1 d2)) r2 := dM_cmp (op_eqP hu) (r2_eqP hd) ha hb (nomark _)
theorem dTM_eqS (hu : X.A.units + 64 < cLine) (hd : depL d ≤ 60) (ha : DM X r a d r1) (hb : DM X r1 b d r2) : DTM X r (.Compare a [.Eq] [b] pos) true r2 := dTM_cmp (op_eqP hu) (r2_eqS (neg := false) hd) ha hb (nomark _)
theorem dTM_neS (hu : X.A.units + 64 < cLine) (hd : depL d ≤ 60) (ha : DM X r a d r1) (hb : DM X r1 b d r2) : DTM X r (.Compare a [.NotEq] [b] pos) false r2 := dTM_cmp (op_neP hu) (r2_eqS (neg := true) hd) ha hb (nomark _)
theorem dTM_eqP (hu : X.A.units + 64 < cLine) (hd : min (depL d1) (depL d2) ≤ 60) (ha : DM X r a d1 r1) (hb : DM X r1 b d2 r2) : DTM X r (.Compare a [.Eq] [b] pos) (eqL d1 d2) r2 := dTM_cmp (op_eqP hu) (r2_eqP hd) ha hb (nomark _)
theorem dTM_neP (hu : X.A.units + 64 < cLine) (hd : min (depL d1) (depL d2) ≤ 60) (ha : DM X r a d1 r1) (hb : DM X r1 b d2 r2) : DTM X r (.Compare a [.NotEq] [b] pos) (!eqL d1 d2) r2 := dTM_cmp (op_neP hu) (r2_eqP hd) ha hb (nomark _)
theorem dM_isN {kk : Nat} {p : Pos} (ha : DM X r a d r') : DM X r (.Compare a [.Is] [.Constant .none kk p] pos) (.bool (isNone d)) r' :=
  dM_cmp op_isN (fun x y Hs H Q hx hy hs q => ⟨hy.inv_none, by rw [hx.isN]; exact q _ Hs H (Grw.refl hs) (.bl _)⟩) ha de_non.M (nomark _)
theorem dTM_val (h : DM X r e (.bool k) r') (he : ∀ whole, isTrue e X.env whole = (do let v ← whole; standAt e.pos; holding [v] (truthy v)) := by intro _; rfl) : DTM X r e k r' :=
  PT.wk (pt_val h he) fun σ H Q ⟨Hs0, H0, Hs, A, q⟩ => ⟨Hs0, H0, Hs, A, fun v Hs' H' A' s' hv => ⟨k, hv.inv_bool, q Hs' H' A' s'⟩⟩
theorem dTM_not (h : DTM X r a k r') : DTM X r (.UnaryOp .Not a pos) (!k) r' := PT.wk (pt_not h) fun σ H Q ⟨Hs0, H0, Hs, A, q⟩ => ⟨Hs0, H0, Hs, A, q⟩
theorem DWM.dt (h : DWM X r e k r') : DTM X r e k r' := PW.pt h
theorem dWM_or1 (h : DTM X r a k r') : DWM X r (.BoolOp .Or [a] pos) k r' := pw_or1 h
theorem dWM_and1 (h : DTM X r a k r') : DWM X r (.BoolOp .And [a] pos) k r' := pw_and1 h
/-- the first one is false -/
theorem dWM_or (h : DTM X r a false r1) (h' : DWM X r1 (.BoolOp .Or (b :: rest) pos) k r2) : DWM X r (.BoolOp .Or (a :: b :: rest) pos) k r2 :=
  PW.wk (pw_or h h') fun σ H Q ⟨Hs0, H0, Hs, A, q⟩ => ⟨Hs0, H0, Hs, A, fun Hs' H' A' s' => iteF (⟨Hs0, H0, Hs', A', fun Hs2 H2 A2 s2 => q Hs2 H2 A2 (s'.trans s2)⟩)⟩
/-- the first one is true -/
theorem dWM_and (h : DTM X r a true r1) (h' : DWM X r1 (.BoolOp .And (b :: rest) pos) k r2) : DWM X r (.BoolOp .And (a :: b :: rest) pos) k r2 :=
  PW.wk (pw_and h h') fun σ H Q ⟨Hs0, H0, Hs, A, q⟩ => ⟨Hs0, H0, Hs, A, fun Hs' H' A' s' => iteT (⟨Hs0, H0, Hs', A', fun Hs2 H2 A2 s2 => q Hs2 H2 A2 (s'.trans s2)⟩)⟩
theorem dWM_andF (h : DTM X r a false r1) : DWM X r (.BoolOp .And (a :: b :: rest) pos) false r1 :=
  PW.wk (pw_and h pw_never) fun σ H Q ⟨Hs0, H0, Hs, A, q⟩ => ⟨Hs0, H0, Hs, A, fun Hs' H' A' s' => iteF (q Hs' H' A' s')⟩
theorem dM_one {op : PySem.BoolOp} (h : DM X r a d r') : DM X r (.BoolOp op [a] pos) d r' := pe_one h
theorem dM_and (h : DM X r a (.bool true) r1) (h' : DM X r1 (.BoolOp .And (b :: rest) pos) d r2) : DM X r (.BoolOp .And (a :: b :: rest) pos) d r2 :=
  PE.wk (pe_and h h') fun _ _ σ H Q _ ⟨Hs0, H0, Hs, A, q⟩ => ⟨Hs0, H0, Hs, A, fun v Hs' H' A' s' hv => ⟨true, hv.inv_bool, iteT (⟨Hs0, H0, Hs', A', fun v Hs2 H2 A2 s2 h2 => q v Hs2 H2 A2 (s'.trans s2) h2⟩)⟩⟩
theorem dM_ixT {n : Int} (ha : DM X r a (.tuple ds) r1) (hb : DM X r1 b (.int n) r2) (hk : atI ds n = some d) (hs : PlainIx b := by intro _ _; rfl) : DM X r (.Subscript a b pos) d r2 :=
  PE.wk (pe_ix ix_tup ha hb hs) fun _ _ σ H Q _ q => tOp_M (fun x y Hs H Q hx hy hs q => by
    obtain ⟨t, xs, rfl, ht, hxs⟩ := hx.inv_tuple
    obtain ⟨v, e1, hv⟩ := dats_at hxs hk
    exact ⟨t, xs, n, v, rfl, hy.inv_int, SqT.rd (Rd.same hs ht), e1, q v Hs H (Grw.refl hs) hv⟩) q
/-! ### arguments -/
theorem dAM_nil : DAM X r [] [] r := PA.wk pa_nil fun σ H Q ⟨Hs0, H0, Hs, A, q⟩ => q [] Hs H A (Same.refl Hs) .nil
theorem dAM_cons {ss : Rho} (h : DM X r e d r1) (t : DAM X r1 es ss r2) (hs : starEach (e :: es) X.env = (false, eval e X.env) :: starEach es X.env := by rfl) : DAM X r (e :: es) (.val d :: ss) r2 :=
  PA.wk (pa_cons h t hs) fun σ H Q ⟨Hs0, H0, Hs, A, q⟩ => ⟨Hs0, H0, Hs, A, fun v Hs1 H1 A1 s1 h1 => ⟨Hs0, H0, Hs1, A1, fun vs Hs2 H2 A2 s2 h2 => q _ Hs2 H2 A2 (s1.trans s2) (.cons (Dat.mono s2 h1) h2)⟩⟩
theorem dAM_1 (h : DM X r e d r1) (hs : starEach (e :: []) X.env = (false, eval e X.env) :: starEach [] X.env := by rfl) : DAM X r [e] [.val d] r1 := dAM_cons h dAM_nil hs
theorem dM_tup {kk : Nat} (h : DAM X r es (ds.map Slot.val) r') (hz : ds.length ≤ sizeLine) : DM X r (.Tuple es kk pos) (.tuple ds) r' :=
  PE.wk (pe_tup h) fun _ _ σ H Q _ ⟨Hs0, H0, Hs, A, q⟩ => ⟨Hs0, H0, Hs, A, fun vs Hs1 H1 A1 s1 h1 => ⟨by rw [h1.length, List.length_map]; exact hz, fun p hp =>
    q _ _ _ (A1.grow (Grw.laid (o := .tup vs) A1.g.sub hp)) (s1.trans (same_upd (A1.g.sub.free hp))) (.tup (.inl upd_same) (h1.dats.mono (same_upd (A1.g.sub.free hp))))⟩⟩
theorem dM_call {R : Rho → PyData → Prop} {as : Rho} {st : Stmt} {ps : List Str} {n : Nat} (D : Dfn X.K X.mg x st ps) (F : FnOk X.prog X.w X.K X.mg X.base CX0 n D.f D.fd ps (spF X.K R)) {n' : Nat} (hr : Room n' X.A) (hk : n ≤ n') (ha : DAM X r (e :: es) as r') (hR : R as d) (hg : Gl X x := by rfl)
    (hdb : (x == ("__debug__" : Str)) = false := by decide) (he : starEach (e :: es) X.env = (false, eval e X.env) :: starEach es X.env := by rfl) (hpl : (backTo pos (starEach es X.env)).any (·.1) = false := by rfl) : DM X r (.Call (.Name x p) (e :: es) [] pos) d r' :=
  PE.wk (pe_call F (hr.mono hk) hg D.g D.F.kp D.b .nil pass0 ha hdb he hpl) fun _ _ σ H Q _ ⟨Hs0, H0, Hs, A, q⟩ => ⟨Hs0, H0, Hs, A, fun vs Hs1 H1 A1 s1 h1 => by
    show spF X.K R (vs ++ []) H1 Q E0
    rw [List.append_nil]
    exact ⟨Hs1, as, d, A1.g.sub, h1, hR, fun v Hs2 H2 g2 h2 => q v Hs2 H2 (A1.grow g2) (s1.trans g2.st) h2⟩⟩
theorem dM_callB1 {id : String} {rc : List V → Hp → VK → Prop} (hc : CallR X (.builtin id) rc) (h : CRD rc [d1] d) (ha : DM X r e d1 r') (hm : X.mg x = none) (hv : bootBuiltins x = some (.builtin id)) (hg : Gl X x := by rfl) (hn : x ≠ "__name__" := by decide) (hdb : (x == ("__debug__" : Str)) = false := by decide)
    (he : starEach (e :: []) X.env = (false, eval e X.env) :: starEach [] X.env := by rfl) (hpl : (backTo pos (starEach [] X.env)).any (·.1) = false := by rfl) : DM X r (.Call (.Name x p) [e] [] pos) d r' :=
  PE.wk (pe_callB hc hg hm hv (pa_cons ha pa_nil he) hn hdb he hpl) fun _ _ σ H Q _ ⟨Hs0, H0, Hs, A, q⟩ => ⟨Hs0, H0, Hs, A, fun v Hs1 H1 A1 s1 h1 => h [v] Hs1 H1 Q (.cons h1 .nil) A1.g.sub fun u Hs2 H2 g2 h2 => q u Hs2 H2 (A1.grow g2) (s1.trans g2.st) h2⟩
/-! ### statements -/
theorem ds_setM (j : Nat) {y : Str} {pos' : Pos} (hN : X.N.Nodup) (he : DM X r e d r') (hp : P.nx (r'.set j (.val d))) (hi : X.N[j]? = some y := by rfl) (hx : Loc X.env.scope y := by first | exact Or.inl rfl | exact Or.inr rfl)
    (hs : swapsWith e (some (.Name y pos')) pos.line X.env = pure false := by rfl) (hf : X.fn y = true ∨ X.env.scope.names.lookup y = some .local := by first | exact .inl rfl | exact .inr rfl | assumption) : DS X E r (.Assign [.Name y pos'] e pos) P :=
  PS.wk (ps_set (i := j) hN hi hx he hs hf) fun _ _ D σ H _ ⟨Hs0, H0, Hs, A, w⟩ => ⟨Hs0, H0, Hs, A, fun v Hs' H' A' s' hv => w.nx _ _ Hs' H' hp (A'.setV hv) s'⟩
theorem ds_exprM (he : DM X r e d r') (hp : P.nx r') (hs : swapsWith e none pos.line X.env = pure false := by rfl) : DS X E r (.Expr e pos) P :=
  PS.wk (ps_expr he hs) fun _ _ D σ H _ ⟨Hs0, H0, Hs, A, w⟩ => ⟨Hs0, H0, Hs, A, fun v Hs' H' A' s' hv => w.nx _ _ Hs' H' hp A' s'⟩
theorem ds_retM (he : DM X r e d r') (hp : P.rt d) : DS X E r (.Return (some e) pos) P :=
  PS.wk (ps_ret he) fun _ _ D σ H _ ⟨Hs0, H0, Hs, A, w⟩ => ⟨Hs0, H0, Hs, A, fun v Hs' H' A' s' hv => w.rt d v Hs' H' hp A'.g hv⟩
theorem ds_retMo (he : DM X r e d r') (hp : P.ro d r') : DS X E r (.Return (some e) pos) P :=
  PS.wk (ps_ret he) fun _ _ D σ H _ ⟨Hs0, H0, Hs, A, w⟩ => ⟨Hs0, H0, Hs, A, fun v Hs' H' A' s' hv => w.ro d r' v σ Hs' H' hp A' hv⟩
theorem ds_ifM {as bs : List Stmt} (h : DTM X r c k r') (ha : k = true → DSs X E r' as P) (hb : k = false → DSs X E r' bs P) : DS X E r (.If c as bs pos) P := by
  cases k with
  | true => exact PS.wk (ps_if h (ha rfl) (pss_never (sts := bs))) fun _ _ D σ H _ ⟨Hs0, H0, Hs, A, w⟩ => ⟨Hs0, H0, Hs, A, fun Hs' H' A' s' => iteT ⟨Hs0, H0, Hs', A', w.st s'⟩⟩
  | false => exact PS.wk (ps_if h (pss_never (sts := as)) (hb rfl)) fun _ _ D σ H _ ⟨Hs0, H0, Hs, A, w⟩ => ⟨Hs0, H0, Hs, A, fun Hs' H' A' s' => iteF ⟨Hs0, H0, Hs', A', w.st s'⟩⟩
theorem dss_noM {as sts : List Stmt} (h : DTM X r c false r') (h' : DSs X E r' sts P) : DSs X E r (.If c as [] pos :: sts) P := dss_cons (ds_ifM h (fun z => by cases z) (fun _ => dss_nil rfl)) h'
theorem ds_appendM (i : Nat) {y : Str} {px pa cpos : Pos} (hr : r[i]? = some (.own ds)) (hr' : r'[i]? = some (.own ds)) (he : DM X r e d r') (hz : ds.length < sizeLine) (hp : P.nx (r'.set i (.own (ds ++ [d]))))
    (hN : X.N[i]? = some y := by rfl) (hv : Vis X.env.scope y := by first | exact Or.inl rfl | exact Or.inr (Or.inl rfl) | exact Or.inr (Or.inr rfl))
    (hd : (y == ("__debug__" : Str)) = false := by decide) (hcd : (y == ("__classdict__" : Str)) = false := by decide)
    (hs : swapsWith (.Call (.Attribute (.Name y px) "append" pa) [e] [] cpos) none pos.line X.env = pure false := by rfl) (hes : starEach [e] X.env = (false, eval e X.env) :: starEach [] X.env := by rfl)
    (hpe : ∀ {to t}, PE X (.Name y px) to → PA X [e] t → PE X (.Call (.Attribute (.Name y px) "append" pa) [e] [] cpos) (tBM X.K "list" rAppend to t) := by
      intro to t h1 h2; exact pe_bm PySem.F.plainAttrs_list PySem.F.slot_list_append PySem.F.type_list_append mt_append h1 h2) :
    DS X E r (.Expr (.Call (.Attribute (.Name y px) "append" pa) [e] [] cpos) pos) P :=
  PS.wk (ps_expr (hpe (pe_var (i := i) hN hv hd hcd) (pa_cons he pa_nil hes)) hs) fun _ _ D σ H _ ⟨Hs0, H0, Hs, A, w⟩ => by
    obtain ⟨p, vs, e1, h0, h1, h2, h3⟩ := A.at_ i _ hr
    refine ⟨_, e1, .inl ⟨rfl, vs, SqL.of h2⟩, Hs0, H0, Hs, A, fun u Hs1 H1 A1 s1 hu => ?_⟩
    obtain ⟨p', vs', e1', _, _, h2', h3'⟩ := A1.at_ i _ hr'
    rw [e1] at e1'
    injection e1' with e1'; injection e1' with e1'; injection e1' with e1'
    subst e1'
    exact ⟨p, vs', u, rfl, rfl, h2', by rw [h3'.length]; exact hz, w.nx _ _ Hs1 _ hp (A1.mut (Grw.refl A1.g.sub) hr' e1 (h3'.snoc hu)) s1⟩
/-- a thing with tables is read -/
theorem de_varT (i : Nat) {T : List (Addr × Str)} (hr : r[i]? = some (.valT d T) := by rfl) (hN : X.N[i]? = some x := by rfl) (hv : Vis X.env.scope x := by first | exact Or.inl rfl | exact Or.inr (Or.inl rfl) | exact Or.inr (Or.inr rfl))
    (hd : (x == ("__debug__" : Str)) = false := by decide) (hcd : (x == ("__classdict__" : Str)) = false := by decide) : DE X r (.Name x pos) d :=
  PE.wk (pe_var (i := i) hN hv hd hcd) fun pins s σ H Q I ⟨Hs0, H0, Hs, A, q⟩ => by
    obtain ⟨⟨v, e1, h1⟩, _⟩ := A.at_ i _ hr
    exact ⟨v, e1, q v Hs H (Grw.refl A.g.sub) h1⟩
end
section
variable {X : Cx} {r : Rho} {e : Expr} {es : List Expr} {pos p : Pos} {d : PyData} {k : Nat} {R : Rho → PyData → Prop} {as : Rho} {x y : Str} {st : Stmt} {ps : List Str}
/-- a def called by another name -/
theorem dcA (hA : X.mg y = some (.ref f)) (D : Dfn X.K X.mg x st ps) (F : FnOk X.prog X.w X.K X.mg X.base CX0 k D.f D.fd ps (spF X.K R)) {k' : Nat} (hr : Room k' X.A) (hk : k ≤ k') (ha : DA X r (e :: es) as) (hR : R as d) (hf : f = D.f := by rfl) (hg : Gl X y := by rfl)
    (hdb : (y == ("__debug__" : Str)) = false := by decide) (he : starEach (e :: es) X.env = (false, eval e X.env) :: starEach es X.env := by rfl) (hpl : (backTo pos (starEach es X.env)).any (·.1) = false := by rfl) : DE X r (.Call (.Name y p) (e :: es) [] pos) d :=
  de_call F (hr.mono hk) (hf ▸ hA) D.F.kp D.b ha hR hg hdb he hpl
end
/-! ## methods that raise; defs that are handed an object -/
theorem passesE {X : Cx} {E : XK} (tk : Takes X (WEx E)) : Passes (L2.CX X.prog X.w) X E := fun pins σ H s e s' I c => passAt tk σ pins H s e s' I c
theorem set_same {r : Rho} {i : Nat} {s : Slot} (h : r[i]? = some s) : r.set i s = r := List.ext_getElem? fun j => by
  rw [List.getElem?_set]
  by_cases z : i = j
  · subst z
    rw [if_pos rfl, h, if_pos (List.getElem?_eq_some_iff.mp h).1]
  · rw [if_neg z]
section
variable {X : Cx} {E : XK} {i : Nat} {r r' : Rho} {e o : Expr} {es : List Expr} {pos apos px p : Pos} {d : PyData} {ds : List PyData} {k : Nat} {m qual x y : Str} {st : Stmt} {ps : List Str} {C Ce a : Addr} {O O' : Ob} {as : Rho} {P : Post}
/-- x.m(..) raises -/
theorem dxM_meth (i : Nat) {R : Ob → Rho → Addr → Prop} (c : Cls X.K C) (D : Mtd X.K C m qual st ps) (F : FnOk X.prog X.w X.K X.mg X.base (L2.CX X.prog X.w) k D.f D.fd ps (spOE X.K R)) (tk : Takes X (WEx E)) {k' : Nat} (hr : Room k' X.A) (hk : k ≤ k') (hI : InsAt O C m) (ha : DA X r (e :: es) as) (hR : R O as Ce) (ho : r[i]? = some (.obj a O) := by rfl)
    (hN : X.N[i]? = some x := by rfl) (hv : Vis X.env.scope x := by first | exact Or.inl rfl | exact Or.inr (Or.inl rfl) | exact Or.inr (Or.inr rfl)) (hd : (x == ("__debug__" : Str)) = false := by decide) (hcd : (x == ("__classdict__" : Str)) = false := by decide)
    (hst : starEach (e :: es) X.env = (false, eval e X.env) :: starEach es X.env := by rfl) (hpl : (backTo pos (starEach es X.env)).any (·.1) = false := by rfl)
    {pl : Sem Bool} (ht : eval (.Call (.Attribute (.Name x px) m apos) (e :: es) [] pos) X.env = (do
      let ov ← eval (.Name x px) X.env
      standAt apos.atName
      let (f, first) ← holding [ov] (getMethod ov m pl)
      callWith pos f first (backTo pos (starEach (e :: es) X.env)) (backToKw pos (keywordEach [] X.env))) := by rfl) : DXM X (WEx E) r (.Call (.Attribute (.Name x px) m apos) (e :: es) [] pos) Ce r :=
  PE.wk (pe_meth (pe_var (i := i) hN hv hd hcd) c D.m F (hr.mono hk) D.b .nil (passesE tk) ha hst hpl ht) fun _ _ σ H Q _ ⟨Hs0, H0, Hs, A, q⟩ => by
    obtain ⟨Fp, A⟩ := A.ex
    obtain ⟨e1, hJ⟩ := A.fr.at_ i _ ho
    obtain ⟨dx, fs, h1, h2⟩ := hI Hs H a _ hJ
    refine ⟨_, e1, a, dx, fs, rfl, h1, h2, Hs0, H0, Hs, A.asn, fun vs Hs1 H1 g1 ha1 => ?_⟩
    have A1 := A.grow g1
    show spOE X.K R (V.ref a :: (vs ++ [])) H1 Q E
    rw [List.append_nil]
    refine ⟨Hs1, a, Fp i, vs, O, as, Ce, rfl, g1.sub, fun x z => (A1.fr.own i x z).2, O.chg g1.st (fun x _ o z => g1.all _ _ z) hJ, ha1, hR, fun Hs' H' G' mo j => ?_⟩
    obtain ⟨A2, m2⟩ := A1.put e1 mo j
    rw [set_same ho] at A2
    exact q Hs' H' A2.asn (g1.st.trans m2.st)
theorem dxM_meth0 (i : Nat) {R : Ob → Rho → Addr → Prop} (c : Cls X.K C) (D : Mtd X.K C m qual st ps) (F : FnOk X.prog X.w X.K X.mg X.base (L2.CX X.prog X.w) k D.f D.fd ps (spOE X.K R)) (tk : Takes X (WEx E)) {k' : Nat} (hr : Room k' X.A) (hk : k ≤ k') (hI : InsAt O C m) (hR : R O [] Ce) (ho : r[i]? = some (.obj a O) := by rfl)
    (hN : X.N[i]? = some x := by rfl) (hv : Vis X.env.scope x := by first | exact Or.inl rfl | exact Or.inr (Or.inl rfl) | exact Or.inr (Or.inr rfl)) (hd : (x == ("__debug__" : Str)) = false := by decide) (hcd : (x == ("__classdict__" : Str)) = false := by decide)
    {pl : Sem Bool} (ht : eval (.Call (.Attribute (.Name x px) m apos) [] [] pos) X.env = (do
      let ov ← eval (.Name x px) X.env
      standAt apos.atName
      let (f, first) ← holding [ov] (getMethod ov m pl)
      callWith pos f first (backTo pos (starEach [] X.env)) (backToKw pos (keywordEach [] X.env))) := by rfl) : DXM X (WEx E) r (.Call (.Attribute (.Name x px) m apos) [] [] pos) Ce r :=
  PE.wk (pe_meth0 (pe_var (i := i) hN hv hd hcd) c D.m F (hr.mono hk) D.b .nil (passesE tk) ht) fun _ _ σ H Q _ ⟨Hs0, H0, Hs, A, q⟩ => by
    obtain ⟨Fp, A⟩ := A.ex
    obtain ⟨e1, hJ⟩ := A.fr.at_ i _ ho
    obtain ⟨dx, fs, h1, h2⟩ := hI Hs H a _ hJ
    refine ⟨_, e1, a, dx, fs, rfl, h1, h2, ?_⟩
    refine ⟨Hs, a, Fp i, [], O, [], Ce, rfl, A.g.sub, fun x z => (A.fr.own i x z).2, hJ, .nil, hR, fun Hs' H' G' mo j => ?_⟩
    obtain ⟨A2, m2⟩ := A.put e1 mo j
    rw [set_same ho] at A2
    exact q Hs' H' A2.asn m2.st
/-- C(..).m() raises -/
theorem dx_methT0 {R : Ob → Rho → Addr → Prop} (c : Cls X.K C) (D : Mtd X.K C m qual st ps) (F : FnOk X.prog X.w X.K X.mg X.base (L2.CX X.prog X.w) k D.f D.fd ps (spOE X.K R)) (tk : Takes X (WEx E)) {k' : Nat} (hr : Room k' X.A) (hk : k ≤ k') (hI : InsAt O C m) (h0 : DRo X r o O) (hR : R O [] Ce)
    {pl : Sem Bool} (ht : eval (.Call (.Attribute o m apos) [] [] pos) X.env = (do
      let ov ← eval o X.env
      standAt apos.atName
      let (f, first) ← holding [ov] (getMethod ov m pl)
      callWith pos f first (backTo pos (starEach [] X.env)) (backToKw pos (keywordEach [] X.env))) := by rfl) : DX X (WEx E) r (.Call (.Attribute o m apos) [] [] pos) Ce :=
  PE.wk (pe_meth0 h0 c D.m F (hr.mono hk) D.b .nil (passesE tk) ht) fun _ _ σ H Q _ ⟨Hs0, H0, Hs, A, q⟩ => ⟨Hs0, H0, Hs, A, fun a Hs1 H1 G g1 hG hJ => by
    obtain ⟨dx, fs, h1, h2⟩ := hI Hs1 H1 a G hJ
    refine ⟨a, dx, fs, rfl, h1, h2, ?_⟩
    refine ⟨Hs1, a, G, [], O, [], Ce, rfl, g1.sub, fun x z => ⟨(hG x z).2.1, (hG x z).2.2⟩, hJ, .nil, hR, fun Hs' H' G' mo _ => ?_⟩
    exact q Hs' H' (g1.trans' hG mo)⟩
/-- C(..).m() -/
theorem de_methT0 {R : Ob → Rho → Ob → PyData → Prop} (c : Cls X.K C) (D : Mtd X.K C m qual st ps) (F : FnOk X.prog X.w X.K X.mg X.base CX0 k D.f D.fd ps (spO X.K R)) {k' : Nat} (hr : Room k' X.A) (hk : k ≤ k') (hI : InsAt O C m) (h0 : DRo X r o O) (hR : R O [] O' d)
    {pl : Sem Bool} (ht : eval (.Call (.Attribute o m apos) [] [] pos) X.env = (do
      let ov ← eval o X.env
      standAt apos.atName
      let (f, first) ← holding [ov] (getMethod ov m pl)
      callWith pos f first (backTo pos (starEach [] X.env)) (backToKw pos (keywordEach [] X.env))) := by rfl) : DE X r (.Call (.Attribute o m apos) [] [] pos) d :=
  PE.wk (pe_meth0 h0 c D.m F (hr.mono hk) D.b .nil pass0 ht) fun _ _ σ H Q _ ⟨Hs0, H0, Hs, A, q⟩ => ⟨Hs0, H0, Hs, A, fun a Hs1 H1 G g1 hG hJ => by
    obtain ⟨dx, fs, h1, h2⟩ := hI Hs1 H1 a G hJ
    refine ⟨a, dx, fs, rfl, h1, h2, ?_⟩
    refine ⟨Hs1, a, G, [], O, [], O', d, rfl, g1.sub, fun x z => ⟨(hG x z).2.1, (hG x z).2.2⟩, hJ, .nil, hR, fun v Hs' H' G' mo _ hv => ?_⟩
    exact q v Hs' H' (g1.trans' hG mo) hv⟩
/-- f(x, ..), x the object at the slot i -/
theorem do_callO (i : Nat) {R : Ob → Rho → Ob → PyData → Prop} (D : Dfn X.K X.mg y st ps) (F : FnOk X.prog X.w X.K X.mg X.base CX0 k D.f D.fd ps (spO X.K R)) {k' : Nat} (hr : Room k' X.A) (hk : k ≤ k') (ha : DA X r es as) (hR : R O as O' d) (ho : r[i]? = some (.obj a O) := by rfl)
    (hN : X.N[i]? = some x := by rfl) (hv : Vis X.env.scope x := by first | exact Or.inl rfl | exact Or.inr (Or.inl rfl) | exact Or.inr (Or.inr rfl)) (hd : (x == ("__debug__" : Str)) = false := by decide) (hcd : (x == ("__classdict__" : Str)) = false := by decide) (hg : Gl X y := by rfl)
    (hdb : (y == ("__debug__" : Str)) = false := by decide) (he : starEach (.Name x px :: es) X.env = (false, eval (.Name x px) X.env) :: starEach es X.env := by rfl) (hpl : (backTo pos (starEach es X.env)).any (·.1) = false := by rfl) : DOb X i r (.Call (.Name y p) (.Name x px :: es) [] pos) d (r.set i (.obj a O')) :=
  PE.wk (pe_call F (hr.mono hk) hg D.g D.F.kp D.b .nil pass0 (pa_cons (pe_var (i := i) hN hv hd hcd) ha he) hdb he hpl) fun _ _ σ H Q _ ⟨Hs0, H0, Hs, Fp, A, q⟩ => by
    obtain ⟨e1, hJ⟩ := A.fr.at_ i _ ho
    refine ⟨_, e1, Hs0, H0, Hs, A.asn, fun vs Hs1 H1 g1 ha1 => ?_⟩
    have A1 := A.grow g1
    show spO X.K R ((V.ref a :: vs) ++ []) H1 Q E0
    rw [List.append_nil]
    refine ⟨Hs1, a, Fp i, vs, O, as, O', d, rfl, g1.sub, fun x z => (A1.fr.own i x z).2, O.chg g1.st (fun x _ o z => g1.all _ _ z) hJ, ha1, hR, fun v Hs' H' G' mo j hv => ?_⟩
    obtain ⟨A2, m2⟩ := A1.put e1 mo j
    exact q v Hs' H' _ ((Mv.grw g1).trans m2) A2 hv
/-- f(C(..)), the object is forgotten behind it -/
theorem de_callRo {R : Ob → Rho → Ob → PyData → Prop} (D : Dfn X.K X.mg y st ps) (F : FnOk X.prog X.w X.K X.mg X.base CX0 k D.f D.fd ps (spO X.K R)) {k' : Nat} (hr : Room k' X.A) (hk : k ≤ k') (h0 : DRo X r o O) (hR : R O [] O' d) (hg : Gl X y := by rfl)
    (hdb : (y == ("__debug__" : Str)) = false := by decide) (he : starEach (o :: []) X.env = (false, eval o X.env) :: starEach [] X.env := by rfl) (hpl : (backTo pos (starEach [] X.env)).any (·.1) = false := by rfl) : DE X r (.Call (.Name y p) [o] [] pos) d :=
  PE.wk (pe_call F (hr.mono hk) hg D.g D.F.kp D.b .nil pass0 (pa_cons h0 pa_nil he) hdb he hpl) fun _ _ σ H Q _ ⟨Hs0, H0, Hs, A, q⟩ => ⟨Hs0, H0, Hs, A, fun a Hs1 H1 G g1 hG hJ => by
    show spO X.K R ([V.ref a] ++ []) H1 Q E0
    rw [List.append_nil]
    exact ⟨Hs1, a, G, [], O, [], O', d, rfl, g1.sub, fun x z => ⟨(hG x z).2.1, (hG x z).2.2⟩, hJ, .nil, hR, fun v Hs' H' G' mo _ hv => q v Hs' H' (g1.trans' hG mo) hv⟩⟩
end
/-! ## a lambda whose body may change the slots -/
section
variable {X : Cx} {r r' : Rho} {st : Stmt} {P c : Addr} {cl : Nat → Addr} {k : Nat} {scope : Scope} {params : Arguments} {body : Expr} {d : PyData} {Ng : List Str} {p lpos pos : Pos}
theorem dM_told (i : Nat) {s : Slot} (D : Dfn X.K X.mg "_law_told" st ["deed"]) (Sg : FnScope Ng ["deed"] (defScope st)) (hG : ∀ cdv q, LamX.GivesTo X Ng "_law_told" (defScope st) D.f cdv (defBody st) "deed" q (TTt cl)) (TB : LamX.TabB X.base X.mg c P) (hcode : X.env.code = .ref c) (room : Room (k + 2) X.A)
    (hbody : ∀ (A : Around) (outer : List Env) (s : Shared) (H : Hp) (E : XK) (f c' : Addr), Room k (A.deeper (LamX.lamEnv X scope s.heap.objs.size f c')) → DM (LamX.lamCx X A outer s H E scope f c') r body d r') (L : LamX.LamS X.env.scope scope)
    {ql : Str} (hmT : (P, ql) ∈ tabsOf s) (hu : ∀ p ∈ tabsOf s, p.1 = P → p.2 = ql) (hql : X.env.qual ++ "<lambda>" = ql := by rfl)
    (hr : r[i]? = some s := by rfl) (hs : tabS s = true := by rfl) (hn : restOk i r = true := by rfl) (hg : Gl X "_law_told" := by rfl) (hNg : Ng[0]? = some ("deed" : Str) := by rfl) (hva : Vis (defScope st) "deed" := by exact Or.inl rfl) (hdef : defaultsOf params X.env = ([], []) := by rfl)
    (hbind : ∀ (q : Str) (cl : List (Str × Addr)) (pm cv ctv : Value), bindArgs (PySem.W.kla_fn "<lambda>" q params body scope cl pm cv ctv) ⟨[], []⟩ = pure [] := by intros; rfl) : DM X r (.Call (.Name "_law_told" p) [.Lambda params body scope lpos] [] pos) (toldD d) r' := by
  obtain ⟨oc, od, kV, doc, pm, an, cdv, ct, osl, hfd, lk, hcd⟩ := D.F.ex
  have hb := D.b
  rw [hfd] at lk hb
  exact PE.wk (LamX.pe_lamcall (T := tabsOf s) hg D.g D.F.kp lk hcd hb Sg hNg hva (hG cdv _) TB hcode (by rw [hql]; exact hmT) (by rw [hql]; exact hu) room L hdef hbind (t := fun _ => tDM X.K r d r') hbody) fun _ _ σ H Q _ ⟨Hs0, H0, Hs, A, q⟩ => ⟨A.tabsT hr hs, fun H1 eN T1 => by
    obtain ⟨Hs1, A1, s1, _⟩ := A.lamT hr hs hn eN T1
    exact ⟨Hs0, H0, Hs1, A1, fun v Hs' H' A' s' hv => ⟨d, Hs', A'.g.sub, hv, fun v' Hs'' H'' g2 hv' => q v' Hs'' H'' (A'.grow g2) (s1.trans (s'.trans g2.st)) hv'⟩⟩⟩
theorem dM_refused (i : Nat) {s : Slot} {j : Nat} (hj : j < 4) (D : Dfn X.K X.mg "_law_told" st ["deed"]) (Sg : FnScope Ng ["deed"] (defScope st)) (hG : ∀ cdv q, LamX.GivesTo X Ng "_law_told" (defScope st) D.f cdv (defBody st) "deed" q (TTt cl)) (TB : LamX.TabB X.base X.mg c P) (hcode : X.env.code = .ref c) (room : Room (k + 2) X.A)
    (hbody : ∀ (A : Around) (outer : List Env) (s : Shared) (H : Hp) (E : XK) (f c' : Addr), Room k (A.deeper (LamX.lamEnv X scope s.heap.objs.size f c')) → Takes (LamX.lamCx X A outer s H E scope f c') (WEx E) → DXM (LamX.lamCx X A outer s H E scope f c') (WEx E) r body (cl j) r') (L : LamX.LamS X.env.scope scope)
    {ql : Str} (hmT : (P, ql) ∈ tabsOf s) (hu : ∀ p ∈ tabsOf s, p.1 = P → p.2 = ql) (hql : X.env.qual ++ "<lambda>" = ql := by rfl)
    (hr : r[i]? = some s := by rfl) (hs : tabS s = true := by rfl) (hn : restOk i r = true := by rfl) (hg : Gl X "_law_told" := by rfl) (hNg : Ng[0]? = some ("deed" : Str) := by rfl) (hva : Vis (defScope st) "deed" := by exact Or.inl rfl) (hdef : defaultsOf params X.env = ([], []) := by rfl)
    (hbind : ∀ (q : Str) (cl : List (Str × Addr)) (pm cv ctv : Value), bindArgs (PySem.W.kla_fn "<lambda>" q params body scope cl pm cv ctv) ⟨[], []⟩ = pure [] := by intros; rfl) : DM X r (.Call (.Name "_law_told" p) [.Lambda params body scope lpos] [] pos) (refD j) r' := by
  obtain ⟨oc, od, kV, doc, pm, an, cdv, ct, osl, hfd, lk, hcd⟩ := D.F.ex
  have hb := D.b
  rw [hfd] at lk hb
  exact PE.wk (LamX.pe_lamcall (T := tabsOf s) hg D.g D.F.kp lk hcd hb Sg hNg hva (hG cdv _) TB hcode (by rw [hql]; exact hmT) (by rw [hql]; exact hu) room L hdef hbind (t := fun E => tXM X.K (WEx E) r (cl j) r') fun A outer s H E f c' hr' => hbody A outer s H E f c' hr' (takes_of rfl rfl rfl rfl)) fun _ _ σ H Q _ ⟨Hs0, H0, Hs, A, q⟩ => ⟨A.tabsT hr hs, fun H1 eN T1 => by
    obtain ⟨Hs1, A1, s1, _⟩ := A.lamT hr hs hn eN T1
    exact ⟨Hs0, H0, Hs1, A1, fun Hs' H' A' s' => ⟨rfl, j, Hs', hj, rfl, A'.g.sub, fun v' Hs'' H'' g2 hv' => q v' Hs'' H'' (A'.grow g2) (s1.trans (s'.trans g2.st)) hv'⟩⟩⟩
theorem DX.M {X : Cx} {W : WX} {r : Rho} {e : Expr} {C : Addr} (h : DX X W r e C) : DXM X W r e C r := PE.wk h fun _ _ σ H Q _ ⟨Hs0, H0, Hs, A, q⟩ => ⟨Hs0, H0, Hs, A, fun Hs' H' g => q Hs' H' (A.grow g) g.st⟩
end
end Dl

namespace Dl
open PySem L2 PySem.W PyProof.Rows PySem.Spec
/-! ## a thing beside the slots that stays while they change -/
theorem AsnF.frame {K : PySem.W.Frag} {Hs0 H0 : Hp} {r : Rho} {σ : L2.St} {Hs H : Hp} {F : Nat → List Addr} {D : Addr} {o : HO} (A : AsnF K Hs0 H0 r σ Hs H F) (hD : H D = some o) (n1 : Hs D = none) (nF : ∀ j, D ∉ F j) (nt : ∀ ps, o ≠ .tbl ps) (nc : ∀ q, o ≠ LamX.CodeO D q) : AsnF K Hs0 (upd H0 D o) r σ Hs H F := by
  refine ⟨⟨fun b u z => ?_, A.g.st, A.g.sub, fun b z => ?_, A.g.nt⟩, ⟨A.fr.at_, fun j x m => ?_, A.fr.dist, fun j s e ht => ?_⟩, A.len⟩
  · by_cases w : b = D
    · rw [w, upd_same] at z; rw [w, hD]; exact z
    · rw [upd_ne w] at z; exact A.g.all b u z
  · by_cases w : b = D
    · rw [w, n1] at z; exact absurd rfl z
    · rw [upd_ne w]; exact A.g.new b z
  · obtain ⟨h0, h1⟩ := A.fr.own j x m
    exact ⟨by rw [upd_ne (show x ≠ D from fun w => nF j (by rw [← w]; exact m))]; exact h0, h1⟩
  · obtain ⟨t1, t2, t3⟩ := A.fr.tb j s e ht
    refine ⟨fun b q z => ?_, t2, fun b ps z => ?_⟩
    · by_cases w : b = D
      · rw [w, upd_same] at z; injection z with z; exact absurd z (nc q)
      · rw [upd_ne w] at z; exact t1 b q z
    · by_cases w : b = D
      · rw [w, upd_same] at z; injection z with z; exact absurd z (nt ps)
      · rw [upd_ne w] at z; exact t3 b ps z
theorem AsnF.unframe {K : PySem.W.Frag} {Hs0 H0 : Hp} {r : Rho} {σ : L2.St} {Hs H : Hp} {F : Nat → List Addr} {D : Addr} {o : HO} (A : AsnF K Hs0 (upd H0 D o) r σ Hs H F) (n0 : H0 D = none) (s0 : Hs0 D = none) : AsnF K Hs0 H0 r σ Hs H F ∧ H D = some o ∧ Hs D = none ∧ ∀ j, D ∉ F j := by
  have up : ∀ b u, H0 b = some u → upd H0 D o b = some u := fun b u z => by rw [upd_ne (fun w => by rw [w, n0] at z; cases z)]; exact z
  have dn : ∀ b, upd H0 D o b = none → H0 b = none := fun b z => by
    by_cases w : b = D
    · rw [w]; exact n0
    · rw [upd_ne w] at z; exact z
  refine ⟨⟨⟨fun b u z => A.g.all b u (up b u z), A.g.st, A.g.sub, fun b z => (A.g.new b z).imp id (dn b), A.g.nt⟩, ⟨A.fr.at_, fun j x m => ?_, A.fr.dist, fun j s e ht => ?_⟩, A.len⟩, A.g.all D o upd_same, ?_, fun j m => ?_⟩
  · obtain ⟨h0, h1⟩ := A.fr.own j x m
    exact ⟨dn x h0, h1⟩
  · obtain ⟨t1, t2, t3⟩ := A.fr.tb j s e ht
    exact ⟨fun b q z => t1 b q (up b _ z), t2, fun b ps z => t3 b ps (up b _ z)⟩
  · cases z : Hs D with
    | none => rfl
    | some u =>
      rcases A.g.new D (by rw [z]; simp) with w | w
      · exact absurd s0 w
      · rw [upd_same] at w; cases w
  · have := (A.fr.own j D m).1
    rw [upd_same] at this; cases this
/-- a list beside the slots becomes a name's own -/
theorem AsnF.putL {K : PySem.W.Frag} {Hs0 H0 : Hp} {r : Rho} {σ : L2.St} {Hs H : Hp} {F : Nat → List Addr} {D : Addr} {vs : List V} {ds : List PyData} {j : Nat} (A : AsnF K Hs0 H0 r σ Hs H F) (n0 : H0 D = none) (n1 : Hs D = none) (nF : ∀ j, D ∉ F j) (hD : H D = some (.lst vs)) (hd : Dats Hs vs ds) : Asn K Hs0 H0 (r.set j (.own ds)) (σ.set j (some (.ref D))) Hs H :=
  ⟨A.g, ⟨_, A.fr.put j (.own ds) [D] set_other (Same.refl Hs) (A.fr.stay j) (fun w => ⟨D, vs, List.mem_singleton.mpr rfl, set_at (by rw [← A.len]; exact w), hD, hd⟩) (fun x m => by rw [List.mem_singleton.mp m]; exact ⟨n0, n1, by rw [hD]; simp⟩) (fun k _ x m => by rw [List.mem_singleton.mp m]; exact nF k)⟩, by rw [List.length_set, List.length_set, A.len]⟩
theorem lst_ne_code {vs : List V} {c : Addr} {q : Str} : HO.lst vs ≠ LamX.CodeO c q := fun z => by unfold LamX.CodeO at z; cases z
section
variable {X : Cx} {E : XK} {r : Rho} {P : Post}
/-- y = [elt for name in iter], y a local; the turns change the slots -/
theorem ds_setLcM (j k : Nat) {α : Type} {xs : List α} {rep : α → PyData} {g : Nat → PyData} (Rk : Nat → Rho) {y name : Str} {py spos pos tpos : Pos} {elt iter : Expr} {scope : Scope} (own : List (Str × Nat)) (how : own.map (·.2) = [k]) (hc : X.calm = true) (hN : X.N.Nodup) (hi0 : X.N[k]? = some name) (ok : BlkOk X.N X.env.scope scope own)
    (hloc : ∀ s H C cl fp, Loc (Blk X scope s H C cl fp).env.scope name ∧ ((Blk X scope s H C cl fp).fn name = true ∨ (Blk X scope s H C cl fp).env.scope.names.lookup name = some .local))
    (h0 : r = Rk 0) (hu : ∀ n, (Rk n)[k]? = some .un) (hi : DI X r (.Name name tpos) iter (xs.map rep)) (helt : ∀ (n : Nat) x, xs[n]? = some x → ∀ s H C cl fp, DM (Blk X scope s H C cl fp) ((Rk n).set k (.val (rep x))) elt (g n) ((Rk (n + 1)).set k (.val (rep x))))
    (hp : P.nx ((Rk xs.length).set j (.own ((List.range xs.length).map g))))
    (hsw : swapsWith (.ListComp elt [⟨.Name name tpos, iter, [], 0⟩] scope pos) (some (.Name y py)) spos.line X.env = pure true) (hy : X.N[j]? = some y := by rfl) (hyl : X.env.scope.names.lookup y = some .local := by rfl)
    (hs : ∀ x, foldedSetIterable iter X.env x = pure x := by intro _; rfl) : DS X E r (.Assign [.Name y py] (.ListComp elt [⟨.Name name tpos, iter, [], 0⟩] scope pos) spos) P := by
  subst h0
  refine PS.wk (ps_setLc (own := own) (spos := spos) (i := j) (g := gName k) (tt := fun _ H Q => Q true H)
    (te := fun σ H Q => ∃ (n : Nat) (x : α), xs[n]? = some x ∧ tDM X.K ((Rk n).set k (.val (rep x))) (g n) ((Rk (n + 1)).set k (.val (rep x))) σ H Q)
    hc hN hy hyl hsw hi ok (fun s H C cl fp => pg_name (i := k) hN hi0 (hloc s H C cl fp).1 (hloc s H C cl fp).2)
    (fun s H C cl fp => ⟨fun pins s' σ H' Q I z => pts_nil.run pins s' σ H' Q I z⟩) (fun s H C cl fp => ⟨fun pins s' σ H' Q I ⟨n, x, hx, z⟩ => (helt n x hx s H C cl fp).run pins s' σ H' Q I z⟩) hs) fun _ _ D0 σ H _ ⟨Hs0, H0, Hs, A, w⟩ => ?_
  rw [how]
  refine ⟨Hs0, H0, Hs, A, fun J Hs' H' g0 ok' hz D hD => ?_⟩
  rw [List.length_map] at hz
  obtain ⟨F', A'⟩ := (A.grow g0).ex
  have h0D : H0 D = none := A'.g.all.free hD
  have s0D : Hs0 D = none := (A'.g.st.trans A'.g.sub).free hD
  have nD : ∀ j, D ∉ F' j := fun j z => (A'.fr.own j D z).2.2 hD
  have hl : (xs.map rep).length = xs.length := List.length_map ..
  refine ⟨fun n m H1 => n + m = xs.length ∧ ∃ Hs1 F1 vs, AsnF X.K Hs0 H0 (Rk n) σ Hs1 H1 F1 ∧ Same Hs' Hs1 ∧ H1 D = some (.lst vs) ∧ Hs1 D = none ∧ (∀ j, D ∉ F1 j) ∧ Dats Hs1 vs ((List.range n).map g), ⟨xs.length, by omega, Hs', F', [], A'.grow (Grw.laidO A'.g.sub hD), Same.refl _, upd_same, A'.g.sub.free hD, nD, .nil⟩, fun n m H1 ⟨em, Hs1, F1, vs, A1, m1, h1, h2, h3, h4⟩ => ?_⟩
  obtain ⟨o1, o2⟩ := ok' n Hs1 H1 m1 A1.g.sub
  by_cases hn : n < xs.length
  · have e0 : (xs.map rep)[n]? = some (rep xs[n]) := by rw [List.getElem?_map, List.getElem?_eq_getElem hn]; rfl
    refine .inr ⟨(o1 _ e0).1, fun H2 => ∃ Hs1 F1 vs, AsnF X.K Hs0 H0 (Rk (n + 1)) σ Hs1 H2 F1 ∧ Same Hs' Hs1 ∧ H2 D = some (.lst vs) ∧ Hs1 D = none ∧ (∀ j, D ∉ F1 j) ∧ Dats Hs1 vs ((List.range (n + 1)).map g), fun H2 ⟨Hs2, F2, vs2, a1, a2, a3, a4, a5, a6⟩ => ⟨m - 1, by omega, by omega, Hs2, F2, vs2, a1, a2, a3, a4, a5, a6⟩, fun v H2 hy2 => ?_⟩
    obtain ⟨Hs2, g2, hv⟩ := (o1 _ e0).2 v H2 hy2
    have A2 := A1.grow g2
    have D2 : H2 D = some (.lst vs) := g2.all _ _ h1
    have n2 : Hs2 D = none := g2.stay h2 h1
    have B2 := (A2.frame D2 n2 h3 (fun _ z => by cases z) (fun q => lst_ne_code)).asn
    have C2 : Asn X.K Hs0 (upd H0 D (.lst vs)) ((Rk n).set k (.val (rep xs[n]))) ((L2.wipe σ [k]).set k (some v)) Hs2 H2 := by
      have w1 : Asn X.K Hs0 (upd H0 D (.lst vs)) (Rk n) (L2.wipe σ [k]) Hs2 H2 := B2.weak (by rw [L2.wipe_length]; exact B2.len) fun i s e => by
        by_cases z : i = k
        · rw [z, hu n] at e; injection e with e; exact .inl e.symm
        · exact .inr ⟨e, wipe_out (by simp [z])⟩
      exact w1.setV hv
    refine ⟨?_, iteT ⟨n, xs[n], List.getElem?_eq_getElem hn, Hs0, _, Hs2, C2, fun u Hs5 H5 A5 s5 hu5 => ?_⟩⟩
    · rw [wipe_eq (σ := L2.wipe σ [k]) (List.length_set ..) fun j hj => List.getElem?_set_ne (fun z => hj (by rw [z]; exact List.mem_singleton.mpr rfl)), wipe_idem]
    · have A6 : Asn X.K Hs0 (upd H0 D (.lst vs)) (Rk (n + 1)) σ Hs5 H5 := A5.weak (by
          have := A5.len
          rw [List.length_set, List.length_set, L2.wipe_length] at this
          exact this) fun i s e => by
        by_cases z : i = k
        · rw [z, hu (n + 1)] at e; injection e with e; exact .inl e.symm
        · refine .inr ⟨by rw [List.getElem?_set_ne (Ne.symm z)]; exact e, ?_⟩
          rw [List.getElem?_set_ne (Ne.symm z)]
          exact (wipe_out (by simp [z])).symm
      obtain ⟨F6, A6⟩ := A6.ex
      obtain ⟨A7, d7, s7, f7⟩ := A6.unframe h0D s0D
      refine ⟨vs, d7, ?_, Hs5, F6, vs ++ [u], ?_, m1.trans (g2.st.trans s5), upd_same, s7, f7, ?_⟩
      · rw [h4.length, List.length_map, List.length_range]
        omega
      · refine ⟨A7.g.mut h0D s7, ⟨fun j s z => (A7.fr.at_ j s z).chg (Same.refl _) fun x hx o w => ?_, fun j x hx => ?_, A7.fr.dist, A7.fr.tb⟩, A7.len⟩
        · rw [upd_ne (show x ≠ D from fun u => f7 j (by rw [← u]; exact hx))]; exact w
        · obtain ⟨b0, b1, b2⟩ := A7.fr.own j x hx
          exact ⟨b0, b1, by rw [upd_ne (show x ≠ D from fun u => f7 j (by rw [← u]; exact hx))]; exact b2⟩
      · rw [List.range_succ, List.map_append]
        exact (h4.mono (g2.st.trans s5)).snoc hu5
  · have e : n = xs.length := by omega
    subst e
    refine .inl ⟨o2 hl, ?_⟩
    exact w.nx _ _ Hs1 H1 hp (A1.putL h0D h2 h3 h1 h4) (g0.st.trans m1)
end
end Dl

namespace Dl
open PySem L2 PySem.W PyProof.Rows PySem.Spec
theorem Forg.set : ∀ {r r' : Rho}, Forg r r' → ∀ (i : Nat) (s : Slot), Forg (r.set i s) (r'.set i s)
  | [], [], h, _, _ => h
  | [], _ :: _, h, _, _ => h.elim
  | _ :: _, [], h, _, _ => h.elim
  | _ :: _, _ :: _, h, 0, _ => ⟨.inr rfl, h.2⟩
  | _ :: _, _ :: _, h, i + 1, s => ⟨h.1, Forg.set h.2 i s⟩
theorem forg_trans : ∀ {a b c : Rho}, Forg a b → Forg b c → Forg a c
  | [], [], [], _, _ => trivial
  | [], _ :: _, _, h, _ => h.elim
  | _ :: _, [], _, h, _ => h.elim
  | [], [], _ :: _, _, h => h.elim
  | _ :: _, _ :: _, [], _, h => h.elim
  | _ :: _, _ :: _, _ :: _, h, g => ⟨by
    rcases g.1 with z | z
    · exact .inl z
    · rcases h.1 with y | y
      · exact .inl (z.trans y)
      · exact .inr (z.trans y), forg_trans h.2 g.2⟩
section
variable {X : Cx} {E : XK} {r : Rho} {P : Post} {x y : Str} {pos : Pos}
/-- x, y = C(..), D(..), two new objects -/
theorem ds_2obj (i j : Nat) {ea eb : Expr} {px py pt pt2 : Pos} {kt k2 : Nat} {O1 O2 : Ob} (hc : X.calm = true) (hN : X.N.Nodup) (h1 : DRo X r ea O1) (h2 : DRo X r eb O2) (hp : ∀ a b, P.nx ((r.set i (.obj a O1)).set j (.obj b O2)))
    (hi : X.N[i]? = some x := by rfl) (hj : X.N[j]? = some y := by rfl) (hx : Loc X.env.scope x := by first | exact Or.inl rfl | exact Or.inr rfl) (hy : Loc X.env.scope y := by first | exact Or.inl rfl | exact Or.inr rfl)
    (hf : X.fn x = true ∨ X.env.scope.names.lookup x = some .local := by first | exact .inl rfl | exact .inr rfl | assumption) (hf2 : X.fn y = true ∨ X.env.scope.names.lookup y = some .local := by first | exact .inl rfl | exact .inr rfl | assumption)
    (e1 : starEach (ea :: [eb]) X.env = (false, eval ea X.env) :: starEach [eb] X.env := by rfl) (e2 : starEach (eb :: []) X.env = (false, eval eb X.env) :: starEach [] X.env := by rfl)
    (hn : (assignEach [.Name x px, .Name y py] X.env).length = 2 := by rfl) (hst : (assignEach [.Name x px, .Name y py] X.env).findIdx? (·.1) = none := by rfl)
    (q1 : (assignEach (.Name x px :: [.Name y py]) X.env).map (·.2) = assign (.Name x px) X.env :: (assignEach [.Name y py] X.env).map (·.2) := by rfl) (q2 : (assignEach (.Name y py :: []) X.env).map (·.2) = assign (.Name y py) X.env :: (assignEach [] X.env).map (·.2) := by rfl)
    (hs : swapsWithSole [.Tuple [.Name x px, .Name y py] kt pt] (.Tuple [ea, eb] k2 pt2) pos.line X.env = pure false := by rfl) (hw : swappedStores [.Tuple [.Name x px, .Name y py] kt pt] (.Tuple [ea, eb] k2 pt2) X.env = pure none := by rfl)
    (h3 : (assignEach [.Tuple [.Name x px, .Name y py] kt pt] X.env).map (·.2) = [assign (.Tuple [.Name x px, .Name y py] kt pt) X.env] := by rfl) : DS X E r (.Assign [.Tuple [.Name x px, .Name y py] kt pt] (.Tuple [ea, eb] k2 pt2) pos) P := by
  refine PS.wk (ps_asg (pe_tup (pa_cons h1 (pa_cons h2 pa_nil e2) e1)) (pg_tup hc (pgs_cons (pg_name (i := i) hN hi hx hf) (pgs_cons (pg_name (i := j) hN hj hy hf2) pgs_nil q2) q1) hn hst) hs hw h3) fun _ _ D σ H _ ⟨Hs0, H0, Hs, A, w⟩ => ⟨Hs0, H0, Hs, A, fun a Hs1 H1 G1 g1 hG1 hJ1 => ⟨Hs0, H0, Hs1, A.grow g1, fun b Hs2 H2 G2 g2 hG2 hJ2 => ⟨sz 2, fun p hp2 => ?_⟩⟩⟩
  have A1 : Asn X.K Hs0 H0 (r.set i (.obj a O1)) (σ.set i (some (.ref a))) Hs1 H1 := A.setG g1 G1 hG1 ⟨rfl, hJ1⟩
  have A2 : Asn X.K Hs0 H0 ((r.set i (.obj a O1)).set j (.obj b O2)) ((σ.set i (some (.ref a))).set j (some (.ref b))) Hs2 H2 := A1.setG g2 G2 hG2 ⟨rfl, hJ2⟩
  have g3 := Grw.laid (o := .tup [.ref a, .ref b]) g2.sub hp2
  exact ⟨p, [.ref a, .ref b], rfl, SqT.rd (.inl upd_same), rfl, _, _, rfl, _, _, rfl, rfl, w.nx _ _ _ _ (hp a b) (A2.grow g3) ((g1.st.trans g2.st).trans g3.st)⟩
end
end Dl

namespace Dl
open PySem L2 PySem.W PyProof.Rows PySem.Spec
/-! ## defs that make lambdas of their own: their tables are handed on -/
open Classical in
theorem args_objF {K : PySem.W.Frag} {Hs H H0 : Hp} {N : List Str} {us : List V} {as : Rho} {a : Addr} {G : List Addr} {O : Ob} (hs : Same Hs H) (h0 : Same H0 H) (hG0 : ∀ x ∈ G, H0 x = none) (hG : ∀ x ∈ G, Hs x = none ∧ H x ≠ none) (hJ : O.J Hs H a G) (ha : Args K Hs us as) (hl : as.length + 1 ≤ N.length) :
    AsnF K Hs H0 (.obj a O :: as ++ List.replicate (N.length - (as.length + 1)) .un) (L2.start N (.ref a :: us)) Hs H (fun j => if j = 0 then G else []) := by
  obtain ⟨A0, len⟩ : Asn K Hs (fun x => if x ∈ G then none else H x) (.obj a O :: as ++ List.replicate (N.length - (as.length + 1)) .un) (L2.start N (.ref a :: us)) Hs H ∧ True := ⟨args_obj hs hG hJ ha hl, trivial⟩
  obtain ⟨F, f⟩ := A0.fr
  refine ⟨⟨h0, Same.refl Hs, hs, fun _ q => .inl q, fun _ _ q => q⟩, ⟨fun i s e => ?_, fun i x m => ?_, fun i j x m m' => ?_, fun i s e ht => ?_⟩, A0.len⟩
  · cases i with
    | zero =>
      cases e
      exact ⟨rfl, hJ⟩
    | succ i =>
      rw [if_neg (Nat.succ_ne_zero i)]
      have q := f.at_ (i + 1) s e
      have hs' : ∀ s', (as ++ List.replicate (N.length - (as.length + 1)) Slot.un)[i]? = some s' → s' = .un ∨ s' ∈ as := fun s' z => by
        by_cases hi : i < as.length
        · rw [List.getElem?_append_left hi] at z; exact .inr (List.mem_of_getElem? z)
        · rw [List.getElem?_append_right (by omega), List.getElem?_replicate] at z
          split at z
          · injection z with z; exact .inl z.symm
          · cases z
      have hall : ∀ s' ∈ as, ∃ v, ArgOk K Hs v s' := by
        have : ∀ {vs : List V} {ss : Rho}, Args K Hs vs ss → ∀ s' ∈ ss, ∃ v, ArgOk K Hs v s' := by
          intro vs ss h
          induction h with
          | nil => intro s' z; cases z
          | cons h t ih =>
            intro s' z
            rcases List.mem_cons.mp z with z | z
            · exact ⟨_, by rw [z]; exact h⟩
            · exact ih s' z
        exact this ha
      rcases hs' s (by simpa using e) with z | z
      · subst z; trivial
      · obtain ⟨v, hv⟩ := hall s z
        cases s with
        | un => trivial
        | val d => exact q
        | own ds => exact hv.elim
        | dic _ _ ds => exact hv.elim
        | fd _ _ ds => exact q
        | oo ds => exact hv.elim
        | obj _ _ => exact hv.elim
        | scr ns => exact q
        | scrT ns T => exact hv.elim
        | valT _ _ => exact hv.elim
        | raw u => exact q
  · by_cases z : i = 0
    · rw [if_pos z] at m; exact ⟨hG0 x m, (hG x m).1, (hG x m).2⟩
    · rw [if_neg z] at m; cases m
  · by_cases z : i = 0
    · by_cases z' : j = 0
      · rw [z, z']
      · rw [if_neg z'] at m'; cases m'
    · rw [if_neg z] at m; cases m
  · exfalso
    have := (f.tb i s e ht).all
    cases i with
    | zero => cases e; cases ht
    | succ i =>
      have hs' : s = .un ∨ s ∈ as := by
        have z : (as ++ List.replicate (N.length - (as.length + 1)) Slot.un)[i]? = some s := by simpa using e
        by_cases hi : i < as.length
        · rw [List.getElem?_append_left hi] at z; exact .inr (List.mem_of_getElem? z)
        · rw [List.getElem?_append_right (by omega), List.getElem?_replicate] at z
          split at z
          · injection z with z; exact .inl z.symm
          · cases z
      rcases hs' with z | z
      · rw [z] at ht; cases ht
      · have : ∀ {vs : List V} {ss : Rho}, Args K Hs vs ss → ∀ s' ∈ ss, ∃ v, ArgOk K Hs v s' := by
          intro vs ss h
          induction h with
          | nil => intro s' z; cases z
          | cons h t ih =>
            intro s' z
            rcases List.mem_cons.mp z with z | z
            · exact ⟨_, by rw [z]; exact h⟩
            · exact ih s' z
        obtain ⟨v, hv⟩ := this ha s z
        cases s <;> first | (cases ht; done) | exact hv.elim
/-- a thing's slot is handed tables -/
theorem AsnF.addTab {K : PySem.W.Frag} {Hs0 H0 : Hp} {r : Rho} {σ : L2.St} {Hs H : Hp} {F : Nat → List Addr} {j : Nat} {d : PyData} {T : List (Addr × Str)} (A : AsnF K Hs0 H0 r σ Hs H F) (hr : r[j]? = some (.val d)) (hT : ∀ p ∈ T, H0 p.1 = none ∧ Hs p.1 = none ∧ TabF Hs H p.1 p.2 ∧ ∀ k, p.1 ∉ F k) (tb : CdTab Hs0 H0) :
    AsnF K Hs0 H0 (r.set j (.valT d T)) σ Hs H (fun k => if k = j then T.map (·.1) else F k) := by
  refine ⟨A.g, ⟨fun i s e => ?_, fun i x m => ?_, fun i k x m m' => ?_, fun i s e _ => tb⟩, by rw [List.length_set]; exact A.len⟩
  · rw [List.getElem?_set] at e
    by_cases z : i = j
    · subst z
      rw [if_pos rfl] at e ⊢
      rw [if_pos (List.getElem?_eq_some_iff.mp hr).1] at e
      cases e
      exact ⟨A.fr.at_ i _ hr, fun p hp => ⟨List.mem_map_of_mem hp, (hT p hp).2.2.1⟩⟩
    · rw [if_neg fun w => z w.symm] at e
      rw [if_neg z]
      exact A.fr.at_ i s e
  · by_cases z : i = j
    · rw [if_pos z] at m
      obtain ⟨p, hp, rfl⟩ := List.mem_map.mp m
      obtain ⟨h1, h2, ⟨ps, h3, _⟩, _⟩ := hT p hp
      exact ⟨h1, h2, by rw [h3]; simp⟩
    · rw [if_neg z] at m; exact A.fr.own i x m
  · by_cases z : i = j
    · by_cases z' : k = j
      · rw [z, z']
      · rw [if_pos z] at m; rw [if_neg z'] at m'
        obtain ⟨p, hp, rfl⟩ := List.mem_map.mp m
        exact absurd m' ((hT p hp).2.2.2 k)
    · rw [if_neg z] at m
      by_cases z' : k = j
      · rw [if_pos z'] at m'
        obtain ⟨p, hp, rfl⟩ := List.mem_map.mp m'
        exact absurd m ((hT p hp).2.2.2 i)
      · rw [if_neg z'] at m'; exact A.fr.dist i k x m m'
/-- behind a def that is handed an object and tables -/
structure MoT (G : List Addr) (T : List (Addr × Str)) (Hs H Hs' H' : Hp) (G' : List Addr) : Prop where
  st : Same Hs Hs'
  sub : Same Hs' H'
  keep : ∀ x o, x ∉ G → (∀ ps, o ≠ .tbl ps) → H x = some o → H' x = some o
  new : ∀ x, Hs' x ≠ none → Hs x ≠ none ∨ H x = none ∨ x ∈ G ∨ ∃ ps, H x = some (.tbl ps)
  nt : ∀ x ps, Hs' x = some (.tbl ps) → Hs x = some (.tbl ps)
  own : ∀ x ∈ G', (x ∈ G ∨ H x = none ∨ ∃ ps, H x = some (.tbl ps)) ∧ Hs' x = none ∧ H' x ≠ none
  tab : ∀ p ∈ T, p.1 ∉ G' ∧ Hs' p.1 = none ∧ TabF Hs' H' p.1 p.2
def spOT (K : PySem.W.Frag) (T : List (Addr × Str)) (R : Ob → Rho → Ob → PyData → Prop) : Sp := fun vs H Q _ => ∃ Hs a G us O as O' d, vs = .ref a :: us ∧ Same Hs H ∧ (∀ x ∈ G, Hs x = none ∧ H x ≠ none) ∧ O.J Hs H a G ∧ (∀ p ∈ T, p.1 ∉ G ∧ Hs p.1 = none ∧ TabF Hs H p.1 p.2) ∧ CodesIn H Hs ∧ (∀ b ps, Hs b ≠ some (.tbl ps)) ∧ Args K Hs us as ∧ R O as O' d ∧
  ∀ v Hs' H' G', MoT G T Hs H Hs' H' G' → O'.J Hs' H' a G' → Dat Hs' v d → Q v H'
section
variable {P : Program} {w : World} {K : PySem.W.Frag} {mg : Str → Option Value} {base : Heap}
open Classical in
theorem okOT {x : Str} {st : Stmt} {N ps : List Str} {k : Nat} {c : Addr} {T : List (Addr × Str)} {R : Ob → Rho → Ob → PyData → Prop} (D : Dfn K mg x st ps) (hc : D.fd.code = .ref c) (S : FnScope N ps (defScope st)) (len : ∀ O as O' d, R O as O' d → as.length + 1 = ps.length) (hv : ∀ O as O' d, R O as O' d → ∃ d1 as', as = .val d1 :: as') (hn : ps.length ≤ N.length)
    (hb : ∀ (A : Around) (outer : List Env) (s : Shared) (H : Hp) (E : XK), Room k (A.deeper (PyProof.Rows.envOfC x (defScope st) s.heap.objs.size D.f (.ref c))) → ∀ a O d1 as O' d, R O (.val d1 :: as) O' d →
      DSs (cx0 P w K mg base N x (defScope st) D.f (.ref c) A outer s H E) E0 (.obj a O :: .valT d1 T :: as ++ List.replicate (N.length - (as.length + 2)) .un) (defBody st) { nx := fun z => d = .none ∧ z[0]? = some (.obj a O') ∧ ∃ d2, z[1]? = some (.valT d2 T), ro := fun z r' => z = d ∧ r'[0]? = some (.obj a O') ∧ ∃ d2, r'[1]? = some (.valT d2 T) }) : FnOk P w K mg base CX0 (k + 1) D.f D.fd ps (spOT K T R) := by
  obtain ⟨oc, od, kV, doc, pm, an, cdv, ct, osl, e, lk, hcd⟩ := D.F.ex
  rw [e] at hc lk ⊢
  have hc' : cdv = .ref c := hc
  subst hc'
  refine fn_of lk hcd S (fun vs H Q E h => ?_) fun A outer s H vs Q E hr h => ?_
  · obtain ⟨Hs, a, G, us, O, as, O', d, rfl, _, _, _, _, _, _, ha, hR, _⟩ := h
    rw [List.length_cons, ha.length]
    exact len O as O' d hR
  · obtain ⟨Hs, a, G, us, O, as, O', d, rfl, hs, hG, hJ, hT, hC, hnt, ha, hR, q⟩ := h
    obtain ⟨d1, as, rfl⟩ := hv O as O' d hR
    have hl := len _ _ _ _ hR
    obtain ⟨H0, eH0⟩ : ∃ H0 : Hp, H0 = fun x => if x ∈ G ∨ ∃ ps, H x = some (.tbl ps) then none else H x := ⟨_, rfl⟩
    have h00 : Same H0 H := fun x o z => by
      rw [eH0] at z
      have z : (if x ∈ G ∨ ∃ ps, H x = some (.tbl ps) then none else H x) = some o := z
      split at z
      · cases z
      · exact z
    have h0n : ∀ x, H0 x = none → x ∈ G ∨ H x = none ∨ ∃ ps, H x = some (.tbl ps) := fun x z => by
      rw [eH0] at z
      have z : (if x ∈ G ∨ ∃ ps, H x = some (.tbl ps) then none else H x) = none := z
      split at z
      · rename_i y; exact y.elim .inl fun u => .inr (.inr u)
      · exact .inr (.inl z)
    have h0k : ∀ x o, x ∉ G → (∀ ps, o ≠ .tbl ps) → H x = some o → H0 x = some o := fun x o z1 z2 z3 => by
      rw [eH0]
      show (if x ∈ G ∨ ∃ ps, H x = some (.tbl ps) then none else H x) = some o
      rw [if_neg]
      · exact z3
      · rintro (y | ⟨ps, y⟩)
        · exact z1 y
        · rw [z3] at y; injection y with y; exact z2 ps y
    have hG0 : ∀ x ∈ G, H0 x = none := fun x z => by rw [eH0]; exact if_pos (.inl z)
    have A0 := args_objF (N := N) hs h00 hG0 hG hJ ha (by rw [hl]; exact hn)
    have tb : CdTab Hs H0 := ⟨fun b q z => hC b q (h00 _ _ z), hnt, fun b ps z => by
      have y := h00 _ _ z
      rw [eH0] at z
      have z : (if b ∈ G ∨ ∃ ps, H b = some (.tbl ps) then none else H b) = some (.tbl ps) := z
      rw [if_pos (.inr ⟨ps, y⟩)] at z; cases z⟩
    have hT0 : ∀ p ∈ T, H0 p.1 = none := fun p hp => by
      obtain ⟨_, _, ps, z, _⟩ := hT p hp
      rw [eH0]; exact if_pos (.inr ⟨ps, z⟩)
    have A1 := A0.addTab (j := 1) (d := d1) (T := T) rfl (fun p hp => ⟨hT0 p hp, (hT p hp).2.1, (hT p hp).2.2, fun k z => by
      by_cases y : k = 0
      · rw [if_pos y] at z; exact (hT p hp).1 z
      · rw [if_neg y] at z; cases z⟩) tb
    have eR : (Slot.obj a O :: (Slot.val d1 :: as) ++ List.replicate (N.length - ((Slot.val d1 :: as).length + 1)) Slot.un).set 1 (.valT d1 T) = .obj a O :: .valT d1 T :: as ++ List.replicate (N.length - (as.length + 2)) .un := by
      rw [List.length_cons]; rfl
    rw [eR] at A1
    have fin : ∀ {r' : Rho} {σ' : L2.St} {Hs' H' : Hp}, Asn K Hs H0 r' σ' Hs' H' → r'[0]? = some (.obj a O') → (∃ d2, r'[1]? = some (.valT d2 T)) → ∃ G', MoT G T Hs H Hs' H' G' ∧ O'.J Hs' H' a G' := fun {r' σ' Hs' H'} A' z0 ⟨d2, z1⟩ => by
      obtain ⟨F, A'⟩ := A'.ex
      obtain ⟨_, hJ'⟩ := A'.fr.at_ 0 _ z0
      obtain ⟨_, ht⟩ := A'.fr.at_ 1 _ z1
      refine ⟨F 0, ⟨A'.g.st, A'.g.sub, fun x o y1 y2 y3 => A'.g.all _ _ (h0k x o y1 y2 y3), fun x y => ?_, A'.g.nt, fun x m => ?_, fun p hp => ⟨fun y => ?_, (A'.fr.own 1 _ (ht p hp).1).2.1, (ht p hp).2⟩⟩, hJ'⟩
      · rcases A'.g.new x y with u | u
        · exact .inl u
        · rcases h0n x u with v | v | v
          · exact .inr (.inr (.inl v))
          · exact .inr (.inl v)
          · exact .inr (.inr (.inr v))
      · obtain ⟨u, k⟩ := A'.fr.own 0 x m
        exact ⟨h0n x u, k⟩
      · exact absurd (A'.fr.dist 0 1 _ y (ht p hp).1) (by decide)
    refine ⟨_, (hb A outer s H E hr a O d1 as O' d hR).nox, Hs, H0, Hs, A1.asn, ?_⟩
    refine ⟨fun r' σ' Hs' H' p A' _ => ?_, fun d' v Hs' H' p g hv => p.elim, fun _ _ _ _ p => p.elim, fun _ _ _ _ p => p.elim, fun _ _ _ _ _ p => p.elim, fun _ _ _ _ _ p => p.elim, fun d' r' v σ' Hs' H' p A' hv => ?_⟩
    · obtain ⟨G', m, j⟩ := fin A' p.2.1 p.2.2
      exact q _ Hs' H' G' m j (by rw [p.1]; exact .non)
    · obtain ⟨G', m, j⟩ := fin A' p.2.1 p.2.2
      exact q v Hs' H' G' m j (by rw [← p.1]; exact hv)
end
section
variable {X : Cx} {E : XK} {r : Rho} {es : List Expr} {pos px p : Pos} {d : PyData} {k : Nat} {x y : Str} {st : Stmt} {ps : List Str} {a : Addr} {O O' : Ob} {as : Rho}
open Classical in
/-- the caller's slots behind such a def -/
theorem AsnF.putT {K : PySem.W.Frag} {Hs0 H0 : Hp} {σ : L2.St} {Hs H Hs' H' : Hp} {F : Nat → List Addr} {i j : Nat} {s : Slot} {G' : List Addr} (A : AsnF K Hs0 H0 r σ Hs H F) (hij : i ≠ j) (ho : r[i]? = some (.obj a O)) (hs : r[j]? = some s) (ht : tabS s = true) (hn : restOk j r = true) (e1 : σ[i]? = some (some (.ref a))) (m : MoT (F i) (tabsOf s) Hs H Hs' H' G') (hJ : O'.J Hs' H' a G') :
    Asn K Hs0 H0 (r.set i (.obj a O')) σ Hs' H' := by
  have tb := A.fr.tb j s hs ht
  have hst : ∀ b ps, Hs b ≠ some (.tbl ps) := fun b ps z => tb.st b ps (A.g.nt b ps z)
  obtain ⟨hh, htt⟩ := tab_split ht (A.fr.at_ j s hs)
  have nF : ∀ k, k ≠ i → ∀ x ∈ F k, x ∉ F i := fun k hk x h1 h2 => hk (A.fr.dist k i x h1 h2)
  have kp : ∀ x o, H0 x = some o → x ∉ F i := fun x o q z => by have := (A.fr.own i x z).1; rw [q] at this; cases this
  have g' : Grw Hs0 H0 Hs' H' := ⟨fun x o q => m.keep x o (kp x o q) (fun ps z => tb.all x ps (by rw [q, z])) (A.g.all _ _ q), A.g.st.trans m.st, m.sub, fun x q => by
    rcases m.new x q with z | z | z | ⟨ps, z⟩
    · exact A.g.new x z
    · exact .inr (A.g.all.free z)
    · exact .inr (A.fr.own i x z).1
    · refine .inr ?_
      cases u : H0 x with
      | none => rfl
      | some o => have := A.g.all _ _ u; rw [z] at this; injection this with this; exact absurd (by rw [u, ← this]) (tb.all x ps), fun x ps q => A.g.nt x ps (m.nt x ps q)⟩
  have h0' : ∀ x, (x ∈ F i ∨ H x = none ∨ ∃ ps, H x = some (.tbl ps)) → H0 x = none := fun x z => by
    rcases z with y | y | ⟨ps, y⟩
    · exact (A.fr.own i x y).1
    · exact A.g.all.free y
    · cases u : H0 x with
      | none => rfl
      | some o => have := A.g.all _ _ u; rw [y] at this; injection this with this; exact absurd (by rw [u, ← this]) (tb.all x ps)
  refine ⟨g', ⟨fun k => if k = i then G' else if k = j then (tabsOf s).map (·.1) else (F k).filter fun x => decide (CalmF H x), fun k s' e => ?_, fun k x mx => ?_, fun k k' x mx mx' => ?_, fun k s' e hts => tb⟩, by rw [List.length_set]; exact A.len⟩
  · rw [List.getElem?_set] at e
    by_cases z : k = i
    · subst z
      rw [if_pos rfl] at e ⊢
      rw [if_pos (List.getElem?_eq_some_iff.mp ho).1] at e
      cases e
      exact ⟨e1, hJ⟩
    · rw [if_neg fun w => z w.symm] at e
      rw [if_neg z]
      by_cases z' : k = j
      · subst z'
        rw [if_pos rfl]
        rw [hs] at e
        cases e
        exact tab_join ht (hh.mono m.st) fun p hp => ⟨List.mem_map_of_mem hp, (m.tab p hp).2.2⟩
      · rw [if_neg z']
        exact calm_slot (restOk_at hn k s' z' e) m.st (fun x hx o q n => m.keep x o (nF k z x hx) n q) (A.fr.at_ k s' e)
  · by_cases z : k = i
    · rw [if_pos z] at mx
      exact ⟨h0' x (m.own x mx).1, (m.own x mx).2⟩
    · rw [if_neg z] at mx
      by_cases z' : k = j
      · rw [if_pos z'] at mx
        obtain ⟨p, hp, rfl⟩ := List.mem_map.mp mx
        obtain ⟨_, h2, ps, h3, _⟩ := m.tab p hp
        exact ⟨(A.fr.own j _ (htt p hp).1).1, h2, by rw [h3]; simp⟩
      · rw [if_neg z'] at mx
        obtain ⟨m1, m2⟩ := List.mem_filter.mp mx
        obtain ⟨o, y, n1, n2⟩ := of_decide_eq_true m2
        obtain ⟨b0, b1, b2⟩ := A.fr.own k x m1
        refine ⟨b0, ?_, by rw [m.keep x o (nF k z x m1) n2 y]; simp⟩
        cases u : Hs' x with
        | none => rfl
        | some o' =>
          rcases m.new x (by rw [u]; simp) with v | v | v | ⟨ps, v⟩
          · exact absurd b1 v
          · exact absurd v b2
          · exact absurd v (nF k z x m1)
          · rw [y] at v; injection v with v; exact absurd v (n2 ps)
  · have cross : ∀ k, k ≠ i → ∀ x ∈ G', x ∉ (if k = j then (tabsOf s).map (·.1) else (F k).filter fun x => decide (CalmF H x)) := fun k hk x hx hk' => by
      by_cases z' : k = j
      · rw [if_pos z'] at hk'
        obtain ⟨p, hp, rfl⟩ := List.mem_map.mp hk'
        exact (m.tab p hp).1 hx
      · rw [if_neg z'] at hk'
        obtain ⟨m1, m2⟩ := List.mem_filter.mp hk'
        obtain ⟨o, y, n1, n2⟩ := of_decide_eq_true m2
        rcases (m.own x hx).1 with v | v | ⟨ps, v⟩
        · exact nF k hk x m1 v
        · rw [y] at v; cases v
        · rw [y] at v; injection v with v; exact n2 ps v
    have sub : ∀ k, ∀ x, x ∈ (if k = j then (tabsOf s).map (·.1) else (F k).filter fun x => decide (CalmF H x)) → x ∈ F k := fun k x hx => by
      by_cases z' : k = j
      · rw [if_pos z'] at hx
        obtain ⟨p, hp, rfl⟩ := List.mem_map.mp hx
        rw [z']; exact (htt p hp).1
      · rw [if_neg z'] at hx; exact (List.mem_filter.mp hx).1
    by_cases z : k = i
    · by_cases z' : k' = i
      · rw [z, z']
      · rw [if_pos z] at mx; rw [if_neg z'] at mx'; exact absurd mx' (cross k' z' x mx)
    · rw [if_neg z] at mx
      by_cases z' : k' = i
      · rw [if_pos z'] at mx'; exact absurd mx (cross k z x mx')
      · rw [if_neg z'] at mx'; exact A.fr.dist k k' x (sub k x mx) (sub k' x mx')
/-- f(x, ..), x the object at the slot i; f has tables, which the slot j holds -/
theorem dM_callOT (i j : Nat) {s : Slot} {R : Ob → Rho → Ob → PyData → Prop} {T : List (Addr × Str)} (D : Dfn X.K X.mg y st ps) (F : FnOk X.prog X.w X.K X.mg X.base CX0 k D.f D.fd ps (spOT X.K T R)) {k' : Nat} (hr : Room k' X.A) (hk : k ≤ k') (ha : DA X r es as) (hR : R O as O' d) (hT : tabsOf s = T) (ho : r[i]? = some (.obj a O) := by rfl) (hs : r[j]? = some s := by rfl) (ht : tabS s = true := by rfl) (hn : restOk j r = true := by rfl) (hij : i ≠ j := by decide)
    (hN : X.N[i]? = some x := by rfl) (hv : Vis X.env.scope x := by first | exact Or.inl rfl | exact Or.inr (Or.inl rfl) | exact Or.inr (Or.inr rfl)) (hd : (x == ("__debug__" : Str)) = false := by decide) (hcd : (x == ("__classdict__" : Str)) = false := by decide) (hg : Gl X y := by rfl)
    (hdb : (y == ("__debug__" : Str)) = false := by decide) (he : starEach (.Name x px :: es) X.env = (false, eval (.Name x px) X.env) :: starEach es X.env := by rfl) (hpl : (backTo pos (starEach es X.env)).any (·.1) = false := by rfl) : DM X r (.Call (.Name y p) (.Name x px :: es) [] pos) d (r.set i (.obj a O')) :=
  PE.wk (pe_call F (hr.mono hk) hg D.g D.F.kp D.b .nil pass0 (pa_cons (pe_var (i := i) hN hv hd hcd) ha he) hdb he hpl) fun _ _ σ H Q _ ⟨Hs0, H0, Hs, A, q⟩ => by
    subst hT
    obtain ⟨_, e1, _, _⟩ := A.at_ i _ ho
    refine ⟨_, e1, Hs0, H0, Hs, A, fun vs Hs1 H1 g1 ha1 => ?_⟩
    have A1 := A.grow g1
    obtain ⟨Hs2, A2, s2, cd⟩ := A1.lamT hs ht hn (LamX.ExtN.refl _) (A1.tabsT hs ht)
    obtain ⟨Fp, A2⟩ := A2.ex
    obtain ⟨_, hJ⟩ := A2.fr.at_ i _ ho
    have tb := A2.fr.tb j s hs ht
    obtain ⟨_, htt⟩ := tab_split ht (A2.fr.at_ j s hs)
    show spOT X.K (tabsOf s) R ((V.ref a :: vs) ++ []) H1 Q E0
    rw [List.append_nil]
    refine ⟨Hs2, a, Fp i, vs, O, as, O', d, rfl, A2.g.sub, fun x z => (A2.fr.own i x z).2, hJ, fun p hp => ⟨fun z => hij (A2.fr.dist i j _ z (htt p hp).1), (A2.fr.own j _ (htt p hp).1).2.1, (htt p hp).2⟩, cd, fun b ps z => tb.st b ps (A2.g.nt b ps z), ha1.mono s2, hR, fun v Hs' H' G' mo jJ hv => ?_⟩
    exact q v Hs' H' (A2.putT hij ho hs ht hn e1 mo jJ) (g1.st.trans (s2.trans mo.st)) hv
end
theorem ne_of_nd {p q : Addr} (h : (!decide (p = q)) = true) : p ≠ q := by simpa using h
/-! ## the law, with several tables -/
section
variable {Pr : Program} {w : World} {K : PySem.W.Frag} {mg : Str → Option Value} {base : Heap}
def spLT (K : PySem.W.Frag) (T : List (Addr × Str)) (R : List Int → PyData → Prop) : Sp := fun vs H Q _ => ∃ (a : Addr) (ns : List Int) (H0 : Hp) (d : PyData), vs = [.ref a] ∧ Same H0 H ∧ (∀ b ps, H0 b ≠ some (.tbl ps)) ∧ SqL K H0 a (ns.map V.int) ∧ (∀ p ∈ T, H p.1 = some (.tbl #[])) ∧ R ns d ∧ ∀ v Hs' H', Dat Hs' v d → Q v H'
theorem asn_lawT {N : List Str} {a : Addr} {T : List (Addr × Str)} {ns : List Int} {H0 H : Hp} (hn : 1 ≤ N.length) (h1 : Same H0 H) (h2 : ∀ b ps, H0 b ≠ some (.tbl ps)) (h3 : SqL K H0 a (ns.map V.int)) (h4 : ∀ p ∈ T, H p.1 = some (.tbl #[])) : Asn K H0 H0 (.scrT ns T :: List.replicate (N.length - 1) .un) (L2.start N [.ref a]) H0 H := by
  refine ⟨⟨h1, Same.refl H0, h1, fun _ z => .inl z, fun _ _ z => z⟩, ⟨fun i => if i = 0 then T.map (·.1) else [], fun i sl e => ?_, fun i y m => ?_, fun i j y m m' => ?_, fun i s' e _ => CdTab.of (Same.refl H0) h2⟩, ?_⟩
  · cases i with
    | zero =>
      cases e
      exact ⟨⟨a, rfl, h3⟩, fun p hp => ⟨List.mem_map_of_mem hp, #[], h4 p hp, True.intro, fun pos cv hc => by
          have z : codeAmong pos [] = some cv := hc
          simp [codeAmong] at z⟩⟩
    | succ i =>
      rw [List.getElem?_cons_succ, List.getElem?_replicate] at e
      split at e
      · injection e with e; subst e; trivial
      · cases e
  · by_cases z : i = 0
    · rw [if_pos z] at m
      obtain ⟨p, hp, rfl⟩ := List.mem_map.mp m
      have : H0 p.1 = none := by
        cases u : H0 p.1 with
        | none => rfl
        | some o => have := h1 _ o u; rw [h4 p hp] at this; injection this with this; exact absurd (by rw [u, ← this]) (h2 p.1 #[])
      exact ⟨this, this, by rw [h4 p hp]; simp⟩
    · rw [if_neg z] at m; exact absurd m List.not_mem_nil
  · by_cases z : i = 0
    · by_cases z' : j = 0
      · rw [z, z']
      · rw [if_neg z'] at m'; exact absurd m' List.not_mem_nil
    · rw [if_neg z] at m; exact absurd m List.not_mem_nil
  · simp [L2.start]
theorem okLawT {st : Stmt} {c : Addr} {N : List Str} {k : Nat} {T : List (Addr × Str)} (D : Dfn K mg "law" st ["script"]) (hc : D.fd.code = .ref c) (S : FnScope N ["script"] (defScope st)) (hn : 1 ≤ N.length)
    (hb : ∀ (A : Around) (outer : List Env) (s : Shared) (H : Hp) (E : XK), Room k (A.deeper (PyProof.Rows.envOfC "law" (defScope st) s.heap.objs.size D.f (.ref c))) → ∀ ns, ns.length ≤ 63 →
      DSs (cxOf C8.CX0 Pr w K mg base N "law" (defScope st) D.f (.ref c) A outer s H E).nox C8.E0 (.scrT ns T :: List.replicate (N.length - 1) .un) (defBody st) { nx := fun _ => False, rt := fun z => z = .bool true }) :
    FnOk Pr w K mg base C8.CX0 (k + 1) D.f D.fd ["script"] (spLT K T R_L) := by
  obtain ⟨oc, od, kV, doc, pm, an, cdv, ct, osl, e, lk, hcd⟩ := D.F.ex
  rw [e] at hc lk ⊢
  have hc' : cdv = .ref c := hc
  subst hc'
  refine fn_of lk hcd S (fun vs H Q E h => ?_) fun A outer s H vs Q E hr h => ?_
  · obtain ⟨a, ns, H0, d, rfl, _⟩ := h
    rfl
  · obtain ⟨a, ns, H0, d, rfl, h1, h2, h3, h4, ⟨hl, rfl⟩, hQ⟩ := h
    refine ⟨_, (hb A outer s H E hr ns hl).nox, H0, H0, H0, asn_lawT hn h1 h2 h3 h4, ?_⟩
    exact ⟨fun r' σ' Hs' H' p a _ => p.elim, fun d' v Hs' H' p g hv => by rw [p] at hv; exact hQ v Hs' H' hv, fun _ _ _ _ p => p.elim, fun _ _ _ _ p => p.elim, fun _ _ _ _ _ p => p.elim, fun _ _ _ _ _ p => p.elim, fun _ _ _ _ _ _ p => p.elim⟩
theorem code_at {name : Str} {st : Stmt} {ps : List Str} (D : Dfn K mg name st ps) (hD : D.f = He.ga K name) : D.fd.code = .ref (He.cT K (name, none)).1 := by
  obtain ⟨oc, od, kV, doc, pm, an, cdv, ct, osl, e, lk, hcd⟩ := D.F.ex
  obtain ⟨c, rfl⟩ := He.codeIn_ref hcd
  rw [hD] at lk
  have : D.fd.code = .ref c := by rw [e]
  rw [this]
  exact congrArg Value.ref (He.codeOf_eq (p := (name, none)) lk this).symm
theorem law_atT {l : PySem.W.OpenLaw} {h : Heap} {st : Stmt} {k : Nat} {fa : List He.Fa} {fn : List He.DefD} {ts : List He.Tab} {ex : PySem.W.Frag → Bool} (Ts : List (He.Defn × Str)) (X : K.In h) (s : He.SaysX fa fn ts (Ts.map (·.1)) ex w h K) (D : Dfn K mg "law" st ["script"])
    (hok : ∀ base, K.In base → base.Ns mainGlobals mg → (∀ p ∈ Ts, LamX.TabB base mg (He.cT K p.1).1 (He.cT K p.1).2) → FnOk l.prog w K mg base C8.CX0 k D.f D.fd ["script"] (spLT K (Ts.map fun p => ((He.cT K p.1).2, p.2)) R_L)) (hbd : ∀ (s : Shared) (u : Value), BindsTo s D.fd ⟨[u], []⟩ [("script", u)]) : LamX.LawAtS l w K C8.CX0 k 63 "script" mg D.f h := by
  have mm : ∀ p ∈ Ts, p.1 ∈ Ts.map (·.1) := fun p hp => List.mem_map_of_mem hp
  refine ⟨D.fd, Ts.map fun p => He.cT K p.1, spLT K (Ts.map fun p => ((He.cT K p.1).2, p.2)) R_L, fun q hq => ?_, fun q hq => ?_, fun q hq => ?_, hbd, fun H a ns hl _ hT hS => ?_, fun base hK hG hT => hok base hK hG fun p hp => hT _ (List.mem_map_of_mem hp)⟩
  · obtain ⟨p, hp, rfl⟩ := List.mem_map.mp hq; exact s.empty _ (mm p hp)
  · obtain ⟨p, hp, rfl⟩ := List.mem_map.mp hq; exact s.out _ (mm p hp)
  · obtain ⟨p, hp, rfl⟩ := List.mem_map.mp hq; exact PySem.W.codeHd_of_K X (s.hd _ (mm p hp))
  · refine ⟨a, ns, noTab H, .bool true, rfl, noTab_same H, noTab_tbl H, noTab_seq hS, fun q hq => ?_, ⟨hl, rfl⟩, fun v Hs' H' hv => hv.inv_bool⟩
    obtain ⟨p, hp, rfl⟩ := List.mem_map.mp hq
    exact hT _ (List.mem_map_of_mem hp)
end
end Dl

namespace Dl
open PySem L2 PySem.W PyProof.Rows PySem.Spec
/-! ## the law with several tables, where things may be shown -/
section
variable {Pr : Program} {w : World} {K : PySem.W.Frag} {mg : Str → Option Value} {base : Heap}
theorem okLawTG {st : Stmt} {c : Addr} {N : List Str} {k : Nat} {T : List (Addr × Str)} (D : Dfn K mg "law" st ["script"]) (hc : D.fd.code = .ref c) (S : FnScope N ["script"] (defScope st)) (hn : 1 ≤ N.length)
    (hb : ∀ (A : Around) (outer : List Env) (s : Shared) (H : Hp) (E : XK), (A.deeper (PyProof.Rows.envOfC "law" (defScope st) s.heap.objs.size D.f (.ref c))).guards = some [] → Room k (A.deeper (PyProof.Rows.envOfC "law" (defScope st) s.heap.objs.size D.f (.ref c))) → ∀ ns, ns.length ≤ 63 →
      DSs (cxOf C8.CX0 Pr w K mg base N "law" (defScope st) D.f (.ref c) A outer s H E).nox C8.E0 (.scrT ns T :: List.replicate (N.length - 1) .un) (defBody st) { nx := fun _ => False, rt := fun z => z = .bool true }) :
    FnG Pr w K mg base C8.CX0 (k + 1) D.f D.fd ["script"] (spLT K T R_L) := by
  obtain ⟨oc, od, kV, doc, pm, an, cdv, ct, osl, e, lk, hcd⟩ := D.F.ex
  rw [e] at hc lk
  have hc' : cdv = .ref c := hc
  subst hc'
  have := fnG_of (CX := C8.CX0) (P := Pr) (w := w) (mg := mg) (base := base) (k := k) (sp := spLT K T R_L) lk hcd S (fun vs H Q E h => by obtain ⟨a, ns, H0, d, rfl, _⟩ := h; rfl) fun A outer s H vs Q E gd hr h => by
    obtain ⟨a, ns, H0, d, rfl, h1, h2, h3, h4, ⟨hR1, rfl⟩, hQ⟩ := h
    refine ⟨_, (hb A outer s H E gd hr ns hR1).nox, H0, H0, H0, asn_lawT hn h1 h2 h3 h4, ?_⟩
    exact ⟨fun r' σ' Hs' H' p a _ => p.elim, fun d' v Hs' H' p g hv => by rw [p] at hv; exact hQ v Hs' H' hv, fun _ _ _ _ p => p.elim, fun _ _ _ _ p => p.elim, fun _ _ _ _ _ p => p.elim, fun _ _ _ _ _ p => p.elim, fun _ _ _ _ _ _ p => p.elim⟩
  rw [e]
  exact this
theorem law_atTG {l : PySem.W.OpenLaw} {h : Heap} {st : Stmt} {k : Nat} {fa : List He.Fa} {fn : List He.DefD} {ts : List He.Tab} {ex : PySem.W.Frag → Bool} (Ts : List (He.Defn × Str)) (X : K.In h) (s : He.SaysX fa fn ts (Ts.map (·.1)) ex w h K) (D : Dfn K mg "law" st ["script"])
    (hok : ∀ base, K.In base → base.Ns mainGlobals mg → (∀ p ∈ Ts, LamX.TabB base mg (He.cT K p.1).1 (He.cT K p.1).2) → FnG l.prog w K mg base C8.CX0 k D.f D.fd ["script"] (spLT K (Ts.map fun p => ((He.cT K p.1).2, p.2)) R_L)) (hbd : ∀ (s : Shared) (u : Value), BindsTo s D.fd ⟨[u], []⟩ [("script", u)]) : LawAtG l w K C8.CX0 k 63 "script" mg D.f h := by
  have mm : ∀ p ∈ Ts, p.1 ∈ Ts.map (·.1) := fun p hp => List.mem_map_of_mem hp
  refine ⟨D.fd, Ts.map fun p => He.cT K p.1, spLT K (Ts.map fun p => ((He.cT K p.1).2, p.2)) R_L, ⟨fun q hq => ?_, fun q hq => ?_, fun q hq => ?_⟩, hbd, fun H a ns hl hT hS => ?_, fun base hK hG hT => hok base hK hG fun p hp => hT _ (List.mem_map_of_mem hp)⟩
  · obtain ⟨p, hp, rfl⟩ := List.mem_map.mp hq; exact s.empty _ (mm p hp)
  · obtain ⟨p, hp, rfl⟩ := List.mem_map.mp hq; exact s.out _ (mm p hp)
  · obtain ⟨p, hp, rfl⟩ := List.mem_map.mp hq; exact PySem.W.codeHd_of_K X (s.hd _ (mm p hp))
  · refine ⟨a, ns, noTab H, .bool true, rfl, noTab_same H, noTab_tbl H, noTab_seq hS, fun q hq => ?_, ⟨hl, rfl⟩, fun v Hs' H' hv => hv.inv_bool⟩
    obtain ⟨p, hp, rfl⟩ := List.mem_map.mp hq
    exact hT _ (List.mem_map_of_mem hp)
end
/-! ## _law_twice_told -/
structure TCw (K : PySem.W.Frag) (mg : Str → Option Value) (c : Nat → Addr) (CH : Addr) : Prop where
  h : mg "HeatError" = some (.ref CH)
  e0 : ECls K mg "Clash" (c 0)
  e2 : ECls K mg "NoHeat" (c 2)
  exm : ∀ k, k = 0 ∨ k = 2 → PySem.W.exmOne K (.ref (c k)) (.ref CH) = some true
def refN : PyData := .tuple [.str "refused", .none]
def TTw (c : Nat → Addr) : (XK → Hp → VK → Prop) → Hp → VK → Prop := fun tl H Q =>
  tl (fun cls d H' => d = none ∧ ∃ (k : Nat) (Hs' : Hp), (k = 0 ∨ k = 2) ∧ cls = .ref (c k) ∧ Same Hs' H' ∧ ∀ v' Hs'' H'', Grw Hs' H' Hs'' H'' → Dat Hs'' v' refN → Q v' H'') H
    fun v H' => ∃ (d : PyData) (Hs' : Hp), Same Hs' H' ∧ Dat Hs' v d ∧ ∀ v' Hs'' H'', Grw Hs' H' Hs'' H'' → Dat Hs'' v' (toldD d) → Q v' H''
def twiceFa : List He.Fa := [.glo "HeatError", .glo "Clash", .glo "NoHeat", .exc "Clash", .exc "NoHeat"]
def twiceB (K : PySem.W.Frag) : Bool := decide (PySem.W.exmOne K (.ref (toldAt K 0)) (.ref (He.ga K "HeatError")) = some true) && decide (PySem.W.exmOne K (.ref (toldAt K 2)) (.ref (He.ga K "HeatError")) = some true)
theorem tcw_of {K : PySem.W.Frag} {h : Heap} {mg : Str → Option Value} (X : K.In h) (G : h.Ns mainGlobals mg) (c : ∀ f ∈ twiceFa, f.ok K = true) (b : twiceB K = true) : TCw K mg (toldAt K) (He.ga K "HeatError") := by
  obtain ⟨b1, b2⟩ := He.ba b
  refine ⟨He.glo_ok X G (c _ (by simp [twiceFa])), ecls_of X G (c (.glo "Clash") (by simp [twiceFa])) (c (.exc "Clash") (by simp [twiceFa])), ecls_of X G (c (.glo "NoHeat") (by simp [twiceFa])) (c (.exc "NoHeat") (by simp [twiceFa])), fun k hk => ?_⟩
  rcases hk with z | z <;> subst z
  · exact of_decide_eq_true b1
  · exact of_decide_eq_true b2
section
variable {X : Cx} {r r' : Rho} {st : Stmt} {P c : Addr} {cl : Nat → Addr} {k : Nat} {scope : Scope} {params : Arguments} {body : Expr} {d : PyData} {Ng : List Str} {p lpos pos : Pos}
theorem dM_twice (i : Nat) {s : Slot} (D : Dfn X.K X.mg "_law_twice_told" st ["deed"]) (Sg : FnScope Ng ["deed"] (defScope st)) (hG : ∀ cdv q, LamX.GivesTo X Ng "_law_twice_told" (defScope st) D.f cdv (defBody st) "deed" q (TTw cl)) (TB : LamX.TabB X.base X.mg c P) (hcode : X.env.code = .ref c) (room : Room (k + 2) X.A)
    (hbody : ∀ (A : Around) (outer : List Env) (s : Shared) (H : Hp) (E : XK) (f c' : Addr), Room k (A.deeper (LamX.lamEnv X scope s.heap.objs.size f c')) → DM (LamX.lamCx X A outer s H E scope f c') r body d r') (L : LamX.LamS X.env.scope scope)
    {ql : Str} (hmT : (P, ql) ∈ tabsOf s) (hu : ∀ p ∈ tabsOf s, p.1 = P → p.2 = ql) (hql : X.env.qual ++ "<lambda>" = ql := by rfl)
    (hr : r[i]? = some s := by rfl) (hs : tabS s = true := by rfl) (hn : restOk i r = true := by rfl) (hg : Gl X "_law_twice_told" := by rfl) (hNg : Ng[0]? = some ("deed" : Str) := by rfl) (hva : Vis (defScope st) "deed" := by exact Or.inl rfl) (hdef : defaultsOf params X.env = ([], []) := by rfl)
    (hbind : ∀ (q : Str) (cl : List (Str × Addr)) (pm cv ctv : Value), bindArgs (PySem.W.kla_fn "<lambda>" q params body scope cl pm cv ctv) ⟨[], []⟩ = pure [] := by intros; rfl) : DM X r (.Call (.Name "_law_twice_told" p) [.Lambda params body scope lpos] [] pos) (toldD d) r' := by
  obtain ⟨oc, od, kV, doc, pm, an, cdv, ct, osl, hfd, lk, hcd⟩ := D.F.ex
  have hb := D.b
  rw [hfd] at lk hb
  exact PE.wk (LamX.pe_lamcall (T := tabsOf s) hg D.g D.F.kp lk hcd hb Sg hNg hva (hG cdv _) TB hcode (by rw [hql]; exact hmT) (by rw [hql]; exact hu) room L hdef hbind (t := fun _ => tDM X.K r d r') hbody) fun _ _ σ H Q _ ⟨Hs0, H0, Hs, A, q⟩ => ⟨A.tabsT hr hs, fun H1 eN T1 => by
    obtain ⟨Hs1, A1, s1, _⟩ := A.lamT hr hs hn eN T1
    exact ⟨Hs0, H0, Hs1, A1, fun v Hs' H' A' s' hv => ⟨d, Hs', A'.g.sub, hv, fun v' Hs'' H'' g2 hv' => q v' Hs'' H'' (A'.grow g2) (s1.trans (s'.trans g2.st)) hv'⟩⟩⟩
theorem dM_twiceX (i : Nat) {s : Slot} {j : Nat} (hj : j = 0 ∨ j = 2) (D : Dfn X.K X.mg "_law_twice_told" st ["deed"]) (Sg : FnScope Ng ["deed"] (defScope st)) (hG : ∀ cdv q, LamX.GivesTo X Ng "_law_twice_told" (defScope st) D.f cdv (defBody st) "deed" q (TTw cl)) (TB : LamX.TabB X.base X.mg c P) (hcode : X.env.code = .ref c) (room : Room (k + 2) X.A)
    (hbody : ∀ (A : Around) (outer : List Env) (s : Shared) (H : Hp) (E : XK) (f c' : Addr), Room k (A.deeper (LamX.lamEnv X scope s.heap.objs.size f c')) → Takes (LamX.lamCx X A outer s H E scope f c') (WEx E) → DXM (LamX.lamCx X A outer s H E scope f c') (WEx E) r body (cl j) r') (L : LamX.LamS X.env.scope scope)
    {ql : Str} (hmT : (P, ql) ∈ tabsOf s) (hu : ∀ p ∈ tabsOf s, p.1 = P → p.2 = ql) (hql : X.env.qual ++ "<lambda>" = ql := by rfl)
    (hr : r[i]? = some s := by rfl) (hs : tabS s = true := by rfl) (hn : restOk i r = true := by rfl) (hg : Gl X "_law_twice_told" := by rfl) (hNg : Ng[0]? = some ("deed" : Str) := by rfl) (hva : Vis (defScope st) "deed" := by exact Or.inl rfl) (hdef : defaultsOf params X.env = ([], []) := by rfl)
    (hbind : ∀ (q : Str) (cl : List (Str × Addr)) (pm cv ctv : Value), bindArgs (PySem.W.kla_fn "<lambda>" q params body scope cl pm cv ctv) ⟨[], []⟩ = pure [] := by intros; rfl) : DM X r (.Call (.Name "_law_twice_told" p) [.Lambda params body scope lpos] [] pos) refN r' := by
  obtain ⟨oc, od, kV, doc, pm, an, cdv, ct, osl, hfd, lk, hcd⟩ := D.F.ex
  have hb := D.b
  rw [hfd] at lk hb
  exact PE.wk (LamX.pe_lamcall (T := tabsOf s) hg D.g D.F.kp lk hcd hb Sg hNg hva (hG cdv _) TB hcode (by rw [hql]; exact hmT) (by rw [hql]; exact hu) room L hdef hbind (t := fun E => tXM X.K (WEx E) r (cl j) r') fun A outer s H E f c' hr' => hbody A outer s H E f c' hr' (takes_of rfl rfl rfl rfl)) fun _ _ σ H Q _ ⟨Hs0, H0, Hs, A, q⟩ => ⟨A.tabsT hr hs, fun H1 eN T1 => by
    obtain ⟨Hs1, A1, s1, _⟩ := A.lamT hr hs hn eN T1
    exact ⟨Hs0, H0, Hs1, A1, fun Hs' H' A' s' => ⟨rfl, j, Hs', hj, rfl, A'.g.sub, fun v' Hs'' H'' g2 hv' => q v' Hs'' H'' (A'.grow g2) (s1.trans (s'.trans g2.st)) hv'⟩⟩⟩
end
end Dl

namespace Dl
open PySem L2 PySem.W PyProof.Rows PySem.Spec
/-! ## texts -/
section
variable {X : Cx} {E : XK} {r : Rho} {e a b c : Expr} {pos p pa : Pos} {d : PyData} {ds : List PyData} {x : Str} {s t : Str} {lo hi : Option Expr} {l u : Option Int} {p2 : Pos} {tg : Expr}
theorem de_gstr {z : Str} (h : ∃ t, X.mg x = some (.str z t)) (hg : Gl X x := by rfl) (hd : (x == ("__debug__" : Str)) = false := by decide) : DE X r (.Name x pos) (.str z) :=
  let ⟨t, e⟩ := h
  de_const (pe_glob (v := .str z) hg e ⟨t, rfl⟩ hd) fun _ => .str z
theorem r2_catS (h : s.length + t.length ≤ sizeLine) : R2D (fun x y H Q => ∃ i j, x = .str i ∧ y = .str j ∧ i.length + j.length ≤ sizeLine ∧ Q (.str (i ++ j)) H) (.str s) (.str t) (.str (s ++ t)) := fun x y Hs H Q hx hy hs q => ⟨s, t, hx.inv_str, hy.inv_str, h, q _ Hs H (Grw.refl hs) (.str _)⟩
theorem de_catS (h : s.length + t.length ≤ sizeLine) (ha : DE X r a (.str s)) (hb : DE X r b (.str t)) : DE X r (.BinOp a .Add b pos) (.str (s ++ t)) := de_op op_add_str (r2_catS h) ha hb
theorem de_strI {n : Int} (h : n.natAbs.log2 < 1920) (hm : X.mg "str" = none) (ha : DE X r e (.int n)) (hg : Gl X "str" := by rfl) (he : starEach (e :: []) X.env = (false, eval e X.env) :: starEach [] X.env := by rfl) (hpl : (backTo pos (starEach [] X.env)).any (·.1) = false := by rfl) : DE X r (.Call (.Name "str" p) [e] [] pos) (.str (toString n)) :=
  de_callT (ds := [.int n]) call_str_int (fun vs Hs H Q hv hs q => by
    cases hv with
    | cons h1 t => cases t; exact ⟨n, by rw [h1.inv_int], h, q _ Hs H (Grw.refl hs) (.str _)⟩) hg hm (by decide +kernel) (da_1 ha he) (by decide) (by decide) he hpl
theorem call_str_none : CallR X (.type "str") (fun xs H Q => xs = [.non] ∧ Q (.str "None") H) := fun pins s σ H vs us Q I rv ⟨ev, q⟩ => by
  subst ev
  obtain ⟨u, rfl, ru⟩ := vals1 rv
  obtain rfl : u = Value.none := ru
  exact PySem.P.str_of_none ⟨.str "None", H, I.tok _, ⟨_, rfl⟩, q⟩
theorem de_strNone (hm : X.mg "str" = none) (ha : DE X r e .none) (hg : Gl X "str" := by rfl) (he : starEach (e :: []) X.env = (false, eval e X.env) :: starEach [] X.env := by rfl) (hpl : (backTo pos (starEach [] X.env)).any (·.1) = false := by rfl) : DE X r (.Call (.Name "str" p) [e] [] pos) (.str "None") :=
  de_callT (ds := [.none]) call_str_none (fun vs Hs H Q hv hs q => by
    cases hv with
    | cons h1 t => cases t; exact ⟨by rw [h1.inv_none], q _ Hs H (Grw.refl hs) (.str _)⟩) hg hm (by decide +kernel) (da_1 ha he) (by decide) (by decide) he hpl
theorem de_join {ys : List Str} (ha : DE X r a (.str s)) (hb : DE X r e (.list (ys.map .str))) (hz : (ys.map (·.length)).sum + ys.length * s.length ≤ 16777216) (hs : starEach [e] X.env = [(false, eval e X.env)] := by rfl) (hbase : attributeBase a "join" X.env (eval a X.env) = eval a X.env := by rfl) (hline : (pa.endLine == pos.line) = true := by rfl) : DE X r (.Call (.Attribute a "join" pa) [e] [] pos) (.str (Txt.join s ys)) :=
  PE.wk (pe_join ha hb hs hbase hline) fun _ _ σ H Q _ ⟨Hs0, H0, Hs, A, q⟩ => ⟨Hs0, H0, Hs, A, fun v Hs1 H1 g1 h1 => ⟨⟨s, h1.inv_str⟩, Hs0, H0, Hs1, A.grow g1, fun y Hs2 H2 g2 h2 => by
    obtain ⟨b, vs, rfl, hb2, hv2⟩ := h2.inv_list
    exact ⟨s, b, ys, h1.inv_str, rfl, .inl (by rw [← hv2.strs]; exact SqL.of (g2.sub _ _ hb2)), hz, q _ Hs2 H2 (g1.trans g2) (.str _)⟩⟩⟩
theorem dn_split (ha : DE X r a (.str s)) (hb : DE X r e (.str t)) (h1 : (t.length == 0) = false) (h2 : s.length + 2 ≤ sizeLine) (hs : starEach [e] X.env = [(false, eval e X.env)] := by rfl) (hbase : attributeBase a "split" X.env (eval a X.env) = eval a X.env := by rfl) (hline : (pa.endLine == pos.line) = true := by rfl) : DN X r (.Call (.Attribute a "split" pa) [e] [] pos) ((Txt.split s t).map .str) :=
  PE.wk (pe_split ha hb hs hbase hline) fun _ _ σ H Q _ ⟨Hs0, H0, Hs, A, q⟩ => ⟨Hs0, H0, Hs, A, fun v Hs1 H1 g1 hv1 => ⟨⟨s, hv1.inv_str⟩, Hs0, H0, Hs1, A.grow g1, fun y Hs2 H2 g2 hv2 =>
    ⟨s, t, hv1.inv_str, by rw [hv2.inv_str], h1, h2, fun z hz => q z _ Hs2 _ ((g1.trans g2).trans (Grw.laidO g2.sub hz)) ((g1.trans g2).all.free hz) (g2.sub.free hz) upd_same (Dats.of_strs _)⟩⟩⟩
theorem de_lenS (hm : X.mg "len" = none) (ha : DE X r e (.str s)) (hz : s.length ≤ sizeLine) (hg : Gl X "len" := by rfl) (he : starEach (e :: []) X.env = (false, eval e X.env) :: starEach [] X.env := by rfl) (hpl : (backTo pos (starEach [] X.env)).any (·.1) = false := by rfl) : DE X r (.Call (.Name "len" p) [e] [] pos) (nI s.length) :=
  de_callB (ds := [.str s]) call_len_str (fun vs Hs H Q hv hs q => by
    cases hv with
    | cons h1 t => cases t; exact ⟨s, by rw [h1.inv_str], hz, q _ Hs H (Grw.refl hs) (.int _)⟩) hg hm PySem.boot_len (da_1 ha he) (by decide) (by decide) he hpl
theorem de_ixS {i : Int} {z : Nat} (ha : DE X r a (.str s)) (hz : s.length ≤ sizeLine) (hb : DE X r b (.int i)) (hk : atI s.cps.toList i = some z) (hs : PlainIx b := by intro _ _; rfl) : DE X r (.Subscript a b pos) (.str ⟨#[z]⟩) :=
  de_ixr ix_str (fun x y Hs H Q hx hy hs q => ⟨s, i, z, hx.inv_str, hy.inv_int, hz, hk, q _ Hs H (Grw.refl hs) (.str _)⟩) ha hb hs
/-- the signs of a text -/
def signs (s : Str) : List PyData := s.cps.toList.map fun c => .str ⟨#[c]⟩
theorem its_ok {Hs : Hp} : ItOk Hs (Its s) (signs s) := fun i Hs1 H1 s1 s2 => ⟨fun d e => by
    unfold signs at e
    rw [List.getElem?_map] at e
    cases q : s.cps.toList[i]? with
    | none => rw [q] at e; cases e
    | some c =>
      rw [q] at e
      cases e
      have hi : i < s.cps.size := by
        have := (List.getElem?_eq_some_iff.mp q).1
        simpa using this
      refine ⟨hi, fun v H2 ⟨e2, c', hc', ev⟩ => ?_⟩
      subst e2
      have : c' = c := by
        have q2 : s.cps[i]? = some c := by rw [← Array.getElem?_toList]; exact q
        have hc' : s.cps[i]? = some c' := hc'
        rw [q2] at hc'
        injection hc' with z
        exact z.symm
      subst this
      rw [ev]
      exact ⟨Hs1, Grw.refl s2, .str _⟩, fun hl => by
    unfold signs at hl
    rw [List.length_map] at hl
    show s.cps.size ≤ i
    rw [← hl]
    simp⟩
theorem di_str (h : DE X r e (.str s)) (hz : s.length ≤ sizeLine) : DI X r tg e (signs s) := PI.wk (pi_str h) fun σ H R ⟨Hs0, H0, Hs, A, q⟩ => ⟨Hs0, H0, Hs, A, fun v Hs' H' g hv => ⟨s, hv.inv_str, fun _ => q _ Hs' H' g its_ok (by unfold signs; rw [List.length_map]; exact hz)⟩⟩
theorem de_inS {z : Nat} (ha : DE X r a (.str ⟨#[z]⟩)) (hb : DE X r b (.str t)) (hm : behindInMarks .In b = false := by rfl) : DE X r (.Compare a [.In] [b] pos) (.bool (decide (z ∈ t.cps.toList))) :=
  de_cmp op_in_sign (fun x y Hs H Q hx hy hs q => ⟨z, t, hx.inv_str, hy.inv_str, q _ Hs H (Grw.refl hs) (.bl _)⟩) ha hb hm
theorem de_intS {n : Int} (hn : PySem.intText? s = some n) (hz : s.length ≤ 640) (hm : X.mg "int" = none) (ha : DE X r e (.str s)) (hg : Gl X "int" := by rfl) (he : starEach (e :: []) X.env = (false, eval e X.env) :: starEach [] X.env := by rfl) (hpl : (backTo pos (starEach [] X.env)).any (·.1) = false := by rfl) : DE X r (.Call (.Name "int" p) [e] [] pos) (.int n) :=
  de_callT (ds := [.str s]) call_int_str (fun vs Hs H Q hv hs q => by
    cases hv with
    | cons h1 t => cases t; exact ⟨s, n, by rw [h1.inv_str], hn, hz, q _ Hs H (Grw.refl hs) (.int _)⟩) hg hm (by decide +kernel) (da_1 ha he) (by decide) (by decide) he hpl
theorem de_slS (ha : DE X r a (.str s)) (hz : s.length ≤ sizeLine) (hl : DO X r lo l) (hh : DO X r hi u) : DE X r (.Subscript a (.Slice lo hi none p2) pos) (.str (cutS s l u)) :=
  PE.wk (pe_slice sl_str ha hl hh) fun _ _ σ H Q _ ⟨Hs0, H0, Hs, A, q⟩ => ⟨Hs0, H0, Hs, A, fun x Hs1 H1 g1 h1 => ⟨Hs0, H0, Hs1, A.grow g1, fun Hs2 H2 g2 => ⟨Hs0, H0, Hs2, A.grow (g1.trans g2), fun Hs3 H3 g3 => ⟨s, h1.inv_str, hz, q _ Hs3 H3 ((g1.trans g2).trans g3) (.str _)⟩⟩⟩⟩
end
end Dl

namespace Dl
open PySem L2 PySem.W PyProof.Rows PySem.Spec
/-! ## texts that are refused -/
section
variable {X : Cx} {E : XK} {r : Rho} {e a b c : Expr} {pos p pa : Pos} {d : PyData} {ds : List PyData} {x : Str} {s t : Str} {C : Addr} {W : WX}
theorem pts_neverX {es : List Expr} : PTs X es (fun _ _ _ => False) := ⟨fun _ _ _ _ _ _ h => h.elim⟩
theorem pg_neverX {tg : Expr} : PG X tg (fun _ _ _ _ => False) := ⟨fun _ _ _ _ _ _ _ _ _ h => h.elim⟩
/-- [elt for tg in iter ..]: the rows themselves raise -/
theorem dx_lcI {elt tg iter : Expr} {ifs : List Expr} {scope : Scope} {pos : Pos} (own : List (Str × Nat)) (ws : List Nat) (hc : X.calm = true) (hN : X.N.Nodup) (lt : Lets X E) (fr : Fr X) (ok : BlkOk X.N X.env.scope scope own) (h : DX X (WEx E) r iter C)
    (hs : ∀ x, foldedSetIterable iter X.env x = pure x := by intro _; rfl) : DX X (WEx E) r (.ListComp elt [⟨tg, iter, ifs, 0⟩] scope pos) C :=
  PE.wk (pe_lcX (E := E) (own := own) hc hN lt fr (pi_list h) ok (fun _ _ _ _ _ => pg_neverX) (fun _ _ _ _ _ _ => pts_neverX) (fun _ _ _ _ _ _ => pe_never) hs) fun _ _ σ H Q _ q => q
end
end Dl

namespace Dl
open PySem L2 PySem.W PyProof.Rows PySem.Spec
/-! ## texts and tuples, so many times -/
section
variable {X : Cx} {E : XK} {r : Rho} {e a b c : Expr} {pos p pa : Pos} {d : PyData} {ds : List PyData} {x : Str} {s t : Str} {C : Addr} {W : WX}
def repS (s : Str) (n : Nat) : Str := ⟨(List.replicate n s.cps).foldl (· ++ ·) #[]⟩
theorem op_mulS : OpR X (binaryOp .Mult) (fun x y H Q => ∃ (i : Str) (n : Nat), x = .str i ∧ y = .int (n : Int) ∧ 2 ≤ n ∧ n ≤ 1000 ∧ 1 ≤ i.length ∧ i.length ≤ 1000 ∧ (repS i n).length ≤ sizeLine ∧ Q (.str (repS i n)) H) := by
  intro pins s σ H x y v u Q I rx ry h
  obtain ⟨i, n, rfl, rfl, h1, h2, h3, h4, h5, q⟩ := h
  obtain ⟨t, rfl⟩ := rx
  obtain ⟨t2, rfl⟩ := ry
  refine PySem.P.mul_str (by rw [decide_eq_false (by omega), decide_eq_false (by omega)]; rfl) (fun _ _ z => ?_) (fun _ _ => ?_) ?_
  · have a1 : (1000 : Int) ≤ (2 ^ 63 - 1) / (n : Int) := by
      rw [Int.le_ediv_iff_mul_le (by omega)]
      omega
    omega
  · show decide (i.length * (n : Int).toNat > sizeLine) = false
    refine decide_eq_false ?_
    have : i.length * (n : Int).toNat ≤ 1000 * 1000 := Nat.mul_le_mul h4 (by omega)
    have := size_ok (n := i.length * (n : Int).toNat) (by omega)
    omega
  · rw [if_neg (by omega), if_neg (by
      rw [show ((n : Int) == 1) = false from beq_eq_false_iff_ne.mpr (by omega), show (i.length == 0) = false from beq_eq_false_iff_ne.mpr (by omega)]
      exact Bool.false_ne_true)]
    rw [Int.toNat_natCast]
    exact ⟨h5, .str (repS i n), H, I.tok _, ⟨_, rfl⟩, q⟩
theorem de_mulS {n : Nat} (h1 : 2 ≤ n) (h2 : n ≤ 1000) (h3 : 1 ≤ s.length) (h4 : s.length ≤ 1000) (h5 : (repS s n).length ≤ sizeLine) (ha : DE X r a (.str s)) (hb : DE X r b (nI n)) : DE X r (.BinOp a .Mult b pos) (.str (repS s n)) :=
  de_op op_mulS (fun x y Hs H Q hx hy hs q => ⟨s, n, hx.inv_str, hy.inv_int, h1, h2, h3, h4, h5, q _ Hs H (Grw.refl hs) (.str _)⟩) ha hb
theorem DEm.is {d1 : PyData} (h : DEm X r e d1) (q : d1 = d) : DEm X r e d := q ▸ h
theorem de_repT {n : Nat} (h1 : 2 ≤ n) (h2 : n ≤ 1000) (h3 : ds ≠ []) (h4 : ds.length ≤ 1000) (ha : DE X r a (.tuple ds)) (hb : DE X r b (nI n)) : DE X r (.BinOp a .Mult b pos) (.tuple (List.replicate n ds).flatten) :=
  de_op op_repT (fun x y Hs H Q hx hy h q => by
    obtain ⟨p, vs, rfl, hp, hv⟩ := hx.inv_tuple
    refine ⟨p, (n : Int), vs, rfl, hy.inv_int, SqT.rd (Rd.same h hp), fun z => ?_, by omega, by omega, by rw [hv.length]; exact h4, fun l hl => ?_⟩
    · have := hv.length
      rw [z] at this
      exact h3 (List.eq_nil_of_length_eq_zero this.symm)
    · rw [Int.toNat_natCast]
      exact q _ _ _ (Grw.laid h hl) (.tup (.inl upd_same) ((hv.rep n).mono (same_upd (h.free hl))))) ha hb
end
end Dl

namespace Dl
open PySem L2 PySem.W PyProof.Rows PySem.Spec
/-! ## a def with lambdas of its own, without an object -/
def spT (K : PySem.W.Frag) (T : List (Addr × Str)) (R : Rho → PyData → Prop) : Sp := fun vs H Q _ => ∃ Hs as d, Same Hs H ∧ (∀ p ∈ T, Hs p.1 = none ∧ TabF Hs H p.1 p.2) ∧ CodesIn H Hs ∧ (∀ b ps, Hs b ≠ some (.tbl ps)) ∧ Args K Hs vs as ∧ R as d ∧
  ∀ v Hs' H', MoT [] T Hs H Hs' H' [] → Dat Hs' v d → Q v H'
section
variable {P : Program} {w : World} {K : PySem.W.Frag} {mg : Str → Option Value} {base : Heap}
open Classical in
theorem okT {x : Str} {st : Stmt} {N ps : List Str} {k : Nat} {c : Addr} {T : List (Addr × Str)} {R : Rho → PyData → Prop} (D : Dfn K mg x st ps) (hc : D.fd.code = .ref c) (S : FnScope N ps (defScope st)) (len : ∀ as d, R as d → as.length = ps.length) (hv : ∀ as d, R as d → ∃ d1 as', as = .val d1 :: as') (hn : ps.length ≤ N.length)
    (hb : ∀ (A : Around) (outer : List Env) (s : Shared) (H : Hp) (E : XK), Room k (A.deeper (PyProof.Rows.envOfC x (defScope st) s.heap.objs.size D.f (.ref c))) → ∀ d1 as d, R (.val d1 :: as) d →
      DSs (cx0 P w K mg base N x (defScope st) D.f (.ref c) A outer s H E) E0 (.valT d1 T :: as ++ List.replicate (N.length - (as.length + 1)) .un) (defBody st) { nx := fun _ => False, ro := fun z r' => z = d ∧ ∃ d2, r'[0]? = some (.valT d2 T) }) : FnOk P w K mg base CX0 (k + 1) D.f D.fd ps (spT K T R) := by
  obtain ⟨oc, od, kV, doc, pm, an, cdv, ct, osl, e, lk, hcd⟩ := D.F.ex
  rw [e] at hc lk ⊢
  have hc' : cdv = .ref c := hc
  subst hc'
  refine fn_of lk hcd S (fun vs H Q E h => ?_) fun A outer s H vs Q E hr h => ?_
  · obtain ⟨Hs, as, d, _, _, _, _, ha, hR, _⟩ := h
    rw [ha.length]
    exact len as d hR
  · obtain ⟨Hs, as, d, hs, hT, hC, hnt, ha, hR, q⟩ := h
    obtain ⟨d1, as, rfl⟩ := hv as d hR
    have hl := len _ _ hR
    obtain ⟨H0, eH0⟩ : ∃ H0 : Hp, H0 = fun x => if ∃ ps, H x = some (.tbl ps) then none else H x := ⟨_, rfl⟩
    have h00 : Same H0 H := fun x o z => by
      rw [eH0] at z
      have z : (if ∃ ps, H x = some (.tbl ps) then none else H x) = some o := z
      split at z
      · cases z
      · exact z
    have h0n : ∀ x, H0 x = none → H x = none ∨ ∃ ps, H x = some (.tbl ps) := fun x z => by
      rw [eH0] at z
      have z : (if ∃ ps, H x = some (.tbl ps) then none else H x) = none := z
      split at z
      · rename_i y; exact .inr y
      · exact .inl z
    have h0k : ∀ x o, (∀ ps, o ≠ .tbl ps) → H x = some o → H0 x = some o := fun x o z2 z3 => by
      rw [eH0]
      show (if ∃ ps, H x = some (.tbl ps) then none else H x) = some o
      rw [if_neg]
      · exact z3
      · rintro ⟨ps, y⟩
        rw [z3] at y; injection y with y; exact z2 ps y
    have tb : CdTab Hs H0 := ⟨fun b q z => hC b q (h00 _ _ z), hnt, fun b ps z => by
      have y := h00 _ _ z
      rw [eH0] at z
      have z : (if ∃ ps, H b = some (.tbl ps) then none else H b) = some (.tbl ps) := z
      rw [if_pos ⟨ps, y⟩] at z; cases z⟩
    have hT0 : ∀ p ∈ T, H0 p.1 = none := fun p hp => by
      obtain ⟨_, ps, z, _⟩ := hT p hp
      rw [eH0]; exact if_pos ⟨ps, z⟩
    obtain ⟨F, A0⟩ := (args_slots (N := N) hs ha (by rw [hl]; exact hn)).ex
    have noF : ∀ i x, x ∉ F i := fun i x m => (A0.fr.own i x m).2.2 (A0.fr.own i x m).1
    have A0' : AsnF K Hs H0 ((Slot.val d1 :: as) ++ List.replicate (N.length - (Slot.val d1 :: as).length) Slot.un) (L2.start N vs) Hs H F := ⟨⟨h00, Same.refl _, hs, fun _ z => .inl z, fun _ _ z => z⟩, ⟨A0.fr.at_, fun i x m => (noF i x m).elim, A0.fr.dist, fun i s e h => tb⟩, A0.len⟩
    have A1 := A0'.addTab (j := 0) (d := d1) (T := T) rfl (fun p hp => ⟨hT0 p hp, (hT p hp).1, (hT p hp).2, fun k => noF k _⟩) tb
    have eR : ((Slot.val d1 :: as) ++ List.replicate (N.length - (Slot.val d1 :: as).length) Slot.un).set 0 (.valT d1 T) = .valT d1 T :: as ++ List.replicate (N.length - (as.length + 1)) .un := by
      rw [List.length_cons]; rfl
    rw [eR] at A1
    refine ⟨_, (hb A outer s H E hr d1 as d hR).nox, Hs, H0, Hs, A1.asn, ?_⟩
    refine ⟨fun r' σ' Hs' H' p A' _ => p.elim, fun d' v Hs' H' p g hv => p.elim, fun _ _ _ _ p => p.elim, fun _ _ _ _ p => p.elim, fun _ _ _ _ _ p => p.elim, fun _ _ _ _ _ p => p.elim, fun d' r' v σ' Hs' H' p A' hv => ?_⟩
    obtain ⟨ed, d2, z1⟩ := p
    obtain ⟨F', A'⟩ := A'.ex
    obtain ⟨_, ht⟩ := A'.fr.at_ 0 _ z1
    refine q v Hs' H' ⟨A'.g.st, A'.g.sub, fun x o _ y2 y3 => A'.g.all _ _ (h0k x o y2 y3), fun x y => ?_, A'.g.nt, fun x m => (by cases m), fun p hp => ⟨List.not_mem_nil, (A'.fr.own 0 _ (ht p hp).1).2.1, (ht p hp).2⟩⟩ (by rw [← ed]; exact hv)
    rcases A'.g.new x y with u | u
    · exact .inl u
    · rcases h0n x u with v | v
      · exact .inr (.inl v)
      · exact .inr (.inr (.inr v))
end
section
variable {X : Cx} {E : XK} {r : Rho} {e : Expr} {es : List Expr} {pos px p : Pos} {d : PyData} {k : Nat} {x y : Str} {st : Stmt} {ps : List Str} {a : Addr} {as : Rho}
open Classical in
/-- the caller's slots behind such a def -/
theorem AsnF.tabT {K : PySem.W.Frag} {Hs0 H0 : Hp} {σ : L2.St} {Hs H Hs' H' : Hp} {F : Nat → List Addr} {j : Nat} {s : Slot} (A : AsnF K Hs0 H0 r σ Hs H F) (hs : r[j]? = some s) (ht : tabS s = true) (hn : restOk j r = true) (m : MoT [] (tabsOf s) Hs H Hs' H' []) : Asn K Hs0 H0 r σ Hs' H' := by
  have tb := A.fr.tb j s hs ht
  obtain ⟨hh, htt⟩ := tab_split ht (A.fr.at_ j s hs)
  have h0' : ∀ x, (H x = none ∨ ∃ ps, H x = some (.tbl ps)) → H0 x = none := fun x z => by
    rcases z with y | ⟨ps, y⟩
    · exact A.g.all.free y
    · cases u : H0 x with
      | none => rfl
      | some o => have := A.g.all _ _ u; rw [y] at this; injection this with this; exact absurd (by rw [u, ← this]) (tb.all x ps)
  have g' : Grw Hs0 H0 Hs' H' := ⟨fun x o q => m.keep x o List.not_mem_nil (fun ps z => tb.all x ps (by rw [q, z])) (A.g.all _ _ q), A.g.st.trans m.st, m.sub, fun x q => by
    rcases m.new x q with z | z | z | z
    · exact A.g.new x z
    · exact .inr (h0' x (.inl z))
    · cases z
    · exact .inr (h0' x (.inr z)), fun x ps q => A.g.nt x ps (m.nt x ps q)⟩
  have sub : ∀ k, ∀ x, x ∈ (if k = j then (tabsOf s).map (·.1) else (F k).filter fun x => decide (CalmF H x)) → x ∈ F k := fun k x hx => by
    by_cases z' : k = j
    · rw [if_pos z'] at hx
      obtain ⟨p, hp, rfl⟩ := List.mem_map.mp hx
      rw [z']; exact (htt p hp).1
    · rw [if_neg z'] at hx; exact (List.mem_filter.mp hx).1
  refine ⟨g', ⟨fun k => if k = j then (tabsOf s).map (·.1) else (F k).filter fun x => decide (CalmF H x), fun k s' e => ?_, fun k x mx => ?_, fun k k' x mx mx' => A.fr.dist k k' x (sub k x mx) (sub k' x mx'), fun k s' e hts => tb⟩, A.len⟩
  · by_cases z' : k = j
    · subst z'
      rw [if_pos rfl]
      rw [hs] at e
      cases e
      exact tab_join ht (hh.mono m.st) fun p hp => ⟨List.mem_map_of_mem hp, (m.tab p hp).2.2⟩
    · rw [if_neg z']
      exact calm_slot (restOk_at hn k s' z' e) m.st (fun x hx o q n => m.keep x o List.not_mem_nil n q) (A.fr.at_ k s' e)
  · by_cases z' : k = j
    · rw [if_pos z'] at mx
      obtain ⟨p, hp, rfl⟩ := List.mem_map.mp mx
      obtain ⟨_, h2, ps, h3, _⟩ := m.tab p hp
      exact ⟨(A.fr.own j _ (htt p hp).1).1, h2, by rw [h3]; simp⟩
    · rw [if_neg z'] at mx
      obtain ⟨m1, m2⟩ := List.mem_filter.mp mx
      obtain ⟨o, y, n1, n2⟩ := of_decide_eq_true m2
      obtain ⟨b0, b1, b2⟩ := A.fr.own k x m1
      refine ⟨b0, ?_, by rw [m.keep x o List.not_mem_nil n2 y]; simp⟩
      cases u : Hs' x with
      | none => rfl
      | some o' =>
        rcases m.new x (by rw [u]; simp) with v | v | v | ⟨ps, v⟩
        · exact absurd b1 v
        · exact absurd v b2
        · cases v
        · rw [y] at v; injection v with v; exact absurd v (n2 ps)
/-- f(..), f has tables, which the slot j holds -/
theorem dM_callT (j : Nat) {s : Slot} {R : Rho → PyData → Prop} {T : List (Addr × Str)} (D : Dfn X.K X.mg y st ps) (F : FnOk X.prog X.w X.K X.mg X.base CX0 k D.f D.fd ps (spT X.K T R)) {k' : Nat} (hr : Room k' X.A) (hk : k ≤ k') (ha : DA X r (e :: es) as) (hR : R as d) (hT : tabsOf s = T) (hs : r[j]? = some s := by rfl) (ht : tabS s = true := by rfl) (hn : restOk j r = true := by rfl)
    (hg : Gl X y := by rfl) (hdb : (y == ("__debug__" : Str)) = false := by decide) (he : starEach (e :: es) X.env = (false, eval e X.env) :: starEach es X.env := by rfl) (hpl : (backTo pos (starEach es X.env)).any (·.1) = false := by rfl) : DM X r (.Call (.Name y p) (e :: es) [] pos) d r :=
  PE.wk (pe_call F (hr.mono hk) hg D.g D.F.kp D.b .nil pass0 ha hdb he hpl) fun _ _ σ H Q _ ⟨Hs0, H0, Hs, A, q⟩ => by
    subst hT
    refine ⟨Hs0, H0, Hs, A, fun vs Hs1 H1 g1 ha1 => ?_⟩
    have A1 := A.grow g1
    obtain ⟨Hs2, A2, s2, cd⟩ := A1.lamT hs ht hn (LamX.ExtN.refl _) (A1.tabsT hs ht)
    obtain ⟨Fp, A2⟩ := A2.ex
    have tb := A2.fr.tb j s hs ht
    obtain ⟨_, htt⟩ := tab_split ht (A2.fr.at_ j s hs)
    show spT X.K (tabsOf s) R (vs ++ []) H1 Q E0
    rw [List.append_nil]
    exact ⟨Hs2, as, d, A2.g.sub, fun p hp => ⟨(A2.fr.own j _ (htt p hp).1).2.1, (htt p hp).2⟩, cd, fun b ps z => tb.st b ps (A2.g.nt b ps z), ha1.mono s2, hR, fun v Hs' H' mo hv => q v Hs' H' (A2.tabT hs ht hn mo) (g1.st.trans (s2.trans mo.st)) hv⟩
end
end Dl

namespace Dl
open PySem L2 PySem.W PyProof.Rows PySem.Spec
/-! ## lambda x: .. y .., y captured, handed on through defs and called there -/
structure LamF (x y : Str) (scope : Scope) : Prop where
  kind : scope.kind = .function
  co : scope.isCoroutine = false
  gen : scope.isGenerator = false
  lx : scope.names.lookup x = some .local
  ly : scope.names.lookup y = some .free
  cell : ∀ z ∈ scope.names, z.2 ≠ .cell
  free : ∀ z ∈ scope.names, z.2 = .free → z.1 = y
/-- one such lambda: its code object at c, the captured name's cell, which holds n -/
structure Lmd where
  q : Str
  x : Str
  y : Str
  params : Arguments
  body : Expr
  scope : Scope
  clos : List (Str × Addr)
  c : Addr
  cell : Addr
  n : Int
structure Lmd.Ok (l : Lmd) : Prop where
  L : LamF l.x l.y l.scope
  all : ∀ z c, l.clos.lookup z = some c → z = l.y ∧ c = l.cell
  has : l.clos.lookup l.y = some l.cell
  bind : ∀ (pm cdv ctv u : Value), bindArgs (kla_fn "<lambda>" l.q l.params l.body l.scope l.clos pm cdv ctv) ⟨[u], []⟩ = pure [(l.x, u)]
abbrev Lmd.env (l : Lmd) (L f : Addr) : Env := envX l.q l.scope L f (.ref l.c) l.clos
/-- the context of its body, entered at s from the frames outer -/
def Lmd.cx (l : Lmd) (P : Program) (w : World) (K : PySem.W.Frag) (mg : Str → Option Value) (base : Heap) (f : Addr) (A : Around) (outer : List Env) (s : Shared) (H : Hp) : Cx where
  prog := P
  w := w
  K := K
  mg := mg
  base := base
  A := A.deeper (l.env s.heap.objs.size f)
  N := [l.x, l.y]
  s_0 := s
  H_0 := H
  env := l.env s.heap.objs.size f
  outer := outer
  stack := l.env s.heap.objs.size f :: outer
  ex := []
  fn := fun _ => false
  calm := true
  pn := []
  xe := fun _ _ => False
/-- the lambda's body makes d' of d -/
def Lmd.Does (l : Lmd) (P : Program) (w : World) (K : PySem.W.Frag) (mg : Str → Option Value) (base : Heap) (k : Nat) (R : PyData → PyData → Prop) : Prop :=
  ∀ (f : Addr) (A : Around) (outer : List Env) (s : Shared) (H : Hp) (d d' : PyData), R d d' → Room k (A.deeper (l.env s.heap.objs.size f)) → DE (l.cx P w K mg base f A outer s H) [.val d, .val (.int l.n)] l.body d'
/-- the lambda is known to stand at f, and its cell, in the state s -/
structure Kn (l : Lmd) (f : Addr) (s : Shared) (H : Hp) (fs : List Addr) : Prop where
  obj : ∃ pm ctv, s.heap.get? f = some (kla_obj "<lambda>" l.q l.params l.body l.scope l.clos pm l.c ctv)
  free : H f = none
  nofr : f ∉ fs
  cell : ∃ u, RelV (.int l.n) u ∧ s.heap.IsCell l.cell (some u)
  cfree : H l.cell = none
/-- a slot that holds it: its code object is of the part that stays -/
def codeOb (c : Addr) (q : Str) : Ob where
  J := fun Hs _ _ F => F = [] ∧ Hs c = some (LamX.CodeO c q)
  chg := fun e _ h => ⟨h.1, e _ _ h.2⟩
  calm := true
  cm := by
    intro _ _ _ _ _ h x hx
    rw [h.1] at hx
    cases hx
section
variable {X : Cx} {pins : List (Addr × Obj)} {σ : L2.St} {H : Hp} {s : Shared} {l : Lmd} {f : Addr}
theorem Kn.at (k : Kn l f X.s_0 X.H_0 X.fs) (hex : X.ex = []) (I : Inv X pins σ H s) : Kn l f s H (frs X.stack) := by
  obtain ⟨⟨pm, ctv, ho⟩, h1, h2, ⟨u, ru, oc, hoc, hdc⟩, h4⟩ := k
  have nex : ∀ b, b ∉ X.ex := fun b z => by rw [hex] at z; cases z
  refine ⟨⟨pm, ctv, I.base.keep f _ ho h1 h2 (nex f)⟩, I.base.free f _ ho h1 (nex f), fun z => ?_, ⟨u, ru, ?_⟩, I.base.free _ _ hoc h4 (nex _)⟩
  · rcases List.mem_cons.mp (I.stkSub f z) with e | e
    · have a := Heap.lt_size ho
      have b := I.ok.above
      rw [e] at a
      exact Nat.lt_irrefl _ (Nat.lt_of_lt_of_le a b)
    · exact h2 e
  · obtain ⟨sl, q⟩ := I.base.any hoc h4 (nex _)
    exact ⟨_, q, hdc⟩
end
section
variable {P : Program} {w : World} {K : PySem.W.Frag} {mg : Str → Option Value} {base : Heap} {l : Lmd} {f : Addr}
theorem lmd_start {A : Around} {outer : List Env} {s : Shared} {H : Hp} {h₁ : Heap} {tk : Nat} {a : V} {u v : Value} (lo : l.Ok) (e0 : Env0 P w K mg base A outer s H) (hd : A.handled = none) (hci : s.heap.IsCell l.cell (some v)) (hcn : H l.cell = none) (ru : RelV a u) (rv : RelV (.int l.n) v)
    (hns : h₁.Ns s.heap.objs.size fun y => ([(l.x, u)] : List (Str × Value)).reverse.lookup y) (kp : ∀ b o, s.heap.get? b = some o → h₁.get? b = some o) :
    Inv (l.cx P w K mg base f A outer s H) [] [some a, some (.int l.n)] H { s with heap := h₁, toks := tk } := by
  have noA : ∀ b : Addr, b ∉ (l.cx P w K mg base f A outer s H).ex := fun b z => absurd (show b ∈ ([] : List Addr) from z) (by simp)
  obtain ⟨oc, hoc, hdc⟩ := hci
  have hci' : h₁.IsCell l.cell (some v) := ⟨oc, kp _ _ hoc, hdc⟩
  refine ⟨⟨e0.mod, lo.L.kind, rfl, rfl, Nat.le_refl _, fun y z c e1 e2 => ((lo.all _ _ e1).1).trans ((lo.all _ _ e2).1).symm, fun z hz => ?_, fun z c hz _ => ?_, fun _ => hd, Around.frames_deeper e0.frames, .inr ⟨rfl, rfl⟩, fun b z => absurd z (noA b), e0.bs, e0.bsz, fun b _ _ => noA b,
      fun b z => absurd z (noA b), e0.funs, e0.frf⟩,
    rfl, e0.bare, Un.kept kp, ⟨_, hns, fun i z v' e1 e2 e3 => ?_⟩, fun z c e => ?_, e0.hok.fresh (Nat.le_refl _), fun z c e => ?_, fun q hq => absurd (show q ∈ ([] : List (Addr × Obj)) ++ [] from hq) (by simp), e0.hok.kept kp, rfl⟩
  · have hz : l.scope.names.lookup z = some .cell ∨ l.scope.names.lookup z = some .free := hz
    rcases hz with hz | hz
    · exact absurd rfl (lo.L.cell _ (PySem.mem_of_lookup hz))
    · have e : z = l.y := lo.L.free _ (PySem.mem_of_lookup hz) rfl
      rw [e]
      exact ⟨l.cell, lo.has⟩
  · have z : false = true := hz
    cases z
  · match i, e1, e2 with
    | 0, e1, e2 =>
      have e1 : some l.x = some z := e1
      have e2 : some (some a) = some (some v') := e2
      cases e1
      cases e2
      exact ⟨u, ru, .inl ⟨lo.L.lx, by simp⟩⟩
    | 1, e1, e2 =>
      have e1 : some l.y = some z := e1
      have e2 : some (some (V.int l.n)) = some (some v') := e2
      cases e1
      cases e2
      exact ⟨v, rv, .inr ⟨.inr lo.L.ly, l.cell, lo.has, hci'⟩⟩
    | i + 2, e1, e2 =>
      have e1 : (none : Option Str) = some z := e1
      cases e1
  · have e : l.clos.lookup z = some c := e
    rw [(lo.all z c e).2]
    exact ⟨_, hci'⟩
  · have e : l.clos.lookup z = some c := e
    rw [(lo.all z c e).2]
    exact hcn
end
section
variable {X : Cx} {r : Rho} {e e1 e2 : Expr} {pos p p1 p2 pa lpos : Pos} {d d' : PyData} {k : Nat} {l : Lmd} {f : Addr} {a g : Str} {s1 s2 : Slot} {st : Stmt} {ps : List Str} {R : Rho → PyData → Prop}
/-- x(e), x the lambda -/
theorem de_callFo (i : Nat) {R : PyData → PyData → Prop} (lo : l.Ok) (kn : Kn l f X.s_0 X.H_0 X.fs) (hb : l.Does X.prog X.w X.K X.mg X.base k R) (hr : Room (k + 1) X.A) (he : DE X r e d) (hR : R d d') (hi : r[i]? = some (.obj f (codeOb l.c l.q)) := by rfl) (hex : X.ex = [] := by rfl)
    (hN : X.N[i]? = some a := by rfl) (hv : Vis X.env.scope a := by first | exact Or.inl rfl | exact Or.inr (Or.inl rfl) | exact Or.inr (Or.inr rfl)) (hd : (a == ("__debug__" : Str)) = false := by decide) (hcd : (a == ("__classdict__" : Str)) = false := by decide)
    (hs : starEach (e :: []) X.env = (false, eval e X.env) :: starEach [] X.env := by rfl) (hpl : (backTo p2 (starEach [] X.env)).any (·.1) = false := by rfl) : DE X r (.Call (.Name a p1) [e] [] p2) d' := by
  refine ⟨fun pins s σ H Q I ⟨Hs0, H0, Hs, A, qq⟩ => ?_⟩
  obtain ⟨_, e1, _, _⟩ := A.at_ i _ hi
  refine wpAny_Call_Name_kw (thn ((pe_var (pos := p1) (i := i) hN hv hd hcd).run pins s σ H (fun v H1 => v = .ref f ∧ H1 = H) I ⟨.ref f, e1, rfl, rfl⟩) fun u s1 ⟨v, H1, I1, r1, q1⟩ => ?_)
  obtain ⟨ev, eH⟩ := q1
  subst ev
  rw [eH] at I1
  obtain rfl : u = Value.ref f := r1
  obtain ⟨pm0, ctv0, hf⟩ := (kn.at hex I1).obj
  refine callWith_F ⟨_, _, _, _, hf⟩ (thn ((pa_cons he pa_nil hs).run p2 pins s1 σ H (fun vs H2 => ∃ v Hs2, vs = [v] ∧ Grw Hs H Hs2 H2 ∧ Dat Hs2 v d) I1 ⟨Hs0, H0, Hs, A, fun v Hs1 H1 g hv => ⟨v, Hs1, rfl, g, hv⟩⟩) fun us s2 ⟨vs, H2, I2, r2, v, Hs2, ev, g2, hv⟩ => ?_) hs hpl
  subst ev
  obtain ⟨u, rfl, ru⟩ := vals1 r2
  obtain ⟨⟨pm, ctv, hf2⟩, hfree, hnofr, ⟨un, run, hcell⟩, hcf⟩ := kn.at hex I2
  refine ⟨⟨_, _, _, _, hf2⟩, ?_⟩
  have A2 := A.grow g2
  obtain ⟨_, _, _, _, hco⟩ := A2.at_ i _ hi
  obtain ⟨⟨oc, vs, t, hoc, hdc, hvc⟩, _, _⟩ := I2.hok l.c _ (A2.g.sub _ _ hco)
  have rc : codeAny (model X.prog X.w) X.A (.call (.ref f) ⟨[u], []⟩) (CR CX0 X.stack X.prog X.w H2 s2 Q E0) s2 := by
    refine kla_callFunE hr.depth hf2 rfl lo.L.co lo.L.gen rfl ⟨l.c, oc, vs, t, rfl, hoc, hdc, hvc⟩ ?_
    rw [lo.bind]
    refine wpAny_pure (wpAny_newFunctionEnv (fun y hy => lo.L.cell y hy) (fun y hy => by rw [List.mem_singleton.mp hy]; exact lo.L.lx) (fun h₁ hns hsb => ⟨I2.nolimit.fresh _ hsb, ?_⟩) lo.L.kind)
    show codeAny _ _ (.expr l.body (l.env s2.heap.objs.size f)) _ _
    have kp : ∀ b o, s2.heap.get? b = some o → h₁.get? b = some o := fun b o e => hsb.extBut b o (Nat.ne_of_lt (Heap.lt_size e)) (Heap.get?_push_of_some _ e)
    have J : Inv (l.cx X.prog X.w X.K X.mg X.base f X.A X.stack s2 H2) [] [some v, some (.int l.n)] H2 { s2 with heap := h₁, toks := s2.toks + ([(l.x, u)] : List (Str × Value)).length } := lmd_start lo I2.env0 hr.hd hcell hcf ru run hns kp
    have aa : Args X.K Hs2 [v, .int l.n] [.val d, .val (.int l.n)] := .cons hv (.cons (Dat.int l.n) .nil)
    have AA : Asn X.K Hs2 H2 [.val d, .val (.int l.n)] [some v, some (.int l.n)] Hs2 H2 := args_slots (N := [l.x, l.y]) A2.g.sub aa (Nat.le_refl _)
    refine kla_codeExpr (wpAny_mono ((hb f X.A X.stack s2 H2 d d' hR (hr.deeper _)).run [] _ _ H2 Q J ⟨Hs2, H2, Hs2, AA, fun v' Hs' H' g hv' => qq v' Hs' H' (g2.trans g) hv'⟩) (fun v s' hq => ?_) fun e s' hq => (show False from hq).elim)
    obtain ⟨w', H', J', rv, q⟩ := hq
    exact ⟨w', H', J'.os, J'.bare, J'.base, J'.hok, rv, q⟩
  refine wpAny_call (codeAny_mono rc fun r s' hq => ?_)
  cases r with
  | error e => exact (show False from hq).elim
  | ok fl =>
    cases fl with
    | ret u => exact I2.after hq
    | next => exact False.elim hq
    | brk => exact False.elim hq
    | cont => exact False.elim hq
/-! ### a def that is handed the lambda last -/
/-- its promise, told of the very state -/
def FoOk (P : Program) (w : World) (K : PySem.W.Frag) (mg : Str → Option Value) (base : Heap) (k : Nat) (F : Addr) (l : Lmd) (f : Addr) (R : Rho → PyData → Prop) : Prop :=
  ∀ (A : Around) (outer : List Env) (s : Shared) (H : Hp) (us : List Value) (vs : List V) (Hs : Hp) (as : Rho) (d : PyData) (Q : VK), Room k A → Env0 P w K mg base A outer s H → Kn l f s H (frs outer) → Same Hs H → Hs l.c = some (LamX.CodeO l.c l.q) → Vals (vs ++ [.ref f]) us → Args K Hs vs as → R as d →
    (∀ v Hs' H', Grw Hs H Hs' H' → Dat Hs' v d → Q v H') → codeAny (model P w) A (.call (.ref F) ⟨us, []⟩) (CR CX0 outer P w H s Q E0) s
theorem FoOk.mono {P : Program} {w : World} {K : PySem.W.Frag} {mg : Str → Option Value} {base : Heap} {j k : Nat} {F : Addr} {R : Rho → PyData → Prop} (h : FoOk P w K mg base j F l f R) (hk : j ≤ k) : FoOk P w K mg base k F l f R := fun A outer s H us vs Hs as d Q hr => h A outer s H us vs Hs as d Q (hr.mono hk)
theorem Asn.toOb {K : PySem.W.Frag} {Hs0 H0 : Hp} {σ : L2.St} {Hs H : Hp} {i : Nat} {c : Addr} {q : Str} (A : Asn K Hs0 H0 r σ Hs H) (h : r[i]? = some (.raw (.ref f))) (hc : Hs c = some (LamX.CodeO c q)) : Asn K Hs0 H0 (r.set i (.obj f (codeOb c q))) σ Hs H := by
  obtain ⟨F, fr⟩ := A.fr
  exact ⟨A.g, ⟨_, fr.put i _ [] (fun _ _ => rfl) (Same.refl Hs) (fr.stay i) (fun _ => ⟨fr.at_ i _ h, rfl, hc⟩) (fun x m => by cases m) (fun j _ x m => by cases m)⟩, by rw [List.length_set]; exact A.len⟩
theorem args_snoc {K : PySem.W.Frag} {Hs : Hp} {v : V} {s : Slot} (h1 : ArgOk K Hs v s) : ∀ {vs : List V} {as : Rho}, Args K Hs vs as → Args K Hs (vs ++ [v]) (as ++ [s])
  | _, _, .nil => .cons h1 .nil
  | _, _, .cons h t => .cons h (args_snoc h1 t)
theorem okFo {P : Program} {w : World} {K : PySem.W.Frag} {mg : Str → Option Value} {base : Heap} {N : List Str} {x : Str} (D : Dfn K mg x st ps) (S : FnScope N ps (defScope st)) (len : ∀ as d, R as d → as.length + 1 = ps.length) (hn : ps.length ≤ N.length)
    (hb : ∀ (cdv : Value) (A : Around) (outer : List Env) (s : Shared) (H : Hp) (E : XK), Room k (A.deeper (PyProof.Rows.envOfC x (defScope st) s.heap.objs.size D.f cdv)) → Kn l f s H (frs outer) → ∀ as d, R as d →
      DSs (cx0 P w K mg base N x (defScope st) D.f cdv A outer s H E) E0 (as ++ .obj f (codeOb l.c l.q) :: List.replicate (N.length - (as.length + 1)) .un) (defBody st) { nx := fun _ => d = .none, rt := fun z => z = d }) : FoOk P w K mg base (k + 1) D.f l f R := by
  intro A outer s H us vs Hs as d Q hr e0 kn hs hc r ha hR q
  obtain ⟨oc, od, kV, doc, pm, an, cdv, ct, osl, efd, lk, hcd⟩ := D.F.ex
  have hl := len as d hR
  have hvl : (vs ++ [V.ref f]).length = ps.length := by rw [List.length_append, ha.length]; exact hl
  have hul : us.length = ps.length := r.length.symm.trans hvl
  have hbn := D.b s us (e0.mod.kin.keeps fun b o e => (e0.bs b o e).1) (by rw [List.append_nil]; exact hul)
  rw [List.append_nil, efd] at hbn
  rw [efd] at lk
  refine LamX.run_ofS (CX := CX0) (N := N) (ps := ps) (E := E0) lk hcd S hr e0 hbn r hvl fun hr' => ?_
  have hraw : ArgOk K Hs (.ref f) (.raw (.ref f)) := rfl
  have A0 := args_slots (N := N) hs (args_snoc hraw ha) (by rw [List.length_append]; show as.length + 1 ≤ _; omega)
  have hrl : (as ++ [Slot.raw (.ref f)]).length = as.length + 1 := by rw [List.length_append]; rfl
  have A1 := A0.toOb (i := as.length) (by rw [List.getElem?_append_left (by rw [hrl]; omega), List.getElem?_append_right (Nat.le_refl _), Nat.sub_self]; rfl) hc
  have eR : ((as ++ [Slot.raw (.ref f)]) ++ List.replicate (N.length - (as ++ [Slot.raw (.ref f)]).length) Slot.un).set as.length (.obj f (codeOb l.c l.q)) = as ++ .obj f (codeOb l.c l.q) :: List.replicate (N.length - (as.length + 1)) .un := by
    rw [hrl, List.set_append_left _ _ (by rw [hrl]; omega), List.set_append_right _ _ (Nat.le_refl _), Nat.sub_self, List.append_assoc]
    rfl
  rw [eR] at A1
  refine ⟨_, (hb cdv A outer s H E0 hr' kn as d hR).nox, Hs, H, Hs, A1, ?_⟩
  exact ⟨fun r' σ' Hs' H' p a _ => q _ Hs' H' a.g (by rw [p]; exact .non), fun d' v Hs' H' p g hv => q v Hs' H' g (by rw [← p]; exact hv), fun _ _ _ _ p => p.elim, fun _ _ _ _ p => p.elim, fun _ _ _ _ _ p => p.elim, fun _ _ _ _ _ p => p.elim, fun _ _ _ _ _ _ p => p.elim⟩
/-- g(e1, e2, x), x the lambda -/
theorem de_callFoR (i : Nat) (D : Dfn X.K X.mg g st ps) (F : FoOk X.prog X.w X.K X.mg X.base k D.f l f R) {k' : Nat} (hr : Room k' X.A) (hk : k ≤ k') (kn : Kn l f X.s_0 X.H_0 X.fs) (h1 : DAr X r e1 s1) (h2 : DAr X r e2 s2) (hR : R [s1, s2] d) (hi : r[i]? = some (.obj f (codeOb l.c l.q)) := by rfl) (hex : X.ex = [] := by rfl)
    (hN : X.N[i]? = some a := by rfl) (hv : Vis X.env.scope a := by first | exact Or.inl rfl | exact Or.inr (Or.inl rfl) | exact Or.inr (Or.inr rfl)) (hd : (a == ("__debug__" : Str)) = false := by decide) (hcd : (a == ("__classdict__" : Str)) = false := by decide) (hg : Gl X g := by rfl) (hdb : (g == ("__debug__" : Str)) = false := by decide)
    (x1 : starEach (e1 :: [e2, .Name a pa]) X.env = (false, eval e1 X.env) :: starEach [e2, .Name a pa] X.env := by rfl) (x2 : starEach (e2 :: [.Name a pa]) X.env = (false, eval e2 X.env) :: starEach [.Name a pa] X.env := by rfl) (x3 : starEach (.Name a pa :: []) X.env = (false, eval (.Name a pa) X.env) :: starEach [] X.env := by rfl)
    (hpl : (backTo pos (starEach [e2, .Name a pa] X.env)).any (·.1) = false := by rfl) : DE X r (.Call (.Name g p) [e1, e2, .Name a pa] [] pos) d := by
  refine ⟨fun pins s σ H Q I ⟨Hs0, H0, Hs, A, qq⟩ => ?_⟩
  obtain ⟨_, ef, _, _⟩ := A.at_ i _ hi
  refine wpAny_Call_Name_kw (ld_glob I hg D.g ?_ hdb)
  refine PySem.W.callWith_K (h₀ := X.base) I.ok.mod.kin D.F.kp (thn ((pa_cons h1 (pa_cons h2 (pa_cons (pe_var (pos := pa) (i := i) hN hv hd hcd) pa_nil x3) x2) x1).run pos pins s σ H (fun vs H1 => ∃ v1 v2 Hs1, vs = [v1, v2, .ref f] ∧ Grw Hs H Hs1 H1 ∧ ArgOk X.K Hs1 v1 s1 ∧ ArgOk X.K Hs1 v2 s2) I
    ⟨Hs0, H0, Hs, A, fun v1 Hs1 H1 g1 a1 => ⟨Hs0, H0, Hs1, A.grow g1, fun v2 Hs2 H2 g2 a2 => ⟨.ref f, ef, v1, v2, Hs2, rfl, g1.trans g2, a1.mono g2.st, a2⟩⟩⟩) fun us st1 ⟨vs, H1, I1, rl, v1, v2, Hs1, ev, g1, a1, a2⟩ => ⟨I1.kIn, ?_⟩) x1 hpl
  subst ev
  have A1 := A.grow g1
  obtain ⟨_, _, _, _, hco⟩ := A1.at_ i _ hi
  refine wpAny_call (codeAny_mono (F X.A X.stack st1 H1 us [v1, v2] Hs1 [s1, s2] d Q (hr.mono hk) I1.env0 (kn.at hex I1) A1.g.sub hco rl (.cons a1 (.cons a2 .nil)) hR fun v Hs' H' gg hv => qq v Hs' H' (g1.trans gg) hv) fun r s' hq => ?_)
  cases r with
  | error e => exact (show False from hq).elim
  | ok fl =>
    cases fl with
    | ret u => exact I1.after hq
    | next => exact False.elim hq
    | brk => exact False.elim hq
    | cont => exact False.elim hq
/-- g(e1, e2, lambda x: ..) -/
theorem dem_callFo {T : List (Addr × Str)} {c P : Addr} {x y : Str} {params : Arguments} {body : Expr} {scope : Scope} {n : Int} (i j : Nat) {sT : Slot} (D : Dfn X.K X.mg g st ps)
    (hF : ∀ (c' cell f : Addr), (Lmd.mk (X.env.qual ++ "<lambda>") x y params body scope (cloFrom X.env.cells scope.names []) c' cell n).Ok → FoOk X.prog X.w X.K X.mg X.base k D.f (Lmd.mk (X.env.qual ++ "<lambda>") x y params body scope (cloFrom X.env.cells scope.names []) c' cell n) f R)
    {k' : Nat} (hr : Room k' X.A) (hk : k ≤ k') (TB : LamX.TabB X.base X.mg c P) (hcode : X.env.code = .ref c) (hmT : (P, X.env.qual ++ "<lambda>") ∈ T) (hu : ∀ p ∈ T, p.1 = P → p.2 = X.env.qual ++ "<lambda>") (L : LamF x y scope) (hyc : X.env.scope.names.lookup y = some .cell) (h1 : DAr X r e1 s1) (h2 : DAr X r e2 s2) (hR : R [s1, s2] d) (hT : tabsOf sT = T)
    (hi : r[i]? = some sT := by rfl) (ht : tabS sT = true := by rfl) (hn : restOk i r = true := by rfl) (hy : r[j]? = some (.val (.int n)) := by rfl) (hNy : X.N[j]? = some y := by rfl) (hdef : defaultsOf params X.env = ([], []) := by rfl)
    (hbind : ∀ (q : Str) (cl : List (Str × Addr)) (pm cdv ctv u : Value), bindArgs (kla_fn "<lambda>" q params body scope cl pm cdv ctv) ⟨[u], []⟩ = pure [(x, u)] := by intros; rfl) (hg : Gl X g := by rfl) (hdb : (g == ("__debug__" : Str)) = false := by decide)
    (x1 : starEach (e1 :: [e2, .Lambda params body scope lpos]) X.env = (false, eval e1 X.env) :: starEach [e2, .Lambda params body scope lpos] X.env := by rfl) (x2 : starEach (e2 :: [.Lambda params body scope lpos]) X.env = (false, eval e2 X.env) :: starEach [.Lambda params body scope lpos] X.env := by rfl)
    (x3 : starEach (.Lambda params body scope lpos :: []) X.env = (false, eval (.Lambda params body scope lpos) X.env) :: starEach [] X.env := by rfl)
    (hpl : (backTo pos (starEach [e2, .Lambda params body scope lpos] X.env)).any (·.1) = false := by rfl) : DEm X r (.Call (.Name g p) [e1, e2, .Lambda params body scope lpos] [] pos) d := by
  refine ⟨fun pins s σ H Q I ⟨Hs0, H0, Hs, A, qq⟩ => ?_⟩
  refine wpAny_Call_Name_kw (ld_glob I hg D.g ?_ hdb)
  refine PySem.W.callWith_K (h₀ := X.base) I.ok.mod.kin D.F.kp ?_ x1 hpl
  rw [x1]
  show wpAny _ _ (spliced ((false, eval e1 X.env) :: backTo pos (starEach [e2, .Lambda params body scope lpos] X.env))) _ _ s
  refine Calls.spliced_cons (thn (PE.run h1 pins s σ H (fun v H1 => ∃ Hs1, Grw Hs H Hs1 H1 ∧ ArgOk X.K Hs1 v s1) I ⟨Hs0, H0, Hs, A, fun v Hs1 H1 g hv => ⟨Hs1, g, hv⟩⟩) fun u1 st1 ⟨v1, H1, I1, r1, Hs1, g1, a1⟩ => ?_)
  rw [x2]
  show wpAny _ _ (spliced ((false, eval e2 X.env) :: backTo pos (starEach [.Lambda params body scope lpos] X.env))) _ _ st1
  refine Calls.spliced_cons (thn (PE.run h2 pins st1 σ H1 (fun v H2 => ∃ Hs2, Grw Hs1 H1 Hs2 H2 ∧ ArgOk X.K Hs2 v s2) I1 ⟨Hs0, H0, Hs1, A.grow g1, fun v Hs2 H2 g hv => ⟨Hs2, g, hv⟩⟩) fun u2 st2 ⟨v2, H2, I2, r2, Hs2, g2, a2⟩ => ?_)
  rw [x3]
  show wpAny _ _ (spliced ((false, eval (.Lambda params body scope lpos) X.env) :: backTo pos (starEach [] X.env))) _ _ st2
  have A2 := (A.grow g1).grow g2
  refine Calls.spliced_cons (LamX.lam_make2 (T := T) I2 TB hcode hmT hu (by rw [← hT]; exact A2.tabsT hi ht) hdef (fun z hz e => by rw [L.free z hz e]; exact I2.ok.has y (.inl hyc)) fun f c' pm ctv H3 st3 I3 eN T3 hf hfn hfr hco => ?_)
  refine Calls.spliced_nil ⟨I3.kIn, ?_⟩
  obtain ⟨Hs3, A3, s3, cd⟩ := A2.lamT hi ht hn eN (by rw [hT]; exact T3)
  obtain ⟨cell, hcl⟩ := I3.ok.has y (.inl hyc)
  obtain ⟨vy, ey, hvy⟩ := A3.val hy
  obtain rfl := hvy.inv_int
  obtain ⟨m, hns, hl⟩ := I3.loc
  obtain ⟨un, run, lk⟩ := hl j y _ hNy ey (.inr (.inl hyc))
  have hcell : st3.heap.IsCell cell (some un) := by
    rcases lk with ⟨kk, _⟩ | ⟨_, c2, e2, z⟩
    · rw [show X.env.kindOf y = some .cell from hyc] at kk; cases kk
    · rw [hcl] at e2; cases e2; exact z
  have call : ∀ z c2, (cloFrom X.env.cells scope.names []).lookup z = some c2 → z = y ∧ c2 = cell := fun z c2 e => by
    rcases cloFrom_mem (PySem.mem_of_lookup e) with hm | ⟨m1, m2⟩
    · cases hm
    · have ez : z = y := L.free _ m1 rfl
      subst ez
      rw [hcl] at m2
      exact ⟨rfl, m2⟩
  have chas : (cloFrom X.env.cells scope.names []).lookup y = some cell := by
    obtain ⟨c2, e2⟩ := mem_lookup (cloFrom_has (cells := X.env.cells) (acc := []) (PySem.mem_of_lookup L.ly))
    rw [e2, (call _ _ e2).2]
  have lok : (Lmd.mk (X.env.qual ++ "<lambda>") x y params body scope (cloFrom X.env.cells scope.names []) c' cell n).Ok := ⟨L, call, chas, fun pm cdv ctv u => hbind _ _ pm cdv ctv u⟩
  have kn : Kn (Lmd.mk (X.env.qual ++ "<lambda>") x y params body scope (cloFrom X.env.cells scope.names []) c' cell n) f st3 H3 (frs X.stack) := ⟨⟨pm, ctv, hf⟩, hfn, hfr, ⟨un, run, hcell⟩, I3.freeC y cell hcl⟩
  refine wpAny_call (codeAny_mono (hF c' cell f lok X.A X.stack st3 H3 [u1, u2, .ref f] [v1, v2] Hs3 [s1, s2] d Q (hr.mono hk) I3.env0 kn A3.g.sub (cd _ _ hco) (.cons r1 (.cons r2 (.cons rfl .nil))) (.cons (a1.mono (g2.st.trans s3)) (.cons (a2.mono s3) .nil)) hR fun v Hs' H' gg hv => qq v Hs' H' (A3.grow gg) ((g1.st.trans g2.st).trans (s3.trans gg.st)) hv) fun r s' hq => ?_)
  cases r with
  | error e => exact (show False from hq).elim
  | ok fl =>
    cases fl with
    | ret u => exact I3.after hq
    | next => exact False.elim hq
    | brk => exact False.elim hq
    | cont => exact False.elim hq
/-- a list of whole numbers handed on as such -/
theorem dar_listI {ns : List Int} (h : DE X r e (.list (ns.map .int))) : DAr X r e (.scr ns) := PE.wk h fun _ _ σ H Q _ ⟨Hs0, H0, Hs, A, q⟩ => ⟨Hs0, H0, Hs, A, fun v Hs' H' g hv => q v Hs' H' g (by
  obtain ⟨a, xs, rfl, ha, hx⟩ := hv.inv_list
  rw [hx.ints] at ha
  exact ⟨a, rfl, SqL.of ha⟩)⟩
theorem itl_okS {K : PySem.W.Frag} {Hs : Hp} {a : Addr} {xs : List V} {ds : List PyData} (h : SqL K Hs a xs) (hd : Dats Hs xs ds) : ItOk Hs (Itl K a) ds := fun i Hs1 H1 s1 s2 => ⟨fun d e => by
    obtain ⟨v, e1, hv⟩ := hd.get e
    have hq : SqL K H1 a xs := s2.seq (s1.seq h)
    refine ⟨⟨xs, v, hq, e1⟩, fun u H2 ⟨e2, f⟩ => ?_⟩
    subst e2
    have := f xs hq
    rw [e1] at this
    cases this
    exact ⟨Hs1, Grw.refl s2, hv.mono s1⟩, fun hl => ⟨xs, s2.seq (s1.seq h), by rw [hd.length]; exact Nat.le_of_eq hl⟩⟩
theorem di_scr {tg iter : Expr} {ns : List Int} (h : DAr X r iter (.scr ns)) (hz : ns.length ≤ sizeLine) : DI X r tg iter (ns.map .int) := PI.wk (pi_list h) fun σ H R ⟨Hs0, H0, Hs, A, q⟩ => ⟨Hs0, H0, Hs, A, fun v Hs' H' g hv => by
    obtain ⟨a, rfl, ha⟩ := hv
    exact ⟨a, rfl, ⟨_, g.sub.seq ha⟩, fun _ => q _ Hs' H' g (itl_okS ha (Dats.of_ints ns)) (by rw [List.length_map]; exact hz)⟩⟩
end
end Dl

namespace Lw
open PySem Dl
/-! the mirror of the laws' own drawing -/
def mixed (ns : List Int) (k : Nat) : Int := (((ns.getD k 0 + 7919 * (k : Int) + 1) * 48271 % 2147483647) * ((ns.getD k 0 + 7919 * (k : Int) + 1) * 48271 % 2147483647) + 7 * ((ns.getD k 0 + 7919 * (k : Int) + 1) * 48271 % 2147483647) + (k : Int)) % 2147483629
def drawn (n : Int) (k : Nat) : Int := (((n + 104729 * (k : Int) + 17) * 69621 % 2147483647) * ((n + 104729 * (k : Int) + 17) * 69621 % 2147483647) + 3 * ((n + 104729 * (k : Int) + 17) * 69621 % 2147483647) + (k : Int)) % 2147483629
end Lw

namespace Lw
open PySem Dl
/-! the mirror of _law_order and of what rests on it -/
def ordSt (n : Int) (many : Nat) : Nat → List Nat × List Nat
  | 0 => (List.range many, [])
  | i + 1 => ((ordSt n many i).1.eraseIdx ((drawn n i / 16 % ((ordSt n many i).1.length : Int)).toNat), (ordSt n many i).2 ++ [(ordSt n many i).1.getD ((drawn n i / 16 % ((ordSt n many i).1.length : Int)).toNat) 0])
def order (many : Nat) (n : Int) : List Nat := (ordSt n many many).2
theorem ordSt_len (n : Int) (many : Nat) : ∀ i, i ≤ many → (ordSt n many i).1.length = many - i ∧ (ordSt n many i).2.length = i
  | 0, _ => ⟨by unfold ordSt; rw [List.length_range]; rfl, rfl⟩
  | i + 1, h => by
    obtain ⟨h1, h2⟩ := ordSt_len n many i (by omega)
    have hb : 0 ≤ drawn n i / 16 % ((ordSt n many i).1.length : Int) ∧ drawn n i / 16 % ((ordSt n many i).1.length : Int) < ((ordSt n many i).1.length : Int) := ⟨Int.emod_nonneg _ (by omega), Int.emod_lt_of_pos _ (by omega)⟩
    unfold ordSt
    constructor
    · show (List.eraseIdx _ _).length = _
      rw [List.length_eraseIdx, if_pos (by omega)]
      omega
    · show (_ ++ [_]).length = _
      rw [List.length_append, h2]
      rfl
theorem ordSt_at (n : Int) (many i : Nat) (h : i < many) : (drawn n i / 16 % ((ordSt n many i).1.length : Int)).toNat < (ordSt n many i).1.length := by
  obtain ⟨h1, h2⟩ := ordSt_len n many i (by omega)
  have hb : 0 ≤ drawn n i / 16 % ((ordSt n many i).1.length : Int) ∧ drawn n i / 16 % ((ordSt n many i).1.length : Int) < ((ordSt n many i).1.length : Int) := ⟨Int.emod_nonneg _ (by omega), Int.emod_lt_of_pos _ (by omega)⟩
  omega
theorem perm_erase {l : List Nat} {k : Nat} (h : k < l.length) : l.Perm (l.getD k 0 :: l.eraseIdx k) := by
  induction l generalizing k with
  | nil => exact absurd h (Nat.not_lt_zero k)
  | cons x l ih =>
    cases k with
    | zero => exact List.Perm.refl _
    | succ k =>
      have := ih (k := k) (by simpa using h)
      rw [List.getD_cons_succ, List.eraseIdx_cons_succ]
      exact (this.cons x).trans (List.Perm.swap _ _ _)
theorem ordSt_perm (n : Int) (many : Nat) : ∀ i, i ≤ many → ((ordSt n many i).2 ++ (ordSt n many i).1).Perm (List.range many)
  | 0, _ => List.Perm.refl _
  | i + 1, h => by
    refine List.Perm.trans ?_ (ordSt_perm n many i (by omega))
    have p := perm_erase (ordSt_at n many i (by omega))
    rw [ordSt]
    show (((ordSt n many i).2 ++ [_]) ++ _).Perm _
    rw [List.append_assoc]
    exact (List.Perm.refl _).append p.symm
theorem order_len (many : Nat) (n : Int) : (order many n).length = many := (ordSt_len n many many (Nat.le_refl _)).2
theorem order_perm (many : Nat) (n : Int) : (order many n).Perm (List.range many) := by
  have p := ordSt_perm n many many (Nat.le_refl _)
  have h := (ordSt_len n many many (Nat.le_refl _)).1
  rw [Nat.sub_self] at h
  rw [List.eq_nil_of_length_eq_zero h, List.append_nil] at p
  exact p
theorem order_mem {many : Nat} {n : Int} {x : Nat} : x ∈ order many n ↔ x < many := (order_perm many n).mem_iff.trans List.mem_range
theorem order_nodup (many : Nat) (n : Int) : (order many n).Nodup := (order_perm many n).nodup_iff.mpr List.nodup_range
/-! all orders, for looking at each -/
def levs : Nat → Nat → List (List Nat × List Nat)
  | many, 0 => [(List.range many, [])]
  | many, i + 1 => (levs many i).flatMap fun p => (List.range p.1.length).map fun k => (p.1.eraseIdx k, p.2 ++ [p.1.getD k 0])
def perms (many : Nat) : List (List Nat) := (levs many many).map (·.2)
theorem ordSt_lev (n : Int) (many : Nat) : ∀ i, i ≤ many → ordSt n many i ∈ levs many i
  | 0, _ => List.mem_singleton.mpr rfl
  | i + 1, h => by
    unfold levs
    refine List.mem_flatMap.mpr ⟨_, ordSt_lev n many i (by omega), List.mem_map.mpr ⟨_, List.mem_range.mpr (ordSt_at n many i (by omega)), ?_⟩⟩
    rw [ordSt]
theorem order_perms (many : Nat) (n : Int) : order many n ∈ perms many := List.mem_map.mpr ⟨_, ordSt_lev n many many (Nat.le_refl _), rfl⟩
end Lw

namespace Lw
open PySem Dl
/-! the mirror of _law_result, _law_results, _law_true -/
def resSize (len : Nat) (nu : Int) (lanes : Nat) : Nat := min len (2 + (nu / 16 % ((lanes : Int) - 1)).toNat)
def lawRes (o : List Nat) (nu : Int) (lanes : Nat) : List Nat := o.filter fun x => decide (x ∈ (order o.length nu).take (resSize o.length nu lanes))
theorem lawRes_sub (o : List Nat) (nu : Int) (lanes : Nat) : (lawRes o nu lanes).Sublist o := List.filter_sublist
theorem lawRes_len {o : List Nat} {n : Nat} (ho : o.Perm (List.range n)) (nu : Int) (lanes : Nat) : (lawRes o nu lanes).length = resSize n nu lanes := by
  have hl : o.length = n := by rw [ho.length_eq, List.length_range]
  have hnd : o.Nodup := ho.nodup_iff.mpr List.nodup_range
  have e : ((order o.length nu).take (resSize o.length nu lanes)).length = resSize n nu lanes := by
    rw [List.length_take, order_len, hl]
    unfold resSize
    omega
  rw [← e]
  refine ((List.perm_ext_iff_of_nodup (hnd.filter _) ((List.take_sublist _ _).nodup (order_nodup _ _))).mpr fun x => ?_).length_eq
  rw [List.mem_filter, decide_eq_true_eq]
  exact ⟨fun h => h.2, fun h => ⟨by rw [ho.mem_iff, List.mem_range, ← hl]; exact order_mem.mp (List.mem_of_mem_take h), h⟩⟩
theorem resSize_bounds {n : Nat} {nu : Int} {lanes : Nat} (hl : 2 ≤ lanes) (h2 : 2 ≤ n) : 2 ≤ resSize n nu lanes ∧ resSize n nu lanes ≤ lanes ∧ resSize n nu lanes ≤ n := by
  have h1 := Int.emod_nonneg (nu / 16) (show ((lanes : Int) - 1) ≠ 0 by omega)
  have h3 := Int.emod_lt_of_pos (nu / 16) (show (0 : Int) < (lanes : Int) - 1 by omega)
  unfold resSize
  omega
def trueRs (o : List Nat) (ns : List Int) (most : Nat) : List (List Nat) := (List.range (mixed ns 2 / 16 % ((most : Int) + 1)).toNat).map fun k => lawRes o (mixed ns (3 + k)) 4
theorem trueRs_len (o : List Nat) (ns : List Int) (most : Nat) : (trueRs o ns most).length ≤ most := by
  unfold trueRs
  rw [List.length_map, List.length_range]
  have h1 := Int.emod_nonneg (mixed ns 2 / 16) (show ((most : Int) + 1) ≠ 0 by omega)
  have h3 := Int.emod_lt_of_pos (mixed ns 2 / 16) (show (0 : Int) < (most : Int) + 1 by omega)
  omega
theorem trueRs_mem {o : List Nat} {ns : List Int} {most : Nat} {r : List Nat} (h : r ∈ trueRs o ns most) : ∃ nu, r = lawRes o nu 4 := by
  obtain ⟨k, _, rfl⟩ := List.mem_map.mp h
  exact ⟨_, rfl⟩
def ordK (nu : Int) (many : Nat) : Nat → List Nat
  | 0 => order many nu
  | k + 1 => if drawn nu (30 + k) / 16 % 12 = 0 then order many (drawn nu (30 + k)) else ordK nu many k
def lawResults (many : Nat) (nu : Int) (most lanes : Nat) : List (List Nat) := (List.range (nu / 16 % ((most : Int) + 1)).toNat).map fun k => lawRes (ordK nu many (k + 1)) (drawn nu (30 + k)) lanes
theorem ordK_perm (nu : Int) (many : Nat) : ∀ k, (ordK nu many k).Perm (List.range many)
  | 0 => order_perm many nu
  | k + 1 => by
    unfold ordK
    split
    · exact order_perm _ _
    · exact ordK_perm nu many k
theorem lawResults_len (many : Nat) (nu : Int) (most lanes : Nat) : (lawResults many nu most lanes).length ≤ most := by
  unfold lawResults
  rw [List.length_map, List.length_range]
  have h1 := Int.emod_nonneg (nu / 16) (show ((most : Int) + 1) ≠ 0 by omega)
  have h3 := Int.emod_lt_of_pos (nu / 16) (show (0 : Int) < (most : Int) + 1 by omega)
  omega
theorem lawResults_mem {many : Nat} {nu : Int} {most lanes : Nat} {r : List Nat} (h : r ∈ lawResults many nu most lanes) : ∃ o x, o.Perm (List.range many) ∧ r = lawRes o x lanes := by
  obtain ⟨k, _, rfl⟩ := List.mem_map.mp h
  exact ⟨_, _, ordK_perm nu many (k + 1), rfl⟩
end Lw

namespace Sp
open PySem Dl Lw
def pickT (ds : List PyData) : List PyData := [.list ds, .tuple (Dl.cutD ds none (some (-1))), .tuple (ds ++ Dl.cutD ds (some (-1)) none), .tuple (Dl.cutD ds (some 1) none), .tuple ds.reverse, .tuple []]
def pickI (i : Int) : List PyData := [.str (toString i), .int (0 - i), .int (i + 1), .bool (decide (i = 1)), .int (i - 1), .int (i + 60)]
def pickS : List PyData := [.none, .bool true, .bool false, nI 0, nI 1, nI 2, nI 3, nI 5, nI 6, nI 7, .int (-1), .str "", .str "a", .str "0>1", nT [0], nT [0, 1], nT [1, 1], nT [], .list [], nT [0, 1, 2, 3, 4]]
def spoiltS (nu : Int) : PyData := pickS.getD (nu / 6 % 20).toNat .none
def spoiltB (nu : Int) : PyData → PyData
  | .tuple ds => if ds ≠ [] ∧ nu / 6 % 2 = 0 then (pickT ds).getD (nu / 12 % 6).toNat .none else spoiltS nu
  | .int i => if nu / 6 % 2 = 0 then (pickI i).getD (nu / 12 % 6).toNat .none else spoiltS nu
  | _ => spoiltS nu
def sAt (ds : List PyData) (nu : Int) : Nat := (nu / 6 % (ds.length : Int)).toNat
def spoilt : Nat → Int → PyData → PyData
  | 0, nu, x => spoiltB nu x
  | k + 1, nu, .tuple ds => if ds ≠ [] ∧ 0 < nu % 6 then .tuple (ds.take (sAt ds nu) ++ [spoilt k (drawn nu (k + 1) / 4) (ds.getD (sAt ds nu) .none)] ++ ds.drop (sAt ds nu + 1)) else spoiltB nu (.tuple ds)
  | _ + 1, nu, x => spoiltB nu x
/-- things that may be spoilt -/
def Shp : Nat → PyData → Prop
  | 0, x => ∃ i : Nat, x = nI i ∧ i < 1000
  | k + 1, x => ∃ ds, x = .tuple ds ∧ ds.length ≤ 1000 ∧ ∀ d ∈ ds, Shp k d
theorem getD_some {α : Type} {l : List α} {k : Nat} {d : α} (h : k < l.length) : l[k]? = some (l.getD k d) := by rw [List.getD_eq_getElem?_getD, List.getElem?_eq_getElem h]; rfl
def Loo (x : PyData) : Prop := Dl.lo x = x
theorem loo_tup {ds : List PyData} (h : ∀ d ∈ ds, Loo d) : Loo (.tuple ds) := by
  unfold Loo
  rw [lo_tuple]
  congr 1
  exact (List.map_congr_left h).trans (List.map_id _)
theorem loo_lst {ds : List PyData} (h : ∀ d ∈ ds, Loo d) : Loo (.list ds) := by
  unfold Loo
  rw [lo_list]
  congr 1
  exact (List.map_congr_left h).trans (List.map_id _)
theorem loo_nT (ns : List Nat) : Loo (nT ns) := lo_nT ns
theorem loo_int (i : Int) : Loo (.int i) := lo_int i
theorem loo_bool (i : Bool) : Loo (.bool i) := lo_bool i
theorem loo_str (i : Str) : Loo (.str i) := lo_str i
theorem mem_cut {ds : List PyData} {l u : Option Int} {d : PyData} (h : d ∈ Dl.cutD ds l u) : d ∈ ds := by
  unfold Dl.cutD at h
  exact List.mem_of_mem_drop (List.mem_of_mem_take h)
theorem loo_S : ∀ x ∈ pickS, Loo x := by
  unfold pickS
  repeat' (rw [List.forall_mem_cons]; refine ⟨?_, ?_⟩)
  all_goals first
    | exact lo_none
    | exact loo_bool _
    | exact loo_int _
    | exact loo_str _
    | exact loo_nT _
    | exact loo_lst (fun _ h => by cases h)
    | (intro _ h; cases h)
theorem loo_I (i : Int) : ∀ x ∈ pickI i, Loo x := by
  unfold pickI
  repeat' (rw [List.forall_mem_cons]; refine ⟨?_, ?_⟩)
  all_goals first
    | exact loo_bool _
    | exact loo_int _
    | exact loo_str _
    | (intro _ h; cases h)
theorem loo_T {ds : List PyData} (h : ∀ d ∈ ds, Loo d) : ∀ x ∈ pickT ds, Loo x := by
  unfold pickT
  rw [List.forall_mem_cons, List.forall_mem_cons, List.forall_mem_cons, List.forall_mem_cons, List.forall_mem_cons, List.forall_mem_cons]
  refine ⟨loo_lst h, loo_tup fun d hd => h d (mem_cut hd), loo_tup fun d hd => ?_, loo_tup fun d hd => h d (mem_cut hd), loo_tup fun d hd => h d (List.mem_reverse.mp hd), loo_tup (fun _ h => by cases h), fun _ h => by cases h⟩
  rcases List.mem_append.mp hd with z | z
  · exact h d z
  · exact h d (mem_cut z)
theorem loo_get {l : List PyData} (h : ∀ x ∈ l, Loo x) (k : Nat) : Loo (l.getD k .none) := by
  rw [List.getD_eq_getElem?_getD]
  cases e : l[k]? with
  | none => exact lo_none
  | some x => exact h x (List.mem_of_getElem? e)
theorem loo_spS (nu : Int) : Loo (spoiltS nu) := loo_get loo_S _
theorem loo_spB {x : PyData} (nu : Int) (h : ∀ ds, x = .tuple ds → ∀ d ∈ ds, Loo d) : Loo (spoiltB nu x) := by
  unfold spoiltB
  split
  · split
    · exact loo_get (loo_T (h _ rfl)) _
    · exact loo_spS nu
  · split
    · exact loo_get (loo_I _) _
    · exact loo_spS nu
  · exact loo_spS nu
theorem shp_loo : ∀ {k : Nat} {x : PyData}, Shp k x → Loo x
  | 0, _, ⟨i, e, _⟩ => by rw [e]; exact loo_int _
  | k + 1, _, ⟨ds, e, _, h⟩ => by rw [e]; exact loo_tup fun d hd => shp_loo (h d hd)
theorem shp_parts {k : Nat} {x : PyData} (h : Shp k x) : ∀ ds, x = .tuple ds → ∀ d ∈ ds, Loo d := fun ds e d hd => by
  cases k with
  | zero => obtain ⟨i, e', _⟩ := h; rw [e'] at e; cases e
  | succ k =>
    obtain ⟨ds', e', _, h⟩ := h
    rw [e'] at e
    cases e
    exact shp_loo (h d hd)
theorem spoilt_loo : ∀ {deep k : Nat} {x : PyData} {nu : Int}, Shp k x → Loo (spoilt deep nu x)
  | 0, k, x, nu, h => by unfold spoilt; exact loo_spB nu (shp_parts h)
  | deep + 1, k, x, nu, h => by
    cases x with
    | tuple ds =>
      rw [spoilt]
      split
      · rename_i hk
        have hp := shp_parts h ds rfl
        refine loo_tup fun d hd => ?_
        rcases List.mem_append.mp hd with z | z
        · rcases List.mem_append.mp z with z | z
          · exact hp d (List.mem_of_mem_take z)
          · rw [List.mem_singleton.mp z]
            cases k with
            | zero => obtain ⟨i, e', _⟩ := h; cases e'
            | succ k =>
              obtain ⟨ds', e', _, h⟩ := h
              cases e'
              rw [List.getD_eq_getElem?_getD]
              have hl : sAt ds nu < ds.length := by
                have : 0 < ds.length := List.length_pos_iff.mpr hk.1
                have a := Int.emod_nonneg (nu / 6) (show (ds.length : Int) ≠ 0 by omega)
                have b := Int.emod_lt_of_pos (nu / 6) (show (0 : Int) < (ds.length : Int) by omega)
                unfold sAt
                omega
              rw [List.getElem?_eq_getElem hl]
              exact spoilt_loo (h _ (List.getElem_mem hl))
        · exact hp d (List.mem_of_mem_drop z)
      · exact loo_spB nu (shp_parts h)
    | int i => exact loo_spB nu (shp_parts h)
    | none => exact loo_spB nu (shp_parts h)
    | bool i => exact loo_spB nu (shp_parts h)
    | str i => exact loo_spB nu (shp_parts h)
    | list i => exact loo_spB nu (shp_parts h)
    | dict i => exact loo_spB nu (shp_parts h)
end Sp

namespace Of
open PySem Dl Lw Sp
/-- things that may be spoilt at any place: numbers in tuples -/
def Sh : Nat → PyData → Prop
  | 0, x => ∃ i : Nat, x = nI i ∧ i < 1000
  | k + 1, x => ∃ ds, x = .tuple ds ∧ ds.length ≤ 8 ∧ ∀ d ∈ ds, Sh k d
theorem sh_loo : ∀ {k : Nat} {x : PyData}, Sh k x → Loo x
  | 0, _, ⟨i, e, _⟩ => by rw [e]; exact loo_int _
  | k + 1, _, ⟨ds, e, _, h⟩ => by rw [e]; exact loo_tup fun d hd => sh_loo (h d hd)
/-- all places in it -/
def ways : Nat → PyData → List (List Nat)
  | k + 1, .tuple ds => [] :: (List.range ds.length).flatMap fun j => (ways k (ds.getD j .none)).map (j :: ·)
  | _, _ => [[]]
/-- a place that is there -/
def okWay : List Nat → PyData → Prop
  | [], _ => True
  | a :: w, x => ∃ ds d, x = .tuple ds ∧ ds[a]? = some d ∧ okWay w d
/-- what stands there, put otherwise -/
def putAt (g : PyData → PyData) : List Nat → PyData → PyData
  | [], x => g x
  | a :: w, .tuple ds => .tuple (ds.take a ++ [putAt g w (ds.getD a .none)] ++ ds.drop (a + 1))
  | _ :: _, x => x
def otherT (ds : List PyData) : List PyData := [.list ds, .list ds, .tuple (ds ++ Dl.cutD ds none (some 1)), .tuple (Dl.cutD ds (some 1) none), .list [.tuple ds]]
def otherI (i : Int) : List PyData := [.bool true, .none, .str (toString i), .tuple [.int i], .int (-1 - i)]
def other (nu : Int) : PyData → PyData
  | .tuple ds => (otherT ds).getD (nu % 5).toNat .none
  | .int i => (otherI i).getD (nu % 5).toNat .none
  | x => x
def wayAt (k : Nat) (nu : Int) (x : PyData) : List Nat := (ways k x).getD (nu % ((ways k x).length : Int)).toNat []
def spoilt (k : Nat) (nu : Int) (x : PyData) : PyData := putAt (other (nu / 4096)) (wayAt k nu x) x
theorem ways_pos (k : Nat) (x : PyData) : 0 < (ways k x).length := by
  cases k with
  | zero => simp [ways]
  | succ k =>
    cases x with
    | tuple ds => rw [ways]; exact Nat.succ_pos _
    | _ => simp [ways]
theorem sum_le {α β : Type} {f : α → List β} {c : Nat} : ∀ {l : List α}, (∀ a ∈ l, (f a).length ≤ c) → (l.flatMap f).length ≤ c * l.length
  | [], _ => by simp
  | a :: l, h => by
    rw [List.flatMap_cons, List.length_append, List.length_cons, Nat.mul_succ]
    have h1 := h a List.mem_cons_self
    have h2 := sum_le (f := f) (c := c) (l := l) fun b hb => h b (List.mem_cons_of_mem _ hb)
    omega
theorem sh_get {k : Nat} {ds : List PyData} (h : ∀ d ∈ ds, Sh k d) {j : Nat} (hj : j < ds.length) : Sh k (ds.getD j .none) := h _ (List.mem_of_getElem? (getD_some (d := .none) hj))
theorem ways_len : ∀ {k : Nat} {x : PyData}, Sh k x → (ways k x).length ≤ 9 ^ k
  | 0, _, _ => by simp [ways]
  | k + 1, _, ⟨ds, e, hl, h⟩ => by
    subst e
    rw [ways, List.length_cons]
    have := sum_le (f := fun j => (ways k (ds.getD j .none)).map (j :: ·)) (c := 9 ^ k) (l := List.range ds.length) fun j hj => by
      rw [List.length_map]
      exact ways_len (sh_get h (List.mem_range.mp hj))
    rw [List.length_range] at this
    have h2 : 9 ^ k * ds.length ≤ 9 ^ k * 8 := Nat.mul_le_mul_left _ hl
    have h3 : 0 < 9 ^ k := (by first | exact Nat.pow_pos (by decide) | exact Nat.pos_pow_of_pos _ _ (by decide) | exact Nat.pos_of_ne_zero (by simp))
    rw [Nat.pow_succ]
    omega
theorem ways_81 {k : Nat} {x : PyData} (h : Sh k x) (hk : k ≤ 2) : (ways k x).length ≤ 81 := Nat.le_trans (ways_len h) (Nat.le_trans (Nat.pow_le_pow_right (by decide) hk) (by decide))
theorem ways_ok : ∀ {k : Nat} {x : PyData}, Sh k x → ∀ w ∈ ways k x, okWay w x ∧ w.length ≤ k
  | 0, x, _, w, hw => by
    simp [ways] at hw
    subst hw
    exact ⟨trivial, Nat.le_refl _⟩
  | k + 1, _, ⟨ds, e, hl, h⟩, w, hw => by
    subst e
    rw [ways] at hw
    rcases List.mem_cons.mp hw with z | z
    · subst z
      exact ⟨trivial, Nat.zero_le _⟩
    · obtain ⟨j, hj, z⟩ := List.mem_flatMap.mp z
      obtain ⟨w', hw', rfl⟩ := List.mem_map.mp z
      have hj' := List.mem_range.mp hj
      have := ways_ok (sh_get h hj') w' hw'
      exact ⟨⟨ds, _, rfl, getD_some hj', this.1⟩, by rw [List.length_cons]; omega⟩
theorem wayAt_ok {k : Nat} {x : PyData} (h : Sh k x) (nu : Int) : okWay (wayAt k nu x) x ∧ (wayAt k nu x).length ≤ k := by
  have hp := ways_pos k x
  have a := Int.emod_nonneg nu (show ((ways k x).length : Int) ≠ 0 by omega)
  have b := Int.emod_lt_of_pos nu (show (0 : Int) < ((ways k x).length : Int) by omega)
  exact ways_ok h _ (List.mem_of_getElem? (getD_some (d := []) (show (nu % ((ways k x).length : Int)).toNat < (ways k x).length by omega)))
theorem loo_other {k : Nat} {nu : Int} {x : PyData} (h : Sh k x) : Loo (other nu x) := by
  cases k with
  | zero =>
    obtain ⟨i, rfl, _⟩ := h
    show Loo ((otherI (i : Int)).getD _ .none)
    refine loo_get ?_ _
    unfold otherI
    rw [List.forall_mem_cons, List.forall_mem_cons, List.forall_mem_cons, List.forall_mem_cons, List.forall_mem_cons]
    exact ⟨loo_bool _, lo_none, loo_str _, loo_tup fun d hd => List.mem_singleton.mp hd ▸ loo_int _, loo_int _, fun _ h => by cases h⟩
  | succ k =>
    obtain ⟨ds, rfl, _, h⟩ := h
    have hp : ∀ d ∈ ds, Loo d := fun d hd => sh_loo (h d hd)
    show Loo ((otherT ds).getD _ .none)
    refine loo_get ?_ _
    unfold otherT
    rw [List.forall_mem_cons, List.forall_mem_cons, List.forall_mem_cons, List.forall_mem_cons, List.forall_mem_cons]
    refine ⟨loo_lst hp, loo_lst hp, loo_tup fun d hd => ?_, loo_tup fun d hd => hp d (mem_cut hd), loo_lst fun d hd => List.mem_singleton.mp hd ▸ loo_tup hp, fun _ h => by cases h⟩
    rcases List.mem_append.mp hd with z | z
    · exact hp d z
    · exact hp d (mem_cut z)
theorem loo_put {g : PyData → PyData} (hg : ∀ k d, Sh k d → Loo (g d)) : ∀ {w : List Nat} {k : Nat} {x : PyData}, Sh k x → okWay w x → Loo (putAt g w x)
  | [], k, x, h, _ => hg k x h
  | a :: w, k, x, h, ⟨ds, d, e, hd, hw⟩ => by
    subst e
    cases k with
    | zero => obtain ⟨i, e, _⟩ := h; cases e
    | succ k =>
      obtain ⟨ds', e, _, h⟩ := h
      cases e
      rw [putAt]
      have hp : ∀ d ∈ ds, Loo d := fun d hd => sh_loo (h d hd)
      refine loo_tup fun z hz => ?_
      rcases List.mem_append.mp hz with y | y
      · rcases List.mem_append.mp y with y | y
        · exact hp z (List.mem_of_mem_take y)
        · rw [List.mem_singleton.mp y]
          have e : ds.getD a .none = d := by rw [List.getD_eq_getElem?_getD, hd]; rfl
          rw [e]
          exact loo_put hg (h d (List.mem_of_getElem? hd)) hw
      · exact hp z (List.mem_of_mem_drop y)
theorem loo_spoilt {k : Nat} {nu : Int} {x : PyData} (h : Sh k x) : Loo (spoilt k nu x) := loo_put (fun _ _ h => loo_other h) h (wayAt_ok h nu).1
theorem sh_nT {ns : List Nat} (h : ∀ x ∈ ns, x < 1000) (hl : ns.length ≤ 8) : Sh 1 (nT ns) := ⟨_, rfl, by rw [List.length_map]; exact hl, fun d hd => by obtain ⟨x, hx, rfl⟩ := List.mem_map.mp hd; exact ⟨x, rfl, h x hx⟩⟩
theorem sh_TT {rs : List (List Nat)} (hl : rs.length ≤ 8) (h : ∀ r ∈ rs, (∀ x ∈ r, x < 1000) ∧ r.length ≤ 8) : Sh 2 (.tuple (rs.map nT)) := ⟨_, rfl, by rw [List.length_map]; exact hl, fun d hd => by obtain ⟨r, hr, rfl⟩ := List.mem_map.mp hd; exact sh_nT (h r hr).1 (h r hr).2⟩
/-- the script of one turn -/
def turnS (ns : List Int) (t : Nat) : List Int := ns.map (fun x => x + 104729 * (t : Int)) ++ [(t : Int)]
end Of

namespace Wk
open PySem L2 PySem.W PyProof.Rows Dl
def top (i : Nat) : Stmt := PySem.Challenge.pw_heatplans_k09_lists_anywhere.main.body.getD i (.Pass ⟨0, 0, 0, 0⟩)
abbrev s_is_runner : Stmt := top 3
theorem sc_is_runner : FnScope ["many", "thing"] ["many", "thing"] (defScope s_is_runner) := ⟨rfl, rfl, rfl, by decide +kernel, rfl, by decide +kernel, by decide +kernel⟩
abbrev s_are_runners : Stmt := top 4
theorem sc_are_runners : FnScope ["many", "most", "thing", "part"] ["many", "most", "thing"] (defScope s_are_runners) := ⟨rfl, rfl, rfl, by decide +kernel, rfl, by decide +kernel, by decide +kernel⟩
abbrev s_are_results : Stmt := top 5
theorem sc_are_results : FnScope ["many", "thing", "part"] ["many", "thing"] (defScope s_are_results) := ⟨rfl, rfl, rfl, by decide +kernel, rfl, by decide +kernel, by decide +kernel⟩
abbrev s_is_heat : Stmt := top 6
theorem sc_is_heat : FnScope ["many", "lanes", "thing"] ["many", "lanes", "thing"] (defScope s_is_heat) := ⟨rfl, rfl, rfl, by decide +kernel, rfl, by decide +kernel, by decide +kernel⟩
abbrev s_u_law_cell_at : Stmt := top 8
theorem sc_u_law_cell_at : FnScope ["script", "k"] ["script", "k"] (defScope s_u_law_cell_at) := ⟨rfl, rfl, rfl, by decide +kernel, rfl, by decide +kernel, by decide +kernel⟩
abbrev s_u_law_mixed : Stmt := top 9
theorem sc_u_law_mixed : FnScope ["script", "k", "drawn"] ["script", "k"] (defScope s_u_law_mixed) := ⟨rfl, rfl, rfl, by decide +kernel, rfl, by decide +kernel, by decide +kernel⟩
abbrev s_u_law_drawn : Stmt := top 10
theorem sc_u_law_drawn : FnScope ["number", "k", "drawn"] ["number", "k"] (defScope s_u_law_drawn) := ⟨rfl, rfl, rfl, by decide +kernel, rfl, by decide +kernel, by decide +kernel⟩
abbrev s_u_law_order : Stmt := top 11
theorem sc_u_law_order : FnScope ["many", "number", "left", "found", "k", "at"] ["many", "number"] (defScope s_u_law_order) := ⟨rfl, rfl, rfl, by decide +kernel, rfl, by decide +kernel, by decide +kernel⟩
abbrev s_u_law_result : Stmt := top 12
theorem sc_u_law_result : FnScope ["order", "number", "lanes", "size", "some", "runner"] ["order", "number", "lanes"] (defScope s_u_law_result) := ⟨rfl, rfl, rfl, by decide +kernel, rfl, by decide +kernel, by decide +kernel⟩
abbrev s_u_law_results : Stmt := top 13
theorem sc_u_law_results : FnScope ["many", "number", "most", "lanes", "order", "found", "k", "drawn"] ["many", "number", "most", "lanes"] (defScope s_u_law_results) := ⟨rfl, rfl, rfl, by decide +kernel, rfl, by decide +kernel, by decide +kernel⟩
abbrev s_u_law_are : Stmt := top 14
theorem sc_u_law_are : FnScope ["many", "most", "thing", "part"] ["many", "most", "thing"] (defScope s_u_law_are) := ⟨rfl, rfl, rfl, by decide +kernel, rfl, by decide +kernel, by decide +kernel⟩
abbrev s_u_law_are_results : Stmt := top 15
theorem sc_u_law_are_results : FnScope ["many", "thing", "part"] ["many", "thing"] (defScope s_u_law_are_results) := ⟨rfl, rfl, rfl, by decide +kernel, rfl, by decide +kernel, by decide +kernel⟩
abbrev s_u_law_places_in : Stmt := top 16
theorem sc_u_law_places_in : FnScope ["bent_one", "bent_way", "bent_ways", "bent_at", "bent_part"] ["bent_one", "bent_way"] (defScope s_u_law_places_in) := ⟨rfl, rfl, rfl, by decide +kernel, rfl, by decide +kernel, by decide +kernel⟩
abbrev s_u_law_put_at : Stmt := top 17
theorem sc_u_law_put_at : FnScope ["bent_one", "bent_way", "bent_by", "bent_at", "bent_part"] ["bent_one", "bent_way", "bent_by"] (defScope s_u_law_put_at) := ⟨rfl, rfl, rfl, by decide +kernel, rfl, by decide +kernel, by decide +kernel⟩
abbrev s_u_law_otherwise : Stmt := top 18
theorem sc_u_law_otherwise : FnScope ["bent_one", "bent_number", "bent_some"] ["bent_one", "bent_number"] (defScope s_u_law_otherwise) := ⟨rfl, rfl, rfl, by decide +kernel, rfl, by decide +kernel, by decide +kernel⟩
abbrev s_u_law_spoilt : Stmt := top 19
theorem sc_u_law_spoilt : FnScope ["thing", "number", "deep", "bent_ways", "bent_way"] ["thing", "number", "deep"] (defScope s_u_law_spoilt) := ⟨rfl, rfl, rfl, by decide +kernel, rfl, by decide +kernel, by decide +kernel⟩
abbrev s_u_law_once : Stmt := top 20
theorem sc_u_law_once : FnScope ["script", "number", "many", "lanes", "results", "heat", "thing", "few", "edges", "one", "got", "odd", "due"] ["script"] (defScope s_u_law_once) := ⟨rfl, rfl, rfl, by decide +kernel, rfl, by decide +kernel, by decide +kernel⟩
abbrev s_law : Stmt := top 21
theorem sc_law : FnScope ["script", "bent_turn", "bent_cell"] ["script"] (defScope s_law) := ⟨rfl, rfl, rfl, by decide +kernel, rfl, by decide +kernel, by decide +kernel⟩
end Wk

namespace Wk
open PySem L2 PySem.W PyProof.Rows Dl Lw
section
variable {P : Program} {w : World} {K : PySem.W.Frag} {mg : Str → Option Value} {base : Heap}
def R_cell_at : Rho → PyData → Prop := fun as d => ∃ (ns : List Int) (k : Nat), as = [.scr ns, .val (.int (k : Int))] ∧ d = .int (ns.getD k 0)
theorem ok_u_law_cell_at (hb : Blt mg) (D_u_law_cell_at : Dfn K mg "_law_cell_at" s_u_law_cell_at ["script", "k"]) : D_u_law_cell_at.Ok P w base 1 R_cell_at := by
  refine okD D_u_law_cell_at.F sc_u_law_cell_at (by rintro _ _ ⟨_, _, rfl, rfl⟩; rfl) (by decide) (fun cdv A outer s H E hr as d hR => ?_)
  obtain ⟨ns, k, rfl, rfl⟩ := hR
  refine dss_seq (M := fun r1 => r1 = [.scr ns, .val (.int (k : Int))] ∧ ns.length ≤ k) (ds_if (dt_lt (de_var 1) (de_lenScr hb.len (dar_scr 0))) (fun hk => ?_) (fun hk => ?_)) ?_
  · have hlt : k < ns.length := by
      have := of_decide_eq_true hk
      omega
    refine dss_one (ds_ret (de_ixScr (dar_scr 0) (de_var 1) (atI_lt hlt)) ?_)
    show PyData.int _ = PyData.int _
    rw [List.getD_eq_getElem?_getD, List.getElem?_eq_getElem hlt]
    rfl
  · exact dss_nil ⟨rfl, by have := of_decide_eq_false hk; omega⟩
  · rintro r1 ⟨rfl, hge⟩
    refine dss_one (ds_ret de_int ?_)
    show PyData.int _ = PyData.int _
    rw [List.getD_eq_getElem?_getD, List.getElem?_eq_none hge]
    rfl
def R_mixed : Rho → PyData → Prop := fun as d => ∃ (ns : List Int) (k : Nat), as = [.scr ns, .val (.int (k : Int))] ∧ d = .int (mixed ns k)
theorem mulL {i j : Int} (h1 : -(2 ^ 64) < i) (h2 : i < 2 ^ 64) : CMul i j := .inl ⟨h1, h2⟩
theorem mulR {i j : Int} (h1 : -(2 ^ 64) < j) (h2 : j < 2 ^ 64) : CMul i j := .inr ⟨h1, h2⟩
theorem mulM (x : Int) : CMul (x % 2147483647) (x % 2147483647) := mulL (by have := Int.emod_nonneg x (show (2147483647 : Int) ≠ 0 by decide); omega) (by have := Int.emod_lt_of_pos x (show (0 : Int) < 2147483647 by decide); omega)
theorem ok_u_law_mixed (hb : Blt mg) (D_u_law_mixed : Dfn K mg "_law_mixed" s_u_law_mixed ["script", "k"]) (D_u_law_cell_at : Dfn K mg "_law_cell_at" s_u_law_cell_at ["script", "k"]) : D_u_law_mixed.Ok P w base 2 R_mixed := by
  refine okD D_u_law_mixed.F sc_u_law_mixed (by rintro _ _ ⟨_, _, rfl, rfl⟩; rfl) (by decide) (fun cdv A outer s H E hr as d hR => ?_)
  obtain ⟨ns, k, rfl, rfl⟩ := hR
  refine dss_cons (ds_set 2 sc_u_law_mixed.nd (de_mod (by decide) (de_mul (mulR (by decide) (by decide)) (de_add (de_add (dc D_u_law_cell_at (ok_u_law_cell_at hb D_u_law_cell_at ) hr (by decide) (da_cons (dar_scr 0) (da_1 (de_var 1))) ⟨ns, k, rfl, rfl⟩) (de_mul (mulL (by decide) (by decide)) de_int (de_var 1))) de_int) de_int) de_int) rfl) ?_
  exact dss_one (ds_ret (de_mod (by decide) (de_add (de_add (de_mul (mulM _) (de_var 2) (de_var 2)) (de_mul (mulL (by decide) (by decide)) de_int (de_var 2))) (de_var 1)) de_int) rfl)
def R_drawn : Rho → PyData → Prop := fun as d => ∃ (n : Int) (k : Nat), as = [.val (.int n), .val (.int (k : Int))] ∧ d = .int (drawn n k)
theorem ok_u_law_drawn (hb : Blt mg) (D_u_law_drawn : Dfn K mg "_law_drawn" s_u_law_drawn ["number", "k"]) : D_u_law_drawn.Ok P w base 1 R_drawn := by
  refine okD D_u_law_drawn.F sc_u_law_drawn (by rintro _ _ ⟨_, _, rfl, rfl⟩; rfl) (by decide) (fun cdv A outer s H E hr as d hR => ?_)
  obtain ⟨n, k, rfl, rfl⟩ := hR
  refine dss_cons (ds_set 2 sc_u_law_drawn.nd (de_mod (by decide) (de_mul (mulR (by decide) (by decide)) (de_add (de_add (de_var 0) (de_mul (mulL (by decide) (by decide)) de_int (de_var 1))) de_int) de_int) de_int) rfl) ?_
  exact dss_one (ds_ret (de_mod (by decide) (de_add (de_add (de_mul (mulM _) (de_var 2) (de_var 2)) (de_mul (mulL (by decide) (by decide)) de_int (de_var 2))) (de_var 1)) de_int) rfl)
end
end Wk

namespace Wk
open PySem L2 PySem.W PyProof.Rows Dl Lw
section
variable {P : Program} {w : World} {K : PySem.W.Frag} {mg : Str → Option Value} {base : Heap}
theorem erase_cut (ds : List PyData) (k : Nat) : cutD ds none (some (k : Int)) ++ cutD ds (some ((k : Int) + 1)) none = ds.eraseIdx k := by
  rw [cutD_take, show ((k : Int) + 1) = ((k + 1 : Nat) : Int) by omega, cutD_drop, List.eraseIdx_eq_take_drop_succ]
theorem eraseIdx_map' {α β : Type} (f : α → β) : ∀ (l : List α) (k : Nat), (l.map f).eraseIdx k = (l.eraseIdx k).map f
  | [], _ => rfl
  | _ :: _, 0 => rfl
  | x :: l, k + 1 => by rw [List.map_cons, List.eraseIdx_cons_succ, eraseIdx_map' f l k]; rfl
def R_order : Rho → PyData → Prop := fun as d => ∃ (many : Nat) (n : Int), as = [.val (nI many), .val (.int n)] ∧ many ≤ 1000 ∧ d = nX (order many n)
theorem ok_u_law_order (hb : Blt mg) (D_u_law_order : Dfn K mg "_law_order" s_u_law_order ["many", "number"]) (D_u_law_drawn : Dfn K mg "_law_drawn" s_u_law_drawn ["number", "k"]) : D_u_law_order.Ok P w base 2 R_order := by
  refine okD D_u_law_order.F sc_u_law_order (by rintro _ _ ⟨_, _, rfl, _, rfl⟩; rfl) (by decide) (fun cdv A outer s H E hr as d hR => ?_)
  obtain ⟨many, n, rfl, hm, rfl⟩ := hR
  refine dss_cons (ds_setN 2 sc_u_law_order.nd (dn_listRangeN rfl hb.list hb.range (de_var 0) (by omega)) rfl) ?_
  refine dss_freeze 2 rfl ?_
  refine dss_cons (ds_set 3 sc_u_law_order.nd (de_tupX (ds := []) da_nil (Nat.zero_le _)) rfl) ?_
  refine dss_cons (ds_forT (fun i => [.val (nI many), .val (.int n), .val (nL (ordSt n many i).1), .val (nX (ordSt n many i).2), .un, .un]) PassesOwn.never rfl (by repeat (first | exact Forg.nil | apply Forg.cons0 | apply Forg.cons1)) (di_rangeN rfl hb.range (de_var 0) (by omega)) (fun i d hd => ?_) rfl) ?_
  · obtain ⟨j, hj, rfl⟩ := map_at hd
    obtain ⟨hj1, hj2⟩ := List.getElem?_eq_some_iff.mp hj
    rw [List.length_range] at hj1
    rw [List.getElem_range] at hj2
    subst hj2
    obtain ⟨l1, l2⟩ := ordSt_len n many i (by omega)
    have hat := ordSt_at n many i hj1
    obtain ⟨left, eL⟩ : ∃ z, z = (ordSt n many i).1 := ⟨_, rfl⟩
    obtain ⟨fnd, eF⟩ : ∃ z, z = (ordSt n many i).2 := ⟨_, rfl⟩
    obtain ⟨k, ek⟩ : ∃ z, z = (drawn n i / 16 % ((ordSt n many i).1.length : Int)).toNat := ⟨_, rfl⟩
    have e1 : (ordSt n many (i + 1)).1 = left.eraseIdx k := by rw [ordSt, eL, ek]
    have e2 : (ordSt n many (i + 1)).2 = fnd ++ [left.getD k 0] := by rw [ordSt, eL, eF, ek]
    rw [← ek, ← eL] at hat
    rw [← eL] at l1 ek
    rw [← eF] at l2
    have hk : ((k : Nat) : Int) = drawn n i / 16 % (left.length : Int) := by
      have := Int.emod_nonneg (drawn n i / 16) (show (left.length : Int) ≠ 0 by omega)
      omega
    rw [e1, e2, ← eL, ← eF]
    refine ⟨_, _, dg_name 4 sc_u_law_order.nd, ?_⟩
    refine dss_cons (ds_set 5 sc_u_law_order.nd (d := nI k) (DE.is (de_mod (by show (0 : Int) < _; rw [List.length_map]; omega) (de_fdiv (by decide) (dc D_u_law_drawn (ok_u_law_drawn hb D_u_law_drawn ) hr (by decide) (da_2 (de_var 1) (de_var 4)) ⟨n, i, rfl, rfl⟩) de_int) (de_len (ds := left.map nI) hb.len (de_var 2) rfl)) (by rw [List.length_map]; unfold nI; rw [hk])) rfl) ?_
    refine dss_cons (ds_set 3 sc_u_law_order.nd (d := nX (fnd ++ [left.getD k 0])) (DE.is (de_catX (ds' := [nI (left.getD k 0)]) ?_ (de_var 3) (de_tupX (ds := [nI (left.getD k 0)]) (da_1 (de_ixL (de_var 2) (de_var 5) (atI_nI ?_))) (sz 1))) (by unfold nX; rw [List.map_append]; rfl)) rfl) ?_
    · rw [List.length_map, List.length_singleton]
      exact size_ok (by omega)
    · rw [List.getElem?_map, List.getD_eq_getElem?_getD, List.getElem?_eq_getElem hat]
      rfl
    refine dss_one (ds_set 2 sc_u_law_order.nd (d := nL (left.eraseIdx k)) (DE.is (DN.de (dn_cat ?_ (DN.de (dn_slL (de_var 2) do_none (do_some (de_var 5)))) (DN.de (dn_slL (de_var 2) (do_some (de_add (de_var 5) de_int)) do_none)))) ?_) (by show Forg _ _; exact (by repeat (first | exact Forg.nil | apply Forg.cons0 | apply Forg.cons1))))
    · rw [← List.length_append, erase_cut, List.length_eraseIdx, List.length_map]
      refine size_ok ?_
      split <;> omega
    · show PyData.list _ = PyData.list _
      rw [erase_cut, eraseIdx_map']
  rw [List.length_map, List.length_range]
  exact dss_one (ds_ret (de_var 3) rfl)
end
end Wk

namespace Wk
open PySem L2 PySem.W PyProof.Rows Dl Lw
section
variable {P : Program} {w : World} {K : PySem.W.Frag} {mg : Str → Option Value} {base : Heap}
def R_result : Rho → PyData → Prop := fun as d => ∃ (o : List Nat) (nu : Int) (lanes : Nat), as = [.val (nX o), .val (.int nu), .val (nI lanes)] ∧ o.length ≤ 10 ∧ (2 ≤ lanes ∧ lanes ≤ 10) ∧ d = nT (lawRes o nu lanes)
theorem ok_u_law_result (hb : Blt mg) (D_u_law_result : Dfn K mg "_law_result" s_u_law_result ["order", "number", "lanes"]) (D_u_law_order : Dfn K mg "_law_order" s_u_law_order ["many", "number"]) (D_u_law_drawn : Dfn K mg "_law_drawn" s_u_law_drawn ["number", "k"]) : D_u_law_result.Ok P w base 3 R_result := by
  refine okD D_u_law_result.F sc_u_law_result (by rintro _ _ ⟨_, _, _, rfl, _, _, rfl⟩; rfl) (by decide) (fun cdv A outer s H E hr as d hR => ?_)
  obtain ⟨o, nu, lanes, rfl, ho, hl, rfl⟩ := hR
  have h1 := Int.emod_nonneg (nu / 16) (show ((lanes : Int) - 1) ≠ 0 by omega)
  refine dss_cons (ds_set 3 sc_u_law_result.nd (d := nI (resSize o.length nu lanes)) (DE.is (de_min2N (i := o.length) (j := 2 + (nu / 16 % ((lanes : Int) - 1)).toNat) rfl hb.min (DE.is (de_len (ds := o.map nI) hb.len (DE.loose (de_var 0)) rfl) (by rw [List.length_map]; rfl)) (de_nat (de_add de_int (de_mod (j := (lanes : Int) - 1) (by omega) (de_fdiv (by decide) (de_var 1) de_int) (de_sub (i := (lanes : Int)) (j := 1) (de_var 2) de_int))) (by omega))) rfl) rfl) ?_
  refine dss_cons (ds_set 4 sc_u_law_result.nd (d := nT ((order o.length nu).take (resSize o.length nu lanes))) (DE.is (de_slT (DE.loose (dc D_u_law_order (ok_u_law_order hb D_u_law_order D_u_law_drawn ) hr (by decide) (da_2 (DE.is (d := nI o.length) (de_len (ds := o.map nI) hb.len (DE.loose (de_var 0)) rfl) (by rw [List.length_map]; rfl)) (de_var 1)) ⟨o.length, nu, rfl, by omega, rfl⟩)) do_none (do_some (de_var 3))) (by rw [cutD_take, ← List.map_take]; rfl)) rfl) ?_
  exact dss_one (ds_ret (de_tuple hb.tuple (DN.de (dn_lc (xs := o) (rep := nI) (q := fun x => decide (x ∈ (order o.length nu).take (resSize o.length nu lanes))) (g := nI) [("runner", 5)] [5] rfl sc_u_law_result.nd (blkOk_by rfl) (di_tup (DE.loose (de_var 0))) (fun x hx => ⟨_, ⟨fun _ _ _ _ _ => dg_name 5 sc_u_law_result.nd, fun _ _ _ _ _ => dts_one (dt_inN (ns := (order o.length nu).take (resSize o.length nu lanes)) hr.units (de_var 5) (de_var 4) rfl), fun _ _ _ _ _ qx => (de_var 5)⟩⟩))) rfl) rfl)
def R_lresults : Rho → PyData → Prop := fun as d => ∃ (n : Nat) (nu : Int) (most lanes : Nat), as = [.val (nI n), .val (.int nu), .val (nI most), .val (nI lanes)] ∧ n ≤ 10 ∧ most ≤ 10 ∧ (2 ≤ lanes ∧ lanes ≤ 10) ∧ d = .tuple ((lawResults n nu most lanes).map nT)
theorem ok_u_law_results (hb : Blt mg) (D_u_law_results : Dfn K mg "_law_results" s_u_law_results ["many", "number", "most", "lanes"]) (D_u_law_drawn : Dfn K mg "_law_drawn" s_u_law_drawn ["number", "k"]) (D_u_law_order : Dfn K mg "_law_order" s_u_law_order ["many", "number"]) (D_u_law_result : Dfn K mg "_law_result" s_u_law_result ["order", "number", "lanes"]) : D_u_law_results.Ok P w base 4 R_lresults := by
  refine okD D_u_law_results.F sc_u_law_results (by rintro _ _ ⟨_, _, _, _, rfl, _, _, _, rfl⟩; rfl) (by decide) (fun cdv A outer s H E hr as d hR => ?_)
  obtain ⟨n, nu, most, lanes, rfl, hn, hm, hl, rfl⟩ := hR
  have h1 := Int.emod_nonneg (nu / 16) (show ((most : Int) + 1) ≠ 0 by omega)
  have h3 := Int.emod_lt_of_pos (nu / 16) (show (0 : Int) < (most : Int) + 1 by omega)
  have tl := lawResults_len n nu most lanes
  have ol : ∀ k, (ordK nu n k).length = n := fun k => by rw [(ordK_perm nu n k).length_eq, List.length_range]
  refine dss_cons (ds_set 4 sc_u_law_results.nd (dc D_u_law_order (ok_u_law_order hb D_u_law_order D_u_law_drawn ) hr (by decide) (da_2 (de_var 0) (de_var 1)) ⟨n, nu, rfl, by omega, rfl⟩) rfl) ?_
  refine dss_cons (ds_set 5 sc_u_law_results.nd (de_tup (ds := []) da_nil (Nat.zero_le _)) rfl) ?_
  refine dss_cons (ds_forT (fun i => [.val (nI n), .val (.int nu), .val (nI most), .val (nI lanes), .val (nX (ordK nu n i)), .val (.tuple (((lawResults n nu most lanes).take i).map nT)), .un, .un]) PassesOwn.never rfl (by repeat (first | exact Forg.nil | apply Forg.cons0 | apply Forg.cons1)) (di_range1 rfl hb.range (de_mod (j := (most : Int) + 1) (by omega) (de_fdiv (by decide) (de_var 1) de_int) (de_add (i := (most : Int)) (j := 1) (de_var 2) de_int)) (by omega) (by omega)) (fun i d hd => ?_) rfl) ?_
  · obtain ⟨rfl, hi⟩ := rangeD_at hd
    have e1 : (lawResults n nu most lanes).take (i + 1) = (lawResults n nu most lanes).take i ++ [lawRes (ordK nu n (i + 1)) (drawn nu (30 + i)) lanes] := by
      refine take_snoc ?_
      unfold lawResults
      rw [List.getElem?_map, List.getElem?_range hi]
      rfl
    refine ⟨_, _, (dg_name 6 sc_u_law_results.nd), ?_⟩
    refine dss_cons (ds_set 7 sc_u_law_results.nd (d := .int (drawn nu (30 + i))) (dc D_u_law_drawn (ok_u_law_drawn hb D_u_law_drawn ) hr (by decide) (da_2 (de_var 1) (de_add de_int (de_var 6))) ⟨nu, 30 + i, by simp, rfl⟩) rfl) ?_
    refine dss_st [.val (nI n), .val (.int nu), .val (nI most), .val (nI lanes), .val (nX (ordK nu n (i + 1))), .val (.tuple (((lawResults n nu most lanes).take i).map nT)), .un, .val (.int (drawn nu (30 + i)))]
      (ds_if (dt_eqP hr.units (by rw [dep_int]; omega) (de_mod (by decide) (de_fdiv (by decide) (de_var 7) de_int) de_int) de_int) (fun hk => ?_) (fun hk => ?_)) ?_
    · rw [eqv_int] at hk
      refine dss_one (ds_set 4 sc_u_law_results.nd (dc D_u_law_order (ok_u_law_order hb D_u_law_order D_u_law_drawn ) hr (by decide) (da_2 (de_var 0) (de_var 7)) ⟨n, _, rfl, by omega, rfl⟩) ?_)
      show Forg _ _
      unfold ordK
      rw [if_pos (of_decide_eq_true hk)]
      exact (by repeat (first | exact Forg.nil | apply Forg.cons0 | apply Forg.cons1))
    · rw [eqv_int] at hk
      refine dss_nil ?_
      show Forg _ _
      rw [show ordK nu n (i + 1) = ordK nu n i by rw [ordK, if_neg (of_decide_eq_false hk)]]
      exact (by repeat (first | exact Forg.nil | apply Forg.cons0 | apply Forg.cons1))
    · refine dss_one (ds_set 5 sc_u_law_results.nd (de_catT (ds := ((lawResults n nu most lanes).take i).map nT) (es := [nT (lawRes (ordK nu n (i + 1)) (drawn nu (30 + i)) lanes)]) ?_ (de_var 5) (de_tup (ds := [nT (lawRes (ordK nu n (i + 1)) (drawn nu (30 + i)) lanes)]) (da_1 (dc D_u_law_result (ok_u_law_result hb D_u_law_result D_u_law_order D_u_law_drawn ) hr (by decide) (da_3 (de_var 4) (de_var 7) (de_var 3)) ⟨_, _, lanes, rfl, by rw [ol]; omega, hl, rfl⟩)) (sz 1))) ?_)
      · rw [List.length_map, List.length_take, List.length_singleton]; exact size_ok (by omega)
      · show Forg _ _
        rw [e1, List.map_append]
        exact (by repeat (first | exact Forg.nil | apply Forg.cons0 | apply Forg.cons1))
  rw [rangeD_length, List.take_of_length_le (by unfold lawResults; rw [List.length_map, List.length_range]; exact Nat.le_refl _)]
  exact dss_one (ds_ret (de_var 5) rfl)
end
end Wk

namespace Wk
open PySem L2 PySem.W PyProof.Rows Dl
section
variable {P : Program} {w : World} {K : PySem.W.Frag} {mg : Str → Option Value} {base : Heap}
/-! runners, results, heats: of any thing -/
def isRn (n : Nat) : PyData → Bool
  | .int i => decide (0 ≤ i ∧ i < (n : Int))
  | _ => false
def R_is_runner : Rho → PyData → Prop := fun as d => ∃ (n : Nat) (x : PyData), as = [.val (nI n), .val x] ∧ Dl.lo x = x ∧ d = .bool (isRn n x)
theorem ok_is_runner (hb : Blt mg) (D_is_runner : Dfn K mg "is_runner" s_is_runner ["many", "thing"]) : D_is_runner.Ok P w base 1 R_is_runner := by
  refine okD D_is_runner.F sc_is_runner (by rintro _ _ ⟨_, _, rfl, _, rfl⟩; rfl) (by decide) (fun cdv A outer s H E hr as d hR => ?_)
  obtain ⟨n, x, rfl, e0, rfl⟩ := hR
  cases x with
  | int i => exact dss_one (ds_ret (DE.is (de_and (k := true) (DE.is (de_isa isaR_int hb.isinstance hb.int (by decide +kernel) (de_var 1)) (by rw [e0]; rfl)) (fun _ => de_and (k := true) (DE.is (de_not (de_isa isaR_bool hb.isinstance hb.bool (by decide +kernel) (de_var 1))) (by rw [e0]; rfl)) (fun _ => de_one (de_lelt (i := 0) (j := i) (k := (n : Int)) de_int (de_var 1) (de_var 0))))) rfl) rfl)
  | bool b => exact dss_one (ds_ret (DE.is (de_and (k := true) (k' := false) (DE.is (de_isa isaR_int hb.isinstance hb.int (by decide +kernel) (de_var 1)) (by rw [e0]; rfl)) (fun _ => de_and (k := false) (k' := false) (DE.is (de_not (de_isa isaR_bool hb.isinstance hb.bool (by decide +kernel) (de_var 1))) (by rw [e0]; rfl)) (fun z => by cases z))) rfl) rfl)
  | none => exact dss_one (ds_ret (DE.is (de_and (k := false) (k' := false) (DE.is (de_isa isaR_int hb.isinstance hb.int (by decide +kernel) (de_var 1)) (by rw [e0]; rfl)) (fun z => by cases z)) rfl) rfl)
  | str _ => exact dss_one (ds_ret (DE.is (de_and (k := false) (k' := false) (DE.is (de_isa isaR_int hb.isinstance hb.int (by decide +kernel) (de_var 1)) (by rw [e0]; rfl)) (fun z => by cases z)) rfl) rfl)
  | list _ => exact dss_one (ds_ret (DE.is (de_and (k := false) (k' := false) (DE.is (de_isa isaR_int hb.isinstance hb.int (by decide +kernel) (de_var 1)) (by rw [e0]; rfl)) (fun z => by cases z)) rfl) rfl)
  | tuple _ => exact dss_one (ds_ret (DE.is (de_and (k := false) (k' := false) (DE.is (de_isa isaR_int hb.isinstance hb.int (by decide +kernel) (de_var 1)) (by rw [e0]; rfl)) (fun z => by cases z)) rfl) rfl)
  | dict _ => exact dss_one (ds_ret (DE.is (de_and (k := false) (k' := false) (DE.is (de_isa isaR_int hb.isinstance hb.int (by decide +kernel) (de_var 1)) (by rw [e0]; rfl)) (fun z => by cases z)) rfl) rfl)
def intsOf (ds : List PyData) : List Int := ds.filterMap fun d => match d with
  | .int i => some i
  | _ => none
theorem intsOf_map {n : Nat} : ∀ {ds : List PyData}, ds.all (isRn n) = true → ds = (intsOf ds).map .int
  | [], _ => rfl
  | d :: ds, h => by
    rw [List.all_cons, Bool.and_eq_true] at h
    cases d with
    | int i => show _ = PyData.int i :: (intsOf ds).map .int; rw [← intsOf_map h.2]
    | bool _ => cases h.1
    | none => cases h.1
    | str _ => cases h.1
    | list _ => cases h.1
    | tuple _ => cases h.1
    | dict _ => cases h.1
theorem risen_nd : ∀ ns : List Int, (risen ns).length = ns.length → ns.Nodup
  | [], _ => List.nodup_nil
  | n :: ns, h => by
    have h1 := insI_len n (risen ns)
    have h2 := risen_len ns
    have h : (Dl.insI n (risen ns)).length = ns.length + 1 := h
    refine List.nodup_cons.mpr ⟨fun m => ?_, risen_nd ns (by omega)⟩
    have := nd_len (l := Dl.insI n (risen ns)) (m := risen ns) (pw_nodup (Dl.insI_pw n _ (risen_pw ns))) fun x hx => by
      rcases (mem_insI n x _).mp hx with e | e
      · rw [e]; exact (mem_risen n ns).mpr m
      · exact e
    omega
theorem risen_len_iff {ns : List Int} : (risen ns).length = ns.length ↔ ns.Nodup :=
  ⟨risen_nd ns, fun h => nd_len_eq ((risen_pw _).imp fun q => by omega) h fun x => mem_risen x _⟩
def areRn (n l : Nat) : PyData → Bool
  | .tuple ds => decide (2 ≤ ds.length ∧ ds.length ≤ l) && (ds.all (isRn n) && decide (intsOf ds).Nodup)
  | _ => false
theorem lo_parts {ds : List PyData} (h : Dl.lo (.tuple ds) = .tuple ds) : ∀ d ∈ ds, Dl.lo d = d := by
  rw [lo_tuple] at h
  injection h with h
  intro d hd
  obtain ⟨i, hi, rfl⟩ := List.mem_iff_getElem.mp hd
  have := congrArg (fun l => l[i]?) h
  simp [List.getElem?_map, List.getElem?_eq_getElem hi] at this
  exact this
/-- the runners, as numbers -/
theorem areRn_nat {n l : Nat} {x : PyData} (h : areRn n l x = true) : ∃ ns : List Nat, x = nT ns ∧ ns.Nodup ∧ (∀ y ∈ ns, y < n) ∧ 2 ≤ ns.length ∧ ns.length ≤ l := by
  cases x with
  | tuple ds =>
    unfold areRn at h
    rw [Bool.and_eq_true, Bool.and_eq_true] at h
    obtain ⟨h1, h2, h3⟩ := h
    have h1 := of_decide_eq_true h1
    have h3 := of_decide_eq_true h3
    have e := intsOf_map h2
    have hall : ∀ i ∈ intsOf ds, 0 ≤ i ∧ i < (n : Int) := fun i hi => by
      have : PyData.int i ∈ ds := by rw [e]; exact List.mem_map_of_mem hi
      exact of_decide_eq_true (List.all_eq_true.mp h2 _ this)
    have hl : (intsOf ds).length = ds.length := by
      have := congrArg List.length e
      rw [List.length_map] at this
      exact this.symm
    refine ⟨(intsOf ds).map Int.toNat, ?_, ?_, fun y hy => ?_, by rw [List.length_map]; omega, by rw [List.length_map]; omega⟩
    · unfold nT
      rw [List.map_map]
      congr 1
      refine e.trans (List.map_congr_left fun i hi => ?_)
      show PyData.int i = PyData.int _
      have := hall i hi
      congr 1
      omega
    · refine List.pairwise_map.mpr (h3.imp_of_mem fun {a b} ha hb ne z => ne ?_)
      have := hall a ha
      have := hall b hb
      omega
    · obtain ⟨i, hi, rfl⟩ := List.mem_map.mp hy
      have := hall i hi
      omega
  | int _ => cases h
  | bool _ => cases h
  | none => cases h
  | str _ => cases h
  | list _ => cases h
  | dict _ => cases h
theorem intsOf_nI : ∀ ns : List Nat, intsOf (ns.map nI) = ns.map Int.ofNat
  | [] => rfl
  | n :: ns => by
    show (n : Int) :: intsOf (ns.map nI) = _
    rw [intsOf_nI ns]; rfl
theorem areRn_ok {n l : Nat} {ns : List Nat} (h1 : ns.Nodup) (h2 : ∀ y ∈ ns, y < n) (h3 : 2 ≤ ns.length) (h4 : ns.length ≤ l) : areRn n l (nT ns) = true := by
  show (decide (2 ≤ (ns.map nI).length ∧ (ns.map nI).length ≤ l) && ((ns.map nI).all (isRn n) && decide (intsOf (ns.map nI)).Nodup)) = true
  rw [List.length_map, decide_eq_true ⟨h3, h4⟩, intsOf_nI, List.all_map]
  have e1 : ns.all (isRn n ∘ nI) = true := List.all_eq_true.mpr fun y hy => by
    show decide (0 ≤ (y : Int) ∧ (y : Int) < (n : Int)) = true
    have := h2 y hy
    exact decide_eq_true (by omega)
  have e2 : (ns.map Int.ofNat).Nodup := List.pairwise_map.mpr (h1.imp fun {a b} z q => z (Int.ofNat.inj q))
  rw [e1, decide_eq_true e2]
  rfl
def R_are_runners : Rho → PyData → Prop := fun as d => ∃ (n l : Nat) (x : PyData), as = [.val (nI n), .val (nI l), .val x] ∧ l ≤ 1000 ∧ Dl.lo x = x ∧ d = .bool (areRn n l x)
theorem ok_are_runners (hb : Blt mg) (D_are_runners : Dfn K mg "are_runners" s_are_runners ["many", "most", "thing"]) (D_is_runner : Dfn K mg "is_runner" s_is_runner ["many", "thing"]) : D_are_runners.Ok P w base 2 R_are_runners := by
  refine okD D_are_runners.F sc_are_runners (by rintro _ _ ⟨_, _, _, rfl, _, _, rfl⟩; rfl) (by decide) (fun cdv A outer s H E hr as d hR => ?_)
  obtain ⟨n, l, x, rfl, hl, e0, rfl⟩ := hR
  have other : PyData.isTuple x = false → areRn n l x = false → DSs (cx0 P w K mg base ["many", "most", "thing", "part"] "are_runners" (defScope s_are_runners) D_are_runners.f cdv A outer s H E) E0 [.val (nI n), .val (nI l), .val x, .un] (defBody s_are_runners) { nx := fun _ => PyData.bool (areRn n l x) = .none, rt := fun z => z = .bool (areRn n l x) } := fun h1 h2 => by
    refine dss_leave (ds_if (k := true) (DT.is (DW.dt (dw_or (k := true) (k' := true) (DT.is (dt_not (dt_val (de_isa isaR_tuple hb.isinstance hb.tuple (by decide +kernel) (de_var 2)))) (by rw [e0, h1]; rfl)) (fun z => by cases z))) rfl) (fun _ => dss_one (ds_ret de_bl (by rw [h2]))) (fun z => by cases z))
  cases x with
  | tuple ds =>
    by_cases hln : 2 ≤ ds.length ∧ ds.length ≤ l
    · refine dss_no (k := false) (DT.is (DW.dt (dw_or (k := false) (DT.is (dt_not (dt_val (de_isa isaR_tuple hb.isinstance hb.tuple (by decide +kernel) (de_var 2)))) (by rw [e0]; rfl)) (fun _ => dw_or1 (dt_not (dt_lele (i := 2) (j := (ds.length : Int)) (k := (l : Int)) de_int (de_len (ds := ds) hb.len (de_var 2) rfl) (de_var 1)))))) (by simp; omega)) rfl ?_
      refine dss_one (ds_ret (DE.is (de_and (k := ds.all (isRn n)) (k' := decide (intsOf ds).Nodup) (DE.is (de_all (bs := ds.map (isRn n)) rfl hb.all (DE.is (DN.de (dn_lc1 (xs := ds) (rep := id) (g := fun x => .bool (isRn n x)) [("part", 3)] [3] rfl sc_are_runners.nd (blkOk_by rfl) (DI.is (di_tup (de_var 2)) (by rw [List.map_id])) (fun x hx => ⟨_, ⟨fun _ _ _ _ _ => dg_name 3 sc_are_runners.nd, fun _ _ _ _ _ => dts_nil, fun _ _ _ _ _ _ => dc D_is_runner (ok_is_runner hb D_is_runner ) hr (by decide) (da_2 (de_var 0) (de_var 3)) ⟨n, x, rfl, lo_parts e0 x hx, rfl⟩⟩⟩))) (by rw [List.map_map]; rfl))) (by rw [List.all_map]; rfl)) (fun hk => de_one ?_)) ?_) rfl)
      · have e1 := intsOf_map hk
        have hil : (intsOf ds).length = ds.length := by
          have := congrArg List.length e1
          rw [List.length_map] at this
          exact this.symm
        refine DE.is (de_eqN hr.units (i := (risen (intsOf ds)).length) (j := ds.length) (DE.is (de_lenSet (ns := intsOf ds) hb.len (dst_set rfl hb.set (de_var 2) (by show seqOf (.tuple ds) = _; rw [← e1]; rfl) (by omega))) rfl) (DE.is (de_len (ds := ds) hb.len (de_var 2) rfl) rfl)) ?_
        congr 1
        apply decide_eq_decide.mpr
        rw [← hil]
        exact risen_len_iff
      · rw [show areRn n l (.tuple ds) = (decide (2 ≤ ds.length ∧ ds.length ≤ l) && (ds.all (isRn n) && decide (intsOf ds).Nodup)) from rfl, decide_eq_true hln]
        rfl
    · refine dss_leave (ds_if (k := true) (DT.is (DW.dt (dw_or (k := false) (DT.is (dt_not (dt_val (de_isa isaR_tuple hb.isinstance hb.tuple (by decide +kernel) (de_var 2)))) (by rw [e0]; rfl)) (fun _ => dw_or1 (dt_not (dt_lele (i := 2) (j := (ds.length : Int)) (k := (l : Int)) de_int (de_len (ds := ds) hb.len (de_var 2) rfl) (de_var 1)))))) (by simp; omega)) (fun _ => dss_one (ds_ret de_bl ?_)) (fun z => by cases z))
      show PyData.bool false = PyData.bool (areRn n l (.tuple ds))
      rw [show areRn n l (.tuple ds) = (decide (2 ≤ ds.length ∧ ds.length ≤ l) && (ds.all (isRn n) && decide (intsOf ds).Nodup)) from rfl, decide_eq_false hln]
      rfl
  | int _ => exact other rfl rfl
  | bool _ => exact other rfl rfl
  | none => exact other rfl rfl
  | str _ => exact other rfl rfl
  | list _ => exact other rfl rfl
  | dict _ => exact other rfl rfl
def areRs (n : Nat) : PyData → Bool
  | .tuple ds => decide (ds.length ≤ 8) && ds.all (areRn n 4)
  | _ => false
def R_are_results : Rho → PyData → Prop := fun as d => ∃ (n : Nat) (x : PyData), as = [.val (nI n), .val x] ∧ Dl.lo x = x ∧ d = .bool (areRs n x)
theorem ok_are_results (hb : Blt mg) (C_MOST_RESULTS : ∃ t, mg "MOST_RESULTS" = some (.int 8 t)) (C_MOST_LANES : ∃ t, mg "MOST_LANES" = some (.int 4 t)) (D_are_results : Dfn K mg "are_results" s_are_results ["many", "thing"]) (D_are_runners : Dfn K mg "are_runners" s_are_runners ["many", "most", "thing"]) (D_is_runner : Dfn K mg "is_runner" s_is_runner ["many", "thing"]) : D_are_results.Ok P w base 3 R_are_results := by
  refine okD D_are_results.F sc_are_results (by rintro _ _ ⟨_, _, rfl, _, rfl⟩; rfl) (by decide) (fun cdv A outer s H E hr as d hR => ?_)
  obtain ⟨n, x, rfl, e0, rfl⟩ := hR
  have other : PyData.isTuple x = false → areRs n x = false → DSs (cx0 P w K mg base ["many", "thing", "part"] "are_results" (defScope s_are_results) D_are_results.f cdv A outer s H E) E0 [.val (nI n), .val x, .un] (defBody s_are_results) { nx := fun _ => PyData.bool (areRs n x) = .none, rt := fun z => z = .bool (areRs n x) } := fun h1 h2 => by
    refine dss_leave (ds_if (k := true) (DT.is (DW.dt (dw_or (k := true) (k' := true) (DT.is (dt_not (dt_val (de_isa isaR_tuple hb.isinstance hb.tuple (by decide +kernel) (de_var 1)))) (by rw [e0, h1]; rfl)) (fun z => by cases z))) rfl) (fun _ => dss_one (ds_ret de_bl (by rw [h2]))) (fun z => by cases z))
  cases x with
  | tuple ds =>
    by_cases hln : ds.length ≤ 8
    · refine dss_no (k := false) (DT.is (DW.dt (dw_or (k := false) (DT.is (dt_not (dt_val (de_isa isaR_tuple hb.isinstance hb.tuple (by decide +kernel) (de_var 1)))) (by rw [e0]; rfl)) (fun _ => dw_or1 (dt_gtN (i := ds.length) (j := 8) (de_len (ds := ds) hb.len (de_var 1) rfl) (de_gint C_MOST_RESULTS))))) (by simp; omega)) rfl ?_
      refine dss_one (ds_ret (DE.is (de_all (bs := ds.map (areRn n 4)) rfl hb.all (DE.is (DN.de (dn_lc1 (xs := ds) (rep := id) (g := fun x => .bool (areRn n 4 x)) [("part", 2)] [2] rfl sc_are_results.nd (blkOk_by rfl) (DI.is (di_tup (de_var 1)) (by rw [List.map_id])) (fun x hx => ⟨_, ⟨fun _ _ _ _ _ => dg_name 2 sc_are_results.nd, fun _ _ _ _ _ => dts_nil, fun _ _ _ _ _ _ => dc D_are_runners (ok_are_runners hb D_are_runners D_is_runner ) hr (by decide) (da_3 (de_var 0) (de_gint C_MOST_LANES) (de_var 2)) ⟨n, 4, x, rfl, by decide, lo_parts e0 x hx, rfl⟩⟩⟩))) (by rw [List.map_map]; rfl))) ?_) rfl)
      rw [show areRs n (.tuple ds) = (decide (ds.length ≤ 8) && ds.all (areRn n 4)) from rfl, List.all_map, decide_eq_true hln]
      rfl
    · refine dss_leave (ds_if (k := true) (DT.is (DW.dt (dw_or (k := false) (DT.is (dt_not (dt_val (de_isa isaR_tuple hb.isinstance hb.tuple (by decide +kernel) (de_var 1)))) (by rw [e0]; rfl)) (fun _ => dw_or1 (dt_gtN (i := ds.length) (j := 8) (de_len (ds := ds) hb.len (de_var 1) rfl) (de_gint C_MOST_RESULTS))))) (by simp; omega)) (fun _ => dss_one (ds_ret de_bl ?_)) (fun z => by cases z))
      show PyData.bool false = PyData.bool (areRs n (.tuple ds))
      rw [show areRs n (.tuple ds) = (decide (ds.length ≤ 8) && ds.all (areRn n 4)) from rfl, decide_eq_false hln]
      rfl
  | int _ => exact other rfl rfl
  | bool _ => exact other rfl rfl
  | none => exact other rfl rfl
  | str _ => exact other rfl rfl
  | list _ => exact other rfl rfl
  | dict _ => exact other rfl rfl
/-- rising -/
def risD : PyData → Bool
  | .tuple ds => decide ((intsOf ds).Pairwise (· ≤ ·))
  | _ => false
def R_is_heat : Rho → PyData → Prop := fun as d => ∃ (n l : Nat) (x : PyData), as = [.val (nI n), .val (nI l), .val x] ∧ l ≤ 1000 ∧ Dl.lo x = x ∧ d = .bool (areRn n l x && risD x)
theorem sort_eq_iff (ns : List Nat) : decide (ns = isort ns) = risD (nT ns) := by
  show _ = decide (((intsOf (ns.map nI)).Pairwise (· ≤ ·)))
  apply decide_eq_decide.mpr
  rw [intsOf_nI, List.pairwise_map]
  refine ⟨fun h => ?_, fun h => (isort_self (h.imp fun q => ?_)).symm⟩
  · rw [h]; exact (isort_pw ns).imp fun q => Int.ofNat_le.mpr q
  · exact Int.ofNat_le.mp q
theorem ok_is_heat (hb : Blt mg) (D_is_heat : Dfn K mg "is_heat" s_is_heat ["many", "lanes", "thing"]) (D_are_runners : Dfn K mg "are_runners" s_are_runners ["many", "most", "thing"]) (D_is_runner : Dfn K mg "is_runner" s_is_runner ["many", "thing"]) : D_is_heat.Ok P w base 3 R_is_heat := by
  refine okD D_is_heat.F sc_is_heat (by rintro _ _ ⟨_, _, _, rfl, _, _, rfl⟩; rfl) (by decide) (fun cdv A outer s H E hr as d hR => ?_)
  obtain ⟨n, l, x, rfl, hl, e0, rfl⟩ := hR
  refine dss_one (ds_ret (de_and (dc D_are_runners (ok_are_runners hb D_are_runners D_is_runner ) hr (by decide) (da_3 (de_var 0) (de_var 1) (de_var 2)) ⟨n, l, x, rfl, hl, e0, rfl⟩) (fun hk => ?_)) rfl)
  obtain ⟨ns, rfl, _, _, _, _⟩ := areRn_nat hk
  exact de_one (DE.is (de_eqP hr.units (minl (Nat.le_trans (dep_nL ns) (by omega))) (d1 := nL ns) (d2 := nL (isort ns)) (DN.de (dn_list hb.list (de_var 2) rfl)) (DN.de (dn_sortN (ns := ns) hr.units hb.sorted (de_var 2) rfl))) (by rw [eqRep_nL, sort_eq_iff]))
end
end Wk

namespace Wk
open PySem L2 PySem.W PyProof.Rows Dl Lw
section
variable {P : Program} {w : World} {K : PySem.W.Frag} {mg : Str → Option Value} {base : Heap}
/-! runners and results, by the law -/
theorem ok_u_law_are (hb : Blt mg) (D_u_law_are : Dfn K mg "_law_are" s_u_law_are ["many", "most", "thing"]) : D_u_law_are.Ok P w base 1 R_are_runners := by
  refine okD D_u_law_are.F sc_u_law_are (by rintro _ _ ⟨_, _, _, rfl, _, _, rfl⟩; rfl) (by decide) (fun cdv A outer s H E hr as d hR => ?_)
  obtain ⟨n, l, x, rfl, hl, e0, rfl⟩ := hR
  have other : PyData.isTuple x = false → areRn n l x = false → DSs (cx0 P w K mg base ["many", "most", "thing", "part"] "_law_are" (defScope s_u_law_are) D_u_law_are.f cdv A outer s H E) E0 [.val (nI n), .val (nI l), .val x, .un] (defBody s_u_law_are) { nx := fun _ => PyData.bool (areRn n l x) = .none, rt := fun z => z = .bool (areRn n l x) } := fun h1 h2 => by
    refine dss_leave (ds_if (k := true) (DT.is (DW.dt (dw_or (k := true) (k' := true) (DT.is (dt_not (dt_val (de_isa isaR_tuple hb.isinstance hb.tuple (by decide +kernel) (de_var 2)))) (by rw [e0, h1]; rfl)) (fun z => by cases z))) rfl) (fun _ => dss_one (ds_ret de_bl (by rw [h2]))) (fun z => by cases z))
  cases x with
  | tuple ds =>
    by_cases hln : 2 ≤ ds.length ∧ ds.length ≤ l
    · refine dss_no (k := false) (DT.is (DW.dt (dw_or (k := false) (DT.is (dt_not (dt_val (de_isa isaR_tuple hb.isinstance hb.tuple (by decide +kernel) (de_var 2)))) (by rw [e0]; rfl)) (fun _ => dw_or1 (dt_not (dt_lele (i := 2) (j := (ds.length : Int)) (k := (l : Int)) de_int (de_len (ds := ds) hb.len (de_var 2) rfl) (de_var 1)))))) (by simp; omega)) rfl ?_
      have eA : areRn n l (.tuple ds) = (ds.all (isRn n) && decide (intsOf ds).Nodup) := by
        show (decide (2 ≤ ds.length ∧ ds.length ≤ l) && (ds.all (isRn n) && decide (intsOf ds).Nodup)) = _
        rw [decide_eq_true hln, Bool.true_and]
      refine dss_seq (M := fun z => z = [.val (nI n), .val (nI l), .val (.tuple ds), .un] ∧ ds.all (isRn n) = true) (ds_forS (fun _ => [.val (nI n), .val (nI l), .val (.tuple ds), .un]) (fun i => (ds.take i).all (isRn n) = true) PassesOwn.never rfl (by repeat (first | exact Forg.nil | apply Forg.cons0 | apply Forg.cons1)) (di_tup (de_var 2)) rfl (fun i d hd g => ?_) (fun g => ⟨rfl, by rw [List.take_length] at g; exact g⟩)) ?_
      · have hm := List.mem_of_getElem? hd
        have ed : Dl.lo d = d := lo_parts e0 d hm
        refine ⟨_, _, (dg_name 3 sc_u_law_are.nd), ?_⟩
        refine dss_one (ds_if (k := !isRn n d) ?_ (fun hk => ?_) (fun hk => ?_))
        · cases d with
          | int i => exact DT.is (DW.dt (dw_or (k := false) (DT.is (dt_not (dt_val (de_isa isaR_int hb.isinstance hb.int (by decide +kernel) (de_var 3)))) (by rw [ed]; rfl)) (fun _ => dw_or (k := false) (DT.is (dt_val (de_isa isaR_bool hb.isinstance hb.bool (by decide +kernel) (de_var 3))) (by rw [ed]; rfl)) (fun _ => dw_or1 (dt_not (dt_lelt (i := 0) (j := i) (k := (n : Int)) de_int (de_var 3) (de_var 0))))))) rfl
          | bool b => exact DT.is (DW.dt (dw_or (k := false) (k' := true) (DT.is (dt_not (dt_val (de_isa isaR_int hb.isinstance hb.int (by decide +kernel) (de_var 3)))) (by rw [ed]; rfl)) (fun _ => dw_or (k := true) (k' := true) (DT.is (dt_val (de_isa isaR_bool hb.isinstance hb.bool (by decide +kernel) (de_var 3))) (by rw [ed]; rfl)) (fun z => by cases z)))) rfl
          | none => exact DT.is (DW.dt (dw_or (k := true) (k' := true) (DT.is (dt_not (dt_val (de_isa isaR_int hb.isinstance hb.int (by decide +kernel) (de_var 3)))) (by rw [ed]; rfl)) (fun z => by cases z))) rfl
          | str _ => exact DT.is (DW.dt (dw_or (k := true) (k' := true) (DT.is (dt_not (dt_val (de_isa isaR_int hb.isinstance hb.int (by decide +kernel) (de_var 3)))) (by rw [ed]; rfl)) (fun z => by cases z))) rfl
          | list _ => exact DT.is (DW.dt (dw_or (k := true) (k' := true) (DT.is (dt_not (dt_val (de_isa isaR_int hb.isinstance hb.int (by decide +kernel) (de_var 3)))) (by rw [ed]; rfl)) (fun z => by cases z))) rfl
          | tuple _ => exact DT.is (DW.dt (dw_or (k := true) (k' := true) (DT.is (dt_not (dt_val (de_isa isaR_int hb.isinstance hb.int (by decide +kernel) (de_var 3)))) (by rw [ed]; rfl)) (fun z => by cases z))) rfl
          | dict _ => exact DT.is (DW.dt (dw_or (k := true) (k' := true) (DT.is (dt_not (dt_val (de_isa isaR_int hb.isinstance hb.int (by decide +kernel) (de_var 3)))) (by rw [ed]; rfl)) (fun z => by cases z))) rfl
        · have hf : isRn n d = false := by cases z : isRn n d with | false => rfl | true => rw [z] at hk; cases hk
          have ha : ds.all (isRn n) = false := by
            cases z : ds.all (isRn n) with
            | false => rfl
            | true => rw [List.all_eq_true.mp z d hm] at hf; cases hf
          exact dss_one (ds_ret de_bl (by rw [eA, ha]; rfl))
        · have ht : isRn n d = true := by cases z : isRn n d with | true => rfl | false => rw [z] at hk; cases hk
          exact dss_nil ⟨(by repeat (first | exact Forg.nil | apply Forg.cons0 | apply Forg.cons1)), by rw [take_snoc hd, List.all_append, g, List.all_cons, ht]; rfl⟩
      · rintro _ ⟨rfl, hk⟩
        have e1 := intsOf_map hk
        have hil : (intsOf ds).length = ds.length := by
          have := congrArg List.length e1
          rw [List.length_map] at this
          exact this.symm
        refine dss_one (ds_ret (DE.is (de_eqN hr.units (i := (risen (intsOf ds)).length) (j := ds.length) (DE.is (de_lenSet (ns := intsOf ds) hb.len (dst_set rfl hb.set (de_var 2) (by show seqOf (.tuple ds) = _; rw [← e1]; rfl) (by omega))) rfl) (DE.is (de_len (ds := ds) hb.len (de_var 2) rfl) rfl)) ?_) rfl)
        rw [eA, hk, Bool.true_and]
        congr 1
        apply decide_eq_decide.mpr
        rw [← hil]
        exact risen_len_iff
    · refine dss_leave (ds_if (k := true) (DT.is (DW.dt (dw_or (k := false) (DT.is (dt_not (dt_val (de_isa isaR_tuple hb.isinstance hb.tuple (by decide +kernel) (de_var 2)))) (by rw [e0]; rfl)) (fun _ => dw_or1 (dt_not (dt_lele (i := 2) (j := (ds.length : Int)) (k := (l : Int)) de_int (de_len (ds := ds) hb.len (de_var 2) rfl) (de_var 1)))))) (by simp; omega)) (fun _ => dss_one (ds_ret de_bl ?_)) (fun z => by cases z))
      show PyData.bool false = PyData.bool (areRn n l (.tuple ds))
      rw [show areRn n l (.tuple ds) = (decide (2 ≤ ds.length ∧ ds.length ≤ l) && (ds.all (isRn n) && decide (intsOf ds).Nodup)) from rfl, decide_eq_false hln]
      rfl
  | int _ => exact other rfl rfl
  | bool _ => exact other rfl rfl
  | none => exact other rfl rfl
  | str _ => exact other rfl rfl
  | list _ => exact other rfl rfl
  | dict _ => exact other rfl rfl
theorem eqL_nilL (xs : List PyData) : eqL (.list xs) (.list []) = xs.isEmpty := by
  unfold eqL
  rw [lo_list, lo_list]
  cases xs with
  | nil => simp [PyData.eqv, PyData.eqvAll]
  | cons x xs => simp [PyData.eqv, PyData.eqvAll]
theorem ok_u_law_are_results (hb : Blt mg) (D_u_law_are_results : Dfn K mg "_law_are_results" s_u_law_are_results ["many", "thing"]) (D_u_law_are : Dfn K mg "_law_are" s_u_law_are ["many", "most", "thing"]) : D_u_law_are_results.Ok P w base 2 R_are_results := by
  refine okD D_u_law_are_results.F sc_u_law_are_results (by rintro _ _ ⟨_, _, rfl, _, rfl⟩; rfl) (by decide) (fun cdv A outer s H E hr as d hR => ?_)
  obtain ⟨n, x, rfl, e0, rfl⟩ := hR
  have other : PyData.isTuple x = false → areRs n x = false → DSs (cx0 P w K mg base ["many", "thing", "part"] "_law_are_results" (defScope s_u_law_are_results) D_u_law_are_results.f cdv A outer s H E) E0 [.val (nI n), .val x, .un] (defBody s_u_law_are_results) { nx := fun _ => PyData.bool (areRs n x) = .none, rt := fun z => z = .bool (areRs n x) } := fun h1 h2 => by
    refine dss_leave (ds_if (k := true) (DT.is (DW.dt (dw_or (k := true) (k' := true) (DT.is (dt_not (dt_val (de_isa isaR_tuple hb.isinstance hb.tuple (by decide +kernel) (de_var 1)))) (by rw [e0, h1]; rfl)) (fun z => by cases z))) rfl) (fun _ => dss_one (ds_ret de_bl (by rw [h2]))) (fun z => by cases z))
  cases x with
  | tuple ds =>
    by_cases hln : ds.length ≤ 8
    · refine dss_no (k := false) (DT.is (DW.dt (dw_or (k := false) (DT.is (dt_not (dt_val (de_isa isaR_tuple hb.isinstance hb.tuple (by decide +kernel) (de_var 1)))) (by rw [e0]; rfl)) (fun _ => dw_or1 (dt_gtN (i := ds.length) (j := 8) (de_len (ds := ds) hb.len (de_var 1) rfl) de_int)))) (by simp; omega)) rfl ?_
      refine dss_one (ds_ret (DE.is (de_eqP (d2 := .list []) hr.units (minr (Nat.le_trans (dep_lst (n := 0) dep_nil) (by omega))) (DN.de (dn_lc (xs := ds) (rep := id) (q := fun x => !areRn n 4 x) (g := id) [("part", 2)] [2] rfl sc_u_law_are_results.nd (blkOk_by rfl) (DI.is (di_tup (de_var 1)) (by rw [List.map_id])) (fun x hx => ⟨_, ⟨fun _ _ _ _ _ => dg_name 2 sc_u_law_are_results.nd, fun _ _ _ _ _ => dts_one (dt_not (dt_val (dc D_u_law_are (ok_u_law_are hb D_u_law_are ) hr (by decide) (da_3 (de_var 0) de_int (de_var 2)) ⟨n, 4, x, rfl, by decide, lo_parts e0 x hx, rfl⟩))), fun _ _ _ _ _ qx => (de_var 2)⟩⟩))) (DN.de (dn_lst (ds := []) da_nil (Nat.zero_le _)))) ?_) rfl)
      rw [eqL_nilL, List.map_id]
      show PyData.bool _ = PyData.bool (decide (ds.length ≤ 8) && ds.all (areRn n 4))
      rw [decide_eq_true hln, Bool.true_and]
      congr 1
      rw [Bool.eq_iff_iff, List.isEmpty_iff, List.filter_eq_nil_iff, List.all_eq_true]
      exact ⟨fun h x hx => by have := h x hx; cases z : areRn n 4 x with | true => rfl | false => rw [z] at this; exact absurd rfl this, fun h x hx => by rw [h x hx]; decide⟩
    · refine dss_leave (ds_if (k := true) (DT.is (DW.dt (dw_or (k := false) (DT.is (dt_not (dt_val (de_isa isaR_tuple hb.isinstance hb.tuple (by decide +kernel) (de_var 1)))) (by rw [e0]; rfl)) (fun _ => dw_or1 (dt_gtN (i := ds.length) (j := 8) (de_len (ds := ds) hb.len (de_var 1) rfl) de_int)))) (by simp; omega)) (fun _ => dss_one (ds_ret de_bl ?_)) (fun z => by cases z))
      show PyData.bool false = PyData.bool (areRs n (.tuple ds))
      rw [show areRs n (.tuple ds) = (decide (ds.length ≤ 8) && ds.all (areRn n 4)) from rfl, decide_eq_false hln]
      rfl
  | int _ => exact other rfl rfl
  | bool _ => exact other rfl rfl
  | none => exact other rfl rfl
  | str _ => exact other rfl rfl
  | list _ => exact other rfl rfl
  | dict _ => exact other rfl rfl
/-- a drawn heat or result is such -/
theorem res_ok {m l : Nat} {o : List Nat} {x : Int} (ho : o.Perm (List.range m)) (h2 : 2 ≤ m) (hl : 2 ≤ l) : (lawRes o x l).Nodup ∧ (∀ y ∈ lawRes o x l, y < m) ∧ 2 ≤ (lawRes o x l).length ∧ (lawRes o x l).length ≤ l := by
  have := resSize_bounds (n := m) (nu := x) (lanes := l) hl h2
  rw [lawRes_len ho]
  exact ⟨(ho.nodup_iff.mpr List.nodup_range).sublist (lawRes_sub _ _ _), fun y hy => List.mem_range.mp (ho.mem_iff.mp ((lawRes_sub _ _ _).subset hy)), this.1, this.2.1⟩
theorem ress_ok {m most : Nat} {nu : Int} (h2 : 2 ≤ m) (h8 : most ≤ 8) : areRs m (.tuple ((lawResults m nu most 4).map nT)) = true := by
  show (decide (((lawResults m nu most 4).map nT).length ≤ 8) && ((lawResults m nu most 4).map nT).all (areRn m 4)) = true
  rw [List.length_map, decide_eq_true (Nat.le_trans (lawResults_len _ _ _ _) h8), List.all_map]
  refine List.all_eq_true.mpr fun r hr => ?_
  obtain ⟨o, x, ho, rfl⟩ := lawResults_mem hr
  have := res_ok (x := x) ho h2 (l := 4) (by decide)
  exact areRn_ok this.1 this.2.1 this.2.2.1 this.2.2.2
theorem heat_ok {m l : Nat} {o : List Nat} {x : Int} (ho : o.Perm (List.range m)) (h2 : 2 ≤ m) (hl : 2 ≤ l) : areRn m l (nT (isort (lawRes o x l))) = true ∧ risD (nT (isort (lawRes o x l))) = true := by
  have := res_ok (x := x) ho h2 hl
  have p := isort_perm (lawRes o x l)
  refine ⟨areRn_ok (p.nodup_iff.mpr this.1) (fun y hy => this.2.1 y (p.mem_iff.mp hy)) (by rw [p.length_eq]; exact this.2.2.1) (by rw [p.length_eq]; exact this.2.2.2), ?_⟩
  rw [← sort_eq_iff, decide_eq_true (isort_self (isort_pw _)).symm]
end
end Wk

namespace Wk
open PySem L2 PySem.W PyProof.Rows Dl Lw Sp
section
variable {P : Program} {w : World} {K : PySem.W.Frag} {mg : Str → Option Value} {base : Heap}
theorem DW.is {X : Cx} {r : Rho} {e : Expr} {b b' : Bool} (h : DW X r e b) (q : b = b') : DW X r e b' := q ▸ h
theorem code_ref {name : Str} {st : Stmt} {ps : List Str} (D : Dfn K mg name st ps) : ∃ c, D.fd.code = .ref c := by
  obtain ⟨oc, od, kV, doc, pm, an, cdv, ct, osl, e, lk, hcd⟩ := D.F.ex
  obtain ⟨c, rfl⟩ := He.codeIn_ref hcd
  exact ⟨c, by rw [e]⟩
theorem getD_at {α : Type} {xs : List α} {i : Nat} {x y : α} (h : xs[i]? = some x) : xs.getD i y = x := by rw [List.getD_eq_getElem?_getD, h]; rfl
def R_places (n : Nat) : Rho → PyData → Prop := fun as d => ∃ (x : PyData) (way : List Nat), as = [.val x, .val (nT way)] ∧ Of.Sh n x ∧ n ≤ 2 ∧ way.length + n ≤ 2 ∧ d = .list ((Of.ways n x).map fun w => nT (way ++ w))
set_option maxHeartbeats 1000000 in
theorem ok_u_law_places_in (hb : Blt mg) (D_u_law_places_in : Dfn K mg "_law_places_in" s_u_law_places_in ["bent_one", "bent_way"]) : ∀ n, D_u_law_places_in.Ok P w base (n + 1) (R_places n) := by
  intro n
  induction n with
  | zero =>
    refine okD D_u_law_places_in.F sc_u_law_places_in (by rintro _ _ ⟨_, _, rfl, _⟩; rfl) (by decide) (fun cdv A outer s H E hr as d hR => ?_)
    obtain ⟨x, way, rfl, ⟨i, rfl, hi⟩, _, _, rfl⟩ := hR
    refine dss_cons (ds_set 2 sc_u_law_places_in.nd (d := .list [nT way]) (DN.de (dn_lst (ds := [nT way]) (da_1 (de_var 1)) (sz 1))) rfl) ?_
    refine dss_no (k := false) (DT.is (dt_val (de_isa isaR_tuple hb.isinstance hb.tuple (by decide +kernel) (de_var 0))) (by rw [lo_nI]; rfl)) rfl ?_
    refine dss_one (ds_ret (de_var 2) ?_)
    show PyData.list [nT way] = .list [nT (way ++ [])]
    rw [List.append_nil]
  | succ n ih =>
    refine okD D_u_law_places_in.F sc_u_law_places_in (by rintro _ _ ⟨_, _, rfl, _⟩; rfl) (by decide) (fun cdv A outer s H E hr as d hR => ?_)
    obtain ⟨x, way, rfl, hS, hn, hw, rfl⟩ := hR
    have hlo := Of.sh_loo hS
    have h81 := Of.ways_81 hS hn
    obtain ⟨ds, rfl, hdl, hds⟩ := hS
    have hlo : Dl.lo (.tuple ds) = .tuple ds := hlo
    obtain ⟨W, eW⟩ : ∃ W : Nat → List PyData, W = fun i => ((([] : List Nat) :: (List.range i).flatMap fun j => (Of.ways n (ds.getD j .none)).map (j :: ·)).map fun w => nT (way ++ w)) := ⟨_, rfl⟩
    have W0 : W 0 = [nT way] := by rw [eW]; show [nT (way ++ [])] = _; rw [List.append_nil]
    have WS : ∀ i, W (i + 1) = W i ++ (Of.ways n (ds.getD i .none)).map fun w => nT ((way ++ [i]) ++ w) := fun i => by
      rw [eW]
      show List.map _ (_ :: _) = List.map _ (_ :: _) ++ _
      rw [List.range_succ, List.flatMap_append, ← List.cons_append, List.map_append]
      congr 1
      rw [List.flatMap_cons, List.flatMap_nil, List.append_nil, List.map_map]
      refine List.map_congr_left fun w _ => ?_
      show nT (way ++ i :: w) = _
      rw [List.append_assoc]
      rfl
    have WL : ∀ i, i ≤ ds.length → (W i).length ≤ 81 := fun i hi => by
      refine Nat.le_trans ?_ h81
      rw [eW]
      show (List.map _ (_ :: _)).length ≤ _
      rw [List.length_map, Of.ways, List.length_cons, List.length_cons]
      refine Nat.succ_le_succ ?_
      obtain ⟨t, e⟩ : ∃ t, List.range ds.length = List.range i ++ t := ⟨(List.range ds.length).drop i, by rw [show List.range i = (List.range ds.length).take i by rw [List.take_range]; congr 1; omega, List.take_append_drop]⟩
      rw [e, List.flatMap_append, List.length_append]
      omega
    refine dss_cons (ds_set 2 sc_u_law_places_in.nd (d := .list (W 0)) (DE.is (DN.de (dn_lst (ds := [nT way]) (da_1 (de_var 1)) (sz 1))) (by rw [W0])) rfl) ?_
    refine dss_st [.val (.tuple ds), .val (nT way), .val (.list (W ds.length)), .un, .un] (ds_if (k := true) (DT.is (dt_val (de_isa isaR_tuple hb.isinstance hb.tuple (by decide +kernel) (de_var 0))) (by rw [hlo]; rfl)) (fun _ => ?_) (fun z => by cases z)) ?_
    · refine dss_one (ds_forT (fun i => [.val (.tuple ds), .val (nT way), .val (.list (W i)), .un, .un]) PassesOwn.never rfl (by repeat (first | exact Forg.nil | apply Forg.cons0 | apply Forg.cons1)) (di_enum .t hb.enumerate (ds := ds) (de_var 0) (by omega)) (fun i d hd => ?_) (by
        show Forg _ _
        rw [show (enumD ds).length = ds.length by unfold enumD; rw [List.length_map, List.length_range]]
        exact (by repeat (first | exact Forg.nil | apply Forg.cons0 | apply Forg.cons1))))
      unfold enumD at hd
      obtain ⟨i', hi', rfl⟩ := map_at hd
      have hil : i < ds.length := by
        have := (List.getElem?_eq_some_iff.mp hi').1
        rw [List.length_range] at this
        exact this
      rw [List.getElem?_range hil] at hi'
      cases hi'
      refine ⟨_, _, (dg_tup rfl (dgs_cons (dg_name 3 sc_u_law_places_in.nd) (dgs_cons (dg_name 4 sc_u_law_places_in.nd) dgs_nil))), ?_⟩
      have hl1 := WL i (by omega)
      have hl2 := WL (i + 1) (by omega)
      rw [WS, List.length_append] at hl2
      refine dss_one (ds_set 2 sc_u_law_places_in.nd (d := .list (W (i + 1))) (DE.is (DN.de (dn_cat (ds := W i) (es := (Of.ways n (ds.getD i .none)).map fun w => nT ((way ++ [i]) ++ w)) (size_ok (by omega)) (de_var 2) (dc D_u_law_places_in ih hr (by omega) (da_2 (de_var 4) (DE.is (d := nT (way ++ [i])) (de_catT (ds := way.map nI) (es := [nI i]) (by rw [List.length_map]; exact size_ok (by show way.length + 1 ≤ _; omega)) (de_var 1) (de_tup (ds := [nI i]) (da_1 (de_var 3)) (sz 1))) (by unfold nT; rw [List.map_append]; rfl))) ⟨_, _, rfl, Of.sh_get hds hil, by omega, by rw [List.length_append]; show way.length + 1 + n ≤ 2; omega, rfl⟩))) (by rw [WS])) (by repeat (first | exact Forg.nil | apply Forg.cons0 | apply Forg.cons1)))
    · refine dss_one (ds_ret (de_var 2) ?_)
      rw [eW, Of.ways]
def R_other : Rho → PyData → Prop := fun as d => ∃ (k : Nat) (x : PyData) (nu : Int), as = [.val x, .val (.int nu)] ∧ Of.Sh k x ∧ d = Of.other nu x
set_option maxHeartbeats 1000000 in
theorem ok_u_law_otherwise (hb : Blt mg) (D_u_law_otherwise : Dfn K mg "_law_otherwise" s_u_law_otherwise ["bent_one", "bent_number"]) : D_u_law_otherwise.Ok P w base 1 R_other := by
  refine okD D_u_law_otherwise.F sc_u_law_otherwise (by rintro _ _ ⟨_, _, _, rfl, _, _⟩; rfl) (by decide) (fun cdv A outer s H E hr as d hR => ?_)
  obtain ⟨k, x, nu, rfl, hS, rfl⟩ := hR
  have hlo := Of.sh_loo hS
  have h0 : 0 ≤ nu % 5 := Int.emod_nonneg nu (by decide)
  have h5 : nu % 5 < 5 := Int.emod_lt_of_pos nu (by decide)
  cases k with
  | zero =>
    obtain ⟨i, rfl, hi⟩ := hS
    have hnl : ((i : Nat) : Int).natAbs.log2 < 1920 := by
      rw [Int.natAbs_natCast]
      by_cases z : i = 0
      · subst z; decide
      · have := (Nat.log2_lt z).mpr (show i < 2 ^ 17 by omega)
        omega
    refine dss_no (k := false) (DT.is (dt_val (de_isa isaR_tuple hb.isinstance hb.tuple (by decide +kernel) (de_var 0))) (by rw [lo_nI]; rfl)) rfl ?_
    refine dss_no (k := false) (DT.is (dt_val (de_isa isaR_bool hb.isinstance hb.bool (by decide +kernel) (de_var 0))) (by rw [lo_nI]; rfl)) rfl ?_
    refine dss_leave (ds_if (k := true) (DT.is (dt_val (de_isa isaR_int hb.isinstance hb.int (by decide +kernel) (de_var 0))) (by rw [lo_nI]; rfl)) (fun _ => ?_) (fun z => by cases z))
    refine dss_cons (ds_set 2 sc_u_law_otherwise.nd (d := .list [.bool true, .none, .str (toString (i : Int)), .tuple [nI i]]) (DN.de (dn_lst (ds := [.bool true, .none, .str (toString (i : Int)), .tuple [nI i]]) (da_cons (DE.arg de_bl) (da_3 de_non (de_strI hnl hb.str (de_var 0)) (de_tup (ds := [nI i]) (da_1 (de_var 0)) (sz 1)))) (sz 4))) rfl) ?_
    exact dss_one (ds_ret (de_ixL (ds := Of.otherI (i : Int)) (DN.de (dn_cat (ds := [.bool true, .none, .str (toString (i : Int)), .tuple [nI i]]) (es := [.int (-1 - (i : Int))]) (sz 5) (de_var 2) (DN.de (dn_lst (ds := [.int (-1 - (i : Int))]) (da_1 (de_sub de_neg1 (de_var 0))) (sz 1))))) (de_mod (by decide) (de_var 1) de_int) (atI_of h0 (getD_some (d := .none) (by show _ < 5; omega)))) rfl)
  | succ k =>
    obtain ⟨ds, rfl, hdl, hds⟩ := hS
    have hlo : Dl.lo (.tuple ds) = .tuple ds := hlo
    have hcl : (Dl.cutD ds none (some 1)).length ≤ 8 := by
      unfold Dl.cutD
      rw [List.length_take, List.length_drop]
      omega
    refine dss_leave (ds_if (k := true) (DT.is (dt_val (de_isa isaR_tuple hb.isinstance hb.tuple (by decide +kernel) (de_var 0))) (by rw [hlo]; rfl)) (fun _ => ?_) (fun z => by cases z))
    refine dss_cons (ds_set 2 sc_u_law_otherwise.nd (d := .list [.list ds, .list ds, .tuple (ds ++ Dl.cutD ds none (some 1))]) (DN.de (dn_lst (ds := [.list ds, .list ds, .tuple (ds ++ Dl.cutD ds none (some 1))]) (da_3 (DN.de (dn_list hb.list (de_var 0) rfl)) (DN.de (dn_list hb.list (de_var 0) rfl)) (de_catT (size_ok (by omega)) (de_var 0) (de_slT (de_var 0) do_none (do_some (de_int (i := 1)))))) (sz 3))) rfl) ?_
    exact dss_one (ds_ret (de_ixL (ds := Of.otherT ds) (DN.de (dn_cat (ds := [.list ds, .list ds, .tuple (ds ++ Dl.cutD ds none (some 1))]) (es := [.tuple (Dl.cutD ds (some 1) none), .list [.tuple ds]]) (sz 5) (de_var 2) (DN.de (dn_lst (ds := [.tuple (Dl.cutD ds (some 1) none), .list [.tuple ds]]) (da_2 (de_slT (de_var 0) (do_some (de_int (i := 1))) do_none) (DN.de (dn_lst (ds := [.tuple ds]) (da_1 (de_var 0)) (sz 1)))) (sz 2))))) (de_mod (by decide) (de_var 1) de_int) (atI_of h0 (getD_some (d := .none) (by show _ < 5; omega)))) rfl)
def R_put (G : PyData → PyData) (n : Nat) : Rho → PyData → Prop := fun as d => ∃ (k : Nat) (x : PyData) (way : List Nat), as = [.val x, .val (nT way)] ∧ way.length = n ∧ n ≤ 2 ∧ Of.Sh k x ∧ Of.okWay way x ∧ d = Of.putAt G way x
set_option maxHeartbeats 1000000 in
theorem fo_u_law_put_at (hb : Blt mg) (D_u_law_put_at : Dfn K mg "_law_put_at" s_u_law_put_at ["bent_one", "bent_way", "bent_by"]) {l : Lmd} {f : Addr} {G : PyData → PyData} {kl : Nat} (lo : l.Ok) (hl : l.Does P w K mg base kl fun d d' => ∃ k, Of.Sh k d ∧ d' = G d) : ∀ n, FoOk P w K mg base (kl + n + 2) D_u_law_put_at.f l f (R_put G n) := by
  intro n
  induction n with
  | zero =>
    refine okFo D_u_law_put_at sc_u_law_put_at (by rintro _ _ ⟨_, _, _, rfl, _⟩; rfl) (by decide) (fun cdv A outer s H E hr kn as d hR => ?_)
    obtain ⟨k, x, way, rfl, hw, _, hS, hok, rfl⟩ := hR
    obtain rfl := List.length_eq_zero_iff.mp hw
    show DSs _ _ [.val x, .val (nT []), .obj f (codeOb l.c l.q), .un, .un] _ _
    refine dss_leave (ds_if (k := true) (DT.is (dt_eqP hr.units (minl (Nat.le_trans (dep_nT []) (by omega))) (de_var 1) (de_tup (ds := []) da_nil (Nat.zero_le _))) (by rw [show PyData.tuple [] = nT [] from rfl, eqL_nT]; rfl)) (fun _ => ?_) (fun z => by cases z))
    exact dss_one (ds_ret (de_callFo 2 lo kn hl hr (de_var 0) ⟨k, hS, rfl⟩) rfl)
  | succ n ih =>
    refine okFo D_u_law_put_at sc_u_law_put_at (by rintro _ _ ⟨_, _, _, rfl, _⟩; rfl) (by decide) (fun cdv A outer s H E hr kn as d hR => ?_)
    obtain ⟨k, x, way, rfl, hw, hn, hS, hok, rfl⟩ := hR
    cases way with
    | nil => cases hw
    | cons a way =>
      obtain ⟨ds, d0, rfl, hget, hok⟩ := hok
      cases k with
      | zero => obtain ⟨_, e, _⟩ := hS; cases e
      | succ k =>
        obtain ⟨ds', e, hdl, hds⟩ := hS
        cases e
        have hwl : way.length = n := by rw [List.length_cons] at hw; omega
        have hal : a < ds.length := (List.getElem?_eq_some_iff.mp hget).1
        show DSs _ _ [.val (.tuple ds), .val (nT (a :: way)), .obj f (codeOb l.c l.q), .un, .un] _ _
        refine dss_no (k := false) (DT.is (dt_eqP hr.units (minl (Nat.le_trans (dep_nT (a :: way)) (by omega))) (de_var 1) (de_tup (ds := []) da_nil (Nat.zero_le _))) (by rw [show PyData.tuple [] = nT [] from rfl, eqL_nT]; rfl)) rfl ?_
        refine dss_cons (ds_set 3 sc_u_law_put_at.nd (d := nI a) (de_ixT (ds := nI a :: way.map nI) (de_var 1) (de_int (i := 0)) (atI_of (i := 0) (by decide) rfl)) rfl) ?_
        refine dss_cons (ds_set 4 sc_u_law_put_at.nd (d := Of.putAt G way d0) (de_callFoR 2 D_u_law_put_at ih hr (by omega) kn (DE.arg (de_ixT (de_var 0) (de_var 3) (atI_nI hget))) (DE.arg (DE.is (d := nT way) (de_slT (ds := (a :: way).map nI) (de_var 1) (do_some (de_int (i := 1))) do_none) (by rw [show (1 : Int) = ((1 : Nat) : Int) from rfl, cutD_drop]; rfl))) ⟨k, d0, way, rfl, hwl, by omega, hds _ (List.mem_of_getElem? hget), hok, rfl⟩) rfl) ?_
        refine dss_one (ds_ret (DE.is (de_catT (ds := ds.take a ++ [Of.putAt G way d0]) (es := ds.drop (a + 1)) (by rw [List.length_append, List.length_take, List.length_drop, List.length_singleton]; exact size_ok (by omega)) (de_catT (ds := ds.take a) (es := [Of.putAt G way d0]) (by rw [List.length_take, List.length_singleton]; exact size_ok (by omega)) (DE.is (de_slT (de_var 0) do_none (do_some (de_var 3))) (by rw [cutD_take])) (de_tup (ds := [Of.putAt G way d0]) (da_1 (de_var 4)) (sz 1))) (DE.is (de_slT (de_var 0) (do_some (de_addN (j := 1) (de_var 3) de_int)) do_none) (by rw [cutD_drop]))) ?_) rfl)
        rw [Of.putAt, getD_at hget]
def R_spoilt : Rho → PyData → Prop := fun as d => ∃ (k : Nat) (x : PyData) (nu : Int) (dp : Nat), as = [.val x, .val (.int nu), .val (nI dp)] ∧ Of.Sh k x ∧ k ≤ 2 ∧ d = Of.spoilt k nu x
set_option maxHeartbeats 2000000 in
theorem ok_u_law_spoilt (hb : Blt mg) (D_u_law_spoilt : Dfn K mg "_law_spoilt" s_u_law_spoilt ["thing", "number", "deep"]) (D_u_law_places_in : Dfn K mg "_law_places_in" s_u_law_places_in ["bent_one", "bent_way"]) (D_u_law_put_at : Dfn K mg "_law_put_at" s_u_law_put_at ["bent_one", "bent_way", "bent_by"]) (D_u_law_otherwise : Dfn K mg "_law_otherwise" s_u_law_otherwise ["bent_one", "bent_number"]) {c2 P2 : Addr} {T : List (Addr × Str)} (hc : D_u_law_spoilt.fd.code = .ref c2) (TB : LamX.TabB base mg c2 P2) (hm : (P2, ("_law_spoilt.<locals>.<lambda>" : Str)) ∈ T) (hu : ∀ p ∈ T, p.1 = P2 → p.2 = ("_law_spoilt.<locals>.<lambda>" : Str)) : FnOk P w K mg base CX0 6 D_u_law_spoilt.f D_u_law_spoilt.fd ["thing", "number", "deep"] (spT K T R_spoilt) := by
  refine okT D_u_law_spoilt hc sc_u_law_spoilt (by rintro _ _ ⟨_, _, _, _, rfl, _⟩; rfl) (by rintro _ _ ⟨_, _, _, _, rfl, _⟩; exact ⟨_, _, rfl⟩) (by decide) (fun A outer s H E hr d1 as d hR => ?_)
  obtain ⟨k, x, nu, dp, eas, hS, hk, rfl⟩ := hR
  injection eas with e1 e2
  cases e1
  subst e2
  have h81 := Of.ways_81 hS hk
  have hpos := Of.ways_pos k d1
  have hway := Of.wayAt_ok hS nu
  have h0 : 0 ≤ nu % ((Of.ways k d1).length : Int) := Int.emod_nonneg nu (by omega)
  have h1 : nu % ((Of.ways k d1).length : Int) < ((Of.ways k d1).length : Int) := Int.emod_lt_of_pos nu (by omega)
  have hat : ((Of.ways k d1).map nT)[(nu % ((Of.ways k d1).length : Int)).toNat]? = some (nT (Of.wayAt k nu d1)) := by
    rw [List.getElem?_map, getD_some (d := []) (show (nu % ((Of.ways k d1).length : Int)).toNat < (Of.ways k d1).length by omega)]
    rfl
  show DSs _ _ [.valT d1 T, .val (.int nu), .val (nI dp), .un, .un] _ _
  refine dss_cons (ds_set 3 sc_u_law_spoilt.nd (d := .list ((Of.ways k d1).map nT)) (dc D_u_law_places_in (ok_u_law_places_in hb D_u_law_places_in k) hr (by first | decide | omega) (da_2 (de_varT 0) (de_tup (ds := []) da_nil (Nat.zero_le _))) ⟨d1, [], rfl, hS, hk, by show 0 + k ≤ 2; omega, rfl⟩) rfl) ?_
  refine dss_cons (ds_set 4 sc_u_law_spoilt.nd (d := nT (Of.wayAt k nu d1)) (de_ixL (ds := (Of.ways k d1).map nT) (de_var 3) (de_mod (j := ((Of.ways k d1).length : Int)) (by omega) (de_var 1) (DE.is (de_len (ds := (Of.ways k d1).map nT) hb.len (de_var 3) rfl) (by rw [List.length_map]))) (atI_of h0 hat)) rfl) ?_
  exact dss_one (ds_retMo (DEm.M (dem_callFo (T := T) (k := 1 + (Of.wayAt k nu d1).length + 2) (R := R_put (Of.other (nu / 4096)) (Of.wayAt k nu d1).length) 0 1 D_u_law_put_at (fun c' cell f lok => fo_u_law_put_at hb D_u_law_put_at lok (fun f A outer s H d d' hd hr => by
    obtain ⟨k0, hS0, rfl⟩ := hd
    exact dc D_u_law_otherwise (ok_u_law_otherwise hb D_u_law_otherwise) hr (by decide) (da_2 (de_var 0) (de_fdiv (by decide) (de_var 1) de_int)) ⟨k0, d, nu / 4096, rfl, hS0, rfl⟩) _) hr (by omega) TB rfl hm hu ⟨rfl, rfl, rfl, rfl, rfl, by decide +kernel, by decide +kernel⟩ rfl (DE.arg (de_varT 0)) (DE.arg (de_var 4)) ⟨k, d1, Of.wayAt k nu d1, rfl, rfl, by omega, hS, hway.1, rfl⟩ rfl)) ⟨rfl, _, rfl⟩)
def R_once : Rho → PyData → Prop := fun as d => ∃ ns : List Int, as = [.val (.list (ns.map .int))] ∧ d = .bool true
theorem dt_eqZ {X : Cx} {r : Rho} {a b : Expr} {pos : Pos} {i j : Int} (hu : X.A.units + 64 < cLine) (ha : DE X r a (.int i)) (hb : DE X r b (.int j)) : DT X r (.Compare a [.Eq] [b] pos) (decide (i = j)) := DT.is (dt_eqP hu (minl (by rw [dep_int]; omega)) ha hb) (eqv_int i j)
set_option maxHeartbeats 8000000 in
theorem ok_u_law_once (hb : Blt mg) (C_MOST_RESULTS : ∃ t, mg "MOST_RESULTS" = some (.int 8 t)) (C_MOST_LANES : ∃ t, mg "MOST_LANES" = some (.int 4 t)) (D_u_law_once : Dfn K mg "_law_once" s_u_law_once ["script"]) (D_u_law_mixed : Dfn K mg "_law_mixed" s_u_law_mixed ["script", "k"]) (D_u_law_cell_at : Dfn K mg "_law_cell_at" s_u_law_cell_at ["script", "k"]) (D_u_law_order : Dfn K mg "_law_order" s_u_law_order ["many", "number"]) (D_u_law_drawn : Dfn K mg "_law_drawn" s_u_law_drawn ["number", "k"]) (D_u_law_result : Dfn K mg "_law_result" s_u_law_result ["order", "number", "lanes"]) (D_u_law_results : Dfn K mg "_law_results" s_u_law_results ["many", "number", "most", "lanes"]) (D_u_law_spoilt : Dfn K mg "_law_spoilt" s_u_law_spoilt ["thing", "number", "deep"]) (D_u_law_places_in : Dfn K mg "_law_places_in" s_u_law_places_in ["bent_one", "bent_way"]) (D_u_law_put_at : Dfn K mg "_law_put_at" s_u_law_put_at ["bent_one", "bent_way", "bent_by"]) (D_u_law_otherwise : Dfn K mg "_law_otherwise" s_u_law_otherwise ["bent_one", "bent_number"]) (D_u_law_are : Dfn K mg "_law_are" s_u_law_are ["many", "most", "thing"]) (D_u_law_are_results : Dfn K mg "_law_are_results" s_u_law_are_results ["many", "thing"]) (D_are_results : Dfn K mg "are_results" s_are_results ["many", "thing"]) (D_are_runners : Dfn K mg "are_runners" s_are_runners ["many", "most", "thing"]) (D_is_runner : Dfn K mg "is_runner" s_is_runner ["many", "thing"]) (D_is_heat : Dfn K mg "is_heat" s_is_heat ["many", "lanes", "thing"]) {c2 P2 : Addr} {T : List (Addr × Str)} (hc : D_u_law_spoilt.fd.code = .ref c2) (TB : LamX.TabB base mg c2 P2) (hm : (P2, ("_law_spoilt.<locals>.<lambda>" : Str)) ∈ T) (hu : ∀ p ∈ T, p.1 = P2 → p.2 = ("_law_spoilt.<locals>.<lambda>" : Str)) {cO : Addr} (hcO : D_u_law_once.fd.code = .ref cO) : FnOk P w K mg base CX0 9 D_u_law_once.f D_u_law_once.fd ["script"] (spT K T R_once) := by
  refine okT D_u_law_once hcO sc_u_law_once (by rintro _ _ ⟨_, rfl, _⟩; rfl) (by rintro _ _ ⟨_, rfl, _⟩; exact ⟨_, _, rfl⟩) (by decide) (fun A outer s H E hr d1 as d hR => ?_)
  obtain ⟨ns, eas, rfl⟩ := hR
  injection eas with e1 e2
  cases e1
  subst e2
  obtain ⟨nu, enu⟩ : ∃ nu, nu = mixed ns 0 := ⟨_, rfl⟩
  obtain ⟨m, em, hm1, hm2⟩ : ∃ m : Nat, 2 + nu / 16 % 5 = (m : Int) ∧ 2 ≤ m ∧ m ≤ 6 := ⟨(2 + nu / 16 % 5).toNat, by omega, by omega, by omega⟩
  obtain ⟨l, el, hl1, hl2⟩ : ∃ l : Nat, 2 + nu / 128 % 3 = (l : Int) ∧ 2 ≤ l ∧ l ≤ 4 := ⟨(2 + nu / 128 % 3).toNat, by omega, by omega, by omega⟩
  obtain ⟨fw, efw, hfw⟩ : ∃ f : Nat, nu / 32768 % 3 = (f : Int) ∧ f ≤ 2 := ⟨(nu / 32768 % 3).toNat, by omega, by omega⟩
  obtain ⟨d1, ed1, hd1⟩ : ∃ f : Nat, nu / 512 % 3 = (f : Int) ∧ f ≤ 2 := ⟨(nu / 512 % 3).toNat, by omega, by omega⟩
  obtain ⟨d2, ed2, hd2⟩ : ∃ f : Nat, nu / 4096 % 2 = (f : Int) ∧ f ≤ 1 := ⟨(nu / 4096 % 2).toNat, by omega, by omega⟩
  obtain ⟨rs, ers⟩ : ∃ rs, rs = lawResults m (mixed ns 1) 8 4 := ⟨_, rfl⟩
  have hrs : areRs m (.tuple (rs.map nT)) = true := ers ▸ ress_ok hm1 (by omega)
  have hrl : rs.length ≤ 8 := ers ▸ lawResults_len _ _ _ _
  have hrg : ∀ r ∈ rs, (∀ x ∈ r, x < 1000) ∧ r.length ≤ 8 := fun r hr' => by
    rw [ers] at hr'
    obtain ⟨o, x, ho, rfl⟩ := lawResults_mem hr'
    have := res_ok (x := x) ho hm1 (l := 4) (by decide)
    exact ⟨fun y hy => by have := this.2.1 y hy; omega, by omega⟩
  obtain ⟨ht, eht⟩ : ∃ ht, ht = isort (lawRes (order m nu) (mixed ns 2) l) := ⟨_, rfl⟩
  have hht : areRn m l (nT ht) = true ∧ risD (nT ht) = true := eht ▸ heat_ok (order_perm m nu) hm1 hl1
  have hhg : (∀ x ∈ ht, x < 1000) ∧ ht.length ≤ 8 := by
    obtain ⟨ks, e, _, h2, _, h4⟩ := areRn_nat hht.1
    have : ht = ks := of_decide_eq_true ((eqL_nT ht ks).symm.trans (by rw [e]; exact eqRep_self eqRep_nT rfl))
    subst this
    exact ⟨fun x hx => by have := h2 x hx; omega, by omega⟩
  obtain ⟨X1, eX1⟩ : ∃ z, z = if nu % 3 > 0 then Of.spoilt 2 (mixed ns 3) (.tuple (rs.map nT)) else .tuple (rs.map nT) := ⟨_, rfl⟩
  obtain ⟨X2, eX2⟩ : ∃ z, z = if nu % 3 > 0 then Of.spoilt 1 (mixed ns 4) (nT ht) else nT ht := ⟨_, rfl⟩
  have sh1 := Of.sh_TT (by omega) hrg
  have sh2 := Of.sh_nT hhg.1 hhg.2
  have loX1 : Dl.lo X1 = X1 := by rw [eX1]; split; exact Of.loo_spoilt sh1; exact Of.sh_loo sh1
  have loX2 : Dl.lo X2 = X2 := by rw [eX2]; split; exact Of.loo_spoilt sh2; exact Of.sh_loo sh2
  show DSs _ _ [.valT (.list (ns.map .int)) T, .un, .un, .un, .un, .un, .un, .un, .un, .un, .un, .un, .un] _ _
  refine dss_cons (ds_set 1 sc_u_law_once.nd (d := .int nu) (dc D_u_law_mixed (ok_u_law_mixed hb D_u_law_mixed D_u_law_cell_at ) hr (by decide) (da_cons (dar_listI (de_varT 0)) (da_1 de_int)) ⟨ns, 0, rfl, by rw [enu]⟩) rfl) ?_
  refine dss_cons (ds_set 2 sc_u_law_once.nd (d := nI m) (de_nat (de_add de_int (de_mod (by decide) (de_fdiv (by decide) (de_var 1) de_int) de_int)) em) rfl) ?_
  refine dss_cons (ds_set 3 sc_u_law_once.nd (d := nI l) (de_nat (de_add de_int (de_mod (by decide) (de_fdiv (by decide) (de_var 1) de_int) de_int)) el) rfl) ?_
  refine dss_cons (ds_set 4 sc_u_law_once.nd (d := .tuple (rs.map nT)) (dc D_u_law_results (ok_u_law_results hb D_u_law_results D_u_law_drawn D_u_law_order D_u_law_result ) hr (by decide) (da_cons (DE.arg (de_var 2)) (da_cons (DE.arg (dc D_u_law_mixed (ok_u_law_mixed hb D_u_law_mixed D_u_law_cell_at ) hr (by decide) (da_cons (dar_listI (de_varT 0)) (da_1 de_int)) ⟨ns, 1, rfl, rfl⟩)) (da_2 de_int de_int))) ⟨m, mixed ns 1, 8, 4, rfl, by omega, by omega, by omega, by rw [ers]⟩) rfl) ?_
  refine dss_cons (ds_set 5 sc_u_law_once.nd (d := nT ht) (DE.is (de_tuple hb.tuple (DN.de (dn_sortN (ns := lawRes (order m nu) (mixed ns 2) l) hr.units hb.sorted (dc D_u_law_result (ok_u_law_result hb D_u_law_result D_u_law_order D_u_law_drawn ) hr (by decide) (da_3 (dc D_u_law_order (ok_u_law_order hb D_u_law_order D_u_law_drawn ) hr (by decide) (da_2 (de_var 2) (de_var 1)) ⟨m, nu, rfl, by omega, rfl⟩) (dc D_u_law_mixed (ok_u_law_mixed hb D_u_law_mixed D_u_law_cell_at ) hr (by decide) (da_cons (dar_listI (de_varT 0)) (da_1 de_int)) ⟨ns, 2, rfl, rfl⟩) (de_var 3)) ⟨order m nu, mixed ns 2, l, rfl, by rw [order_len]; omega, by omega, rfl⟩) rfl)) rfl) (by rw [eht]; rfl)) rfl) ?_
  refine dss_no (k := false) (DT.is (DW.dt (dw_or (k := false) (DT.is (dt_notB (k' := true) (dc D_are_results (ok_are_results hb C_MOST_RESULTS C_MOST_LANES D_are_results D_are_runners D_is_runner ) hr (by decide) (da_2 (de_var 2) (de_var 4)) ⟨m, _, rfl, Of.sh_loo sh1, rfl⟩) de_bl) (by rw [hrs]; rfl)) (fun _ => dw_or1 (k := false) (DT.is (dt_notB (k' := true) (dc D_is_heat (ok_is_heat hb D_is_heat D_are_runners D_is_runner ) hr (by decide) (da_3 (de_var 2) (de_var 3) (de_var 5)) ⟨m, l, _, rfl, by omega, Of.sh_loo sh2, rfl⟩) de_bl) (by rw [hht.1, hht.2]; rfl))))) rfl) rfl ?_
  refine dss_cons (ds_set 6 sc_u_law_once.nd (d := nT ht) (de_var 5) rfl) ?_
  refine dss_st [.valT (.list (ns.map .int)) T, .val (.int nu), .val (nI m), .val (nI l), .val X1, .val (nT ht), .val X2, .un, .un, .un, .un, .un, .un] (ds_if (k := decide (0 < nu % 3)) (dt_gt (de_mod (by decide) (de_var 1) de_int) de_int) (fun hk => ?_) (fun hk => ?_)) ?_
  · have hk := of_decide_eq_true hk
    rw [if_pos hk] at eX1 eX2
    refine dss_cons (ds_setM 4 sc_u_law_once.nd (d := X1) (dM_callT 0 (T := T) D_u_law_spoilt (ok_u_law_spoilt hb D_u_law_spoilt D_u_law_places_in D_u_law_put_at D_u_law_otherwise hc TB hm hu) hr (by decide) (da_cons (DE.arg (de_var 4)) (da_2 (dc D_u_law_mixed (ok_u_law_mixed hb D_u_law_mixed D_u_law_cell_at ) hr (by decide) (da_cons (dar_listI (de_varT 0)) (da_1 de_int)) ⟨ns, 3, rfl, rfl⟩) (de_nat (de_mod (by decide) (de_fdiv (by decide) (de_var 1) de_int) de_int) ed1))) ⟨2, _, mixed ns 3, d1, rfl, sh1, by decide, eX1⟩ rfl) rfl) ?_
    exact dss_one (ds_setM 6 sc_u_law_once.nd (d := X2) (dM_callT 0 (T := T) D_u_law_spoilt (ok_u_law_spoilt hb D_u_law_spoilt D_u_law_places_in D_u_law_put_at D_u_law_otherwise hc TB hm hu) hr (by decide) (da_cons (DE.arg (de_var 6)) (da_2 (dc D_u_law_mixed (ok_u_law_mixed hb D_u_law_mixed D_u_law_cell_at ) hr (by decide) (da_cons (dar_listI (de_varT 0)) (da_1 de_int)) ⟨ns, 4, rfl, rfl⟩) (de_nat (de_mod (by decide) (de_fdiv (by decide) (de_var 1) de_int) de_int) ed2))) ⟨1, _, mixed ns 4, d2, rfl, sh2, by decide, eX2⟩ rfl) (by repeat (first | exact Forg.nil | apply Forg.cons0 | apply Forg.cons1)))
  · have hk := of_decide_eq_false hk
    rw [if_neg hk] at eX1 eX2
    rw [eX1, eX2]
    exact dss_nil (by repeat (first | exact Forg.nil | apply Forg.cons0 | apply Forg.cons1))
  refine dss_cons (ds_set 7 sc_u_law_once.nd (d := nI fw) (de_nat (de_mod (by decide) (de_fdiv (by decide) (de_var 1) de_int) de_int) efw) rfl) ?_
  obtain ⟨E1, eE1⟩ : ∃ z : List PyData, z = [.tuple (List.replicate (7 + fw) [nT [0, 1]]).flatten, .tuple [nT [0, 1], nT [1, 0]], .tuple [nT [0]], .tuple [nT [0, 1, 0]]] := ⟨_, rfl⟩
  obtain ⟨E2, eE2⟩ : ∃ z : List PyData, z = E1 ++ [.tuple [nT [0, m - fw]], .tuple [nT (List.range (3 + fw))]] := ⟨_, rfl⟩
  have one1 : ∀ {x : PyData}, Loo x → Loo (.tuple [x]) := fun h => loo_tup fun d hd => List.mem_singleton.mp hd ▸ h
  have lE1 : ∀ x ∈ E1, Loo x := by
    rw [eE1, List.forall_mem_cons, List.forall_mem_cons, List.forall_mem_cons, List.forall_mem_cons]
    refine ⟨loo_tup fun d hd => ?_, loo_tup fun d hd => ?_, one1 (loo_nT _), one1 (loo_nT _), fun _ h => by cases h⟩
    · obtain ⟨y, hy, hz⟩ := List.mem_flatten.mp hd
      rw [(List.mem_replicate.mp hy).2] at hz
      exact List.mem_singleton.mp hz ▸ loo_nT _
    · rcases List.mem_cons.mp hd with z | z
      · rw [z]; exact loo_nT _
      · rw [List.mem_singleton.mp z]; exact loo_nT _
  have lE2 : ∀ x ∈ E2, Loo x := by
    rw [eE2]
    intro x hx
    rcases List.mem_append.mp hx with z | z
    · exact lE1 x z
    · rcases List.mem_cons.mp z with z | z
      · rw [z]; exact one1 (loo_nT _)
      · rw [List.mem_singleton.mp z]; exact one1 (loo_nT _)
  have zE1 : E1.length = 4 := by rw [eE1]; rfl
  have zE2 : E2.length = 6 := by rw [eE2, List.length_append, zE1]; rfl
  refine dss_cons (ds_set 8 sc_u_law_once.nd (d := .list E1) (DN.de (dn_lst (ds := E1) (by rw [eE1]; exact da_cons (DE.arg (de_repT (n := 7 + fw) (ds := [nT [0, 1]]) (by omega) (by omega) (by simp) (by simp) (de_tup (ds := [nT [0, 1]]) (da_1 (de_tup (ds := [nI 0, nI 1]) (da_2 de_int de_int) (sz 2))) (sz 1)) (de_addN (i := 7) de_int (de_var 7)))) (da_3 (de_tup (ds := [nT [0, 1], nT [1, 0]]) (da_2 (de_tup (ds := [nI 0, nI 1]) (da_2 de_int de_int) (sz 2)) (de_tup (ds := [nI 1, nI 0]) (da_2 de_int de_int) (sz 2))) (sz 2)) (de_tup (ds := [nT [0]]) (da_1 (de_tup (ds := [nI 0]) (da_1 de_int) (sz 1))) (sz 1)) (de_tup (ds := [nT [0, 1, 0]]) (da_1 (de_tup (ds := [nI 0, nI 1, nI 0]) (da_3 de_int de_int de_int) (sz 3))) (sz 1)))) (by rw [zE1]; exact sz 4))) rfl) ?_
  refine dss_cons (ds_set 8 sc_u_law_once.nd (d := .list E2) (DE.is (DN.de (dn_cat (ds := E1) (es := [.tuple [nT [0, m - fw]], .tuple [nT (List.range (3 + fw))]]) (by rw [zE1]; exact sz 6) (de_var 8) (DN.de (dn_lst (ds := [.tuple [nT [0, m - fw]], .tuple [nT (List.range (3 + fw))]]) (da_2 (de_tup (ds := [nT [0, m - fw]]) (da_1 (de_tup (ds := [nI 0, nI (m - fw)]) (da_2 de_int (de_subN (de_var 2) (de_var 7) (by omega))) (sz 2))) (sz 1)) (de_tup (ds := [nT (List.range (3 + fw))]) (da_1 (DE.loose (de_tupRangeN (n := 3 + fw) rfl hb.tuple hb.range (de_addN (i := 3) (j := fw) de_int (de_var 7)) (by omega)))) (sz 1))) (sz 2))))) (by rw [eE2])) rfl) ?_
  have loH : Loo (nT ht) := loo_nT _
  refine dss_cons (ds_forT (fun _ => [.valT (.list (ns.map .int)) T, .val (.int nu), .val (nI m), .val (nI l), .val X1, .val (nT ht), .val X2, .val (nI fw), .val (.list E2), .un, .un, .un, .un]) PassesOwn.never rfl (by repeat (first | exact Forg.nil | apply Forg.cons0 | apply Forg.cons1)) (di_list (DN.de (dn_cat (ds := E2) (es := [X1, X2, nT ht]) (by rw [zE2]; exact sz 9) (de_var 8) (DN.de (dn_lst (ds := [X1, X2, nT ht]) (da_3 (de_var 4) (de_var 6) (de_var 5)) (sz 3)))))) (fun i d hd => ?_) rfl) ?_
  · have hld : Dl.lo d = d := by
      rcases List.mem_append.mp (List.mem_of_getElem? hd) with z | z
      · exact lE2 d z
      · rcases List.mem_cons.mp z with z | z
        · rw [z]; exact loX1
        · rcases List.mem_cons.mp z with z | z
          · rw [z]; exact loX2
          · rw [List.mem_singleton.mp z]; exact loH
    refine ⟨_, _, (dg_name 9 sc_u_law_once.nd), ?_⟩
    refine dss_cons (ds_set 10 sc_u_law_once.nd (d := .bool (areRs m d)) (dc D_are_results (ok_are_results hb C_MOST_RESULTS C_MOST_LANES D_are_results D_are_runners D_is_runner ) hr (by decide) (da_2 (de_var 2) (de_var 9)) ⟨m, d, rfl, hld, rfl⟩) rfl) ?_
    exact dss_one (ds_if (k := false) (DT.is (DW.dt (dw_or (k := false) (DT.is (dt_not (dt_val (de_isa isaR_bool hb.isinstance hb.bool (by decide +kernel) (de_var 10)))) (by rw [lo_bool]; rfl)) (fun _ => dw_or1 (k := false) (dt_neS (d := .bool (areRs m d)) hr.units (by rw [dep_bool]; omega) (de_var 10) (dc D_u_law_are_results (ok_u_law_are_results hb D_u_law_are_results D_u_law_are ) hr (by decide) (da_2 (de_var 2) (de_var 9)) ⟨m, d, rfl, hld, rfl⟩))))) rfl) (fun z => by cases z) (fun _ => dss_nil (by repeat (first | exact Forg.nil | apply Forg.cons0 | apply Forg.cons1))))
  obtain ⟨O1, eO1⟩ : ∃ z : List PyData, z = [nT ht.reverse, nT [0, 1], nT [0, m - fw], nT [fw, 1], nT [0], .tuple [nI 0, .bool true], nL [0, 1]] := ⟨_, rfl⟩
  have lO1 : ∀ x ∈ O1, Loo x := by
    rw [eO1, List.forall_mem_cons, List.forall_mem_cons, List.forall_mem_cons, List.forall_mem_cons, List.forall_mem_cons, List.forall_mem_cons, List.forall_mem_cons]
    refine ⟨loo_nT _, loo_nT _, loo_nT _, loo_nT _, loo_nT _, loo_tup fun d hd => ?_, loo_lst fun d hd => ?_, fun _ h => by cases h⟩
    · rcases List.mem_cons.mp hd with z | z
      · rw [z]; exact loo_int _
      · rw [List.mem_singleton.mp z]; exact loo_bool _
    · obtain ⟨x, _, rfl⟩ := List.mem_map.mp hd
      exact loo_int _
  have zO1 : O1.length = 7 := by rw [eO1]; rfl
  refine dss_cons (ds_set 11 sc_u_law_once.nd (d := .list O1) (DN.de (dn_lst (ds := O1) (by rw [eO1]; exact da_cons (DE.arg (DE.is (de_revT (ds := ht.map nI) (de_var 5)) (by rw [← List.map_reverse]; rfl))) (da_cons (DE.arg (de_tup (ds := [nI 0, nI 1]) (da_2 de_int de_int) (sz 2))) (da_cons (DE.arg (de_tup (ds := [nI 0, nI (m - fw)]) (da_2 de_int (de_subN (de_var 2) (de_var 7) (by omega))) (sz 2))) (da_cons (DE.arg (de_tup (ds := [nI fw, nI 1]) (da_2 (de_var 7) de_int) (sz 2))) (da_3 (de_tup (ds := [nI 0]) (da_1 de_int) (sz 1)) (de_tup (ds := [nI 0, .bool true]) (da_2 de_int de_bl) (sz 2)) (DN.de (dn_lst (ds := [nI 0, nI 1]) (da_2 de_int de_int) (sz 2)))))))) (by rw [zO1]; exact sz 7))) rfl) ?_
  refine dss_cons (ds_forT (fun _ => [.valT (.list (ns.map .int)) T, .val (.int nu), .val (nI m), .val (nI l), .un, .val (nT ht), .val X2, .val (nI fw), .un, .un, .un, .val (.list O1), .un]) PassesOwn.never rfl (by repeat (first | exact Forg.nil | apply Forg.cons0 | apply Forg.cons1)) (di_list (DN.de (dn_cat (ds := O1) (es := [X2, nT ht, nT (List.range (2 + fw))]) (by rw [zO1]; exact sz 10) (de_var 11) (DN.de (dn_lst (ds := [X2, nT ht, nT (List.range (2 + fw))]) (da_3 (de_var 6) (de_var 5) (DE.loose (de_tupRangeN (n := 2 + fw) rfl hb.tuple hb.range (de_addN (i := 2) (j := fw) de_int (de_var 7)) (by omega)))) (sz 3)))))) (fun i d hd => ?_) rfl) ?_
  · have hld : Dl.lo d = d := by
      rcases List.mem_append.mp (List.mem_of_getElem? hd) with z | z
      · exact lO1 d z
      · rcases List.mem_cons.mp z with z | z
        · rw [z]; exact loX2
        · rcases List.mem_cons.mp z with z | z
          · rw [z]; exact loH
          · rw [List.mem_singleton.mp z]; exact loo_nT _
    refine ⟨_, _, (dg_name 9 sc_u_law_once.nd), ?_⟩
    refine dss_cons (ds_set 10 sc_u_law_once.nd (d := .bool (areRn m l d && risD d)) (dc D_is_heat (ok_is_heat hb D_is_heat D_are_runners D_is_runner ) hr (by decide) (da_3 (de_var 2) (de_var 3) (de_var 9)) ⟨m, l, d, rfl, by omega, hld, rfl⟩) rfl) ?_
    refine dss_cons (ds_set 12 sc_u_law_once.nd (d := .bool (areRn m l d && risD d)) (de_and (dc D_u_law_are (ok_u_law_are hb D_u_law_are ) hr (by decide) (da_3 (de_var 2) (de_var 3) (de_var 9)) ⟨m, l, d, rfl, by omega, hld, rfl⟩) (fun hk => ?_)) rfl) ?_
    · obtain ⟨ks, rfl, _, _, _, _⟩ := areRn_nat hk
      exact de_one (DE.is (de_eqP hr.units (minl (Nat.le_trans (dep_nL ks) (by omega))) (d1 := nL ks) (d2 := nL (isort ks)) (DN.de (dn_list hb.list (de_var 9) rfl)) (DN.de (dn_sortN (ns := ks) hr.units hb.sorted (de_var 9) rfl))) (by rw [eqRep_nL, sort_eq_iff]))
    exact dss_one (ds_if (k := false) (DT.is (DW.dt (dw_or (k := false) (DT.is (dt_not (dt_val (de_isa isaR_bool hb.isinstance hb.bool (by decide +kernel) (de_var 10)))) (by rw [lo_bool]; rfl)) (fun _ => dw_or1 (k := false) (dt_neS (d := .bool (areRn m l d && risD d)) hr.units (by rw [dep_bool]; omega) (de_var 10) (de_var 12))))) rfl) (fun z => by cases z) (fun _ => dss_nil (by repeat (first | exact Forg.nil | apply Forg.cons0 | apply Forg.cons1))))
  exact dss_one (ds_retMo (DE.M de_bl) ⟨rfl, _, rfl⟩)
set_option maxHeartbeats 4000000 in
theorem ok_law (hb : Blt mg) (C_MOST_RESULTS : ∃ t, mg "MOST_RESULTS" = some (.int 8 t)) (C_MOST_LANES : ∃ t, mg "MOST_LANES" = some (.int 4 t)) (D_law : Dfn K mg "law" s_law ["script"]) (D_u_law_once : Dfn K mg "_law_once" s_u_law_once ["script"]) (D_u_law_mixed : Dfn K mg "_law_mixed" s_u_law_mixed ["script", "k"]) (D_u_law_cell_at : Dfn K mg "_law_cell_at" s_u_law_cell_at ["script", "k"]) (D_u_law_order : Dfn K mg "_law_order" s_u_law_order ["many", "number"]) (D_u_law_drawn : Dfn K mg "_law_drawn" s_u_law_drawn ["number", "k"]) (D_u_law_result : Dfn K mg "_law_result" s_u_law_result ["order", "number", "lanes"]) (D_u_law_results : Dfn K mg "_law_results" s_u_law_results ["many", "number", "most", "lanes"]) (D_u_law_spoilt : Dfn K mg "_law_spoilt" s_u_law_spoilt ["thing", "number", "deep"]) (D_u_law_places_in : Dfn K mg "_law_places_in" s_u_law_places_in ["bent_one", "bent_way"]) (D_u_law_put_at : Dfn K mg "_law_put_at" s_u_law_put_at ["bent_one", "bent_way", "bent_by"]) (D_u_law_otherwise : Dfn K mg "_law_otherwise" s_u_law_otherwise ["bent_one", "bent_number"]) (D_u_law_are : Dfn K mg "_law_are" s_u_law_are ["many", "most", "thing"]) (D_u_law_are_results : Dfn K mg "_law_are_results" s_u_law_are_results ["many", "thing"]) (D_are_results : Dfn K mg "are_results" s_are_results ["many", "thing"]) (D_are_runners : Dfn K mg "are_runners" s_are_runners ["many", "most", "thing"]) (D_is_runner : Dfn K mg "is_runner" s_is_runner ["many", "thing"]) (D_is_heat : Dfn K mg "is_heat" s_is_heat ["many", "lanes", "thing"]) {c c2 P2 : Addr} (hc : D_law.fd.code = .ref c) (hc2 : D_u_law_spoilt.fd.code = .ref c2) (TB2 : LamX.TabB base mg c2 P2) : FnOk P w K mg base C8.CX0 10 D_law.f D_law.fd ["script"] (spLT K [(P2, ("_law_spoilt.<locals>.<lambda>" : Str))] R_L) := by
  refine okLawT D_law hc sc_law (by decide) (fun A outer s H E hr ns hlen => ?_)
  obtain ⟨T, eT⟩ : ∃ T : List (Addr × Str), T = [(P2, ("_law_spoilt.<locals>.<lambda>" : Str))] := ⟨_, rfl⟩
  have hmT2 : (P2, ("_law_spoilt.<locals>.<lambda>" : Str)) ∈ T := by rw [eT]; exact List.mem_cons_self
  have huT2 : ∀ p ∈ T, p.1 = P2 → p.2 = ("_law_spoilt.<locals>.<lambda>" : Str) := by rw [eT]; exact fun p hp _ => congrArg Prod.snd (List.mem_singleton.mp hp)
  rw [← eT]
  obtain ⟨cO, hcO⟩ := code_ref D_u_law_once
  refine dss_cons (ds_forT (fun _ => [.scrT ns T, .un, .un]) PassesOwn.never rfl (by repeat (first | exact Forg.nil | apply Forg.cons0 | apply Forg.cons1)) (di_rangeN (n := 8) rfl hb.range de_int (by omega)) (fun i d hd => ?_) rfl) ?_
  · obtain ⟨hi, rfl⟩ := range_at hd
    refine ⟨_, _, (dg_name 1 sc_law.nd), ?_⟩
    refine dss_noM (r' := [.scrT ns T, .val (nI i), .un]) (DTM.is (dTM_not (dTM_val (dM_callT (d := .bool true) 0 (T := T) D_u_law_once (ok_u_law_once hb C_MOST_RESULTS C_MOST_LANES D_u_law_once D_u_law_mixed D_u_law_cell_at D_u_law_order D_u_law_drawn D_u_law_result D_u_law_results D_u_law_spoilt D_u_law_places_in D_u_law_put_at D_u_law_otherwise D_u_law_are D_u_law_are_results D_are_results D_are_runners D_is_runner D_is_heat hc2 TB2 hmT2 huT2 hcO) hr (by decide) (da_1 (DE.is (d := .list ((Of.turnS ns i).map .int)) (DN.de (dn_cat (ds := ns.map fun x => PyData.int (x + 104729 * (i : Int))) (es := [nI i]) (by rw [List.length_map]; exact size_ok (by show ns.length + 1 ≤ _; omega)) (DN.de (dn_lc1 (xs := ns) (rep := PyData.int) (g := fun x => PyData.int (x + 104729 * (i : Int))) [("bent_cell", 2)] [2] rfl sc_law.nd (blkOk_by rfl) (di_scr (dar_scrT 0) (size_ok (by omega))) (fun x hx => ⟨_, ⟨fun _ _ _ _ _ => dg_name 2 sc_law.nd, fun _ _ _ _ _ => dts_nil, fun _ _ _ _ _ _ => de_add (de_var 2) (de_mul (.inl (by decide)) de_int (de_var 1))⟩⟩))) (DN.de (dn_lst (ds := [nI i]) (da_1 (de_var 1)) (sz 1))))) (by unfold Of.turnS; rw [List.map_append, List.map_map]; rfl))) ⟨Of.turnS ns i, rfl, rfl⟩ rfl))) rfl) ?_
    exact dss_nil (by repeat (first | exact Forg.nil | apply Forg.cons0 | apply Forg.cons1))
  exact dss_one (ds_ret de_bl rfl)
end
end Wk

namespace Wk
open PySem L2 PySem.W PyProof.Rows Dl
def TsT : List (He.Defn × PySem.Str) := [(("_law_spoilt", none), "_law_spoilt.<locals>.<lambda>")]
def fnT : List He.DefD := [⟨("law", none), "law", "law", defArgs s_law, defBody s_law, defScope s_law, [], []⟩, ⟨("_law_once", none), "_law_once", "_law_once", defArgs s_u_law_once, defBody s_u_law_once, defScope s_u_law_once, [], []⟩, ⟨("_law_mixed", none), "_law_mixed", "_law_mixed", defArgs s_u_law_mixed, defBody s_u_law_mixed, defScope s_u_law_mixed, [], []⟩, ⟨("_law_cell_at", none), "_law_cell_at", "_law_cell_at", defArgs s_u_law_cell_at, defBody s_u_law_cell_at, defScope s_u_law_cell_at, [], []⟩, ⟨("_law_order", none), "_law_order", "_law_order", defArgs s_u_law_order, defBody s_u_law_order, defScope s_u_law_order, [], []⟩, ⟨("_law_drawn", none), "_law_drawn", "_law_drawn", defArgs s_u_law_drawn, defBody s_u_law_drawn, defScope s_u_law_drawn, [], []⟩, ⟨("_law_result", none), "_law_result", "_law_result", defArgs s_u_law_result, defBody s_u_law_result, defScope s_u_law_result, [], []⟩, ⟨("_law_results", none), "_law_results", "_law_results", defArgs s_u_law_results, defBody s_u_law_results, defScope s_u_law_results, [], []⟩, ⟨("_law_spoilt", none), "_law_spoilt", "_law_spoilt", defArgs s_u_law_spoilt, defBody s_u_law_spoilt, defScope s_u_law_spoilt, [], []⟩, ⟨("_law_places_in", none), "_law_places_in", "_law_places_in", defArgs s_u_law_places_in, defBody s_u_law_places_in, defScope s_u_law_places_in, [], []⟩, ⟨("_law_put_at", none), "_law_put_at", "_law_put_at", defArgs s_u_law_put_at, defBody s_u_law_put_at, defScope s_u_law_put_at, [], []⟩, ⟨("_law_otherwise", none), "_law_otherwise", "_law_otherwise", defArgs s_u_law_otherwise, defBody s_u_law_otherwise, defScope s_u_law_otherwise, [], []⟩, ⟨("_law_are", none), "_law_are", "_law_are", defArgs s_u_law_are, defBody s_u_law_are, defScope s_u_law_are, [], []⟩, ⟨("_law_are_results", none), "_law_are_results", "_law_are_results", defArgs s_u_law_are_results, defBody s_u_law_are_results, defScope s_u_law_are_results, [], []⟩, ⟨("are_results", none), "are_results", "are_results", defArgs s_are_results, defBody s_are_results, defScope s_are_results, [], []⟩, ⟨("are_runners", none), "are_runners", "are_runners", defArgs s_are_runners, defBody s_are_runners, defScope s_are_runners, [], []⟩, ⟨("is_runner", none), "is_runner", "is_runner", defArgs s_is_runner, defBody s_is_runner, defScope s_is_runner, [], []⟩, ⟨("is_heat", none), "is_heat", "is_heat", defArgs s_is_heat, defBody s_is_heat, defScope s_is_heat, [], []⟩]
def faT : List He.Fa := [.glo "law", .glo "_law_once", .glo "_law_mixed", .glo "_law_cell_at", .glo "_law_order", .glo "_law_drawn", .glo "_law_result", .glo "_law_results", .glo "_law_spoilt", .glo "_law_places_in", .glo "_law_put_at", .glo "_law_otherwise", .glo "_law_are", .glo "_law_are_results", .glo "are_results", .glo "are_runners", .glo "is_runner", .glo "is_heat", .free "len", .free "sorted", .free "set", .free "tuple", .free "list", .free "range", .free "min", .free "max", .free "sum", .free "int", .free "str", .free "repr", .free "isinstance", .free "enumerate", .free "zip", .free "any", .free "all", .free "bool", .int "MOST_RESULTS" 8, .int "MOST_LANES" 4]
abbrev RT : PySem.W.OpenRow := PySem.W.OpenLaw.row PySem.Challenge.rw_heatplans_k09_lists_anywhere
abbrev hkT : PySem.W.Hook := He.hookX 4 faT fnT [] [("_law_spoilt", none)] (fun _ => true)
def obT (s : PySem.W.SharedT) : He.AlX := He.obsX 4 faT fnT [] [("_law_spoilt", none)] (fun _ => true) (HandSHeadRun.getT s)
theorem ob_eqT (s : PySem.W.SharedT) : obT s = hkT.obs s.abs := He.obsX_eq (HandSHeadRun.getT_eq s)
def looseT : List PySem.Str := (["MOST_RESULTS", "MOST_LANES", "is_runner", "are_runners", "are_results", "is_heat", "_law_cell_at", "_law_mixed", "_law_drawn", "_law_order", "_law_result", "_law_results", "_law_are", "_law_are_results", "_law_places_in", "_law_put_at", "_law_otherwise", "_law_spoilt", "_law_once"] : List PySem.Str)
set_option maxHeartbeats 0 in
theorem runT (w : World) : HandSHeadRun.RunEq RT (PySem.W.view RT.prog [21]) hkT obT 4000 looseT w := by
  intro os
  kernel_rfl
set_option maxHeartbeats 0 in
theorem all_at {w : World} {K : PySem.W.Frag} {h : Heap} {mg : Str → Option Value} {f : Addr} (X : K.In h) (G : h.Ns mainGlobals mg) (hfa : mg ("law" : Str) = some (.ref f)) (c : He.SaysX faT fnT [] [("_law_spoilt", none)] (fun _ => true) w h K) : LamX.LawAtS PySem.Challenge.rw_heatplans_k09_lists_anywhere w K C8.CX0 10 63 "script" mg f h := by
  obtain ⟨fd0, F0⟩ := c.t.d.def_ 0 rfl
  obtain ⟨fd1, F1⟩ := c.t.d.def_ 1 rfl
  obtain ⟨fd2, F2⟩ := c.t.d.def_ 2 rfl
  obtain ⟨fd3, F3⟩ := c.t.d.def_ 3 rfl
  obtain ⟨fd4, F4⟩ := c.t.d.def_ 4 rfl
  obtain ⟨fd5, F5⟩ := c.t.d.def_ 5 rfl
  obtain ⟨fd6, F6⟩ := c.t.d.def_ 6 rfl
  obtain ⟨fd7, F7⟩ := c.t.d.def_ 7 rfl
  obtain ⟨fd8, F8⟩ := c.t.d.def_ 8 rfl
  obtain ⟨fd9, F9⟩ := c.t.d.def_ 9 rfl
  obtain ⟨fd10, F10⟩ := c.t.d.def_ 10 rfl
  obtain ⟨fd11, F11⟩ := c.t.d.def_ 11 rfl
  obtain ⟨fd12, F12⟩ := c.t.d.def_ 12 rfl
  obtain ⟨fd13, F13⟩ := c.t.d.def_ 13 rfl
  obtain ⟨fd14, F14⟩ := c.t.d.def_ 14 rfl
  obtain ⟨fd15, F15⟩ := c.t.d.def_ 15 rfl
  obtain ⟨fd16, F16⟩ := c.t.d.def_ 16 rfl
  obtain ⟨fd17, F17⟩ := c.t.d.def_ 17 rfl
  have e := hfa.symm.trans (He.glo_ok X G (c.t.d.fact 0 (f := .glo "law") rfl))
  cases e
  have b0 := FunD.bindsN (ps := ["script"]) F0 fun _ _ _ _ _ _ us hl => match us, hl with | [_], _ => rfl
  have b1 := FunD.bindsN (ps := ["script"]) F1 fun _ _ _ _ _ _ us hl => match us, hl with | [_], _ => rfl
  have b2 := FunD.bindsN (ps := ["script", "k"]) F2 fun _ _ _ _ _ _ us hl => match us, hl with | [_, _], _ => rfl
  have b3 := FunD.bindsN (ps := ["script", "k"]) F3 fun _ _ _ _ _ _ us hl => match us, hl with | [_, _], _ => rfl
  have b4 := FunD.bindsN (ps := ["many", "number"]) F4 fun _ _ _ _ _ _ us hl => match us, hl with | [_, _], _ => rfl
  have b5 := FunD.bindsN (ps := ["number", "k"]) F5 fun _ _ _ _ _ _ us hl => match us, hl with | [_, _], _ => rfl
  have b6 := FunD.bindsN (ps := ["order", "number", "lanes"]) F6 fun _ _ _ _ _ _ us hl => match us, hl with | [_, _, _], _ => rfl
  have b7 := FunD.bindsN (ps := ["many", "number", "most", "lanes"]) F7 fun _ _ _ _ _ _ us hl => match us, hl with | [_, _, _, _], _ => rfl
  have b8 := FunD.bindsN (ps := ["thing", "number", "deep"]) F8 fun _ _ _ _ _ _ us hl => match us, hl with | [_, _, _], _ => rfl
  have b9 := FunD.bindsN (ps := ["bent_one", "bent_way"]) F9 fun _ _ _ _ _ _ us hl => match us, hl with | [_, _], _ => rfl
  have b10 := FunD.bindsN (ps := ["bent_one", "bent_way", "bent_by"]) F10 fun _ _ _ _ _ _ us hl => match us, hl with | [_, _, _], _ => rfl
  have b11 := FunD.bindsN (ps := ["bent_one", "bent_number"]) F11 fun _ _ _ _ _ _ us hl => match us, hl with | [_, _], _ => rfl
  have b12 := FunD.bindsN (ps := ["many", "most", "thing"]) F12 fun _ _ _ _ _ _ us hl => match us, hl with | [_, _, _], _ => rfl
  have b13 := FunD.bindsN (ps := ["many", "thing"]) F13 fun _ _ _ _ _ _ us hl => match us, hl with | [_, _], _ => rfl
  have b14 := FunD.bindsN (ps := ["many", "thing"]) F14 fun _ _ _ _ _ _ us hl => match us, hl with | [_, _], _ => rfl
  have b15 := FunD.bindsN (ps := ["many", "most", "thing"]) F15 fun _ _ _ _ _ _ us hl => match us, hl with | [_, _, _], _ => rfl
  have b16 := FunD.bindsN (ps := ["many", "thing"]) F16 fun _ _ _ _ _ _ us hl => match us, hl with | [_, _], _ => rfl
  have b17 := FunD.bindsN (ps := ["many", "lanes", "thing"]) F17 fun _ _ _ _ _ _ us hl => match us, hl with | [_, _, _], _ => rfl
  have hb : Blt mg := ⟨He.free_ok X G (c.t.d.fact 18 (f := .free "len") rfl), He.free_ok X G (c.t.d.fact 19 (f := .free "sorted") rfl), He.free_ok X G (c.t.d.fact 20 (f := .free "set") rfl), He.free_ok X G (c.t.d.fact 21 (f := .free "tuple") rfl), He.free_ok X G (c.t.d.fact 22 (f := .free "list") rfl), He.free_ok X G (c.t.d.fact 23 (f := .free "range") rfl), He.free_ok X G (c.t.d.fact 24 (f := .free "min") rfl), He.free_ok X G (c.t.d.fact 25 (f := .free "max") rfl), He.free_ok X G (c.t.d.fact 26 (f := .free "sum") rfl), He.free_ok X G (c.t.d.fact 27 (f := .free "int") rfl), He.free_ok X G (c.t.d.fact 28 (f := .free "str") rfl), He.free_ok X G (c.t.d.fact 29 (f := .free "repr") rfl), He.free_ok X G (c.t.d.fact 30 (f := .free "isinstance") rfl), He.free_ok X G (c.t.d.fact 31 (f := .free "enumerate") rfl), He.free_ok X G (c.t.d.fact 32 (f := .free "zip") rfl), He.free_ok X G (c.t.d.fact 33 (f := .free "any") rfl), He.free_ok X G (c.t.d.fact 34 (f := .free "all") rfl), He.free_ok X G (c.t.d.fact 35 (f := .free "bool") rfl)⟩
  exact law_atT TsT X c ⟨_, _, fun_of F0, b0, He.glo_ok X G (c.t.d.fact 0 (f := .glo "law") rfl)⟩ (fun base hK hG hT => ok_law hb (He.int_ok X G (c.t.d.fact 36 (f := .int "MOST_RESULTS" 8) rfl)) (He.int_ok X G (c.t.d.fact 37 (f := .int "MOST_LANES" 4) rfl)) ⟨_, _, fun_of F0, b0, He.glo_ok X G (c.t.d.fact 0 (f := .glo "law") rfl)⟩ ⟨_, _, fun_of F1, b1, He.glo_ok X G (c.t.d.fact 1 (f := .glo "_law_once") rfl)⟩ ⟨_, _, fun_of F2, b2, He.glo_ok X G (c.t.d.fact 2 (f := .glo "_law_mixed") rfl)⟩ ⟨_, _, fun_of F3, b3, He.glo_ok X G (c.t.d.fact 3 (f := .glo "_law_cell_at") rfl)⟩ ⟨_, _, fun_of F4, b4, He.glo_ok X G (c.t.d.fact 4 (f := .glo "_law_order") rfl)⟩ ⟨_, _, fun_of F5, b5, He.glo_ok X G (c.t.d.fact 5 (f := .glo "_law_drawn") rfl)⟩ ⟨_, _, fun_of F6, b6, He.glo_ok X G (c.t.d.fact 6 (f := .glo "_law_result") rfl)⟩ ⟨_, _, fun_of F7, b7, He.glo_ok X G (c.t.d.fact 7 (f := .glo "_law_results") rfl)⟩ ⟨_, _, fun_of F8, b8, He.glo_ok X G (c.t.d.fact 8 (f := .glo "_law_spoilt") rfl)⟩ ⟨_, _, fun_of F9, b9, He.glo_ok X G (c.t.d.fact 9 (f := .glo "_law_places_in") rfl)⟩ ⟨_, _, fun_of F10, b10, He.glo_ok X G (c.t.d.fact 10 (f := .glo "_law_put_at") rfl)⟩ ⟨_, _, fun_of F11, b11, He.glo_ok X G (c.t.d.fact 11 (f := .glo "_law_otherwise") rfl)⟩ ⟨_, _, fun_of F12, b12, He.glo_ok X G (c.t.d.fact 12 (f := .glo "_law_are") rfl)⟩ ⟨_, _, fun_of F13, b13, He.glo_ok X G (c.t.d.fact 13 (f := .glo "_law_are_results") rfl)⟩ ⟨_, _, fun_of F14, b14, He.glo_ok X G (c.t.d.fact 14 (f := .glo "are_results") rfl)⟩ ⟨_, _, fun_of F15, b15, He.glo_ok X G (c.t.d.fact 15 (f := .glo "are_runners") rfl)⟩ ⟨_, _, fun_of F16, b16, He.glo_ok X G (c.t.d.fact 16 (f := .glo "is_runner") rfl)⟩ ⟨_, _, fun_of F17, b17, He.glo_ok X G (c.t.d.fact 17 (f := .glo "is_heat") rfl)⟩  (code_at (mg := mg) (name := "law") (st := s_law) (ps := ["script"]) ⟨_, _, fun_of F0, b0, He.glo_ok X G (c.t.d.fact 0 (f := .glo "law") rfl)⟩ rfl) (code_at (mg := mg) (name := "_law_spoilt") (st := s_u_law_spoilt) (ps := ["thing", "number", "deep"]) ⟨_, _, fun_of F8, b8, He.glo_ok X G (c.t.d.fact 8 (f := .glo "_law_spoilt") rfl)⟩ rfl) (hT _ List.mem_cons_self) ) (fun s u => (FunD.bindsA (ps := ["script"]) F0 fun _ _ _ _ _ _ us hl => match us, hl with | [_], _ => rfl) s [u] rfl)
end Wk
open PySem PySem.W PySem.Calls PyProof.Rows
set_option maxHeartbeats 0 in
theorem PySem.Challenge.cw_heatplans_k09_lists_anywhere_holds : PySem.Challenge.rw_heatplans_k09_lists_anywhere.Holds := by
  w_on; o_law
  refine HandSHeadRun.head_any (r := (OpenLaw.row PySem.Challenge.rw_heatplans_k09_lists_anywhere)) (q := view (OpenLaw.row PySem.Challenge.rw_heatplans_k09_lists_anywhere).prog [21]) (H := Wk.hkT) (ob := Wk.obT) (M := 4000) (loose := Wk.looseT) (d := HandSHeadRun.topDef (OpenLaw.row PySem.Challenge.rw_heatplans_k09_lists_anywhere).prog 21) (kwd := []) Wk.ob_eqT (by kernel_rfl) (fun s => by kernel_rfl) Wk.runT (by kernel_rfl) (by kernel_rfl) (by kernel_rfl) (by rfl) (by first | assumption | decide +kernel) (by decide +kernel) ⟨rfl, rfl, rfl, rfl, rfl, by decide +kernel⟩ ?hw ?hc
  case hw => w_witness2
  case hc =>
    refine LamX.walk_ofTsE (l := PySem.Challenge.rw_heatplans_k09_lists_anywhere) (n := 63) (k := 10) (x := "script") (CX := fun _ => C8.CX0) rfl (by decide) (by kernel_rfl) ⟨rfl, by decide, by decide⟩ ?F (fun _ _ _ _ _ z => z)
    intro w mg fa h Y G hmg0
    obtain ⟨K, KX, c⟩ := Y
    have hmg : mg ("law" : PySem.Str) = some (.ref fa) := by
      have e : (HandSHeadRun.topDef (OpenLaw.row PySem.Challenge.rw_heatplans_k09_lists_anywhere).prog 21).name = ("law" : PySem.Str) := by kernel_rfl
      rw [← e]
      exact hmg0
    exact ⟨K, KX, Wk.all_at KX G hmg c⟩

