import PyProof.Rows.All
import Wide.All
import OpenK.AllK
import Wide.FinOn
import KE.KStateDown
import Lean
import HandS.Base
import HandS.Call
import HandS.List
import HandS.Comp
import HandS.Iter
import HandS.Zip
import HandS.SortInts
import HandS.Conv
import HandS.Wide
import HandS.IsInst
import HandS.Words
import HandS.WordsList
import HandS.Style
import PyProof.Rows.SortWalkRead
import HandS.Defaults
import HandS.RaiseMore
import HandS.Ends
import HandS.Exc
import HandS.ExcOwn
import HandS.WordsExc
import HandS.HeadEnd
import HandS.HeadHook2
import HandS.Head2
import PyProof.ReprRoads
import HandS.SetFor
import HandS.More
import PyProof.ReprLen
import PyProof.FitsInt
import HandS.Dict
import HandS.DictComp
import KE.KDictList
import HandS.Deep
import HandS.Set
import HandS.Strs
import HandS.TupLen
import HandS.SetBool
import HandS.SortRule
import KE.LtSeq
import PyProof.PureInt
import HandS.WideBits
import KE.DataCmp
import KE.SortData
import KE.KDictPairs
import KE.KDictCopyH
import HandS.ExcIs
import HandS.Lambda
import HandS.HeadHook4
import KE.DataFind
import HandS.ExcInit
import HandS.ExcField
import PySem.Challenge.RW_ringrestart_k13_assignments_of_small_rin
set_option Elab.async false
set_option linter.all false
set_option maxRecDepth 100000
set_option maxHeartbeats 0
namespace Rr
open PySem L2
def Ex (F F' : Hp) : Prop := ∀ a o, F a = some o → F' a = some o
theorem Ex.refl (F : Hp) : Ex F F := fun _ _ h => h
theorem Ex.trans {F F1 F2 : Hp} (a : Ex F F1) (b : Ex F1 F2) : Ex F F2 := fun x o h => b x o (a x o h)
theorem Ex.new {F : Hp} {p : Addr} {o : HO} (h : F p = none) : Ex F (upd F p o) := fun a u e => by
  rw [upd_ne (ne_of_none e h)]
  exact e
def ov (M F : Hp) : Hp := fun a => match M a with
  | some o => some o
  | none => F a
theorem ov_M {M F : Hp} {a : Addr} {o : HO} (h : M a = some o) : ov M F a = some o := by
  unfold ov
  rw [h]
theorem ov_F {M F : Hp} {a : Addr} (h : M a = none) : ov M F a = F a := by
  unfold ov
  rw [h]
theorem ov_none {M F : Hp} {a : Addr} (h : ov M F a = none) : M a = none ∧ F a = none := by
  unfold ov at h
  cases e : M a with
  | some o =>
    rw [e] at h
    cases h
  | none =>
    rw [e] at h
    exact ⟨rfl, h⟩
theorem ov_updM {M F : Hp} {p : Addr} {o : HO} : ov (upd M p o) F = upd (ov M F) p o := by
  funext a
  unfold ov upd
  by_cases h : a = p
  · simp [h]
  · simp [h]
theorem ov_updF {M F : Hp} {p : Addr} {o : HO} (h : M p = none) : ov M (upd F p o) = upd (ov M F) p o := by
  funext a
  unfold ov upd
  by_cases e : a = p
  · subst e
    simp [h]
  · simp [e]
def era (M : Hp) (p : Addr) : Hp := fun a => if a = p then none else M a
theorem era_same {M : Hp} {p : Addr} : era M p p = none := by
  unfold era
  rw [if_pos rfl]
theorem era_ne {M : Hp} {p a : Addr} (h : a ≠ p) : era M p a = M a := by
  unfold era
  rw [if_neg h]
theorem ov_era {M F : Hp} {p : Addr} {o : HO} (h : M p = some o) : ov (era M p) (upd F p o) = ov M F := by
  funext a
  unfold ov era upd
  by_cases e : a = p
  · subst e
    simp [h]
  · simp [e]
def Dj (M F : Hp) : Prop := ∀ a o, M a = some o → F a = none
theorem Dj.ex {M F : Hp} (h : Dj M F) {a : Addr} {o : HO} (e : F a = some o) : ov M F a = some o := by
  rw [ov_F]
  · exact e
  · cases q : M a with
    | none => rfl
    | some u =>
      rw [h a u q] at e
      cases e
mutual
inductive Rp (F : Hp) : V → PyData → Prop
  | non : Rp F .non .none
  | bl (b : Bool) : Rp F (.bl b) (.bool b)
  | int (i : Int) : Rp F (.int i) (.int i)
  | str (x : Str) : Rp F (.str x) (.str x)
  | lst {a : Addr} {xs : List V} {ds : List PyData} : F a = some (.lst xs) → RpA F xs ds → Rp F (.ref a) (.list ds)
  | tup {a : Addr} {xs : List V} {ds : List PyData} : F a = some (.tup xs) → RpA F xs ds → Rp F (.ref a) (.tuple ds)
  | dic {a : Addr} {ks : List Str} {xs : List V} {ds : List PyData} : F a = some (.dK (List.zip (ks.map Sum.inr) xs)) → ks.length = xs.length → RpA F xs ds → Rp F (.ref a) (.dict (List.zip (ks.map PyData.str) ds))
inductive RpA (F : Hp) : List V → List PyData → Prop
  | nil : RpA F [] []
  | cons {v : V} {vs : List V} {d : PyData} {ds : List PyData} : Rp F v d → RpA F vs ds → RpA F (v :: vs) (d :: ds)
end
section
variable {K : PySem.W.Frag} {F F' : Hp}
theorem SqL.ex {a : Addr} {xs : List V} (e : Ex F F') (h : SqL K F a xs) : SqL K F' a xs := by
  rcases h with (h | ⟨o, h⟩) | h
  · exact .inl (.inl (e _ _ h))
  · exact .inl (.inr ⟨o, e _ _ h⟩)
  · exact .inr h
theorem SqT.ex {a : Addr} {xs : List V} (e : Ex F F') (h : SqT K F a xs) : SqT K F' a xs := by
  rcases h with (h | ⟨o, h⟩) | h
  · exact .inl (.inl (e _ _ h))
  · exact .inl (.inr ⟨o, e _ _ h⟩)
  · exact .inr h
mutual
theorem Rp.ex (e : Ex F F') : ∀ {v : V} {d : PyData}, Rp F v d → Rp F' v d
  | _, _, .non => .non
  | _, _, .bl b => .bl b
  | _, _, .int i => .int i
  | _, _, .str x => .str x
  | _, _, .lst h r => .lst (e _ _ h) (RpA.ex e r)
  | _, _, .tup h r => .tup (e _ _ h) (RpA.ex e r)
  | _, _, .dic h l r => .dic (e _ _ h) l (RpA.ex e r)
theorem RpA.ex (e : Ex F F') : ∀ {vs : List V} {ds : List PyData}, RpA F vs ds → RpA F' vs ds
  | _, _, .nil => .nil
  | _, _, .cons h r => .cons (Rp.ex e h) (RpA.ex e r)
end
theorem RpA.length : ∀ {vs : List V} {ds : List PyData}, RpA F vs ds → vs.length = ds.length
  | _, _, .nil => rfl
  | _, _, .cons _ r => by rw [List.length_cons, List.length_cons, RpA.length r]
theorem RpA.get : ∀ {vs : List V} {ds : List PyData} {i : Nat} {d : PyData}, RpA F vs ds → ds[i]? = some d → ∃ v, vs[i]? = some v ∧ Rp F v d
  | _, _, _, _, .nil, e => by simp at e
  | _, _, 0, _, .cons h _, e => by simp at e; subst e; exact ⟨_, rfl, h⟩
  | _, _, i + 1, d, .cons _ r, e => by
    obtain ⟨u, h1, h2⟩ := RpA.get (i := i) (d := d) r (by simpa using e)
    exact ⟨u, by simpa using h1, h2⟩
theorem RpA.getV : ∀ {vs : List V} {ds : List PyData} {i : Nat} {v : V}, RpA F vs ds → vs[i]? = some v → ∃ d, ds[i]? = some d ∧ Rp F v d
  | _, _, _, _, .nil, e => by simp at e
  | _, _, 0, _, .cons h _, e => by simp at e; subst e; exact ⟨_, rfl, h⟩
  | _, _, i + 1, v, .cons _ r, e => by
    obtain ⟨u, h1, h2⟩ := RpA.getV (i := i) (v := v) r (by simpa using e)
    exact ⟨u, by simpa using h1, h2⟩
theorem RpA.append : ∀ {vs ws : List V} {ds es : List PyData}, RpA F vs ds → RpA F ws es → RpA F (vs ++ ws) (ds ++ es)
  | _, _, _, _, .nil, s => s
  | _, _, _, _, .cons h r, s => .cons h (RpA.append r s)
theorem RpA.take : ∀ {vs : List V} {ds : List PyData} (n : Nat), RpA F vs ds → RpA F (vs.take n) (ds.take n)
  | _, _, 0, _ => by simp only [List.take_zero]; exact .nil
  | _, _, _ + 1, .nil => .nil
  | _, _, n + 1, .cons h r => .cons h (RpA.take n r)
theorem RpA.drop : ∀ {vs : List V} {ds : List PyData} (n : Nat), RpA F vs ds → RpA F (vs.drop n) (ds.drop n)
  | _, _, 0, r => r
  | _, _, _ + 1, .nil => .nil
  | _, _, n + 1, .cons _ r => RpA.drop n r
theorem RpA.reverse {vs : List V} {ds : List PyData} (h : RpA F vs ds) : RpA F vs.reverse ds.reverse := by
  induction vs generalizing ds with
  | nil => cases h; exact .nil
  | cons v vs ih =>
    cases h with
    | cons h r =>
      rw [List.reverse_cons, List.reverse_cons]
      exact RpA.append (ih r) (.cons h .nil)
theorem rpA_ints {vs : List V} {is : List Int} (h : RpA F vs (is.map .int)) : vs = is.map V.int := by
  induction is generalizing vs with
  | nil => cases h; rfl
  | cons i is ih =>
    cases h with
    | cons h r =>
      cases h
      rw [ih r, List.map_cons]
theorem rpA_bools {vs : List V} {is : List Bool} (h : RpA F vs (is.map .bool)) : vs = is.map V.bl := by
  induction is generalizing vs with
  | nil => cases h; rfl
  | cons i is ih =>
    cases h with
    | cons h r =>
      cases h
      rw [ih r, List.map_cons]
theorem rpA_of_ints : ∀ is : List Int, RpA F (is.map V.int) (is.map .int)
  | [] => .nil
  | i :: is => .cons (.int i) (rpA_of_ints is)
end
theorem SqL.ov {K : PySem.W.Frag} {M F : Hp} {a : Addr} {xs : List V} (d : Dj M F) (h : SqL K F a xs) : SqL K (ov M F) a xs := SqL.ex (fun _ _ e => d.ex e) h
theorem Rp.ov {M F : Hp} {v : V} {d : PyData} (j : Dj M F) (h : Rp F v d) : Rp (ov M F) v d := Rp.ex (fun _ _ e => j.ex e) h
/-- an item: data, a cell (an object that may change) by its address, or the law's script -/
inductive It where
  | d (x : PyData)
  | c (p : Addr)
  | s (ns : List Int)
def RpI (K : PySem.W.Frag) (F : Hp) (v : V) : It → Prop
  | .d x => Rp F v x
  | .c p => v = .ref p
  | .s ns => ∃ a, v = .ref a ∧ SqL K F a (ns.map V.int)
theorem RpI.ex {K : PySem.W.Frag} {F F' : Hp} (e : Ex F F') {v : V} : ∀ {it : It}, RpI K F v it → RpI K F' v it
  | .d _, h => Rp.ex e h
  | .c _, h => h
  | .s _, ⟨a, h, q⟩ => ⟨a, h, SqL.ex e q⟩
inductive RpIs (K : PySem.W.Frag) (F : Hp) : List V → List It → Prop
  | nil : RpIs K F [] []
  | cons {v : V} {vs : List V} {d : It} {ds : List It} : RpI K F v d → RpIs K F vs ds → RpIs K F (v :: vs) (d :: ds)
section
variable {K : PySem.W.Frag} {F F' : Hp}
theorem RpIs.ex (e : Ex F F') : ∀ {vs : List V} {ds : List It}, RpIs K F vs ds → RpIs K F' vs ds
  | _, _, .nil => .nil
  | _, _, .cons h r => .cons (h.ex e) (RpIs.ex e r)
theorem RpIs.length : ∀ {vs : List V} {ds : List It}, RpIs K F vs ds → vs.length = ds.length
  | _, _, .nil => rfl
  | _, _, .cons _ r => by rw [List.length_cons, List.length_cons, RpIs.length r]
theorem RpIs.get : ∀ {vs : List V} {ds : List It} {i : Nat} {d : It}, RpIs K F vs ds → ds[i]? = some d → ∃ v, vs[i]? = some v ∧ RpI K F v d
  | _, _, _, _, .nil, e => by simp at e
  | _, _, 0, _, .cons h _, e => by simp at e; subst e; exact ⟨_, rfl, h⟩
  | _, _, i + 1, d, .cons _ r, e => by
    obtain ⟨u, h1, h2⟩ := RpIs.get (i := i) (d := d) r (by simpa using e)
    exact ⟨u, by simpa using h1, h2⟩
theorem RpIs.append : ∀ {vs ws : List V} {ds es : List It}, RpIs K F vs ds → RpIs K F ws es → RpIs K F (vs ++ ws) (ds ++ es)
  | _, _, _, _, .nil, s => s
  | _, _, _, _, .cons h r, s => .cons h (RpIs.append r s)
theorem RpIs.set {v : V} {d : It} (h : RpI K F v d) : ∀ {vs : List V} {ds : List It} (i : Nat), RpIs K F vs ds → RpIs K F (vs.set i v) (ds.set i d)
  | _, _, _, .nil => .nil
  | _, _, 0, .cons _ r => .cons h r
  | _, _, i + 1, .cons q r => .cons q (RpIs.set h i r)
theorem RpIs.eraseIdx : ∀ {vs : List V} {ds : List It} (i : Nat), RpIs K F vs ds → RpIs K F (vs.eraseIdx i) (ds.eraseIdx i)
  | _, _, _, .nil => .nil
  | _, _, 0, .cons _ r => r
  | _, _, i + 1, .cons q r => .cons q (RpIs.eraseIdx i r)
theorem RpIs.take : ∀ {vs : List V} {ds : List It} (n : Nat), RpIs K F vs ds → RpIs K F (vs.take n) (ds.take n)
  | _, _, 0, _ => by simp only [List.take_zero]; exact .nil
  | _, _, _ + 1, .nil => .nil
  | _, _, n + 1, .cons h r => .cons h (RpIs.take n r)
theorem RpIs.drop : ∀ {vs : List V} {ds : List It} (n : Nat), RpIs K F vs ds → RpIs K F (vs.drop n) (ds.drop n)
  | _, _, 0, r => r
  | _, _, _ + 1, .nil => .nil
  | _, _, n + 1, .cons _ r => RpIs.drop n r
theorem RpIs.reverse {vs : List V} {ds : List It} (h : RpIs K F vs ds) : RpIs K F vs.reverse ds.reverse := by
  induction vs generalizing ds with
  | nil => cases h; exact .nil
  | cons v vs ih =>
    cases h with
    | cons h r =>
      rw [List.reverse_cons, List.reverse_cons]
      exact RpIs.append (ih r) (.cons h .nil)
theorem RpIs.of_data : ∀ {vs : List V} {ds : List PyData}, RpIs K F vs (ds.map It.d) → RpA F vs ds
  | vs, [], h => by cases h; exact .nil
  | vs, d :: ds, h => by
    cases h with
    | cons h r => exact .cons h (RpIs.of_data r)
theorem RpIs.to_data : ∀ {vs : List V} {ds : List PyData}, RpA F vs ds → RpIs K F vs (ds.map It.d)
  | _, _, .nil => .nil
  | _, _, .cons h r => .cons h (RpIs.to_data r)
end
/-- what stands in a cell: a list of data, of items; a dict; anything else as the layer has it -/
inductive Cell where
  | dat (ds : List PyData)
  | lst (xs : List It)
  | tup (xs : List It)
  | dic (kvs : List (Key × It))
  | dit (kvs : List (List Key × PyData))
  | ins (Cc dx : Addr) (fs : List (Str × It))
  | raw (o : HO)
def CellOk (K : PySem.W.Frag) (F : Hp) (o : Option HO) : Cell → Prop
  | .dat ds => ∃ vs, o = some (.lst vs) ∧ RpA F vs ds
  | .lst its => ∃ vs, o = some (.lst vs) ∧ RpIs K F vs its
  | .tup its => ∃ vs, o = some (.tup vs) ∧ RpIs K F vs its
  | .dit kvs => ∃ ws, o = some (.dT (List.zip (kvs.map (·.1)) ws)) ∧ ws.length = kvs.length ∧ RpA F ws (kvs.map (·.2))
  | .dic kvs => ∃ ws, o = some (.dK (List.zip (kvs.map (·.1)) ws)) ∧ ws.length = kvs.length ∧ RpIs K F ws (kvs.map (·.2))
  | .ins Cc dx fs => ∃ ws, o = some (.ins Cc dx (List.zip (fs.map (·.1)) ws)) ∧ ws.length = fs.length ∧ RpIs K F ws (fs.map (·.2))
  | .raw u => o = some u
theorem CellOk.ex {K : PySem.W.Frag} {F F' : Hp} (e : Ex F F') {o : Option HO} : ∀ {c : Cell}, CellOk K F o c → CellOk K F' o c
  | .dat _, ⟨vs, h, r⟩ => ⟨vs, h, r.ex e⟩
  | .lst _, ⟨vs, h, r⟩ => ⟨vs, h, r.ex e⟩
  | .tup _, ⟨vs, h, r⟩ => ⟨vs, h, r.ex e⟩
  | .dic _, ⟨vs, h, l, r⟩ => ⟨vs, h, l, r.ex e⟩
  | .dit _, ⟨vs, h, l, r⟩ => ⟨vs, h, l, r.ex e⟩
  | .ins _ _ _, ⟨vs, h, l, r⟩ => ⟨vs, h, l, r.ex e⟩
  | .raw _, h => h
theorem CellOk.some {K : PySem.W.Frag} {F : Hp} {o : Option HO} : ∀ {c : Cell}, CellOk K F o c → ∃ u, o = Option.some u
  | .dat _, ⟨_, h, _⟩ => ⟨_, h⟩
  | .lst _, ⟨_, h, _⟩ => ⟨_, h⟩
  | .tup _, ⟨_, h, _⟩ => ⟨_, h⟩
  | .dic _, ⟨_, h, _, _⟩ => ⟨_, h⟩
  | .dit _, ⟨_, h, _, _⟩ => ⟨_, h⟩
  | .ins _ _ _, ⟨_, h, _, _⟩ => ⟨_, h⟩
  | .raw _, h => ⟨_, h⟩
abbrev Cs := List (Addr × Cell)
abbrev Gm := List (Option It)
structure Fm where
  K : PySem.W.Frag
  M0 : Hp
  F0 : Hp
structure OkC (fm : Fm) (F M : Hp) (C : Cs) : Prop where
  ex : Ex fm.F0 F
  cells : ∀ x ∈ C, CellOk fm.K F (M x.1) x.2
  out : ∀ x ∈ C, fm.M0 x.1 = none
  rest : ∀ a, (∀ x ∈ C, x.1 ≠ a) → M a = fm.M0 a
  nd : C.Pairwise fun x y => x.1 ≠ y.1
  dj : Dj M F
structure Ok (fm : Fm) (F M : Hp) (G : Gm) (σ : St) (C : Cs) : Prop where
  c : OkC fm F M C
  len : G.length = σ.length
  slot : ∀ (i : Nat) (it : It), G[i]? = some (some it) → ∃ v, σ[i]? = some (some v) ∧ RpI fm.K F v it
section
variable {fm : Fm} {F F' M M' : Hp} {G : Gm} {σ : St} {C C' : Cs}
theorem OkC.grow (h : OkC fm F M C) (e : Ex F F') (d : Dj M F') : OkC fm F' M C :=
  ⟨h.ex.trans e, fun x hx => (h.cells x hx).ex e, h.out, h.rest, h.nd, d⟩
theorem Ok.grow (h : Ok fm F M G σ C) (e : Ex F F') (d : Dj M F') : Ok fm F' M G σ C :=
  ⟨h.c.grow e d, h.len, fun i it q => let ⟨v, a, b⟩ := h.slot i it q; ⟨v, a, b.ex e⟩⟩
theorem Ok.cells_to (h : Ok fm F M G σ C) (e : Ex F F') (k : OkC fm F' M' C') : Ok fm F' M' G σ C' :=
  ⟨k, h.len, fun i it q => let ⟨v, a, b⟩ := h.slot i it q; ⟨v, a, b.ex e⟩⟩
/-- a new frozen object -/
theorem OkC.newF (h : OkC fm F M C) {p : Addr} {o : HO} (hp : ov M F p = none) : OkC fm (upd F p o) M C ∧ ov M (upd F p o) = upd (ov M F) p o ∧ Ex F (upd F p o) := by
  obtain ⟨hM, hF⟩ := ov_none hp
  refine ⟨h.grow (Ex.new hF) (fun a u e => ?_), ov_updF hM, Ex.new hF⟩
  have hne : a ≠ p := ne_of_none e hM
  rw [upd_ne hne]
  exact h.dj a u e
/-- a new cell -/
theorem OkC.newM (h : OkC fm F M C) {p : Addr} {o : HO} {c : Cell} (hp : ov M F p = none) (hc : CellOk fm.K F (some o) c) : OkC fm F (upd M p o) (C ++ [(p, c)]) ∧ ov (upd M p o) F = upd (ov M F) p o := by
  obtain ⟨hM, hF⟩ := ov_none hp
  have nin : ∀ x ∈ C, x.1 ≠ p := fun x hx e => by
    obtain ⟨u, q⟩ := (h.cells x hx).some
    rw [e, hM] at q
    cases q
  refine ⟨⟨h.ex, fun x hx => ?_, fun x hx => ?_, fun a ha => ?_, ?_, fun a u e => ?_⟩, ov_updM⟩
  · rcases List.mem_append.mp hx with hx | hx
    · rw [upd_ne (nin x hx)]
      exact h.cells x hx
    · have e : x = (p, c) := by simpa using hx
      subst e
      rw [upd_same]
      exact hc
  · rcases List.mem_append.mp hx with hx | hx
    · exact h.out x hx
    · have e : x = (p, c) := by simpa using hx
      subst e
      rw [← h.rest p nin]
      exact hM
  · have hne : a ≠ p := fun e => ha (p, c) (by simp) e.symm
    rw [upd_ne hne]
    exact h.rest a fun x hx => ha x (List.mem_append_left _ hx)
  · refine List.pairwise_append.mpr ⟨h.nd, by simp, fun x hx y hy => ?_⟩
    have e : y = (p, c) := by simpa using hy
    subst e
    exact nin x hx
  · by_cases e2 : a = p
    · subst e2
      exact hF
    · rw [upd_ne e2] at e
      exact h.dj a u e
/-- a cell changes -/
theorem OkC.put (h : OkC fm F M C) {k : Nat} {p : Addr} {c c' : Cell} {o : HO} (hk : C[k]? = some (p, c)) (hc : CellOk fm.K F (some o) c') : OkC fm F (upd M p o) (C.set k (p, c')) ∧ ov (upd M p o) F = upd (ov M F) p o := by
  have hm : (p, c) ∈ C := List.mem_of_getElem? hk
  have hkl : k < C.length := (List.getElem?_eq_some_iff.mp hk).1
  have uniq : ∀ (j : Nat) (x : Addr × Cell), C[j]? = some x → x.1 = p → j = k := fun j x hj e => by
    by_cases hjk : j = k
    · exact hjk
    · have hjl : j < C.length := (List.getElem?_eq_some_iff.mp hj).1
      have ej : C[j] = x := (List.getElem?_eq_some_iff.mp hj).2
      have ek : C[k] = (p, c) := (List.getElem?_eq_some_iff.mp hk).2
      have q := List.pairwise_iff_getElem.mp h.nd
      rcases Nat.lt_or_gt_of_ne hjk with l | l
      · have z := q j k hjl hkl l
        rw [ej, ek] at z
        exact absurd e z
      · have z := q k j hkl hjl l
        rw [ej, ek] at z
        exact absurd e.symm z
  have mem' : ∀ x ∈ C.set k (p, c'), x = (p, c') ∨ (x ∈ C ∧ x.1 ≠ p) := fun x hx => by
    obtain ⟨j, hj⟩ := List.mem_iff_getElem?.mp hx
    by_cases hjk : j = k
    · subst hjk
      rw [List.getElem?_set_self hkl] at hj
      exact .inl (Option.some.inj hj).symm
    · rw [List.getElem?_set_ne (Ne.symm hjk)] at hj
      exact .inr ⟨List.mem_of_getElem? hj, fun e => hjk (uniq j x hj e)⟩
  refine ⟨⟨h.ex, fun x hx => ?_, fun x hx => ?_, fun a ha => ?_, ?_, fun a u e => ?_⟩, ov_updM⟩
  · rcases mem' x hx with e | ⟨hx, hn⟩
    · subst e
      rw [upd_same]
      exact hc
    · rw [upd_ne hn]
      exact h.cells x hx
  · rcases mem' x hx with e | ⟨hx, hn⟩
    · subst e
      exact h.out (p, c) hm
    · exact h.out x hx
  · have hin : (p, c') ∈ C.set k (p, c') := List.mem_of_getElem? (by rw [List.getElem?_set_self hkl])
    have hne : a ≠ p := fun e => ha (p, c') hin e.symm
    rw [upd_ne hne]
    refine h.rest a fun x hx => ?_
    obtain ⟨j, hj⟩ := List.mem_iff_getElem?.mp hx
    by_cases hjk : j = k
    · subst hjk
      rw [hk] at hj
      cases hj
      exact fun e => hne e.symm
    · exact ha x (List.mem_of_getElem? (i := j) (by rw [List.getElem?_set_ne (Ne.symm hjk)]; exact hj))
  · rw [List.pairwise_iff_getElem]
    intro i j hi hj hij
    have hi' : i < C.length := by simpa using hi
    have hj' : j < C.length := by simpa using hj
    have q := List.pairwise_iff_getElem.mp h.nd i j hi' hj' hij
    have ek : C[k] = (p, c) := (List.getElem?_eq_some_iff.mp hk).2
    have f : ∀ (n : Nat) (hn : n < C.length) (hn' : n < (C.set k (p, c')).length), ((C.set k (p, c'))[n]).1 = (C[n]).1 := fun n hn hn' => by
      rw [List.getElem_set]
      by_cases e : k = n
      · subst e
        rw [if_pos rfl, ek]
      · rw [if_neg e]
    rw [f i hi' hi, f j hj' hj]
    exact q
  · by_cases e2 : a = p
    · subst e2
      obtain ⟨u', q⟩ := (h.cells _ hm).some
      exact h.dj a u' q
    · rw [upd_ne e2] at e
      exact h.dj a u e
/-- a list cell of data is frozen -/
theorem OkC.frz (h : OkC fm F M C) {k : Nat} {p : Addr} {ds : List PyData} (hk : C[k]? = some (p, .dat ds)) :
    ∃ F' M', OkC fm F' M' (C.eraseIdx k) ∧ ov M' F' = ov M F ∧ Ex F F' ∧ Rp F' (.ref p) (.list ds) := by
  have hm : (p, Cell.dat ds) ∈ C := List.mem_of_getElem? hk
  have hkl : k < C.length := (List.getElem?_eq_some_iff.mp hk).1
  have ek : C[k] = (p, .dat ds) := (List.getElem?_eq_some_iff.mp hk).2
  obtain ⟨vs, hp, rv⟩ := h.cells _ hm
  have hp : M p = some (.lst vs) := hp
  have hF : F p = none := h.dj p _ hp
  have nin : ∀ x ∈ C.eraseIdx k, x ∈ C ∧ x.1 ≠ p := fun x hx => by
    obtain ⟨j, hj, e⟩ := List.mem_eraseIdx_iff_getElem.mp hx
    obtain ⟨hjk, e⟩ := e
    have q := List.pairwise_iff_getElem.mp h.nd
    refine ⟨by rw [← e]; exact List.getElem_mem _, ?_⟩
    rw [← e]
    rcases Nat.lt_or_gt_of_ne hjk with l | l
    · have z := q j k (by assumption) hkl l
      rw [ek] at z
      exact z
    · have z := q k j hkl (by assumption) l
      rw [ek] at z
      exact fun e => z e.symm
  refine ⟨upd F p (.lst vs), era M p, ⟨h.ex.trans (Ex.new hF), fun x hx => ?_, fun x hx => h.out x (nin x hx).1, fun a ha => ?_, h.nd.sublist (List.eraseIdx_sublist C k), fun a u e => ?_⟩, ov_era hp, Ex.new hF, ?_⟩
  · rw [era_ne (nin x hx).2]
    exact (h.cells x (nin x hx).1).ex (Ex.new hF)
  · by_cases e : a = p
    · subst e
      rw [era_same]
      exact (h.out _ hm).symm
    · rw [era_ne e]
      refine h.rest a fun x hx => ?_
      obtain ⟨j, hj⟩ := List.mem_iff_getElem?.mp hx
      by_cases hjk : j = k
      · subst hjk
        rw [hk] at hj
        cases hj
        exact fun z => e z.symm
      · refine ha x (List.mem_eraseIdx_iff_getElem?.mpr ⟨j, hjk, hj⟩)
  · by_cases e2 : a = p
    · subst e2
      rw [era_same] at e
      cases e
    · rw [era_ne e2] at e
      rw [upd_ne e2]
      exact h.dj a u e
  · exact .lst upd_same (RpA.ex (Ex.new hF) rv)
/-- cells in another order -/
theorem OkC.perm (h : OkC fm F M C) (p : C'.Perm C) : OkC fm F M C' :=
  ⟨h.ex, fun x hx => h.cells x (p.mem_iff.mp hx), fun x hx => h.out x (p.mem_iff.mp hx), fun a ha => h.rest a fun x hx => ha x (p.mem_iff.mpr hx), (p.symm.pairwise h.nd (fun z e => z e.symm)), h.dj⟩
/-- the rest of the cells is set aside -/
theorem OkC.split {C1 C2 : Cs} (h : OkC fm F M (C1 ++ C2)) : OkC ⟨fm.K, fun a => if a ∈ C1.map (·.1) then none else M a, F⟩ F M C1 :=
  ⟨Ex.refl F, fun x hx => h.cells x (List.mem_append_left _ hx), fun x hx => by
    show (if x.1 ∈ C1.map (·.1) then none else M x.1) = none
    rw [if_pos (List.mem_map.mpr ⟨x, hx, rfl⟩)], fun a ha => by
    show M a = (if a ∈ C1.map (·.1) then none else M a)
    rw [if_neg]
    intro q
    obtain ⟨x, hx, e⟩ := List.mem_map.mp q
    exact ha x hx e, (List.pairwise_append.mp h.nd).1, h.dj⟩
theorem OkC.join {C1 C2 C3 : Cs} (h : OkC fm F M (C1 ++ C2)) (k : OkC ⟨fm.K, fun a => if a ∈ C1.map (·.1) then none else M a, F⟩ F' M' C3) : OkC fm F' M' (C3 ++ C2) := by
  have e : Ex F F' := k.ex
  have keep : ∀ a, (∀ x ∈ C3, x.1 ≠ a) → M' a = if a ∈ C1.map (·.1) then none else M a := fun a ha => k.rest a ha
  have apart : ∀ x ∈ C3, ∀ y ∈ C2, x.1 ≠ y.1 := fun x hx y hy e2 => by
    have z : (if x.1 ∈ C1.map (·.1) then none else M x.1) = none := k.out x hx
    by_cases q : x.1 ∈ C1.map (·.1)
    · obtain ⟨w, hw, e3⟩ := List.mem_map.mp q
      exact (List.pairwise_append.mp h.nd).2.2 w hw y hy (e3.trans e2)
    · rw [if_neg q, e2] at z
      obtain ⟨u, q2⟩ := (h.cells y (List.mem_append_right _ hy)).some
      rw [z] at q2
      cases q2
  have c2 : ∀ y ∈ C2, M' y.1 = M y.1 := fun y hy => by
    rw [keep y.1 fun x hx => apart x hx y hy, if_neg]
    intro q
    obtain ⟨w, hw, e3⟩ := List.mem_map.mp q
    exact (List.pairwise_append.mp h.nd).2.2 w hw y hy e3
  refine ⟨h.ex.trans e, fun x hx => ?_, fun x hx => ?_, fun a ha => ?_, List.pairwise_append.mpr ⟨k.nd, (List.pairwise_append.mp h.nd).2.1, apart⟩, k.dj⟩
  · rcases List.mem_append.mp hx with hx | hx
    · exact k.cells x hx
    · rw [c2 x hx]
      exact (h.cells x (List.mem_append_right _ hx)).ex e
  · rcases List.mem_append.mp hx with hx | hx
    · by_cases q : x.1 ∈ C1.map (·.1)
      · obtain ⟨w, hw, e3⟩ := List.mem_map.mp q
        rw [← e3]
        exact h.out w (List.mem_append_left _ hw)
      · have z : (if x.1 ∈ C1.map (·.1) then none else M x.1) = none := k.out x hx
        rw [if_neg q] at z
        by_cases q2 : ∃ y ∈ C2, y.1 = x.1
        · obtain ⟨y, hy, e3⟩ := q2
          exact absurd e3.symm (apart x hx y hy)
        · rw [← h.rest x.1 fun y hy => ?_]
          · exact z
          · rcases List.mem_append.mp hy with hy | hy
            · exact fun e3 => q (List.mem_map.mpr ⟨y, hy, e3⟩)
            · exact fun e3 => q2 ⟨y, hy, e3⟩
    · exact h.out x (List.mem_append_right _ hx)
  · rw [keep a fun x hx => ha x (List.mem_append_left _ hx)]
    by_cases q : a ∈ C1.map (·.1)
    · rw [if_pos q]
      obtain ⟨w, hw, e3⟩ := List.mem_map.mp q
      rw [← e3]
      exact (h.out w (List.mem_append_left _ hw)).symm
    · rw [if_neg q]
      refine h.rest a fun y hy => ?_
      rcases List.mem_append.mp hy with hy | hy
      · exact fun e3 => q (List.mem_map.mpr ⟨y, hy, e3⟩)
      · exact ha y (List.mem_append_right _ hy)
end
end Rr
namespace Rr
open PySem L2
/-- evaluates to this item, no cell changes -/
def Ev (fm : Fm) (te : TE) (G : Gm) (C : Cs) (it : It) : Prop :=
  ∀ F M σ, Ok fm F M G σ C → ∀ Q : VK, (∀ v F', Ex F F' → Ok fm F' M G σ C → RpI fm.K F' v it → Q v (ov M F')) → te σ (ov M F) Q
/-- evaluates to a new list of these data -/
def EvL (fm : Fm) (te : TE) (G : Gm) (C : Cs) (ds : List PyData) : Prop :=
  ∀ F M σ, Ok fm F M G σ C → ∀ Q : VK, (∀ p vs F', Ex F F' → Ok fm F' M G σ C → ov M F' p = none → RpA F' vs ds → Q (.ref p) (upd (ov M F') p (.lst vs))) → te σ (ov M F) Q
def EvT (fm : Fm) (tt : TT) (G : Gm) (C : Cs) (b : Bool) : Prop :=
  ∀ F M σ, Ok fm F M G σ C → ∀ Q : Bool → Hp → Prop, (∀ F', Ex F F' → Ok fm F' M G σ C → Q b (ov M F')) → tt σ (ov M F) Q
def EvA (fm : Fm) (ta : TA) (G : Gm) (C : Cs) (its : List It) : Prop :=
  ∀ F M σ, Ok fm F M G σ C → ∀ Q : List V → Hp → Prop, (∀ vs F', Ex F F' → Ok fm F' M G σ C → RpIs fm.K F' vs its → Q vs (ov M F')) → ta σ (ov M F) Q
/-- the same where cells may change -/
def W (fm : Fm) (te : TE) (G : Gm) (C : Cs) (k : It → Cs → Prop) : Prop :=
  ∀ F M σ, Ok fm F M G σ C → ∀ Q : VK, (∀ v it C' F' M', Ex F F' → Ok fm F' M' G σ C' → RpI fm.K F' v it → k it C' → Q v (ov M' F')) → te σ (ov M F) Q
def WT (fm : Fm) (tt : TT) (G : Gm) (C : Cs) (k : Bool → Cs → Prop) : Prop :=
  ∀ F M σ, Ok fm F M G σ C → ∀ Q : Bool → Hp → Prop, (∀ b C' F' M', Ex F F' → Ok fm F' M' G σ C' → k b C' → Q b (ov M' F')) → tt σ (ov M F) Q
def WA (fm : Fm) (ta : TA) (G : Gm) (C : Cs) (k : List It → Cs → Prop) : Prop :=
  ∀ F M σ, Ok fm F M G σ C → ∀ Q : List V → Hp → Prop, (∀ vs its C' F' M', Ex F F' → Ok fm F' M' G σ C' → RpIs fm.K F' vs its → k its C' → Q vs (ov M' F')) → ta σ (ov M F) Q
/-- from such states this holds -/
def At (fm : Fm) (P : St → Hp → Prop) (G : Gm) (C : Cs) : Prop := ∀ F M σ, Ok fm F M G σ C → P σ (ov M F)
/-- such a value may be returned -/
def Rt (fm : Fm) (P : VK) (it : It) (C : Cs) : Prop := ∀ F M v, OkC fm F M C → RpI fm.K F v it → P v (ov M F)
/-- what may be read as a list of these data -/
inductive RdD (C : Cs) : It → List PyData → Prop
  | d (ds : List PyData) : RdD C (.d (.list ds)) ds
  | c {k : Nat} {p : Addr} {ds : List PyData} : C[k]? = some (p, .dat ds) → RdD C (.c p) ds
inductive RdQ (C : Cs) : It → List PyData → Prop
  | d (ds : List PyData) : RdQ C (.d (.list ds)) ds
  | c {k : Nat} {p : Addr} {ds : List PyData} : C[k]? = some (p, .dat ds) → RdQ C (.c p) ds
  | s (ns : List Int) : RdQ C (.s ns) (ns.map .int)
theorem RdD.q {C : Cs} {it : It} {ds : List PyData} : RdD C it ds → RdQ C it ds
  | .d _ => .d _
  | .c h => .c h
section
variable {fm : Fm} {F F' M M' : Hp} {G : Gm} {σ : St} {C C' : Cs}
theorem RdD.get {it : It} {ds : List PyData} (h : RdD C it ds) (ok : OkC fm F M C) {v : V} (r : RpI fm.K F v it) : ∃ a vs, v = .ref a ∧ ov M F a = some (.lst vs) ∧ RpA F vs ds := by
  cases h with
  | d ds =>
    cases r with
    | lst h r => exact ⟨_, _, rfl, ok.dj.ex h, r⟩
  | c hk =>
    obtain ⟨vs, hp, rv⟩ := ok.cells _ (List.mem_of_getElem? hk)
    exact ⟨_, vs, r, ov_M hp, rv⟩
theorem RdQ.get {it : It} {ds : List PyData} (h : RdQ C it ds) (ok : OkC fm F M C) {v : V} (r : RpI fm.K F v it) : ∃ a vs, v = .ref a ∧ SqL fm.K (ov M F) a vs ∧ RpA F vs ds := by
  cases h with
  | d ds =>
    cases r with
    | lst h r => exact ⟨_, _, rfl, .inl (.inl (ok.dj.ex h)), r⟩
  | c hk =>
    obtain ⟨vs, hp, rv⟩ := ok.cells _ (List.mem_of_getElem? hk)
    exact ⟨_, vs, r, .inl (.inl (ov_M hp)), rv⟩
  | s ns =>
    obtain ⟨a, e, q⟩ := r
    exact ⟨a, _, e, SqL.ov ok.dj q, rpA_of_ints ns⟩
theorem Ok.slotI (h : Ok fm F M G σ C) {i : Nat} {it : It} (e : G[i]? = some (some it)) : ∃ v, σ[i]? = some (some v) ∧ RpI fm.K F v it := h.slot i it e
theorem Ok.set (h : Ok fm F M G σ C) {i : Nat} {v : V} {it : It} (r : RpI fm.K F v it) : Ok fm F M (G.set i (some it)) (σ.set i (some v)) C := by
  refine ⟨h.c, by rw [List.length_set, List.length_set, h.len], fun j jt e => ?_⟩
  by_cases hj : i = j
  · subst hj
    by_cases hl : i < G.length
    · rw [List.getElem?_set_self hl] at e
      cases e
      exact ⟨v, by rw [List.getElem?_set_self (h.len ▸ hl)], r⟩
    · rw [List.getElem?_eq_none (by rw [List.length_set]; omega)] at e
      cases e
  · rw [List.getElem?_set_ne hj] at e ⊢
    exact h.slot j jt e
theorem Ok.newF (h : Ok fm F M G σ C) {p : Addr} {o : HO} (hp : ov M F p = none) : Ok fm (upd F p o) M G σ C ∧ ov M (upd F p o) = upd (ov M F) p o ∧ Ex F (upd F p o) := by
  obtain ⟨a, b, c⟩ := h.c.newF (o := o) hp
  exact ⟨h.cells_to c a, b, c⟩
theorem Ok.newM (h : Ok fm F M G σ C) {p : Addr} {o : HO} {c : Cell} (hp : ov M F p = none) (hc : CellOk fm.K F (some o) c) : Ok fm F (upd M p o) G σ (C ++ [(p, c)]) ∧ ov (upd M p o) F = upd (ov M F) p o := by
  obtain ⟨a, b⟩ := h.c.newM hp hc
  exact ⟨h.cells_to (Ex.refl F) a, b⟩
theorem Ok.put (h : Ok fm F M G σ C) {k : Nat} {p : Addr} {c c' : Cell} {o : HO} (hk : C[k]? = some (p, c)) (hc : CellOk fm.K F (some o) c') : Ok fm F (upd M p o) G σ (C.set k (p, c')) ∧ ov (upd M p o) F = upd (ov M F) p o := by
  obtain ⟨a, b⟩ := h.c.put hk hc
  exact ⟨h.cells_to (Ex.refl F) a, b⟩
theorem rpI_newL {fm : Fm} {F : Hp} {p : Addr} {vs : List V} {ds : List PyData} (hF : F p = none) (r : RpA F vs ds) : RpI fm.K (upd F p (.lst vs)) (.ref p) (.d (.list ds)) := .lst upd_same (r.ex (Ex.new hF))
theorem rpI_newT {fm : Fm} {F : Hp} {p : Addr} {vs : List V} {ds : List PyData} (hF : F p = none) (r : RpA F vs ds) : RpI fm.K (upd F p (.tup vs)) (.ref p) (.d (.tuple ds)) := .tup upd_same (r.ex (Ex.new hF))
variable {te ta tb tc : TE} {tt tu : TT} {tr : TA} {x y z it : It} {ds es : List PyData} {k : It → Cs → Prop} {kb : Bool → Cs → Prop} {ka : List It → Cs → Prop}
theorem Ev.ofL (h : EvL fm te G C ds) : Ev fm te G C (.d (.list ds)) := fun F M σ ok Q q => h F M σ ok Q fun p vs F' e ok' hp r => by
  obtain ⟨a, b, c⟩ := ok'.newF (o := .lst vs) hp
  rw [← b]
  exact q _ _ (e.trans c) a (rpI_newL (ov_none hp).2 r)
theorem W.of (h : Ev fm te G C it) (hk : k it C) : W fm te G C k := fun F M σ ok Q q => h F M σ ok Q fun v F' e ok' r => q v it C F' M e ok' r hk
theorem W.ofL (h : EvL fm te G C ds) (hk : ∀ p, k (.c p) (C ++ [(p, .dat ds)])) : W fm te G C k := fun F M σ ok Q q => h F M σ ok Q fun p vs F' e ok' hp r => by
  obtain ⟨a, b⟩ := ok'.newM (o := .lst vs) (c := .dat ds) hp ⟨vs, rfl, r⟩
  rw [← b]
  exact q _ (.c p) _ _ _ e a (show RpI fm.K F' (.ref p) (.c p) from rfl) (hk p)
theorem WT.of {b : Bool} (h : EvT fm tt G C b) (hk : kb b C) : WT fm tt G C kb := fun F M σ ok Q q => h F M σ ok Q fun F' e ok' => q b C F' M e ok' hk
theorem WA.of {its : List It} (h : EvA fm tr G C its) (hk : ka its C) : WA fm tr G C ka := fun F M σ ok Q q => h F M σ ok Q fun vs F' e ok' r => q vs its C F' M e ok' r hk
theorem Ev.is (h : Ev fm te G C x) (e : x = y) : Ev fm te G C y := e ▸ h
theorem EvL.is (h : EvL fm te G C ds) (e : ds = es) : EvL fm te G C es := e ▸ h
theorem EvT.is {a b : Bool} (h : EvT fm tt G C a) (e : a = b) : EvT fm tt G C b := e ▸ h
theorem W.mono {k' : It → Cs → Prop} (h : W fm te G C k) (hk : ∀ it C', k it C' → k' it C') : W fm te G C k' := fun F M σ ok Q q => h F M σ ok Q fun v it C' F' M' e ok' r a => q v it C' F' M' e ok' r (hk _ _ a)
theorem Ev.w (h : W fm te G C fun it' C' => it' = it ∧ C' = C) : W fm te G C fun it' C' => it' = it ∧ C' = C := h
theorem ev_var {i : Nat} (h : G[i]? = some (some it)) : Ev fm (tVar i) G C it := fun F M σ ok Q q => by
  obtain ⟨v, e, r⟩ := ok.slot i it h
  exact ⟨v, e, q v F (Ex.refl F) ok r⟩
theorem ev_int {i : Int} : Ev fm (tC (.int i)) G C (.d (.int i)) := fun F M σ ok Q q => q _ F (Ex.refl F) ok (.int i)
theorem ev_bl {i : Bool} : Ev fm (tC (.bl i)) G C (.d (.bool i)) := fun F M σ ok Q q => q _ F (Ex.refl F) ok (.bl i)
theorem ev_str {i : Str} : Ev fm (tC (.str i)) G C (.d (.str i)) := fun F M σ ok Q q => q _ F (Ex.refl F) ok (.str i)
theorem ev_non : Ev fm (tC .non) G C (.d .none) := fun F M σ ok Q q => q _ F (Ex.refl F) ok .non
theorem ea_nil : EvA fm tNil G C [] := fun F M σ ok Q q => q [] F (Ex.refl F) ok .nil
theorem ea_cons {its : List It} (h : Ev fm ta G C x) (hr : EvA fm tr G C its) : EvA fm (tCons ta tr) G C (x :: its) := fun F M σ ok Q q =>
  h F M σ ok _ fun v F1 e1 ok1 r1 => hr F1 M σ ok1 _ fun vs F2 e2 ok2 r2 => q _ F2 (e1.trans e2) ok2 (.cons (r1.ex e2) r2)
theorem wa_nil (hk : ka [] C) : WA fm tNil G C ka := WA.of ea_nil hk
theorem wa_cons (h : W fm ta G C fun x C1 => WA fm tr G C1 fun its C2 => ka (x :: its) C2) : WA fm (tCons ta tr) G C ka := fun F M σ ok Q q =>
  h F M σ ok _ fun v it C1 F1 M1 e1 ok1 r1 h2 => h2 F1 M1 σ ok1 _ fun vs its C2 F2 M2 e2 ok2 r2 a => q _ _ C2 F2 M2 (e1.trans e2) ok2 (.cons (r1.ex e2) r2) a
theorem el_lst {its : List It} (h : EvA fm tr G C its) (e : its = ds.map .d) (hz : ds.length ≤ 16777216) : EvL fm (tLst tr) G C ds := fun F M σ ok Q q =>
  h F M σ ok _ fun vs F1 e1 ok1 r1 => by
    subst e
    have r2 := RpIs.of_data r1
    exact ⟨by rw [r2.length, sizeLine_eq]; exact hz, fun p hp => q p vs F1 e1 ok1 hp r2⟩
theorem ev_tup {its : List It} (h : EvA fm tr G C its) (e : its = ds.map .d) (hz : ds.length ≤ 16777216) : Ev fm (tTup tr) G C (.d (.tuple ds)) := fun F M σ ok Q q =>
  h F M σ ok _ fun vs F1 e1 ok1 r1 => by
    subst e
    have r2 := RpIs.of_data r1
    refine ⟨by rw [r2.length, sizeLine_eq]; exact hz, fun p hp => ?_⟩
    obtain ⟨a, b, c⟩ := ok1.newF (o := .tup vs) hp
    rw [← b]
    exact q _ _ (e1.trans c) a (rpI_newT (ov_none hp).2 r2)
def R2k (fm : Fm) (r : R2) (x y : It) (C : Cs) (z : It) : Prop :=
  ∀ F M, OkC fm F M C → ∀ v w, RpI fm.K F v x → RpI fm.K F w y → ∀ Q : VK, (∀ u F', Ex F F' → OkC fm F' M C → RpI fm.K F' u z → Q u (ov M F')) → r v w (ov M F) Q
def R2L (fm : Fm) (r : R2) (x y : It) (C : Cs) (ds : List PyData) : Prop :=
  ∀ F M, OkC fm F M C → ∀ v w, RpI fm.K F v x → RpI fm.K F w y → ∀ Q : VK, (∀ p vs, ov M F p = none → RpA F vs ds → Q (.ref p) (upd (ov M F) p (.lst vs))) → r v w (ov M F) Q
theorem R2k.ofL {r : R2} (h : R2L fm r x y C ds) : R2k fm r x y C (.d (.list ds)) := fun F M ok v w r1 r2 Q q => h F M ok v w r1 r2 Q fun p vs hp rv => by
  obtain ⟨a, b, c⟩ := ok.newF (o := .lst vs) hp
  rw [← b]
  exact q _ _ c a (rpI_newL (ov_none hp).2 rv)
theorem ev_op {r : R2} (ha : Ev fm ta G C x) (hb : Ev fm tb G C y) (hr : R2k fm r x y C z) : Ev fm (tOp r ta tb) G C z := fun F M σ ok Q q =>
  ha F M σ ok _ fun v F1 e1 ok1 r1 => hb F1 M σ ok1 _ fun w F2 e2 ok2 r2 => hr F2 M ok2.c v w (r1.ex e2) r2 Q fun u F3 e3 okc r3 => q u F3 ((e1.trans e2).trans e3) (ok2.cells_to e3 okc) r3
theorem el_op {r : R2} (ha : Ev fm ta G C x) (hb : Ev fm tb G C y) (hr : R2L fm r x y C ds) : EvL fm (tOp r ta tb) G C ds := fun F M σ ok Q q =>
  ha F M σ ok _ fun v F1 e1 ok1 r1 => hb F1 M σ ok1 _ fun w F2 e2 ok2 r2 => hr F2 M ok2.c v w (r1.ex e2) r2 Q fun p vs hp rv => q p vs F2 (e1.trans e2) ok2 hp rv
theorem w_op {r : R2} (h : W fm ta G C fun x C1 => W fm tb G C1 fun y C2 => ∃ z, R2k fm r x y C2 z ∧ k z C2) : W fm (tOp r ta tb) G C k := fun F M σ ok Q q =>
  h F M σ ok _ fun v x C1 F1 M1 e1 ok1 r1 h2 => h2 F1 M1 σ ok1 _ fun w y C2 F2 M2 e2 ok2 r2 ⟨z, hr, hk⟩ =>
    hr F2 M2 ok2.c v w (r1.ex e2) r2 Q fun u F3 e3 okc r3 => q u z C2 F3 M2 ((e1.trans e2).trans e3) (ok2.cells_to e3 okc) r3 hk
def xAdd : R2 := fun x y H Q => (rI0 (fun i j => .int (i + j))) x y H Q ∨ rCat x y H Q ∨ (∃ i j, x = .str i ∧ y = .str j ∧ i.length + j.length ≤ sizeLine ∧ Q (.str (i ++ j)) H)
def xSub : R2 := rI0 fun i j => .int (i - j)
def xMul : R2 := fun x y H Q => (rI CMulW fun i j => .int (i * j)) x y H Q ∨ rRep x y H Q
def xDiv : R2 := rI CDivW fun i j => .int (i / j)
def xMod : R2 := rI (fun _ j => 0 < j) fun i j => .int (i % j)
def CPowW (i j : Int) : Prop := 0 ≤ j ∧ (Builtin.Int.intBits i : Int) * j ≤ 2 ^ 27
def xPow : R2 := rI CPowW fun i j => .int (i ^ j.toNat)
def xLt : R2 := rI0 fun i j => .bl (decide (i < j))
def xLe : R2 := rI0 fun i j => .bl (decide (i ≤ j))
def xGt : R2 := rI0 fun i j => .bl (decide (j < i))
def xGe : R2 := rI0 fun i j => .bl (decide (j ≤ i))
section
variable {X : Cx}
theorem op_xAdd : OpR X (binaryOp .Add) xAdd := OpR.or op_add (OpR.or op_cat op_add_str)
theorem op_xSub : OpR X (binaryOp .Sub) xSub := op_sub
theorem op_xMul : OpR X (binaryOp .Mult) xMul := OpR.or op_mulW op_rep
theorem op_xDiv : OpR X (binaryOp .FloorDiv) xDiv := op_fdivW
theorem op_xMod : OpR X (binaryOp .Mod) xMod := op_mod
theorem op_xPow : OpR X (binaryOp .Pow) xPow := opI fun _ _ _ _ _ _ _ hc q => PyProof.Rows.pow_int hc.1 hc.2 q
theorem op_xLt : OpR X (compareOp .Lt) xLt := op_lt
theorem op_xLe : OpR X (compareOp .LtE) xLe := op_le
theorem op_xGt : OpR X (compareOp .Gt) xGt := op_gt
end
theorem rI0_k {g : Int → Int → V} {i j : Int} {z : PyData} (hz : ∀ F, Rp F (g i j) z) : R2k fm (rI0 g) (.d (.int i)) (.d (.int j)) C (.d z) := fun F M ok v w r1 r2 Q q => by
  cases r1; cases r2
  exact ⟨i, j, rfl, rfl, q _ F (Ex.refl F) ok (hz F)⟩
theorem rI_k {Cc : Int → Int → Prop} {g : Int → Int → V} {i j : Int} {z : PyData} (hc : Cc i j) (hz : ∀ F, Rp F (g i j) z) : R2k fm (rI Cc g) (.d (.int i)) (.d (.int j)) C (.d z) := fun F M ok v w r1 r2 Q q => by
  cases r1; cases r2
  exact ⟨i, j, rfl, rfl, hc, q _ F (Ex.refl F) ok (hz F)⟩
theorem r_add {i j : Int} : R2k fm xAdd (.d (.int i)) (.d (.int j)) C (.d (.int (i + j))) := fun F M ok v w r1 r2 Q q => .inl (rI0_k (fun _ => .int _) F M ok v w r1 r2 Q q)
theorem r_sub {i j : Int} : R2k fm xSub (.d (.int i)) (.d (.int j)) C (.d (.int (i - j))) := rI0_k fun _ => .int _
theorem r_mul {i j : Int} (h : CMulW i j) : R2k fm xMul (.d (.int i)) (.d (.int j)) C (.d (.int (i * j))) := fun F M ok v w r1 r2 Q q => .inl (rI_k h (fun _ => .int _) F M ok v w r1 r2 Q q)
theorem r_div {i j : Int} (h : CDivW i j) : R2k fm xDiv (.d (.int i)) (.d (.int j)) C (.d (.int (i / j))) := rI_k h fun _ => .int _
theorem r_mod {i j : Int} (h : 0 < j) : R2k fm xMod (.d (.int i)) (.d (.int j)) C (.d (.int (i % j))) := rI_k h fun _ => .int _
theorem r_pow {i j : Int} (h : CPowW i j) : R2k fm xPow (.d (.int i)) (.d (.int j)) C (.d (.int (i ^ j.toNat))) := rI_k h fun _ => .int _
theorem r_lt {i j : Int} : R2k fm xLt (.d (.int i)) (.d (.int j)) C (.d (.bool (decide (i < j)))) := rI0_k fun _ => .bl _
theorem r_le {i j : Int} : R2k fm xLe (.d (.int i)) (.d (.int j)) C (.d (.bool (decide (i ≤ j)))) := rI0_k fun _ => .bl _
theorem r_gt {i j : Int} : R2k fm xGt (.d (.int i)) (.d (.int j)) C (.d (.bool (decide (j < i)))) := rI0_k fun _ => .bl _
theorem r_ge {i j : Int} : R2k fm xGe (.d (.int i)) (.d (.int j)) C (.d (.bool (decide (j ≤ i)))) := rI0_k fun _ => .bl _
/-- list + list -/
theorem r_cat (hx : RdD C x ds) (hy : RdD C y es) (hz : ds.length + es.length ≤ 16777216) : R2L fm xAdd x y C (ds ++ es) := fun F M ok v w r1 r2 Q q => by
  obtain ⟨a, vs, e1, h1, s1⟩ := hx.get ok r1
  obtain ⟨b, ws, e2, h2, s2⟩ := hy.get ok r2
  refine .inr (.inl ⟨a, b, vs, ws, e1, e2, h1, h2, ?_, fun p hp => q p _ hp (s1.append s2)⟩)
  rw [s1.length, s2.length, sizeLine_eq]
  exact hz
/-- list * int -/
theorem RpA.rep {F : Hp} {vs : List V} {ds : List PyData} (h : RpA F vs ds) : ∀ n : Nat, RpA F (List.replicate n vs).flatten (List.replicate n ds).flatten
  | 0 => .nil
  | n + 1 => by
    rw [List.replicate_succ, List.replicate_succ, List.flatten_cons, List.flatten_cons]
    exact h.append (RpA.rep h n)
theorem r_rep {n : Int} (hx : RdD C x ds) (h0 : -1000000 ≤ n) (hz : ds.length * n.toNat ≤ 16777216) (h1 : n ≤ 16777216) : R2L fm xMul x (.d (.int n)) C (List.replicate n.toNat ds).flatten := fun F M ok v w r1 r2 Q q => by
  obtain ⟨a, vs, e1, hh, s1⟩ := hx.get ok r1
  cases r2
  refine .inr ⟨a, n, vs, e1, rfl, hh, by omega, by omega, ?_, fun p hp => q p _ hp (s1.rep _)⟩
  rw [s1.length, sizeLine_eq]
  exact hz
end
end Rr
namespace Rr
open PySem L2
section
variable {fm : Fm} {F F' M M' : Hp} {G : Gm} {σ : St} {C C' : Cs}
variable {te ta tb tc : TE} {tt tu : TT} {tr : TA} {x y z it : It} {ds es : List PyData} {k : It → Cs → Prop} {kb : Bool → Cs → Prop} {ka : List It → Cs → Prop}
theorem et_test {b : Bool} (h : Ev fm te G C (.d (.bool b))) : EvT fm (tTest te) G C b := fun F M σ ok Q q => h F M σ ok _ fun v F1 e1 ok1 r1 => by
  cases r1
  exact ⟨b, rfl, q F1 e1 ok1⟩
theorem et_B {b : Bool} (h : Ev fm te G C (.d (.bool b))) : EvT fm (tB te) G C b := fun F M σ ok Q q => h F M σ ok _ fun v F1 e1 ok1 r1 => by
  cases r1
  exact ⟨b, rfl, q F1 e1 ok1⟩
theorem wt_B (h : W fm te G C fun it C1 => ∃ b, it = .d (.bool b) ∧ kb b C1) : WT fm (tB te) G C kb := fun F M σ ok Q q => h F M σ ok _ fun v it C1 F1 M1 e1 ok1 r1 ⟨b, e, hk⟩ => by
  subst e
  cases r1
  exact ⟨b, rfl, q b C1 F1 M1 e1 ok1 hk⟩
theorem et_and {a b : Bool} (h1 : EvT fm tt G C a) (h2 : a = true → EvT fm tu G C b) : EvT fm (tAnd tt tu) G C (a && b) := fun F M σ ok Q q => h1 F M σ ok _ fun F1 e1 ok1 => by
  cases a with
  | true => exact h2 rfl F1 M σ ok1 Q fun F2 e2 ok2 => q F2 (e1.trans e2) ok2
  | false => exact q F1 e1 ok1
theorem et_or {a b : Bool} (h1 : EvT fm tt G C a) (h2 : a = false → EvT fm tu G C b) : EvT fm (tOr tt tu) G C (a || b) := fun F M σ ok Q q => h1 F M σ ok _ fun F1 e1 ok1 => by
  cases a with
  | false => exact h2 rfl F1 M σ ok1 Q fun F2 e2 ok2 => q F2 (e1.trans e2) ok2
  | true => exact q F1 e1 ok1
theorem et_not {a : Bool} (h1 : EvT fm tt G C a) : EvT fm (tNot tt) G C (!a) := fun F M σ ok Q q => h1 F M σ ok _ fun F1 e1 ok1 => q F1 e1 ok1
theorem wt_not (h : WT fm tt G C fun a C1 => kb (!a) C1) : WT fm (tNot tt) G C kb := fun F M σ ok Q q => h F M σ ok _ fun a C1 F1 M1 e1 ok1 hk => q _ _ _ _ e1 ok1 hk
theorem ev_andV {a b : Bool} (h1 : Ev fm ta G C (.d (.bool a))) (h2 : a = true → Ev fm tb G C (.d (.bool b))) : Ev fm (tAndV ta tb) G C (.d (.bool (a && b))) := fun F M σ ok Q q => h1 F M σ ok _ fun v F1 e1 ok1 r1 => by
  cases r1
  refine ⟨a, rfl, ?_⟩
  cases a with
  | true => exact h2 rfl F1 M σ ok1 Q fun v F2 e2 ok2 r2 => q v F2 (e1.trans e2) ok2 r2
  | false => exact q _ F1 e1 ok1 (.bl false)
theorem ev_orV {a b : Bool} (h1 : Ev fm ta G C (.d (.bool a))) (h2 : a = false → Ev fm tb G C (.d (.bool b))) : Ev fm (tOrV ta tb) G C (.d (.bool (a || b))) := fun F M σ ok Q q => h1 F M σ ok _ fun v F1 e1 ok1 r1 => by
  cases r1
  refine ⟨a, rfl, ?_⟩
  cases a with
  | false => exact h2 rfl F1 M σ ok1 Q fun v F2 e2 ok2 r2 => q v F2 (e1.trans e2) ok2 r2
  | true => exact q _ F1 e1 ok1 (.bl true)
theorem ev_notV {a : Bool} (h1 : Ev fm ta G C (.d (.bool a))) : Ev fm (tNotV ta) G C (.d (.bool (!a))) := fun F M σ ok Q q => h1 F M σ ok _ fun v F1 e1 ok1 r1 => by
  cases r1
  exact ⟨a, rfl, q _ F1 e1 ok1 (.bl _)⟩
theorem w_andV (h : W fm ta G C fun x C1 => ∃ a, x = .d (.bool a) ∧ (a = true → W fm tb G C1 k) ∧ (a = false → k (.d (.bool false)) C1)) : W fm (tAndV ta tb) G C k := fun F M σ ok Q q => h F M σ ok _ fun v x C1 F1 M1 e1 ok1 r1 ⟨a, e, h2, h3⟩ => by
  subst e
  cases r1
  refine ⟨a, rfl, ?_⟩
  cases a with
  | true => exact h2 rfl F1 M1 σ ok1 Q fun v it C2 F2 M2 e2 ok2 r2 hk => q v it C2 F2 M2 (e1.trans e2) ok2 r2 hk
  | false => exact q _ _ _ _ _ e1 ok1 (show RpI fm.K F1 (.bl false) (.d (.bool false)) from .bl false) (h3 rfl)
/-- a if t else b -/
theorem ev_if {b : Bool} (h : EvT fm tt G C b) (h1 : b = true → Ev fm ta G C x) (h2 : b = false → Ev fm tb G C x) : Ev fm (tIf tt ta tb) G C x := fun F M σ ok Q q => h F M σ ok _ fun F1 e1 ok1 => by
  cases b with
  | true => exact h1 rfl F1 M σ ok1 Q fun v F2 e2 ok2 r2 => q v F2 (e1.trans e2) ok2 r2
  | false => exact h2 rfl F1 M σ ok1 Q fun v F2 e2 ok2 r2 => q v F2 (e1.trans e2) ok2 r2
theorem ev_ifI {b : Bool} {i j : Int} (h : EvT fm tt G C b) (h1 : b = true → Ev fm ta G C (.d (.int i))) (h2 : b = false → Ev fm tb G C (.d (.int j))) : Ev fm (tIf tt ta tb) G C (.d (.int (if b = true then i else j))) := by
  refine ev_if h (fun e => ?_) fun e => ?_
  · rw [if_pos e]; exact h1 e
  · rw [if_neg (by rw [e]; exact Bool.false_ne_true)]; exact h2 e
/-- what may be read as this data -/
inductive AsD (C : Cs) : It → PyData → Prop
  | d (x : PyData) : AsD C (.d x) x
  | c {k : Nat} {p : Addr} {ds : List PyData} : C[k]? = some (p, .dat ds) → AsD C (.c p) (.list ds)
theorem AsD.get {d : PyData} (h : AsD C x d) (ok : OkC fm F M C) {v : V} (r : RpI fm.K F v x) : Rp (ov M F) v d := by
  cases h with
  | d => exact Rp.ov ok.dj r
  | c hk =>
    obtain ⟨vs, hp, rv⟩ := ok.cells _ (List.mem_of_getElem? hk)
    have e : v = .ref _ := r
    subst e
    exact .lst (ov_M hp) (rv.ex fun _ _ e => ok.dj.ex e)
mutual
theorem Rp.dp {K : PySem.W.Frag} {F : Hp} : ∀ {v : V} {d : PyData}, Rp F v d → d.canLay0 = true → Dp K F v d
  | _, _, .non, _ => .non
  | _, _, .bl b, _ => .bl b
  | _, _, .int i, _ => .int i
  | _, _, .str x, _ => .str x
  | _, _, .lst h r, c => .lst (SqL.of h) (RpA.dp r (by rw [PyData.canLay0] at c; exact c))
  | _, _, .tup h r, c => .tup (SqT.of h) (RpA.dp r (by rw [PyData.canLay0] at c; exact c))
  | _, _, .dic h l r, c => by rw [PyData.canLay0] at c; cases c
theorem RpA.dp {K : PySem.W.Frag} {F : Hp} : ∀ {v : List V} {d : List PyData}, RpA F v d → PyData.canLayAll0 d = true → DpAll K F v d
  | _, _, .nil, _ => .nil
  | _, _, .cons h r, c => by
    rw [PyData.canLayAll0, Bool.and_eq_true] at c
    exact .cons (Rp.dp h c.1) (RpA.dp r c.2)
end
def xEq (K : PySem.W.Frag) : R2 := fun x y H Q => rEq x y H Q ∨ rEqD K x y H Q
def xNe (K : PySem.W.Frag) : R2 := fun x y H Q => rNe x y H Q ∨ rNeD K x y H Q
theorem op_xEq {X : Cx} (hu : X.A.units + 64 < cLine) : OpR X (compareOp .Eq) (xEq X.K) := OpR.or op_eq (op_eqD hu)
theorem op_xNe {X : Cx} (hu : X.A.units + 64 < cLine) : OpR X (compareOp .NotEq) (xNe X.K) := OpR.or op_ne (op_neD hu)
theorem r_eqI {i j : Int} : R2k fm (xEq fm.K) (.d (.int i)) (.d (.int j)) C (.d (.bool (decide (i = j)))) := fun F M ok v w r1 r2 Q q => by
  cases r1; cases r2
  refine .inl ⟨rfl, ?_⟩
  rw [dec_int, show (i == j) = decide (i = j) from by rw [Bool.eq_iff_iff]; simp]
  exact q _ F (Ex.refl F) ok (.bl _)
theorem r_neI {i j : Int} : R2k fm (xNe fm.K) (.d (.int i)) (.d (.int j)) C (.d (.bool (!decide (i = j)))) := fun F M ok v w r1 r2 Q q => by
  cases r1; cases r2
  refine .inl ⟨rfl, ?_⟩
  rw [dec_int, show (i == j) = decide (i = j) from by rw [Bool.eq_iff_iff]; simp]
  exact q _ F (Ex.refl F) ok (.bl _)
theorem r_eqD {d e : PyData} (hx : AsD C x d) (hy : AsD C y e) (sd : SeqAt.shaped d = true) (se : SeqAt.shaped e = true) : R2k fm (xEq fm.K) x y C (.d (.bool (PyData.eqv d e))) := fun F M ok v w r1 r2 Q q =>
  .inr ⟨d, e, (hx.get ok r1).dp (SeqAt.canLay_of_shaped sd), (hy.get ok r2).dp (SeqAt.canLay_of_shaped se), sd, se, q _ F (Ex.refl F) ok (.bl _)⟩
theorem r_neD {d e : PyData} (hx : AsD C x d) (hy : AsD C y e) (sd : SeqAt.shaped d = true) (se : SeqAt.shaped e = true) : R2k fm (xNe fm.K) x y C (.d (.bool (!PyData.eqv d e))) := fun F M ok v w r1 r2 Q q =>
  .inr ⟨d, e, (hx.get ok r1).dp (SeqAt.canLay_of_shaped sd), (hy.get ok r2).dp (SeqAt.canLay_of_shaped se), sd, se, q _ F (Ex.refl F) ok (.bl _)⟩
theorem shaped_ints (is : List Int) : SeqAt.shaped (.list (is.map .int)) = true := by
  unfold SeqAt.shaped
  rw [PyData.canLay0, PyProof.Rows.canLayAll_ints, PyData.depth, PyProof.Rows.depthAll_ints]
  rfl
theorem eqvAll_ints : ∀ a b : List Int, PyData.eqvAll (a.map .int) (b.map .int) = decide (a = b)
  | [], [] => rfl
  | [], _ :: _ => rfl
  | _ :: _, [] => rfl
  | x :: a, y :: b => by
    rw [List.map_cons, List.map_cons, PyData.eqvAll, eqvAll_ints a b, PyData.eqv]
    by_cases h1 : x = y
    · by_cases h2 : a = b
      · subst h1; subst h2
        rw [decide_eq_true rfl, decide_eq_true rfl, beq_self_eq_true]; rfl
      · rw [decide_eq_false h2, decide_eq_false fun e => h2 (List.cons.inj e).2, Bool.and_false]
    · rw [decide_eq_false fun e => h1 (List.cons.inj e).1, beq_eq_false_iff_ne.mpr h1, Bool.false_and]
theorem r_eqLI {a b : List Int} (hx : AsD C x (.list (a.map .int))) (hy : AsD C y (.list (b.map .int))) : R2k fm (xEq fm.K) x y C (.d (.bool (decide (a = b)))) := by
  have h := r_eqD (fm := fm) hx hy (shaped_ints a) (shaped_ints b)
  rw [PyData.eqv, eqvAll_ints] at h
  exact h
theorem r_neLI {a b : List Int} (hx : AsD C x (.list (a.map .int))) (hy : AsD C y (.list (b.map .int))) : R2k fm (xNe fm.K) x y C (.d (.bool (!decide (a = b)))) := by
  have h := r_neD (fm := fm) hx hy (shaped_ints a) (shaped_ints b)
  rw [PyData.eqv, eqvAll_ints] at h
  exact h
def xIsN : R2 := fun x y H Q => y = .non ∧ Q (.bl (decide (x = .non))) H
def xNotN : R2 := fun x y H Q => y = .non ∧ Q (.bl (!decide (x = .non))) H
theorem op_xIsN {X : Cx} : OpR X (compareOp .Is) xIsN := op_isN
theorem op_xNotN {X : Cx} : OpR X (compareOp .IsNot) xNotN := op_notN
def isNo : PyData → Bool
  | .none => true
  | _ => false
theorem rp_non {F : Hp} {v : V} {d : PyData} (r : Rp F v d) : decide (v = .non) = isNo d := by
  cases r <;> first | exact decide_eq_true rfl | exact decide_eq_false (fun h => by cases h)
theorem r_isN {d : PyData} : R2k fm xIsN (.d d) (.d .none) C (.d (.bool (isNo d))) := fun F M ok v w r1 r2 Q q => by
  cases r2
  have e : decide (v = .non) = isNo d := rp_non r1
  exact ⟨rfl, by rw [e]; exact q _ F (Ex.refl F) ok (.bl _)⟩
theorem r_notN {d : PyData} : R2k fm xNotN (.d d) (.d .none) C (.d (.bool (!isNo d))) := fun F M ok v w r1 r2 Q q => by
  cases r2
  have e : decide (v = .non) = isNo d := rp_non r1
  exact ⟨rfl, by rw [e]; exact q _ F (Ex.refl F) ok (.bl _)⟩
theorem ev_chain {r r' : R2} {b b' : Bool} (ha : Ev fm ta G C x) (hb : Ev fm tb G C y) (hr : R2k fm r x y C (.d (.bool b))) (hc : b = true → Ev fm tc G C z) (hr' : b = true → R2k fm r' y z C (.d (.bool b'))) : Ev fm (tChain r r' ta tb tc) G C (.d (.bool (b && b'))) := fun F M σ ok Q q =>
  ha F M σ ok _ fun v F1 e1 ok1 r1 => hb F1 M σ ok1 _ fun w F2 e2 ok2 r2 => hr F2 M ok2.c v w (r1.ex e2) r2 _ fun u F3 e3 okc r3 => by
    cases r3
    refine ⟨b, rfl, ?_⟩
    have ok3 := ok2.cells_to e3 okc
    cases b with
    | true => exact hc rfl F3 M σ ok3 _ fun u F4 e4 ok4 r4 => hr' rfl F4 M ok4.c w u (r2.ex (e3.trans e4)) r4 Q fun t F5 e5 okd r5 => q t F5 ((((e1.trans e2).trans e3).trans e4).trans e5) (ok4.cells_to e5 okd) r5
    | false => exact q _ F3 ((e1.trans e2).trans e3) ok3 (.bl false)
def xIn (K : PySem.W.Frag) : R2 := rIn K false
def xNotIn (K : PySem.W.Frag) : R2 := rIn K true
theorem op_xNotIn {X : Cx} : OpR X (compareOp .NotIn) (xNotIn X.K) := op_notIn_seq
theorem inV_ints (i : Int) : ∀ is : List Int, inV (.int i) (is.map V.int) = decide (i ∈ is)
  | [] => rfl
  | j :: is => by
    have ih := inV_ints i is
    unfold inV at ih ⊢
    rw [List.map_cons, List.any_cons, ih, show eqV (.int j) (.int i) = (j == i) from rfl]
    by_cases h : i = j
    · subst h
      rw [beq_self_eq_true, Bool.true_or, decide_eq_true (List.mem_cons_self)]
    · rw [beq_eq_false_iff_ne.mpr (Ne.symm h), Bool.false_or]
      by_cases h2 : i ∈ is
      · rw [decide_eq_true h2, decide_eq_true (List.mem_cons_of_mem _ h2)]
      · rw [decide_eq_false h2, decide_eq_false fun q => (List.mem_cons.mp q).elim h h2]
theorem flat_ints : ∀ is : List Int, (is.map V.int).all flatV = true
  | [] => rfl
  | _ :: is => by rw [List.map_cons, List.all_cons, flat_ints is]; rfl
theorem r_in {i : Int} {is : List Int} (hy : RdQ C y (is.map .int)) : R2k fm (xIn fm.K) (.d (.int i)) y C (.d (.bool (decide (i ∈ is)))) := fun F M ok v w r1 r2 Q q => by
  cases r1
  obtain ⟨a, vs, e, h, s⟩ := hy.get ok r2
  have e2 := rpA_ints s
  subst e2
  refine ⟨a, _, e, .inl h, rfl, flat_ints is, ?_⟩
  rw [inV_ints]
  exact q _ F (Ex.refl F) ok (.bl _)
theorem r_notIn {i : Int} {is : List Int} (hy : RdQ C y (is.map .int)) : R2k fm (xNotIn fm.K) (.d (.int i)) y C (.d (.bool (!decide (i ∈ is)))) := fun F M ok v w r1 r2 Q q => by
  cases r1
  obtain ⟨a, vs, e, h, s⟩ := hy.get ok r2
  have e2 := rpA_ints s
  subst e2
  refine ⟨a, _, e, .inl h, rfl, flat_ints is, ?_⟩
  rw [inV_ints]
  exact q _ F (Ex.refl F) ok (.bl _)
def xIx (K : PySem.W.Frag) : R2 := rIx K
theorem ix_x {X : Cx} : IxR X (xIx X.K) := ix_seq
def pyIx (n : Nat) (i : Int) : Nat := if 0 ≤ i then i.toNat else (i + n).toNat
theorem ixN_py {n : Nat} {i : Int} (h1 : -(n : Int) ≤ i) (h2 : i < n) : ixN n i = some (pyIx n i) := by
  unfold ixN pyIx
  by_cases h : 0 ≤ i
  · rw [if_pos h, if_pos h, if_pos h2]
  · rw [if_neg h, if_neg h, if_pos h1]
theorem pyIx_lt {n : Nat} {i : Int} (h1 : -(n : Int) ≤ i) (h2 : i < n) : pyIx n i < n := by
  unfold pyIx
  split <;> omega
theorem r_ix {i : Int} {d : PyData} (hx : RdQ C x ds) (h1 : -(ds.length : Int) ≤ i) (h2 : i < ds.length) (hd : ds[pyIx ds.length i]? = some d) : R2k fm (xIx fm.K) x (.d (.int i)) C (.d d) := fun F M ok v w r1 r2 Q q => by
  cases r2
  obtain ⟨a, vs, e, h, s⟩ := hx.get ok r1
  obtain ⟨u, hu, ru⟩ := s.get hd
  refine .inl ⟨a, vs, i, u, e, rfl, h, ?_, ?_⟩
  · unfold atI
    rw [s.length, ixN_py h1 h2]
    exact hu
  · exact q u F (Ex.refl F) ok ru
end
end Rr
namespace Rr
open PySem L2
structure IterOk (K : PySem.W.Frag) (P : Hp → Hp → Prop) (J : L2.It) (F1 : Hp) {α : Type} (xs : List α) (enc : α → It) : Prop where
  go : ∀ (i : Nat) (F' M' : Hp), Ex F1 F' → Dj M' F' → P M' F' → i < xs.length → J.go i (ov M' F')
  stop : ∀ (i : Nat) (F' M' : Hp), Ex F1 F' → Dj M' F' → P M' F' → xs.length ≤ i → J.stop i (ov M' F')
  yld : ∀ (i : Nat) (F' M' : Hp) (x : V) (H' : Hp) (a : α), Ex F1 F' → Dj M' F' → P M' F' → xs[i]? = some a → J.yld i (ov M' F') x H' → ∃ F'', Ex F' F'' ∧ Dj M' F'' ∧ H' = ov M' F'' ∧ RpI K F'' x (enc a)
/-- walks these; P: what the walk asks of the heap meanwhile -/
def EvI (fm : Fm) (wi : TI) (G : Gm) (C : Cs) (P : Hp → Hp → Prop) {α : Type} (xs : List α) (enc : α → It) : Prop :=
  ∀ F M σ, Ok fm F M G σ C → ∀ R : L2.It → Hp → Prop, (∀ J F1, Ex F F1 → Ok fm F1 M G σ C → IterOk fm.K P J F1 xs enc → R J (ov M F1)) → wi σ (ov M F) R
def PT0 : Hp → Hp → Prop := fun _ _ => True
section
variable {fm : Fm} {F F' M M' : Hp} {G G' : Gm} {σ : St} {C C' : Cs}
variable {te ta tb tc : TE} {tt tu : TT} {tr : TA} {x y z it : It} {ds es : List PyData} {k : It → Cs → Prop} {kb : Bool → Cs → Prop} {ka : List It → Cs → Prop} {α β : Type}
theorem iter_data {K : PySem.W.Frag} {F1 : Hp} {a : Addr} {vs : List V} {xs : List α} {enc : α → PyData} (hF : F1 a = some (.lst vs)) (rv : RpA F1 vs (xs.map enc)) : IterOk K PT0 (Itl K a) F1 xs (fun a => .d (enc a)) where
  go := fun i F' M' e j _ hi => by
    have h1 : ov M' F' a = some (.lst vs) := j.ex (e _ _ hF)
    have hl : vs.length = xs.length := by rw [rv.length, List.length_map]
    exact ⟨vs, vs[i], SqL.of h1, by simp [hl, hi]⟩
  stop := fun i F' M' e j _ hi => by
    have h1 : ov M' F' a = some (.lst vs) := j.ex (e _ _ hF)
    have hl : vs.length = xs.length := by rw [rv.length, List.length_map]
    exact ⟨vs, SqL.of h1, by omega⟩
  yld := fun i F' M' x H' b e j _ hb ⟨e1, y⟩ => by
    have h1 : ov M' F' a = some (.lst vs) := j.ex (e _ _ hF)
    have h2 := y vs (SqL.of h1)
    obtain ⟨d, hd, rd⟩ := rv.getV h2
    rw [List.getElem?_map, hb] at hd
    cases hd
    exact ⟨F', Ex.refl F', j, e1, rd.ex e⟩
theorem ei_list {tl : TE} {xs : List α} {enc : α → PyData} (h : Ev fm tl G C (.d (.list (xs.map enc)))) : EvI fm (iList fm.K tl) G C PT0 xs (fun a => .d (enc a)) := fun F M σ ok R q => h F M σ ok _ fun v F1 e1 ok1 r1 => by
  cases r1 with
  | lst hF rv => exact ⟨_, rfl, ⟨_, SqL.of (ok1.c.dj.ex hF)⟩, q _ F1 e1 ok1 (iter_data hF rv)⟩
theorem iter_rng {K : PySem.W.Frag} {F1 : Hp} {lo : Int} {n : Nat} : IterOk K PT0 (Itr lo n) F1 (List.range n) (fun i => .d (.int (lo + (i : Int)))) where
  go := fun i F' M' e j _ hi => by rw [List.length_range] at hi; exact hi
  stop := fun i F' M' e j _ hi => by rw [List.length_range] at hi; exact hi
  yld := fun i F' M' x H' b e j _ hb ⟨e1, y⟩ => by
    rw [List.getElem?_range (by have := (List.getElem?_eq_some_iff.mp hb).1; rwa [List.length_range] at this)] at hb
    cases hb
    subst y
    exact ⟨F', Ex.refl F', j, e1, .int _⟩
theorem ei_range1 {n : Int} (h : EvA fm tr G C [.d (.int n)]) (h1 : -1000000000 ≤ n) (h2 : n ≤ 1000000000) : EvI fm (iRng1 tr) G C PT0 (List.range n.toNat) (fun i => .d (.int (i : Int))) := fun F M σ ok R q => h F M σ ok _ fun vs F1 e1 ok1 r1 => by
  cases r1 with
  | cons a r =>
    cases r; cases a
    refine ⟨n, rfl, by omega, by omega, q _ F1 e1 ok1 ?_⟩
    have z := iter_rng (K := fm.K) (F1 := F1) (lo := 0) (n := n.toNat)
    have e : (fun i : Nat => It.d (.int (0 + (i : Int)))) = fun i : Nat => It.d (.int (i : Int)) := by funext i; rw [Int.zero_add]
    rw [e] at z
    exact z
theorem ei_range2 {n m : Int} (h : EvA fm tr G C [.d (.int n), .d (.int m)]) (h1 : -1000000000 ≤ n ∧ n ≤ 1000000000) (h2 : -1000000000 ≤ m ∧ m ≤ 1000000000) : EvI fm (iRng2 tr) G C PT0 (List.range (m - n).toNat) (fun i => .d (.int (n + (i : Int)))) := fun F M σ ok R q => h F M σ ok _ fun vs F1 e1 ok1 r1 => by
  cases r1 with
  | cons a r =>
    cases a
    cases r with
    | cons a r =>
      cases a; cases r
      exact ⟨n, m, rfl, by omega, q _ F1 e1 ok1 iter_rng⟩
theorem iter_rngC {K : PySem.W.Frag} {F1 : Hp} {lo c : Int} {n : Nat} : IterOk K PT0 (Itc lo c n) F1 (List.range n) (fun i => .d (.int (lo + (i : Int) * c))) where
  go := fun i F' M' e j _ hi => by rw [List.length_range] at hi; exact hi
  stop := fun i F' M' e j _ hi => by rw [List.length_range] at hi; exact hi
  yld := fun i F' M' x H' b e j _ hb ⟨e1, y⟩ => by
    rw [List.getElem?_range (by have := (List.getElem?_eq_some_iff.mp hb).1; rwa [List.length_range] at this)] at hb
    cases hb
    subst y
    exact ⟨F', Ex.refl F', j, e1, .int _⟩
/-- range(a, b, -1) -/
theorem ei_rangeD {n m : Int} (h : EvA fm tr G C [.d (.int n), .d (.int m), .d (.int (-1))]) (h1 : -1000000000 ≤ n ∧ n ≤ 1000000000) (h2 : -1000000000 ≤ m ∧ m ≤ 1000000000) : EvI fm (iRng3 tr) G C PT0 (List.range (n - m).toNat) (fun i => .d (.int (n - (i : Int)))) := fun F M σ ok R q => h F M σ ok _ fun vs F1 e1 ok1 r1 => by
  cases r1 with
  | cons a r =>
    cases a
    cases r with
    | cons a r =>
      cases a
      cases r with
      | cons a r =>
        cases a; cases r
        refine ⟨n, m, -1, (n - m).toNat, rfl, RgC.neg (by omega) (by omega) (by omega) (by omega), q _ F1 e1 ok1 ?_⟩
        have z := iter_rngC (K := fm.K) (F1 := F1) (lo := n) (c := -1) (n := (n - m).toNat)
        have e : (fun i : Nat => It.d (.int (n + (i : Int) * (-1)))) = fun i : Nat => It.d (.int (n - (i : Int))) := by funext i; congr 2; omega
        rw [e] at z
        exact z
/-- enumerate(list), zip(list, list) -/
theorem ei_enum {xs : List α} {enc : α → PyData} (h : EvA fm tr G C [.d (.list (xs.map enc))]) : EvI fm (iEnum fm.K tr) G C PT0 xs.zipIdx (fun a => .d (.tuple [.int (a.2 : Int), enc a.1])) := fun F M σ ok R q => h F M σ ok _ fun vs F1 e1 ok1 r1 => by
  cases r1 with
  | cons a r =>
    cases r
    cases a with
    | lst hF rv =>
      rename_i a ws
      have hl : ws.length = xs.length := by rw [rv.length, List.length_map]
      refine ⟨a, ws, rfl, SqL.of (ok1.c.dj.ex hF), q _ F1 e1 ok1 ⟨fun i F' M' e j _ hi => ?_, fun i F' M' e j _ hi => ?_, fun i F' M' x H' b e j _ hb y => ?_⟩⟩
      · rw [List.length_zipIdx] at hi
        exact ⟨ws, ws[i], SqL.of (j.ex (e _ _ hF)), by simp [hl, hi]⟩
      · rw [List.length_zipIdx] at hi
        exact ⟨ws, SqL.of (j.ex (e _ _ hF)), by omega⟩
      · obtain ⟨T, u, e2, hT, e3, hx⟩ := y
        have h2 := hx ws (SqL.of (j.ex (e _ _ hF)))
        obtain ⟨d, hd, rd⟩ := rv.getV h2
        rw [List.getElem?_zipIdx] at hb
        rw [List.getElem?_map] at hd
        cases q : xs[i]? with
        | none =>
          rw [q] at hb
          cases hb
        | some b0 =>
          rw [q] at hb hd
          cases hb
          cases hd
          obtain ⟨hM, hF2⟩ := ov_none hT
          refine ⟨upd F' T (.tup [.int (i : Nat), u]), Ex.new hF2, fun a o q => ?_, by rw [e3, ov_updF hM], ?_⟩
          · have hne : a ≠ T := ne_of_none q hM
            rw [upd_ne hne]
            exact j a o q
          · subst e2
            have z := rpI_newT (fm := fm) (ds := [.int (i : Int), enc b0]) hF2 (.cons (.int _) (.cons (rd.ex e) .nil))
            simpa using z
theorem ei_zip {xs : List α} {ys : List β} {e1 : α → PyData} {e2 : β → PyData} (h : EvA fm tr G C [.d (.list (xs.map e1)), .d (.list (ys.map e2))]) : EvI fm (iZip fm.K tr) G C PT0 (xs.zip ys) (fun a => .d (.tuple [e1 a.1, e2 a.2])) := fun F M σ ok R q => h F M σ ok _ fun vs F1 ee ok1 r1 => by
  cases r1 with
  | cons a r =>
    cases r with
    | cons a' r =>
      cases r
      cases a with
      | lst hF rv =>
        cases a' with
        | lst hF' rv' =>
          rename_i a ws a' ws'
          have hl : ws.length = xs.length := by rw [rv.length, List.length_map]
          have hl' : ws'.length = ys.length := by rw [rv'.length, List.length_map]
          refine ⟨a, a', ws, ws', rfl, SqL.of (ok1.c.dj.ex hF), SqL.of (ok1.c.dj.ex hF'), q _ F1 ee ok1 ⟨fun i F' M' e j _ hi => ?_, fun i F' M' e j _ hi => ?_, fun i F' M' x H' b e j _ hb y => ?_⟩⟩
          · rw [List.length_zip] at hi
            have hi1 : i < ws.length := by omega
            have hi2 : i < ws'.length := by omega
            exact ⟨ws, ws', ws[i], ws'[i], SqL.of (j.ex (e _ _ hF)), SqL.of (j.ex (e _ _ hF')), by simp [hi1], by simp [hi2]⟩
          · rw [List.length_zip] at hi
            exact ⟨ws, ws', SqL.of (j.ex (e _ _ hF)), SqL.of (j.ex (e _ _ hF')), by omega⟩
          · obtain ⟨T, u, w, ex, hT, e3, hx, hy⟩ := y
            have h2 := hx ws (SqL.of (j.ex (e _ _ hF)))
            have h3 := hy ws' (SqL.of (j.ex (e _ _ hF')))
            obtain ⟨d, hd, rd⟩ := rv.getV h2
            obtain ⟨d', hd', rd'⟩ := rv'.getV h3
            rw [List.getElem?_map] at hd hd'
            obtain ⟨hb1, hb2⟩ := List.getElem?_zip_eq_some.mp hb
            rw [hb1] at hd
            rw [hb2] at hd'
            cases hd; cases hd'
            obtain ⟨hM, hF2⟩ := ov_none hT
            refine ⟨upd F' T (.tup [u, w]), Ex.new hF2, fun a o q => ?_, by rw [e3, ov_updF hM], ?_⟩
            · have hne : a ≠ T := ne_of_none q hM
              rw [upd_ne hne]
              exact j a o q
            · subst ex
              exact rpI_newT (fm := fm) (ds := [e1 b.1, e2 b.2]) hF2 (.cons (rd.ex e) (.cons (rd'.ex e) .nil))
/-- the target takes the item: the names then hold G2 -/
def Tg (g : TG) (it : It) (G G2 : Gm) : Prop := ∀ (fm : Fm) (F M : Hp) (σ : St) (C : Cs), Ok fm F M G σ C → ∀ v, RpI fm.K F v it → ∀ Q : St → Hp → Prop, (∀ σ2, Ok fm F M G2 σ2 C → Q σ2 (ov M F)) → g v σ (ov M F) Q
/-- in a comprehension: the names are its own -/
def Tgw (g : TG) (vs : List Nat) (it : It) (G G2 : Gm) : Prop := ∀ (fm : Fm) (F M : Hp) (σ : St) (C : Cs), Ok fm F M G σ C → ∀ v, RpI fm.K F v it → ∀ Q : St → Hp → Prop, (∀ σ2, Ok fm F M G2 σ2 C → wipe σ2 vs = wipe σ vs → Q σ2 (ov M F)) → g v σ (ov M F) Q
def wipeG (G : Gm) : List Nat → Gm
  | [] => G
  | v :: vs => (wipeG G vs).set v none
theorem Ok.forget (h : Ok fm F M G σ C) (i : Nat) (w : Option V) : Ok fm F M (G.set i none) (σ.set i w) C := by
  refine ⟨h.c, by rw [List.length_set, List.length_set, h.len], fun j jt e => ?_⟩
  by_cases hj : i = j
  · subst hj
    by_cases hl : i < G.length
    · rw [List.getElem?_set_self hl] at e
      cases e
    · rw [List.getElem?_eq_none (by rw [List.length_set]; omega)] at e
      cases e
  · rw [List.getElem?_set_ne hj] at e ⊢
    exact h.slot j jt e
theorem Ok.wipe (h : Ok fm F M G σ C) : ∀ vs : List Nat, Ok fm F M (wipeG G vs) (L2.wipe σ vs) C
  | [] => h
  | v :: vs => (Ok.wipe h vs).forget v none
theorem wipe_out {x : Option V} {j : Nat} : ∀ {vs : List Nat} {σ : St}, j ∉ vs → wipe (σ.set j x) vs = (wipe σ vs).set j x
  | [], σ, _ => rfl
  | v :: vs, σ, h => by
    have h1 : j ≠ v := fun e => h (by rw [e]; exact List.mem_cons_self)
    show (wipe (σ.set j x) vs).set v none = ((wipe σ vs).set v none).set j x
    rw [wipe_out (fun e => h (List.mem_cons_of_mem _ e)), List.set_comm _ _ h1]
theorem wipe_in {x : Option V} {j : Nat} : ∀ {vs : List Nat} {σ : St}, j ∈ vs → wipe (σ.set j x) vs = wipe σ vs
  | [], σ, h => by cases h
  | v :: vs, σ, h => by
    show (wipe (σ.set j x) vs).set v none = (wipe σ vs).set v none
    by_cases h2 : j ∈ vs
    · rw [wipe_in h2]
    · have e : j = v := (List.mem_cons.mp h).elim id fun z => absurd z h2
      subst e
      rw [wipe_out h2, List.set_set]
theorem wipe_wipe : ∀ {vs : List Nat} {ws : List Nat} {σ : St}, (∀ v ∈ ws, v ∈ vs) → wipe (wipe σ ws) vs = wipe σ vs
  | vs, [], σ, _ => rfl
  | vs, w :: ws, σ, h => by
    show wipe ((wipe σ ws).set w none) vs = wipe σ vs
    rw [wipe_in (h w List.mem_cons_self), wipe_wipe fun v hv => h v (List.mem_cons_of_mem _ hv)]
theorem tg_name {j : Nat} : Tg (gName j) it G (G.set j (some it)) := fun fm F M σ C ok v r Q q => q _ (ok.set r)
theorem tgw_name {j : Nat} {vs : List Nat} (h : j ∈ vs) : Tgw (gName j) vs it G (G.set j (some it)) := fun fm F M σ C ok v r Q q => q _ (ok.set r) (wipe_in h)
/-- a, b = a pair of data -/
theorem tg_two {K : PySem.W.Frag} {i j : Nat} {d e : PyData} : Tg (gTup K 2 (gCons (gName i) (gCons (gName j) gNil))) (.d (.tuple [d, e])) G ((G.set i (some (.d d))).set j (some (.d e))) := fun fm F M σ C ok v r Q q => by
  cases r with
  | tup hF rv =>
    cases rv with
    | cons r1 rv =>
      cases rv with
      | cons r2 rv =>
        cases rv
        refine ⟨_, _, rfl, SqT.of (ok.c.dj.ex hF), rfl, _, _, rfl, _, _, rfl, rfl, q _ ?_⟩
        exact (ok.set (it := .d d) r1).set (it := .d e) r2
theorem tgw_two {K : PySem.W.Frag} {i j : Nat} {vs : List Nat} {d e : PyData} (h1 : i ∈ vs) (h2 : j ∈ vs) : Tgw (gTup K 2 (gCons (gName i) (gCons (gName j) gNil))) vs (.d (.tuple [d, e])) G ((G.set i (some (.d d))).set j (some (.d e))) := fun fm F M σ C ok v r Q q => by
  cases r with
  | tup hF rv =>
    cases rv with
    | cons r1 rv =>
      cases rv with
      | cons r2 rv =>
        cases rv
        refine ⟨_, _, rfl, SqT.of (ok.c.dj.ex hF), rfl, _, _, rfl, _, _, rfl, rfl, q _ ?_ ?_⟩
        · exact (ok.set (it := .d d) r1).set (it := .d e) r2
        · rw [wipe_in h2, wipe_in h1]
end
end Rr
namespace Rr
open PySem L2
section
variable {fm : Fm} {F F' M M' : Hp} {G G' : Gm} {σ : St} {C C' : Cs}
variable {te ta tb tc : TE} {tt tu : TT} {tr : TA} {x y z it : It} {ds es : List PyData} {k : It → Cs → Prop} {kb : Bool → Cs → Prop} {ka : List It → Cs → Prop} {α β : Type}
theorem OkC.weak {F1 : Hp} (e : Ex fm.F0 F1) (h : OkC ⟨fm.K, fm.M0, F1⟩ F M C) : OkC fm F M C := ⟨e.trans h.ex, h.cells, h.out, h.rest, h.nd, h.dj⟩
theorem Ok.weak {F1 : Hp} (e : Ex fm.F0 F1) (h : Ok ⟨fm.K, fm.M0, F1⟩ F M G σ C) : Ok fm F M G σ C := ⟨h.c.weak e, h.len, h.slot⟩
theorem OkC.based {F1 : Hp} (h : OkC fm F M C) (e : Ex F1 F) : OkC ⟨fm.K, fm.M0, F1⟩ F M C := ⟨e, h.cells, h.out, h.rest, h.nd, h.dj⟩
theorem Ok.based {F1 : Hp} (h : Ok fm F M G σ C) (e : Ex F1 F) : Ok ⟨fm.K, fm.M0, F1⟩ F M G σ C := ⟨h.c.based e, h.len, h.slot⟩
theorem At.weak {P : St → Hp → Prop} {F1 : Hp} (e : Ex fm.F0 F1) (h : At fm P G C) : At ⟨fm.K, fm.M0, F1⟩ P G C := fun F M σ ok => h F M σ (ok.weak e)
theorem Rt.weak {P : VK} {F1 : Hp} (e : Ex fm.F0 F1) (h : Rt fm P it C) : Rt ⟨fm.K, fm.M0, F1⟩ P it C := fun F M v ok r => h F M v (ok.weak e) r
variable {D : Ends} {ts tu' tw : TS} {P : St → Hp → Prop}
/-- what follows is shown once, from Mid -/
theorem at_cut (Mid : Gm → Cs → Prop) (h : ∀ N, (∀ G' C', Mid G' C' → At fm N G' C') → At fm (ts { D with nx := N }) G C) (k : ∀ G' C', Mid G' C' → At fm (tw D) G' C') : At fm (tSeq ts tw D) G C := h (tw D) k
theorem at_set {i : Nat} (h : Ev fm te G C it) (k : At fm D.nx (G.set i (some it)) C) : At fm (tAsg te (gName i) D) G C := fun F M σ ok => h F M σ ok _ fun v F1 e1 ok1 r1 => k F1 M _ (ok1.set r1)
theorem at_setW {i : Nat} (h : W fm te G C fun it C1 => At fm D.nx (G.set i (some it)) C1) : At fm (tAsg te (gName i) D) G C := fun F M σ ok => h F M σ ok _ fun v it C1 F1 M1 e1 ok1 r1 hk => hk F1 M1 _ (ok1.set r1)
theorem at_setL {i : Nat} (h : EvL fm te G C ds) (k : ∀ p, At fm D.nx (G.set i (some (.c p))) (C ++ [(p, .dat ds)])) : At fm (tAsg te (gName i) D) G C := at_setW (W.ofL h k)
/-- a, b = x, y -/
theorem at_par {i j : Nat} (h : WA fm tr G C fun its C1 => ∃ x y, its = [x, y] ∧ At fm D.nx ((G.set i (some x)).set j (some y)) C1) : At fm (tPar i j tr D) G C := fun F M σ ok => h F M σ ok _ fun vs its C1 F1 M1 e1 ok1 r1 ⟨x, y, e, hk⟩ => by
  subst e
  cases r1 with
  | cons r1 r =>
    cases r with
    | cons r2 r =>
      cases r
      exact ⟨_, _, rfl, hk F1 M1 _ ((ok1.set r1).set r2)⟩
theorem at_ret (h : Ev fm te G C it) (k : Rt fm D.rt it C) : At fm (tRet te D) G C := fun F M σ ok => h F M σ ok _ fun v F1 e1 ok1 r1 => k F1 M v ok1.c r1
theorem at_retW (h : W fm te G C fun it C1 => Rt fm D.rt it C1) : At fm (tRet te D) G C := fun F M σ ok => h F M σ ok _ fun v it C1 F1 M1 e1 ok1 r1 k => k F1 M1 v ok1.c r1
theorem at_retL (h : EvL fm te G C ds) (k : ∀ p, Rt fm D.rt (.c p) (C ++ [(p, .dat ds)])) : At fm (tRet te D) G C := at_retW (W.ofL h k)
theorem at_end {Q : VK} (k : Rt fm Q (.d .none) C) : At fm (fun _ H' => Q .non H') G C := fun F M σ ok => k F M _ ok.c .non
theorem at_if {b : Bool} (h : EvT fm tt G C b) (h1 : b = true → At fm (ts D) G C) (h2 : b = false → At fm (tw D) G C) : At fm (tIfS tt ts tw D) G C := fun F M σ ok => h F M σ ok _ fun F1 e1 ok1 => by
  cases b with
  | true => exact h1 rfl F1 M σ ok1
  | false => exact h2 rfl F1 M σ ok1
theorem at_ifW (h : WT fm tt G C fun b C1 => (b = true → At fm (ts D) G C1) ∧ (b = false → At fm (tw D) G C1)) : At fm (tIfS tt ts tw D) G C := fun F M σ ok => h F M σ ok _ fun b C1 F1 M1 e1 ok1 ⟨h1, h2⟩ => by
  cases b with
  | true => exact h1 rfl F1 M1 σ ok1
  | false => exact h2 rfl F1 M1 σ ok1
theorem at_drop (h : W fm te G C fun _ C1 => At fm D.nx G C1) : At fm (tDrop te D) G C := fun F M σ ok => h F M σ ok _ fun v it C1 F1 M1 e1 ok1 r1 hk => hk F1 M1 _ ok1
/-- a list cell is data from here on: its name holds the data -/
theorem at_frz {i j : Nat} {p : Addr} (hi : G[i]? = some (some (.c p))) (hj : C[j]? = some (p, .dat ds)) (h : At fm P (G.set i (some (.d (.list ds)))) (C.eraseIdx j)) : At fm P G C := fun F M σ ok => by
  obtain ⟨F', M', a, b, c, d⟩ := ok.c.frz hj
  obtain ⟨v, e, r⟩ := ok.slot i _ hi
  have e2 : v = .ref p := r
  subst e2
  rw [← b]
  have ok1 : Ok fm F' M' G σ (C.eraseIdx j) := ok.cells_to c a
  have z := ok1.set (i := i) (v := .ref p) (it := .d (.list ds)) d
  have hs : σ.set i (some (.ref p)) = σ := by
    obtain ⟨hl, ee⟩ := List.getElem?_eq_some_iff.mp e
    rw [← ee]
    exact List.set_getElem_self hl
  rw [hs] at z
  exact h F' M' σ z
section
variable {j : Nat} {p : Addr}
theorem tyL {K : PySem.W.Frag} {H : Hp} {a : Addr} {xs : List V} (h : H a = some (.lst xs)) : tyV K "list" (.ref a) H := Or.inl ⟨rfl, _, Or.inl (Or.inl h)⟩
/-- x.append(e): e data -/
theorem w_append {d : PyData} (hx : Ev fm ta G C (.c p)) (hj : C[j]? = some (p, .dat ds)) (he : Ev fm te G C (.d d)) (hz : ds.length < 16777216) (hk : k (.d .none) (C.set j (p, .dat (ds ++ [d])))) :
    W fm (tBM fm.K "list" rAppend ta (tCons te tNil)) G C k := fun F M σ ok Q q => hx F M σ ok _ fun v F1 e1 ok1 r1 => by
  have e : v = .ref p := r1
  subst e
  obtain ⟨vs, hp, rv⟩ := ok1.c.cells _ (List.mem_of_getElem? hj)
  refine ⟨tyL (ov_M hp), ?_⟩
  refine he F1 M σ ok1 _ fun w F2 e2 ok2 r2 => ?_
  have hl := rv.length
  obtain ⟨a, b⟩ := ok2.put (o := .lst (vs ++ [w])) (c' := .dat (ds ++ [d])) hj ⟨_, rfl, (rv.ex e2).append (.cons r2 .nil)⟩
  refine ⟨p, vs, w, rfl, rfl, ov_M hp, by rw [sizeLine_eq, hl]; exact hz, ?_⟩
  rw [← b]
  exact q _ (.d .none) _ _ _ (e1.trans e2) a (show RpI fm.K F2 .non (.d .none) from .non) hk
theorem w_extend (hx : Ev fm ta G C (.c p)) (hj : C[j]? = some (p, .dat ds)) (he : Ev fm te G C y) (hy : RdD C y es) (hz : ds.length + es.length ≤ 16777216) (hk : k (.d .none) (C.set j (p, .dat (ds ++ es)))) :
    W fm (tBM fm.K "list" rExtend ta (tCons te tNil)) G C k := fun F M σ ok Q q => hx F M σ ok _ fun v F1 e1 ok1 r1 => by
  have e : v = .ref p := r1
  subst e
  obtain ⟨vs, hp, rv⟩ := ok1.c.cells _ (List.mem_of_getElem? hj)
  refine ⟨tyL (ov_M hp), ?_⟩
  refine he F1 M σ ok1 _ fun w F2 e2 ok2 r2 => ?_
  obtain ⟨b, ws, e3, hb, rw'⟩ := hy.get ok2.c r2
  have hl := rv.length
  have hl' := rw'.length
  obtain ⟨a, b'⟩ := ok2.put (o := .lst (vs ++ ws)) (c' := .dat (ds ++ es)) hj ⟨_, rfl, (rv.ex e2).append rw'⟩
  refine ⟨p, b, vs, ws, rfl, by rw [e3], ov_M hp, hb, by rw [sizeLine_eq, hl, hl']; exact hz, ?_⟩
  rw [← b']
  exact q _ (.d .none) _ _ _ (e1.trans e2) a (show RpI fm.K F2 .non (.d .none) from .non) hk
/-- x[i] = e: e data -/
theorem at_put {i : Int} {d : PyData} (he : Ev fm te G C (.d d)) (hx : Ev fm ta G C (.c p)) (hi : Ev fm tb G C (.d (.int i))) (hj : C[j]? = some (p, .dat ds)) (h1 : -(ds.length : Int) ≤ i) (h2 : i < ds.length)
    (hk : At fm D.nx G (C.set j (p, .dat (ds.set (pyIx ds.length i) d)))) : At fm (tAsg te (gSub ta tb rSetL) D) G C := fun F M σ ok => he F M σ ok _ fun w F1 e1 ok1 r1 => hx F1 M σ ok1 _ fun v F2 e2 ok2 r2 => hi F2 M σ ok2 _ fun u F3 e3 ok3 r3 => by
  have e : v = .ref p := r2
  subst e
  cases r3
  obtain ⟨vs, hp, rv⟩ := ok3.c.cells _ (List.mem_of_getElem? hj)
  have hl := rv.length
  have sv : RpA F3 (vs.set (pyIx ds.length i) w) (ds.set (pyIx ds.length i) d) := by
    have z := RpIs.set (K := fm.K) (d := .d d) (show RpI fm.K F3 w (.d d) from Rp.ex (e2.trans e3) r1) (pyIx ds.length i) (RpIs.to_data rv)
    rw [← List.map_set] at z
    exact RpIs.of_data z
  obtain ⟨a, b⟩ := ok3.put (o := .lst (vs.set (pyIx ds.length i) w)) (c' := .dat (ds.set (pyIx ds.length i) d)) hj ⟨_, rfl, sv⟩
  refine ⟨p, vs, i, pyIx ds.length i, rfl, rfl, ov_M hp, by rw [hl]; exact ixN_py h1 h2, ?_⟩
  rw [← b]
  exact hk _ _ _ a
end
theorem at_for {wi : TI} {g : TG} {Pp : Hp → Hp → Prop} {xs : List α} {enc : α → It} (hi : EvI fm wi G C Pp xs enc) (Iv : Nat → Gm → Cs → Prop) (h0 : Iv 0 G C)
    (hP : ∀ i G' C', Iv i G' C' → ∀ F' M', OkC fm F' M' C' → Pp M' F')
    (hs : ∀ F1, Ex fm.F0 F1 → ∀ i a G' C', xs[i]? = some a → Iv i G' C' → ∃ G2, Tg g (enc a) G' G2 ∧ ∀ N, (∀ G3 C3, Iv (i + 1) G3 C3 → At ⟨fm.K, fm.M0, F1⟩ N G3 C3) → At ⟨fm.K, fm.M0, F1⟩ (ts { D with nx := N, ct := N, bk := D.nx }) G2 C')
    (hd : ∀ G' C', Iv xs.length G' C' → At fm D.nx G' C') : At fm (tFor wi g ts D) G C := fun F M σ ok => hi F M σ ok _ fun J F1 e1 ok1 io => by
  refine ⟨fun i m σ' H' => m = xs.length - i ∧ i ≤ xs.length ∧ ∃ F' M' G' C', Ok ⟨fm.K, fm.M0, F1⟩ F' M' G' σ' C' ∧ Iv i G' C' ∧ H' = ov M' F', ⟨xs.length, by omega, Nat.zero_le _, F1, M, G, C, ok1.based (Ex.refl F1), h0, rfl⟩, ?_⟩
  rintro i m σ' H' ⟨rfl, hle, F', M', G', C', ok', iv, rfl⟩
  have ex1 : Ex fm.F0 F1 := ok1.c.ex
  have hp : Pp M' F' := hP i G' C' iv F' M' (ok'.c.weak ex1)
  by_cases hlt : i < xs.length
  · refine .inr ⟨io.go i F' M' ok'.c.ex ok'.c.dj hp hlt, fun σ3 H3 => ∃ F3 M3 G3 C3, Ok ⟨fm.K, fm.M0, F1⟩ F3 M3 G3 σ3 C3 ∧ Iv (i + 1) G3 C3 ∧ H3 = ov M3 F3, ?_, ?_⟩
    · rintro σ3 H3 ⟨F3, M3, G3, C3, ok3, iv3, rfl⟩
      exact ⟨xs.length - (i + 1), by omega, rfl, hlt, F3, M3, G3, C3, ok3, iv3, rfl⟩
    · intro x H3 hy
      have ha : xs[i]? = some xs[i] := List.getElem?_eq_getElem hlt
      obtain ⟨F3, e3, j3, rfl, r3⟩ := io.yld i F' M' x H3 xs[i] ok'.c.ex ok'.c.dj hp ha hy
      have ok3 : Ok ⟨fm.K, fm.M0, F1⟩ F3 M' G' σ' C' := ok'.grow e3 j3
      obtain ⟨G2, hg, hb⟩ := hs F1 ex1 i xs[i] G' C' ha iv
      refine hg ⟨fm.K, fm.M0, F1⟩ F3 M' σ' C' ok3 x r3 _ fun σ2 ok2 => ?_
      refine hb _ (fun G4 C4 iv4 F4 M4 σ4 ok4 => ?_) F3 M' σ2 ok2
      exact ⟨F4, M4, G4, C4, ok4, iv4, rfl⟩
  · have e : i = xs.length := by omega
    subst e
    exact .inl ⟨io.stop _ F' M' ok'.c.ex ok'.c.dj hp (Nat.le_refl _), hd G' C' iv F' M' σ' (ok'.weak ex1)⟩
theorem at_while (Iv : Nat → Gm → Cs → Prop) {m0 : Nat} (h0 : Iv m0 G C)
    (hs : ∀ m G' C', Iv m G' C' → WT fm tt G' C' fun b C1 => (b = true → ∀ N, (∀ m' G3 C3, m' < m → Iv m' G3 C3 → At fm N G3 C3) → At fm (ts { D with nx := N, ct := N, bk := D.nx }) G' C1) ∧ (b = false → At fm D.nx G' C1)) : At fm (tWhile tt ts D) G C := fun F M σ ok => by
  refine ⟨fun m σ' H' => ∃ F' M' G' C', Ok fm F' M' G' σ' C' ∧ Iv m G' C' ∧ H' = ov M' F', ⟨m0, F, M, G, C, ok, h0, rfl⟩, ?_⟩
  rintro m σ' H' ⟨F', M', G', C', ok', iv, rfl⟩
  refine hs m G' C' iv F' M' σ' ok' _ fun b C1 F1 M1 e1 ok1 ⟨h1, h2⟩ => ?_
  cases b with
  | true =>
    refine ⟨fun σ3 H3 => ∃ m', m' < m ∧ ∃ F3 M3 G3 C3, Ok fm F3 M3 G3 σ3 C3 ∧ Iv m' G3 C3 ∧ H3 = ov M3 F3, ?_, ?_⟩
    · rintro σ3 H3 ⟨m', hm, q⟩
      exact ⟨m', hm, q⟩
    · refine h1 rfl _ (fun m' G3 C3 hm iv3 F3 M3 σ3 ok3 => ?_) F1 M1 σ' ok1
      exact ⟨m', hm, F3, M3, G3, C3, ok3, iv3, rfl⟩
  | false => exact h2 rfl F1 M1 σ' ok1
/-- the new list put aside -/
theorem Ok.addD (h : Ok fm F M G σ C) {Dl : Addr} {o : HO} (hD : ov M F Dl = none) : Ok ⟨fm.K, upd fm.M0 Dl o, F⟩ F (upd M Dl o) G σ C := by
  obtain ⟨hM, hF⟩ := ov_none hD
  have nin : ∀ x ∈ C, x.1 ≠ Dl := fun x hx e => by
    obtain ⟨u, q⟩ := (h.c.cells x hx).some
    rw [e, hM] at q
    cases q
  refine ⟨⟨Ex.refl F, fun x hx => ?_, fun x hx => ?_, fun a ha => ?_, h.c.nd, fun a u e => ?_⟩, h.len, h.slot⟩
  · rw [upd_ne (nin x hx)]
    exact h.c.cells x hx
  · show upd fm.M0 Dl o x.1 = none
    rw [upd_ne (nin x hx)]
    exact h.c.out x hx
  · show upd M Dl o a = upd fm.M0 Dl o a
    unfold upd
    by_cases e : a = Dl
    · rw [if_pos e, if_pos e]
    · rw [if_neg e, if_neg e]
      exact h.c.rest a ha
  · by_cases e2 : a = Dl
    · rw [e2]; exact hF
    · rw [upd_ne e2] at e
      exact h.c.dj a u e
/-- and taken back -/
theorem Ok.subD (h : Ok fm F M G σ C) {Dl : Addr} {o : HO} (hD : ov M F Dl = none) {F4 M4 : Hp} {G4 : Gm} {σ4 : St} {C4 : Cs} (k : Ok ⟨fm.K, upd fm.M0 Dl o, F⟩ F4 M4 G4 σ4 C4) :
    OkC fm F4 (era M4 Dl) C4 ∧ ov (era M4 Dl) F4 Dl = none ∧ ov M4 F4 = upd (ov (era M4 Dl) F4) Dl o := by
  obtain ⟨hM, hF⟩ := ov_none hD
  have nin : ∀ x ∈ C4, x.1 ≠ Dl := fun x hx e => by
    have z : upd fm.M0 Dl o x.1 = none := k.c.out x hx
    rw [e, upd_same] at z
    cases z
  have hM4 : M4 Dl = some o := by
    have z : M4 Dl = upd fm.M0 Dl o Dl := k.c.rest Dl nin
    rw [upd_same] at z
    exact z
  have hF4 : F4 Dl = none := k.c.dj Dl o hM4
  have h0 : fm.M0 Dl = none := by
    have nin0 : ∀ x ∈ C, x.1 ≠ Dl := fun x hx e => by
      obtain ⟨u, q⟩ := (h.c.cells x hx).some
      rw [e, hM] at q
      cases q
    rw [← h.c.rest Dl nin0]
    exact hM
  refine ⟨⟨h.c.ex.trans k.c.ex, fun x hx => ?_, fun x hx => ?_, fun a ha => ?_, k.c.nd, fun a u e => ?_⟩, ?_, ?_⟩
  · rw [era_ne (nin x hx)]
    exact k.c.cells x hx
  · have z : upd fm.M0 Dl o x.1 = none := k.c.out x hx
    rw [upd_ne (nin x hx)] at z
    exact z
  · by_cases e : a = Dl
    · rw [e, era_same, h0]
    · rw [era_ne e]
      have z : M4 a = upd fm.M0 Dl o a := k.c.rest a ha
      rw [upd_ne e] at z
      exact z
  · by_cases e2 : a = Dl
    · rw [e2, era_same] at e
      cases e
    · rw [era_ne e2] at e
      exact k.c.dj a u e
  · rw [ov_F era_same]
    exact hF4
  · funext a
    unfold ov era upd
    by_cases e : a = Dl
    · subst e
      simp [hM4]
    · simp [e]
/-- the core: Iv tells the turn, the list so far, the cells, the changing heap -/
theorem lc_core' {wi : TI} {g : TG} {vs : List Nat} {Pp : Hp → Hp → Prop} {xs : List α} {enc : α → It} (hi : EvI fm wi G C Pp xs enc) (Iv : Nat → List PyData → Cs → Hp → Prop)
    (hP : ∀ i acc C' M', Iv i acc C' M' → ∀ F' o Dl, ov M' F' Dl = none → OkC fm F' M' C' → Pp (upd M' Dl o) F')
    (hz : xs.length ≤ 16777216)
    (hs : ∀ i a acc C' M' F' σ' (Dl : Addr) o, xs[i]? = some a → Iv i acc C' M' → Ok fm F' M' G σ' C' → ov M' F' Dl = none → ∃ G2, Tgw g vs (enc a) (wipeG G vs) G2 ∧ ∀ σ2, Ok ⟨fm.K, upd fm.M0 Dl o, F'⟩ F' (upd M' Dl o) G2 σ2 C' →
      ∀ (Qt : V → Hp → Prop) (Qf : Hp → Prop), (∀ y d F4 M4 C4, Ok ⟨fm.K, upd fm.M0 Dl o, F'⟩ F4 M4 G2 σ2 C4 → Rp F4 y d → Iv (i + 1) (acc ++ [d]) C4 (era M4 Dl) → Qt y (ov M4 F4)) →
        (∀ F4 M4 C4, Ok ⟨fm.K, upd fm.M0 Dl o, F'⟩ F4 M4 G2 σ2 C4 → Iv (i + 1) acc C4 (era M4 Dl) → Qf (ov M4 F4)) → tt σ2 (ov (upd M' Dl o) F') fun b H3 => if b = true then te σ2 H3 Qt else Qf H3) :
    ∀ F M σ, Ok fm F M G σ C → Iv 0 [] C M → ∀ Q : VK, (∀ p ws F' M' acc C', Ex F F' → Ok fm F' M' G σ C' → ov M' F' p = none → RpA F' ws acc → Iv xs.length acc C' M' → Q (.ref p) (upd (ov M' F') p (.lst ws))) → tLc wi g tt te vs σ (ov M F) Q := fun F M σ ok h0 Q q => by
  refine hi F M σ ok _ fun J F1 e1 ok1 io => ?_
  intro Dl hD
  refine ⟨fun i m H' => m = xs.length - i ∧ i ≤ xs.length ∧ ∃ F' M' acc ws C', Ex F1 F' ∧ Ok fm F' M' G σ C' ∧ ov M' F' Dl = none ∧ RpA F' ws acc ∧ acc.length ≤ i ∧ Iv i acc C' M' ∧ H' = upd (ov M' F') Dl (.lst ws), ⟨xs.length, by omega, Nat.zero_le _, F1, M, [], [], C, Ex.refl _, ok1, hD, .nil, Nat.le_refl _, h0, rfl⟩, ?_⟩
  rintro i m H' ⟨rfl, hle, F', M', acc, ws, C', ex, ok', hD', rv, hla, iv, rfl⟩
  have okD := ok'.addD (o := .lst ws) hD'
  have hov : upd (ov M' F') Dl (.lst ws) = ov (upd M' Dl (.lst ws)) F' := ov_updM.symm
  have hp := hP i acc C' M' iv F' (.lst ws) Dl hD' ok'.c
  rw [hov]
  by_cases hlt : i < xs.length
  · refine .inr ⟨io.go i F' _ ex okD.c.dj hp hlt, fun H3 => ∃ F3 M3 acc3 ws3 C3, Ex F1 F3 ∧ Ok fm F3 M3 G σ C3 ∧ ov M3 F3 Dl = none ∧ RpA F3 ws3 acc3 ∧ acc3.length ≤ i + 1 ∧ Iv (i + 1) acc3 C3 M3 ∧ H3 = upd (ov M3 F3) Dl (.lst ws3), ?_, ?_⟩
    · rintro H3 q3
      exact ⟨xs.length - (i + 1), by omega, rfl, hlt, q3⟩
    · intro x H3 hy
      have ha : xs[i]? = some xs[i] := List.getElem?_eq_getElem hlt
      obtain ⟨F3, e3, j3, rfl, r3⟩ := io.yld i F' _ x H3 xs[i] ex okD.c.dj hp ha hy
      have hM' : M' Dl = none := (ov_none hD').1
      have j3' : Dj M' F3 := fun a o q => by
        have hne : a ≠ Dl := ne_of_none q hM'
        exact j3 a o (by rw [upd_ne hne]; exact q)
      have ok3 : Ok fm F3 M' G σ C' := ok'.grow e3 j3'
      have hD3 : ov M' F3 Dl = none := by
        rw [ov_F hM']
        exact j3 Dl _ upd_same
      obtain ⟨G2, hg, hb⟩ := hs i xs[i] acc C' M' F3 σ Dl (.lst ws) ha iv ok3 hD3
      have ok3D := ok3.addD (o := .lst ws) hD3
      refine hg ⟨fm.K, upd fm.M0 Dl (.lst ws), F3⟩ F3 _ _ C' (ok3D.wipe vs) x r3 _ fun σ2 ok2 hw => ?_
      refine ⟨by rw [hw, wipe_wipe fun v h => h], ?_⟩
      refine hb σ2 ok2 _ _ (fun y d F4 M4 C4 ok4 r4 iv4 => ?_) fun F4 M4 C4 ok4 iv4 => ?_
      · obtain ⟨a1, a2, a3⟩ := ok3.subD hD3 ok4
        have hl4 : ws.length = acc.length := rv.length
        refine ⟨ws, by rw [a3]; exact upd_same, by rw [sizeLine_eq, hl4]; omega, F4, era M4 Dl, acc ++ [d], ws ++ [y], C4, ex.trans (e3.trans ok4.c.ex), ok3.cells_to ok4.c.ex a1, a2, (rv.ex (e3.trans ok4.c.ex)).append (.cons r4 .nil), by rw [List.length_append]; simp; omega, iv4, ?_⟩
        rw [a3, upd_upd]
      · obtain ⟨a1, a2, a3⟩ := ok3.subD hD3 ok4
        exact ⟨F4, era M4 Dl, acc, ws, C4, ex.trans (e3.trans ok4.c.ex), ok3.cells_to ok4.c.ex a1, a2, rv.ex (e3.trans ok4.c.ex), by omega, iv4, a3⟩
  · have e : i = xs.length := by omega
    subst e
    refine .inl ⟨io.stop _ F' _ ex okD.c.dj hp (Nat.le_refl _), ?_⟩
    rw [← hov]
    exact q Dl ws F' M' acc C' (e1.trans ex) ok' hD' rv iv
/-- [te for g in xs if tt], nothing changes -/
theorem el_lc {wi : TI} {g : TG} {vs : List Nat} {xs : List α} {enc : α → It} {p : α → Bool} {f : α → PyData} {G2 : α → Gm} (hi : EvI fm wi G C PT0 xs enc) (hz : xs.length ≤ 16777216)
    (hg : ∀ a, Tgw g vs (enc a) (wipeG G vs) (G2 a)) (ht : ∀ M0 F0 a, a ∈ xs → EvT ⟨fm.K, M0, F0⟩ tt (G2 a) C (p a)) (he : ∀ M0 F0 a, a ∈ xs → p a = true → Ev ⟨fm.K, M0, F0⟩ te (G2 a) C (.d (f a))) :
    EvL fm (tLc wi g tt te vs) G C ((xs.filter p).map f) := fun F M σ ok Q q => by
  refine lc_core' hi (fun i acc C' M' => acc = ((xs.take i).filter p).map f ∧ C' = C ∧ M' = M) (fun _ _ _ _ _ _ _ _ _ _ => trivial) hz ?_ F M σ ok ⟨by simp, rfl, rfl⟩ Q ?_
  · rintro i a acc C' M' F' σ' Dl o ha ⟨rfl, rfl, rfl⟩ ok' hD
    refine ⟨G2 a, hg a, fun σ2 ok2 Qt Qf h1 h2 => ?_⟩
    have hm : a ∈ xs := List.mem_of_getElem? ha
    have htk : xs.take (i + 1) = xs.take i ++ [a] := by rw [List.take_add_one, ha]; rfl
    have back : ∀ F4, Ex F' F4 → Ok ⟨fm.K, upd fm.M0 Dl o, F'⟩ F4 (upd M' Dl o) (G2 a) σ2 C' → era (upd M' Dl o) Dl = M' := fun F4 _ _ => by
      funext b
      unfold era upd
      by_cases e : b = Dl
      · rw [if_pos e, e]
        exact (ov_none hD).1.symm
      · rw [if_neg e, if_neg e]
    refine ht _ _ a hm F' _ σ2 ok2 _ fun F3 e3 ok3 => ?_
    cases hp : p a with
    | true =>
      show te σ2 (ov (upd M' Dl o) F3) Qt
      refine he _ _ a hm hp F3 _ σ2 ok3 Qt fun y F4 e4 ok4 r4 => h1 y (f a) F4 _ _ ok4 r4 ⟨?_, rfl, back F4 ok4.c.ex ok4⟩
      rw [htk, List.filter_append, List.map_append, List.filter_cons, if_pos hp]
      rfl
    | false =>
      show Qf (ov (upd M' Dl o) F3)
      refine h2 F3 _ _ ok3 ⟨?_, rfl, back F3 ok3.c.ex ok3⟩
      rw [htk, List.filter_append, List.map_append, List.filter_cons, if_neg (by rw [hp]; exact Bool.false_ne_true)]
      simp
  · rintro p' ws F' M' acc C' e ok' hp rv ⟨e1, rfl, rfl⟩
    rw [List.take_length] at e1
    subst e1
    exact q p' ws F' e ok' hp rv
/-- the same, cells change: Iv by the turn, the list so far, the cells -/
theorem w_lc' {wi : TI} {g : TG} {vs : List Nat} {Pp : Hp → Hp → Prop} {xs : List α} {enc : α → It} (hi : EvI fm wi G C Pp xs enc) (Iv : Nat → List PyData → Cs → Prop) (h0 : Iv 0 [] C)
    (hP : ∀ i acc C' M', Iv i acc C' → ∀ F' o Dl, ov M' F' Dl = none → OkC fm F' M' C' → Pp (upd M' Dl o) F') (hz : xs.length ≤ 16777216)
    (hs : ∀ M0 F0 i a acc C', xs[i]? = some a → Iv i acc C' → ∃ G2, Tgw g vs (enc a) (wipeG G vs) G2 ∧ WT ⟨fm.K, M0, F0⟩ tt G2 C' fun b C1 => (b = true → W ⟨fm.K, M0, F0⟩ te G2 C1 fun it C2 => ∃ d, it = .d d ∧ Iv (i + 1) (acc ++ [d]) C2) ∧ (b = false → Iv (i + 1) acc C1))
    (hd : ∀ p acc C', Iv xs.length acc C' → k (.c p) (C' ++ [(p, .dat acc)])) : W fm (tLc wi g tt te vs) G C k := fun F M σ ok Q q => by
  refine lc_core' hi (fun i acc C' _ => Iv i acc C') (fun i acc C' M' iv F' o Dl hD ok' => hP i acc C' M' iv F' o Dl hD ok') hz ?_ F M σ ok h0 Q ?_
  · intro i a acc C' M' F' σ' Dl o ha iv ok' hD
    obtain ⟨G2, hg, hw⟩ := hs (upd fm.M0 Dl o) F' i a acc C' ha iv
    refine ⟨G2, hg, fun σ2 ok2 Qt Qf h1 h2 => hw F' _ σ2 ok2 _ fun b C1 F3 M3 e3 ok3 ⟨w1, w2⟩ => ?_⟩
    cases b with
    | true =>
      show te σ2 (ov M3 F3) Qt
      refine w1 rfl F3 M3 σ2 ok3 Qt fun v it C2 F4 M4 e4 ok4 r4 ⟨d, e5, iv4⟩ => ?_
      subst e5
      exact h1 v d F4 M4 C2 ok4 r4 iv4
    | false =>
      show Qf (ov M3 F3)
      exact h2 F3 M3 C1 ok3 (w2 rfl)
  · intro p ws F' M' acc C' e ok' hp rv iv
    obtain ⟨a, b⟩ := ok'.newM (o := .lst ws) (c := .dat acc) hp ⟨ws, rfl, rv⟩
    rw [← b]
    exact q _ (.c p) _ _ _ e a (show RpI fm.K F' (.ref p) (.c p) from rfl) (hd p acc C' iv)
theorem W.frz (h : W fm te G C fun it C1 => ∃ p ds j, it = .c p ∧ C1[j]? = some (p, .dat ds) ∧ k (.d (.list ds)) (C1.eraseIdx j)) : W fm te G C k := fun F M σ ok Q q => h F M σ ok Q fun v it C1 F1 M1 e1 ok1 r1 ⟨p, ds, j, e, hj, hk⟩ => by
  subst e
  have e2 : v = .ref p := r1
  subst e2
  obtain ⟨F', M', a, b, c, d⟩ := ok1.c.frz hj
  rw [← b]
  exact q _ (.d (.list ds)) _ _ _ (e1.trans c) (ok1.cells_to c a) d hk
theorem append_at {C : Cs} {x : Addr × Cell} : (C ++ [x])[C.length]? = some x := by simp
theorem append_erase {C : Cs} {x : Addr × Cell} : (C ++ [x]).eraseIdx C.length = C := by
  rw [List.eraseIdx_append_of_length_le (Nat.le_refl _)]
  simp
/-- .. the list as data -/
theorem w_lc {wi : TI} {g : TG} {vs : List Nat} {Pp : Hp → Hp → Prop} {xs : List α} {enc : α → It} (hi : EvI fm wi G C Pp xs enc) (Iv : Nat → List PyData → Cs → Prop) (h0 : Iv 0 [] C)
    (hP : ∀ i acc C' M', Iv i acc C' → ∀ F' o Dl, ov M' F' Dl = none → OkC fm F' M' C' → Pp (upd M' Dl o) F') (hz : xs.length ≤ 16777216)
    (hs : ∀ M0 F0 i a acc C', xs[i]? = some a → Iv i acc C' → ∃ G2, Tgw g vs (enc a) (wipeG G vs) G2 ∧ WT ⟨fm.K, M0, F0⟩ tt G2 C' fun b C1 => (b = true → W ⟨fm.K, M0, F0⟩ te G2 C1 fun it C2 => ∃ d, it = .d d ∧ Iv (i + 1) (acc ++ [d]) C2) ∧ (b = false → Iv (i + 1) acc C1))
    (hd : ∀ acc C', Iv xs.length acc C' → k (.d (.list acc)) C') : W fm (tLc wi g tt te vs) G C k :=
  W.frz (w_lc' hi Iv h0 hP hz hs fun p acc C' iv => ⟨p, acc, C'.length, rfl, append_at, by rw [append_erase]; exact hd acc C' iv⟩)
theorem et_yes : EvT fm tYes G C true := fun F M σ ok Q q => q F (Ex.refl F) ok
/-- what a def of ours promises: its arguments, the cells it takes, what they must be, what comes back -/
def Spc {α : Type} (K : PySem.W.Frag) (args : α → List It) (cells : α → Cs) (pre : α → Prop) (post : α → It → Cs → Prop) : Sp := fun vs H Q _ =>
  ∃ (a : α) (F M M0 : Hp), pre a ∧ H = ov M F ∧ OkC ⟨K, M0, F⟩ F M (cells a) ∧ RpIs K F vs (args a) ∧ ∀ F1, Ex F F1 → ∀ it C', post a it C' → Rt ⟨K, M0, F1⟩ Q it C'
theorem w_call {args : α → List It} {cells : α → Cs} {pre : α → Prop} {post : α → It → Cs → Prop} {E : XK}
    (h : WA fm tr G C fun its C1 => ∃ (a : α) (C2 : Cs), its = args a ∧ C1 = cells a ++ C2 ∧ pre a ∧ ∀ it C', post a it C' → k it (C' ++ C2)) : W fm (tCall (Spc fm.K args cells pre post) [] E tr) G C k := fun F M σ ok Q q =>
  h F M σ ok _ fun vs its C1 F1 M1 e1 ok1 r1 ⟨a, C2, e2, e3, hp, hk⟩ => by
    subst e2 e3
    rw [List.append_nil]
    refine ⟨a, F1, M1, _, hp, rfl, ok1.c.split, r1, fun F2 ex2 it C' po F3 M3 v ok3 r3 => ?_⟩
    have ok4 := OkC.weak (fm := ⟨fm.K, fun a_1 => if a_1 ∈ (cells a).map (·.1) then none else M1 a_1, F1⟩) ex2 ok3
    have j := ok1.c.join ok4
    exact q v it _ F3 M3 (e1.trans (ex2.trans ok3.ex)) (ok1.cells_to (ex2.trans ok3.ex) j) r3 (hk it C' po)
/-- a def that changes nothing, its value data -/
theorem ev_call {args : α → List It} {cells : α → Cs} {pre : α → Prop} {post : α → It → Cs → Prop} {E : XK} {its : List It} {r : PyData} (a : α)
    (h : EvA fm tr G C its) (e : its = args a) (hc : cells a = []) (hp : pre a) (hr : ∀ it C', post a it C' → it = .d r ∧ C' = []) : Ev fm (tCall (Spc fm.K args cells pre post) [] E tr) G C (.d r) := fun F M σ ok Q q =>
  h F M σ ok _ fun vs F1 e1 ok1 r1 => by
    subst e
    rw [List.append_nil]
    have s := OkC.split (C1 := []) (C2 := C) ok1.c
    refine ⟨a, F1, M, _, hp, rfl, by rw [hc]; exact s, r1, fun F2 ex2 it C' po F3 M3 v ok3 r3 => ?_⟩
    obtain ⟨e2, e3⟩ := hr it C' po
    subst e2 e3
    have hM : M3 = M := funext fun a => by
      have z := ok3.rest a (fun x hx => by cases hx)
      simpa using z
    subst hM
    exact q v F3 (e1.trans (ex2.trans ok3.ex)) (ok1.grow (ex2.trans ok3.ex) ok3.dj) r3
/-- .. its value a new list -/
theorem el_call {args : α → List It} {cells : α → Cs} {pre : α → Prop} {post : α → It → Cs → Prop} {E : XK} {its : List It} (a : α)
    (h : EvA fm tr G C its) (e : its = args a) (hc : cells a = []) (hp : pre a) (hr : ∀ it C', post a it C' → ∃ p, it = .c p ∧ C' = [(p, .dat ds)]) : EvL fm (tCall (Spc fm.K args cells pre post) [] E tr) G C ds := fun F M σ ok Q q =>
  h F M σ ok _ fun vs F1 e1 ok1 r1 => by
    subst e
    rw [List.append_nil]
    have s := OkC.split (C1 := []) (C2 := C) ok1.c
    refine ⟨a, F1, M, _, hp, rfl, by rw [hc]; exact s, r1, fun F2 ex2 it C' po F3 M3 v ok3 r3 => ?_⟩
    obtain ⟨p, e2, e3⟩ := hr it C' po
    subst e2 e3
    have ev : v = .ref p := r3
    subst ev
    obtain ⟨ws, hw, rw'⟩ := ok3.cells (p, .dat ds) (by simp)
    have h0 : M p = none := by
      have z := ok3.out (p, .dat ds) (by simp)
      simpa using z
    have hM : M3 = upd M p (.lst ws) := funext fun b => by
      by_cases hb : b = p
      · subst hb
        rw [upd_same]
        exact hw
      · rw [upd_ne hb]
        have z := ok3.rest b (fun x hx => by have : x = (p, .dat ds) := by simpa using hx
                                             subst this
                                             exact fun e => hb e.symm)
        simpa using z
    have hF : F3 p = none := ok3.dj p _ hw
    have dj3 : Dj M F3 := fun b o e => by
      have hne : b ≠ p := ne_of_none e h0
      exact ok3.dj b o (by rw [hM, upd_ne hne]; exact e)
    rw [hM, ov_updM]
    exact q p ws F3 (e1.trans (ex2.trans ok3.ex)) (ok1.grow (ex2.trans ok3.ex) dj3) (by rw [ov_F h0]; exact hF) rw'
def startG (n : Nat) (its : List It) : Gm := its.map some ++ List.replicate (n - its.length) none
/-- a def's promise from its body's walk -/
theorem spc_start {K : PySem.W.Frag} {args : α → List It} {cells : α → Cs} {pre : α → Prop} {post : α → It → Cs → Prop} {N : List Str} {t : TS} {vs : List V} {H : Hp} {Q : VK} {E : XK} (h : Spc K args cells pre post vs H Q E) (hN : ∀ a, (args a).length ≤ N.length)
    (hb : ∀ a M0 F0 Q, pre a → (∀ F1, Ex F0 F1 → ∀ it C', post a it C' → Rt ⟨K, M0, F1⟩ Q it C') → At ⟨K, M0, F0⟩ (t { nx := fun _ H' => Q .non H', rt := Q }) (startG N.length (args a)) (cells a)) :
    t { nx := fun _ H' => Q .non H', rt := Q } (start N vs) H := by
  obtain ⟨a, F, M, M0, hp, rfl, ok, r, hq⟩ := h
  refine hb a M0 F Q hp hq F M _ ⟨ok, ?_, fun i it e => ?_⟩
  · have hl := r.length
    unfold startG L2.start
    simp [hl]
  · unfold startG at e
    unfold L2.start
    by_cases hi : i < (args a).length
    · rw [List.getElem?_append_left (by simpa using hi), List.getElem?_map] at e
      cases q : (args a)[i]? with
      | none => rw [q] at e; cases e
      | some it' =>
        rw [q] at e
        have e' : it' = it := by simpa using e
        subst e'
        obtain ⟨v, hv, rv⟩ := r.get q
        refine ⟨v, ?_, rv⟩
        rw [List.getElem?_append_left (by rw [List.length_map, r.length]; exact hi), List.getElem?_map, hv]
        rfl
    · rw [List.getElem?_append_right (by simpa using Nat.le_of_not_lt hi)] at e
      rw [List.getElem?_replicate] at e
      split at e <;> cases e
theorem spc_len {K : PySem.W.Frag} {args : α → List It} {cells : α → Cs} {pre : α → Prop} {post : α → It → Cs → Prop} {n : Nat} (hn : ∀ a, (args a).length = n) : ∀ vs H Q E, Spc K args cells pre post vs H Q E → vs.length = n := by
  rintro vs H Q E ⟨a, F, M, M0, hp, rfl, ok, r, hq⟩
  rw [r.length, hn]
end
end Rr
namespace Rr
open PySem L2
section
variable {fm : Fm} {F F' M M' : Hp} {G G' : Gm} {σ : St} {C C' : Cs}
variable {te ta tb tc : TE} {tt tu : TT} {tr : TA} {x y z it : It} {ds es : List PyData} {k : It → Cs → Prop} {kb : Bool → Cs → Prop} {ka : List It → Cs → Prop} {α β : Type}
abbrev R1 := List V → Hp → VK → Prop
def R1k (fm : Fm) (r : R1) (its : List It) (C : Cs) (z : It) : Prop :=
  ∀ F M, OkC fm F M C → ∀ vs, RpIs fm.K F vs its → ∀ Q : VK, (∀ u F', Ex F F' → OkC fm F' M C → RpI fm.K F' u z → Q u (ov M F')) → r vs (ov M F) Q
def R1L (fm : Fm) (r : R1) (its : List It) (C : Cs) (ds : List PyData) : Prop :=
  ∀ F M, OkC fm F M C → ∀ vs, RpIs fm.K F vs its → ∀ Q : VK, (∀ p ws, ov M F p = none → RpA F ws ds → Q (.ref p) (upd (ov M F) p (.lst ws))) → r vs (ov M F) Q
theorem ev_cb {r : R1} {its : List It} (h : EvA fm tr G C its) (hr : R1k fm r its C z) : Ev fm (tCB r tr) G C z := fun F M σ ok Q q => h F M σ ok _ fun vs F1 e1 ok1 r1 => hr F1 M ok1.c vs r1 Q fun u F2 e2 okc r2 => q u F2 (e1.trans e2) (ok1.cells_to e2 okc) r2
theorem el_cb {r : R1} {its : List It} (h : EvA fm tr G C its) (hr : R1L fm r its C ds) : EvL fm (tCB r tr) G C ds := fun F M σ ok Q q => h F M σ ok _ fun vs F1 e1 ok1 r1 => hr F1 M ok1.c vs r1 Q fun p ws hp rv => q p ws F1 e1 ok1 hp rv
theorem R1k.ofL {r : R1} {its : List It} (h : R1L fm r its C ds) : R1k fm r its C (.d (.list ds)) := fun F M ok vs r1 Q q => h F M ok vs r1 Q fun p ws hp rv => by
  obtain ⟨a, b, c⟩ := ok.newF (o := .lst ws) hp
  rw [← b]
  exact q _ _ c a (rpI_newL (ov_none hp).2 rv)
/-- what may be read as a tuple of these data -/
inductive RdT (C : Cs) : It → List PyData → Prop
  | d (ds : List PyData) : RdT C (.d (.tuple ds)) ds
theorem RdT.get {it : It} {ds : List PyData} (h : RdT C it ds) (ok : OkC fm F M C) {v : V} (r : RpI fm.K F v it) : ∃ a vs, v = .ref a ∧ ov M F a = some (.tup vs) ∧ RpA F vs ds := by
  cases h with
  | d ds =>
    cases r with
    | tup h r => exact ⟨_, _, rfl, ok.dj.ex h, r⟩
def xLen (K : PySem.W.Frag) : R1 := fun xs H Q => ∃ x n, xs = [x] ∧ LenV K x H n ∧ Q (.int n) H
theorem call_xLen {X : Cx} : CallR X (.builtin "len") (xLen X.K) := call_len
theorem r_lenL (hx : RdQ C x ds) : R1k fm (xLen fm.K) [x] C (.d (.int (ds.length : Int))) := fun F M ok vs r Q q => by
  cases r with
  | cons r1 r2 =>
    cases r2
    obtain ⟨a, ws, e, h, s⟩ := hx.get ok r1
    subst e
    exact ⟨_, ds.length, rfl, .inl ⟨ws, h, s.length.symm⟩, q _ F (Ex.refl F) ok (.int _)⟩
theorem r_lenT (hx : RdT C x ds) : R1k fm (xLen fm.K) [x] C (.d (.int (ds.length : Int))) := fun F M ok vs r Q q => by
  cases r with
  | cons r1 r2 =>
    cases r2
    obtain ⟨a, ws, e, h, s⟩ := hx.get ok r1
    subst e
    exact ⟨_, ds.length, rfl, .inr ⟨ws, SqT.of h, s.length.symm⟩, q _ F (Ex.refl F) ok (.int _)⟩
def mx : List Int → Int
  | [] => 0
  | [x] => x
  | x :: y :: r => max x (mx (y :: r))
theorem mx_spec : ∀ {ns : List Int}, ns ≠ [] → mx ns ∈ ns ∧ ∀ y ∈ ns, y ≤ mx ns
  | [], h => absurd rfl h
  | [x], _ => ⟨by simp [mx], fun y hy => by have : y = x := by simpa using hy
                                            rw [this]; exact Int.le_refl _⟩
  | x :: y :: r, _ => by
    obtain ⟨h1, h2⟩ := mx_spec (ns := y :: r) (by simp)
    have e : mx (x :: y :: r) = max x (mx (y :: r)) := rfl
    rw [e]
    refine ⟨?_, fun z hz => ?_⟩
    · by_cases c : x ≤ mx (y :: r)
      · rw [Int.max_eq_right c]; exact List.mem_cons_of_mem _ h1
      · rw [Int.max_eq_left (by omega)]; exact List.mem_cons_self
    · rcases List.mem_cons.mp hz with e | hz
      · rw [e]; omega
      · have := h2 z hz; omega
theorem mx_eq {ns : List Int} {m : Int} (h1 : m ∈ ns) (h2 : ∀ y ∈ ns, y ≤ m) : m = mx ns := by
  have hn : ns ≠ [] := fun e => by rw [e] at h1; cases h1
  obtain ⟨a, b⟩ := mx_spec hn
  have := h2 _ a
  have := b _ h1
  omega
def mn (ns : List Int) : Int := - mx (ns.map fun x => -x)
theorem mn_eq {ns : List Int} {m : Int} (h1 : m ∈ ns) (h2 : ∀ y ∈ ns, m ≤ y) : m = mn ns := by
  have z := mx_eq (ns := ns.map fun x => -x) (m := -m) (List.mem_map.mpr ⟨m, h1, rfl⟩) fun y hy => by
    obtain ⟨w, hw, e⟩ := List.mem_map.mp hy
    have := h2 w hw
    omega
  unfold mn
  omega
def xMax (K : PySem.W.Frag) : R1 := fun xs H Q => rMax K xs H Q ∨ ∃ i j, xs = [.int i, .int j] ∧ Q (.int (if j > i then j else i)) H
def xMin (K : PySem.W.Frag) : R1 := fun xs H Q => rMin K xs H Q ∨ ∃ i j, xs = [.int i, .int j] ∧ Q (.int (if j < i then j else i)) H
theorem call_xMax {X : Cx} (hc : X.calm = true) : CallR X (.builtin "max") (xMax X.K) := CallR.or (cr_max hc) (call_max2 hc)
theorem r_max {is : List Int} (hx : RdQ C x (is.map .int)) (h : 0 < is.length) : R1k fm (xMax fm.K) [x] C (.d (.int (mx is))) := fun F M ok vs r Q q => by
  cases r with
  | cons r1 r2 =>
    cases r2
    obtain ⟨a, ws, e, hh, s⟩ := hx.get ok r1
    have e2 := rpA_ints s
    subst e e2
    refine .inl ⟨a, is, rfl, hh, h, fun m h1 h2 => ?_⟩
    rw [mx_eq h1 h2]
    exact q _ F (Ex.refl F) ok (.int _)
theorem r_min {is : List Int} (hx : RdQ C x (is.map .int)) (h : 0 < is.length) : R1k fm (xMin fm.K) [x] C (.d (.int (mn is))) := fun F M ok vs r Q q => by
  cases r with
  | cons r1 r2 =>
    cases r2
    obtain ⟨a, ws, e, hh, s⟩ := hx.get ok r1
    have e2 := rpA_ints s
    subst e e2
    refine .inl ⟨a, is, rfl, hh, h, fun m h1 h2 => ?_⟩
    rw [mn_eq h1 h2]
    exact q _ F (Ex.refl F) ok (.int _)
theorem r_max2 {i j : Int} : R1k fm (xMax fm.K) [.d (.int i), .d (.int j)] C (.d (.int (max i j))) := fun F M ok vs r Q q => by
  cases r with
  | cons r1 r2 =>
    cases r2 with
    | cons r2 r3 =>
      cases r3; cases r1; cases r2
      refine .inr ⟨i, j, rfl, ?_⟩
      rw [show (if j > i then j else i) = max i j by split <;> omega]
      exact q _ F (Ex.refl F) ok (.int _)
theorem r_min2 {i j : Int} : R1k fm (xMin fm.K) [.d (.int i), .d (.int j)] C (.d (.int (min i j))) := fun F M ok vs r Q q => by
  cases r with
  | cons r1 r2 =>
    cases r2 with
    | cons r2 r3 =>
      cases r3; cases r1; cases r2
      refine .inr ⟨i, j, rfl, ?_⟩
      rw [show (if j < i then j else i) = min i j by split <;> omega]
      exact q _ F (Ex.refl F) ok (.int _)
def xAbs : R1 := fun xs H Q => ∃ i, xs = [.int i] ∧ Q (.int (if i < 0 then -i else i)) H
theorem call_xAbs {X : Cx} : CallR X (.builtin "abs") xAbs := call_abs
theorem r_abs {i : Int} : R1k fm xAbs [.d (.int i)] C (.d (.int (i.natAbs : Int))) := fun F M ok vs r Q q => by
  cases r with
  | cons r1 r2 =>
    cases r2; cases r1
    refine ⟨i, rfl, ?_⟩
    rw [show (if i < 0 then -i else i) = (i.natAbs : Int) by split <;> omega]
    exact q _ F (Ex.refl F) ok (.int _)
def xSum (K : PySem.W.Frag) : R1 := rSum K
theorem r_sum {is : List Int} (hx : RdQ C x (is.map .int)) : R1k fm (xSum fm.K) [x] C (.d (.int is.sum)) := fun F M ok vs r Q q => by
  cases r with
  | cons r1 r2 =>
    cases r2
    obtain ⟨a, ws, e, hh, s⟩ := hx.get ok r1
    have e2 := rpA_ints s
    subst e e2
    exact ⟨a, is, rfl, hh, q _ F (Ex.refl F) ok (.int _)⟩
def xAll (K : PySem.W.Frag) : R1 := rAll K
def xAny (K : PySem.W.Frag) : R1 := rAny K
theorem call_xAll {X : Cx} (hc : X.calm = true) : CallR X (.builtin "all") (xAll X.K) := cr_all hc
theorem r_all {bs : List Bool} (hx : RdQ C x (bs.map .bool)) : R1k fm (xAll fm.K) [x] C (.d (.bool (bs.all id))) := fun F M ok vs r Q q => by
  cases r with
  | cons r1 r2 =>
    cases r2
    obtain ⟨a, ws, e, hh, s⟩ := hx.get ok r1
    have e2 := rpA_bools s
    subst e e2
    exact ⟨a, bs, rfl, hh, q _ F (Ex.refl F) ok (.bl _)⟩
theorem r_any {bs : List Bool} (hx : RdQ C x (bs.map .bool)) : R1k fm (xAny fm.K) [x] C (.d (.bool (bs.any id))) := fun F M ok vs r Q q => by
  cases r with
  | cons r1 r2 =>
    cases r2
    obtain ⟨a, ws, e, hh, s⟩ := hx.get ok r1
    have e2 := rpA_bools s
    subst e e2
    exact ⟨a, bs, rfl, hh, q _ F (Ex.refl F) ok (.bl _)⟩
def xInt : R1 := fun xs H Q => (∃ i, xs = [.int i] ∧ Q (.int i) H) ∨ ∃ k, xs = [.bl k] ∧ Q (.int (if k then 1 else 0)) H
theorem r_intB {b : Bool} : R1k fm xInt [.d (.bool b)] C (.d (.int (if b = true then 1 else 0))) := fun F M ok vs r Q q => by
  cases r with
  | cons r1 r2 =>
    cases r2; cases r1
    exact .inr ⟨b, rfl, q _ F (Ex.refl F) ok (.int _)⟩
def srt (ns : List Int) : List Int := ns.mergeSort fun a b => decide (a ≤ b)
theorem srt_perm (ns : List Int) : (srt ns).Perm ns := List.mergeSort_perm ns _
theorem srt_up (ns : List Int) : (srt ns).Pairwise (· ≤ ·) := by
  have h := List.pairwise_mergeSort (le := fun a b : Int => decide (a ≤ b)) (fun a b c h1 h2 => by simp at *; omega) (fun a b => by simp; omega) ns
  exact h.imp fun h => by simpa using h
theorem srt_eq {ns ms : List Int} (h1 : ms.Perm ns) (h2 : ms.Pairwise (· ≤ ·)) : ms = srt ns :=
  List.Perm.eq_of_pairwise (fun _ _ _ _ a b => Int.le_antisymm a b) h2 (srt_up ns) (h1.trans (srt_perm ns).symm)
theorem srt_id {ns : List Int} (h : ns.Pairwise (· ≤ ·)) : srt ns = ns := (srt_eq (List.Perm.refl ns) h).symm
def xSorted (K : PySem.W.Frag) : R1 := rSortedI K
theorem r_sorted {is : List Int} (hx : RdQ C x (is.map .int)) : R1L fm (xSorted fm.K) [x] C ((srt is).map .int) := fun F M ok vs r Q q => by
  cases r with
  | cons r1 r2 =>
    cases r2
    obtain ⟨a, ws, e, hh, s⟩ := hx.get ok r1
    have e2 := rpA_ints s
    subst e e2
    refine ⟨a, is, rfl, hh, fun ns' p h1 h2 hp => ?_⟩
    rw [srt_eq h1 h2]
    exact q p _ hp (rpA_of_ints _)
def xList (K : PySem.W.Frag) : R1 := fun xs H Q => ∃ p ys, xs = [.ref p] ∧ (SqL K H p ys ∨ SqT K H p ys) ∧ ∀ l, H l = none → Q (.ref l) (upd H l (.lst ys))
theorem call_xList {X : Cx} : CallR X (.type "list") (xList X.K) := call_list_of
theorem r_list (hx : RdQ C x ds) : R1L fm (xList fm.K) [x] C ds := fun F M ok vs r Q q => by
  cases r with
  | cons r1 r2 =>
    cases r2
    obtain ⟨a, ws, e, hh, s⟩ := hx.get ok r1
    subst e
    exact ⟨a, ws, rfl, .inl hh, fun p hp => q p ws hp s⟩
theorem r_listT (hx : RdT C x ds) : R1L fm (xList fm.K) [x] C ds := fun F M ok vs r Q q => by
  cases r with
  | cons r1 r2 =>
    cases r2
    obtain ⟨a, ws, e, hh, s⟩ := hx.get ok r1
    subst e
    exact ⟨a, ws, rfl, .inr (SqT.of hh), fun p hp => q p ws hp s⟩
def xTuple (K : PySem.W.Frag) : R1 := fun xs H Q => ∃ p ys, xs = [.ref p] ∧ ((SqL K H p ys ∧ ∀ l, H l = none → Q (.ref l) (upd H l (.tup ys))) ∨ (SqT K H p ys ∧ Q (.ref p) H))
theorem call_xTuple {X : Cx} : CallR X (.type "tuple") (xTuple X.K) := call_tuple_of
theorem r_tuple (hx : RdQ C x ds) : R1k fm (xTuple fm.K) [x] C (.d (.tuple ds)) := fun F M ok vs r Q q => by
  cases r with
  | cons r1 r2 =>
    cases r2
    obtain ⟨a, ws, e, hh, s⟩ := hx.get ok r1
    subst e
    refine ⟨a, ws, rfl, .inl ⟨hh, fun p hp => ?_⟩⟩
    obtain ⟨a', b, c⟩ := ok.newF (o := .tup ws) hp
    rw [← b]
    exact q _ _ c a' (rpI_newT (ov_none hp).2 s)
/-- list(range(..)) -/
def EvR (fm : Fm) (tg : St → Hp → (Int → Int → Hp → Prop) → Prop) (G : Gm) (C : Cs) (a b : Int) : Prop :=
  ∀ F M σ, Ok fm F M G σ C → ∀ Q : Int → Int → Hp → Prop, (∀ F', Ex F F' → Ok fm F' M G σ C → Q a b (ov M F')) → tg σ (ov M F) Q
theorem eg_1 {n : Int} (h : Ev fm ta G C (.d (.int n))) : EvR fm (tRg1 ta) G C 0 n := fun F M σ ok Q q => h F M σ ok _ fun v F1 e1 ok1 r1 => by
  cases r1
  exact ⟨n, rfl, q F1 e1 ok1⟩
theorem eg_2 {n m : Int} (h : Ev fm ta G C (.d (.int n))) (h2 : Ev fm tb G C (.d (.int m))) : EvR fm (tRg2 ta tb) G C n m := fun F M σ ok Q q => h F M σ ok _ fun v F1 e1 ok1 r1 => h2 F1 M σ ok1 _ fun w F2 e2 ok2 r2 => by
  cases r1; cases r2
  exact ⟨n, m, rfl, rfl, q F2 (e1.trans e2) ok2⟩
/-- the ints of a range -/
def rgI (a b : Int) : List Int := (List.range (b - a).toNat).map fun (i : Nat) => a + (i : Int)
theorem rgV_eq (a b : Int) : rgV a b = (rgI a b).map V.int := by unfold rgV rgI; rw [List.map_map]; rfl
theorem el_listRg {tg : St → Hp → (Int → Int → Hp → Prop) → Prop} {a b : Int} (h : EvR fm tg G C a b) (h1 : -1000000 ≤ a ∧ a ≤ 1000000) (h2 : -1000000 ≤ b ∧ b ≤ 1000000) : EvL fm (tLstRg tg) G C ((rgI a b).map .int) := fun F M σ ok Q q => h F M σ ok _ fun F1 e1 ok1 => by
  refine ⟨⟨by omega, by omega, by omega, by omega, by omega⟩, fun p hp => ?_⟩
  rw [rgV_eq]
  exact q p _ F1 e1 ok1 hp (rpA_of_ints _)
def EvO (fm : Fm) (to : TO) (G : Gm) (C : Cs) (o : Option Int) : Prop :=
  ∀ F M σ, Ok fm F M G σ C → ∀ Q : Option Int → Hp → Prop, (∀ F', Ex F F' → Ok fm F' M G σ C → Q o (ov M F')) → to σ (ov M F) Q
theorem eo_none : EvO fm tNoPart G C none := fun F M σ ok Q q => q F (Ex.refl F) ok
theorem eo_some {n : Int} (h : Ev fm ta G C (.d (.int n))) : EvO fm (tPart ta) G C (some n) := fun F M σ ok Q q => h F M σ ok _ fun v F1 e1 ok1 r1 => by
  cases r1
  exact ⟨n, rfl, q F1 e1 ok1⟩
def cut {α : Type} (xs : List α) (lo hi : Option Int) : List α := (xs.drop (HT.sIx xs.length 0 lo)).take (HT.sIx xs.length xs.length hi - HT.sIx xs.length 0 lo)
theorem RpA.cut {F : Hp} {vs : List V} {ds : List PyData} (h : RpA F vs ds) (lo hi : Option Int) : RpA F (cutV vs lo hi) (Rr.cut ds lo hi) := by
  unfold cutV Rr.cut
  rw [h.length]
  exact (h.drop _).take _
def xSl (K : PySem.W.Frag) : V → Option Int → Option Int → Hp → VK → Prop := rSlL K
theorem el_slice {tl th : TO} {lo hi : Option Int} (h : Ev fm ta G C x) (h1 : EvO fm tl G C lo) (h2 : EvO fm th G C hi) (hx : RdQ C x ds) : EvL fm (tSl (xSl fm.K) ta tl th) G C (cut ds lo hi) := fun F M σ ok Q q =>
  h F M σ ok _ fun v F1 e1 ok1 r1 => h1 F1 M σ ok1 _ fun F2 e2 ok2 => h2 F2 M σ ok2 _ fun F3 e3 ok3 => by
    obtain ⟨a, ws, e, hh, s⟩ := hx.get ok3.c (r1.ex (e2.trans e3))
    subst e
    exact ⟨a, ws, rfl, hh, fun p hp => q p _ F3 ((e1.trans e2).trans e3) ok3 hp (s.cut lo hi)⟩
theorem el_rev (h : Ev fm ta G C x) (hx : RdQ C x ds) : EvL fm (tRevL fm.K ta) G C ds.reverse := fun F M σ ok Q q => h F M σ ok _ fun v F1 e1 ok1 r1 => by
  obtain ⟨a, ws, e, hh, s⟩ := hx.get ok1.c r1
  subst e
  exact ⟨a, ws, rfl, hh, fun p hp => q p _ F1 e1 ok1 hp s.reverse⟩
def tyD : PyData → String
  | .none => "NoneType"
  | .bool _ => "bool"
  | .int _ => "int"
  | .str _ => "str"
  | .list _ => "list"
  | .tuple _ => "tuple"
  | .dict _ => "dict"
def isD (d : PyData) (T : String) : Bool := tyD d == T || (tyD d == "bool" && T == "int")
theorem kit_all : (["NoneType", "bool", "int", "str", "list", "tuple", "dict"].all fun a => ["int", "bool", "list", "tuple", "dict", "str"].all fun T => decide (kitB a T = some (a == T || (a == "bool" && T == "int")))) = true := by decide +kernel
theorem kit_D (d : PyData) (T : String) (hT : T = "int" ∨ T = "bool" ∨ T = "list" ∨ T = "tuple" ∨ T = "dict" ∨ T = "str") : kitB (tyD d) T = some (isD d T) := by
  have h1 : tyD d ∈ ["NoneType", "bool", "int", "str", "list", "tuple", "dict"] := by cases d <;> simp [tyD]
  have h2 : T ∈ ["int", "bool", "list", "tuple", "dict", "str"] := by rcases hT with rfl | rfl | rfl | rfl | rfl | rfl <;> simp
  have h3 := List.all_eq_true.mp (List.all_eq_true.mp kit_all _ h1) _ h2
  exact of_decide_eq_true h3
theorem ty_D {K : PySem.W.Frag} {d : PyData} {v : V} {H : Hp} (h : Rp H v d) : TyX K H v (.type (tyD d)) := by
  cases h with
  | non => exact .base .non
  | bl b => exact .base (.bl b)
  | int i => exact .base (.int i)
  | str x => exact .base (.str x)
  | lst h r => exact .base (.lst h)
  | tup h r => exact .base (.tup h)
  | dic h l r => exact .base (.dK h)
def xIsi (K : PySem.W.Frag) : R1 := fun xs H Q => rIsi K xs H Q ∨ rIsiT K xs H Q
theorem call_xIsi {X : Cx} : CallR X (.builtin "isinstance") (xIsi X.K) := CallR.or call_isi call_isiT
/-- isinstance(x, T) -/
theorem ev_isi {d : PyData} {T : String} (h : Ev fm ta G C x) (hx : AsD C x d) (hT : T = "int" ∨ T = "bool" ∨ T = "list" ∨ T = "tuple" ∨ T = "dict" ∨ T = "str") : Ev fm (tCB (xIsi fm.K) (tCons ta (tCons (tC (.ty T)) tNil))) G C (.d (.bool (isD d T))) := fun F M σ ok Q q => h F M σ ok _ fun v F1 e1 ok1 r1 =>
  .inl ⟨v, .ty T, .type (tyD d), .type T, isD d T, rfl, .ty T, ty_D (hx.get ok1.c r1), kit_ty (kit_D d T hT), q _ F1 e1 ok1 (.bl _)⟩
/-- isinstance(x, (T, U)) -/
theorem ev_isi2 {d : PyData} {T U : String} (h : Ev fm ta G C x) (hx : AsD C x d) (hT : T = "int" ∨ T = "bool" ∨ T = "list" ∨ T = "tuple" ∨ T = "dict" ∨ T = "str") (hU : U = "int" ∨ U = "bool" ∨ U = "list" ∨ U = "tuple" ∨ U = "dict" ∨ U = "str") :
    Ev fm (tCB (xIsi fm.K) (tCons ta (tCons (tTup (tCons (tC (.ty T)) (tCons (tC (.ty U)) tNil))) tNil))) G C (.d (.bool (isD d T || isD d U))) := fun F M σ ok Q q => h F M σ ok _ fun v F1 e1 ok1 r1 => by
  refine ⟨by show 2 ≤ sizeLine; rw [sizeLine_eq]; decide, fun p hp => ?_⟩
  obtain ⟨a, b, c⟩ := ok1.newF (o := .tup [.ty T, .ty U]) hp
  refine .inr ⟨v, p, [.ty T, .ty U], .type (tyD d), [.type T, .type U], isD d T || isD d U, rfl, upd_same, .cons (.ty T) (.cons (.ty U) .nil), ?_, ?_, ?_⟩
  · rw [← b]
    exact ty_D (hx.get a.c (r1.ex c))
  · refine kitAny_cons (kit_ty (kit_D d T hT)) (fun e => ?_) (fun e => by rw [e]; rfl)
    rw [e, Bool.false_or]
    refine kitAny_cons (kit_ty (kit_D d U hU)) (fun e => ?_) (fun e => e)
    rw [e]
    exact kitAny_nil
  · rw [← b]
    exact q _ _ (e1.trans c) a (.bl _)
end
end Rr
namespace Rr
open PySem PySem.Spec PyProof.Rows L2
structure FnG (P : Program) (w : World) (K : PySem.W.Frag) (mg : Str → Option Value) (base : Heap) (CX : CXT) (k : Nat) (f : Addr) (fd : FuncData) (ps : List Str) (sp : Sp) : Prop where
  ln : ∀ vs H Q E, sp vs H Q E → vs.length = ps.length
  go : ∀ (A : Around) (outer : List Env) (s : Shared) (H : Hp) (ar : Args) (us : List Value) (vs : List V) (Q : VK) (E : XK), Room k A → A.guards = some [] →
    Env0 P w K mg base A outer s H → BindsTo s fd ar (ps.zip us) → Vals vs us → sp vs H Q E → codeAny (model P w) A (.call (.ref f) ar) (CR CX outer P w H s Q E) s
theorem FnG.up {P : Program} {w : World} {K : PySem.W.Frag} {mg : Str → Option Value} {base : Heap} {CX : CXT} {j k : Nat} {f : Addr} {fd : FuncData} {ps : List Str} {sp : Sp}
    (F : FnG P w K mg base CX j f fd ps sp) (h : j ≤ k) : FnG P w K mg base CX k f fd ps sp :=
  ⟨F.ln, fun A outer s H ar us vs Q E hr hg e b v q => F.go A outer s H ar us vs Q E (hr.mono h) hg e b v q⟩
section
variable {X : Cx} {CX : CXT} {k n : Nat} {f : Addr} {fd : FuncData} {ps ks : List Str} {sp : Sp} {E : XK} {x : Str} {p pos : Pos} {e : Expr} {es : List Expr} {kws : List Keyword} {t tk : TA}
theorem back_of {pins : List (Addr × Obj)} {σ : L2.St} {H : Hp} {s : Shared} {Q : VK} {ar : Args} (hx : Passes CX X E) (I : Inv X pins σ H s) (h : codeAny (model X.prog X.w) X.A (.call (.ref f) ar) (CR CX X.stack X.prog X.w H s Q E) s)
    {us : List Value} {kw : List (Str × Value)} (ea : ar = ⟨us, kw⟩) : wpAny (model X.prog X.w) X.A (PySem.call (.ref f) us kw) (EP X pins σ Q) X.xe s := by
  subst ea
  refine wpAny_call (codeAny_mono h fun r s' hq => ?_)
  match r, hq with
  | .error e, hq => exact hx pins σ H s e s' I hq
  | .ok (.ret u), hq => exact I.after hq
  | .ok .next, hq => exact hq.elim
  | .ok .brk, hq => exact hq.elim
  | .ok .cont, hq => exact hq.elim
theorem run_g {pins : List (Addr × Obj)} {σ : L2.St} {H : Hp} {s : Shared} {Q : VK} {us : List Value} {vs : List V} (F : FnG X.prog X.w X.K X.mg X.base CX k f fd ps sp) (hr : Room k X.A) (hgd : X.A.guards = some []) (hb : Binds X.K fd ps []) (hx : Passes CX X E)
    (I : Inv X pins σ H s) (r : Vals vs us) (h : sp vs H Q E) : wpAny (model X.prog X.w) X.A (PySem.call (.ref f) us) (EP X pins σ Q) X.xe s := by
  have hl : us.length = ps.length := by rw [← r.length]; exact F.ln _ _ _ _ h
  have b : BindsTo s fd ⟨us, []⟩ (ps.zip us) := by
    have z := hb s us I.kIn (by rw [List.append_nil]; exact hl)
    rwa [List.append_nil] at z
  exact back_of hx I (F.go X.A X.stack s H ⟨us, []⟩ us vs Q E hr hgd I.env0 b r h) rfl
end
/-- a def of the program by its name -/
structure Fn (P : Program) (w : World) (K : PySem.W.Frag) (mg : Str → Option Value) (base : Heap) (CX : CXT) (k : Nat) (x : Str) (ps : List Str) (sp : Sp) : Prop where
  ex : ∃ (f : Addr) (fd : FuncData), FnG P w K mg base CX k f fd ps sp ∧ mg x = some (.ref f) ∧ PySem.W.keepIn K (.ref f) = true ∧ Binds K fd ps []
/-- .. called with keywords alone -/
structure Fnk (P : Program) (w : World) (K : PySem.W.Frag) (mg : Str → Option Value) (base : Heap) (CX : CXT) (k : Nat) (x : Str) (ps : List Str) (sp : Sp) (ks : List Str) (g : List Value → List Value) (gV : List V → List V) : Prop where
  ex : ∃ (f : Addr) (fd : FuncData), FnG P w K mg base CX k f fd ps sp ∧ mg x = some (.ref f) ∧ PySem.W.keepIn K (.ref f) = true ∧
    (∀ (s : Shared) (ws : List Value), K.In s.heap → ws.length = ks.length → BindsTo s fd ⟨[], ks.zip ws⟩ (ps.zip (g ws))) ∧ ∀ {zs : List V} {ws : List Value}, Vals zs ws → Vals (gV zs) (g ws)
def tCallK0 (m : Nat) (sp : Sp) (gV : List V → List V) (E : XK) (tk : TA) : TE := fun σ H Q => tk σ H fun zs H2 => zs.length = m ∧ sp (gV zs) H2 Q E
section
variable {X : Cx} {CX : CXT} {j k n : Nat} {ps ks : List Str} {sp : Sp} {E : XK} {x : Str} {p pos : Pos} {e : Expr} {es : List Expr} {kws : List Keyword} {t tk : TA} {g : List Value → List Value} {gV : List V → List V}
theorem pe_fn (F : Fn X.prog X.w X.K X.mg X.base CX j x ps sp) (hr : Room k X.A) (hj : j ≤ k) (hgd : X.A.guards = some []) (hx : Passes CX X E) (ha : PA X (e :: es) t) (hg : Gl X x := by rfl) (hdb : (x == ("__debug__" : Str)) = false := by decide)
    (he : starEach (e :: es) X.env = (false, eval e X.env) :: starEach es X.env := by rfl) (hpl : (backTo pos (starEach es X.env)).any (·.1) = false := by rfl) : PE X (.Call (.Name x p) (e :: es) [] pos) (tCall sp [] E t) := by
  obtain ⟨f, fd, G, hm, hk, hb⟩ := F.ex
  refine ⟨fun pins s σ H Q I h => wpAny_Call_Name_kw (ld_glob I hg hm ?_ hdb)⟩
  refine PySem.W.callWith_K (h₀ := X.base) I.ok.mod.kin hk (thn (ha.run pos pins s σ H _ I h) fun us s1 ⟨vs, H1, I1, r, q⟩ => ⟨I1.kIn, ?_⟩) he hpl
  have q' : sp (vs ++ []) H1 Q E := q
  rw [List.append_nil] at q'
  exact run_g (G.up hj) hr hgd hb hx I1 r q'
theorem pe_fnk (F : Fnk X.prog X.w X.K X.mg X.base CX j x ps sp ks g gV) (hr : Room k X.A) (hj : j ≤ k) (hgd : X.A.guards = some []) (hx : Passes CX X E) (hkw : PK X kws tk) (hg : Gl X x := by rfl)
    (hall : (backToKw pos (keywordEach kws X.env)).all (·.1.isSome) = true := by rfl) (hks : (backToKw pos (keywordEach kws X.env)).filterMap (·.1) = ks := by rfl) (hdb : (x == ("__debug__" : Str)) = false := by decide)
    (hpl : ((backTo pos (starEach [] X.env)).any (·.1) || (backToKw pos (keywordEach kws X.env)).any (·.1.isNone)) = false := by rfl) : PE X (.Call (.Name x p) [] kws pos) (tCallK0 ks.length sp gV E tk) := by
  obtain ⟨f, fd, G, hm, hk, hb, hrel⟩ := F.ex
  refine ⟨fun pins s σ H Q I h => wpAny_Call_Name_kw (ld_glob I hg hm ?_ hdb)⟩
  refine PySem.W.callWith_KW0 (h₀ := X.base) I.ok.mod.kin hk hall ?_ hpl
  refine thn (hkw.run pos pins s σ H _ I h) fun ws s2 ⟨zs, H2, I2, rz, l, q2⟩ => ⟨I2.kIn, ?_⟩
  rw [hks]
  exact back_of hx I2 ((G.up hj).go X.A X.stack s2 H2 ⟨[] ++ [], ks.zip ws⟩ (g ws) (gV zs) Q E hr hgd I2.env0 (hb s2 ws I2.kIn (rz.length.symm.trans l)) (hrel rz) q2) rfl
end
/-- a def's body gives its promise -/
theorem fnG_of {CX : CXT} {P : Program} {w : World} {K : PySem.W.Frag} {mg : Str → Option Value} {base : Heap} {k : Nat} {x qual : Str} {params : Arguments} {body : List Stmt} {scope : Scope} {f : Addr} {fd : FuncData} {N ps : List Str} {sp : Sp}
    (D : FunD K x qual params body scope [] [] f fd) (S : FnScope N ps scope) (ln : ∀ vs H Q E, sp vs H Q E → vs.length = ps.length)
    (hb : ∀ (cdv : Value) (A : Around) (outer : List Env) (s : Shared) (H : Hp) (vs : List V) (Q : VK) (E : XK), Room k (A.deeper (envOfC qual scope s.heap.objs.size f cdv)) → A.guards = some [] → sp vs H Q E →
      ∃ t, PSs (cxOf CX P w K mg base N qual scope f cdv A outer s H E) body t ∧ t { nx := fun _ H' => Q .non H', rt := Q } (L2.start N vs) H) : FnG P w K mg base CX (k + 1) f fd ps sp := by
  obtain ⟨oc, od, dV, kV, doc, pm, an, cdv, ct, osl, rfl, lk, hcd, _, _⟩ := D.ex
  refine ⟨ln, fun A outer s H ar us vs Q E hr hgd e0 bnd r hsp => ?_⟩
  have hl : vs.length = ps.length := ln _ _ _ _ hsp
  have kept : ∀ b o, base.get? b = some o → s.heap.get? b = some o := fun b o z => (e0.bs b o z).1
  have kin : K.In s.heap := PySem.W.Frag.In.keeps e0.mod.kin kept
  have kinds : ∀ y ∈ ps.zip us, scope.names.lookup y.1 = some .local ∨ (scope.names.lookup y.1 = some .cell ∧ ((cellsFrom (s.heap.objs.size + 1) scope.names []).lookup y.1).isSome = true) := by
    rintro ⟨n, v⟩ hy
    exact (S.par n (List.of_mem_zip hy).1).elim Or.inl fun q => Or.inr ⟨q, PySem.W.cellsFrom_some _ _ _ (Or.inl q)⟩
  refine codeAny_call_function hr.depth (kin _ _ lk) rfl S.co S.gen rfl (PySem.W.codeRec_of kin hcd) (bnd _ _ _ _ (wpAny_newFunctionEnv_cells S.kind kinds fun env he s1 x => ?_))
  subst he
  obtain ⟨t, ht, hq⟩ := hb cdv A outer s H vs Q E (hr.deeper _) hgd hsp
  have lim : s1.heap.NoLimit := (e0.mod.nolimit.keeps kept).keeps x.toInCall.keep
  have I0 := inv_start (CX := CX) (N := N) (E := E) S hr.hd e0 hl r x
  refine ⟨lim, codeAny_func (wpAny_mono (ht.run [] s1 (L2.start N vs) H _ I0 hq) (fun fl s' hs => ?_) fun e s' z => z)⟩
  match fl, hs with
  | .ret u, ⟨v, σ', H', J, rv, q⟩ => exact ⟨v, H', J.os, J.bare, J.base, J.hok, rv, q⟩
  | .next, ⟨σ', H', J, q⟩ => exact ⟨V.non, H', J.os, J.bare, J.base, J.hok, rfl, q⟩
  | .brk, ⟨_, _, _, q⟩ => exact q.elim
  | .cont, ⟨_, _, _, q⟩ => exact q.elim
/-- the law's own def, called at the law's entry -/
theorem law_g {P : Program} {w : World} {K : PySem.W.Frag} {mg mb : Str → Option Value} {CX : CXT} {k : Nat} {fa a : Addr} {fd : FuncData} {x : Str} {sp : Sp} {s : Shared} {vs : List Value} {ns : List Int}
    (kx : K.In s.heap) (hm : s.heap.Ns mainGlobals mg) (hb : s.heap.Ns builtinsNs mb) (hbb : ∀ x : Str, x ≠ "__name__" → mb x = bootBuiltins x) (hlim : s.heap.NoLimit) (hgn : s.gens = #[])
    (ha : s.heap.get? a = some { cls := .type "list", data := .seq vs.toArray }) (hi : IntsAre vs ns) (hl : ns.length ≤ sizeLine) (hr : Room k callerA)
    (F : ∀ base : Heap, K.In base → base.Ns mainGlobals mg → FnG P w K mg base CX k fa fd [x] sp) (hbind : ∀ (s : Shared) (u : Value), BindsTo s fd ⟨[u], []⟩ [(x, u)])
    (hsp : ∀ H : Hp, SqL K H a (ns.map V.int) → (∀ b o, H b = some o → b = a ∧ ∃ ob xs, o = .frz ob (.lst xs)) → sp [.ref a] H (fun v _ => v = .bl true) fun _ _ _ => False)
    (hCX : ∀ H e s', CX [] H s (fun _ _ _ => False) e s' → False) :
    codeAny (model P w) callerA (.call (.ref fa) ⟨[.ref a], []⟩) (fun r s' => r = .ok (.ret (.bool true)) ∧ OldK s.heap s'.heap ∧ s'.os = s.os ∧ AllBare s'.gens) s := by
  have rv : Vals (ns.map V.int) vs := vals_ints hi
  have lv : vs.length = ns.length := hi.length
  -- at any heap that tracks the script at most
  suffices core : ∀ H : Hp, SqL K H a (ns.map V.int) → HOk P w H s.heap → (∀ b o, H b = some o → b = a ∧ (K.lookup a = none) ∧ ∃ ob xs, o = .frz ob (.lst xs)) →
      codeAny (model P w) callerA (.call (.ref fa) ⟨[.ref a], []⟩) (fun r s' => r = .ok (.ret (.bool true)) ∧ OldK s.heap s'.heap ∧ s'.os = s.os ∧ AllBare s'.gens) s by
    cases hk : K.lookup a with
    | some o =>
      have eo : o = { cls := .type "list", data := .seq vs.toArray } := Option.some.inj ((kx a o hk).symm.trans ha)
      subst eo
      refine core (fun _ => none) (Or.inr ⟨_, vs.toArray, _, hk, rfl, rfl, rfl, ?_, by simpa using rv⟩) (fun b u z => nomatch (show (none : Option HO) = some u from z)) fun b u z => nomatch (show (none : Option HO) = some u from z)
      rw [List.size_toArray, lv]
      exact hl
    | none =>
      have here : ∀ b u, upd (fun _ => none) a (.frz { cls := .type "list", data := .seq vs.toArray } (.lst (ns.map V.int))) b = some u → b = a ∧ u = .frz { cls := .type "list", data := .seq vs.toArray } (.lst (ns.map V.int)) := fun b u z => by
        by_cases e : b = a
        · subst e
          rw [upd_same] at z
          exact ⟨rfl, (Option.some.inj z).symm⟩
        · rw [upd_ne e] at z
          cases z
      refine core (upd (fun _ => none) a (.frz { cls := .type "list", data := .seq vs.toArray } (.lst (ns.map V.int)))) (Or.inl (Or.inr ⟨_, upd_same⟩)) (fun b u z => ?_) fun b u z => ?_
      · obtain ⟨e1, e2⟩ := here b u z
        subst e1 e2
        exact ⟨ha, by rw [List.length_map]; exact hl, vs, _, rv, ha⟩
      · obtain ⟨e1, e2⟩ := here b u z
        exact ⟨e1, hk, _, _, e2⟩
  intro H hS hok hA
  have no : ∀ {b : Addr} {o : Obj}, s.heap.get? b = some o → (∀ n, o.data ≠ .seq vs.toArray n) → H b = none := fun {b o} z d => by
    cases q : H b with
    | none => rfl
    | some u =>
      obtain ⟨e1, _⟩ := hA b u q
      subst e1
      have eo : o = { cls := .type "list", data := .seq vs.toArray } := Option.some.inj (z.symm.trans ha)
      exact absurd (by rw [eo]) (d _)
  have ns_hid : ∀ {b : Addr} {m : Str → Option Value}, s.heap.Ns b m → (hidT s.heap H).Ns b m := by
    rintro b m ⟨o, es, ep, z, d, r⟩
    exact ⟨o, es, ep, hidT_get z (no z fun n q => by rw [d] at q; cases q), d, r⟩
  have kb : K.In (hidT s.heap H) := fun b o z => hidT_get (kx b o z) (by
    cases q : H b with
    | none => rfl
    | some u =>
      obtain ⟨e1, e2, _⟩ := hA b u q
      subst e1
      rw [e2] at z
      cases z)
  have md : Mod K mg (hidT s.heap H) := by
    obtain ⟨mc, l1, l2⟩ := hlim
    exact ⟨kb, ns_hid hm, ⟨mb, ns_hid hb, hbb⟩, mc, ns_hid l1, l2⟩
  have e0 : Env0 P w K mg (hidT s.heap H) callerA [] s H := ⟨rfl, md, fun b o z => of_hidT z, Nat.le_of_eq (hidT_size _ _), trivial, fun b z => absurd (show b ∈ ([] : List Addr) from z) (by simp), hok, .of_eq hgn⟩
  refine codeAny_mono ((F _ kb (ns_hid hm)).go callerA [] s H ⟨[.ref a], []⟩ [.ref a] [.ref a] _ _ hr rfl e0 (hbind s (.ref a)) (.cons rfl .nil) (hsp H hS fun b o z => ⟨(hA b o z).1, (hA b o z).2.2⟩)) fun r s' h => ?_
  match r, h with
  | .error e, h => exact (hCX H e s' h).elim
  | .ok .next, h => exact h.elim
  | .ok .brk, h => exact h.elim
  | .ok .cont, h => exact h.elim
  | .ok (.ret u), ⟨v, H', os, bare, un, hok', r', q⟩ =>
    have ev : v = .bl true := q
    subst ev
    have eu : u = Value.bool true := r'
    subst eu
    refine ⟨rfl, OldK.of_keep fun b o z => ?_, os, bare⟩
    cases q : H b with
    | none => exact un.keep b o z q (fun m => absurd (show b ∈ ([] : List Addr) from m) (by simp)) (by simp)
    | some u =>
      obtain ⟨_, _, ob, xs, eu⟩ := hA b u q
      subst eu
      have z1 : s.heap.get? b = some ob := (hok b _ q).1
      have z2 : s'.heap.get? b = some ob := (hok' b _ (un.frzs b ob _ q)).1
      rw [z2, ← z1]
      exact z
theorem walk_g {l : PySem.W.OpenLaw} {n k : Nat} {q : Program} {loose : List Str} {XP : (Str → Option Value) → Heap → Prop} {YP : World → Heap → Prop} {d : DefRec} {CX : CXT} {x : Str}
    (hn : l.most = some n) (hn2 : n ≤ sizeLine) (hdf : d.params.defaults = []) (hr : Room k callerA)
    (F : ∀ (w : World) (mg : Str → Option Value) (fa : Addr) (h : Heap), YP w h → h.Ns mainGlobals mg → mg d.name = some (.ref fa) →
      ∃ (K : PySem.W.Frag) (fd : FuncData) (sp : Sp), K.In h ∧ (∀ (s : Shared) (u : Value), BindsTo s fd ⟨[u], []⟩ [(x, u)]) ∧
        (∀ (H : Hp) (a : Addr) (ns : List Int), ns.length ≤ n → SqL K H a (ns.map V.int) → (∀ b o, H b = some o → b = a ∧ ∃ ob xs, o = .frz ob (.lst xs)) → sp [.ref a] H (fun v _ => v = .bl true) fun _ _ _ => False) ∧
        ∀ base : Heap, K.In base → base.Ns mainGlobals mg → FnG l.prog w K mg base CX k fa fd [x] sp)
    (hCX : ∀ (H : Hp) (s : Shared) (e : Value) (s' : Shared), CX [] H s (fun _ _ _ => False) e s' → False) : PySem.W.WalkO q loose XP YP l.row.toRowW d [] (fun f vs => PySem.call f vs) := by
  refine Att.attach_call hn hdf fun w _ s₁ mg _ fa o pm cd doc a vs ns G Y _ _ _ hmg hobj hints hlen hgn => ?_
  obtain ⟨K, fd, sp, kx, hb, hsp, hF⟩ := F w mg fa _ Y G.T.g hmg
  exact law_g kx G.T.g G.T.b G.T.builtins G.T.nolimit hgn hobj hints (Nat.le_trans hlen hn2) hr hF hb (fun H => hsp H a ns hlen) fun H e s' => hCX H s₁ e s'
end Rr
namespace Rr
open PySem L2
section
variable {fm : Fm} {F F' M M' : Hp} {G G' : Gm} {σ : L2.St} {C C' : Cs}
variable {te ta tb tc : TE} {tt tu : TT} {tr : TA} {x y z it : It} {ds es : List PyData} {k : It → Cs → Prop} {kb : Bool → Cs → Prop} {ka : List It → Cs → Prop} {α β : Type} {D : Ends} {ts tu' tw : TS} {P : L2.St → Hp → Prop}
def xIs : R2 := fun x y H Q => xIsN x y H Q ∨ rIsB x y H Q
def xIsNot : R2 := fun x y H Q => xNotN x y H Q ∨ rNotB x y H Q
theorem op_xIs {X : Cx} : OpR X (compareOp .Is) xIs := OpR.or op_xIsN op_isBl
theorem op_xIsNot {X : Cx} : OpR X (compareOp .IsNot) xIsNot := OpR.or op_xNotN op_notBl
theorem r_is {d : PyData} : R2k fm xIs (.d d) (.d .none) C (.d (.bool (isNo d))) := fun F M ok v w r1 r2 Q q => .inl (r_isN F M ok v w r1 r2 Q q)
theorem r_isNot {d : PyData} : R2k fm xIsNot (.d d) (.d .none) C (.d (.bool (!isNo d))) := fun F M ok v w r1 r2 Q q => .inl (r_notN F M ok v w r1 r2 Q q)
theorem r_isB {a b : Bool} : R2k fm xIs (.d (.bool a)) (.d (.bool b)) C (.d (.bool (decide (a = b)))) := fun F M ok v w r1 r2 Q q => by
  cases r1; cases r2
  exact .inr ⟨a, b, rfl, rfl, q _ F (Ex.refl F) ok (.bl _)⟩
theorem r_isNotB {a b : Bool} : R2k fm xIsNot (.d (.bool a)) (.d (.bool b)) C (.d (.bool (!decide (a = b)))) := fun F M ok v w r1 r2 Q q => by
  cases r1; cases r2
  exact .inr ⟨a, b, rfl, rfl, q _ F (Ex.refl F) ok (.bl _)⟩
def xNeg : V → Hp → VK → Prop := rU fun i => .int (-i)
theorem ev_neg {i : Int} (h : Ev fm ta G C (.d (.int i))) : Ev fm (tUn xNeg ta) G C (.d (.int (-i))) := fun F M σ ok Q q => h F M σ ok _ fun v F1 e1 ok1 r1 => by
  cases r1
  exact ⟨i, rfl, q _ F1 e1 ok1 (.int _)⟩
theorem at_parE {i j : Nat} (h : EvA fm tr G C [x, y]) (k : At fm D.nx ((G.set i (some x)).set j (some y)) C) : At fm (tPar i j tr D) G C := at_par (WA.of h ⟨x, y, rfl, k⟩)
theorem at_dropE (h : Ev fm te G C it) (k : At fm D.nx G C) : At fm (tDrop te D) G C := at_drop (W.of h k)
theorem hu_of64 {A : Around} {k : Nat} (hr : Room k A) : A.units + 64 < cLine := hr.units
theorem el_lc0 {wi : TI} {g : TG} {vs : List Nat} {xs : List α} {enc : α → It} {f : α → PyData} {G2 : α → Gm} (hi : EvI fm wi G C PT0 xs enc) (hz : xs.length ≤ 16777216)
    (hg : ∀ a, Tgw g vs (enc a) (wipeG G vs) (G2 a)) (he : ∀ M0 F0 a, a ∈ xs → Ev ⟨fm.K, M0, F0⟩ te (G2 a) C (.d (f a))) : EvL fm (tLc wi g tYes te vs) G C (xs.map f) := by
  have h := el_lc (p := fun _ => true) hi hz hg (fun _ _ _ _ => et_yes) (fun M0 F0 a ha _ => he M0 F0 a ha)
  rw [List.filter_eq_self.mpr (fun _ _ => rfl)] at h
  exact h
theorem el_lcI {wi : TI} {g : TG} {vs : List Nat} {xs : List α} {enc : α → It} {f : α → Int} {G2 : α → Gm} (hi : EvI fm wi G C PT0 xs enc) (hz : xs.length ≤ 16777216)
    (hg : ∀ a, Tgw g vs (enc a) (wipeG G vs) (G2 a)) (he : ∀ M0 F0 a, a ∈ xs → Ev ⟨fm.K, M0, F0⟩ te (G2 a) C (.d (.int (f a)))) : EvL fm (tLc wi g tYes te vs) G C ((xs.map f).map .int) := by
  rw [List.map_map]
  exact el_lc0 hi hz hg he
theorem el_lcB {wi : TI} {g : TG} {vs : List Nat} {xs : List α} {enc : α → It} {f : α → Bool} {G2 : α → Gm} (hi : EvI fm wi G C PT0 xs enc) (hz : xs.length ≤ 16777216)
    (hg : ∀ a, Tgw g vs (enc a) (wipeG G vs) (G2 a)) (he : ∀ M0 F0 a, a ∈ xs → Ev ⟨fm.K, M0, F0⟩ te (G2 a) C (.d (.bool (f a)))) : EvL fm (tLc wi g tYes te vs) G C ((xs.map f).map .bool) := by
  rw [List.map_map]
  exact el_lc0 hi hz hg he
theorem el_lcIf {wi : TI} {g : TG} {vs : List Nat} {xs : List α} {enc : α → It} {p : α → Bool} {f : α → Int} {G2 : α → Gm} (hi : EvI fm wi G C PT0 xs enc) (hz : xs.length ≤ 16777216)
    (hg : ∀ a, Tgw g vs (enc a) (wipeG G vs) (G2 a)) (ht : ∀ M0 F0 a, a ∈ xs → EvT ⟨fm.K, M0, F0⟩ tt (G2 a) C (p a)) (he : ∀ M0 F0 a, a ∈ xs → p a = true → Ev ⟨fm.K, M0, F0⟩ te (G2 a) C (.d (.int (f a)))) : EvL fm (tLc wi g tt te vs) G C (((xs.filter p).map f).map .int) := by
  rw [List.map_map]
  exact el_lc hi hz hg ht he
theorem r_ixI {i : Int} {is : List Int} (hx : RdQ C x (is.map .int)) (h1 : -(is.length : Int) ≤ i) (h2 : i < is.length) : R2k fm (xIx fm.K) x (.d (.int i)) C (.d (.int (is.getD (pyIx is.length i) 0))) := by
  have hl : (is.map PyData.int).length = is.length := List.length_map _
  refine r_ix hx (by rw [hl]; exact h1) (by rw [hl]; exact h2) ?_
  have hlt := pyIx_lt h1 h2
  rw [hl, List.getElem?_map, List.getD_eq_getElem?_getD, List.getElem?_eq_getElem hlt]
  rfl
theorem r_ixB {i : Int} {is : List Bool} (hx : RdQ C x (is.map .bool)) (h1 : -(is.length : Int) ≤ i) (h2 : i < is.length) : R2k fm (xIx fm.K) x (.d (.int i)) C (.d (.bool (is.getD (pyIx is.length i) false))) := by
  have hl : (is.map PyData.bool).length = is.length := List.length_map _
  refine r_ix hx (by rw [hl]; exact h1) (by rw [hl]; exact h2) ?_
  have hlt := pyIx_lt h1 h2
  rw [hl, List.getElem?_map, List.getD_eq_getElem?_getD, List.getElem?_eq_getElem hlt]
  rfl
theorem r_ixD {i : Int} (hx : RdQ C x ds) (h1 : -(ds.length : Int) ≤ i) (h2 : i < ds.length) : R2k fm (xIx fm.K) x (.d (.int i)) C (.d (ds.getD (pyIx ds.length i) .none)) := by
  refine r_ix hx h1 h2 ?_
  have hlt := pyIx_lt h1 h2
  rw [List.getD_eq_getElem?_getD, List.getElem?_eq_getElem hlt]
  rfl
theorem r_ixTu {i : Int} {d : PyData} (hx : RdT C x ds) (h1 : -(ds.length : Int) ≤ i) (h2 : i < ds.length) (hd : ds[pyIx ds.length i]? = some d) : R2k fm (xIx fm.K) x (.d (.int i)) C (.d d) := fun F M ok v w r1 r2 Q q => by
  cases r2
  cases hx with
  | d =>
    cases r1 with
    | tup hF s =>
      obtain ⟨u, hu, ru⟩ := s.get hd
      refine .inr (.inl ⟨_, _, i, u, rfl, rfl, SqT.of (ok.dj.ex hF), ?_, q u F (Ex.refl F) ok ru⟩)
      unfold atI
      rw [s.length, ixN_py h1 h2]
      exact hu
theorem pyIx_nn {n : Nat} {i : Int} (h : 0 ≤ i) : pyIx n i = i.toNat := by unfold pyIx; rw [if_pos h]
theorem pyIx_nat {n i : Nat} : pyIx n (i : Int) = i := by unfold pyIx; rw [if_pos (by omega)]; omega
theorem cmul_lt {i j : Int} {a b : Nat} (ha : i.natAbs < 2 ^ a) (hb : j.natAbs < 2 ^ b) (h0 : 0 < a) (h1 : 0 < b) (h : a + b ≤ 1000000) : CMulW i j := wide_mul ha hb h0 h1 h
theorem cmul_300 {i j : Int} (h1 : -(2 ^ 600) < i) (h2 : i < 2 ^ 600) (h3 : -(2 ^ 600) < j) (h4 : j < 2 ^ 600) : CMulW i j := wide_mul (a := 600) (b := 600) (by omega) (by omega) (by decide) (by decide) (by decide)
theorem cdiv_300 {i j : Int} (h1 : 0 < j) (h2 : j < 2 ^ 600) : CDivW i j := wide_div (b := 600) h1 (by omega) (by decide) (by decide)
theorem cpow_lt {i j : Int} {a : Nat} (ha : i.natAbs < 2 ^ a) (h0 : 0 < a) (h1 : 0 ≤ j) (h2 : (a : Int) * j ≤ 2 ^ 27) : CPowW i j := by
  refine ⟨h1, Int.le_trans (Int.mul_le_mul_of_nonneg_right ?_ h1) h2⟩
  have x := PySem.Flt.log2_lt_of h0 ha
  unfold Builtin.Int.intBits
  split <;> omega
end
end Rr
namespace Rr
open PySem PySem.Spec PyProof.Rows L2
section
variable {fm : Fm} {F F' M M' : Hp} {G G' : Gm} {σ : L2.St} {C C' : Cs}
variable {te ta tb tc : TE} {tt tu : TT} {tr : TA} {x y z it : It} {ds es : List PyData} {k : It → Cs → Prop} {α β : Type}
variable {ts tw : TS} {P Pb Pc : L2.St → Hp → Prop} {R : VK}
theorem at_sq (h : At fm (ts ⟨tw ⟨P, R, Pb, Pc⟩, R, Pb, Pc⟩) G C) : At fm (tSeq ts tw ⟨P, R, Pb, Pc⟩) G C := h
theorem at_mid (Mid : Gm → Cs → Prop) (h : ∀ N, (∀ G' C', Mid G' C' → At fm N G' C') → At fm (ts ⟨N, R, Pb, Pc⟩) G C) (k : ∀ G' C', Mid G' C' → At fm (tw ⟨P, R, Pb, Pc⟩) G' C') : At fm (tSeq ts tw ⟨P, R, Pb, Pc⟩) G C := at_cut Mid h k
theorem at_nx (h : At fm P G C) : At fm (tNext ⟨P, R, Pb, Pc⟩) G C := h
theorem at_st {i : Nat} (h : Ev fm te G C it) (k : At fm P (G.set i (some it)) C) : At fm (tAsg te (gName i) ⟨P, R, Pb, Pc⟩) G C := at_set h k
theorem at_stW {i : Nat} (h : W fm te G C fun it C1 => At fm P (G.set i (some it)) C1) : At fm (tAsg te (gName i) ⟨P, R, Pb, Pc⟩) G C := at_setW h
theorem at_stL {i : Nat} (h : EvL fm te G C ds) (k : ∀ p, At fm P (G.set i (some (.c p))) (C ++ [(p, .dat ds)])) : At fm (tAsg te (gName i) ⟨P, R, Pb, Pc⟩) G C := at_setL h k
theorem at_rt (h : Ev fm te G C it) (k : Rt fm R it C) : At fm (tRet te ⟨P, R, Pb, Pc⟩) G C := at_ret h k
theorem at_rtW (h : W fm te G C fun it C1 => Rt fm R it C1) : At fm (tRet te ⟨P, R, Pb, Pc⟩) G C := at_retW h
theorem at_rtL (h : EvL fm te G C ds) (k : ∀ p, Rt fm R (.c p) (C ++ [(p, .dat ds)])) : At fm (tRet te ⟨P, R, Pb, Pc⟩) G C := at_retL h k
theorem at_dp (h : W fm te G C fun _ C1 => At fm P G C1) : At fm (tDrop te ⟨P, R, Pb, Pc⟩) G C := at_drop h
theorem at_dpE (h : Ev fm te G C it) (k : At fm P G C) : At fm (tDrop te ⟨P, R, Pb, Pc⟩) G C := at_dropE h k
theorem at_pt {i : Int} {d : PyData} {p : Addr} {j : Nat} (he : Ev fm te G C (.d d)) (hx : Ev fm ta G C (.c p)) (hi : Ev fm tb G C (.d (.int i))) (hj : C[j]? = some (p, .dat ds)) (h1 : -(ds.length : Int) ≤ i) (h2 : i < ds.length)
    (hk : At fm P G (C.set j (p, .dat (ds.set (pyIx ds.length i) d)))) : At fm (tAsg te (gSub ta tb rSetL) ⟨P, R, Pb, Pc⟩) G C := at_put he hx hi hj h1 h2 hk
/-- a walk over data, the state behind i rounds a function of i -/
theorem at_each {wi : TI} {g : TG} {xs : List α} {enc : α → It} (hi : EvI fm wi G C PT0 xs enc) (Iv : Nat → Gm → Cs → Prop) (h0 : Iv 0 G C)
    (hs : ∀ F1, Ex fm.F0 F1 → ∀ i a G' C', xs[i]? = some a → Iv i G' C' → ∃ G2, Tg g (enc a) G' G2 ∧ ∀ N, (∀ G3 C3, Iv (i + 1) G3 C3 → At ⟨fm.K, fm.M0, F1⟩ N G3 C3) → At ⟨fm.K, fm.M0, F1⟩ (ts ⟨N, R, P, N⟩) G2 C')
    (hd : ∀ G' C', Iv xs.length G' C' → At fm P G' C') : At fm (tFor wi g ts ⟨P, R, Pb, Pc⟩) G C := at_for hi Iv h0 (fun _ _ _ _ _ _ _ => trivial) hs hd
def perm {α : Type} (l : List Nat) (xs : List α) : List α := l.filterMap fun i => xs[i]?
theorem RpIs.perm {K : PySem.W.Frag} {vs : List V} {its : List It} (h : RpIs K F vs its) : ∀ l : List Nat, RpIs K F (Rr.perm l vs) (Rr.perm l its)
  | [] => .nil
  | i :: l => by
    have ih := h.perm l
    unfold Rr.perm at ih ⊢
    rw [List.filterMap_cons, List.filterMap_cons]
    cases q : its[i]? with
    | none =>
      have : vs[i]? = none := by
        rw [List.getElem?_eq_none_iff] at q ⊢
        rw [h.length]; exact q
      rw [this]
      exact ih
    | some it =>
      obtain ⟨v, hv, rv⟩ := h.get q
      rw [hv]
      exact .cons rv ih
theorem vals_perm {vs : List V} {us : List Value} (h : Vals vs us) : ∀ l : List Nat, Vals (Rr.perm l vs) (Rr.perm l us)
  | [] => .nil
  | i :: l => by
    have ih := vals_perm h l
    unfold Rr.perm at ih ⊢
    rw [List.filterMap_cons, List.filterMap_cons]
    cases q : vs[i]? with
    | none =>
      rw [h.none_of q]
      exact ih
    | some it =>
      obtain ⟨v, hv, rv⟩ := h.get q
      rw [hv]
      exact .cons rv ih
theorem Spc.perm {K : PySem.W.Frag} {args args' : α → List It} {cells : α → Cs} {pre : α → Prop} {post : α → It → Cs → Prop} {l : List Nat} {vs : List V} {H : Hp} {Q : VK} {E : XK} (h : ∀ a, Rr.perm l (args' a) = args a) (s : Spc K args' cells pre post vs H Q E) :
    Spc K args cells pre post (Rr.perm l vs) H Q E := by
  obtain ⟨a, F, M, M0, hp, e, ok, r, hq⟩ := s
  exact ⟨a, F, M, M0, hp, e, ok, h a ▸ r.perm l, hq⟩
theorem evk_call {args : α → List It} {cells : α → Cs} {pre : α → Prop} {post : α → It → Cs → Prop} {l : List Nat} {m : Nat} {E : XK} {its : List It} {r : PyData} (a : α) (he : Rr.perm l its = args a) (hm : its.length = m)
    (h : EvA fm tr G C its) (hc : cells a = []) (hp : pre a) (hr : ∀ it C', post a it C' → it = .d r ∧ C' = []) : Ev fm (tCallK0 m (Spc fm.K args cells pre post) (Rr.perm l) E tr) G C (.d r) := fun F M σ ok Q q =>
  h F M σ ok _ fun vs F1 e1 ok1 r1 => by
    have s := OkC.split (C1 := []) (C2 := C) ok1.c
    refine ⟨by rw [r1.length, hm], a, F1, M, _, hp, rfl, by rw [hc]; exact s, he ▸ r1.perm l, fun F2 ex2 it C' po F3 M3 v ok3 r3 => ?_⟩
    obtain ⟨e2, e3⟩ := hr it C' po
    subst e2 e3
    have hM : M3 = M := funext fun a => by
      have z := ok3.rest a (fun x hx => by cases hx)
      simpa using z
    subst hM
    exact q v F3 (e1.trans (ex2.trans ok3.ex)) (ok1.grow (ex2.trans ok3.ex) ok3.dj) r3
/-- what a body keeps -/
def Keeps {α : Type} (K : PySem.W.Frag) (n : Nat) (t : TS) (args : α → List It) (cells : α → Cs) (pre : α → Prop) (post : α → It → Cs → Prop) : Prop :=
  ∀ a M0 F0 Q, pre a → (∀ F1, Ex F0 F1 → ∀ it C', post a it C' → Rt ⟨K, M0, F1⟩ Q it C') → At ⟨K, M0, F0⟩ (t ⟨fun _ H' => Q .non H', Q, fun _ _ => False, fun _ _ => False⟩) (startG n (args a)) (cells a)
end
section
variable {α : Type} {P : Program} {w : World} {K : PySem.W.Frag} {mg : Str → Option Value} {base : Heap} {k : Nat} {x qual : Str} {params : Arguments} {body : List Stmt} {scope : Scope} {f : Addr} {fd : FuncData} {N ps : List Str}
variable {args : α → List It} {cells : α → Cs} {pre : α → Prop} {post : α → It → Cs → Prop} {t : TS}
theorem ok_keeps (D : FunD K x qual params body scope [] [] f fd) (S : FnScope N ps scope) (hn : ∀ a, (args a).length = ps.length) (hN : ps.length ≤ N.length) (hb : Keeps K N.length t args cells pre post)
    (hd : ∀ (cdv : Value) (A : Around) (outer : List Env) (s : Shared) (H : Hp) (E : XK), Room k (A.deeper (envOfC qual scope s.heap.objs.size f cdv)) → A.guards = some [] → PSs (cxOf CX0 P w K mg base N qual scope f cdv A outer s H E).nox body t) :
    FnG P w K mg base CX0 (k + 1) f fd ps (Spc K args cells pre post) :=
  fnG_of D S (spc_len hn) fun cdv A outer s H vs Q E hr hg h => ⟨t, PSs.nox (hd cdv A outer s H E hr hg), spc_start h (fun a => by rw [hn]; exact hN) fun a M0 F0 Q hp hq => hb a M0 F0 Q hp hq⟩
/-- keywords alone -/
theorem bindsK (F : FunD K x qual params body scope [] [] f fd) {ks : List Str} {g : List Value → List Value}
    (h : ∀ (kV doc pm : Value) (an : Option Addr) (cdv ct : Value) (ws : List Value), ws.length = ks.length → bindArgs (PySem.W.fnOf x qual params body scope .none kV doc pm an cdv ct) ⟨[], ks.zip ws⟩ = pure (ps.zip (g ws))) (s : Shared) (ws : List Value) (hl : ws.length = ks.length) :
    BindsTo s fd ⟨[], ks.zip ws⟩ (ps.zip (g ws)) := by
  obtain ⟨oc, od, dV, kV, doc, pm, an, cdv, ct, osl, rfl, lk, hcd, hD, hK⟩ := F.ex
  rcases hD with ⟨_, rfl⟩ | ⟨e, _⟩
  · exact .of_eq (h kV doc pm an cdv ct ws hl)
  · exact absurd rfl e
end
/-- the law's own call: the script, and true behind it -/
theorem spc_law {K : PySem.W.Frag} {post : List Int → It → Cs → Prop} {n : Nat} (hp : ∀ ns it C, post ns it C → it = .d (.bool true)) (H : Hp) (a : Addr) (ns : List Int) (hl : ns.length ≤ n) (hS : SqL K H a (ns.map V.int)) {E : XK} :
    Spc K (fun ns : List Int => [.s ns]) (fun _ => []) (fun ns => ns.length ≤ n) post [.ref a] H (fun v _ => v = .bl true) E := by
  refine ⟨ns, H, fun _ => none, fun _ => none, hl, ?_, ⟨Ex.refl H, (fun x h => by cases h), (fun x h => by cases h), (fun _ _ => rfl), List.Pairwise.nil, (fun b o h => by cases h)⟩, .cons ⟨a, rfl, hS⟩ .nil, fun F1 e it C' po F M v ok r => ?_⟩
  · funext b
    exact (ov_F rfl).symm
  · obtain rfl := hp _ _ _ po
    cases r
    rfl
/-- a contract in one piece -/
structure Ct where
  {α : Type}
  args : α → List It
  cells : α → Cs := fun _ => []
  pre : α → Prop := fun _ => True
  post : α → It → Cs → Prop
abbrev Ct.sp (c : Ct) (K : PySem.W.Frag) : Sp := Spc K c.args c.cells c.pre c.post
abbrev Ct.keeps (c : Ct) (K : PySem.W.Frag) (n : Nat) (t : TS) : Prop := Keeps K n t c.args c.cells c.pre c.post
section
variable {X : Cx} {CX : CXT} {j k m : Nat} {ps ks : List Str} {sp : Sp} {E : XK} {x : Str} {p pos : Pos} {kws : List Keyword} {tk : TA} {g : List Value → List Value} {gV : List V → List V}
theorem pe_fnm (F : Fnk X.prog X.w X.K X.mg X.base CX j x ps sp ks g gV) (hr : Room k X.A) (hj : j ≤ k) (hgd : X.A.guards = some []) (hx : Passes CX X E) (hkw : PK X kws tk) (hm : ks.length = m := by rfl) (hg : Gl X x := by rfl)
    (hall : (backToKw pos (keywordEach kws X.env)).all (·.1.isSome) = true := by rfl) (hks : (backToKw pos (keywordEach kws X.env)).filterMap (·.1) = ks := by rfl) (hdb : (x == ("__debug__" : Str)) = false := by decide)
    (hpl : ((backTo pos (starEach [] X.env)).any (·.1) || (backToKw pos (keywordEach kws X.env)).any (·.1.isNone)) = false := by rfl) : PE X (.Call (.Name x p) [] kws pos) (tCallK0 m sp gV E tk) :=
  hm ▸ pe_fnk F hr hj hgd hx hkw hg hall hks hdb hpl
end
def Sz (i : Int) : Prop := -(2 ^ 600) < i ∧ i < 2 ^ 600
theorem cmul_sz {i j : Int} (h1 : Sz i) (h2 : Sz j) : CMulW i j := cmul_300 h1.1 h1.2 h2.1 h2.2
theorem sz_getD {l : List Int} {j : Nat} (h : ∀ x ∈ l, Sz x) : Sz (l.getD j 0) := by
  rw [List.getD_eq_getElem?_getD]
  cases q : l[j]? with
  | none => exact ⟨by decide, by decide⟩
  | some x => exact h x (List.mem_of_getElem? q)
theorem sz_of {i : Int} (h1 : -4294967296 ≤ i) (h2 : i ≤ 4294967296) : Sz i := ⟨Int.lt_of_lt_of_le (by decide) h1, Int.lt_of_le_of_lt h2 (by decide)⟩
def EvD (fm : Fm) (t : TA) (G : Gm) (C : Cs) (ds : List PyData) : Prop := EvA fm t G C (ds.map It.d)
section
variable {fm : Fm} {G : Gm} {C : Cs} {te : TE} {tr : TA} {d : PyData} {ds : List PyData}
theorem ed_nil : EvD fm tNil G C [] := ea_nil
theorem ed_cons (h : Ev fm te G C (.d d)) (hr : EvD fm tr G C ds) : EvD fm (tCons te tr) G C (d :: ds) := ea_cons h hr
theorem el_ls (h : EvD fm tr G C ds) (hz : ds.length ≤ 16777216) : EvL fm (tLst tr) G C ds := el_lst h rfl hz
theorem ev_tu (h : EvD fm tr G C ds) (hz : ds.length ≤ 16777216) : Ev fm (tTup tr) G C (.d (.tuple ds)) := ev_tup h rfl hz
end
theorem sz_mem {a : Int} {l : List Int} (hx : a ∈ l) (h : ∀ x ∈ l, Sz x) : Sz a := h a hx
section
variable {fm : Fm} {G : Gm} {C : Cs} {te : TE} {ts tw : TS} {P Pb Pc : L2.St → Hp → Prop} {R : VK}
theorem tg_three {K : PySem.W.Frag} {i j l : Nat} {d e f : PyData} : Tg (gTup K 3 (gCons (gName i) (gCons (gName j) (gCons (gName l) gNil)))) (.d (.tuple [d, e, f])) G (((G.set i (some (.d d))).set j (some (.d e))).set l (some (.d f))) := fun fm F M σ C ok v r Q q => by
  cases r with
  | tup hF rv =>
    cases rv with
    | cons r1 rv =>
      cases rv with
      | cons r2 rv =>
        cases rv with
        | cons r3 rv =>
          cases rv
          refine ⟨_, _, rfl, SqT.of (ok.c.dj.ex hF), rfl, _, _, rfl, _, _, rfl, _, _, rfl, rfl, q _ ?_⟩
          exact ((ok.set (it := .d d) r1).set (it := .d e) r2).set (it := .d f) r3
theorem tgw_three {K : PySem.W.Frag} {i j l : Nat} {vs : List Nat} {d e f : PyData} (h1 : i ∈ vs) (h2 : j ∈ vs) (h3 : l ∈ vs) : Tgw (gTup K 3 (gCons (gName i) (gCons (gName j) (gCons (gName l) gNil)))) vs (.d (.tuple [d, e, f])) G (((G.set i (some (.d d))).set j (some (.d e))).set l (some (.d f))) := fun fm F M σ C ok v r Q q => by
  cases r with
  | tup hF rv =>
    cases rv with
    | cons r1 rv =>
      cases rv with
      | cons r2 rv =>
        cases rv with
        | cons r3 rv =>
          cases rv
          refine ⟨_, _, rfl, SqT.of (ok.c.dj.ex hF), rfl, _, _, rfl, _, _, rfl, _, _, rfl, rfl, q _ ?_ ?_⟩
          · exact ((ok.set (it := .d d) r1).set (it := .d e) r2).set (it := .d f) r3
          · rw [wipe_in h3, wipe_in h2, wipe_in h1]
end
structure Bits (n : Nat) (x : Int) : Prop where
  nn : 0 ≤ x
  lt : x < 2 ^ n
theorem two_le {a b : Nat} (h : a ≤ b) : (2 : Int) ^ a ≤ 2 ^ b := by
  have z : (2 : Nat) ^ a ≤ 2 ^ b := Nat.pow_le_pow_right (by decide) h
  exact_mod_cast z
theorem Bits.up {a b : Nat} {x : Int} (h : Bits a x) (hb : a ≤ b) : Bits b x := ⟨h.nn, Int.lt_of_lt_of_le h.lt (two_le hb)⟩
theorem Bits.abs {n : Nat} {i : Int} (h : Bits n i) : i.natAbs < 2 ^ n := by
  have z : ((i.natAbs : Nat) : Int) < ((2 ^ n : Nat) : Int) := by
    rw [Int.natAbs_of_nonneg h.nn]
    exact_mod_cast h.lt
  exact_mod_cast z
theorem Bits.mul {a b : Nat} {x y : Int} (h : Bits a x) (g : Bits b y) : Bits (a + b) (x * y) := ⟨Int.mul_nonneg h.nn g.nn, by
  rw [Int.pow_add]
  exact Int.lt_of_le_of_lt (Int.mul_le_mul_of_nonneg_left (Int.le_of_lt g.lt) h.nn) (Int.mul_lt_mul_of_pos_right h.lt (Int.pow_pos (by decide)))⟩
theorem Bits.cmul {a b : Nat} {x y : Int} (h : Bits a x) (g : Bits b y) (ha : 0 < a) (hb : 0 < b) (hs : a + b ≤ 1000000) : CMulW x y := cmul_lt h.abs g.abs ha hb hs
theorem cdiv_sm {i j : Int} (h1 : 0 < j) (h2 : j ≤ 4294967296) : CDivW i j := cdiv_300 h1 (Int.lt_of_le_of_lt h2 (by decide))
def tGuard : TE := fun _ _ _ => False
def ttGuard : TT := fun _ _ _ => False
section
variable {fm : Fm} {G : Gm} {C : Cs} {x : It} {ds : List PyData} {b : Bool}
theorem ev_guard (h : False) : Ev fm tGuard G C x := h.elim
theorem el_guard (h : False) : EvL fm tGuard G C ds := h.elim
theorem et_guard (h : False) : EvT fm ttGuard G C b := h.elim
end
end Rr
namespace Rr
open PySem PySem.Spec PyProof.Rows L2
mutual
/-- what looks like these data now -/
inductive AsX (C : Cs) : It → PyData → Prop
  | d (x : PyData) : AsX C (.d x) x
  | c {p : Addr} {ds : List PyData} : (p, Cell.dat ds) ∈ C → AsX C (.c p) (.list ds)
  | l {p : Addr} {its : List It} {ds : List PyData} : (p, Cell.lst its) ∈ C → AsXs C its ds → AsX C (.c p) (.list ds)
  | t {p : Addr} {its : List It} {ds : List PyData} : (p, Cell.tup its) ∈ C → AsXs C its ds → AsX C (.c p) (.tuple ds)
inductive AsXs (C : Cs) : List It → List PyData → Prop
  | nil : AsXs C [] []
  | cons {x : It} {d : PyData} {its : List It} {ds : List PyData} : AsX C x d → AsXs C its ds → AsXs C (x :: its) (d :: ds)
end
section
variable {fm : Fm} {F F' M M' : Hp} {G G' : Gm} {σ : L2.St} {C C' : Cs}
variable {te ta tb tc : TE} {tt tu : TT} {tr : TA} {x y z it : It} {ds es : List PyData} {k : It → Cs → Prop} {α β : Type}
variable {ts tw : TS} {P Pb Pc : L2.St → Hp → Prop} {R : VK}
mutual
theorem AsX.get (ok : OkC fm F M C) : ∀ {x : It} {d : PyData} {v : V}, AsX C x d → RpI fm.K F v x → Rp (ov M F) v d
  | _, _, _, .d _, r => Rp.ov ok.dj r
  | _, _, v, .c hm, r => by
    obtain ⟨vs, hp, rv⟩ := ok.cells _ hm
    have e : v = .ref _ := r
    subst e
    exact .lst (ov_M hp) (rv.ex fun _ _ e => ok.dj.ex e)
  | _, _, v, .l hm hs, r => by
    obtain ⟨vs, hp, rv⟩ := ok.cells _ hm
    have e : v = .ref _ := r
    subst e
    exact .lst (ov_M hp) (AsXs.get ok hs rv)
  | _, _, v, .t hm hs, r => by
    obtain ⟨vs, hp, rv⟩ := ok.cells _ hm
    have e : v = .ref _ := r
    subst e
    exact .tup (ov_M hp) (AsXs.get ok hs rv)
theorem AsXs.get (ok : OkC fm F M C) : ∀ {its : List It} {ds : List PyData} {vs : List V}, AsXs C its ds → RpIs fm.K F vs its → RpA (ov M F) vs ds
  | _, _, _, .nil, .nil => .nil
  | _, _, _, .cons h hs, .cons r rs => .cons (AsX.get ok h r) (AsXs.get ok hs rs)
end
/-- plain values -/
def plain : PyData → Bool
  | .none => true
  | .bool _ => true
  | .int _ => true
  | .str _ => true
  | _ => false
theorem Rp.plain {H H' : Hp} {v : V} {d : PyData} (h : Rp H v d) (p : plain d = true) : Rp H' v d := by
  cases h <;> first | (cases p; done) | constructor
/-- a cell is no longer tracked -/
theorem OkC.drop (h : OkC fm F M C) {k : Nat} {p : Addr} {c : Cell} (hk : C[k]? = some (p, c)) :
    ∃ F' M', OkC fm F' M' (C.eraseIdx k) ∧ ov M' F' = ov M F ∧ Ex F F' := by
  have hm : (p, c) ∈ C := List.mem_of_getElem? hk
  have hkl : k < C.length := (List.getElem?_eq_some_iff.mp hk).1
  have ek : C[k] = (p, c) := (List.getElem?_eq_some_iff.mp hk).2
  obtain ⟨o, hp⟩ := (h.cells _ hm).some
  have hp : M p = some o := hp
  have hF : F p = none := h.dj p _ hp
  have nin : ∀ x ∈ C.eraseIdx k, x ∈ C ∧ x.1 ≠ p := fun x hx => by
    obtain ⟨j, hj, e⟩ := List.mem_eraseIdx_iff_getElem.mp hx
    obtain ⟨hjk, e⟩ := e
    have q := List.pairwise_iff_getElem.mp h.nd
    refine ⟨by rw [← e]; exact List.getElem_mem _, ?_⟩
    rw [← e]
    rcases Nat.lt_or_gt_of_ne hjk with l | l
    · have z := q j k (by assumption) hkl l
      rw [ek] at z
      exact z
    · have z := q k j hkl (by assumption) l
      rw [ek] at z
      exact fun e => z e.symm
  refine ⟨upd F p o, era M p, ⟨h.ex.trans (Ex.new hF), fun x hx => ?_, fun x hx => h.out x (nin x hx).1, fun a ha => ?_, h.nd.sublist (List.eraseIdx_sublist C k), fun a u e => ?_⟩, ov_era hp, Ex.new hF⟩
  · rw [era_ne (nin x hx).2]
    exact (h.cells x (nin x hx).1).ex (Ex.new hF)
  · by_cases e : a = p
    · subst e
      rw [era_same]
      exact (h.out _ hm).symm
    · rw [era_ne e]
      refine h.rest a fun x hx => ?_
      obtain ⟨j, hj⟩ := List.mem_iff_getElem?.mp hx
      by_cases hjk : j = k
      · subst hjk
        rw [hk] at hj
        cases hj
        exact fun z => e z.symm
      · refine ha x (List.mem_eraseIdx_iff_getElem?.mpr ⟨j, hjk, hj⟩)
  · by_cases e2 : a = p
    · subst e2
      rw [era_same] at e
      cases e
    · rw [era_ne e2] at e
      rw [upd_ne e2]
      exact h.dj a u e
/-- a cell is forgotten -/
theorem at_fgt {j : Nat} (h : At fm P G (C.eraseIdx j)) : At fm P G C := fun F M σ ok => by
  cases q : C[j]? with
  | none =>
    rw [List.eraseIdx_of_length_le (List.getElem?_eq_none_iff.mp q)] at h
    exact h F M σ ok
  | some x =>
    obtain ⟨p, c⟩ := x
    obtain ⟨F', M', a, b, e⟩ := ok.c.drop q
    rw [← b]
    exact h F' M' σ (ok.cells_to e a)
/-- the cells behind are forgotten -/
theorem at_fgts : ∀ {C2 : Cs} (_ : At fm P G C), At fm P G (C ++ C2)
  | [], h => by rw [List.append_nil]; exact h
  | x :: C2, h => by
    refine at_fgt (j := C.length) ?_
    have e : (C ++ x :: C2).eraseIdx C.length = C ++ C2 := by simp [List.eraseIdx_append_of_length_le]
    rw [e]
    exact at_fgts h
end
end Rr
namespace Rr
open PySem PySem.Spec PyProof.Rows L2
section
variable {fm : Fm} {F F' M M' : Hp} {G G' : Gm} {σ : L2.St} {C C' : Cs}
variable {te ta tb tc : TE} {tt tu : TT} {tr : TA} {x y z it : Rr.It} {ds es : List PyData} {k : Rr.It → Cs → Prop} {α β : Type}
variable {ts tw : TS} {P Pb Pc : L2.St → Hp → Prop} {R : VK} {j : Nat} {p : Addr}
/-- xs.count(i), ints -/
theorem ev_count {is : List Int} {i : Int} (hx : Ev fm ta G C x) (hd : RdQ C x (is.map .int)) (he : Ev fm te G C (.d (.int i))) : Ev fm (tBM fm.K "list" (rCntI fm.K) ta (tCons te tNil)) G C (.d (.int (is.count i : Nat))) := fun F M σ ok Q q => hx F M σ ok _ fun v F1 e1 ok1 r1 => by
  obtain ⟨a, vs, e, hh, s⟩ := hd.get ok1.c r1
  subst e
  refine ⟨.inl ⟨rfl, _, hh⟩, he F1 M σ ok1 _ fun w F2 e2 ok2 r2 => ?_⟩
  obtain ⟨b, ws, e, hh2, s2⟩ := hd.get ok2.c (r1.ex e2)
  cases e
  have e3 := rpA_ints s2
  subst e3
  cases r2
  exact ⟨a, is, i, rfl, rfl, hh2, q _ F2 (e1.trans e2) ok2 (.int _)⟩
/-- xs[i] of a tuple -/
theorem r_ixTD {i : Int} (hx : RdT C x ds) (h1 : -(ds.length : Int) ≤ i) (h2 : i < ds.length) : R2k fm (xIx fm.K) x (.d (.int i)) C (.d (ds.getD (pyIx ds.length i) .none)) := by
  refine r_ixTu hx h1 h2 ?_
  have hlt := pyIx_lt h1 h2
  rw [List.getD_eq_getElem?_getD, List.getElem?_eq_getElem hlt]
  rfl
theorem RpA.eraseIdx : ∀ {vs : List V} {ds : List PyData} (i : Nat), RpA F vs ds → RpA F (vs.eraseIdx i) (ds.eraseIdx i)
  | _, _, _, .nil => .nil
  | _, _, 0, .cons _ r => r
  | _, _, i + 1, .cons h r => .cons h (RpA.eraseIdx i r)
end
end Rr
namespace Rr
open PySem PySem.Spec PyProof.Rows L2
def xRepr0 (K : PySem.W.Frag) : R1 := fun xs H Q => ∃ (a : Addr) (d : PyData), xs = [.ref a] ∧ Dp K H (.ref a) d ∧ d.showable = true ∧ d.hasDict = false ∧ d.depth ≤ 40 ∧ d.shown.length ≤ sizeLine ∧ Q (.str d.shown) H
theorem call_xRepr0 {X : Cx} (hg : X.A.guards = some []) (hu : X.A.units + 64 < cLine) : CallR X (.builtin "repr") (xRepr0 X.K) := by
  intro pins s σ H xs us Q I r h
  obtain ⟨a, d, rfl, hd, h1, h2, h3, h4, q⟩ := h
  obtain ⟨u, rfl, ru⟩ := r.one
  cases ru
  obtain ⟨as, rd⟩ := Dp.reads I d (.ref a) (.ref a) hd rfl
  exact PySem.repr_of_reads' rd h1 (fun z => absurd (h2.symm.trans z) Bool.false_ne_true) hg (by omega) (fun b o z => z) (fun h' u tk hk => ⟨.str d.shown, H, I.kept hk, ⟨_, rfl⟩, q⟩) h4
/-- repr(None) -/
def xReprN : R1 := fun xs H Q => xs = [.non] ∧ Q (.str "None") H
theorem call_xReprN {X : Cx} : CallR X (.builtin "repr") xReprN := by
  intro pins s σ H xs us Q I r h
  obtain ⟨rfl, q⟩ := h
  obtain ⟨u, rfl, ru⟩ := r.one
  cases ru
  exact PySem.P.repr_of_none ⟨.str "None", H, I.tok _, ⟨_, rfl⟩, q⟩
def xRepr (K : PySem.W.Frag) : R1 := fun xs H Q => xRepr0 K xs H Q ∨ xReprN xs H Q
theorem call_xRepr {X : Cx} (hg : X.A.guards = some []) (hu : X.A.units + 64 < cLine) : CallR X (.builtin "repr") (xRepr X.K) := CallR.or (call_xRepr0 hg hu) call_xReprN
/-- data that may be shown -/
structure Shw (d : PyData) : Prop where
  lay : d.canLay0 = true
  show_ : d.showable = true
  deep : d.depth ≤ 40
  len : d.shown.length ≤ sizeLine
theorem Shw.of {d : PyData} (B : Nat) (hB : 8 ≤ B) (h1 : d.canLay0 = true) (h2 : d.showable = true) (h3 : d.depth ≤ 40) (h4 : d.intsShort B = true) (h5 : (B + 2) * d.weight + B ≤ 16777216) : Shw d :=
  ⟨h1, h2, h3, by rw [sizeLine_eq]; exact Nat.le_trans (PyData.shown_le B hB d (PyData.leavesShort_of_canLay0 B d h1 h4)) h5⟩
/-- every part of such data; w: its weight at most -/
structure Pr (B : Nat) (e w : Nat) (d : PyData) : Prop where
  lay : d.canLay0 = true
  show_ : d.showable = true
  deep : d.depth ≤ e
  short : d.intsShort B = true
  wt : d.weight ≤ w
theorem Pr.shw {B e w : Nat} {d : PyData} (h : Pr B e w d) (hB : 8 ≤ B) (he : e ≤ 40) (hw : (B + 2) * w + B ≤ 16777216) : Shw d :=
  .of B hB h.lay h.show_ (Nat.le_trans h.deep he) h.short (Nat.le_trans (Nat.add_le_add_right (Nat.mul_le_mul_left _ h.wt) _) hw)
theorem Pr.up {B e e' w w' : Nat} {d : PyData} (h : Pr B e w d) (he : e ≤ e') (hw : w ≤ w') : Pr B e' w' d := ⟨h.lay, h.show_, Nat.le_trans h.deep he, h.short, Nat.le_trans h.wt hw⟩
theorem pr_int {B e w k : Nat} {i : Int} (hk : 0 < k) (h : i.natAbs < 10 ^ k) (hB : k + 1 ≤ B) (h2 : i.natAbs.log2 < 1920) (hw : i.natAbs.log2 + 1 ≤ w) : Pr B e w (.int i) := by
  refine ⟨by simp [PyData.canLay0], by simp [PyData.showable, h2], by simp [PyData.depth], ?_, ?_⟩
  · simp only [PyData.intsShort, PyData.shown]
    have z := int_text_length_le10 hk h
    refine decide_eq_true (Nat.le_trans ?_ hB)
    rw [show (Str.ofString (toString i)).length = (toString i).length from PySem.ofString_length _]
    exact z
  · simp only [PyData.weight]
    split
    · exact Nat.zero_le _
    · exact hw
theorem pr_all {B e w : Nat} : ∀ {ds : List PyData}, (∀ d ∈ ds, Pr B e w d) → PyData.canLayAll0 ds = true ∧ PyData.showableAll ds = true ∧ PyData.depthAll ds ≤ e ∧ PyData.intsShortAll B ds = true ∧ PyData.weightAll ds ≤ (w + 1) * ds.length
  | [], _ => ⟨by simp [PyData.canLayAll0], by simp [PyData.showableAll], by simp [PyData.depthAll], by simp [PyData.intsShortAll], by simp [PyData.weightAll]⟩
  | d :: ds, h => by
    obtain ⟨a, b, c, f, g⟩ := pr_all (ds := ds) fun x hx => h x (List.mem_cons_of_mem _ hx)
    obtain ⟨a1, b1, c1, f1, g1⟩ := h d List.mem_cons_self
    refine ⟨by simp [PyData.canLayAll0, a, a1], by simp [PyData.showableAll, b, b1], by simp only [PyData.depthAll]; omega, by simp [PyData.intsShortAll, f, f1], ?_⟩
    simp only [PyData.weightAll, List.length_cons]
    rw [Nat.mul_add, Nat.mul_one]
    omega
theorem pr_list {B e w m : Nat} {ds : List PyData} (h : ∀ d ∈ ds, Pr B e w d) (hm : (w + 1) * ds.length ≤ m) : Pr B (e + 1) m (.list ds) := by
  obtain ⟨a, b, c, f, g⟩ := pr_all h
  exact ⟨by simp [PyData.canLay0, a], by simp [PyData.showable, b], by simp only [PyData.depth]; omega, by simp [PyData.intsShort, f], by simp only [PyData.weight]; omega⟩
section
variable {fm : Fm} {F M : Hp} {G : Gm} {C : Cs} {x : Rr.It}
inductive IsRef : PyData → Prop
  | l (ds : List PyData) : IsRef (.list ds)
  | t (ds : List PyData) : IsRef (.tuple ds)
theorem r_repr {d : PyData} (hx : AsX C x d) (hr : IsRef d) (hs : Shw d) : R1k fm (xRepr fm.K) [x] C (.d (.str d.shown)) := fun F M ok vs r Q q => by
  cases r with
  | cons r1 r2 =>
    cases r2
    have rp := hx.get ok r1
    have dp := rp.dp (K := fm.K) hs.lay
    have ha : ∀ {v : V}, Rp (ov M F) v d → ∃ a, v = V.ref a := fun {v} rp => by
      cases hr <;> cases rp <;> exact ⟨_, rfl⟩
    obtain ⟨a, rfl⟩ := ha rp
    exact .inl ⟨a, d, rfl, dp, hs.show_, PyData.hasDict_of_canLay d hs.lay, hs.deep, hs.len, q _ F (Ex.refl F) ok (.str _)⟩
/-- texts: equal and not equal -/
theorem r_eqS {a b : Str} : R2k fm (xEq fm.K) (.d (.str a)) (.d (.str b)) C (.d (.bool (decide (a = b)))) := fun F M ok v w r1 r2 Q q => by
  cases r1; cases r2
  refine .inl ⟨rfl, ?_⟩
  have e : decide (V.str a = V.str b) = decide (a = b) := by
    rw [Bool.eq_iff_iff]
    simp
  rw [e]
  exact q _ F (Ex.refl F) ok (.bl _)
end
end Rr
namespace Rr
open PySem PySem.Spec PyProof.Rows L2
inductive KeyD : PyData → Key → Prop
  | int (i : Int) : KeyD (.int i) (.inl i)
  | str (s : Str) : KeyD (.str s) (.inr s)
theorem KeyD.v {d : PyData} {k : Key} {F : Hp} {v : V} (h : KeyD d k) (r : Rp F v d) : v = kV k := by
  cases h <;> cases r <;> rfl
end Rr
namespace Rr
open PySem PySem.Spec PyProof.Rows L2
def uniqs (xs : List Int) : List Int := xs.foldl (fun acc x => if x ∈ acc then acc else acc ++ [x]) []
theorem uniqs_snoc (xs : List Int) (x : Int) : uniqs (xs ++ [x]) = if x ∈ uniqs xs then uniqs xs else uniqs xs ++ [x] := by
  unfold uniqs
  rw [List.foldl_append]
  rfl
theorem snoc_ind {α : Type} {P : List α → Prop} (h0 : P []) (h1 : ∀ l x, P l → P (l ++ [x])) (l : List α) : P l := by
  have z : ∀ n (l : List α), l.length = n → P l := fun n => by
    induction n with
    | zero =>
      intro l h
      rw [List.length_eq_zero_iff.mp h]
      exact h0
    | succ n ih =>
      intro l h
      have hne : l ≠ [] := fun e => by rw [e] at h; cases h
      rw [← List.dropLast_concat_getLast hne]
      exact h1 _ _ (ih _ (by rw [List.length_dropLast, h]; rfl))
  exact z _ l rfl
theorem mem_uniqs (xs : List Int) : ∀ x, x ∈ uniqs xs ↔ x ∈ xs := by
  refine snoc_ind (P := fun xs => ∀ x, x ∈ uniqs xs ↔ x ∈ xs) (fun x => Iff.rfl) (fun xs y ih x => ?_) xs
  rw [uniqs_snoc]
  by_cases h : y ∈ uniqs xs
  · rw [if_pos h, List.mem_append, ih x, List.mem_singleton]
    refine ⟨.inl, fun z => z.elim id fun e => ?_⟩
    rw [e, ← ih y]
    exact h
  · rw [if_neg h, List.mem_append, List.mem_append, ih x]
theorem uniqs_nodup (xs : List Int) : (uniqs xs).Nodup := by
  refine snoc_ind (P := fun xs => (uniqs xs).Nodup) List.nodup_nil (fun xs y ih => ?_) xs
  rw [uniqs_snoc]
  by_cases h : y ∈ uniqs xs
  · rw [if_pos h]
    exact ih
  · rw [if_neg h]
    refine List.nodup_append.mpr ⟨ih, by simp, fun a ha b hb e => ?_⟩
    rw [List.mem_singleton] at hb
    rw [← hb, ← e] at h
    exact h ha
theorem uniqs_le (xs : List Int) : (uniqs xs).length ≤ xs.length := by
  refine snoc_ind (P := fun xs => (uniqs xs).length ≤ xs.length) (Nat.le_refl _) (fun xs y ih => ?_) xs
  rw [uniqs_snoc, List.length_append]
  split
  · omega
  · rw [List.length_append]
    simp only [List.length_singleton]
    omega
theorem uniqs_up {xs : List Int} (h : xs.Pairwise (· ≤ ·)) : (uniqs xs).Pairwise (· < ·) := by
  have z : xs.Pairwise (· ≤ ·) → (uniqs xs).Pairwise (· < ·) := by
    refine snoc_ind (P := fun xs => xs.Pairwise (· ≤ ·) → (uniqs xs).Pairwise (· < ·)) (fun _ => List.Pairwise.nil) (fun xs y ih h => ?_) xs
    obtain ⟨h1, _, h3⟩ := List.pairwise_append.mp h
    rw [uniqs_snoc]
    by_cases q : y ∈ uniqs xs
    · rw [if_pos q]
      exact ih h1
    · rw [if_neg q]
      refine List.pairwise_append.mpr ⟨ih h1, List.pairwise_singleton _ _, fun a ha b hb => ?_⟩
      rw [List.mem_singleton] at hb
      subst hb
      have h4 := h3 a ((mem_uniqs xs a).mp ha) b (by simp)
      have h5 : a ≠ b := fun e => q (e ▸ ha)
      omega
  exact z h
end Rr
namespace Rr
open PySem PySem.Spec PyProof.Rows L2
section
variable {fm : Fm} {F F' M M' : Hp} {G G' : Gm} {σ : L2.St} {C C' : Cs}
variable {te ta tb tc : TE} {tt tu : TT} {tr : TA} {x y z it : It} {ds es : List PyData} {k : It → Cs → Prop} {α β : Type}
theorem Rt.fgt {Pv : VK} {j : Nat} (h : Rt fm Pv it (C.eraseIdx j)) : Rt fm Pv it C := fun F M v ok r => by
  cases q : C[j]? with
  | none =>
    rw [List.eraseIdx_of_length_le (List.getElem?_eq_none_iff.mp q)] at h
    exact h F M v ok r
  | some x =>
    obtain ⟨p, c⟩ := x
    obtain ⟨F', M', a, b, e⟩ := ok.drop q
    rw [← b]
    exact h F' M' v a (r.ex e)
theorem Rt.perm {Pv : VK} (p : C'.Perm C) (h : Rt fm Pv it C') : Rt fm Pv it C := fun F M v ok r => h F M v (ok.perm p) r
theorem W.perm (h : W fm te G C fun it C1 => ∃ C2, C2.Perm C1 ∧ k it C2) : W fm te G C k := fun F M σ ok Q q => h F M σ ok Q fun v it C1 F1 M1 e1 ok1 r1 ⟨C2, p, hk⟩ => q v it C2 F1 M1 e1 ⟨ok1.c.perm p, ok1.len, ok1.slot⟩ r1 hk
def plainI : It → Bool
  | .d r => plain r
  | .c _ => true
  | .s _ => false
def plainC : Cell → Bool
  | .dat ds => ds.all plain
  | .lst its => its.all plainI
  | .tup its => its.all plainI
  | .dit kvs => kvs.all fun z => plain z.2
  | .dic kvs => kvs.all fun z => plainI z.2
  | .ins _ _ fs => fs.all fun z => plainI z.2
  | .raw _ => false
theorem RpI.plain {K : PySem.W.Frag} {F F' : Hp} {v : V} : ∀ {it : It}, plainI it = true → RpI K F v it → RpI K F' v it
  | .d r, h, q => Rp.plain (show Rp F v r from q) h
  | .c _, _, q => q
  | .s _, h, _ => by cases h
theorem RpA.plain {F F' : Hp} : ∀ {vs : List V} {ds : List PyData}, ds.all Rr.plain = true → RpA F vs ds → RpA F' vs ds
  | _, _, _, .nil => .nil
  | _, _, h, .cons r rs => by
    rw [List.all_cons, Bool.and_eq_true] at h
    exact .cons (Rp.plain r h.1) (RpA.plain h.2 rs)
theorem RpIs.plain {K : PySem.W.Frag} {F F' : Hp} : ∀ {vs : List V} {its : List It}, its.all plainI = true → RpIs K F vs its → RpIs K F' vs its
  | _, _, _, .nil => .nil
  | _, _, h, .cons r rs => by
    rw [List.all_cons, Bool.and_eq_true] at h
    exact .cons (RpI.plain h.1 r) (RpIs.plain h.2 rs)
theorem CellOk.plain {K : PySem.W.Frag} {F F' : Hp} {o : Option HO} : ∀ {c : Cell}, plainC c = true → CellOk K F o c → CellOk K F' o c
  | .dat _, h, ⟨vs, e, r⟩ => ⟨vs, e, RpA.plain h r⟩
  | .lst _, h, ⟨vs, e, r⟩ => ⟨vs, e, RpIs.plain h r⟩
  | .tup _, h, ⟨vs, e, r⟩ => ⟨vs, e, RpIs.plain h r⟩
  | .dit kvs, h, ⟨ws, e, l, r⟩ => ⟨ws, e, l, RpA.plain (by rw [List.all_map]; exact h) r⟩
  | .dic kvs, h, ⟨ws, e, l, r⟩ => ⟨ws, e, l, RpIs.plain (by rw [List.all_map]; exact h) r⟩
  | .ins _ _ fs, h, ⟨ws, e, l, r⟩ => ⟨ws, e, l, RpIs.plain (by rw [List.all_map]; exact h) r⟩
end
end Rr
namespace Rr
open PySem PySem.Spec PyProof.Rows L2
inductive LookG (C : Cs) : Gm → Gm → Prop
  | nil : LookG C [] []
  | skip {o : Option It} {G G2 : Gm} : LookG C G G2 → LookG C (o :: G) (none :: G2)
  | it {x : It} {d : PyData} {G G2 : Gm} : AsX C x d → LookG C G G2 → LookG C (some x :: G) (some (.d d) :: G2)
section
variable {fm : Fm} {F F' M M' : Hp} {G G' : Gm} {σ : L2.St} {C C' : Cs}
variable {te ta tb tc : TE} {tt tu : TT} {tr : TA} {x y z it : It} {ds es : List PyData} {k : It → Cs → Prop} {α β : Type}
variable {ts tw : TS} {P Pb Pc : L2.St → Hp → Prop} {R : VK} {p : Addr} {j : Nat}
theorem LookG.len : ∀ {G G2 : Gm}, LookG C G G2 → G2.length = G.length
  | _, _, .nil => rfl
  | _, _, .skip h => by rw [List.length_cons, List.length_cons, h.len]
  | _, _, .it _ h => by rw [List.length_cons, List.length_cons, h.len]
theorem LookG.get : ∀ {G G2 : Gm} {i : Nat} {y : It}, LookG C G G2 → G2[i]? = some (some y) → ∃ x d, y = .d d ∧ G[i]? = some (some x) ∧ AsX C x d
  | _, _, _, _, .nil, e => by simp at e
  | _, _, 0, _, .skip h, e => by simp at e
  | _, _, i + 1, _, .skip h, e => by
    obtain ⟨x, d, h1, h2, h3⟩ := h.get (i := i) (by simpa using e)
    exact ⟨x, d, h1, by simpa using h2, h3⟩
  | _, _, 0, _, .it a h, e => by
    simp at e
    exact ⟨_, _, e.symm, rfl, a⟩
  | _, _, i + 1, _, .it a h, e => by
    obtain ⟨x, d, h1, h2, h3⟩ := h.get (i := i) (by simpa using e)
    exact ⟨x, d, h1, by simpa using h2, h3⟩
theorem ov_nil {X : Hp} : ov (fun _ => none) X = X := funext fun _ => ov_F rfl
theorem ok_none {fm : Fm} {F M : Hp} (h : fm.M0 = fun _ => none) (ok : OkC fm F M []) : M = fun _ => none := funext fun a => by
  rw [ok.rest a (fun x hx => by cases hx), h]
theorem at_fgtAll (h : At fm P G []) : At fm P G C := by
  have z := at_fgts (C := []) (C2 := C) h
  rw [List.nil_append] at z
  exact z
theorem Rt.fgts {Pv : VK} : ∀ {C2 : Cs} (_ : Rt fm Pv it C), Rt fm Pv it (C ++ C2)
  | [], h => by rw [List.append_nil]; exact h
  | x :: C2, h => by
    refine Rt.fgt (j := C.length) ?_
    have e : (C ++ x :: C2).eraseIdx C.length = C ++ C2 := by simp [List.eraseIdx_append_of_length_le]
    rw [e]
    exact Rt.fgts h
theorem Rt.fgtAll {Pv : VK} (h : Rt fm Pv it []) : Rt fm Pv it C := by
  have z := Rt.fgts (C := []) (C2 := C) h
  rw [List.nil_append] at z
  exact z
end
end Rr
namespace Rr
open PySem PySem.Spec PyProof.Rows L2
end Rr
namespace Rr
open PySem PySem.Spec PyProof.Rows L2
/-- a set at its start -/
abbrev set0 (w : World) : Obj := { cls := .type "set", dict := none, data := .set #[] 0 (.fresh 0 0 (!w.params.followText "set-order")) }
section
variable {P : Program} {w : World} {A : Around} {E : Value → Shared → Prop} {s : Shared}
/-- the list's ints are put into a fresh set -/
theorem set_filled {l : Addr} {items : Array Value} {ns : List Int} (noex : A.handled = none) (isl : s.heap.IsList l items) (hit : IntsAre items.toList ns) (few : ns.length + 1 < scanBound) {R : Result → Shared → Prop}
    (done : ∀ (h' : Heap) (tk c : Nat), SetR w h' s.heap.objs.size (fun j => decide (j ∈ ns)) c → (∀ b o, s.heap.get? b = some o → h'.get? b = some o) → R (.ok (.ret .none)) { s with heap := h', toks := tk }) :
    codeAny (model P w) A (.builtin "set.update.loop" ⟨[.ref s.heap.objs.size, .ref (s.heap.push (set0 w)).objs.size], []⟩) R { s with heap := (s.heap.push (set0 w)).push { cls := .type "list_iterator", data := .fields #[.ref l, .int 0 0] } } := by
  have size1 : (s.heap.push (set0 w)).objs.size = s.heap.objs.size + 1 := Heap.size_push _ _
  have len : items.size = ns.length := by rw [← Array.length_toList]; exact IntsAre.length hit
  obtain ⟨ol, isl1, _⟩ := id isl
  have below : l < s.heap.objs.size := Heap.lt_size isl1
  have apart : l ≠ (s.heap.push (set0 w)).objs.size := by rw [size1]; exact Nat.ne_of_lt (Nat.lt_succ_of_lt below)
  have l1 : (s.heap.push (set0 w)).IsList l items := isl.push _
  have notIn : s.heap.objs.size ∉ [(s.heap.push (set0 w)).objs.size, l] := fun q => by
    rw [size1] at q
    rcases List.mem_cons.mp q with q | q
    · exact absurd q (Nat.ne_of_lt (Nat.lt_succ_self _))
    · exact absurd (List.mem_singleton.mp q).symm (Nat.ne_of_lt below)
  refine set_update_ints (P := P) ((Walks.list (A := A.in1) noex _ l apart items).toS) s.heap.objs.size notIn ns len few (fun i v hv => ?_) (items.size - 0) 0 _ (by omega) (Nat.zero_le _) ⟨⟨_, Heap.get?_push_size _ rfl, rfl, rfl⟩, l1.push _⟩
    ⟨0, Nat.le_refl 0, setR_new_at (Heap.get?_push_of_some _ (Heap.get?_push_size _ rfl))⟩ ?_
  · have hi : i < ns.length := by rw [← len]; exact (Array.getElem?_eq_some_iff.mp hv).1
    obtain ⟨t, e⟩ := IntsAre.int_at hit i v (by rw [Array.getElem?_toList]; exact hv)
    refine ⟨ns[i], t, List.getElem?_eq_getElem hi, ?_⟩
    rw [e, List.getD_eq_getElem?_getD, List.getElem?_eq_getElem hi]
    rfl
  · rintro ⟨h', g', d', tk', os'⟩ c moved _ filled
    have eg : g' = s.gens := moved.gens
    have ed : d' = s.drawn := moved.drawn
    have eo : os' = s.os := moved.os
    subst eg ed eo
    refine done h' tk' c filled fun b o e => moved.heap b o (fun q => ?_) (Heap.get?_push_of_some _ (Heap.get?_push_of_some _ e))
    have lt := Heap.lt_size e
    rw [size1] at q
    rcases List.mem_cons.mp q with q | q
    · exact absurd q (Nat.ne_of_lt lt)
    · exact absurd (List.mem_singleton.mp q) (Nat.ne_of_lt (Nat.lt_succ_of_lt lt))
/-- set(xs), xs a list of ints -/
theorem set_call {l : Addr} {items : Array Value} {ns : List Int} {Q : Value → Shared → Prop} (noex : A.handled = none) (isl : s.heap.IsList l items) (hit : IntsAre items.toList ns) (few : ns.length + 1 < scanBound)
    (done : ∀ (h' : Heap) (tk c : Nat), SetR w h' s.heap.objs.size (fun j => decide (j ∈ ns)) c → (∀ b o, s.heap.get? b = some o → h'.get? b = some o) → Q (.ref s.heap.objs.size) { s with heap := h', toks := tk }) :
    wpAny (model P w) A (call (.type "set") [.ref l]) Q E s := by
  obtain ⟨cls, rest, mro1⟩ := F.called_set.mro
  have made1 := F.called_set.made
  have sub1 := F.called_set.sub
  have no1 := F.called_set.notType
  have can1 := F.called_set.canCreate
  have call1 := F.typeCall_set_1 (.ref l)
  refine wpAny_call (codeAny_of_tree (show wpAny _ _ (callAny (.type "set") _) _ _ _ from wpAny_pure ⟨Code.quiet_builtin _ (by decide +kernel), codeAny_builtin F.entry_type_call ?_⟩))
  rw [Around.under_plain (weight_type_call_type "set" [.ref l] []) rfl]
  repeat (any_goals (first | assumption | wp_step))
  refine codeAny_mono (code_set_led1 (.ref l) (E := E) (Q₁ := fun v t => v = .ref s.heap.objs.size ∧ t = { s with heap := s.heap.push (set0 w) }) ⟨rfl, rfl⟩) ?_
  rintro (e | v | v | v | v) t ht
  all_goals try exact ht
  all_goals try exact ht.elim
  obtain ⟨rfl, rfl⟩ := ht
  have at1 : (s.heap.push (set0 w)).get? s.heap.objs.size = some (set0 w) := Heap.get?_push_size _ rfl
  have ty1 : Shared.TypeIs { s with heap := s.heap.push (set0 w) } (.ref s.heap.objs.size) "set" := ⟨_, at1, rfl⟩
  have find1 := F.called_set.init.lookup
  have bind1 := F.called_set.init.bind (.ref s.heap.objs.size)
  repeat (any_goals (first | assumption | wp_step))
  refine codeAny_mono (codeAny_call_builtin (R := wants (fun v t => v = .none ∧ ∃ h' tk c, t = { s with heap := h', toks := tk } ∧ SetR w h' s.heap.objs.size (fun j => decide (j ∈ ns)) c ∧ ∀ b o, s.heap.get? b = some o → h'.get? b = some o) E) F.called_set.init.plain F.entry_set_init (check_set_init_1 ty1 ?_)) ?_
  · obtain ⟨⟨c1, d1, dat, sl⟩, here, hc, nl, hd⟩ := id isl
    have hc : c1 = .type "list" := hc
    have hd : dat = .seq items nl := hd
    subst hc hd
    have here2 : (s.heap.push (set0 w)).get? l = some { cls := .type "list", dict := d1, data := .seq items nl, slots := sl } := Heap.get?_push_of_some _ here
    have n1 := F.sub_list_set
    have n2 := F.sub_list_frozenset
    have n3 : (Value.type "list" == Value.type "dict") = false := by decide
    have l1 : (s.heap.push (set0 w)).IsList l items := isl.push _
    unfold Builtin.«set.__init__» noKeywords Builtin.Frozenset.updateFrom
    generalize hiter : pyIter = iter1
    wp_walk
    subst hiter
    refine wpAny_pyIter_list l1 (wpAny_bind (wpAny_runValue ?_))
    refine set_filled (by simp [noex]) isl hit few fun h' tk c filled keep => ?_
    show wpAny _ _ _ _ _ _
    exact wpAny_pure (wpAny_pure ⟨rfl, h', tk, c, rfl, filled, keep⟩)
  · rintro (e | v | v | v | v) t ht
    all_goals try exact ht
    all_goals try exact ht.elim
    obtain ⟨rfl, h', tk, c, rfl, filled, keep⟩ := ht
    repeat (any_goals (first | assumption | wp_step))
    exact done _ _ _ filled keep
end
end Rr
namespace Rr
open PySem PySem.Spec PyProof.Rows L2
theorem setR_count {w : World} {h : Heap} {a : Addr} {ns : List Int} {c : Nat} (r : SetR w h a (fun j => decide (j ∈ ns)) c) : c = (uniqs ns).length := by
  obtain ⟨o, es, ep, t, _, _, _, _, nd, hm, _, _, hn, _⟩ := r
  have hp : (es.toList.map keyOf).Perm (uniqs ns) := (List.perm_ext_iff_of_nodup nd (uniqs_nodup ns)).mpr fun k => by
    rw [← hm k, mem_uniqs]
    exact decide_eq_true_iff
  have := hp.length_eq
  rw [List.length_map, Array.length_toList] at this
  omega
def xSetI (K : PySem.W.Frag) (w : World) : R1 := fun xs H Q => ∃ (l : Addr) (ns : List Int), xs = [.ref l] ∧ SqL K H l (ns.map V.int) ∧ ns.length ≤ 4000 ∧ ∀ p, H p = none → Q (.ref p) (upd H p (SetO w p (fun j => decide (j ∈ ns)) (uniqs ns).length))
theorem vals_ints : ∀ {ns : List Int} {us : List Value}, Vals (ns.map V.int) us → IntsAre us ns
  | [], _, .nil => .nil
  | n :: _, _, .cons ⟨k, e⟩ t => by
    subst e
    exact .cons n k (vals_ints t)
theorem call_xSetI {X : Cx} (hc : X.calm = true) : CallR X (.type "set") (xSetI X.K X.w) := by
  rintro pins s σ H xs us Q I r ⟨l, ns, rfl, hq, hz, q⟩
  obtain ⟨u, rfl, rx⟩ := vals1 r
  cases rx
  obtain ⟨its, rv, pl, _⟩ := I.list hq
  refine set_call (I.ok.hd hc) pl.isList (ns := ns) (by simpa using vals_ints rv) (by unfold scanBound; omega) fun h' tk c filled keep => ?_
  obtain rfl := setR_count filled
  exact ⟨.ref s.heap.objs.size, _, I.laid (t' := tk) keep (Nat.le_refl _) (setO_new filled), rfl, q _ (I.hok.fresh (Nat.le_refl _))⟩
def xLenS (w : World) : R1 := fun xs H Q => ∃ (a : Addr) (S : Int → Bool) (n : Nat), xs = [.ref a] ∧ H a = some (SetO w a S n) ∧ n ≤ 4000 ∧ Q (.int n) H
theorem call_xLenS {X : Cx} : CallR X (.builtin "len") (xLenS X.w) := by
  rintro pins s σ H xs us Q I r ⟨a, S, n, rfl, ha, hz, q⟩
  obtain ⟨u, rfl, rx⟩ := vals1 r
  cases rx
  obtain ⟨o, es, ep, t, ho, hex, hd, _, _, _, _, hf, hn, _⟩ := setO_get I ha
  exact call_len_set ho hex hd hf (by rw [hn]; omega) ⟨.int n, H, I.tok _, ⟨_, by rw [hn]⟩, q⟩
section
variable {fm : Fm} {F F' M M' : Hp} {G G' : Gm} {σ : L2.St} {C C' : Cs} {w : World}
variable {te ta tb tc : TE} {tt tu : TT} {tr : TA} {x y z it : It} {ds es : List PyData} {k : It → Cs → Prop} {α β : Type} {p : Addr} {j : Nat} {ns : List Int}
theorem int_list {fm : Fm} {F M : Hp} {C : Cs} {x : It} {v : V} {ns : List Int} (hd : RdQ C x (ns.map .int)) (ok : OkC fm F M C) (r : RpI fm.K F v x) : ∃ a, v = .ref a ∧ SqL fm.K (ov M F) a (ns.map V.int) := by
  obtain ⟨a, vs, e, h, s⟩ := hd.get ok r
  rw [rpA_ints s] at h
  exact ⟨a, e, h⟩
/-- len(set(xs)) -/
theorem ev_lenSet (h : Ev fm ta G C x) (hd : RdQ C x (ns.map .int)) (hz : ns.length ≤ 4000) : Ev fm (tCB (xLenS w) (tCons (tCB (xSetI fm.K w) (tCons ta tNil)) tNil)) G C (.d (.int ((uniqs ns).length : Int))) := fun F M σ ok Q q =>
  h F M σ ok _ fun v F1 e1 ok1 r1 => by
    obtain ⟨a, rfl, h1⟩ := int_list hd ok1.c r1
    refine ⟨a, ns, rfl, h1, hz, fun p hp => ?_⟩
    obtain ⟨ok2, e2, x2⟩ := ok1.newF (o := SetO w p (fun j => decide (j ∈ ns)) (uniqs ns).length) hp
    refine ⟨p, _, _, rfl, upd_same, Nat.le_trans (uniqs_le ns) hz, ?_⟩
    rw [← e2]
    exact q _ _ (e1.trans x2) ok2 (show RpI fm.K _ (.int _) (.d (.int _)) from .int _)
/-- sorted(set(xs)) -/
theorem el_sortedSet (h : Ev fm ta G C x) (hd : RdQ C x (ns.map .int)) (hz : ns.length < 64) : EvL fm (tCB (rSortedSet w) (tCons (tCB (xSetI fm.K w) (tCons ta tNil)) tNil)) G C ((uniqs (srt ns)).map .int) := fun F M σ ok Q q =>
  h F M σ ok _ fun v F1 e1 ok1 r1 => by
    obtain ⟨a, rfl, h1⟩ := int_list hd ok1.c r1
    refine ⟨a, ns, rfl, h1, by omega, fun p hp => ?_⟩
    obtain ⟨ok2, e2, x2⟩ := ok1.newF (o := SetO w p (fun j => decide (j ∈ ns)) (uniqs ns).length) hp
    refine ⟨p, _, _, rfl, upd_same, Nat.lt_of_le_of_lt (uniqs_le ns) hz, fun ms p2 hu hm _ hn => ?_⟩
    rw [← e2] at hn ⊢
    have e3 : ms = uniqs (srt ns) := by
      have h1 : (uniqs (srt ns)).Pairwise (· < ·) := uniqs_up (srt_up ns)
      have hp : ms.Perm (uniqs (srt ns)) := (List.perm_ext_iff_of_nodup (hu.imp fun h => Int.ne_of_lt h) (h1.imp fun h => Int.ne_of_lt h)).mpr fun a => by
        rw [hm a, mem_uniqs, (srt_perm ns).mem_iff]
        exact decide_eq_true_iff
      rw [srt_eq hp (hu.imp fun h => Int.le_of_lt h), srt_id (h1.imp fun h => Int.le_of_lt h)]
    subst e3
    exact q p2 _ _ (e1.trans x2) ok2 hn (rpA_of_ints _)
end
end Rr
namespace Rr
open PySem PySem.Spec PyProof.Rows L2
end Rr
namespace Rr
open PySem PySem.Spec PyProof.Rows L2
end Rr
namespace Rr
open PySem PySem.Spec PyProof.Rows L2
def lF (A : List Addr) (M F : Hp) : Hp := fun a => if a ∈ A then M a else F a
abbrev adr (B : Cs) : List Addr := B.map (·.1)
def GndD : PyData → Bool
  | .none => true
  | .bool _ => true
  | .int _ => true
  | .str _ => true
  | _ => false
def BrwI (B : Cs) (x y : It) : Prop := ∀ (K : PySem.W.Frag) (F M : Hp) (v : V), (∀ c ∈ B, CellOk K F (M c.1) c.2) → Ex F (lF (adr B) M F) → RpI K F v x → RpI K (lF (adr B) M F) v y
inductive BrwA (B : Cs) : List It → List It → Prop
  | nil : BrwA B [] []
  | cons {x y : It} {xs ys : List It} : BrwI B x y → BrwA B xs ys → BrwA B (x :: xs) (y :: ys)
theorem BrwI.same {B : Cs} {x : It} : BrwI B x x := fun K F M v _ e h => h.ex e
theorem BrwI.dat {B : Cs} {p : Addr} {ds : List PyData} (h : (p, Cell.dat ds) ∈ B) : BrwI B (.c p) (.d (.list ds)) := fun K F M v hc e hv => by
  have e1 : v = .ref p := hv
  subst e1
  obtain ⟨vs, h1, h2⟩ := hc _ h
  have h1 : M p = some (.lst vs) := h1
  refine Rp.lst (xs := vs) ?_ (h2.ex e)
  unfold lF
  rw [if_pos (List.mem_map.mpr ⟨_, h, rfl⟩)]
  exact h1
theorem BrwA.rp {B : Cs} {K : PySem.W.Frag} {F M : Hp} (hc : ∀ c ∈ B, CellOk K F (M c.1) c.2) (e : Ex F (lF (adr B) M F)) : ∀ {xs ys : List It} {vs : List V}, BrwA B xs ys → RpIs K F vs xs → RpIs K (lF (adr B) M F) vs ys
  | _, _, _, .nil, .nil => .nil
  | _, _, _, .cons h r, .cons h2 r2 => .cons (h K F M _ hc e h2) (BrwA.rp hc e r r2)
theorem BrwI.lst {B : Cs} {l : Addr} {its : List It} {ds : List PyData} (h : (l, Cell.lst its) ∈ B) (hs : BrwA B its (ds.map It.d)) : BrwI B (.c l) (.d (.list ds)) := fun K F M v hc e hv => by
  have e1 : v = .ref l := hv
  subst e1
  obtain ⟨vs, h1, h2⟩ := hc _ h
  have h1 : M l = some (.lst vs) := h1
  refine Rp.lst (xs := vs) ?_ (RpIs.of_data (BrwA.rp hc e hs h2))
  unfold lF
  rw [if_pos (List.mem_map.mpr ⟨_, h, rfl⟩)]
  exact h1
theorem BrwA.same {B : Cs} : ∀ {xs : List It}, BrwA B xs xs
  | [] => .nil
  | _ :: _ => .cons .same BrwA.same
end Rr
namespace Rr
open PySem PySem.Spec PyProof.Rows L2
end Rr
namespace Rr
open PySem PySem.Spec PyProof.Rows L2
end Rr
namespace Rr
open PySem PySem.Spec PyProof.Rows L2
section
variable {fm : Fm} {F F' M M' : Hp} {G G' : Gm} {σ : L2.St} {C C' : Cs}
variable {te ta tb tc tl : TE} {tt tu : TT} {tr : TA} {x y z it : It} {ds es : List PyData} {its : List It} {k : It → Cs → Prop} {α β : Type}
variable {ts tw : TS} {P Pb Pc : L2.St → Hp → Prop} {R : VK} {p : Addr} {j : Nat} {g : TG}
theorem At.on {F1 : Hp} (e : Ex fm.F0 F1) (h : At fm P G C) : At ⟨fm.K, fm.M0, F1⟩ P G C := fun F M σ ok => h F M σ (ok.weak e)
end
end Rr
namespace Rr
open PySem PySem.Spec PyProof.Rows L2
/-- i * j, one of them below 2 ** 64 -/
def xMulS : R2 := rI CMul fun i j => .int (i * j)
theorem op_xMulS {X : Cx} : OpR X (binaryOp .Mult) xMulS := op_mul
theorem r_mulS {fm : Fm} {C : Cs} {i j : Int} (h : CMul i j) : R2k fm xMulS (.d (.int i)) (.d (.int j)) C (.d (.int (i * j))) := fun F M ok v w r1 r2 Q q => rI_k h (fun _ => .int _) F M ok v w r1 r2 Q q
end Rr
namespace Rr
open PySem PySem.Spec PyProof.Rows L2
end Rr
namespace Rr
open PySem PySem.Spec PyProof.Rows L2
end Rr
namespace Rr
open PySem PySem.Spec PyProof.Rows L2
end Rr
namespace Rr
open PySem PySem.Spec PyProof.Rows L2
section
variable {fm : Fm} {F F' M M' : Hp} {G G' : Gm} {σ : L2.St} {C C' : Cs}
variable {te ta tb tc tl : TE} {tt tu : TT} {tr : TA} {x y z it : It} {ds es : List PyData} {its : List It} {k : It → Cs → Prop} {α β : Type}
variable {ts tw : TS} {P Pb Pc : L2.St → Hp → Prop} {R : VK} {p : Addr} {j : Nat} {g : TG}
theorem RpIs.cut {K : PySem.W.Frag} {vs : List V} (h : RpIs K F vs its) (lo hi : Option Int) : RpIs K F (cutV vs lo hi) (Rr.cut its lo hi) := by
  unfold cutV Rr.cut
  rw [h.length]
  exact (h.drop _).take _
theorem RpIs.rep {K : PySem.W.Frag} {vs : List V} (h : RpIs K F vs its) : ∀ n : Nat, RpIs K F (List.replicate n vs).flatten (List.replicate n its).flatten
  | 0 => .nil
  | n + 1 => by
    rw [List.replicate_succ, List.replicate_succ, List.flatten_cons, List.flatten_cons]
    exact h.append (RpIs.rep h n)
end
end Rr
namespace Rr
open PySem PySem.Spec PyProof.Rows L2
end Rr
namespace Rr
open PySem PySem.Spec PyProof.Rows L2
section
variable {fm : Fm} {F F' M M' : Hp} {G G' : Gm} {σ : L2.St} {C C' : Cs}
variable {te ta tb tc tl : TE} {tt tu : TT} {tr : TA} {x y z it : It} {ds es : List PyData} {its : List It} {k : It → Cs → Prop}
variable {P Pb Pc : L2.St → Hp → Prop} {R : VK} {p : Addr} {d : PyData}
theorem BrwI.tup {B : Cs} {l : Addr} {its : List It} {ds : List PyData} (h : (l, Cell.tup its) ∈ B) (hs : BrwA B its (ds.map It.d)) : BrwI B (.c l) (.d (.tuple ds)) := fun K F M v hc e hv => by
  have e1 : v = .ref l := hv
  subst e1
  obtain ⟨vs, h1, h2⟩ := hc _ h
  have h1 : M l = some (.tup vs) := h1
  refine Rp.tup (xs := vs) ?_ (RpIs.of_data (BrwA.rp hc e hs h2))
  unfold lF
  rw [if_pos (List.mem_map.mpr ⟨_, h, rfl⟩)]
  exact h1
end
end Rr
namespace Rr
open PySem PySem.Spec PyProof.Rows L2
def lookT (kvs : List (List Key × PyData)) (k : List Key) : Option PyData := (kvs.find? fun kv => decide (kv.1 = k)).map (·.2)
theorem look_posT {p : List Key × PyData} {r : List (List Key × PyData)} {k : List Key} (e : p.1 = k) : lookT (p :: r) k = some p.2 := by simp [lookT, List.find?_cons, e]
theorem look_negT {p : List Key × PyData} {r : List (List Key × PyData)} {k : List Key} (e : ¬ p.1 = k) : lookT (p :: r) k = lookT r k := by simp [lookT, List.find?_cons, e]
section
variable {F : Hp}
theorem zip_lookT {k : List Key} : ∀ {kvs : List (List Key × PyData)} {ws : List V}, RpA F ws (kvs.map (·.2)) →
    (∀ it, lookT kvs k = some it → ∃ v, valV (List.zip (kvs.map (·.1)) ws) k = some v ∧ Rp F v it) ∧ (lookT kvs k = none → valV (List.zip (kvs.map (·.1)) ws) k = none)
  | [], _, h => by
    cases h
    exact ⟨fun it e => (by cases e), fun _ => rfl⟩
  | (a, u) :: r, _, .cons (v := x) (vs := vs) hv hr => by
    by_cases e : a = k
    · refine ⟨fun it q => ?_, fun q => ?_⟩
      · rw [look_posT e] at q
        cases q
        exact ⟨x, valV_pos (r := List.zip (r.map fun q : List Key × PyData => q.1) vs) (p := (a, x)) e, hv⟩
      · rw [look_posT e] at q
        cases q
    · obtain ⟨h1, h2⟩ := zip_lookT (k := k) hr
      refine ⟨fun it q => ?_, fun q => ?_⟩
      · rw [look_negT e] at q
        obtain ⟨v, h3, h4⟩ := h1 it q
        exact ⟨v, (valV_neg (r := List.zip (r.map fun q : List Key × PyData => q.1) vs) (p := (a, x)) e).trans h3, h4⟩
      · rw [look_negT e] at q
        exact (valV_neg (r := List.zip (r.map fun q : List Key × PyData => q.1) vs) (p := (a, x)) e).trans (h2 q)
end
inductive KeyT : PyData → List Key → Prop
  | mk (is : List Int) : KeyT (.tuple (is.map .int)) (is.map Sum.inl)
theorem kv_ints (is : List Int) : (is.map (Sum.inl : Int → Key)).map kV = is.map V.int := by
  rw [List.map_map]
  rfl
theorem KeyT.v {d : PyData} {k : List Key} {F : Hp} {v : V} (h : KeyT d k) (r : Rp F v d) : ∃ b, v = .ref b ∧ F b = some (.tup (k.map kV)) := by
  cases h with
  | mk is =>
    cases r with
    | tup hF rv =>
      rename_i a xs
      have e := rpA_ints rv
      subst e
      exact ⟨a, rfl, by rw [kv_ints]; exact hF⟩
section
variable {fm : Fm} {F F' M M' : Hp} {G G' : Gm} {σ : L2.St} {C C' : Cs}
variable {te ta tb tc : TE} {tt tu : TT} {tr : TA} {x y z it : It} {ds es : List PyData} {k : It → Cs → Prop} {α β : Type}
variable {ts tw : TS} {P Pb Pc : L2.St → Hp → Prop} {R : VK} {p : Addr} {j : Nat} {kvs : List (List Key × PyData)} {d e : PyData} {ky : List Key}
theorem dit_at (ok : OkC fm F M C) (hj : C[j]? = some (p, .dit kvs)) : ∃ ws, M p = some (.dT (List.zip (kvs.map (·.1)) ws)) ∧ ov M F p = some (.dT (List.zip (kvs.map (·.1)) ws)) ∧ ws.length = kvs.length ∧ RpA F ws (kvs.map (·.2)) := by
  obtain ⟨ws, hp, hl, hr⟩ := ok.cells _ (List.mem_of_getElem? hj)
  exact ⟨ws, hp, ov_M hp, hl, hr⟩
theorem isD_dT {H : Hp} {a : Addr} {l : List (List Key × V)} (h : H a = some (.dT l)) : IsD H a := .inr ⟨l, .inl h⟩
end
end Rr
namespace Rr
open PySem PySem.Spec PyProof.Rows L2
section
variable {fm : Fm} {F M : Hp} {G : Gm} {C : Cs} {x : Rr.It} {tk tv : TE} {y : PyData}
theorem w_cbL {r : R1} {tr : TA} {k : It → Cs → Prop} (h : WA fm tr G C fun its C1 => ∃ ds, R1L fm r its C1 ds ∧ ∀ p, k (.c p) (C1 ++ [(p, .dat ds)])) : W fm (tCB r tr) G C k := fun F M σ ok Q q =>
  h F M σ ok _ fun vs its C1 F1 M1 e1 ok1 r1 ⟨ds, hr, hk⟩ => hr F1 M1 ok1.c vs r1 Q fun p ws hp rv => by
    obtain ⟨a, b⟩ := ok1.c.newM (o := .lst ws) (c := .dat ds) hp ⟨ws, rfl, rv⟩
    rw [← b]
    exact q _ (.c p) _ _ _ e1 (ok1.cells_to (Ex.refl F1) a) (show RpI fm.K F1 (.ref p) (.c p) from rfl) (hk p)
end
end Rr
namespace PySem.SeqAt
open MeetsSeq
end PySem.SeqAt
namespace Rr
open PySem PySem.Spec PyProof.Rows L2
section
variable {fm : Fm} {C : Cs} {x : Rr.It} {d : PyData} {s : Str} {ds : List PyData}
theorem ei_zipL {α β : Type} {G : Gm} {tr : TA} {xs : List α} {ys : List β} {e1 : α → PyData} {e2 : β → PyData} (h : EvA fm tr G C [.d (.list (xs.map e1)), .d (.list (ys.map e2))]) : EvI fm (RZ.iZipA fm.K tr) G C PT0 (xs.zip ys) (fun a => .d (.tuple [e1 a.1, e2 a.2])) := fun F M σ ok R q => h F M σ ok _ fun vs F1 ee ok1 r1 => by
  cases r1 with
  | cons a r =>
    cases r with
    | cons a' r =>
      cases r
      cases a with
      | lst hF rv =>
        cases a' with
        | lst hF' rv' =>
          rename_i a ws a' ws'
          have hl : ws.length = xs.length := by rw [rv.length, List.length_map]
          have hl' : ws'.length = ys.length := by rw [rv'.length, List.length_map]
          refine ⟨a, a', ws, ws', rfl, .inl ⟨SqL.of (ok1.c.dj.ex hF), SqL.of (ok1.c.dj.ex hF'), q _ F1 ee ok1 ⟨fun i F' M' e j _ hi => ?_, fun i F' M' e j _ hi => ?_, fun i F' M' x H' b e j _ hb y => ?_⟩⟩⟩
          · rw [List.length_zip] at hi
            have hi1 : i < ws.length := by omega
            have hi2 : i < ws'.length := by omega
            exact ⟨ws, ws', ws[i], ws'[i], SqL.of (j.ex (e _ _ hF)), SqL.of (j.ex (e _ _ hF')), by simp [hi1], by simp [hi2]⟩
          · rw [List.length_zip] at hi
            exact ⟨ws, ws', SqL.of (j.ex (e _ _ hF)), SqL.of (j.ex (e _ _ hF')), by omega⟩
          · obtain ⟨T, u, w, ex, hT, e3, hx, hy⟩ := y
            have h2 := hx ws (SqL.of (j.ex (e _ _ hF)))
            have h3 := hy ws' (SqL.of (j.ex (e _ _ hF')))
            obtain ⟨d, hd, rd⟩ := rv.getV h2
            obtain ⟨d', hd', rd'⟩ := rv'.getV h3
            rw [List.getElem?_map] at hd hd'
            obtain ⟨hb1, hb2⟩ := List.getElem?_zip_eq_some.mp hb
            rw [hb1] at hd
            rw [hb2] at hd'
            cases hd; cases hd'
            obtain ⟨hM, hF2⟩ := ov_none hT
            refine ⟨upd F' T (.tup [u, w]), Ex.new hF2, fun a o q => ?_, by rw [e3, ov_updF hM], ?_⟩
            · have hne : a ≠ T := ne_of_none q hM
              rw [upd_ne hne]
              exact j a o q
            · subst ex
              exact rpI_newT (fm := fm) (ds := [e1 b.1, e2 b.2]) hF2 (.cons (rd.ex e) (.cons (rd'.ex e) .nil))
theorem ei_zipT {α β : Type} {G : Gm} {tr : TA} {xs : List α} {ys : List β} {e1 : α → PyData} {e2 : β → PyData} (h : EvA fm tr G C [.d (.tuple (xs.map e1)), .d (.tuple (ys.map e2))]) : EvI fm (RZ.iZipA fm.K tr) G C PT0 (xs.zip ys) (fun a => .d (.tuple [e1 a.1, e2 a.2])) := fun F M σ ok R q => h F M σ ok _ fun vs F1 ee ok1 r1 => by
  cases r1 with
  | cons a r =>
    cases r with
    | cons a' r =>
      cases r
      cases a with
      | tup hF rv =>
        cases a' with
        | tup hF' rv' =>
          rename_i a ws a' ws'
          have hl : ws.length = xs.length := by rw [rv.length, List.length_map]
          have hl' : ws'.length = ys.length := by rw [rv'.length, List.length_map]
          refine ⟨a, a', ws, ws', rfl, .inr ⟨SqT.of (ok1.c.dj.ex hF), SqT.of (ok1.c.dj.ex hF'), q _ F1 ee ok1 ⟨fun i F' M' e j _ hi => ?_, fun i F' M' e j _ hi => ?_, fun i F' M' x H' b e j _ hb y => ?_⟩⟩⟩
          · rw [List.length_zip] at hi
            have hi1 : i < ws.length := by omega
            have hi2 : i < ws'.length := by omega
            exact ⟨ws, ws', ws[i], ws'[i], SqT.of (j.ex (e _ _ hF)), SqT.of (j.ex (e _ _ hF')), by simp [hi1], by simp [hi2]⟩
          · rw [List.length_zip] at hi
            exact ⟨ws, ws', SqT.of (j.ex (e _ _ hF)), SqT.of (j.ex (e _ _ hF')), by omega⟩
          · obtain ⟨T, u, w, ex, hT, e3, hx, hy⟩ := y
            have h2 := hx ws (SqT.of (j.ex (e _ _ hF)))
            have h3 := hy ws' (SqT.of (j.ex (e _ _ hF')))
            obtain ⟨d, hd, rd⟩ := rv.getV h2
            obtain ⟨d', hd', rd'⟩ := rv'.getV h3
            rw [List.getElem?_map] at hd hd'
            obtain ⟨hb1, hb2⟩ := List.getElem?_zip_eq_some.mp hb
            rw [hb1] at hd
            rw [hb2] at hd'
            cases hd; cases hd'
            obtain ⟨hM, hF2⟩ := ov_none hT
            refine ⟨upd F' T (.tup [u, w]), Ex.new hF2, fun a o q => ?_, by rw [e3, ov_updF hM], ?_⟩
            · have hne : a ≠ T := ne_of_none q hM
              rw [upd_ne hne]
              exact j a o q
            · subst ex
              exact rpI_newT (fm := fm) (ds := [e1 b.1, e2 b.2]) hF2 (.cons (rd.ex e) (.cons (rd'.ex e) .nil))
end
end Rr
namespace Rr
open PySem PySem.Spec PyProof.Rows L2
section
variable {fm : Fm} {G G' : Gm} {C C' : Cs} {te ta tb : TE} {tr : TA} {j : Nat} {g : TG} {ts : TS} {P Pb Pc : L2.St → Hp → Prop} {R : VK} {p : Addr}
/-- x[e] = f, both with effects -/
theorem at_ptWW (he : W fm te G C fun it C0 => ∃ d, it = .d d ∧ Ev fm ta G C0 (.c p) ∧ W fm tb G C0 fun it C1 => ∃ (i : Int) (es : List PyData), it = .d (.int i) ∧ C1[j]? = some (p, .dat es) ∧ -(es.length : Int) ≤ i ∧ i < es.length ∧ At fm P G (C1.set j (p, .dat (es.set (pyIx es.length i) d)))) :
    At fm (tAsg te (gSub ta tb rSetL) ⟨P, R, Pb, Pc⟩) G C := fun F M σ ok => he F M σ ok _ fun w it C0 F1 M1 e1 ok1 r1 ⟨d, ed, hx, hi⟩ => hx F1 M1 σ ok1 _ fun v F2 e2 ok2 r2 => hi F2 M1 σ ok2 _ fun u it C1 F3 M3 e3 ok3 r3 ⟨i, es, ei, hj, h1, h2, hk⟩ => by
  have e : v = .ref p := r2
  subst e ei ed
  cases r3
  obtain ⟨vs, hp, rv⟩ := ok3.c.cells _ (List.mem_of_getElem? hj)
  have hl := rv.length
  have sv : RpA F3 (vs.set (pyIx es.length i) w) (es.set (pyIx es.length i) d) := by
    have z := RpIs.set (K := fm.K) (d := .d d) (show RpI fm.K F3 w (.d d) from Rp.ex (e2.trans e3) r1) (pyIx es.length i) (RpIs.to_data rv)
    rw [← List.map_set] at z
    exact RpIs.of_data z
  obtain ⟨a, b⟩ := ok3.put (o := .lst (vs.set (pyIx es.length i) w)) (c' := .dat (es.set (pyIx es.length i) d)) hj ⟨_, rfl, sv⟩
  refine ⟨p, vs, i, pyIx es.length i, rfl, rfl, ov_M hp, by rw [hl]; exact ixN_py h1 h2, ?_⟩
  rw [← b]
  exact hk F3 _ σ a
end
end Rr
namespace Rr
open PySem PySem.Spec PyProof.Rows L2
end Rr
namespace Rr
open PySem PySem.Spec PyProof.Rows L2
end Rr
namespace Rr
open PySem PySem.Spec PyProof.Rows L2
def FstI (h : Heap) (v : Value) (x : Int) : Prop := ∃ a o t u n, v = .ref a ∧ h.get? a = some o ∧ o.cls = .type "tuple" ∧ o.data = .seq #[.int x t, u] n
theorem FstI.keeps {h h' : Heap} {v : Value} {x : Int} (p : FstI h v x) (k : ∀ b o, h.get? b = some o → o.cls = .type "tuple" → h'.get? b = some o) : FstI h' v x := by
  obtain ⟨a, o, t, u, n, e, ho, hc, hd⟩ := p
  exact ⟨a, o, t, u, n, e, k _ _ ho hc, hc, hd⟩
end Rr
namespace Rr
open PySem PySem.Spec PyProof.Rows L2
end Rr
namespace Rr
open PySem PySem.Spec PyProof.Rows L2
end Rr
namespace Rr
open PySem PySem.Spec PyProof.Rows L2
end Rr
namespace Rr
open PySem PySem.Spec PyProof.Rows L2
end Rr
namespace Rr
open PySem PySem.Spec PyProof.Rows L2
def GndT : PyData → Bool
  | .tuple ds => ds.all GndD
  | d => GndD d
theorem GndD.T {d : PyData} (h : GndD d = true) : GndT d = true := by
  cases d with
  | tuple ds => cases h
  | _ => exact h
section
variable {fm : Fm} {G : Gm} {C : Cs} {tr : TA} {k : It → Cs → Prop} {α : Type}
variable {P Pb Pc : L2.St → Hp → Prop} {R : VK} {p : Addr} {ds : List PyData}
theorem OkC.lstdat {F M : Hp} {j : Nat} (h : OkC fm F M C) (hj : C[j]? = some (p, .lst (ds.map It.d))) : OkC fm F M (C.set j (p, .dat ds)) := by
  obtain ⟨vs, hp, rv⟩ := h.cells _ (List.mem_of_getElem? hj)
  have hp : M p = some (.lst vs) := hp
  obtain ⟨a2, b2⟩ := h.put (o := .lst vs) (c' := .dat ds) hj ⟨vs, rfl, RpIs.of_data rv⟩
  have hu : upd M p (.lst vs) = M := by
    funext x
    by_cases e : x = p
    · subst e
      rw [upd_same]
      exact hp.symm
    · rw [upd_ne e]
  rw [hu] at a2
  exact a2
end
end Rr
namespace Rr
open PySem PySem.Spec PyProof.Rows L2
section
variable {fm : Fm} {F F' M M' : Hp} {G G' : Gm} {σ : L2.St} {C C' : Cs}
variable {te ta tb tc tl : TE} {tt tu : TT} {tr : TA} {x y z it : It} {ds es : List PyData} {its : List It} {k : It → Cs → Prop} {α β : Type}
variable {ts tw : TS} {P Pb Pc : L2.St → Hp → Prop} {R : VK} {p q : Addr} {j : Nat} {g : TG}
def Frz (fm : Fm) (C : Cs) (it : It) (C2 : Cs) (it2 : It) : Prop := ∀ F M v, OkC fm F M C → RpI fm.K F v it → ∃ F' M', OkC fm F' M' C2 ∧ ov M' F' = ov M F ∧ Ex F F' ∧ RpI fm.K F' v it2
theorem Frz.trans {C1 C2 C3 : Cs} {i1 i2 i3 : It} (h : Frz fm C1 i1 C2 i2) (g : Frz fm C2 i2 C3 i3) : Frz fm C1 i1 C3 i3 := fun F M v ok r => by
  obtain ⟨F', M', a, b, c, d⟩ := h F M v ok r
  obtain ⟨F2, M2, a2, b2, c2, d2⟩ := g F' M' v a d
  exact ⟨F2, M2, a2, b2.trans b, c.trans c2, d2⟩
theorem Frz.dat (hj : C[j]? = some (p, .lst (ds.map It.d))) : Frz fm C it (C.set j (p, .dat ds)) it := fun F M v ok r => ⟨F, M, ok.lstdat hj, rfl, Ex.refl F, r⟩
end
end Rr
namespace Rr
open PySem PySem.Spec PyProof.Rows L2
end Rr
namespace Rr
open PySem PySem.Spec PyProof.Rows L2
def BrwG (B : Cs) (G G2 : Gm) : Prop := G2.length = G.length ∧ ∀ (i : Nat) (it : It), G2[i]? = some (some it) → ∃ it0, G[i]? = some (some it0) ∧ BrwI B it0 it
theorem BrwG.refl {B : Cs} {G : Gm} : BrwG B G G := ⟨rfl, fun i it h => ⟨it, h, .same⟩⟩
theorem BrwG.set {B : Cs} {G G2 : Gm} {i : Nat} {q : Addr} {ds : List PyData} (h : BrwG B G G2) (hi : G[i]? = some (some (.c q))) (hm : (q, Cell.dat ds) ∈ B) : BrwG B G (G2.set i (some (.d (.list ds)))) := by
  refine ⟨by rw [List.length_set, h.1], fun j it hj => ?_⟩
  by_cases e : j = i
  · subst e
    have hl := (List.getElem?_eq_some_iff.mp hi).1
    rw [List.getElem?_set_self (by rw [h.1]; exact hl)] at hj
    cases hj
    exact ⟨.c q, hi, .dat hm⟩
  · rw [List.getElem?_set_ne (Ne.symm e)] at hj
    exact h.2 j it hj
end Rr
namespace Rr
open PySem PySem.Spec PyProof.Rows L2
def rSortedR (K : PySem.W.Frag) : R1 := fun vs H Q => ∃ (a : Addr) (bs : List (Addr × List Int)), vs = [.ref a] ∧ SqL K H a (bs.map fun b => V.ref b.1) ∧ (∀ b ∈ bs, SqL K H b.1 (b.2.map V.int)) ∧ ∀ p, H p = none → Q (.ref p) (upd H p (.lst ((bs.mergeSort fun x y => decide (x.2 ≤ y.2)).map fun b => V.ref b.1)))
theorem vals_refs : ∀ {bs : List (Addr × List Int)} {its : List Value}, Vals (bs.map fun b => V.ref b.1) its → its = bs.map fun b => Value.ref b.1
  | [], _, h => by cases h; rfl
  | b :: bs, _, h => by
    cases h with
    | cons r1 r2 =>
      have e : _ = Value.ref b.1 := r1
      rw [e, vals_refs r2]
      rfl
theorem refs_vals : ∀ bs : List (Addr × List Int), Vals (bs.map fun b => V.ref b.1) (bs.map fun b => Value.ref b.1)
  | [] => .nil
  | b :: bs => .cons rfl (refs_vals bs)
theorem each_of {P : Value → Addr × List Int → Prop} : ∀ bs : List (Addr × List Int), (∀ b ∈ bs, P (.ref b.1) b) → PySem.W.EachIs P (bs.map fun b => Value.ref b.1) bs
  | [], _ => .nil
  | b :: bs, h => .cons (h b List.mem_cons_self) (each_of bs fun x hx => h x (List.mem_cons_of_mem _ hx))
theorem each_eq : ∀ {out : List Value} {bs : List (Addr × List Int)}, PySem.W.EachIs (fun v (b : Addr × List Int) => v = Value.ref b.1) out bs → out = bs.map fun b => Value.ref b.1
  | _, _, .nil => rfl
  | _, _, .cons h t => by
    rw [h, each_eq t]
    rfl
theorem reads_ints {h : Heap} : ∀ {ns : List Int} {us : List Value}, Vals (ns.map V.int) us → ∃ as, ReadsAll h us (ns.map .int) as
  | [], _, r => by cases r; exact ⟨_, .nil⟩
  | n :: ns, _, r => by
    cases r with
    | cons r1 r2 =>
      obtain ⟨t, rfl⟩ := r1
      obtain ⟨as, q⟩ := reads_ints r2
      exact ⟨_, .cons (.int n t) q⟩
theorem call_xSortedR {X : Cx} (hu : X.A.units + 64 < cLine) : CallR X (.builtin "sorted") (rSortedR X.K) := by
  intro pins s σ H vs us Q I r h
  obtain ⟨a, bs, rfl, hs, hr, q⟩ := h
  obtain ⟨its, rv, hl, hz⟩ := I.list hs
  rw [Vals.ref1 r]
  have hv := vals_refs rv
  subst hv
  rw [List.length_map] at hz
  refine PySem.W.sorted_data (R := fun v (b : Addr × List Int) => v = Value.ref b.1) (bs := bs) (enc := fun b => .list (b.2.map .int)) hl.isList (each_of bs fun b _ => rfl) (each_of bs fun b hb => ?_) ?_ ?_ hz (fun b _ => ?_) fun out h1 h2 => ?_
  · obtain ⟨its2, r2, ⟨o, n, ho, hc, hd, hdat⟩, _⟩ := I.list (hr b hb)
    obtain ⟨as, ra⟩ := reads_ints (h := s.heap) r2
    exact ⟨_, .list ho hc hdat ra⟩
  · intro d hd d' hd'
    obtain ⟨b, _, rfl⟩ := List.mem_map.mp hd
    obtain ⟨b', _, rfl⟩ := List.mem_map.mp hd'
    show PySem.W.alikeAll _ _ = true
    exact PySem.W.alike_ints _ _
  · refine .inr fun d hd => ?_
    obtain ⟨b, _, rfl⟩ := List.mem_map.mp hd
    exact ⟨by simp, by simp⟩
  · have : (PyData.list (b.2.map .int)).depth ≤ 1 := by
      simp [PyData.depth, PyProof.Rows.depthAll_ints]
    omega
  · rw [PySem.W.dataLe_rows (fun b : Addr × List Int => b.2)] at h2
    have ho := each_eq h2
    subst ho
    obtain ⟨ep, he'⟩ := PyProof.Rows.sortedAll_at s.heap (bs.map fun b => Value.ref b.1) ((bs.mergeSort fun x y => decide (x.2 ≤ y.2)).map fun b => Value.ref b.1).toArray
    have hlen : ((bs.mergeSort fun x y => decide (x.2 ≤ y.2)).map fun b => V.ref b.1).length ≤ sizeLine := by
      rw [List.length_map, List.length_mergeSort]
      exact hz
    exact ⟨.ref _, upd H (s.heap.objs.size + 1) (.lst ((bs.mergeSort fun x y => decide (x.2 ≤ y.2)).map fun b => V.ref b.1)), I.laid (t' := s.toks) (fun _ _ => PyProof.Rows.sortedAll_old) (Nat.le_succ _) ⟨hlen, _, ep, refs_vals _, he'⟩, rfl, q _ (I.hok.fresh (Nat.le_succ _))⟩
theorem rpA_rows {F : Hp} : ∀ {nss : List (List Int)} {ws : List V}, RpA F ws (nss.map fun r => .list (r.map .int)) → ∃ bs : List (Addr × List Int), ws = bs.map (fun b => V.ref b.1) ∧ bs.map (·.2) = nss ∧ ∀ b ∈ bs, F b.1 = some (.lst (b.2.map V.int))
  | [], _, h => by cases h; exact ⟨[], rfl, rfl, fun _ h => by cases h⟩
  | r :: nss, _, h => by
    cases h with
    | cons h1 h2 =>
      obtain ⟨bs, e1, e2, h3⟩ := rpA_rows h2
      cases h1 with
      | lst ha hr =>
        have := rpA_ints hr
        subst this
        exact ⟨(_, r) :: bs, by rw [e1]; rfl, by rw [← e2]; rfl, fun b hb => by
          rcases List.mem_cons.mp hb with rfl | hb
          · exact ha
          · exact h3 b hb⟩
theorem rows_rpA {F : Hp} : ∀ {bs : List (Addr × List Int)}, (∀ b ∈ bs, F b.1 = some (.lst (b.2.map V.int))) → RpA F (bs.map fun b => V.ref b.1) ((bs.map (·.2)).map fun r => .list (r.map .int))
  | [], _ => .nil
  | b :: bs, h => .cons (.lst (h b List.mem_cons_self) (rpA_of_ints _)) (rows_rpA fun x hx => h x (List.mem_cons_of_mem _ hx))
def srtR (nss : List (List Int)) : List (List Int) := nss.mergeSort fun p q => decide (p ≤ q)
theorem srtR_perm (nss : List (List Int)) : (srtR nss).Perm nss := List.mergeSort_perm _ _
theorem r_sortedR {fm : Fm} {C : Cs} {x : It} {nss : List (List Int)} (hx : RdQ C x (nss.map fun r => .list (r.map .int))) : R1L fm (rSortedR fm.K) [x] C ((srtR nss).map fun r => .list (r.map .int)) := fun F M ok vs r Q q => by
  cases r with
  | cons r1 r2 =>
    cases r2
    obtain ⟨a, ws, e, hh, s⟩ := hx.get ok r1
    obtain ⟨bs, rfl, rfl, h3⟩ := rpA_rows s
    subst e
    refine ⟨a, bs, rfl, hh, fun b hb => .inl (.inl (ok.dj.ex (h3 b hb))), fun p hp => ?_⟩
    have e : srtR (bs.map (·.2)) = (bs.mergeSort fun x y => decide (x.2 ≤ y.2)).map (·.2) := (List.map_mergeSort (r := fun x y : Addr × List Int => decide (x.2 ≤ y.2)) (s := fun p q : List Int => decide (p ≤ q)) (f := fun x : Addr × List Int => x.2) fun _ _ _ _ => rfl).symm
    have z := rows_rpA (F := F) (bs := bs.mergeSort fun x y => decide (x.2 ≤ y.2)) fun b hb => h3 b ((List.mergeSort_perm _ _).mem_iff.mp hb)
    rw [← e] at z
    exact q p _ hp z
end Rr
namespace Rr
open PySem PySem.Spec PyProof.Rows L2
def rDictT (K : PySem.W.Frag) : R1 := fun xs H Q => ∃ (a : Addr) (ps : List Addr) (kvs : List (List Key × Addr × V)), xs = [.ref a] ∧ SqL K H a (ps.map V.ref) ∧ Paired (fun p (kv : List Key × Addr × V) => SqT K H p [V.ref kv.2.1, kv.2.2] ∧ H kv.2.1 = some (.tup (kv.1.map kV))) ps kvs ∧ (kvs.map (·.1)).Nodup ∧
  ∀ p, H p = none → Q (.ref p) (upd H p (.dT (kvs.map fun z => (z.1, z.2.2))))
section
variable {X : Cx}
theorem pairsT_of {pins : List (Addr × Obj)} {σ : L2.St} {H : Hp} {s : Shared} (I : Inv X pins σ H s) : ∀ {ps : List Addr} {kvs : List (List Key × Addr × V)}, Paired (fun p (kv : List Key × Addr × V) => SqT X.K H p [V.ref kv.2.1, kv.2.2] ∧ H kv.2.1 = some (.tup (kv.1.map kV))) ps kvs →
    ∃ prs : List (List Key × Addr × Value), Paired (fun (kv : List Key × Addr × V) (q : List Key × Addr × Value) => q.1 = kv.1 ∧ q.2.1 = kv.2.1 ∧ H q.2.1 = some (.tup (q.1.map kV)) ∧ RelV kv.2.2 q.2.2) kvs prs ∧ prs.length = ps.length ∧ ∀ (j : Nat) (q : List Key × Addr × Value), prs[j]? = some q → ∃ b : Addr, ps[j]? = some b ∧ IsTup s.heap b #[.ref q.2.1, q.2.2]
  | _, _, .nil => ⟨[], .nil, rfl, fun j q e => by simp at e⟩
  | _, _, .cons (a := p) (b := kv) h t => by
    obtain ⟨prs, r, hl, hp⟩ := pairsT_of I t
    obtain ⟨its, rv, ht, _⟩ := I.tuple h.1
    obtain ⟨u, y, ei, ru, ry⟩ := vals2 rv
    subst ei
    have eu : u = Value.ref kv.2.1 := ru
    subst eu
    refine ⟨(kv.1, kv.2.1, y) :: prs, .cons ⟨rfl, rfl, h.2, ry⟩ r, by rw [List.length_cons, List.length_cons, hl], fun j q e => ?_⟩
    cases j with
    | zero =>
      have e' : (kv.1, kv.2.1, y) = q := Option.some.inj e
      subst e'
      exact ⟨p, rfl, ht⟩
    | succ j =>
      obtain ⟨b, e1, e2⟩ := hp j q (by simpa using e)
      exact ⟨b, by simpa using e1, e2⟩
theorem pairsT_keys {H : Hp} : ∀ {kvs : List (List Key × Addr × V)} {prs : List (List Key × Addr × Value)}, Paired (fun (kv : List Key × Addr × V) (q : List Key × Addr × Value) => q.1 = kv.1 ∧ q.2.1 = kv.2.1 ∧ H q.2.1 = some (.tup (q.1.map kV)) ∧ RelV kv.2.2 q.2.2) kvs prs → prs.map (·.1) = kvs.map (·.1) ∧ kvs.length = prs.length ∧ ∀ x ∈ prs, H x.2.1 = some (.tup (x.1.map kV))
  | _, _, .nil => ⟨rfl, rfl, fun x h => by cases h⟩
  | _, _, .cons h t => by
    obtain ⟨a, b, c⟩ := pairsT_keys t
    refine ⟨by rw [List.map_cons, List.map_cons, a, h.1], by rw [List.length_cons, List.length_cons, b], fun x hx => ?_⟩
    rcases List.mem_cons.mp hx with rfl | hx
    · exact h.2.2.1
    · exact c x hx
theorem pairsT_new {H H' : Hp} (hH : ∀ a o, H a = some o → H' a = some o) : ∀ {kvs : List (List Key × Addr × V)} {prs : List (List Key × Addr × Value)}, Paired (fun (kv : List Key × Addr × V) (q : List Key × Addr × Value) => q.1 = kv.1 ∧ q.2.1 = kv.2.1 ∧ H q.2.1 = some (.tup (q.1.map kV)) ∧ RelV kv.2.2 q.2.2) kvs prs → Paired (fun (p : List Key × V) (q : List Key × Addr × Value) => p.1 = q.1 ∧ H' q.2.1 = some (.tup (p.1.map kV)) ∧ RelV p.2 q.2.2) (kvs.map fun z => (z.1, z.2.2)) prs
  | _, _, .nil => .nil
  | _, _, .cons h t => .cons ⟨h.1.symm, by rw [← h.1]; exact hH _ _ h.2.2.1, h.2.2.2⟩ (pairsT_new hH t)
theorem call_rDictT (hc : X.calm = true) (hu : X.A.units + 64 < cLine) : CallR X (.type "dict") (rDictT X.K) := by
  intro pins s σ H xs us Q I r q
  obtain ⟨a, ps, kvs, ex, hq, hp, hn, q⟩ := q
  subst ex
  obtain ⟨u, eu, rx⟩ := vals1 r
  subst eu
  cases rx
  obtain ⟨its, rv, pl, hz⟩ := I.list hq
  have ei := refs_at rv
  subst ei
  rw [List.length_map] at hz
  obtain ⟨prs, rel, hl, hpr⟩ := pairsT_of I hp
  obtain ⟨hk1, hk2, hk3⟩ := pairsT_keys rel
  obtain ⟨o, n, ho, hc2, hd, hdat⟩ := pl
  have hnp : (prs.map (·.1)).Nodup := by
    rw [hk1]
    exact hn
  refine call_dict_pairsH (knd := tupleKind (mixKind X.prog X.w)) (ps := prs) (PairArg.list a ((ps.map Value.ref).toArray) (fun j => ps.getD j 0) (prs.map fun q => (Value.ref q.2.1, q.2.2))) (I.ok.hd hc) ?_ ⟨⟨o, n, ho, hc2, hd, hdat⟩, ?_, fun j k v e => ?_⟩ ⟨by rw [List.length_map], fun i key v e => ?_⟩ (fun h' hk x hx => ?_) (by rw [List.length_map, hl]; exact hz) fun h' tk hd' k => ?_
  · show X.A.units + 1 + 1 < cLine
    omega
  · simp [hl]
  · rw [List.getElem?_map] at e
    obtain ⟨q', e1, e2⟩ := Option.map_eq_some_iff.mp e
    cases e2
    obtain ⟨b, h1, h2⟩ := hpr j q' e1
    refine ⟨by simp [h1, List.getD_eq_getElem?_getD], .inl ?_⟩
    show s.heap.IsTuple (ps.getD j 0) _
    rw [List.getD_eq_getElem?_getD, h1]
    exact h2
  · have e : (prs.map fun q => (Value.ref q.2.1, q.2.2))[i]? = some (key, v) := e
    rw [List.getElem?_map] at e
    obtain ⟨q', e1, e2⟩ := Option.map_eq_some_iff.mp e
    cases e2
    exact ⟨q'.1, q'.2.1, e1, rfl⟩
  · obtain ⟨o2, items, n2, h1, h2, h3, h4⟩ := key_of (P := X.prog) (w := X.w) I.hok (hk3 x hx)
    exact ⟨o2, items, n2, hk _ _ (Nat.ne_of_lt (Heap.lt_size h1)) (by simp) h1, h2, h3, h4⟩
  · have hm : (s.heap.objs.size == sysModules) = false := beq_eq_false_iff_ne.mpr (Nat.ne_of_gt I.big)
    rw [storedAllH_nil_of_nodup prs hnp] at hd'
    obtain ⟨o2, es, ep, h1, h2, h3, h4, -, h5⟩ := hd'
    have hfr := I.hok.fresh (Nat.le_refl s.heap.objs.size)
    refine ⟨.ref s.heap.objs.size, upd H s.heap.objs.size (.dT (kvs.map fun z => (z.1, z.2.2))), I.laid (t' := tk) (fun b u e => k b u (by simp) e) (Nat.le_refl _) (show ObjOk X.prog X.w _ _ _ (.dT _) from ⟨by rw [List.length_map, hk2, hl]; exact hz, hm, prs, pairsT_new (fun b u e => ?_) rel, o2, es, ep, h1, h2, h3, h4, h5⟩), rfl, q _ hfr⟩
    have hne : b ≠ s.heap.objs.size := fun z => by
      rw [z, hfr] at e
      cases e
    rw [upd_ne hne]
    exact e
end
section
variable {fm : Fm} {F M : Hp} {G : Gm} {C : Cs} {te : TE} {k : It → Cs → Prop}
def ktD (z : List Int × PyData) : PyData := .tuple [.tuple (z.1.map .int), z.2]
theorem pairsT_out {K : PySem.W.Frag} (dj : Dj M F) : ∀ {kvs : List (List Int × PyData)} {vs : List V}, RpA F vs (kvs.map ktD) → ∃ (ps : List Addr) (ws : List (List Key × Addr × V)), vs = ps.map V.ref ∧ Paired (fun p (kv : List Key × Addr × V) => SqT K (ov M F) p [V.ref kv.2.1, kv.2.2] ∧ ov M F kv.2.1 = some (.tup (kv.1.map kV))) ps ws ∧ ws.map (·.1) = kvs.map (fun z => z.1.map Sum.inl) ∧ RpA F (ws.map (·.2.2)) (kvs.map (·.2))
  | [], _, .nil => ⟨[], [], rfl, .nil, rfl, .nil⟩
  | z :: kvs, _, .cons r rs => by
    obtain ⟨ps, ws, rfl, h1, h2, h3⟩ := pairsT_out (K := K) dj rs
    cases r with
    | @tup a vs' _ hF rv =>
      cases rv with
      | @cons u _ us _ r1 r2 =>
        cases r2 with
        | @cons w _ us' _ r3 r4 =>
          cases r4
          cases r1 with
          | @tup b xs _ hb rb =>
            have := rpA_ints rb
            subst this
            exact ⟨a :: ps, (z.1.map Sum.inl, b, w) :: ws, rfl, .cons ⟨SqT.of (dj.ex hF), by rw [kv_ints]; exact dj.ex hb⟩ h1, by rw [List.map_cons, h2]; rfl, .cons r3 h3⟩
theorem w_dictT {kvs : List (List Int × PyData)} (h : Ev fm te G C (.d (.list (kvs.map ktD)))) (hn : (kvs.map (·.1)).Nodup) (hk : ∀ p, k (.c p) (C ++ [(p, .dit (kvs.map fun z => (z.1.map Sum.inl, z.2)))])) : W fm (tCB (rDictT fm.K) (tCons te tNil)) G C k := fun F M σ ok Q q =>
  h F M σ ok _ fun v F1 e1 ok1 r1 => by
    cases r1 with
    | lst hF rv =>
      rename_i a vs
      obtain ⟨ps, ws, rfl, h1, h2, h3⟩ := pairsT_out (K := fm.K) ok1.c.dj rv
      refine ⟨a, ps, ws, rfl, SqL.of (ok1.c.dj.ex hF), h1, ?_, fun p hp => ?_⟩
      · rw [h2]
        have : (kvs.map fun z => z.1.map (Sum.inl : Int → Key)) = (kvs.map (·.1)).map fun l => l.map Sum.inl := by rw [List.map_map]; rfl
        rw [this]
        exact List.pairwise_map.mpr (hn.imp fun hne e => hne ((List.map_inj_right fun _ _ e => Sum.inl.inj e).mp e))
      have hlen : ws.length = kvs.length := by
        have := congrArg List.length h2
        rwa [List.length_map, List.length_map] at this
      have ez : (ws.map fun z => (z.1, z.2.2)) = List.zip ((kvs.map fun z => (z.1.map (Sum.inl : Int → Key), z.2)).map (·.1)) (ws.map (·.2.2)) := by
        rw [List.map_map]
        have : (kvs.map ((fun x : List Key × PyData => x.1) ∘ fun z : List Int × PyData => (z.1.map (Sum.inl : Int → Key), z.2))) = ws.map (·.1) := h2.symm
        rw [this, List.zip_map']
      obtain ⟨b, c⟩ := ok1.newM (o := .dT (ws.map fun z => (z.1, z.2.2))) (c := .dit (kvs.map fun z => (z.1.map Sum.inl, z.2))) hp ⟨ws.map (·.2.2), by rw [ez], by rw [List.length_map, List.length_map, hlen], by rw [List.map_map]; exact h3⟩
      rw [← c]
      exact q (.ref p) (.c p) _ F1 _ e1 b (show RpI fm.K F1 (.ref p) (.c p) from rfl) (hk p)
end
end Rr
namespace Rr
open PySem PySem.Spec PyProof.Rows L2
theorem dataLe_tups {β : Type} (x : β → List Int) : PySem.W.dataLe false (fun b => .tuple ((x b).map .int)) = fun p q => decide (x p ≤ x q) := by
  funext p q
  show (!PySem.W.dataLt (.tuple ((x q).map .int)) (.tuple ((x p).map .int))) = _
  rw [PySem.W.dataLt_tuple]
  show (!PySem.W.rowLt ((x q).map .int) ((x p).map .int)) = _
  rw [PySem.W.dataLt_ints]
  by_cases h : x q < x p
  · have h' : ¬ x p ≤ x q := fun r => List.not_lt.mpr r h
    simp [h, h']
  · have h' : x p ≤ x q := List.not_lt.mp h
    simp [h, h']
theorem reads_ints0 {h : Heap} : ∀ {ns : List Int} {us : List Value}, Vals (ns.map V.int) us → ReadsAll h us (ns.map .int) []
  | [], _, r => by cases r; exact .nil
  | n :: ns, _, r => by
    cases r with
    | cons r1 r2 =>
      obtain ⟨t, rfl⟩ := r1
      exact .cons (.int n t) (reads_ints0 r2)
def rSortedDT : R1 := fun xs H Q => ∃ (d : Addr) (kvs : List (List Key × V)) (iss : List (List Int)), xs = [.ref d] ∧ Rd H d (.dT kvs) ∧ kvs.map (·.1) = iss.map (fun is => is.map Sum.inl) ∧ (∀ is ∈ iss, is ≠ []) ∧
  ∀ (p : Addr) (bs : List (Addr × List Int)), H p = none → (∀ b ∈ bs, H b.1 = some (.tup (b.2.map V.int))) → bs.map (·.2) = srtR iss → Q (.ref p) (upd H p (.lst (bs.map fun b => V.ref b.1)))
theorem keys_pairs {H : Hp} : ∀ {kvs : List (List Key × V)} {ks : List (List Key × Addr × Value)} {iss : List (List Int)}, Paired (fun (p : List Key × V) (q : List Key × Addr × Value) => p.1 = q.1 ∧ H q.2.1 = some (.tup (p.1.map kV)) ∧ RelV p.2 q.2.2) kvs ks → kvs.map (·.1) = iss.map (fun is => is.map Sum.inl) → ∃ bs : List (Addr × List Int), bs.map (·.1) = ks.map (fun x => x.2.1) ∧ bs.map (·.2) = iss ∧ ∀ b ∈ bs, H b.1 = some (.tup (b.2.map V.int))
  | _, _, [], .nil, _ => ⟨[], rfl, rfl, fun b h => by cases h⟩
  | _, _, _ :: _, .nil, e => by cases e
  | _, _, [], .cons _ _, e => by cases e
  | _, _, is :: iss, .cons (b := q) h t, e => by
    rw [List.map_cons, List.map_cons] at e
    obtain ⟨e1, e2⟩ := List.cons.inj e
    obtain ⟨bs, h1, h2, h3⟩ := keys_pairs t e2
    refine ⟨(q.2.1, is) :: bs, by rw [List.map_cons, List.map_cons, h1], by rw [List.map_cons, h2], fun b hb => ?_⟩
    rcases List.mem_cons.mp hb with rfl | hb
    · have := h.2.1
      rw [e1, kv_ints] at this
      exact this
    · exact h3 b hb
section
variable {X : Cx}
theorem call_rSortedDT (hc : X.calm = true) (hu : X.A.units + 64 < cLine) : CallR X (.builtin "sorted") rSortedDT := by
  intro pins s σ H xs us Q I r h
  obtain ⟨d, kvs, iss, rfl, hd, hki, hne, q⟩ := h
  obtain ⟨u, rfl, rx⟩ := r.one
  cases rx
  obtain ⟨z, hs, ks, pr, o, es, ep, ho, hx, hdt, he, hn⟩ := (show ObjOk X.prog X.w H s.heap d (.dT kvs) from hd.ok I.hok)
  have l1 : es.size = ks.length := size_of_entries he
  have l2 : kvs.length = ks.length := Paired.length pr
  obtain ⟨bs, b1, b2, b3⟩ := keys_pairs pr hki
  have lb : bs.length = ks.length := by
    have := congrArg List.length b1
    rwa [List.length_map, List.length_map] at this
  refine Calls.call_function_entry PyProof.Rows.kind_sorted PyProof.Rows.plain_sorted PyProof.Rows.entry_sorted (PyProof.Rows.args_sorted1 _) ?_
  unfold Builtin.«sorted»
  refine wpAny_bind (m := checkCount "sorted" 1 1 _) (wpAny_pure ?_)
  refine wpAny_bind (PySem.W.kdu_collect (A := X.A.in1) (kdl_raw hs hx hdt) (I.ok.hd hc) ho (by omega) fun h' tk acc hk it => ?_)
  have ea : acc.toList = bs.map fun b => Value.ref b.1 := by
    have e0 : acc.toList = ks.map fun x => Value.ref x.2.1 := by
      have hl : acc.toList.length = ks.length := by rw [Array.length_toList, it.1]; exact l1
      apply List.ext_getElem?
      intro j
      rw [List.getElem?_map]
      cases hj : acc.toList[j]? with
      | none =>
        have h1 := List.getElem?_eq_none_iff.mp hj
        rw [List.getElem?_eq_none (by omega)]
        all_goals rfl
      | some v =>
        obtain ⟨en, hen, hv⟩ := it.2 j v (by rw [← Array.getElem?_toList]; exact hj)
        have qe := entry_at he j
        rw [hen] at qe
        cases hb : ks[j]? with
        | none =>
          rw [hb] at qe
          exact nomatch (show some en = none from qe)
        | some b =>
          rw [hb] at qe
          have e2 : en = entryOfKey (tupleKind (mixKind X.prog X.w)) b := Option.some.inj qe
          rw [hv, e2]
          all_goals rfl
    have e1 : (ks.map fun x => Value.ref x.2.1) = (ks.map fun x => x.2.1).map Value.ref := by rw [List.map_map]; rfl
    rw [e0, e1, ← b1, List.map_map]
    rfl
  rw [ea]
  have I1 : L2.Inv X pins σ H { s with heap := h', toks := tk } := I.kept hk
  refine wpAny_bind (wpAny_newList ?_ (by rw [List.length_map, lb, ← l2]; exact z))
  have hoL : (h'.push (seqObj "list" (bs.map fun b => Value.ref b.1).toArray 0)).get? h'.objs.size = some (seqObj "list" (bs.map fun b => Value.ref b.1).toArray 0) := Heap.get?_push_size _ rfl
  show wpAny _ _ _ _ _ { s with heap := h'.push (seqObj "list" (bs.map fun b => Value.ref b.1).toArray 0), toks := tk }
  refine wpAny_bind (wpAny_holding (PySem.W.list_sort_data (R := fun v (b : Addr × List Int) => v = Value.ref b.1) (bs := bs) (enc := fun b => .tuple (b.2.map .int)) hoL (each_of bs fun b _ => rfl) (each_of bs fun b hb => ?_) ?_ ?_ (by rw [lb, ← l2]; exact z) (fun b _ => ?_) fun out h1 h2 => ?_))
  · obtain ⟨_, its, rv, o2, g1, g2, n2, g3⟩ := (show ObjOk X.prog X.w H s.heap b.1 (.tup (b.2.map V.int)) from I.hok b.1 _ (b3 b hb))
    exact ⟨[], .tuple (Heap.get?_push_of_some _ (hk _ _ g1)) g2 g3 (reads_ints0 rv), by simp⟩
  · intro d hd d' hd'
    obtain ⟨b, _, rfl⟩ := List.mem_map.mp hd
    obtain ⟨b', _, rfl⟩ := List.mem_map.mp hd'
    show PySem.W.alikeAll _ _ = true
    exact PySem.W.alike_ints _ _
  · refine .inl fun d hd => ?_
    obtain ⟨b, hb, rfl⟩ := List.mem_map.mp hd
    have hn0 : b.2 ≠ [] := hne _ (by rw [← b2]; exact List.mem_map.mpr ⟨b, hb, rfl⟩)
    cases hq : b.2 with
    | nil => exact absurd hq hn0
    | cons i is => exact ⟨.int i, is.map .int, rfl⟩
  · have : (PyData.tuple (b.2.map .int)).depth ≤ 1 := by
      simp [PyData.depth, PyProof.Rows.depthAll_ints]
    show X.A.units + 1 + 1 + _ < cLine
    omega
  · rw [dataLe_tups (fun b : Addr × List Int => b.2)] at h2
    have hout := each_eq h2
    subst hout
    obtain ⟨e', he'⟩ := PyProof.Rows.sortedHeap_at (vs := bs.map fun b => Value.ref b.1) (out := ((bs.mergeSort fun x y => decide (x.2 ≤ y.2)).map fun b => Value.ref b.1).toArray) hoL
    have hlen : ((bs.mergeSort fun x y => decide (x.2 ≤ y.2)).map fun b => V.ref b.1).length ≤ sizeLine := by
      rw [List.length_map, List.length_mergeSort, lb, ← l2]
      exact z
    have e2 : (bs.mergeSort fun x y => decide (x.2 ≤ y.2)).map (·.2) = srtR iss := by
      rw [← b2]
      exact List.map_mergeSort (r := fun x y : Addr × List Int => decide (x.2 ≤ y.2)) (s := fun p q : List Int => decide (p ≤ q)) (f := fun x : Addr × List Int => x.2) fun _ _ _ _ => rfl
    refine wpAny_pure ⟨_, rfl, .ref h'.objs.size, upd H h'.objs.size (.lst ((bs.mergeSort fun x y => decide (x.2 ≤ y.2)).map fun b => V.ref b.1)), I1.laid (t' := tk) (fun b u e => ?_) (Nat.le_refl _)
      (show ObjOk X.prog X.w _ _ _ (.lst _) from ⟨hlen, _, e', refs_vals _, he'⟩), rfl, q _ _ (I1.hok.fresh (Nat.le_refl _)) (fun b hb => b3 b ((List.mergeSort_perm _ _).mem_iff.mp hb)) e2⟩
    have hb : b < h'.objs.size := Heap.lt_size e
    rw [PyProof.Rows.sortedHeap_old (Nat.ne_of_lt hb) (by rw [size_push']; exact Nat.lt_succ_of_lt hb)]
    exact Heap.get?_push_of_some _ e
end
section
variable {fm : Fm} {F M : Hp} {G : Gm} {C : Cs} {ta tb : TE} {p : Addr} {j : Nat}
theorem rpT_rows {F : Hp} : ∀ {bs : List (Addr × List Int)}, (∀ b ∈ bs, F b.1 = some (.tup (b.2.map V.int))) → RpA F (bs.map fun b => V.ref b.1) ((bs.map (·.2)).map fun r => .tuple (r.map .int))
  | [], _ => .nil
  | b :: bs, h => .cons (.tup (h b List.mem_cons_self) (rpA_of_ints _)) (rpT_rows fun x hx => h x (List.mem_cons_of_mem _ hx))
/-- d.get(k), keys tuples of ints -/
theorem ev_dget1T {kvs : List (List Key × PyData)} {d : PyData} {ky : List Key} (hd : Ev fm ta G C (.c p)) (hi : Ev fm tb G C (.d d)) (hk : KeyT d ky) (hj : C[j]? = some (p, .dit kvs)) : Ev fm (tDGet1 ta tb) G C (.d ((lookT kvs ky).getD .none)) := fun F M σ ok Q q =>
  hd F M σ ok _ fun v F1 e1 ok1 r1 => by
    have ev : v = .ref p := r1
    subst ev
    obtain ⟨ws1, _, h1, _, _⟩ := dit_at ok1.c hj
    refine ⟨p, rfl, isD_dT h1, hi F1 M σ ok1 _ fun w F2 e2 ok2 r2 => ?_⟩
    obtain ⟨b, rfl, hb⟩ := hk.v r2
    obtain ⟨ws, _, h3, _, h4⟩ := dit_at ok2.c hj
    have g := DGet.t (k := ky) h3 (ok2.c.dj.ex hb)
    obtain ⟨z1, z2⟩ := zip_lookT (k := ky) h4
    refine ⟨_, g, ?_⟩
    cases ql : lookT kvs ky with
    | none =>
      rw [z2 ql]
      rw [ql] at q
      exact q .non F2 (e1.trans e2) ok2 .non
    | some it =>
      obtain ⟨v, h5, h6⟩ := z1 it ql
      rw [h5]
      rw [ql] at q
      exact q v F2 (e1.trans e2) ok2 h6
end
end Rr
namespace Rr
open PySem PySem.Spec PyProof.Rows L2
section
variable {fm : Fm} {F M : Hp} {G : Gm} {C : Cs} {P : L2.St → Hp → Prop} {Q : VK}
theorem ex_ov (dj : Dj M F) : Ex F (ov M F) := fun a o e => dj.ex e
theorem at_alone (h : ∀ F M, OkC fm F M [] → At ⟨fm.K, fun _ => none, ov M F⟩ P G []) : At fm P G [] := fun F M σ ok => by
  have e := ex_ov ok.c.dj
  have z := h F M ok.c (ov M F) (fun _ => none) σ ⟨⟨Ex.refl _, (fun x h => by cases h), (fun x h => by cases h), (fun _ _ => rfl), List.Pairwise.nil, (fun b o h => by cases h)⟩, ok.len, fun i it q => by
    obtain ⟨v, a, b⟩ := ok.slot i it q
    exact ⟨v, a, b.ex e⟩⟩
  rw [ov_nil] at z
  exact z
theorem rt_alone {b : Bool} (ok : OkC fm F M []) (h0 : Rt fm Q (.d (.bool b)) []) : ∀ F2, Ex (ov M F) F2 → ∀ C, Rt ⟨fm.K, fun _ => none, F2⟩ Q (.d (.bool b)) C := fun F2 e2 C => by
  refine Rt.fgtAll fun F' M' v ok' r => ?_
  have eM : M' = fun _ => none := ok_none rfl ok'
  subst eM
  rw [ov_nil]
  have hM : ∀ a, M a = fm.M0 a := fun a => ok.rest a fun x hx => by cases hx
  have e3 : Ex (ov M F) F' := e2.trans ok'.ex
  have z := h0 (fun a => if M a = none then F' a else none) M v ⟨fun a o e => ?_, (fun x h => by cases h), (fun x h => by cases h), (fun a _ => hM a), List.Pairwise.nil, fun a o e => ?_⟩ ?_
  · have eq : ov M (fun a => if M a = none then F' a else none) = F' := funext fun a => by
      cases q : M a with
      | none =>
        rw [ov_F q, if_pos q]
      | some o =>
        rw [ov_M q]
        exact (e3 a o (ov_M q)).symm
    rw [eq] at z
    exact z
  · have e4 := ok.ex a o e
    have e5 : M a = none := by
      cases q : M a with
      | none => rfl
      | some u =>
        have := ok.dj _ _ q
        rw [e4] at this
        cases this
    show (if M a = none then F' a else none) = some o
    rw [if_pos e5]
    exact e3 a o (by rw [ov_F e5]; exact e4)
  · show (if M a = none then F' a else none) = none
    rw [if_neg (by rw [e]; simp)]
  · cases r
    exact .bl _
/-- sorted(d), with nothing of the caller's left to change -/
theorem el_sortedDT {ta : TE} {p : Addr} {j : Nat} {kis : List (List Int × PyData)} (h0 : fm.M0 = fun _ => none) (hC : ∀ x ∈ C, (∃ ds, x.2 = Cell.dat ds) ∨ ∃ kvs, x.2 = Cell.dit kvs) (hd : Ev fm ta G C (.c p)) (hj : C[j]? = some (p, .dit (kis.map fun z => (z.1.map Sum.inl, z.2)))) (hne : ∀ z ∈ kis, z.1 ≠ []) : EvL fm (tCB rSortedDT (tCons ta tNil)) G C ((srtR (kis.map (·.1))).map fun r => .tuple (r.map .int)) := fun F M σ ok Q q =>
  hd F M σ ok _ fun v F1 e1 ok1 r1 => by
    have e : v = .ref p := r1
    subst e
    obtain ⟨ws, hM, h3, hl, h4⟩ := dit_at ok1.c hj
    rw [List.length_map] at hl
    refine ⟨p, _, kis.map (·.1), rfl, .inl h3, ?_, fun is hi => ?_, fun p2 bs h5 h6 h7 => ?_⟩
    · rw [List.map_fst_zip (by rw [List.length_map, List.length_map]; omega), List.map_map, List.map_map]
      rfl
    · obtain ⟨z, hz, rfl⟩ := List.mem_map.mp hi
      exact hne z hz
    · rw [← h7] at q
      refine q p2 _ F1 e1 ok1 h5 (rpT_rows fun b hb => ?_)
      have h8 := h6 b hb
      cases qm : M b.1 with
      | none =>
        rw [ov_F qm] at h8
        exact h8
      | some o =>
        exfalso
        rw [ov_M qm] at h8
        cases h8
        by_cases hx : ∃ x ∈ C, x.1 = b.1
        · obtain ⟨x, hx, e⟩ := hx
          have hc := ok1.c.cells x hx
          rw [e, qm] at hc
          rcases hC x hx with ⟨ds, e2⟩ | ⟨kvs, e2⟩
          · rw [e2] at hc
            obtain ⟨vs, h9, _⟩ := hc
            cases h9
          · rw [e2] at hc
            obtain ⟨vs, h9, _⟩ := hc
            cases h9
        · have := ok1.c.rest b.1 fun x hx2 e => hx ⟨x, hx2, e⟩
          rw [qm, h0] at this
          cases this
end
end Rr
namespace Rr
open PySem PySem.Spec PyProof.Rows L2
end Rr
namespace Rr
open PySem PySem.Spec PyProof.Rows L2
/-- the way out by an exception of the own class x -/
def Xt (fm : Fm) (E : XK) (x : Str) (C : Cs) : Prop := ∀ F M, OkC fm F M C → E (.ref (He.ga fm.K x)) none (ov M F)
theorem Xt.fgt {fm : Fm} {E : XK} {x : Str} {C : Cs} {j : Nat} (h : Xt fm E x (C.eraseIdx j)) : Xt fm E x C := fun F M ok => by
  by_cases hj : j < C.length
  · obtain ⟨F', M', ok', e, _⟩ := ok.drop (k := j) (p := (C[j]).1) (c := (C[j]).2) (by rw [List.getElem?_eq_getElem hj])
    rw [← e]
    exact h F' M' ok'
  · rw [List.eraseIdx_of_length_le (by omega)] at h
    exact h F M ok
theorem Xt.fgts {fm : Fm} {E : XK} {x : Str} {C : Cs} : ∀ {C2 : Cs} (_ : Xt fm E x C), Xt fm E x (C ++ C2)
  | [], h => by rw [List.append_nil]; exact h
  | y :: C2, h => by
    refine Xt.fgt (j := C.length) ?_
    have e : (C ++ y :: C2).eraseIdx C.length = C ++ C2 := by simp [List.eraseIdx_append_of_length_le]
    rw [e]
    exact Xt.fgts h
theorem Xt.all {fm : Fm} {E : XK} {x : Str} {C : Cs} (h : Xt fm E x []) : Xt fm E x C := by
  have z := Xt.fgts (C := []) (C2 := C) h
  rw [List.nil_append] at z
  exact z
section
variable {α : Type}
/-- what such a def promises: it takes data -/
def SpcX (K : PySem.W.Frag) (args : α → List It) (pre : α → Prop) (post : α → It → Cs → Prop) (exc : α → Str → Prop) : Sp := fun vs H Q E =>
  ∃ (a : α) (F M M0 : Hp), pre a ∧ H = ov M F ∧ OkC ⟨K, M0, F⟩ F M [] ∧ RpIs K F vs (args a) ∧ (∀ F1, Ex F F1 → ∀ it C', post a it C' → Rt ⟨K, M0, F1⟩ Q it C') ∧ ∀ F1, Ex F F1 → ∀ x, exc a x → Xt ⟨K, M0, F1⟩ E x []
structure CtX where
  {α : Type}
  args : α → List It
  pre : α → Prop := fun _ => True
  post : α → It → Cs → Prop
  exc : α → Str → Prop
abbrev CtX.sp (c : CtX) (K : PySem.W.Frag) : Sp := SpcX K c.args c.pre c.post c.exc
/-- what a body keeps; E: the wish that its exceptions fulfil -/
def KeepsX (K : PySem.W.Frag) (n : Nat) (t : XK → TS) (args : α → List It) (pre : α → Prop) (post : α → It → Cs → Prop) (exc : α → Str → Prop) : Prop :=
  ∀ a M0 F0 Q E, pre a → (∀ F1, Ex F0 F1 → ∀ it C', post a it C' → Rt ⟨K, M0, F1⟩ Q it C') → (∀ F1, Ex F0 F1 → ∀ x, exc a x → Xt ⟨K, M0, F1⟩ E x []) → At ⟨K, M0, F0⟩ (t E ⟨fun _ H' => Q .non H', Q, fun _ _ => False, fun _ _ => False⟩) (startG n (args a)) []
abbrev CtX.keeps (c : CtX) (K : PySem.W.Frag) (n : Nat) (t : XK → TS) : Prop := KeepsX K n t c.args c.pre c.post c.exc
variable {args : α → List It} {pre : α → Prop} {post : α → It → Cs → Prop} {exc : α → Str → Prop}
variable {P : Program} {w : World} {K : PySem.W.Frag} {mg : Str → Option Value} {base : Heap} {k : Nat} {x qual : Str} {params : Arguments} {body : List Stmt} {scope : Scope} {f : Addr} {fd : FuncData} {N ps : List Str} {t : XK → TS}
end
end Rr
namespace Rr
open PySem PySem.Spec PyProof.Rows L2
theorem run_gS {X : Cx} {CX : CXT} {k : Nat} {f : Addr} {fd : FuncData} {ps : List Str} {sp : Sp} {E : XK} {pins : List (Addr × Obj)} {σ : L2.St} {H : Hp} {s : Shared} {Q : VK} {us : List Value} {vs : List V} (F : FnG X.prog X.w X.K X.mg X.base CX k f fd ps sp) (hr : Room k X.A) (hgd : X.A.guards = some []) (hb : Binds X.K fd ps []) (hx : PassesAt CX X σ E)
    (I : Inv X pins σ H s) (r : Vals vs us) (h : sp vs H Q E) : wpAny (model X.prog X.w) X.A (PySem.call (.ref f) us) (EP X pins σ Q) X.xe s := by
  have hl : us.length = ps.length := by rw [← r.length]; exact F.ln _ _ _ _ h
  have b : BindsTo s fd ⟨us, []⟩ (ps.zip us) := by
    have z := hb s us I.kIn (by rw [List.append_nil]; exact hl)
    rwa [List.append_nil] at z
  refine wpAny_call (codeAny_mono (F.go X.A X.stack s H ⟨us, []⟩ us vs Q E hr hgd I.env0 b r h) fun r s' hq => ?_)
  match r, hq with
  | .error e, hq => exact hx pins H s e s' I hq
  | .ok (.ret u), hq => exact I.after hq
  | .ok .next, hq => exact hq.elim
  | .ok .brk, hq => exact hq.elim
  | .ok .cont, hq => exact hq.elim
section
variable {X : Cx} {CX : CXT} {j k n : Nat} {ps ks : List Str} {sp : Sp} {E : L2.St → XK} {x : Str} {p pos q : Pos} {e o i : Expr} {es : List Expr} {t : TA} {tf : TE} {sps : List (Addr × Sp)}
theorem pe_fnS (F : Fn X.prog X.w X.K X.mg X.base CX j x ps sp) (hr : Room k X.A) (hj : j ≤ k) (hgd : X.A.guards = some []) (hx : ∀ σ, PassesAt CX X σ (E σ)) (ha : PA X (e :: es) t) (hg : Gl X x := by rfl) (hdb : (x == ("__debug__" : Str)) = false := by decide)
    (he : starEach (e :: es) X.env = (false, eval e X.env) :: starEach es X.env := by rfl) (hpl : (backTo pos (starEach es X.env)).any (·.1) = false := by rfl) : PE X (.Call (.Name x p) (e :: es) [] pos) (tCallS sp E t) := by
  obtain ⟨f, fd, G, hm, hk, hb⟩ := F.ex
  refine ⟨fun pins s σ H Q I h => wpAny_Call_Name_kw (ld_glob I hg hm ?_ hdb)⟩
  refine PySem.W.callWith_K (h₀ := X.base) I.ok.mod.kin hk (thn (ha.run pos pins s σ H _ I h) fun us s1 ⟨vs, H1, I1, r, q⟩ => ⟨I1.kIn, ?_⟩) he hpl
  exact run_gS (G.up hj) hr hgd hb (hx σ) I1 r q
end
end Rr
namespace Rr
open PySem PySem.Spec PyProof.Rows L2
structure ExcF (K : PySem.W.Frag) (mg : Str → Option Value) (x : Str) : Prop where
  g : mg x = some (.ref (He.ga K x))
  q : PySem.W.excIn K (He.ga K x) He.veBase "ValueError.__new__" = true
  k : PySem.W.keepIn K (.ref (He.ga K x)) = true
  s : PySem.W.subIn K (.ref (He.ga K x)) (.type "BaseException") = some true
  t : PySem.W.typeIn K (.ref (He.ga K x)) = some (.type "type")
theorem ExcF.of {K : PySem.W.Frag} {mg : Str → Option Value} {x : Str} (g : mg x = some (.ref (He.ga K x))) (c : (He.Fa.exc x).ok K = true) : ExcF K mg x := by
  obtain ⟨a, b, c, d⟩ := He.exc_ok c
  exact ⟨g, a, b, c, d⟩
def obsE2 (fa : List He.Fa) (fn : List He.DefD) (ex : PySem.W.Frag → Bool) (K : PySem.W.Frag) : He.AlD := ((He.obsD fa fn K).1 && ex K, (He.obsD fa fn K).2)
theorem saysE_of {fa : List He.Fa} {fn : List He.DefD} {ex : PySem.W.Frag → Bool} {K : PySem.W.Frag} (h : obsE2 fa fn ex K = He.valD fn) : He.SaysD fa fn K ∧ ex K = true := by
  have h1 : ((He.obsD fa fn K).1 && ex K) = true := congrArg (fun z : He.AlD => z.1) h
  have h2 : (He.obsD fa fn K).2 = fn.map He.DefD.val := congrArg (fun z : He.AlD => z.2) h
  obtain ⟨a, b⟩ := Bool.and_eq_true_iff.mp h1
  exact ⟨Prod.ext a h2, b⟩
end Rr
namespace Rr
open PySem PySem.Spec PyProof.Rows L2
end Rr
namespace Rr
open PySem PySem.Spec PyProof.Rows L2
end Rr
namespace Rr
open PySem PySem.Spec PyProof.Rows L2
section
variable {X : Cx} {o e : Expr} {es : List Expr} {to te : TE} {ta : TA} {f : Str} {p p' p1 p2 pos : Pos}
/-- R.__init__(self, ..), R an own class that has ValueError's __init__ -/
theorem pe_ownInit {R : Str} {RC : Addr} {pl : Sem Bool} (hg : Gl X R) (hm : X.mg R = some (.ref RC)) (hdb : (R == ("__debug__" : Str)) = false) (hga : PySem.W.specialIn X.K (.ref RC) "__getattribute__" = some (some (.builtin "type.__getattribute__")))
    (hrd : PySem.W.readsIn X.K RC (.type "type") = true) (vV : PySem.W.findCls X.K (.ref RC) (.type "type") "__init__" = some (.val (.builtin "ValueError.__init__"))) (ha : PA X (e :: es) ta)
    (hc : eval (.Call (.Attribute (.Name R p1) "__init__" p2) (e :: es) [] pos) X.env = (do
      let ov ← eval (.Name R p1) X.env
      standAt p2.atName
      let (f, first) ← holding [ov] (getMethod ov "__init__" pl)
      callWith pos f first (backTo pos (starEach (e :: es) X.env)) (backToKw pos (keywordEach [] X.env))) := by rfl)
    (he : starEach (e :: es) X.env = (false, eval e X.env) :: starEach es X.env := by rfl) (hpl : (backTo pos (starEach es X.env)).any (·.1) = false := by rfl) :
    PE X (.Call (.Attribute (.Name R p1) "__init__" p2) (e :: es) [] pos) (tVeI X.K ta) := by
  refine ⟨fun pins s σ H Q I h => ?_⟩
  refine PySem.W.methodCall_KW (ld_glob I hg hm ?_ hdb) hc
  refine PySem.W.method_cls (C := RC) I.kIn hga (PySem.W.cls_value (mc := .type "type") I.kIn hrd vV (by decide +kernel) ?_)
  show wpAny _ _ (callWith pos (Value.builtin "ValueError.__init__") [] (backTo pos (starEach (e :: es) X.env)) []) _ _ _
  refine PyProof.Rows.callWith_method1 (thn (ha.run pos pins _ σ H _ (I.tok _) h) fun us s1 ⟨vs, H1, I1, r1, a, C, ws, ev, hl, T, ea, q⟩ => ?_) he hpl
  subst ev
  cases r1 with
  | @cons _ u0 _ ur ra rw' =>
    obtain rfl : u0 = Value.ref a := ra
    have hlen : ur.length ≤ sizeLine := by
      rw [← Paired.length rw', sizeLine_eq]
      omega
    exact oinit_ok T I1 ea hlen fun s' J => ⟨.non, H1, J, rfl, q⟩
/-- C(e, ..), C's own __init__ one of our defs -/
theorem pmk_oexG {CX : CXT} {x : Str} {C fI : Addr} {k : Nat} {fd : FuncData} {ps : List Str} {sp : Sp} (T : OexC X.K C) (iC : PySem.W.findIn X.K (.ref C) "__init__" = some (some (.ref fI))) (tI : PySem.W.typeIn X.K (.ref fI) = some (.type "function"))
    (F1 : FnG X.prog X.w X.K X.mg X.base CX k fI fd ps sp) (hr : Room (k + 1) X.A) (hgd : X.A.guards = some []) (hb : Binds X.K fd ps []) (hx : Passes CX X (fun _ _ _ => False)) (hg : Gl X x) (hm : X.mg x = some (.ref C)) (ha : PA X (e :: es) ta)
    (hdb : (x == ("__debug__" : Str)) = false := by decide) (he : starEach (e :: es) X.env = (false, eval e X.env) :: starEach es X.env := by rfl) (hpl : (backTo pos (starEach es X.env)).any (·.1) = false := by rfl) :
    PMk X (.Call (.Name x p) (e :: es) [] pos) (tMkO C sp [] ta) := by
  intro pins s σ H Q I h
  obtain ⟨nm, q, N, bs, bm, sn, sub, ab, col, dd, k0, k1, k2, k3, k5, hC, hbm⟩ := T.cls
  refine wpAny_Call_Name_kw (ld_glob I hg hm ?_ hdb)
  refine PySem.W.callWith_K (h₀ := X.base) I.ok.mod.kin T.kC (thn (ha.run pos pins s σ H _ I h) fun us s1 ⟨vs, H1, I1, r1, hz, q1⟩ => ⟨I1.kIn, ?_⟩) he hpl
  show wpAny _ _ (call (.ref C) us) _ _ _
  obtain ⟨hp, g, dr, tk, os⟩ := s1
  have hsz : hp.objs.size ≤ hp.objs.size + 1 := Nat.le_succ _
  have hn : H1 (hp.objs.size + 1) = none := I1.hok.fresh hsz
  have hq := q1 (hp.objs.size + 1) hn
  rw [List.append_nil] at hq
  have kk : ∀ b o, hp.get? b = some o → ((hp.push (PySem.W.kdv_tup us)).push (PySem.HandSPX.excO C hp.objs.size)).get? b = some o := fun b o e => Heap.get?_push_of_some _ (Heap.get?_push_of_some _ e)
  have hget : ((hp.push (PySem.W.kdv_tup us)).push (PySem.HandSPX.excO C hp.objs.size)).get? (hp.objs.size + 1) = some (PySem.HandSPX.excO C hp.objs.size) := by heap_get
  have I2 : Inv X pins σ (upd H1 (hp.objs.size + 1) (exo (hp.objs.size + 1) C none)) ⟨(hp.push (PySem.W.kdv_tup us)).push (PySem.HandSPX.excO C hp.objs.size), g, dr, tk, os⟩ :=
    I1.laid (t' := tk) (a := hp.objs.size + 1) (o := exo (hp.objs.size + 1) C none) (h' := (hp.push (PySem.W.kdv_tup us)).push (PySem.HandSPX.excO C hp.objs.size)) kk hsz (exo_ok hget)
  have r2 : Vals (V.ref (hp.objs.size + 1) :: vs) (Value.ref (hp.objs.size + 1) :: us) := .cons rfl r1
  have hl : (Value.ref (hp.objs.size + 1) :: us).length = ps.length := by
    have e := r2.length
    rw [F1.ln _ _ _ _ hq] at e
    exact e.symm
  have hus : us.length ≤ sizeLine := by
    rw [← Paired.length r1, sizeLine_eq]
    omega
  have hbd := hb ⟨(hp.push (PySem.W.kdv_tup us)).push (PySem.HandSPX.excO C hp.objs.size), g, dr, tk, os⟩ (Value.ref (hp.objs.size + 1) :: us) I2.kIn (by rw [List.append_nil]; exact hl)
  rw [List.append_nil] at hbd
  refine wpAny_call (PySem.HandSPX.call_own PySem.F.excBase_ValueError (fun Y => PySem.HandSPX.refsVE_contains Y bm hbm) (I1.kIn _ _ hC) (PySem.W.looks_findIn I1.kIn iC) (fun self => PySem.W.bind_fn I1.kIn self tI) hus
    (codeAny_mono (F1.go _ X.stack _ _ ⟨Value.ref (hp.objs.size + 1) :: us, []⟩ (Value.ref (hp.objs.size + 1) :: us) _ _ (fun _ _ _ => False) (hr.make C us []) hgd (I2.env0.make C us []) hbd r2 hq) fun r s' hq' => ?_))
  cases r with
  | error er => exact hx pins σ _ _ er s' I2 hq'
  | ok fl =>
    cases fl with
    | ret u =>
      obtain ⟨v, H2, os2, bare2, un2, hok2, rv, ev, d, fs, ea, ed, hd1, q2⟩ := hq'
      subst ev
      obtain ⟨h2, g2, d2, t2, os'⟩ := s'
      exact ⟨rv, mk_end (raises_own T.exC T.tyC) I1 hsz kk un2 hok2 os2 bare2 ea ed hd1 q2⟩
    | next => exact False.elim hq'
    | brk => exact False.elim hq'
    | cont => exact False.elim hq'
end
end Rr
namespace Rr
open PySem PySem.Spec PyProof.Rows L2
/-- what the class's __init__(self, r) promises -/
def spIni (C : Addr) (f : Str) : Sp := fun vs H Q _ => ∃ (a : Addr) (v : V), vs = [.ref a, v] ∧ H a = some (exo a C none) ∧ ∀ dx, H dx = none → dx ≠ a → Q .non (upd (upd H dx (exd dx [(f, v)])) a (exo a C (some dx)))
/-- R.__init__(self, m); self.f = r -/
def tIni (K : PySem.W.Frag) (f m : Str) : TS := tSeq (tDrop (tVeI K (tCons (tVar 0) (tCons (tC (.str m)) tNil)))) (tOst K f (tVar 0) (tVar 1))
theorem ini_run {K : PySem.W.Frag} {C : Addr} {f m : Str} {x y : Str} (T : OexC K C) (hno : PySem.W.findIn K (.ref C) f = some none) {vs : List V} {H : Hp} {Q : VK} {E : XK} (h : spIni C f vs H Q E) :
    tIni K f m ⟨fun _ H' => Q .non H', Q, fun _ _ => False, fun _ _ => False⟩ (start [x, y] vs) H := by
  obtain ⟨a, v, rfl, ha, hq⟩ := h
  refine ⟨.ref a, rfl, a, C, [.str m], rfl, by simp, T, ha, ?_⟩
  refine ⟨v, rfl, .ref a, rfl, a, C, rfl, T, hno, .inl ⟨ha, fun dx h1 h2 => hq dx h1 h2⟩⟩
theorem ini_len {C : Addr} {f : Str} {n : Nat} (hn : n = 2) : ∀ vs H Q E, spIni C f vs H Q E → vs.length = n := by
  rintro vs H Q E ⟨a, v, rfl, _⟩
  exact hn.symm
/-- the way out by an exception of the class x with the field f = r -/
def XtR (fm : Fm) (E : XK) (x f : Str) (r : PyData) (C : Cs) : Prop := ∀ F M dx v, OkC fm F M C → F dx = some (.xd [(f, v)]) → Rp F v r → E (.ref (He.ga fm.K x)) (some dx) (ov M F)
def tRaiseR (C : Addr) (f : Str) (te : TE) (E : XK) : TS := fun _ σ H => tMkO C (spIni C f) [] (tCons te tNil) σ H fun cls d H' => E cls d H'
section
variable {fm : Fm} {G : Gm} {C : Cs} {te : TE} {P Pb Pc : L2.St → Hp → Prop} {R : VK}
theorem at_raiseR {E : XK} {x f : Str} {r : PyData} (h : Ev fm te G C (.d r)) (hE : XtR fm E x f r C) : At fm (tRaiseR (He.ga fm.K x) f te E ⟨P, R, Pb, Pc⟩) G C := fun F M σ ok => h F M σ ok _ fun v F1 e1 ok1 r1 => by
  refine ⟨by simp, fun a ha => ?_⟩
  refine ⟨a, v, rfl, upd_same, fun dx h1 h2 => ⟨rfl, dx, [(f, v)], upd_same, ?_, ?_, ?_⟩⟩
  · rw [upd_ne h2]
    exact upd_same
  · rw [upd_ne h2] at h1
    exact h1
  · have hdx : ov M F1 dx = none := by
      rw [upd_ne h2] at h1
      exact h1
    obtain ⟨ok2, e2, x2⟩ := ok1.c.newF (o := .xd [(f, v)]) hdx
    have eh : upd (del (upd (upd (upd (ov M F1) a (exo a (He.ga fm.K x) none)) dx (exd dx [(f, v)])) a (exo a (He.ga fm.K x) (some dx))) a) dx (.xd [(f, v)]) = upd (ov M F1) dx (.xd [(f, v)]) := by
      funext b
      by_cases e : b = dx
      · rw [e, upd_same, upd_same]
      · rw [upd_ne e, upd_ne e]
        by_cases e3 : b = a
        · rw [e3, del_same]
          exact ha.symm
        · rw [del_ne e3, upd_ne e3, upd_ne e, upd_ne e3]
    rw [eh, ← e2]
    exact hE _ M dx v ok2 upd_same (Rp.ex x2 r1)
end
theorem XtR.fgt {fm : Fm} {E : XK} {x f : Str} {r : PyData} {C : Cs} {j : Nat} (h : XtR fm E x f r (C.eraseIdx j)) : XtR fm E x f r C := fun F M dx v ok hd hv => by
  by_cases hj : j < C.length
  · obtain ⟨F', M', ok', e, ex⟩ := ok.drop (k := j) (p := (C[j]).1) (c := (C[j]).2) (by rw [List.getElem?_eq_getElem hj])
    rw [← e]
    exact h F' M' dx v ok' (ex _ _ hd) (Rp.ex ex hv)
  · rw [List.eraseIdx_of_length_le (by omega)] at h
    exact h F M dx v ok hd hv
theorem XtR.fgts {fm : Fm} {E : XK} {x f : Str} {r : PyData} {C : Cs} : ∀ {C2 : Cs} (_ : XtR fm E x f r C), XtR fm E x f r (C ++ C2)
  | [], h => by rw [List.append_nil]; exact h
  | y :: C2, h => by
    refine XtR.fgt (j := C.length) ?_
    have e : (C ++ y :: C2).eraseIdx C.length = C ++ C2 := by simp [List.eraseIdx_append_of_length_le]
    rw [e]
    exact XtR.fgts h
theorem XtR.all {fm : Fm} {E : XK} {x f : Str} {r : PyData} {C : Cs} (h : XtR fm E x f r []) : XtR fm E x f r C := by
  have z := XtR.fgts (C := []) (C2 := C) h
  rw [List.nil_append] at z
  exact z
section
variable {α : Type}
/-- a def that takes data and may raise the class x with the field f = r, for the r of exc -/
def SpcR (K : PySem.W.Frag) (x f : Str) (args : α → List It) (pre : α → Prop) (post : α → It → Cs → Prop) (exc : α → PyData → Prop) : Sp := fun vs H Q E =>
  ∃ (a : α) (F M M0 : Hp), pre a ∧ H = ov M F ∧ OkC ⟨K, M0, F⟩ F M [] ∧ RpIs K F vs (args a) ∧ (∀ F1, Ex F F1 → ∀ it C', post a it C' → Rt ⟨K, M0, F1⟩ Q it C') ∧ ∀ F1, Ex F F1 → ∀ r, exc a r → XtR ⟨K, M0, F1⟩ E x f r []
def KeepsR (K : PySem.W.Frag) (n : Nat) (x f : Str) (t : XK → TS) (args : α → List It) (pre : α → Prop) (post : α → It → Cs → Prop) (exc : α → PyData → Prop) : Prop :=
  ∀ a M0 F0 Q E, pre a → (∀ F1, Ex F0 F1 → ∀ it C', post a it C' → Rt ⟨K, M0, F1⟩ Q it C') → (∀ F1, Ex F0 F1 → ∀ r, exc a r → XtR ⟨K, M0, F1⟩ E x f r []) → At ⟨K, M0, F0⟩ (t E ⟨fun _ H' => Q .non H', Q, fun _ _ => False, fun _ _ => False⟩) (startG n (args a)) []
variable {args : α → List It} {pre : α → Prop} {post : α → It → Cs → Prop} {exc : α → PyData → Prop} {cx cf : Str}
theorem spcR_len {K : PySem.W.Frag} {n : Nat} (hn : ∀ a, (args a).length = n) : ∀ vs H Q E, SpcR K cx cf args pre post exc vs H Q E → vs.length = n := by
  rintro vs H Q E ⟨a, F, M, M0, hp, rfl, ok, r, _⟩
  rw [r.length, hn]
theorem spcR_start {K : PySem.W.Frag} {N : List Str} {t : XK → TS} {vs : List V} {H : Hp} {Q : VK} {E : XK} (h : SpcR K cx cf args pre post exc vs H Q E) (hN : ∀ a, (args a).length ≤ N.length) (hb : KeepsR K N.length cx cf t args pre post exc) :
    t E ⟨fun _ H' => Q .non H', Q, fun _ _ => False, fun _ _ => False⟩ (start N vs) H := by
  obtain ⟨a, F, M, M0, hp, rfl, ok, r, hq, hx⟩ := h
  refine hb a M0 F Q E hp hq hx F M _ ⟨ok, ?_, fun i it e => ?_⟩
  · have hl := r.length
    unfold startG L2.start
    have := hN a
    simp [hl]
  · unfold startG at e
    unfold L2.start
    by_cases hi : i < (args a).length
    · rw [List.getElem?_append_left (by simpa using hi), List.getElem?_map] at e
      cases q : (args a)[i]? with
      | none => rw [q] at e; cases e
      | some it' =>
        rw [q] at e
        have e' : it' = it := by simpa using e
        subst e'
        obtain ⟨v, hv, rv⟩ := r.get q
        refine ⟨v, ?_, rv⟩
        rw [List.getElem?_append_left (by rw [List.length_map, r.length]; exact hi), List.getElem?_map, hv]
        rfl
    · rw [List.getElem?_append_right (by simpa using Nat.le_of_not_lt hi)] at e
      rw [List.getElem?_replicate] at e
      split at e <;> cases e
variable {P : Program} {w : World} {K : PySem.W.Frag} {mg : Str → Option Value} {base : Heap} {k : Nat} {x qual : Str} {params : Arguments} {body : List Stmt} {scope : Scope} {f : Addr} {fd : FuncData} {N ps : List Str} {t : XK → TS}
theorem ok_keepsR (D : FunD K x qual params body scope [] [] f fd) (S : FnScope N ps scope) (hn : ∀ a, (args a).length = ps.length) (hN : ps.length ≤ N.length) (hb : KeepsR K N.length cx cf t args pre post exc)
    (hd : ∀ (cdv : Value) (A : Around) (outer : List Env) (s : Shared) (H : Hp) (E : XK), Room k (A.deeper (envOfC qual scope s.heap.objs.size f cdv)) → A.guards = some [] →
      Takes (cxOf (L2.CX P w) P w K mg base N qual scope f cdv A outer s H E) (fun cls d _ H => E cls d H) → PSs (cxOf (L2.CX P w) P w K mg base N qual scope f cdv A outer s H E) body (t E)) :
    FnG P w K mg base (L2.CX P w) (k + 1) f fd ps (SpcR K cx cf args pre post exc) :=
  fnG_of D S (spcR_len hn) fun cdv A outer s H vs Q E hr hg h => ⟨t E, hd cdv A outer s H E hr hg (takes_of rfl rfl rfl rfl), spcR_start h (fun a => by rw [hn]; exact hN) hb⟩
end
section
variable {fm : Fm} {G : Gm} {C : Cs} {te : TE} {tr : TA} {its : List It} {k : It → Cs → Prop} {P Pb Pc : L2.St → Hp → Prop} {R : VK} {α : Type}
variable {args : α → List It} {pre : α → Prop} {post : α → It → Cs → Prop} {exc : α → PyData → Prop} {cx cf : Str}
/-- the wish W at an exception of the class x with the field f = r -/
def AtR (fm : Fm) (W : WX) (x f : Str) (r : PyData) (G : Gm) (C : Cs) : Prop := ∀ F M σ dx v, Ok fm F M G σ C → F dx = some (.xd [(f, v)]) → Rp F v r → W (.ref (He.ga fm.K x)) (some dx) σ (ov M F)
theorem w_callSR {Wx : WX} (h : EvA fm tr G C its) (a : α) (e2 : its = args a) (hp : pre a) (hk : ∀ it C', post a it C' → k it (C' ++ C)) (hx : ∀ r, exc a r → AtR fm Wx cx cf r G C) : W fm (tCallS (SpcR fm.K cx cf args pre post exc) (WE Wx) tr) G C k := fun F M σ ok Q q =>
  h F M σ ok _ fun vs F1 e1 ok1 r1 => by
    subst e2
    have s := OkC.split (C1 := []) (C2 := C) ok1.c
    refine ⟨a, F1, M, _, hp, rfl, s, r1, fun F2 ex2 it C' po F3 M3 v ok3 r3 => ?_, fun F2 ex2 r hr F3 M3 dx v ok3 hd hv => ?_⟩
    · have ok4 := OkC.weak (fm := ⟨fm.K, fun a_1 => if a_1 ∈ (([] : Cs)).map (·.1) then none else M a_1, F1⟩) ex2 ok3
      have j := OkC.join (C1 := []) ok1.c ok4
      exact q v it _ F3 M3 (e1.trans (ex2.trans ok3.ex)) (ok1.cells_to (ex2.trans ok3.ex) j) r3 (hk it C' po)
    · have ok4 := OkC.weak (fm := ⟨fm.K, fun a_1 => if a_1 ∈ (([] : Cs)).map (·.1) then none else M a_1, F1⟩) ex2 ok3
      have j := OkC.join (C1 := []) ok1.c ok4
      exact hx r hr F3 M3 σ dx v (ok1.cells_to (ex2.trans ok3.ex) j) hd hv
end
end Rr
namespace Rr
open PySem PySem.Spec PyProof.Rows L2
/-- what the head gives of an exception class with its own __init__(self, r) that keeps r in the field f -/
structure OexF (P : Program) (w : World) (K : PySem.W.Frag) (mg : Str → Option Value) (base : Heap) (j : Nat) (x f : Str) : Prop where
  g : mg x = some (.ref (He.ga K x))
  T : OexC K (He.ga K x)
  ini : ∃ (fI : Addr) (fd : FuncData) (ps : List Str), PySem.W.findIn K (.ref (He.ga K x)) "__init__" = some (some (.ref fI)) ∧ PySem.W.typeIn K (.ref fI) = some (.type "function") ∧ FnG P w K mg base CX0 j fI fd ps (spIni (He.ga K x) f) ∧ Binds K fd ps []
section
variable {X : Cx} {o e : Expr} {te : TE} {f x : Str} {p pos pos2 : Pos} {j k : Nat} {E : XK}
theorem ps_raiseR (hc : X.calm = true) (F : OexF X.prog X.w X.K X.mg X.base j x f) (hr : Room k X.A) (hj : j + 1 ≤ k) (hgd : X.A.guards = some []) (tk : Takes X (fun cls d _ H => E cls d H)) (he : PE X e te) (hg : Gl X x := by rfl) (hdb : (x == ("__debug__" : Str)) = false := by decide)
    (hs : starEach (e :: []) X.env = (false, eval e X.env) :: starEach [] X.env := by rfl) (hpl : (backTo pos (starEach [] X.env)).any (·.1) = false := by rfl) :
    PS X (.Raise (some (.Call (.Name x p) [e] [] pos)) none pos2) (tRaiseR (He.ga X.K x) f te E) := by
  obtain ⟨fI, fd, ps, iC, tI, G, hb⟩ := F.ini
  exact ps_raise hc tk (pmk_oexG (k := j) F.T iC tI G (hr.mono hj) hgd hb (fun _ _ _ _ _ _ _ z => z.elim) hg F.g (pa_cons he pa_nil hs) hdb hs hpl)
end
/-- an exception class's __init__ as its class's promise -/
theorem ok_ini {P : Program} {w : World} {K : PySem.W.Frag} {mg : Str → Option Value} {base : Heap} {k : Nat} {x qual : Str} {params : Arguments} {body : List Stmt} {scope : Scope} {f : Addr} {fd : FuncData} {C : Addr} {fl m a b : Str}
    (D : FunD K x qual params body scope [] [] f fd) (S : FnScope [a, b] [a, b] scope) (T : OexC K C) (hno : PySem.W.findIn K (.ref C) fl = some none)
    (hd : ∀ (cdv : Value) (A : Around) (outer : List Env) (s : Shared) (H : Hp) (E : XK), Room k (A.deeper (envOfC qual scope s.heap.objs.size f cdv)) → A.guards = some [] → PSs (cxOf CX0 P w K mg base [a, b] qual scope f cdv A outer s H E).nox body (tIni K fl m)) :
    FnG P w K mg base CX0 (k + 1) f fd [a, b] (spIni C fl) :=
  fnG_of D S (ini_len rfl) fun cdv A outer s H vs Q E hr hg h => ⟨tIni K fl m, PSs.nox (hd cdv A outer s H E hr hg), ini_run T hno h⟩
/-- the head's test of such a class -/
def oexL (K : PySem.W.Frag) (C : Addr) : Bool := match K.lookup C with
  | some ⟨.type "type", _, .cls cd, sl⟩ => (match cd.mro, sl.toList with
    | .ref C' :: bm, [_, _, _, _, some (.builtin n), _] => C' == C && n == "ValueError.__new__" && !cd.hasDel && cd.hasDict && PySem.HandSPX.refsVE bm
    | _, _ => false)
  | _ => false
theorem oexL_of {K : PySem.W.Frag} {C : Addr} (q : oexL K C = true) : ∃ nm q N bs bm sn sub ab col dd k0 k1 k2 k3 k5, K.lookup C = some (excClassObj nm q C N bs bm true sn sub ab col dd k0 k1 k2 k3 k5 "ValueError.__new__") ∧ PySem.HandSPX.refsVE bm = true := by
  unfold oexL at q
  split at q
  · rename_i dd cd sl ho
    split at q
    · rename_i C' bm k0 k1 k2 k3 n k5 hm hs
      simp only [Bool.and_eq_true, beq_iff_eq, Bool.not_eq_true'] at q
      obtain ⟨⟨⟨⟨rfl, rfl⟩, hdel⟩, hdict⟩, ht⟩ := q
      obtain ⟨nm, bs, mro, ns, qn, hd, sn, sub, ab, col, del⟩ := cd
      dsimp only at hm hdel hdict
      subst hm hdel hdict
      have hsl : sl = #[k0, k1, k2, k3, some (.builtin "ValueError.__new__"), k5] := by
        obtain ⟨l⟩ := sl
        simp only at hs
        rw [hs]
      subst hsl
      exact ⟨nm, qn, ns, bs, bm, sn, sub, ab, col, dd, k0, k1, k2, k3, k5, ho, ht⟩
    · cases q
  · cases q
def oexB (K : PySem.W.Frag) (C : Addr) : Bool := oexL K C && He.eqO (PySem.W.findIn K (.ref C) "__setattr__") (some (some (.builtin "object.__setattr__"))) && decide (PySem.W.subIn K (.ref C) (.type "BaseException") = some true) && decide (PySem.W.typeIn K (.ref C) = some (.type "type")) && PySem.W.keepIn K (.ref C)
theorem oexB_ok {K : PySem.W.Frag} {C : Addr} (h : oexB K C = true) : OexC K C := by
  unfold oexB at h
  simp only [Bool.and_eq_true] at h
  obtain ⟨⟨⟨⟨a, b⟩, c⟩, d⟩, e⟩ := h
  exact ⟨oexL_of a, He.eqO_ok b, of_decide_eq_true c, of_decide_eq_true d, e⟩
/-- except X as n: return n.f, as a reading -/
def tTryR (K : PySem.W.Frag) (tb : WX → TS) (c : Value) (i : Nat) (ts : Addr → Value → Option Addr → TS) (Wout : WX) : TS := fun D σ H => tb (wAs K c i ts Wout D) D σ H
theorem at_tryR {fm : Fm} {G : Gm} {C : Cs} {P Pb Pc : L2.St → Hp → Prop} {R : VK} {tb : WX → TS} {cv : Value} {i : Nat} {ts : Addr → Value → Option Addr → TS} {Wout : WX} (h : At fm (tb (wAs fm.K cv i ts Wout ⟨P, R, Pb, Pc⟩) ⟨P, R, Pb, Pc⟩) G C) : At fm (tTryR fm.K tb cv i ts Wout ⟨P, R, Pb, Pc⟩) G C := h
end Rr
namespace Rr
open PySem PySem.Spec PyProof.Rows L2
/-- R.__init__ is ValueError's -/
def fcB (K : PySem.W.Frag) (C : Addr) : Bool := match PySem.W.findCls K (.ref C) (.type "type") "__init__" with
  | some (.val (.builtin id)) => id == "ValueError.__init__"
  | _ => false
theorem fcB_ok {K : PySem.W.Frag} {C : Addr} (h : fcB K C = true) : PySem.W.findCls K (.ref C) (.type "type") "__init__" = some (.val (.builtin "ValueError.__init__")) := by
  unfold fcB at h
  split at h
  · rename_i id e
    rw [e, eq_of_beq h]
  · cases h
/-- the head's test of the class x, under RingError, with an __init__(self, f) that keeps f -/
def iniB (K : PySem.W.Frag) (x f : Str) : Bool :=
  oexB K (He.ga K x) && xfB K (He.ga K x) && He.eqO (PySem.W.findIn K (.ref (He.ga K x)) f) (some none) && He.eqO (PySem.W.findIn K (.ref (He.ga K x)) "__init__") (some (some (.ref (He.ma K (He.ga K x) "__init__")))) &&
  decide (PySem.W.typeIn K (.ref (He.ma K (He.ga K x) "__init__")) = some (.type "function")) && He.eqO (PySem.W.specialIn K (.ref (He.ga K "RingError")) "__getattribute__") (some (some (.builtin "type.__getattribute__"))) &&
  PySem.W.readsIn K (He.ga K "RingError") (.type "type") && fcB K (He.ga K "RingError") && decide (PySem.W.exmOne K (.ref (He.ga K x)) (.ref (He.ga K x)) = some true)
structure IniF (K : PySem.W.Frag) (x f : Str) : Prop where
  oex : OexC K (He.ga K x)
  xf : XfC K (He.ga K x)
  no : PySem.W.findIn K (.ref (He.ga K x)) f = some none
  iC : PySem.W.findIn K (.ref (He.ga K x)) "__init__" = some (some (.ref (He.ma K (He.ga K x) "__init__")))
  tI : PySem.W.typeIn K (.ref (He.ma K (He.ga K x) "__init__")) = some (.type "function")
  ga : PySem.W.specialIn K (.ref (He.ga K "RingError")) "__getattribute__" = some (some (.builtin "type.__getattribute__"))
  rd : PySem.W.readsIn K (He.ga K "RingError") (.type "type") = true
  vV : PySem.W.findCls K (.ref (He.ga K "RingError")) (.type "type") "__init__" = some (.val (.builtin "ValueError.__init__"))
  me : PySem.W.exmOne K (.ref (He.ga K x)) (.ref (He.ga K x)) = some true
theorem iniB_ok {K : PySem.W.Frag} {x f : Str} (h : iniB K x f = true) : IniF K x f := by
  unfold iniB at h
  simp only [Bool.and_eq_true] at h
  obtain ⟨⟨⟨⟨⟨⟨⟨⟨h1, h2⟩, h3⟩, h4⟩, h5⟩, h6⟩, h7⟩, h8⟩, h9⟩ := h
  exact ⟨oexB_ok h1, xfB_ok h2, He.eqO_ok h3, He.eqO_ok h4, of_decide_eq_true h5, He.eqO_ok h6, h7, fcB_ok h8, of_decide_eq_true h9⟩
/-- the first method of a class in the text -/
def clsMeth (s : Stmt) : Stmt := match s with
  | .ClassDef _ _ _ b _ _ _ _ _ _ _ => b.getD 0 (.Pass ⟨0, 0, 0, 0⟩)
  | _ => .Pass ⟨0, 0, 0, 0⟩
section
variable {P : Program} {w : World} {K : PySem.W.Frag} {mg : Str → Option Value} {base : Heap} {x f m a b qual : Str} {params : Arguments} {body : List Stmt} {scope : Scope} {fd : FuncData}
theorem oexF_of (I : IniF K x f) (g : mg x = some (.ref (He.ga K x))) (D : FunD K "__init__" qual params body scope [] [] (He.ma K (He.ga K x) "__init__") fd) (S : FnScope [a, b] [a, b] scope) (hb : Binds K fd [a, b] [])
    (hd : ∀ (cdv : Value) (A : Around) (outer : List Env) (s : Shared) (H : Hp) (E : XK), Room 0 (A.deeper (envOfC qual scope s.heap.objs.size (He.ma K (He.ga K x) "__init__") cdv)) → A.guards = some [] → PSs (cxOf CX0 P w K mg base [a, b] qual scope (He.ma K (He.ga K x) "__init__") cdv A outer s H E).nox body (tIni K f m)) :
    OexF P w K mg base 1 x f :=
  ⟨g, I.oex, _, fd, [a, b], I.iC, I.tI, ok_ini (k := 0) D S I.oex I.no hd, hb⟩
end
def obS (n : Nat) (fa : List He.Fa) (fn : List He.DefD) (ex : PySem.W.Frag → Bool) (g : Addr → Option Obj) : He.AlD := obsE2 fa fn ex (He.frG g (cStatics :: He.asD g n))
def hookS (n : Nat) (fa : List He.Fa) (fn : List He.DefD) (ex : PySem.W.Frag → Bool) : PySem.W.Hook where
  α := He.AlD
  obs := fun s => obS n fa fn ex s.heap.get?
  val := fun _ => He.valD fn
  says := fun _ h => ∃ K : PySem.W.Frag, K.In h ∧ He.SaysD fa fn K ∧ ex K = true
  of := fun _ _ e => ⟨_, He.frG_in, saysE_of e⟩
  keeps := fun _ _ _ ⟨K, hK, c⟩ k => ⟨K, PySem.W.Frag.In.keeps hK k, c⟩
theorem obsS_eq {n : Nat} {fa : List He.Fa} {fn : List He.DefD} {ex : PySem.W.Frag → Bool} {g : Addr → Option Obj} {s : Shared} (h : ∀ a, g a = s.heap.get? a) : obS n fa fn ex g = (hookS n fa fn ex).obs s := by
  have e : g = s.heap.get? := funext h
  rw [e] <;> rfl
end Rr
namespace Rr
open PySem PySem.Spec PyProof.Rows L2
end Rr
namespace Rr
open PySem PySem.Spec PyProof.Rows L2
end Rr
namespace Rr
open PySem PySem.Spec PyProof.Rows L2
end Rr
namespace Rr
open PySem PySem.Spec PyProof.Rows L2
section
variable {fm : Fm} {G : Gm} {C : Cs} {tr : TA} {k : It → Cs → Prop} {α : Type} {its : List It} {P Pb Pc : L2.St → Hp → Prop} {R : VK}
variable {args : α → List It} {pre : α → Prop} {post : α → It → Cs → Prop} {exc : α → PyData → Prop} {E : XK} {cx cf : Str}
/-- except X as n: any suite that returns -/
theorem atR_as {cv : Value} {i : Nat} {ts : Addr → Value → Option Addr → TS} {Wout : WX} {x f : Str} {r : PyData} (hi : i < G.length) (he : PySem.W.exmOne fm.K (.ref (He.ga fm.K x)) cv = some true)
    (h : ∀ (a dx : Addr) (v : V) (F1 : Hp) (N B T : L2.St → Hp → Prop), F1 dx = some (.xd [(f, v)]) → Rp F1 v r → Ex fm.F0 F1 → At ⟨fm.K, fm.M0, F1⟩ (ts a (.ref (He.ga fm.K x)) (some dx) ⟨N, R, B, T⟩) (G.set i (some (.c a))) C) :
    AtR fm (wAs fm.K cv i ts Wout ⟨P, R, Pb, Pc⟩) x f r G C := fun F M σ dx v ok hd hv => by
  refine ⟨true, he, fun _ a ha => ?_, fun e => by cases e⟩
  refine h a dx v F _ _ _ hd hv ok.c.ex F M _ ?_
  exact (ok.based (Ex.refl F)).set (i := i) (v := .ref a) (it := .c a) rfl
/-- n.f -/
theorem ev_xf {a dx Cc : Addr} {f : Str} {v : V} {r : PyData} {i : Nat} (hF : fm.F0 dx = some (.xd [(f, v)])) (hv : Rp fm.F0 v r) (hg : G[i]? = some (some (.c a))) : Ev fm (tXf a (.ref Cc) (some dx) Cc f (tVar i)) G C (.d r) := fun F M σ ok Q q => by
  obtain ⟨u, h1, h2⟩ := ok.slotI hg
  have e : u = .ref a := h2
  subst e
  exact ⟨.ref a, h1, rfl, rfl, dx, [(f, v)], v, rfl, ok.c.dj.ex (ok.c.ex _ _ hF), by simp [List.lookup], q v F (Ex.refl F) ok (hv.ex ok.c.ex)⟩
end
def tCallKS (m : Nat) (sp : Sp) (gV : List V → List V) (E : L2.St → XK) (tk : TA) : TE := fun σ H Q => tk σ H fun zs H2 => zs.length = m ∧ sp (gV zs) H2 Q (E σ)
section
variable {X : Cx} {CX : CXT} {j k m : Nat} {ps ks : List Str} {sp : Sp} {E : L2.St → XK} {x : Str} {p pos : Pos} {kws : List Keyword} {tk : TA} {g : List Value → List Value} {gV : List V → List V} {f : Addr}
theorem back_ofS {E : XK} {pins : List (Addr × Obj)} {σ : L2.St} {H : Hp} {s : Shared} {Q : VK} {us : List Value} {kw : List (Str × Value)} (hx : PassesAt CX X σ E) (I : Inv X pins σ H s) (h : codeAny (model X.prog X.w) X.A (.call (.ref f) ⟨us, kw⟩) (CR CX X.stack X.prog X.w H s Q E) s) :
    wpAny (model X.prog X.w) X.A (PySem.call (.ref f) us kw) (EP X pins σ Q) X.xe s := wpAny_call (codeAny_mono h fun r s' hq => match r, hq with
  | .error e, hq => hx pins H s e s' I hq
  | .ok (.ret u), hq => I.after hq
  | .ok .next, hq => hq.elim
  | .ok .brk, hq => hq.elim
  | .ok .cont, hq => hq.elim)
theorem pe_fnkS (F : Fnk X.prog X.w X.K X.mg X.base CX j x ps sp ks g gV) (hr : Room k X.A) (hj : j ≤ k) (hgd : X.A.guards = some []) (hx : ∀ σ, PassesAt CX X σ (E σ)) (hkw : PK X kws tk) (hm : ks.length = m := by rfl) (hg : Gl X x := by rfl)
    (hall : (backToKw pos (keywordEach kws X.env)).all (·.1.isSome) = true := by rfl) (hks : (backToKw pos (keywordEach kws X.env)).filterMap (·.1) = ks := by rfl) (hdb : (x == ("__debug__" : Str)) = false := by decide)
    (hpl : ((backTo pos (starEach [] X.env)).any (·.1) || (backToKw pos (keywordEach kws X.env)).any (·.1.isNone)) = false := by rfl) : PE X (.Call (.Name x p) [] kws pos) (tCallKS m sp gV E tk) := by
  subst hm
  obtain ⟨f, fd, G, hm, hk, hb, hrel⟩ := F.ex
  refine ⟨fun pins s σ H Q I h => wpAny_Call_Name_kw (ld_glob I hg hm ?_ hdb)⟩
  refine PySem.W.callWith_KW0 (h₀ := X.base) I.ok.mod.kin hk hall ?_ hpl
  refine thn (hkw.run pos pins s σ H _ I h) fun ws s2 ⟨zs, H2, I2, rz, l, q2⟩ => ⟨I2.kIn, ?_⟩
  rw [hks]
  exact back_ofS (hx σ) I2 ((G.up hj).go X.A X.stack s2 H2 ⟨[] ++ [], ks.zip ws⟩ (g ws) (gV zs) Q (E σ) hr hgd I2.env0 (hb s2 ws I2.kIn (rz.length.symm.trans l)) (hrel rz) q2)
end
section
variable {fm : Fm} {G : Gm} {C : Cs} {tr : TA} {its : List It} {k : It → Cs → Prop} {α : Type}
variable {args : α → List It} {pre : α → Prop} {post : α → It → Cs → Prop} {exc : α → PyData → Prop} {cx cf : Str}
theorem w_callKSR {Wx : WX} {l : List Nat} {m : Nat} (h : EvA fm tr G C its) (a : α) (e2 : Rr.perm l its = args a) (hm : its.length = m) (hp : pre a) (hk : ∀ it C', post a it C' → k it (C' ++ C)) (hx : ∀ r, exc a r → AtR fm Wx cx cf r G C) : W fm (tCallKS m (SpcR fm.K cx cf args pre post exc) (Rr.perm l) (WE Wx) tr) G C k := fun F M σ ok Q q =>
  h F M σ ok _ fun vs F1 e1 ok1 r1 => by
    refine ⟨by rw [r1.length, hm], ?_⟩
    have r2 := r1.perm l
    rw [e2] at r2
    have s := OkC.split (C1 := []) (C2 := C) ok1.c
    refine ⟨a, F1, M, _, hp, rfl, s, r2, fun F2 ex2 it C' po F3 M3 v ok3 r3 => ?_, fun F2 ex2 r hr F3 M3 dx v ok3 hd hv => ?_⟩
    · have ok4 := OkC.weak (fm := ⟨fm.K, fun a_1 => if a_1 ∈ (([] : Cs)).map (·.1) then none else M a_1, F1⟩) ex2 ok3
      have j := OkC.join (C1 := []) ok1.c ok4
      exact q v it _ F3 M3 (e1.trans (ex2.trans ok3.ex)) (ok1.cells_to (ex2.trans ok3.ex) j) r3 (hk it C' po)
    · have ok4 := OkC.weak (fm := ⟨fm.K, fun a_1 => if a_1 ∈ (([] : Cs)).map (·.1) then none else M a_1, F1⟩) ex2 ok3
      have j := OkC.join (C1 := []) ok1.c ok4
      exact hx r hr F3 M3 σ dx v (ok1.cells_to (ex2.trans ok3.ex) j) hd hv
end
end Rr
namespace Rr
open PySem PySem.Spec PyProof.Rows L2
end Rr
namespace Rr
open PySem PySem.Spec PyProof.Rows L2
end Rr
namespace Lib
open PySem L2 Rr
local macro_rules | `(tactic| walk_at "call") => `(tactic| fail "no call")
local macro_rules | `(tactic| walk_at "calll") => `(tactic| fail "no call")
local macro_rules | `(tactic| walk_at "side") => `(tactic| first | rfl | (with_reducible assumption) | omega | (focus (simp only [List.length_map, List.length_range, List.length_cons, List.length_nil, List.length_append, List.length_replicate, Int.toNat_natCast, rgI]; omega)) | (focus (simp; done)) | (focus (simp; omega)) | decide)
local macro_rules | `(tactic| walk_at "rd") => `(tactic| first | exact RdQ.d _ | exact RdD.d _ | exact RdT.d _ | exact AsD.d _ | exact RdQ.c (k := 0) rfl | exact RdQ.c (k := 1) rfl | exact RdQ.c (k := 2) rfl | exact RdQ.c (k := 3) rfl | exact RdD.c (k := 0) rfl | exact RdD.c (k := 1) rfl | exact RdD.c (k := 2) rfl | exact RdD.c (k := 3) rfl | exact AsD.c (k := 0) rfl | exact AsD.c (k := 1) rfl | exact AsD.c (k := 2) rfl | exact AsD.c (k := 3) rfl | exact RdQ.s _)
local macro_rules | `(tactic| walk_at "sz") => `(tactic| first | (with_reducible assumption) | (apply sz_getD; with_reducible assumption) | (apply sz_mem; (with_reducible assumption); (with_reducible assumption)) | (apply sz_of <;> omega))
local macro_rules | `(tactic| walk_at "mul") => `(tactic| first | (with_reducible assumption) | (apply cmul_sz <;> walk_at "sz"))
local macro_rules | `(tactic| walk_at "pow") => `(tactic| first | (with_reducible assumption) | exact cpow_lt (a := 4) (by decide) (by decide) (by decide) (by decide) | exact cpow_lt (a := 300) (by decide +kernel) (by decide) (by decide) (by decide) | exact cpow_lt (a := 1000) (by omega) (by decide) (by omega) (by omega))
local macro_rules | `(tactic| walk_at "rk") => `(tactic| first
  | (with_reducible exact r_add)
  | (with_reducible exact r_sub)
  | (with_reducible exact r_lt)
  | (with_reducible exact r_le)
  | (with_reducible exact r_gt)
  | (with_reducible exact r_ge)
  | (with_reducible exact r_eqI)
  | (with_reducible exact r_neI)
  | (with_reducible exact r_is)
  | (with_reducible exact r_isNot)
  | (with_reducible exact r_isB)
  | (with_reducible exact r_isNotB)
  | ((with_reducible apply r_mul); walk_at "mul")
  | ((with_reducible apply r_div); (first | (with_reducible assumption) | (apply cdiv_sm <;> omega)))
  | ((with_reducible apply r_mod); (first | (with_reducible assumption) | omega))
  | ((with_reducible apply r_pow); walk_at "pow")
  | ((with_reducible apply r_in); walk_at "rd")
  | ((with_reducible apply r_notIn); walk_at "rd")
  | ((with_reducible apply r_ixI); walk_at "rd"; walk_at "side"; walk_at "side")
  | ((with_reducible apply r_ixB); walk_at "rd"; walk_at "side"; walk_at "side")
  | ((with_reducible apply r_ix); walk_at "rd"; walk_at "side"; walk_at "side"; rfl)
  | ((with_reducible apply r_ixD); walk_at "rd"; walk_at "side"; walk_at "side")
  | ((with_reducible apply r_ixTD); walk_at "rd"; walk_at "side"; walk_at "side")
  | ((with_reducible apply r_eqLI); walk_at "rd"; walk_at "rd")
  | ((with_reducible apply r_neLI); walk_at "rd"; walk_at "rd")
  | ((with_reducible apply r_eqD); walk_at "rd"; walk_at "rd"; (first | (with_reducible assumption) | rfl); (first | (with_reducible assumption) | rfl))
  | ((with_reducible apply r_neD); walk_at "rd"; walk_at "rd"; (first | (with_reducible assumption) | rfl); (first | (with_reducible assumption) | rfl))
  | (apply R2k.ofL; walk_at "rl"))
local macro_rules | `(tactic| walk_at "rl") => `(tactic| first
  | ((with_reducible apply r_cat); walk_at "rd"; walk_at "rd"; walk_at "side")
  | ((with_reducible apply r_rep); walk_at "rd"; walk_at "side"; walk_at "side"; walk_at "side"))
local macro_rules | `(tactic| walk_at "r1") => `(tactic| first
  | ((with_reducible apply r_lenL); walk_at "rd")
  | ((with_reducible apply r_lenT); walk_at "rd")
  | (with_reducible exact r_max2)
  | (with_reducible exact r_min2)
  | ((with_reducible apply r_max); walk_at "rd"; walk_at "side")
  | ((with_reducible apply r_min); walk_at "rd"; walk_at "side")
  | (with_reducible exact r_abs)
  | (with_reducible exact r_intB)
  | ((with_reducible apply r_sum); walk_at "rd")
  | ((with_reducible apply r_all); walk_at "rd")
  | ((with_reducible apply r_any); walk_at "rd")
  | ((with_reducible apply r_tuple); walk_at "rd")
  | (apply R1k.ofL; walk_at "r1l"))
local macro_rules | `(tactic| walk_at "r1l") => `(tactic| first
  | ((with_reducible apply r_sorted); walk_at "rd")
  | ((with_reducible apply r_list); walk_at "rd")
  | ((with_reducible apply r_listT); walk_at "rd"))
local macro_rules | `(tactic| walk_at "ev") => `(tactic| ((fail_if_success (with_reducible apply ev_guard)); first
  | (with_reducible exact ev_int)
  | ((with_reducible apply ev_var); rfl)
  | (with_reducible exact ev_bl)
  | (with_reducible exact ev_str)
  | (with_reducible exact ev_non)
  | ((with_reducible apply ev_isi); walk_at "ev"; walk_at "rd"; (focus (simp; done)))
  | ((with_reducible apply ev_isi2); walk_at "ev"; walk_at "rd"; (focus (simp; done)); (focus (simp; done)))
  | ((with_reducible apply ev_op); walk_at "ev"; walk_at "ev"; walk_at "rk")
  | ((with_reducible apply ev_cb); walk_at "ea"; walk_at "r1")
  | ((with_reducible apply ev_neg); walk_at "ev")
  | ((with_reducible apply ev_count); walk_at "ev"; walk_at "rd"; walk_at "ev")
  | ((with_reducible apply ev_notV); walk_at "ev")
  | ((with_reducible apply ev_andV); walk_at "ev"; (intro _; walk_at "ev"))
  | ((with_reducible apply ev_orV); walk_at "ev"; (intro _; walk_at "ev"))
  | ((with_reducible apply ev_chain); walk_at "ev"; walk_at "ev"; walk_at "rk"; (intro _; walk_at "ev"); (intro _; walk_at "rk"))
  | ((with_reducible apply ev_ifI); walk_at "et"; (intro _; walk_at "ev"); (intro _; walk_at "ev"))
  | ((with_reducible apply ev_tu); walk_at "ed"; walk_at "side")
  | walk_at "call"
  | (apply Ev.ofL; walk_at "el")))
local macro_rules | `(tactic| walk_at "ea") => `(tactic| first
  | (with_reducible exact ea_nil)
  | ((with_reducible apply ea_cons); walk_at "ev"; walk_at "ea"))
local macro_rules | `(tactic| walk_at "ed") => `(tactic| first
  | (exact ed_nil)
  | (apply ed_cons; walk_at "ev"; walk_at "ed"))
local macro_rules | `(tactic| walk_at "et") => `(tactic| ((fail_if_success (with_reducible apply et_guard)); first
  | ((with_reducible apply et_test); walk_at "ev")
  | ((with_reducible apply et_B); walk_at "ev")
  | ((with_reducible apply et_and); walk_at "et"; (intro _; walk_at "et"))
  | ((with_reducible apply et_or); walk_at "et"; (intro _; walk_at "et"))
  | ((with_reducible apply et_not); walk_at "et")
  | (with_reducible exact et_yes)))
local macro_rules | `(tactic| walk_at "el") => `(tactic| ((fail_if_success (with_reducible apply el_guard)); first
  | ((with_reducible apply el_ls); walk_at "ed"; walk_at "side")
  | ((with_reducible apply el_op); walk_at "ev"; walk_at "ev"; walk_at "rl")
  | ((with_reducible apply el_cb); walk_at "ea"; walk_at "r1l")
  | ((with_reducible apply el_lcI); walk_at "ei"; walk_at "side"; (intro _; walk_at "tgw"); (intro _ _ _ hm; (try simp only [List.mem_range] at hm); walk_at "ev"))
  | ((with_reducible apply el_lcB); walk_at "ei"; walk_at "side"; (intro _; walk_at "tgw"); (intro _ _ _ hm; (try simp only [List.mem_range] at hm); walk_at "ev"))
  | ((with_reducible apply el_lc0); walk_at "ei"; walk_at "side"; (intro _; walk_at "tgw"); (intro _ _ _ hm; (try simp only [List.mem_range] at hm); walk_at "ev"))
  | ((with_reducible apply el_lcIf); walk_at "ei"; walk_at "side"; (intro _; walk_at "tgw"); (intro _ _ _ hm; (try simp only [List.mem_range] at hm); walk_at "et"); (intro _ _ _ hm _; (try simp only [List.mem_range] at hm); walk_at "ev"))
  | ((with_reducible apply el_lc); walk_at "ei"; walk_at "side"; (intro _; walk_at "tgw"); (intro _ _ _ hm; (try simp only [List.mem_range] at hm); walk_at "et"); (intro _ _ _ hm _; (try simp only [List.mem_range] at hm); walk_at "ev"))
  | ((with_reducible apply el_slice); walk_at "ev"; walk_at "eo"; walk_at "eo"; walk_at "rd")
  | ((with_reducible apply el_rev); walk_at "ev"; walk_at "rd")
  | ((with_reducible apply el_listRg); walk_at "eg"; omega; omega)
  | walk_at "calll"))
local macro_rules | `(tactic| walk_at "eo") => `(tactic| first | (with_reducible exact eo_none) | ((with_reducible apply eo_some); walk_at "ev"))
local macro_rules | `(tactic| walk_at "eg") => `(tactic| first | ((with_reducible apply eg_1); walk_at "ev") | ((with_reducible apply eg_2); walk_at "ev"; walk_at "ev"))
local macro_rules | `(tactic| walk_at "tgw") => `(tactic| first | exact tgw_name (by simp) | exact tgw_two (by simp) (by simp) | exact tgw_three (by simp) (by simp) (by simp))
local macro_rules | `(tactic| walk_at "tg") => `(tactic| first | exact tg_name | exact tg_two | exact tg_three)
local macro_rules | `(tactic| walk_at "ei") => `(tactic| first
  | ((with_reducible apply ei_range1); walk_at "ea"; omega; omega)
  | ((with_reducible apply ei_range2); walk_at "ea"; omega; omega)
  | ((with_reducible apply ei_rangeD); walk_at "ea"; omega; omega)
  | ((with_reducible apply ei_list); walk_at "ev")
  | ((with_reducible apply ei_enum); walk_at "ea")
  | ((with_reducible apply ei_zip); walk_at "ea"))
def t_is_integer (K : PySem.W.Frag) : TS :=
  (tSeq (tIfS (tOr (tNot (tB (tCB (xIsi K) (tCons (tVar 0) (tCons (tC (.ty "int")) tNil))))) (tOr (tB (tCB (xIsi K) (tCons (tVar 0) (tCons (tC (.ty "bool")) tNil)))) (tTest (tOp xLt (tVar 0) (tVar 1))))) (tRet (tC (.bl false))) tNext)
    (tRet (tOrV (tOp xIs (tVar 2) (tC .non)) (tOp xLe (tVar 0) (tVar 2)))))
def t_need_ring (K : PySem.W.Frag) (s_is_integer : Sp) : TS :=
  (tIfS (tNot (tB (tCall s_is_integer [] E0 (tCons (tVar 0) (tCons (tC (.int 2)) (tCons (tC (.int 60)) tNil)))))) tNever tNext)
/-- an integer within limits -/
def isInt (d : PyData) (lo : Int) (hi : Option Int) : Bool := match d with
  | .int i => decide (lo ≤ i) && (match hi with
    | none => true
    | some h => decide (i ≤ h))
  | _ => false
def optI : Option Int → PyData
  | none => .none
  | some i => .int i
def c_is_integer : Ct := { args := fun a : PyData × Int × Option Int => [.d a.1, .d (.int a.2.1), .d (optI a.2.2)], post := fun a it C => it = .d (.bool (isInt a.1 a.2.1 a.2.2)) ∧ C = [] }
def sp_is_integer (K : PySem.W.Frag) : Sp := c_is_integer.sp K
theorem p_is_integer {K : PySem.W.Frag} : c_is_integer.keeps K 3 (t_is_integer K) := by
  rintro ⟨d, lo, hi⟩ M0 F0 Q _ hQ
  show At ⟨K, M0, F0⟩ _ [some (.d d), some (.d (.int lo)), some (.d (optI hi))] []
  have h0 := hQ F0 (Ex.refl F0)
  unfold t_is_integer
  refine at_sq ?_
  by_cases hd : ∃ i, d = .int i
  · obtain ⟨i, rfl⟩ := hd
    refine at_if (b := decide (i < lo)) (EvT.is (by walk_at "et") ?_) (fun e => ?_) (fun e => ?_)
    · simp [isD, tyD]
    · refine at_ret (by walk_at "ev") (h0 _ _ ⟨?_, rfl⟩)
      have : ¬ lo ≤ i := by simpa using e
      simp [isInt, this]
    · refine at_nx ?_
      have hle : lo ≤ i := by simpa using e
      cases hi with
      | none =>
        refine at_rt (it := .d (.bool true)) ?_ ?_
        rotate_left
        · exact h0 _ _ ⟨by simp [isInt, hle], rfl⟩
        apply ev_orV (a := true) (b := true)
        · apply Ev.is
          walk_at "ev"
          rfl
        · intro e
          cases e
      | some m =>
        refine at_rt (it := .d (.bool (false || decide (i ≤ m)))) ?_ ?_
        rotate_left
        · exact h0 _ _ ⟨by simp [isInt, hle], rfl⟩
        apply ev_orV (a := false)
        · apply Ev.is
          walk_at "ev"
          rfl
        · intro _
          exact ev_op (ev_var rfl) (ev_var (it := .d (.int m)) rfl) r_le
  · have hd' : isInt d lo hi = false := by
      cases d <;> first | rfl | exact absurd ⟨_, rfl⟩ hd
    refine at_if (b := true) ?_ (fun _ => ?_) (fun e => by cases e)
    · by_cases hb : ∃ b, d = .bool b
      · obtain ⟨b, rfl⟩ := hb
        refine et_or (a := false) ?_ (fun _ => et_or (a := true) (b := true) ?_ (fun e => by cases e))
        · apply EvT.is
          walk_at "et"
          rfl
        · apply EvT.is
          walk_at "et"
          rfl
      · have hi' : isD d "int" = false := by
          cases d <;> first | rfl | exact absurd ⟨_, rfl⟩ hd | exact absurd ⟨_, rfl⟩ hb
        refine et_or (a := true) (b := true) ?_ (fun e => by cases e)
        apply EvT.is
        walk_at "et"
        rw [hi']
        rfl
    · refine at_ret ev_bl (h0 _ _ ⟨?_, rfl⟩)
      rw [hd']
section
variable {fm : Fm} {G : Gm} {C : Cs} {tr : TA}
theorem cl_is_integer {d : PyData} {lo hi : Int} (h : EvA fm tr G C [.d d, .d (.int lo), .d (.int hi)]) : Ev fm (tCall (sp_is_integer fm.K) [] E0 tr) G C (.d (.bool (isInt d lo (some hi)))) :=
  ev_call (d, lo, some hi) h rfl rfl trivial fun _ _ h => h
theorem cl_is_integer0 {d : PyData} {lo : Int} (h : EvA fm tr G C [.d d, .d (.int lo), .d .none]) : Ev fm (tCall (sp_is_integer fm.K) [] E0 tr) G C (.d (.bool (isInt d lo none))) :=
  ev_call (d, lo, none) h rfl rfl trivial fun _ _ h => h
end
local macro_rules | `(tactic| walk_at "call") => `(tactic| first
  | ((with_reducible apply cl_is_integer); walk_at "ea")
  | ((with_reducible apply cl_is_integer0); walk_at "ea"))
def c_need_ring : Ct := { args := fun n : Int => [.d (.int n)], pre := fun n => 2 ≤ n ∧ n ≤ 60, post := fun a it C => it = .d .none ∧ C = [] }
def sp_need_ring (K : PySem.W.Frag) : Sp := c_need_ring.sp K
theorem p_need_ring {K : PySem.W.Frag} : c_need_ring.keeps K 1 (t_need_ring K (sp_is_integer K)) := by
  rintro n M0 F0 Q ⟨h1, h2⟩ hQ
  show At ⟨K, M0, F0⟩ _ [some (.d (.int n))] []
  unfold t_need_ring
  refine at_if (b := false) ?_ (fun e => by cases e) (fun _ => ?_)
  · apply EvT.is
    walk_at "et"
    simp [isInt, h1, h2]
  · exact at_nx (at_end (hQ F0 (Ex.refl F0) _ _ ⟨rfl, rfl⟩))
theorem cl_need_ring {fm : Fm} {G : Gm} {C : Cs} {tr : TA} {n : Int} (h : EvA fm tr G C [.d (.int n)]) (h1 : 2 ≤ n ∧ n ≤ 60) : Ev fm (tCall (sp_need_ring fm.K) [] E0 tr) G C (.d .none) :=
  ev_call n h rfl rfl h1 fun _ _ h => h
end Lib
namespace LibUrn
open PySem L2 Rr Lib
local macro_rules | `(tactic| walk_at "call") => `(tactic| fail "no call")
local macro_rules | `(tactic| walk_at "calll") => `(tactic| fail "no call")
local macro_rules | `(tactic| walk_at "side") => `(tactic| first | rfl | (with_reducible assumption) | omega | (focus (simp only [List.length_map, List.length_range, List.length_cons, List.length_nil, List.length_append, List.length_replicate, Int.toNat_natCast, rgI]; omega)) | (focus (simp; done)) | (focus (simp; omega)) | decide)
local macro_rules | `(tactic| walk_at "rd") => `(tactic| first | exact RdQ.d _ | exact RdD.d _ | exact RdT.d _ | exact AsD.d _ | exact RdQ.c (k := 0) rfl | exact RdQ.c (k := 1) rfl | exact RdQ.c (k := 2) rfl | exact RdQ.c (k := 3) rfl | exact RdD.c (k := 0) rfl | exact RdD.c (k := 1) rfl | exact RdD.c (k := 2) rfl | exact RdD.c (k := 3) rfl | exact AsD.c (k := 0) rfl | exact AsD.c (k := 1) rfl | exact AsD.c (k := 2) rfl | exact AsD.c (k := 3) rfl | exact RdQ.s _)
local macro_rules | `(tactic| walk_at "sz") => `(tactic| first | (with_reducible assumption) | (apply sz_getD; with_reducible assumption) | (apply sz_mem; (with_reducible assumption); (with_reducible assumption)) | (apply sz_of <;> omega))
local macro_rules | `(tactic| walk_at "mul") => `(tactic| first | (with_reducible assumption) | (apply cmul_sz <;> walk_at "sz"))
local macro_rules | `(tactic| walk_at "pow") => `(tactic| first | (with_reducible assumption) | exact cpow_lt (a := 4) (by decide) (by decide) (by decide) (by decide) | exact cpow_lt (a := 300) (by decide +kernel) (by decide) (by decide) (by decide) | exact cpow_lt (a := 1000) (by omega) (by decide) (by omega) (by omega))
local macro_rules | `(tactic| walk_at "rk") => `(tactic| first
  | (with_reducible exact r_add)
  | (with_reducible exact r_sub)
  | (with_reducible exact r_lt)
  | (with_reducible exact r_le)
  | (with_reducible exact r_gt)
  | (with_reducible exact r_ge)
  | (with_reducible exact r_eqI)
  | (with_reducible exact r_neI)
  | (with_reducible exact r_is)
  | (with_reducible exact r_isNot)
  | (with_reducible exact r_isB)
  | (with_reducible exact r_isNotB)
  | ((with_reducible apply r_mul); walk_at "mul")
  | ((with_reducible apply r_div); (first | (with_reducible assumption) | (apply cdiv_sm <;> omega)))
  | ((with_reducible apply r_mod); (first | (with_reducible assumption) | omega))
  | ((with_reducible apply r_pow); walk_at "pow")
  | ((with_reducible apply r_in); walk_at "rd")
  | ((with_reducible apply r_notIn); walk_at "rd")
  | ((with_reducible apply r_ixI); walk_at "rd"; walk_at "side"; walk_at "side")
  | ((with_reducible apply r_ixB); walk_at "rd"; walk_at "side"; walk_at "side")
  | ((with_reducible apply r_ix); walk_at "rd"; walk_at "side"; walk_at "side"; rfl)
  | ((with_reducible apply r_ixD); walk_at "rd"; walk_at "side"; walk_at "side")
  | ((with_reducible apply r_ixTD); walk_at "rd"; walk_at "side"; walk_at "side")
  | ((with_reducible apply r_eqLI); walk_at "rd"; walk_at "rd")
  | ((with_reducible apply r_neLI); walk_at "rd"; walk_at "rd")
  | ((with_reducible apply r_eqD); walk_at "rd"; walk_at "rd"; (first | (with_reducible assumption) | rfl); (first | (with_reducible assumption) | rfl))
  | ((with_reducible apply r_neD); walk_at "rd"; walk_at "rd"; (first | (with_reducible assumption) | rfl); (first | (with_reducible assumption) | rfl))
  | (apply R2k.ofL; walk_at "rl"))
local macro_rules | `(tactic| walk_at "rl") => `(tactic| first
  | ((with_reducible apply r_cat); walk_at "rd"; walk_at "rd"; walk_at "side")
  | ((with_reducible apply r_rep); walk_at "rd"; walk_at "side"; walk_at "side"; walk_at "side"))
local macro_rules | `(tactic| walk_at "r1") => `(tactic| first
  | ((with_reducible apply r_lenL); walk_at "rd")
  | ((with_reducible apply r_lenT); walk_at "rd")
  | (with_reducible exact r_max2)
  | (with_reducible exact r_min2)
  | ((with_reducible apply r_max); walk_at "rd"; walk_at "side")
  | ((with_reducible apply r_min); walk_at "rd"; walk_at "side")
  | (with_reducible exact r_abs)
  | (with_reducible exact r_intB)
  | ((with_reducible apply r_sum); walk_at "rd")
  | ((with_reducible apply r_all); walk_at "rd")
  | ((with_reducible apply r_any); walk_at "rd")
  | ((with_reducible apply r_tuple); walk_at "rd")
  | (apply R1k.ofL; walk_at "r1l"))
local macro_rules | `(tactic| walk_at "r1l") => `(tactic| first
  | ((with_reducible apply r_sorted); walk_at "rd")
  | ((with_reducible apply r_list); walk_at "rd")
  | ((with_reducible apply r_listT); walk_at "rd"))
local macro_rules | `(tactic| walk_at "ev") => `(tactic| ((fail_if_success (with_reducible apply ev_guard)); first
  | (with_reducible exact ev_int)
  | ((with_reducible apply ev_var); rfl)
  | (with_reducible exact ev_bl)
  | (with_reducible exact ev_str)
  | (with_reducible exact ev_non)
  | ((with_reducible apply ev_isi); walk_at "ev"; walk_at "rd"; (focus (simp; done)))
  | ((with_reducible apply ev_isi2); walk_at "ev"; walk_at "rd"; (focus (simp; done)); (focus (simp; done)))
  | ((with_reducible apply ev_op); walk_at "ev"; walk_at "ev"; walk_at "rk")
  | ((with_reducible apply ev_cb); walk_at "ea"; walk_at "r1")
  | ((with_reducible apply ev_neg); walk_at "ev")
  | ((with_reducible apply ev_count); walk_at "ev"; walk_at "rd"; walk_at "ev")
  | ((with_reducible apply ev_notV); walk_at "ev")
  | ((with_reducible apply ev_andV); walk_at "ev"; (intro _; walk_at "ev"))
  | ((with_reducible apply ev_orV); walk_at "ev"; (intro _; walk_at "ev"))
  | ((with_reducible apply ev_chain); walk_at "ev"; walk_at "ev"; walk_at "rk"; (intro _; walk_at "ev"); (intro _; walk_at "rk"))
  | ((with_reducible apply ev_ifI); walk_at "et"; (intro _; walk_at "ev"); (intro _; walk_at "ev"))
  | ((with_reducible apply ev_tu); walk_at "ed"; walk_at "side")
  | walk_at "call"
  | (apply Ev.ofL; walk_at "el")))
local macro_rules | `(tactic| walk_at "ea") => `(tactic| first
  | (with_reducible exact ea_nil)
  | ((with_reducible apply ea_cons); walk_at "ev"; walk_at "ea"))
local macro_rules | `(tactic| walk_at "ed") => `(tactic| first
  | (exact ed_nil)
  | (apply ed_cons; walk_at "ev"; walk_at "ed"))
local macro_rules | `(tactic| walk_at "et") => `(tactic| ((fail_if_success (with_reducible apply et_guard)); first
  | ((with_reducible apply et_test); walk_at "ev")
  | ((with_reducible apply et_B); walk_at "ev")
  | ((with_reducible apply et_and); walk_at "et"; (intro _; walk_at "et"))
  | ((with_reducible apply et_or); walk_at "et"; (intro _; walk_at "et"))
  | ((with_reducible apply et_not); walk_at "et")
  | (with_reducible exact et_yes)))
local macro_rules | `(tactic| walk_at "el") => `(tactic| ((fail_if_success (with_reducible apply el_guard)); first
  | ((with_reducible apply el_ls); walk_at "ed"; walk_at "side")
  | ((with_reducible apply el_op); walk_at "ev"; walk_at "ev"; walk_at "rl")
  | ((with_reducible apply el_cb); walk_at "ea"; walk_at "r1l")
  | ((with_reducible apply el_lcI); walk_at "ei"; walk_at "side"; (intro _; walk_at "tgw"); (intro _ _ _ hm; (try simp only [List.mem_range] at hm); walk_at "ev"))
  | ((with_reducible apply el_lcB); walk_at "ei"; walk_at "side"; (intro _; walk_at "tgw"); (intro _ _ _ hm; (try simp only [List.mem_range] at hm); walk_at "ev"))
  | ((with_reducible apply el_lc0); walk_at "ei"; walk_at "side"; (intro _; walk_at "tgw"); (intro _ _ _ hm; (try simp only [List.mem_range] at hm); walk_at "ev"))
  | ((with_reducible apply el_lcIf); walk_at "ei"; walk_at "side"; (intro _; walk_at "tgw"); (intro _ _ _ hm; (try simp only [List.mem_range] at hm); walk_at "et"); (intro _ _ _ hm _; (try simp only [List.mem_range] at hm); walk_at "ev"))
  | ((with_reducible apply el_lc); walk_at "ei"; walk_at "side"; (intro _; walk_at "tgw"); (intro _ _ _ hm; (try simp only [List.mem_range] at hm); walk_at "et"); (intro _ _ _ hm _; (try simp only [List.mem_range] at hm); walk_at "ev"))
  | ((with_reducible apply el_slice); walk_at "ev"; walk_at "eo"; walk_at "eo"; walk_at "rd")
  | ((with_reducible apply el_rev); walk_at "ev"; walk_at "rd")
  | ((with_reducible apply el_listRg); walk_at "eg"; omega; omega)
  | walk_at "calll"))
local macro_rules | `(tactic| walk_at "eo") => `(tactic| first | (with_reducible exact eo_none) | ((with_reducible apply eo_some); walk_at "ev"))
local macro_rules | `(tactic| walk_at "eg") => `(tactic| first | ((with_reducible apply eg_1); walk_at "ev") | ((with_reducible apply eg_2); walk_at "ev"; walk_at "ev"))
local macro_rules | `(tactic| walk_at "tgw") => `(tactic| first | exact tgw_name (by simp) | exact tgw_two (by simp) (by simp) | exact tgw_three (by simp) (by simp) (by simp))
local macro_rules | `(tactic| walk_at "tg") => `(tactic| first | exact tg_name | exact tg_two | exact tg_three)
local macro_rules | `(tactic| walk_at "ei") => `(tactic| first
  | ((with_reducible apply ei_range1); walk_at "ea"; omega; omega)
  | ((with_reducible apply ei_range2); walk_at "ea"; omega; omega)
  | ((with_reducible apply ei_rangeD); walk_at "ea"; omega; omega)
  | ((with_reducible apply ei_list); walk_at "ev")
  | ((with_reducible apply ei_enum); walk_at "ea")
  | ((with_reducible apply ei_zip); walk_at "ea"))
structure UrnS where
  p : Addr
  a : Int
  b : Int
  c : Int
  w : Int
/-- data of integers in lists, to a depth -/
def deep : Nat → PyData → Bool
  | 0, _ => false
  | _ + 1, .int _ => true
  | n + 1, .list ds => ds.all (deep n) && decide (ds.length ≤ 1000000)
  | n + 1, .tuple ds => ds.all (deep n) && decide (ds.length ≤ 1000000)
  | _, _ => false
end LibUrn
namespace Lib2
open PySem L2 Rr Lib
local macro_rules | `(tactic| walk_at "call") => `(tactic| first
  | ((with_reducible apply cl_need_ring); walk_at "ea"; walk_at "side")
  | ((with_reducible apply cl_is_integer); walk_at "ea"))
local macro_rules | `(tactic| walk_at "calll") => `(tactic| fail "no call")
local macro_rules | `(tactic| walk_at "side") => `(tactic| first | rfl | (with_reducible assumption) | omega | (focus (simp only [List.length_map, List.length_range, List.length_cons, List.length_nil, List.length_append, List.length_replicate, Int.toNat_natCast, rgI]; omega)) | (focus (simp; done)) | (focus (simp; omega)) | decide)
local macro_rules | `(tactic| walk_at "rd") => `(tactic| first | exact RdQ.d _ | exact RdD.d _ | exact RdT.d _ | exact AsD.d _ | exact RdQ.c (k := 0) rfl | exact RdQ.c (k := 1) rfl | exact RdQ.c (k := 2) rfl | exact RdQ.c (k := 3) rfl | exact RdD.c (k := 0) rfl | exact RdD.c (k := 1) rfl | exact RdD.c (k := 2) rfl | exact RdD.c (k := 3) rfl | exact AsD.c (k := 0) rfl | exact AsD.c (k := 1) rfl | exact AsD.c (k := 2) rfl | exact AsD.c (k := 3) rfl | exact RdQ.s _)
local macro_rules | `(tactic| walk_at "sz") => `(tactic| first | (with_reducible assumption) | (apply sz_getD; with_reducible assumption) | (apply sz_mem; (with_reducible assumption); (with_reducible assumption)) | (apply sz_of <;> omega))
local macro_rules | `(tactic| walk_at "mul") => `(tactic| first | (with_reducible assumption) | (apply cmul_sz <;> walk_at "sz"))
local macro_rules | `(tactic| walk_at "pow") => `(tactic| first | (with_reducible assumption) | exact cpow_lt (a := 4) (by decide) (by decide) (by decide) (by decide) | exact cpow_lt (a := 300) (by decide +kernel) (by decide) (by decide) (by decide) | exact cpow_lt (a := 1000) (by omega) (by decide) (by omega) (by omega))
local macro_rules | `(tactic| walk_at "rk") => `(tactic| first
  | (with_reducible exact r_add)
  | (with_reducible exact r_sub)
  | (with_reducible exact r_lt)
  | (with_reducible exact r_le)
  | (with_reducible exact r_gt)
  | (with_reducible exact r_ge)
  | (with_reducible exact r_eqI)
  | (with_reducible exact r_neI)
  | (with_reducible exact r_is)
  | (with_reducible exact r_isNot)
  | (with_reducible exact r_isB)
  | (with_reducible exact r_isNotB)
  | ((with_reducible apply r_mul); walk_at "mul")
  | ((with_reducible apply r_div); (first | (with_reducible assumption) | (apply cdiv_sm <;> omega)))
  | ((with_reducible apply r_mod); (first | (with_reducible assumption) | omega))
  | ((with_reducible apply r_pow); walk_at "pow")
  | ((with_reducible apply r_in); walk_at "rd")
  | ((with_reducible apply r_notIn); walk_at "rd")
  | ((with_reducible apply r_ixI); walk_at "rd"; walk_at "side"; walk_at "side")
  | ((with_reducible apply r_ixB); walk_at "rd"; walk_at "side"; walk_at "side")
  | ((with_reducible apply r_ix); walk_at "rd"; walk_at "side"; walk_at "side"; rfl)
  | ((with_reducible apply r_ixD); walk_at "rd"; walk_at "side"; walk_at "side")
  | ((with_reducible apply r_ixTD); walk_at "rd"; walk_at "side"; walk_at "side")
  | ((with_reducible apply r_eqLI); walk_at "rd"; walk_at "rd")
  | ((with_reducible apply r_neLI); walk_at "rd"; walk_at "rd")
  | ((with_reducible apply r_eqD); walk_at "rd"; walk_at "rd"; (first | (with_reducible assumption) | rfl); (first | (with_reducible assumption) | rfl))
  | ((with_reducible apply r_neD); walk_at "rd"; walk_at "rd"; (first | (with_reducible assumption) | rfl); (first | (with_reducible assumption) | rfl))
  | (apply R2k.ofL; walk_at "rl"))
local macro_rules | `(tactic| walk_at "rl") => `(tactic| first
  | ((with_reducible apply r_cat); walk_at "rd"; walk_at "rd"; walk_at "side")
  | ((with_reducible apply r_rep); walk_at "rd"; walk_at "side"; walk_at "side"; walk_at "side"))
local macro_rules | `(tactic| walk_at "r1") => `(tactic| first
  | ((with_reducible apply r_lenL); walk_at "rd")
  | ((with_reducible apply r_lenT); walk_at "rd")
  | (with_reducible exact r_max2)
  | (with_reducible exact r_min2)
  | ((with_reducible apply r_max); walk_at "rd"; walk_at "side")
  | ((with_reducible apply r_min); walk_at "rd"; walk_at "side")
  | (with_reducible exact r_abs)
  | (with_reducible exact r_intB)
  | ((with_reducible apply r_sum); walk_at "rd")
  | ((with_reducible apply r_all); walk_at "rd")
  | ((with_reducible apply r_any); walk_at "rd")
  | ((with_reducible apply r_tuple); walk_at "rd")
  | (apply R1k.ofL; walk_at "r1l"))
local macro_rules | `(tactic| walk_at "r1l") => `(tactic| first
  | ((with_reducible apply r_sorted); walk_at "rd")
  | ((with_reducible apply r_list); walk_at "rd")
  | ((with_reducible apply r_listT); walk_at "rd"))
local macro_rules | `(tactic| walk_at "ev") => `(tactic| ((fail_if_success (with_reducible apply ev_guard)); first
  | (with_reducible exact ev_int)
  | ((with_reducible apply ev_var); rfl)
  | (with_reducible exact ev_bl)
  | (with_reducible exact ev_str)
  | (with_reducible exact ev_non)
  | ((with_reducible apply ev_isi); walk_at "ev"; walk_at "rd"; (focus (simp; done)))
  | ((with_reducible apply ev_isi2); walk_at "ev"; walk_at "rd"; (focus (simp; done)); (focus (simp; done)))
  | ((with_reducible apply ev_op); walk_at "ev"; walk_at "ev"; walk_at "rk")
  | ((with_reducible apply ev_cb); walk_at "ea"; walk_at "r1")
  | ((with_reducible apply ev_neg); walk_at "ev")
  | ((with_reducible apply ev_count); walk_at "ev"; walk_at "rd"; walk_at "ev")
  | ((with_reducible apply ev_notV); walk_at "ev")
  | ((with_reducible apply ev_andV); walk_at "ev"; (intro _; walk_at "ev"))
  | ((with_reducible apply ev_orV); walk_at "ev"; (intro _; walk_at "ev"))
  | ((with_reducible apply ev_chain); walk_at "ev"; walk_at "ev"; walk_at "rk"; (intro _; walk_at "ev"); (intro _; walk_at "rk"))
  | ((with_reducible apply ev_ifI); walk_at "et"; (intro _; walk_at "ev"); (intro _; walk_at "ev"))
  | ((with_reducible apply ev_tu); walk_at "ed"; walk_at "side")
  | walk_at "call"
  | (apply Ev.ofL; walk_at "el")))
local macro_rules | `(tactic| walk_at "ea") => `(tactic| first
  | (with_reducible exact ea_nil)
  | ((with_reducible apply ea_cons); walk_at "ev"; walk_at "ea"))
local macro_rules | `(tactic| walk_at "ed") => `(tactic| first
  | (exact ed_nil)
  | (apply ed_cons; walk_at "ev"; walk_at "ed"))
local macro_rules | `(tactic| walk_at "et") => `(tactic| ((fail_if_success (with_reducible apply et_guard)); first
  | ((with_reducible apply et_test); walk_at "ev")
  | ((with_reducible apply et_B); walk_at "ev")
  | ((with_reducible apply et_and); walk_at "et"; (intro _; walk_at "et"))
  | ((with_reducible apply et_or); walk_at "et"; (intro _; walk_at "et"))
  | ((with_reducible apply et_not); walk_at "et")
  | (with_reducible exact et_yes)))
local macro_rules | `(tactic| walk_at "el") => `(tactic| ((fail_if_success (with_reducible apply el_guard)); first
  | ((with_reducible apply el_ls); walk_at "ed"; walk_at "side")
  | ((with_reducible apply el_op); walk_at "ev"; walk_at "ev"; walk_at "rl")
  | ((with_reducible apply el_cb); walk_at "ea"; walk_at "r1l")
  | ((with_reducible apply el_lcI); walk_at "ei"; walk_at "side"; (intro _; walk_at "tgw"); (intro _ _ _ hm; (try simp only [List.mem_range] at hm); walk_at "ev"))
  | ((with_reducible apply el_lcB); walk_at "ei"; walk_at "side"; (intro _; walk_at "tgw"); (intro _ _ _ hm; (try simp only [List.mem_range] at hm); walk_at "ev"))
  | ((with_reducible apply el_lc0); walk_at "ei"; walk_at "side"; (intro _; walk_at "tgw"); (intro _ _ _ hm; (try simp only [List.mem_range] at hm); walk_at "ev"))
  | ((with_reducible apply el_lcIf); walk_at "ei"; walk_at "side"; (intro _; walk_at "tgw"); (intro _ _ _ hm; (try simp only [List.mem_range] at hm); walk_at "et"); (intro _ _ _ hm _; (try simp only [List.mem_range] at hm); walk_at "ev"))
  | ((with_reducible apply el_lc); walk_at "ei"; walk_at "side"; (intro _; walk_at "tgw"); (intro _ _ _ hm; (try simp only [List.mem_range] at hm); walk_at "et"); (intro _ _ _ hm _; (try simp only [List.mem_range] at hm); walk_at "ev"))
  | ((with_reducible apply el_slice); walk_at "ev"; walk_at "eo"; walk_at "eo"; walk_at "rd")
  | ((with_reducible apply el_rev); walk_at "ev"; walk_at "rd")
  | ((with_reducible apply el_listRg); walk_at "eg"; omega; omega)
  | walk_at "calll"))
local macro_rules | `(tactic| walk_at "eo") => `(tactic| first | (with_reducible exact eo_none) | ((with_reducible apply eo_some); walk_at "ev"))
local macro_rules | `(tactic| walk_at "eg") => `(tactic| first | ((with_reducible apply eg_1); walk_at "ev") | ((with_reducible apply eg_2); walk_at "ev"; walk_at "ev"))
local macro_rules | `(tactic| walk_at "tgw") => `(tactic| first | exact tgw_name (by simp) | exact tgw_two (by simp) (by simp) | exact tgw_three (by simp) (by simp) (by simp))
local macro_rules | `(tactic| walk_at "tg") => `(tactic| first | exact tg_name | exact tg_two | exact tg_three)
local macro_rules | `(tactic| walk_at "ei") => `(tactic| first
  | ((with_reducible apply ei_range1); walk_at "ea"; omega; omega)
  | ((with_reducible apply ei_range2); walk_at "ea"; omega; omega)
  | ((with_reducible apply ei_rangeD); walk_at "ea"; omega; omega)
  | ((with_reducible apply ei_list); walk_at "ev")
  | ((with_reducible apply ei_enum); walk_at "ea")
  | ((with_reducible apply ei_zip); walk_at "ea"))
def t_is_server (K : PySem.W.Frag) (s_is_integer : Sp) : TS :=
  (tRet (tCall s_is_integer [] E0 (tCons (tVar 1) (tCons (tC (.int 0)) (tCons (tOp xSub (tVar 0) (tC (.int 1))) tNil)))))
def c_is_server : Ct := { args := fun x : Int × PyData => [.d (.int x.1), .d x.2], post := fun x it C => it = .d (.bool (isInt x.2 0 (some (x.1 - 1)))) ∧ C = [] }
def sp_is_server (K : PySem.W.Frag) : Sp := c_is_server.sp K
theorem p_is_server {K : PySem.W.Frag} : c_is_server.keeps K 2 (t_is_server K (sp_is_integer K)) := by
  rintro ⟨n, d⟩ M0 F0 Q _ hQ
  show At ⟨K, M0, F0⟩ _ [some (.d (.int n)), some (.d d)] []
  unfold t_is_server
  refine at_rt (it := .d (.bool (isInt d 0 (some (n - 1))))) ?_ (hQ F0 (Ex.refl F0) _ _ ⟨rfl, rfl⟩)
  walk_at "ev"
theorem cl_is_server {fm : Fm} {G : Gm} {C : Cs} {tr : TA} {n : Int} {d : PyData} (h : EvA fm tr G C [.d (.int n), .d d]) : Ev fm (tCall (sp_is_server fm.K) [] E0 tr) G C (.d (.bool (isInt d 0 (some (n - 1))))) := ev_call (n, d) h rfl rfl trivial fun _ _ h => h
local macro_rules | `(tactic| walk_at "call") => `(tactic| first
  | ((with_reducible apply cl_is_server); walk_at "ea"))
/-- valid drops -/
structure DOk (n : Nat) (is : List Int) : Prop where
  up : is.Pairwise (· < ·)
  rng : ∀ x ∈ is, 0 ≤ x ∧ x < n
  pos : 1 ≤ is.length
  lt : is.length < n
def runStep (n : Nat) (bs : List Bool) (s : Nat × List Int) (i : Nat) : Nat × List Int :=
  ((if bs.getD ((2 * n - 1 - i) % n) false = true then s.1 + 1 else 0), s.2.set ((2 * n - 1 - i) % n) ((if bs.getD ((2 * n - 1 - i) % n) false = true then s.1 + 1 else 0 : Nat) : Int))
def runAt (n : Nat) (bs : List Bool) (i : Nat) : Nat × List Int := (List.range i).foldl (runStep n bs) (0, List.replicate n 0)
def runL (n : Nat) (bs : List Bool) : List Int := (runAt n bs (2 * n)).2
/-- which are chosen -/
def chosen (n : Nat) (is : List Int) : List Bool := (List.range n).map fun (i : Nat) => decide ((i : Int) ∈ is)
def unchosen (n : Nat) (is : List Int) : List Bool := (List.range n).map fun (i : Nat) => !decide ((n : Int) - 1 - (i : Int) ∈ is)
abbrev aNI : Nat × List Int → List Rr.It := fun x => [.d (.int x.1), .d (.list (x.2.map .int))]
abbrev preD : Nat × List Int → Prop := fun x => DOk x.1 x.2 ∧ 2 ≤ x.1 ∧ x.1 ≤ 60
end Lib2
namespace LibTape
open PySem L2 Rr Lib Lib2
local macro_rules | `(tactic| walk_at "call") => `(tactic| fail "no call")
local macro_rules | `(tactic| walk_at "calll") => `(tactic| fail "no call")
local macro_rules | `(tactic| walk_at "side") => `(tactic| first | rfl | (with_reducible assumption) | omega | (focus (simp only [List.length_map, List.length_range, List.length_cons, List.length_nil, List.length_append, List.length_replicate, Int.toNat_natCast, rgI]; omega)) | (focus (simp; done)) | (focus (simp; omega)) | decide)
local macro_rules | `(tactic| walk_at "rd") => `(tactic| first | exact RdQ.d _ | exact RdD.d _ | exact RdT.d _ | exact AsD.d _ | exact RdQ.c (k := 0) rfl | exact RdQ.c (k := 1) rfl | exact RdQ.c (k := 2) rfl | exact RdQ.c (k := 3) rfl | exact RdD.c (k := 0) rfl | exact RdD.c (k := 1) rfl | exact RdD.c (k := 2) rfl | exact RdD.c (k := 3) rfl | exact AsD.c (k := 0) rfl | exact AsD.c (k := 1) rfl | exact AsD.c (k := 2) rfl | exact AsD.c (k := 3) rfl | exact RdQ.s _)
local macro_rules | `(tactic| walk_at "sz") => `(tactic| first | (with_reducible assumption) | (apply sz_getD; with_reducible assumption) | (apply sz_mem; (with_reducible assumption); (with_reducible assumption)) | (apply sz_of <;> omega))
local macro_rules | `(tactic| walk_at "mul") => `(tactic| first | (with_reducible assumption) | (apply cmul_sz <;> walk_at "sz"))
local macro_rules | `(tactic| walk_at "pow") => `(tactic| first | (with_reducible assumption) | exact cpow_lt (a := 4) (by decide) (by decide) (by decide) (by decide) | exact cpow_lt (a := 300) (by decide +kernel) (by decide) (by decide) (by decide) | exact cpow_lt (a := 1000) (by omega) (by decide) (by omega) (by omega))
local macro_rules | `(tactic| walk_at "rk") => `(tactic| first
  | (with_reducible exact r_add)
  | (with_reducible exact r_sub)
  | (with_reducible exact r_lt)
  | (with_reducible exact r_le)
  | (with_reducible exact r_gt)
  | (with_reducible exact r_ge)
  | (with_reducible exact r_eqI)
  | (with_reducible exact r_neI)
  | (with_reducible exact r_is)
  | (with_reducible exact r_isNot)
  | (with_reducible exact r_isB)
  | (with_reducible exact r_isNotB)
  | ((with_reducible apply r_mul); walk_at "mul")
  | ((with_reducible apply r_div); (first | (with_reducible assumption) | (apply cdiv_sm <;> omega)))
  | ((with_reducible apply r_mod); (first | (with_reducible assumption) | omega))
  | ((with_reducible apply r_pow); walk_at "pow")
  | ((with_reducible apply r_in); walk_at "rd")
  | ((with_reducible apply r_notIn); walk_at "rd")
  | ((with_reducible apply r_ixI); walk_at "rd"; walk_at "side"; walk_at "side")
  | ((with_reducible apply r_ixB); walk_at "rd"; walk_at "side"; walk_at "side")
  | ((with_reducible apply r_ix); walk_at "rd"; walk_at "side"; walk_at "side"; rfl)
  | ((with_reducible apply r_ixD); walk_at "rd"; walk_at "side"; walk_at "side")
  | ((with_reducible apply r_ixTD); walk_at "rd"; walk_at "side"; walk_at "side")
  | ((with_reducible apply r_eqLI); walk_at "rd"; walk_at "rd")
  | ((with_reducible apply r_neLI); walk_at "rd"; walk_at "rd")
  | ((with_reducible apply r_eqD); walk_at "rd"; walk_at "rd"; (first | (with_reducible assumption) | rfl); (first | (with_reducible assumption) | rfl))
  | ((with_reducible apply r_neD); walk_at "rd"; walk_at "rd"; (first | (with_reducible assumption) | rfl); (first | (with_reducible assumption) | rfl))
  | (apply R2k.ofL; walk_at "rl"))
local macro_rules | `(tactic| walk_at "rl") => `(tactic| first
  | ((with_reducible apply r_cat); walk_at "rd"; walk_at "rd"; walk_at "side")
  | ((with_reducible apply r_rep); walk_at "rd"; walk_at "side"; walk_at "side"; walk_at "side"))
local macro_rules | `(tactic| walk_at "r1") => `(tactic| first
  | ((with_reducible apply r_lenL); walk_at "rd")
  | ((with_reducible apply r_lenT); walk_at "rd")
  | (with_reducible exact r_max2)
  | (with_reducible exact r_min2)
  | ((with_reducible apply r_max); walk_at "rd"; walk_at "side")
  | ((with_reducible apply r_min); walk_at "rd"; walk_at "side")
  | (with_reducible exact r_abs)
  | (with_reducible exact r_intB)
  | ((with_reducible apply r_sum); walk_at "rd")
  | ((with_reducible apply r_all); walk_at "rd")
  | ((with_reducible apply r_any); walk_at "rd")
  | ((with_reducible apply r_tuple); walk_at "rd")
  | (apply R1k.ofL; walk_at "r1l"))
local macro_rules | `(tactic| walk_at "r1l") => `(tactic| first
  | ((with_reducible apply r_sorted); walk_at "rd")
  | ((with_reducible apply r_list); walk_at "rd")
  | ((with_reducible apply r_listT); walk_at "rd"))
local macro_rules | `(tactic| walk_at "ev") => `(tactic| ((fail_if_success (with_reducible apply ev_guard)); first
  | (with_reducible exact ev_int)
  | ((with_reducible apply ev_var); rfl)
  | (with_reducible exact ev_bl)
  | (with_reducible exact ev_str)
  | (with_reducible exact ev_non)
  | ((with_reducible apply ev_isi); walk_at "ev"; walk_at "rd"; (focus (simp; done)))
  | ((with_reducible apply ev_isi2); walk_at "ev"; walk_at "rd"; (focus (simp; done)); (focus (simp; done)))
  | ((with_reducible apply ev_op); walk_at "ev"; walk_at "ev"; walk_at "rk")
  | ((with_reducible apply ev_cb); walk_at "ea"; walk_at "r1")
  | ((with_reducible apply ev_neg); walk_at "ev")
  | ((with_reducible apply ev_count); walk_at "ev"; walk_at "rd"; walk_at "ev")
  | ((with_reducible apply ev_notV); walk_at "ev")
  | ((with_reducible apply ev_andV); walk_at "ev"; (intro _; walk_at "ev"))
  | ((with_reducible apply ev_orV); walk_at "ev"; (intro _; walk_at "ev"))
  | ((with_reducible apply ev_chain); walk_at "ev"; walk_at "ev"; walk_at "rk"; (intro _; walk_at "ev"); (intro _; walk_at "rk"))
  | ((with_reducible apply ev_ifI); walk_at "et"; (intro _; walk_at "ev"); (intro _; walk_at "ev"))
  | ((with_reducible apply ev_tu); walk_at "ed"; walk_at "side")
  | walk_at "call"
  | (apply Ev.ofL; walk_at "el")))
local macro_rules | `(tactic| walk_at "ea") => `(tactic| first
  | (with_reducible exact ea_nil)
  | ((with_reducible apply ea_cons); walk_at "ev"; walk_at "ea"))
local macro_rules | `(tactic| walk_at "ed") => `(tactic| first
  | (exact ed_nil)
  | (apply ed_cons; walk_at "ev"; walk_at "ed"))
local macro_rules | `(tactic| walk_at "et") => `(tactic| ((fail_if_success (with_reducible apply et_guard)); first
  | ((with_reducible apply et_test); walk_at "ev")
  | ((with_reducible apply et_B); walk_at "ev")
  | ((with_reducible apply et_and); walk_at "et"; (intro _; walk_at "et"))
  | ((with_reducible apply et_or); walk_at "et"; (intro _; walk_at "et"))
  | ((with_reducible apply et_not); walk_at "et")
  | (with_reducible exact et_yes)))
local macro_rules | `(tactic| walk_at "el") => `(tactic| ((fail_if_success (with_reducible apply el_guard)); first
  | ((with_reducible apply el_ls); walk_at "ed"; walk_at "side")
  | ((with_reducible apply el_op); walk_at "ev"; walk_at "ev"; walk_at "rl")
  | ((with_reducible apply el_cb); walk_at "ea"; walk_at "r1l")
  | ((with_reducible apply el_lcI); walk_at "ei"; walk_at "side"; (intro _; walk_at "tgw"); (intro _ _ _ hm; (try simp only [List.mem_range] at hm); walk_at "ev"))
  | ((with_reducible apply el_lcB); walk_at "ei"; walk_at "side"; (intro _; walk_at "tgw"); (intro _ _ _ hm; (try simp only [List.mem_range] at hm); walk_at "ev"))
  | ((with_reducible apply el_lc0); walk_at "ei"; walk_at "side"; (intro _; walk_at "tgw"); (intro _ _ _ hm; (try simp only [List.mem_range] at hm); walk_at "ev"))
  | ((with_reducible apply el_lcIf); walk_at "ei"; walk_at "side"; (intro _; walk_at "tgw"); (intro _ _ _ hm; (try simp only [List.mem_range] at hm); walk_at "et"); (intro _ _ _ hm _; (try simp only [List.mem_range] at hm); walk_at "ev"))
  | ((with_reducible apply el_lc); walk_at "ei"; walk_at "side"; (intro _; walk_at "tgw"); (intro _ _ _ hm; (try simp only [List.mem_range] at hm); walk_at "et"); (intro _ _ _ hm _; (try simp only [List.mem_range] at hm); walk_at "ev"))
  | ((with_reducible apply el_slice); walk_at "ev"; walk_at "eo"; walk_at "eo"; walk_at "rd")
  | ((with_reducible apply el_rev); walk_at "ev"; walk_at "rd")
  | ((with_reducible apply el_listRg); walk_at "eg"; omega; omega)
  | walk_at "calll"))
local macro_rules | `(tactic| walk_at "eo") => `(tactic| first | (with_reducible exact eo_none) | ((with_reducible apply eo_some); walk_at "ev"))
local macro_rules | `(tactic| walk_at "eg") => `(tactic| first | ((with_reducible apply eg_1); walk_at "ev") | ((with_reducible apply eg_2); walk_at "ev"; walk_at "ev"))
local macro_rules | `(tactic| walk_at "tgw") => `(tactic| first | exact tgw_name (by simp) | exact tgw_two (by simp) (by simp) | exact tgw_three (by simp) (by simp) (by simp))
local macro_rules | `(tactic| walk_at "tg") => `(tactic| first | exact tg_name | exact tg_two | exact tg_three)
local macro_rules | `(tactic| walk_at "ei") => `(tactic| first
  | ((with_reducible apply ei_range1); walk_at "ea"; omega; omega)
  | ((with_reducible apply ei_range2); walk_at "ea"; omega; omega)
  | ((with_reducible apply ei_rangeD); walk_at "ea"; omega; omega)
  | ((with_reducible apply ei_list); walk_at "ev")
  | ((with_reducible apply ei_enum); walk_at "ea")
  | ((with_reducible apply ei_zip); walk_at "ea"))
/-- the tape's cell -/
def TapeC (p : Addr) (b m : Int) (C : Cs) : Prop := ∃ a c, C = [(p, .dat [.int a, .int b, .int c])] ∧ 0 ≤ a ∧ 0 ≤ c ∧ c ≤ m
theorem TapeC.up {p : Addr} {b m m' : Int} {C : Cs} (h : TapeC p b m C) (e : m ≤ m') : TapeC p b m' C := by
  obtain ⟨a, c, h1, h2, h3, h4⟩ := h
  exact ⟨a, c, h1, h2, h3, by omega⟩
theorem bits_add {n : Nat} {x y : Int} (h : Bits n x) (g : Bits n y) : Bits (n + 1) (x + y) := ⟨Int.add_nonneg h.nn g.nn, by
  rw [Int.pow_succ]
  have h1 := h.lt
  have h2 := g.lt
  generalize (2 : Int) ^ n = B at h1 h2 ⊢
  omega⟩
structure Sub (n : Nat) (is : List Int) : Prop where
  up : is.Pairwise (· < ·)
  rng : ∀ x ∈ is, 0 ≤ x ∧ x < n
end LibTape
namespace Lib2
open PySem L2 Rr Lib
theorem mem_getD {l : List Int} {x : Int} (h : x ∈ l) : ∃ i, i < l.length ∧ l.getD i 0 = x := by
  obtain ⟨i, hi, e⟩ := List.mem_iff_getElem.mp h
  exact ⟨i, hi, by rw [List.getD_eq_getElem?_getD, List.getElem?_eq_getElem hi, e]; rfl⟩
theorem getD_mem {l : List Int} {i : Nat} (h : i < l.length) : l.getD i 0 ∈ l := by
  rw [List.getD_eq_getElem?_getD, List.getElem?_eq_getElem h]
  exact List.getElem_mem h
/-- a run of k in a ring of n -/
def Run (n : Nat) (S : Int → Prop) (k : Nat) : Prop := ∃ x : Int, ∀ j : Nat, j < k → S ((x + j) % n)
end Lib2
namespace Lib2
open PySem L2 Rr Lib
theorem Run.mono {n : Nat} {S : Int → Prop} {k m : Nat} (h : Run n S k) (hm : m ≤ k) : Run n S m := by
  obtain ⟨x, hx⟩ := h
  exact ⟨x, fun j hj => hx j (by omega)⟩
theorem DOk.one {n : Nat} {is : List Int} (h : DOk n is) : 1 ≤ n := by
  have := h.lt
  omega
end Lib2
namespace Lib3
open PySem L2 Rr Lib Lib2
local macro_rules | `(tactic| walk_at "call") => `(tactic| first
  | ((with_reducible apply cl_need_ring); walk_at "ea"; walk_at "side")
  | ((with_reducible apply cl_is_integer); walk_at "ea"))
local macro_rules | `(tactic| walk_at "calll") => `(tactic| fail "no call")
local macro_rules | `(tactic| walk_at "side") => `(tactic| first | rfl | (with_reducible assumption) | omega | (focus (simp only [List.length_map, List.length_range, List.length_cons, List.length_nil, List.length_append, List.length_replicate, Int.toNat_natCast, rgI]; omega)) | (focus (simp; done)) | (focus (simp; omega)) | decide)
local macro_rules | `(tactic| walk_at "rd") => `(tactic| first | exact RdQ.d _ | exact RdD.d _ | exact RdT.d _ | exact AsD.d _ | exact RdQ.c (k := 0) rfl | exact RdQ.c (k := 1) rfl | exact RdQ.c (k := 2) rfl | exact RdQ.c (k := 3) rfl | exact RdD.c (k := 0) rfl | exact RdD.c (k := 1) rfl | exact RdD.c (k := 2) rfl | exact RdD.c (k := 3) rfl | exact AsD.c (k := 0) rfl | exact AsD.c (k := 1) rfl | exact AsD.c (k := 2) rfl | exact AsD.c (k := 3) rfl | exact RdQ.s _)
local macro_rules | `(tactic| walk_at "sz") => `(tactic| first | (with_reducible assumption) | (apply sz_getD; with_reducible assumption) | (apply sz_mem; (with_reducible assumption); (with_reducible assumption)) | (apply sz_of <;> omega))
local macro_rules | `(tactic| walk_at "mul") => `(tactic| first | (with_reducible assumption) | (apply cmul_sz <;> walk_at "sz"))
local macro_rules | `(tactic| walk_at "pow") => `(tactic| first | (with_reducible assumption) | exact cpow_lt (a := 4) (by decide) (by decide) (by decide) (by decide) | exact cpow_lt (a := 300) (by decide +kernel) (by decide) (by decide) (by decide) | exact cpow_lt (a := 1000) (by omega) (by decide) (by omega) (by omega))
local macro_rules | `(tactic| walk_at "rk") => `(tactic| first
  | (with_reducible exact r_add)
  | (with_reducible exact r_sub)
  | (with_reducible exact r_lt)
  | (with_reducible exact r_le)
  | (with_reducible exact r_gt)
  | (with_reducible exact r_ge)
  | (with_reducible exact r_eqI)
  | (with_reducible exact r_neI)
  | (with_reducible exact r_is)
  | (with_reducible exact r_isNot)
  | (with_reducible exact r_isB)
  | (with_reducible exact r_isNotB)
  | ((with_reducible apply r_mul); walk_at "mul")
  | ((with_reducible apply r_div); (first | (with_reducible assumption) | (apply cdiv_sm <;> omega)))
  | ((with_reducible apply r_mod); (first | (with_reducible assumption) | omega))
  | ((with_reducible apply r_pow); walk_at "pow")
  | ((with_reducible apply r_in); walk_at "rd")
  | ((with_reducible apply r_notIn); walk_at "rd")
  | ((with_reducible apply r_ixI); walk_at "rd"; walk_at "side"; walk_at "side")
  | ((with_reducible apply r_ixB); walk_at "rd"; walk_at "side"; walk_at "side")
  | ((with_reducible apply r_ix); walk_at "rd"; walk_at "side"; walk_at "side"; rfl)
  | ((with_reducible apply r_ixD); walk_at "rd"; walk_at "side"; walk_at "side")
  | ((with_reducible apply r_ixTD); walk_at "rd"; walk_at "side"; walk_at "side")
  | ((with_reducible apply r_eqLI); walk_at "rd"; walk_at "rd")
  | ((with_reducible apply r_neLI); walk_at "rd"; walk_at "rd")
  | ((with_reducible apply r_eqD); walk_at "rd"; walk_at "rd"; (first | (with_reducible assumption) | rfl); (first | (with_reducible assumption) | rfl))
  | ((with_reducible apply r_neD); walk_at "rd"; walk_at "rd"; (first | (with_reducible assumption) | rfl); (first | (with_reducible assumption) | rfl))
  | (apply R2k.ofL; walk_at "rl"))
local macro_rules | `(tactic| walk_at "rl") => `(tactic| first
  | ((with_reducible apply r_cat); walk_at "rd"; walk_at "rd"; walk_at "side")
  | ((with_reducible apply r_rep); walk_at "rd"; walk_at "side"; walk_at "side"; walk_at "side"))
local macro_rules | `(tactic| walk_at "r1") => `(tactic| first
  | ((with_reducible apply r_lenL); walk_at "rd")
  | ((with_reducible apply r_lenT); walk_at "rd")
  | (with_reducible exact r_max2)
  | (with_reducible exact r_min2)
  | ((with_reducible apply r_max); walk_at "rd"; walk_at "side")
  | ((with_reducible apply r_min); walk_at "rd"; walk_at "side")
  | (with_reducible exact r_abs)
  | (with_reducible exact r_intB)
  | ((with_reducible apply r_sum); walk_at "rd")
  | ((with_reducible apply r_all); walk_at "rd")
  | ((with_reducible apply r_any); walk_at "rd")
  | ((with_reducible apply r_tuple); walk_at "rd")
  | (apply R1k.ofL; walk_at "r1l"))
local macro_rules | `(tactic| walk_at "r1l") => `(tactic| first
  | ((with_reducible apply r_sorted); walk_at "rd")
  | ((with_reducible apply r_list); walk_at "rd")
  | ((with_reducible apply r_listT); walk_at "rd"))
local macro_rules | `(tactic| walk_at "ev") => `(tactic| ((fail_if_success (with_reducible apply ev_guard)); first
  | (with_reducible exact ev_int)
  | ((with_reducible apply ev_var); rfl)
  | (with_reducible exact ev_bl)
  | (with_reducible exact ev_str)
  | (with_reducible exact ev_non)
  | ((with_reducible apply ev_isi); walk_at "ev"; walk_at "rd"; (focus (simp; done)))
  | ((with_reducible apply ev_isi2); walk_at "ev"; walk_at "rd"; (focus (simp; done)); (focus (simp; done)))
  | ((with_reducible apply ev_op); walk_at "ev"; walk_at "ev"; walk_at "rk")
  | ((with_reducible apply ev_cb); walk_at "ea"; walk_at "r1")
  | ((with_reducible apply ev_neg); walk_at "ev")
  | ((with_reducible apply ev_count); walk_at "ev"; walk_at "rd"; walk_at "ev")
  | ((with_reducible apply ev_notV); walk_at "ev")
  | ((with_reducible apply ev_andV); walk_at "ev"; (intro _; walk_at "ev"))
  | ((with_reducible apply ev_orV); walk_at "ev"; (intro _; walk_at "ev"))
  | ((with_reducible apply ev_chain); walk_at "ev"; walk_at "ev"; walk_at "rk"; (intro _; walk_at "ev"); (intro _; walk_at "rk"))
  | ((with_reducible apply ev_ifI); walk_at "et"; (intro _; walk_at "ev"); (intro _; walk_at "ev"))
  | ((with_reducible apply ev_tu); walk_at "ed"; walk_at "side")
  | walk_at "call"
  | (apply Ev.ofL; walk_at "el")))
local macro_rules | `(tactic| walk_at "ea") => `(tactic| first
  | (with_reducible exact ea_nil)
  | ((with_reducible apply ea_cons); walk_at "ev"; walk_at "ea"))
local macro_rules | `(tactic| walk_at "ed") => `(tactic| first
  | (exact ed_nil)
  | (apply ed_cons; walk_at "ev"; walk_at "ed"))
local macro_rules | `(tactic| walk_at "et") => `(tactic| ((fail_if_success (with_reducible apply et_guard)); first
  | ((with_reducible apply et_test); walk_at "ev")
  | ((with_reducible apply et_B); walk_at "ev")
  | ((with_reducible apply et_and); walk_at "et"; (intro _; walk_at "et"))
  | ((with_reducible apply et_or); walk_at "et"; (intro _; walk_at "et"))
  | ((with_reducible apply et_not); walk_at "et")
  | (with_reducible exact et_yes)))
local macro_rules | `(tactic| walk_at "el") => `(tactic| ((fail_if_success (with_reducible apply el_guard)); first
  | ((with_reducible apply el_ls); walk_at "ed"; walk_at "side")
  | ((with_reducible apply el_op); walk_at "ev"; walk_at "ev"; walk_at "rl")
  | ((with_reducible apply el_cb); walk_at "ea"; walk_at "r1l")
  | ((with_reducible apply el_lcI); walk_at "ei"; walk_at "side"; (intro _; walk_at "tgw"); (intro _ _ _ hm; (try simp only [List.mem_range] at hm); walk_at "ev"))
  | ((with_reducible apply el_lcB); walk_at "ei"; walk_at "side"; (intro _; walk_at "tgw"); (intro _ _ _ hm; (try simp only [List.mem_range] at hm); walk_at "ev"))
  | ((with_reducible apply el_lc0); walk_at "ei"; walk_at "side"; (intro _; walk_at "tgw"); (intro _ _ _ hm; (try simp only [List.mem_range] at hm); walk_at "ev"))
  | ((with_reducible apply el_lcIf); walk_at "ei"; walk_at "side"; (intro _; walk_at "tgw"); (intro _ _ _ hm; (try simp only [List.mem_range] at hm); walk_at "et"); (intro _ _ _ hm _; (try simp only [List.mem_range] at hm); walk_at "ev"))
  | ((with_reducible apply el_lc); walk_at "ei"; walk_at "side"; (intro _; walk_at "tgw"); (intro _ _ _ hm; (try simp only [List.mem_range] at hm); walk_at "et"); (intro _ _ _ hm _; (try simp only [List.mem_range] at hm); walk_at "ev"))
  | ((with_reducible apply el_slice); walk_at "ev"; walk_at "eo"; walk_at "eo"; walk_at "rd")
  | ((with_reducible apply el_rev); walk_at "ev"; walk_at "rd")
  | ((with_reducible apply el_listRg); walk_at "eg"; omega; omega)
  | walk_at "calll"))
local macro_rules | `(tactic| walk_at "eo") => `(tactic| first | (with_reducible exact eo_none) | ((with_reducible apply eo_some); walk_at "ev"))
local macro_rules | `(tactic| walk_at "eg") => `(tactic| first | ((with_reducible apply eg_1); walk_at "ev") | ((with_reducible apply eg_2); walk_at "ev"; walk_at "ev"))
local macro_rules | `(tactic| walk_at "tgw") => `(tactic| first | exact tgw_name (by simp) | exact tgw_two (by simp) (by simp) | exact tgw_three (by simp) (by simp) (by simp))
local macro_rules | `(tactic| walk_at "tg") => `(tactic| first | exact tg_name | exact tg_two | exact tg_three)
local macro_rules | `(tactic| walk_at "ei") => `(tactic| first
  | ((with_reducible apply ei_range1); walk_at "ea"; omega; omega)
  | ((with_reducible apply ei_range2); walk_at "ea"; omega; omega)
  | ((with_reducible apply ei_rangeD); walk_at "ea"; omega; omega)
  | ((with_reducible apply ei_list); walk_at "ev")
  | ((with_reducible apply ei_enum); walk_at "ea")
  | ((with_reducible apply ei_zip); walk_at "ea"))
abbrev eRow (b : List Int) : PyData := .list (b.map .int)
/-- a valid round -/
structure ROk (n : Nat) (rs : List (List Int)) : Prop where
  many : 2 ≤ rs.length
  up : ∀ b ∈ rs, b.Pairwise (· < ·)
  ne : ∀ b ∈ rs, b ≠ []
  all : rs.flatten.Perm (rgI 0 n)
theorem rgI_len (n : Nat) : (rgI 0 (n : Int)).length = n := by
  unfold rgI
  rw [List.length_map, List.length_range]
  omega
theorem rgI_mem {n : Nat} {x : Int} : x ∈ rgI 0 (n : Int) ↔ 0 ≤ x ∧ x < n := by
  unfold rgI
  rw [List.mem_map]
  constructor
  · rintro ⟨i, hi, rfl⟩
    have := List.mem_range.mp hi
    omega
  · rintro ⟨h1, h2⟩
    exact ⟨x.toNat, List.mem_range.mpr (by omega), by omega⟩
theorem rgI_up (n : Nat) : (rgI 0 (n : Int)).Pairwise (· < ·) := by
  unfold rgI
  rw [List.pairwise_map]
  exact List.pairwise_lt_range.imp fun h => by omega
theorem ROk.len {n : Nat} {rs : List (List Int)} (h : ROk n rs) : rs.flatten.length = n := by rw [h.all.length_eq, rgI_len]
theorem ROk.mem {n : Nat} {rs : List (List Int)} (h : ROk n rs) {x : Int} : x ∈ rs.flatten ↔ 0 ≤ x ∧ x < n := by rw [h.all.mem_iff, rgI_mem]
theorem ROk.rng {n : Nat} {rs : List (List Int)} (h : ROk n rs) {b : List Int} (hb : b ∈ rs) {x : Int} (hx : x ∈ b) : 0 ≤ x ∧ x < n := h.mem.mp (List.mem_flatten.mpr ⟨b, hb, hx⟩)
theorem ROk.nd {n : Nat} {rs : List (List Int)} (h : ROk n rs) : rs.flatten.Nodup := h.all.nodup_iff.mpr ((rgI_up n).imp fun h => Int.ne_of_lt h)
theorem sub_flat : ∀ {rs : List (List Int)} {b : List Int}, b ∈ rs → b.length ≤ rs.flatten.length
  | [], _, h => by cases h
  | c :: rs, b, h => by
    rw [List.flatten_cons, List.length_append]
    rcases List.mem_cons.mp h with rfl | h
    · omega
    · have := sub_flat h
      omega
theorem ROk.row {n : Nat} {rs : List (List Int)} (h : ROk n rs) {b : List Int} (hb : b ∈ rs) : b.length ≤ n := by
  rw [← h.len]
  exact sub_flat hb
def upFrom (n : Int) (b : List Int) : Nat → Int → Int
  | 0, s => s
  | k + 1, s => if s ∈ b then upFrom n b k ((s + 1) % n) else s
def target (n : Int) (b : List Int) (s : Int) : Int := upFrom n b n.toNat s
def moved (n : Int) (b : List Int) (ps : List Int) : List Int := ps.map fun p => if p ∈ b then target n b p else p
end Lib3
namespace Lib3
open PySem L2 Rr Lib Lib2
theorem ks_up (ns : List Int) : (uniqs (srt ns)).Pairwise (· < ·) := uniqs_up (srt_up ns)
theorem mem_ks {ns : List Int} {x : Int} : x ∈ uniqs (srt ns) ↔ x ∈ ns := by rw [mem_uniqs, (srt_perm ns).mem_iff]
def fl (n : Nat) (is : List Int) (x : Nat) : Int := (runL n (chosen n is)).getD x 0
def ri (n : Nat) (is : List Int) (x : Nat) : Int := (runL n (unchosen n is)).reverse.getD x 0
end Lib3
namespace LibTimes
open PySem L2 Rr Lib Lib2 Lib3 LibTape
local macro_rules | `(tactic| walk_at "call") => `(tactic| fail "no call")
local macro_rules | `(tactic| walk_at "calll") => `(tactic| fail "no call")
local macro_rules | `(tactic| walk_at "side") => `(tactic| first | rfl | (with_reducible assumption) | omega | (focus (simp only [List.length_map, List.length_range, List.length_cons, List.length_nil, List.length_append, List.length_replicate, Int.toNat_natCast, rgI]; omega)) | (focus (simp; done)) | (focus (simp; omega)) | decide)
local macro_rules | `(tactic| walk_at "rd") => `(tactic| first | exact RdQ.d _ | exact RdD.d _ | exact RdT.d _ | exact AsD.d _ | exact RdQ.c (k := 0) rfl | exact RdQ.c (k := 1) rfl | exact RdQ.c (k := 2) rfl | exact RdQ.c (k := 3) rfl | exact RdD.c (k := 0) rfl | exact RdD.c (k := 1) rfl | exact RdD.c (k := 2) rfl | exact RdD.c (k := 3) rfl | exact AsD.c (k := 0) rfl | exact AsD.c (k := 1) rfl | exact AsD.c (k := 2) rfl | exact AsD.c (k := 3) rfl | exact RdQ.s _)
local macro_rules | `(tactic| walk_at "sz") => `(tactic| first | (with_reducible assumption) | (apply sz_getD; with_reducible assumption) | (apply sz_mem; (with_reducible assumption); (with_reducible assumption)) | (apply sz_of <;> omega))
local macro_rules | `(tactic| walk_at "mul") => `(tactic| first | (with_reducible assumption) | (apply cmul_sz <;> walk_at "sz"))
local macro_rules | `(tactic| walk_at "pow") => `(tactic| first | (with_reducible assumption) | exact cpow_lt (a := 4) (by decide) (by decide) (by decide) (by decide) | exact cpow_lt (a := 300) (by decide +kernel) (by decide) (by decide) (by decide) | exact cpow_lt (a := 1000) (by omega) (by decide) (by omega) (by omega))
local macro_rules | `(tactic| walk_at "rk") => `(tactic| first
  | (with_reducible exact r_add)
  | (with_reducible exact r_sub)
  | (with_reducible exact r_lt)
  | (with_reducible exact r_le)
  | (with_reducible exact r_gt)
  | (with_reducible exact r_ge)
  | (with_reducible exact r_eqI)
  | (with_reducible exact r_neI)
  | (with_reducible exact r_is)
  | (with_reducible exact r_isNot)
  | (with_reducible exact r_isB)
  | (with_reducible exact r_isNotB)
  | ((with_reducible apply r_mul); walk_at "mul")
  | ((with_reducible apply r_div); (first | (with_reducible assumption) | (apply cdiv_sm <;> omega)))
  | ((with_reducible apply r_mod); (first | (with_reducible assumption) | omega))
  | ((with_reducible apply r_pow); walk_at "pow")
  | ((with_reducible apply r_in); walk_at "rd")
  | ((with_reducible apply r_notIn); walk_at "rd")
  | ((with_reducible apply r_ixI); walk_at "rd"; walk_at "side"; walk_at "side")
  | ((with_reducible apply r_ixB); walk_at "rd"; walk_at "side"; walk_at "side")
  | ((with_reducible apply r_ix); walk_at "rd"; walk_at "side"; walk_at "side"; rfl)
  | ((with_reducible apply r_ixD); walk_at "rd"; walk_at "side"; walk_at "side")
  | ((with_reducible apply r_ixTD); walk_at "rd"; walk_at "side"; walk_at "side")
  | ((with_reducible apply r_eqLI); walk_at "rd"; walk_at "rd")
  | ((with_reducible apply r_neLI); walk_at "rd"; walk_at "rd")
  | ((with_reducible apply r_eqD); walk_at "rd"; walk_at "rd"; (first | (with_reducible assumption) | rfl); (first | (with_reducible assumption) | rfl))
  | ((with_reducible apply r_neD); walk_at "rd"; walk_at "rd"; (first | (with_reducible assumption) | rfl); (first | (with_reducible assumption) | rfl))
  | (apply R2k.ofL; walk_at "rl"))
local macro_rules | `(tactic| walk_at "rl") => `(tactic| first
  | ((with_reducible apply r_cat); walk_at "rd"; walk_at "rd"; walk_at "side")
  | ((with_reducible apply r_rep); walk_at "rd"; walk_at "side"; walk_at "side"; walk_at "side"))
local macro_rules | `(tactic| walk_at "r1") => `(tactic| first
  | ((with_reducible apply r_lenL); walk_at "rd")
  | ((with_reducible apply r_lenT); walk_at "rd")
  | (with_reducible exact r_max2)
  | (with_reducible exact r_min2)
  | ((with_reducible apply r_max); walk_at "rd"; walk_at "side")
  | ((with_reducible apply r_min); walk_at "rd"; walk_at "side")
  | (with_reducible exact r_abs)
  | (with_reducible exact r_intB)
  | ((with_reducible apply r_sum); walk_at "rd")
  | ((with_reducible apply r_all); walk_at "rd")
  | ((with_reducible apply r_any); walk_at "rd")
  | ((with_reducible apply r_tuple); walk_at "rd")
  | (apply R1k.ofL; walk_at "r1l"))
local macro_rules | `(tactic| walk_at "r1l") => `(tactic| first
  | ((with_reducible apply r_sorted); walk_at "rd")
  | ((with_reducible apply r_list); walk_at "rd")
  | ((with_reducible apply r_listT); walk_at "rd"))
local macro_rules | `(tactic| walk_at "ev") => `(tactic| ((fail_if_success (with_reducible apply ev_guard)); first
  | (with_reducible exact ev_int)
  | ((with_reducible apply ev_var); rfl)
  | (with_reducible exact ev_bl)
  | (with_reducible exact ev_str)
  | (with_reducible exact ev_non)
  | ((with_reducible apply ev_isi); walk_at "ev"; walk_at "rd"; (focus (simp; done)))
  | ((with_reducible apply ev_isi2); walk_at "ev"; walk_at "rd"; (focus (simp; done)); (focus (simp; done)))
  | ((with_reducible apply ev_op); walk_at "ev"; walk_at "ev"; walk_at "rk")
  | ((with_reducible apply ev_cb); walk_at "ea"; walk_at "r1")
  | ((with_reducible apply ev_neg); walk_at "ev")
  | ((with_reducible apply ev_count); walk_at "ev"; walk_at "rd"; walk_at "ev")
  | ((with_reducible apply ev_notV); walk_at "ev")
  | ((with_reducible apply ev_andV); walk_at "ev"; (intro _; walk_at "ev"))
  | ((with_reducible apply ev_orV); walk_at "ev"; (intro _; walk_at "ev"))
  | ((with_reducible apply ev_chain); walk_at "ev"; walk_at "ev"; walk_at "rk"; (intro _; walk_at "ev"); (intro _; walk_at "rk"))
  | ((with_reducible apply ev_ifI); walk_at "et"; (intro _; walk_at "ev"); (intro _; walk_at "ev"))
  | ((with_reducible apply ev_tu); walk_at "ed"; walk_at "side")
  | walk_at "call"
  | (apply Ev.ofL; walk_at "el")))
local macro_rules | `(tactic| walk_at "ea") => `(tactic| first
  | (with_reducible exact ea_nil)
  | ((with_reducible apply ea_cons); walk_at "ev"; walk_at "ea"))
local macro_rules | `(tactic| walk_at "ed") => `(tactic| first
  | (exact ed_nil)
  | (apply ed_cons; walk_at "ev"; walk_at "ed"))
local macro_rules | `(tactic| walk_at "et") => `(tactic| ((fail_if_success (with_reducible apply et_guard)); first
  | ((with_reducible apply et_test); walk_at "ev")
  | ((with_reducible apply et_B); walk_at "ev")
  | ((with_reducible apply et_and); walk_at "et"; (intro _; walk_at "et"))
  | ((with_reducible apply et_or); walk_at "et"; (intro _; walk_at "et"))
  | ((with_reducible apply et_not); walk_at "et")
  | (with_reducible exact et_yes)))
local macro_rules | `(tactic| walk_at "el") => `(tactic| ((fail_if_success (with_reducible apply el_guard)); first
  | ((with_reducible apply el_ls); walk_at "ed"; walk_at "side")
  | ((with_reducible apply el_op); walk_at "ev"; walk_at "ev"; walk_at "rl")
  | ((with_reducible apply el_cb); walk_at "ea"; walk_at "r1l")
  | ((with_reducible apply el_lcI); walk_at "ei"; walk_at "side"; (intro _; walk_at "tgw"); (intro _ _ _ hm; (try simp only [List.mem_range] at hm); walk_at "ev"))
  | ((with_reducible apply el_lcB); walk_at "ei"; walk_at "side"; (intro _; walk_at "tgw"); (intro _ _ _ hm; (try simp only [List.mem_range] at hm); walk_at "ev"))
  | ((with_reducible apply el_lc0); walk_at "ei"; walk_at "side"; (intro _; walk_at "tgw"); (intro _ _ _ hm; (try simp only [List.mem_range] at hm); walk_at "ev"))
  | ((with_reducible apply el_lcIf); walk_at "ei"; walk_at "side"; (intro _; walk_at "tgw"); (intro _ _ _ hm; (try simp only [List.mem_range] at hm); walk_at "et"); (intro _ _ _ hm _; (try simp only [List.mem_range] at hm); walk_at "ev"))
  | ((with_reducible apply el_lc); walk_at "ei"; walk_at "side"; (intro _; walk_at "tgw"); (intro _ _ _ hm; (try simp only [List.mem_range] at hm); walk_at "et"); (intro _ _ _ hm _; (try simp only [List.mem_range] at hm); walk_at "ev"))
  | ((with_reducible apply el_slice); walk_at "ev"; walk_at "eo"; walk_at "eo"; walk_at "rd")
  | ((with_reducible apply el_rev); walk_at "ev"; walk_at "rd")
  | ((with_reducible apply el_listRg); walk_at "eg"; omega; omega)
  | walk_at "calll"))
local macro_rules | `(tactic| walk_at "eo") => `(tactic| first | (with_reducible exact eo_none) | ((with_reducible apply eo_some); walk_at "ev"))
local macro_rules | `(tactic| walk_at "eg") => `(tactic| first | ((with_reducible apply eg_1); walk_at "ev") | ((with_reducible apply eg_2); walk_at "ev"; walk_at "ev"))
local macro_rules | `(tactic| walk_at "tgw") => `(tactic| first | exact tgw_name (by simp) | exact tgw_two (by simp) (by simp) | exact tgw_three (by simp) (by simp) (by simp))
local macro_rules | `(tactic| walk_at "tg") => `(tactic| first | exact tg_name | exact tg_two | exact tg_three)
local macro_rules | `(tactic| walk_at "ei") => `(tactic| first
  | ((with_reducible apply ei_range1); walk_at "ea"; omega; omega)
  | ((with_reducible apply ei_range2); walk_at "ea"; omega; omega)
  | ((with_reducible apply ei_rangeD); walk_at "ea"; omega; omega)
  | ((with_reducible apply ei_list); walk_at "ev")
  | ((with_reducible apply ei_enum); walk_at "ea")
  | ((with_reducible apply ei_zip); walk_at "ea"))
end LibTimes
namespace Lib3
open PySem L2 Rr Lib Lib2
def prv (n x : Nat) : Nat := (x + n - 1) % n
end Lib3
namespace Lib3
open PySem L2 Rr Lib Lib2
def isEnd (n : Nat) (is : List Int) (i : Nat) (e : Int) : Prop := ∃ d : Nat, 1 ≤ d ∧ e = (((i + d) % n : Nat) : Int) ∧ e ∈ is ∧ ∀ d' : Nat, 1 ≤ d' → d' < d → ¬ (((i + d') % n : Nat) : Int) ∈ is
theorem isEnd_unique {n : Nat} {is : List Int} {i : Nat} {e e' : Int} (h : isEnd n is i e) (h' : isEnd n is i e') : e = e' := by
  obtain ⟨d, h1, h2, h3, h4⟩ := h
  obtain ⟨d', g1, g2, g3, g4⟩ := h'
  rcases Nat.lt_trichotomy d d' with q | q | q
  · exact absurd (h2 ▸ h3) (g4 d h1 q)
  · rw [h2, g2, q]
  · exact absurd (g2 ▸ g3) (h4 d' g1 q)
end Lib3
namespace LibTapeR
open PySem L2 Rr Lib Lib2 Lib3 LibTape LibTimes
local macro_rules | `(tactic| walk_at "call") => `(tactic| fail "no call")
local macro_rules | `(tactic| walk_at "calll") => `(tactic| fail "no call")
local macro_rules | `(tactic| walk_at "side") => `(tactic| first | rfl | (with_reducible assumption) | omega | (focus (simp only [List.length_map, List.length_range, List.length_cons, List.length_nil, List.length_append, List.length_replicate, Int.toNat_natCast, rgI]; omega)) | (focus (simp; done)) | (focus (simp; omega)) | decide)
local macro_rules | `(tactic| walk_at "rd") => `(tactic| first | exact RdQ.d _ | exact RdD.d _ | exact RdT.d _ | exact AsD.d _ | exact RdQ.c (k := 0) rfl | exact RdQ.c (k := 1) rfl | exact RdQ.c (k := 2) rfl | exact RdQ.c (k := 3) rfl | exact RdD.c (k := 0) rfl | exact RdD.c (k := 1) rfl | exact RdD.c (k := 2) rfl | exact RdD.c (k := 3) rfl | exact AsD.c (k := 0) rfl | exact AsD.c (k := 1) rfl | exact AsD.c (k := 2) rfl | exact AsD.c (k := 3) rfl | exact RdQ.s _)
local macro_rules | `(tactic| walk_at "sz") => `(tactic| first | (with_reducible assumption) | (apply sz_getD; with_reducible assumption) | (apply sz_mem; (with_reducible assumption); (with_reducible assumption)) | (apply sz_of <;> omega))
local macro_rules | `(tactic| walk_at "mul") => `(tactic| first | (with_reducible assumption) | (apply cmul_sz <;> walk_at "sz"))
local macro_rules | `(tactic| walk_at "pow") => `(tactic| first | (with_reducible assumption) | exact cpow_lt (a := 4) (by decide) (by decide) (by decide) (by decide) | exact cpow_lt (a := 300) (by decide +kernel) (by decide) (by decide) (by decide) | exact cpow_lt (a := 1000) (by omega) (by decide) (by omega) (by omega))
local macro_rules | `(tactic| walk_at "rk") => `(tactic| first
  | (with_reducible exact r_add)
  | (with_reducible exact r_sub)
  | (with_reducible exact r_lt)
  | (with_reducible exact r_le)
  | (with_reducible exact r_gt)
  | (with_reducible exact r_ge)
  | (with_reducible exact r_eqI)
  | (with_reducible exact r_neI)
  | (with_reducible exact r_is)
  | (with_reducible exact r_isNot)
  | (with_reducible exact r_isB)
  | (with_reducible exact r_isNotB)
  | ((with_reducible apply r_mul); walk_at "mul")
  | ((with_reducible apply r_div); (first | (with_reducible assumption) | (apply cdiv_sm <;> omega)))
  | ((with_reducible apply r_mod); (first | (with_reducible assumption) | omega))
  | ((with_reducible apply r_pow); walk_at "pow")
  | ((with_reducible apply r_in); walk_at "rd")
  | ((with_reducible apply r_notIn); walk_at "rd")
  | ((with_reducible apply r_ixI); walk_at "rd"; walk_at "side"; walk_at "side")
  | ((with_reducible apply r_ixB); walk_at "rd"; walk_at "side"; walk_at "side")
  | ((with_reducible apply r_ix); walk_at "rd"; walk_at "side"; walk_at "side"; rfl)
  | ((with_reducible apply r_ixD); walk_at "rd"; walk_at "side"; walk_at "side")
  | ((with_reducible apply r_ixTD); walk_at "rd"; walk_at "side"; walk_at "side")
  | ((with_reducible apply r_eqLI); walk_at "rd"; walk_at "rd")
  | ((with_reducible apply r_neLI); walk_at "rd"; walk_at "rd")
  | ((with_reducible apply r_eqD); walk_at "rd"; walk_at "rd"; (first | (with_reducible assumption) | rfl); (first | (with_reducible assumption) | rfl))
  | ((with_reducible apply r_neD); walk_at "rd"; walk_at "rd"; (first | (with_reducible assumption) | rfl); (first | (with_reducible assumption) | rfl))
  | (apply R2k.ofL; walk_at "rl"))
local macro_rules | `(tactic| walk_at "rl") => `(tactic| first
  | ((with_reducible apply r_cat); walk_at "rd"; walk_at "rd"; walk_at "side")
  | ((with_reducible apply r_rep); walk_at "rd"; walk_at "side"; walk_at "side"; walk_at "side"))
local macro_rules | `(tactic| walk_at "r1") => `(tactic| first
  | ((with_reducible apply r_lenL); walk_at "rd")
  | ((with_reducible apply r_lenT); walk_at "rd")
  | (with_reducible exact r_max2)
  | (with_reducible exact r_min2)
  | ((with_reducible apply r_max); walk_at "rd"; walk_at "side")
  | ((with_reducible apply r_min); walk_at "rd"; walk_at "side")
  | (with_reducible exact r_abs)
  | (with_reducible exact r_intB)
  | ((with_reducible apply r_sum); walk_at "rd")
  | ((with_reducible apply r_all); walk_at "rd")
  | ((with_reducible apply r_any); walk_at "rd")
  | ((with_reducible apply r_tuple); walk_at "rd")
  | (apply R1k.ofL; walk_at "r1l"))
local macro_rules | `(tactic| walk_at "r1l") => `(tactic| first
  | ((with_reducible apply r_sorted); walk_at "rd")
  | ((with_reducible apply r_list); walk_at "rd")
  | ((with_reducible apply r_listT); walk_at "rd"))
local macro_rules | `(tactic| walk_at "ev") => `(tactic| ((fail_if_success (with_reducible apply ev_guard)); first
  | (with_reducible exact ev_int)
  | ((with_reducible apply ev_var); rfl)
  | (with_reducible exact ev_bl)
  | (with_reducible exact ev_str)
  | (with_reducible exact ev_non)
  | ((with_reducible apply ev_isi); walk_at "ev"; walk_at "rd"; (focus (simp; done)))
  | ((with_reducible apply ev_isi2); walk_at "ev"; walk_at "rd"; (focus (simp; done)); (focus (simp; done)))
  | ((with_reducible apply ev_op); walk_at "ev"; walk_at "ev"; walk_at "rk")
  | ((with_reducible apply ev_cb); walk_at "ea"; walk_at "r1")
  | ((with_reducible apply ev_neg); walk_at "ev")
  | ((with_reducible apply ev_count); walk_at "ev"; walk_at "rd"; walk_at "ev")
  | ((with_reducible apply ev_notV); walk_at "ev")
  | ((with_reducible apply ev_andV); walk_at "ev"; (intro _; walk_at "ev"))
  | ((with_reducible apply ev_orV); walk_at "ev"; (intro _; walk_at "ev"))
  | ((with_reducible apply ev_chain); walk_at "ev"; walk_at "ev"; walk_at "rk"; (intro _; walk_at "ev"); (intro _; walk_at "rk"))
  | ((with_reducible apply ev_ifI); walk_at "et"; (intro _; walk_at "ev"); (intro _; walk_at "ev"))
  | ((with_reducible apply ev_tu); walk_at "ed"; walk_at "side")
  | walk_at "call"
  | (apply Ev.ofL; walk_at "el")))
local macro_rules | `(tactic| walk_at "ea") => `(tactic| first
  | (with_reducible exact ea_nil)
  | ((with_reducible apply ea_cons); walk_at "ev"; walk_at "ea"))
local macro_rules | `(tactic| walk_at "ed") => `(tactic| first
  | (exact ed_nil)
  | (apply ed_cons; walk_at "ev"; walk_at "ed"))
local macro_rules | `(tactic| walk_at "et") => `(tactic| ((fail_if_success (with_reducible apply et_guard)); first
  | ((with_reducible apply et_test); walk_at "ev")
  | ((with_reducible apply et_B); walk_at "ev")
  | ((with_reducible apply et_and); walk_at "et"; (intro _; walk_at "et"))
  | ((with_reducible apply et_or); walk_at "et"; (intro _; walk_at "et"))
  | ((with_reducible apply et_not); walk_at "et")
  | (with_reducible exact et_yes)))
local macro_rules | `(tactic| walk_at "el") => `(tactic| ((fail_if_success (with_reducible apply el_guard)); first
  | ((with_reducible apply el_ls); walk_at "ed"; walk_at "side")
  | ((with_reducible apply el_op); walk_at "ev"; walk_at "ev"; walk_at "rl")
  | ((with_reducible apply el_cb); walk_at "ea"; walk_at "r1l")
  | ((with_reducible apply el_lcI); walk_at "ei"; walk_at "side"; (intro _; walk_at "tgw"); (intro _ _ _ hm; (try simp only [List.mem_range] at hm); walk_at "ev"))
  | ((with_reducible apply el_lcB); walk_at "ei"; walk_at "side"; (intro _; walk_at "tgw"); (intro _ _ _ hm; (try simp only [List.mem_range] at hm); walk_at "ev"))
  | ((with_reducible apply el_lc0); walk_at "ei"; walk_at "side"; (intro _; walk_at "tgw"); (intro _ _ _ hm; (try simp only [List.mem_range] at hm); walk_at "ev"))
  | ((with_reducible apply el_lcIf); walk_at "ei"; walk_at "side"; (intro _; walk_at "tgw"); (intro _ _ _ hm; (try simp only [List.mem_range] at hm); walk_at "et"); (intro _ _ _ hm _; (try simp only [List.mem_range] at hm); walk_at "ev"))
  | ((with_reducible apply el_lc); walk_at "ei"; walk_at "side"; (intro _; walk_at "tgw"); (intro _ _ _ hm; (try simp only [List.mem_range] at hm); walk_at "et"); (intro _ _ _ hm _; (try simp only [List.mem_range] at hm); walk_at "ev"))
  | ((with_reducible apply el_slice); walk_at "ev"; walk_at "eo"; walk_at "eo"; walk_at "rd")
  | ((with_reducible apply el_rev); walk_at "ev"; walk_at "rd")
  | ((with_reducible apply el_listRg); walk_at "eg"; omega; omega)
  | walk_at "calll"))
local macro_rules | `(tactic| walk_at "eo") => `(tactic| first | (with_reducible exact eo_none) | ((with_reducible apply eo_some); walk_at "ev"))
local macro_rules | `(tactic| walk_at "eg") => `(tactic| first | ((with_reducible apply eg_1); walk_at "ev") | ((with_reducible apply eg_2); walk_at "ev"; walk_at "ev"))
local macro_rules | `(tactic| walk_at "tgw") => `(tactic| first | exact tgw_name (by simp) | exact tgw_two (by simp) (by simp) | exact tgw_three (by simp) (by simp) (by simp))
local macro_rules | `(tactic| walk_at "tg") => `(tactic| first | exact tg_name | exact tg_two | exact tg_three)
local macro_rules | `(tactic| walk_at "ei") => `(tactic| first
  | ((with_reducible apply ei_range1); walk_at "ea"; omega; omega)
  | ((with_reducible apply ei_range2); walk_at "ea"; omega; omega)
  | ((with_reducible apply ei_rangeD); walk_at "ea"; omega; omega)
  | ((with_reducible apply ei_list); walk_at "ev")
  | ((with_reducible apply ei_enum); walk_at "ea")
  | ((with_reducible apply ei_zip); walk_at "ea"))
theorem tape_one {p : Addr} {b m : Int} {C : Cs} (h : TapeC p b m C) : ∃ x, C = [(p, x)] := by
  obtain ⟨a, c, rfl, _⟩ := h
  exact ⟨_, rfl⟩
end LibTapeR
namespace LibPick
open PySem L2 Rr Lib Lib2 Lib3 LibTape LibTimes LibTapeR
local macro_rules | `(tactic| walk_at "call") => `(tactic| fail "no call")
local macro_rules | `(tactic| walk_at "calll") => `(tactic| fail "no call")
local macro_rules | `(tactic| walk_at "side") => `(tactic| first | rfl | (with_reducible assumption) | omega | (focus (simp only [List.length_map, List.length_range, List.length_cons, List.length_nil, List.length_append, List.length_replicate, Int.toNat_natCast, rgI]; omega)) | (focus (simp; done)) | (focus (simp; omega)) | decide)
local macro_rules | `(tactic| walk_at "rd") => `(tactic| first | exact RdQ.d _ | exact RdD.d _ | exact RdT.d _ | exact AsD.d _ | exact RdQ.c (k := 0) rfl | exact RdQ.c (k := 1) rfl | exact RdQ.c (k := 2) rfl | exact RdQ.c (k := 3) rfl | exact RdD.c (k := 0) rfl | exact RdD.c (k := 1) rfl | exact RdD.c (k := 2) rfl | exact RdD.c (k := 3) rfl | exact AsD.c (k := 0) rfl | exact AsD.c (k := 1) rfl | exact AsD.c (k := 2) rfl | exact AsD.c (k := 3) rfl | exact RdQ.s _)
local macro_rules | `(tactic| walk_at "sz") => `(tactic| first | (with_reducible assumption) | (apply sz_getD; with_reducible assumption) | (apply sz_mem; (with_reducible assumption); (with_reducible assumption)) | (apply sz_of <;> omega))
local macro_rules | `(tactic| walk_at "mul") => `(tactic| first | (with_reducible assumption) | (apply cmul_sz <;> walk_at "sz"))
local macro_rules | `(tactic| walk_at "pow") => `(tactic| first | (with_reducible assumption) | exact cpow_lt (a := 4) (by decide) (by decide) (by decide) (by decide) | exact cpow_lt (a := 300) (by decide +kernel) (by decide) (by decide) (by decide) | exact cpow_lt (a := 1000) (by omega) (by decide) (by omega) (by omega))
local macro_rules | `(tactic| walk_at "rk") => `(tactic| first
  | (with_reducible exact r_add)
  | (with_reducible exact r_sub)
  | (with_reducible exact r_lt)
  | (with_reducible exact r_le)
  | (with_reducible exact r_gt)
  | (with_reducible exact r_ge)
  | (with_reducible exact r_eqI)
  | (with_reducible exact r_neI)
  | (with_reducible exact r_is)
  | (with_reducible exact r_isNot)
  | (with_reducible exact r_isB)
  | (with_reducible exact r_isNotB)
  | ((with_reducible apply r_mul); walk_at "mul")
  | ((with_reducible apply r_div); (first | (with_reducible assumption) | (apply cdiv_sm <;> omega)))
  | ((with_reducible apply r_mod); (first | (with_reducible assumption) | omega))
  | ((with_reducible apply r_pow); walk_at "pow")
  | ((with_reducible apply r_in); walk_at "rd")
  | ((with_reducible apply r_notIn); walk_at "rd")
  | ((with_reducible apply r_ixI); walk_at "rd"; walk_at "side"; walk_at "side")
  | ((with_reducible apply r_ixB); walk_at "rd"; walk_at "side"; walk_at "side")
  | ((with_reducible apply r_ix); walk_at "rd"; walk_at "side"; walk_at "side"; rfl)
  | ((with_reducible apply r_ixD); walk_at "rd"; walk_at "side"; walk_at "side")
  | ((with_reducible apply r_ixTD); walk_at "rd"; walk_at "side"; walk_at "side")
  | ((with_reducible apply r_eqLI); walk_at "rd"; walk_at "rd")
  | ((with_reducible apply r_neLI); walk_at "rd"; walk_at "rd")
  | ((with_reducible apply r_eqD); walk_at "rd"; walk_at "rd"; (first | (with_reducible assumption) | rfl); (first | (with_reducible assumption) | rfl))
  | ((with_reducible apply r_neD); walk_at "rd"; walk_at "rd"; (first | (with_reducible assumption) | rfl); (first | (with_reducible assumption) | rfl))
  | (apply R2k.ofL; walk_at "rl"))
local macro_rules | `(tactic| walk_at "rl") => `(tactic| first
  | ((with_reducible apply r_cat); walk_at "rd"; walk_at "rd"; walk_at "side")
  | ((with_reducible apply r_rep); walk_at "rd"; walk_at "side"; walk_at "side"; walk_at "side"))
local macro_rules | `(tactic| walk_at "r1") => `(tactic| first
  | ((with_reducible apply r_lenL); walk_at "rd")
  | ((with_reducible apply r_lenT); walk_at "rd")
  | (with_reducible exact r_max2)
  | (with_reducible exact r_min2)
  | ((with_reducible apply r_max); walk_at "rd"; walk_at "side")
  | ((with_reducible apply r_min); walk_at "rd"; walk_at "side")
  | (with_reducible exact r_abs)
  | (with_reducible exact r_intB)
  | ((with_reducible apply r_sum); walk_at "rd")
  | ((with_reducible apply r_all); walk_at "rd")
  | ((with_reducible apply r_any); walk_at "rd")
  | ((with_reducible apply r_tuple); walk_at "rd")
  | (apply R1k.ofL; walk_at "r1l"))
local macro_rules | `(tactic| walk_at "r1l") => `(tactic| first
  | ((with_reducible apply r_sorted); walk_at "rd")
  | ((with_reducible apply r_list); walk_at "rd")
  | ((with_reducible apply r_listT); walk_at "rd"))
local macro_rules | `(tactic| walk_at "ev") => `(tactic| ((fail_if_success (with_reducible apply ev_guard)); first
  | (with_reducible exact ev_int)
  | ((with_reducible apply ev_var); rfl)
  | (with_reducible exact ev_bl)
  | (with_reducible exact ev_str)
  | (with_reducible exact ev_non)
  | ((with_reducible apply ev_isi); walk_at "ev"; walk_at "rd"; (focus (simp; done)))
  | ((with_reducible apply ev_isi2); walk_at "ev"; walk_at "rd"; (focus (simp; done)); (focus (simp; done)))
  | ((with_reducible apply ev_op); walk_at "ev"; walk_at "ev"; walk_at "rk")
  | ((with_reducible apply ev_cb); walk_at "ea"; walk_at "r1")
  | ((with_reducible apply ev_neg); walk_at "ev")
  | ((with_reducible apply ev_count); walk_at "ev"; walk_at "rd"; walk_at "ev")
  | ((with_reducible apply ev_notV); walk_at "ev")
  | ((with_reducible apply ev_andV); walk_at "ev"; (intro _; walk_at "ev"))
  | ((with_reducible apply ev_orV); walk_at "ev"; (intro _; walk_at "ev"))
  | ((with_reducible apply ev_chain); walk_at "ev"; walk_at "ev"; walk_at "rk"; (intro _; walk_at "ev"); (intro _; walk_at "rk"))
  | ((with_reducible apply ev_ifI); walk_at "et"; (intro _; walk_at "ev"); (intro _; walk_at "ev"))
  | ((with_reducible apply ev_tu); walk_at "ed"; walk_at "side")
  | walk_at "call"
  | (apply Ev.ofL; walk_at "el")))
local macro_rules | `(tactic| walk_at "ea") => `(tactic| first
  | (with_reducible exact ea_nil)
  | ((with_reducible apply ea_cons); walk_at "ev"; walk_at "ea"))
local macro_rules | `(tactic| walk_at "ed") => `(tactic| first
  | (exact ed_nil)
  | (apply ed_cons; walk_at "ev"; walk_at "ed"))
local macro_rules | `(tactic| walk_at "et") => `(tactic| ((fail_if_success (with_reducible apply et_guard)); first
  | ((with_reducible apply et_test); walk_at "ev")
  | ((with_reducible apply et_B); walk_at "ev")
  | ((with_reducible apply et_and); walk_at "et"; (intro _; walk_at "et"))
  | ((with_reducible apply et_or); walk_at "et"; (intro _; walk_at "et"))
  | ((with_reducible apply et_not); walk_at "et")
  | (with_reducible exact et_yes)))
local macro_rules | `(tactic| walk_at "el") => `(tactic| ((fail_if_success (with_reducible apply el_guard)); first
  | ((with_reducible apply el_ls); walk_at "ed"; walk_at "side")
  | ((with_reducible apply el_op); walk_at "ev"; walk_at "ev"; walk_at "rl")
  | ((with_reducible apply el_cb); walk_at "ea"; walk_at "r1l")
  | ((with_reducible apply el_lcI); walk_at "ei"; walk_at "side"; (intro _; walk_at "tgw"); (intro _ _ _ hm; (try simp only [List.mem_range] at hm); walk_at "ev"))
  | ((with_reducible apply el_lcB); walk_at "ei"; walk_at "side"; (intro _; walk_at "tgw"); (intro _ _ _ hm; (try simp only [List.mem_range] at hm); walk_at "ev"))
  | ((with_reducible apply el_lc0); walk_at "ei"; walk_at "side"; (intro _; walk_at "tgw"); (intro _ _ _ hm; (try simp only [List.mem_range] at hm); walk_at "ev"))
  | ((with_reducible apply el_lcIf); walk_at "ei"; walk_at "side"; (intro _; walk_at "tgw"); (intro _ _ _ hm; (try simp only [List.mem_range] at hm); walk_at "et"); (intro _ _ _ hm _; (try simp only [List.mem_range] at hm); walk_at "ev"))
  | ((with_reducible apply el_lc); walk_at "ei"; walk_at "side"; (intro _; walk_at "tgw"); (intro _ _ _ hm; (try simp only [List.mem_range] at hm); walk_at "et"); (intro _ _ _ hm _; (try simp only [List.mem_range] at hm); walk_at "ev"))
  | ((with_reducible apply el_slice); walk_at "ev"; walk_at "eo"; walk_at "eo"; walk_at "rd")
  | ((with_reducible apply el_rev); walk_at "ev"; walk_at "rd")
  | ((with_reducible apply el_listRg); walk_at "eg"; omega; omega)
  | walk_at "calll"))
local macro_rules | `(tactic| walk_at "eo") => `(tactic| first | (with_reducible exact eo_none) | ((with_reducible apply eo_some); walk_at "ev"))
local macro_rules | `(tactic| walk_at "eg") => `(tactic| first | ((with_reducible apply eg_1); walk_at "ev") | ((with_reducible apply eg_2); walk_at "ev"; walk_at "ev"))
local macro_rules | `(tactic| walk_at "tgw") => `(tactic| first | exact tgw_name (by simp) | exact tgw_two (by simp) (by simp) | exact tgw_three (by simp) (by simp) (by simp))
local macro_rules | `(tactic| walk_at "tg") => `(tactic| first | exact tg_name | exact tg_two | exact tg_three)
local macro_rules | `(tactic| walk_at "ei") => `(tactic| first
  | ((with_reducible apply ei_range1); walk_at "ea"; omega; omega)
  | ((with_reducible apply ei_range2); walk_at "ea"; omega; omega)
  | ((with_reducible apply ei_rangeD); walk_at "ea"; omega; omega)
  | ((with_reducible apply ei_list); walk_at "ev")
  | ((with_reducible apply ei_enum); walk_at "ea")
  | ((with_reducible apply ei_zip); walk_at "ea"))
def t__law_pick (K : PySem.W.Frag) : TS :=
  (tSeq (tIfS (tTest (tOp xGt (tOp (xIx K) (tVar 0) (tC (.int 0))) (tC (.int 0)))) (tSeq (tAsg (tOp xMod (tOp (xIx K) (tVar 0) (tC (.int 0))) (tVar 1)) (gName 2))
    (tSeq (tAsg (tOp xDiv (tOp (xIx K) (tVar 0) (tC (.int 0))) (tVar 1)) (gSub (tVar 0) (tC (.int 0)) rSetL))
    (tRet (tVar 2)))) tNext)
    (tSeq (tAsg (tOp xAdd (tOp (xIx K) (tVar 0) (tC (.int 2))) (tC (.int 1))) (gSub (tVar 0) (tC (.int 2)) rSetL))
    (tSeq (tAsg (tOp xMod (tOp xPow (tOp xAdd (tOp (xIx K) (tVar 0) (tC (.int 1))) (tOp xMul (tC (.int 49979687)) (tOp (xIx K) (tVar 0) (tC (.int 2))))) (tC (.int 3))) (tOp xAdd (tOp xPow (tC (.int 10)) (tC (.int 38))) (tC (.int 133)))) (gName 3))
    (tSeq (tAsg (tOp xMod (tOp xPow (tOp xAdd (tVar 3) (tOp xMul (tC (.int 32452843)) (tOp (xIx K) (tVar 0) (tC (.int 2))))) (tC (.int 3))) (tOp xAdd (tOp xPow (tC (.int 10)) (tC (.int 37))) (tC (.int 43)))) (gName 3))
    (tRet (tOp xMod (tOp xDiv (tVar 3) (tC (.int 131071))) (tVar 1)))))))
def t__law_same (K : PySem.W.Frag) (s__law_same : Sp) : TS :=
  (tSeq (tIfS (tB (tCB (xIsi K) (tCons (tVar 1) (tCons (tTup (tCons (tC (.ty "list")) (tCons (tC (.ty "tuple")) tNil))) tNil)))) (tSeq (tIfS (tOr (tNot (tB (tCB (xIsi K) (tCons (tVar 0) (tCons (tTup (tCons (tC (.ty "list")) (tCons (tC (.ty "tuple")) tNil))) tNil))))) (tTest (tOp (xNe K) (tCB (xIsi K) (tCons (tVar 0) (tCons (tC (.ty "list")) tNil))) (tCB (xIsi K) (tCons (tVar 1) (tCons (tC (.ty "list")) tNil)))))) (tRet (tC (.bl false))) tNext)
    (tRet (tAndV (tOp (xEq K) (tCB (xLen K) (tCons (tVar 0) tNil)) (tCB (xLen K) (tCons (tVar 1) tNil))) (tCB (xAll K) (tCons (tLc (iZip K (tCons (tVar 0) (tCons (tVar 1) tNil))) (gTup K 2 (gCons (gName 2) (gCons (gName 3) gNil))) tYes (tCall s__law_same [] E0 (tCons (tVar 2) (tCons (tVar 3) tNil))) [2, 3]) tNil))))) tNext)
    (tSeq (tIfS (tB (tCB (xIsi K) (tCons (tVar 1) (tCons (tC (.ty "dict")) tNil)))) (tSeq (tIfS (tOr (tNot (tB (tCB (xIsi K) (tCons (tVar 0) (tCons (tC (.ty "dict")) tNil))))) (tNot (tB (tCall s__law_same [] E0 (tCons (tCB (xList K) (tCons (tVar 0) tNil)) (tCons (tCB (xList K) (tCons (tVar 1) tNil)) tNil)))))) (tRet (tC (.bl false))) tNext)
    (tRet (tCB (xAll K) (tCons (tLc (iList K (tVar 1)) (gName 2) tYes (tCall s__law_same [] E0 (tCons (tOp (xIx K) (tVar 0) (tVar 2)) (tCons (tOp (xIx K) (tVar 1) (tVar 2)) tNil))) [2]) tNil)))) tNext)
    (tSeq (tIfS (tOr (tTest (tOp xIs (tVar 1) (tC .non))) (tTest (tOp xIs (tVar 0) (tC .non)))) (tRet (tAndV (tOp xIs (tVar 1) (tC .non)) (tOp xIs (tVar 0) (tC .non)))) tNext)
    (tSeq (tIfS (tOr (tTest (tOp (xNe K) (tCB (xIsi K) (tCons (tVar 0) (tCons (tC (.ty "bool")) tNil))) (tCB (xIsi K) (tCons (tVar 1) (tCons (tC (.ty "bool")) tNil))))) (tTest (tOp (xNe K) (tCB (xIsi K) (tCons (tVar 0) (tCons (tC (.ty "str")) tNil))) (tCB (xIsi K) (tCons (tVar 1) (tCons (tC (.ty "str")) tNil)))))) (tRet (tC (.bl false))) tNext)
    (tRet (tOp (xEq K) (tVar 0) (tVar 1)))))))
def c__law_pick : Ct := { args := fun x : LibUrn.UrnS => [.c x.p, .d (.int x.w)], cells := fun x => [(x.p, .dat [.int x.a, .int x.b, .int x.c])], pre := fun x => 0 ≤ x.a ∧ Bits 200 x.b ∧ 0 ≤ x.c ∧ x.c < 1000000 ∧ 0 < x.w ∧ x.w < 1000000, post := fun x it C => ∃ r a c, it = .d (.int r) ∧ 0 ≤ r ∧ r < x.w ∧ C = [(x.p, .dat [.int a, .int x.b, .int c])] ∧ 0 ≤ a ∧ x.c ≤ c ∧ c ≤ x.c + 1 }
def sp__law_pick (K : PySem.W.Frag) : Sp := c__law_pick.sp K
abbrev N38 : Int := (10 : Int) ^ (38 : Int).toNat + 133
abbrev N37 : Int := (10 : Int) ^ (37 : Int).toNat + 43
theorem n38 : (0 : Int) < N38 ∧ N38 < (2 : Int) ^ 150 := by decide +kernel
theorem n37 : (0 : Int) < N37 ∧ N37 < (2 : Int) ^ 150 := by decide +kernel
theorem p__law_pick {K : PySem.W.Frag} : c__law_pick.keeps K 4 (t__law_pick K) := by
  rintro ⟨p, a, b, c, w⟩ M0 F0 Q ⟨ha, hb, hc0, hc1, hw0, hw1⟩ hQ
  dsimp only at ha hb hc0 hc1 hw0 hw1
  show At ⟨K, M0, F0⟩ _ [some (.c p), some (.d (.int w)), none, none] [(p, .dat [.int a, .int b, .int c])]
  unfold t__law_pick
  refine at_sq ?_
  apply at_if
  · walk_at "et"
  · intro _
    refine at_sq (at_st (it := .d (.int (a % w))) (by walk_at "ev") ?_)
    refine at_sq (at_pt (p := p) (j := 0) (i := 0) (ds := [.int a, .int b, .int c]) (d := .int (a / w)) (by walk_at "ev") (by walk_at "ev") (by walk_at "ev") rfl (by walk_at "side") (by walk_at "side") ?_)
    refine at_rt (it := .d (.int (a % w))) (by walk_at "ev") (hQ F0 (Ex.refl F0) _ _ ⟨_, a / w, c, rfl, Int.emod_nonneg _ (Int.ne_of_gt hw0), Int.emod_lt_of_pos _ hw0, rfl, Int.ediv_nonneg ha (Int.le_of_lt hw0), Int.le_refl _, by show c ≤ c + 1; omega⟩)
  · intro _
    refine at_nx ?_
    refine at_sq (at_pt (p := p) (j := 0) (i := 2) (ds := [.int a, .int b, .int c]) (d := .int (c + 1)) (by walk_at "ev") (by walk_at "ev") (by walk_at "ev") rfl (by walk_at "side") (by walk_at "side") ?_)
    show At _ _ _ [(p, .dat [.int a, .int b, .int (c + 1)])]
    have bc : Bits 20 (c + 1) := ⟨by omega, by show c + 1 < 1048576; omega⟩
    have q38 := n38.1
    have q37 := n37.1
    have b1 : Bits 201 (b + 49979687 * (c + 1)) := bits_add hb ((Bits.mul (a := 30) (x := 49979687) ⟨by decide, by decide⟩ bc).up (by decide))
    have w1 : CPowW (b + 49979687 * (c + 1)) 3 := cpow_lt (a := 201) b1.abs (by decide) (by decide) (by decide)
    obtain ⟨m1, e1, hb1⟩ : ∃ m1, (b + 49979687 * (c + 1)) ^ (3 : Int).toNat % N38 = m1 ∧ Bits 150 m1 := ⟨_, rfl, Int.emod_nonneg _ (Int.ne_of_gt n38.1), Int.lt_trans (Int.emod_lt_of_pos _ n38.1) n38.2⟩
    refine at_sq (at_st (it := .d (.int m1)) ?_ ?_)
    · apply Ev.is
      · walk_at "ev"
      · rw [e1]
    have b2 : Bits 201 (m1 + 32452843 * (c + 1)) := bits_add (hb1.up (by decide)) ((Bits.mul (a := 30) (x := 32452843) ⟨by decide, by decide⟩ bc).up (by decide))
    have w2 : CPowW (m1 + 32452843 * (c + 1)) 3 := cpow_lt (a := 201) b2.abs (by decide) (by decide) (by decide)
    obtain ⟨m2, e2⟩ : ∃ m2, (m1 + 32452843 * (c + 1)) ^ (3 : Int).toNat % N37 = m2 := ⟨_, rfl⟩
    refine at_sq (at_st (it := .d (.int m2)) ?_ ?_)
    · apply Ev.is
      · walk_at "ev"
      · rw [e2]
    refine at_rt (it := .d (.int (m2 / 131071 % w))) (by walk_at "ev") (hQ F0 (Ex.refl F0) _ _ ⟨_, a, c + 1, rfl, Int.emod_nonneg _ (Int.ne_of_gt hw0), Int.emod_lt_of_pos _ hw0, rfl, ha, by show c ≤ c + 1; omega, Int.le_refl _⟩)
section
variable {fm : Fm} {G : Gm} {C C2 : Cs} {tr : TA} {k : Rr.It → Cs → Prop} {p : Addr} {b m w : Int}
theorem w_pickF (h : EvA fm tr G (C ++ C2) [.c p, .d (.int w)]) (hC : TapeC p b m C) (hb : Bits 200 b) (hm : m < 900000) (hw : 0 < w ∧ w < 1000000)
    (hk : ∀ r C', 0 ≤ r → r < w → TapeC p b (m + 1) C' → k (.d (.int r)) (C' ++ C2)) : W fm (tCall (sp__law_pick fm.K) [] E0 tr) G (C ++ C2) k := by
  obtain ⟨a, c, rfl, ha, h0, h1⟩ := hC
  refine w_call (WA.of h ⟨⟨p, a, b, c, w⟩, C2, rfl, rfl, ⟨ha, hb, h0, by show c < 1000000; omega, hw.1, hw.2⟩, ?_⟩)
  rintro it C' ⟨r, a', c', rfl, r0, r1, rfl, ha', q1, q2⟩
  have q1' : c ≤ c' := q1
  have q2' : c' ≤ c + 1 := q2
  exact hk r _ r0 r1 ⟨a', c', rfl, ha', by omega, by omega⟩
theorem w_pick (h : EvA fm tr G C [.c p, .d (.int w)]) (hC : TapeC p b m C) (hb : Bits 200 b) (hm : m < 900000) (hw : 0 < w ∧ w < 1000000)
    (hk : ∀ r C', 0 ≤ r → r < w → TapeC p b (m + 1) C' → k (.d (.int r)) C') : W fm (tCall (sp__law_pick fm.K) [] E0 tr) G C k := by
  have z := w_pickF (C2 := []) (k := k) (by rw [List.append_nil]; exact h) hC hb hm hw fun r C' r0 r1 hC' => by rw [List.append_nil]; exact hk r C' r0 r1 hC'
  rw [List.append_nil] at z
  exact z
end
def deepS : Nat → PyData → Bool
  | 0, _ => false
  | _ + 1, .int _ => true
  | _ + 1, .str _ => true
  | _ + 1, .none => true
  | n + 1, .list ds => ds.all (deepS n) && decide (ds.length ≤ 1000000)
  | _, _ => false
def c__law_same (n : Nat) : Ct := { args := fun d : PyData => [.d d, .d d], pre := fun d => deepS n d = true, post := fun d it C => it = .d (.bool true) ∧ C = [] }
def sp__law_same (K : PySem.W.Frag) : Nat → Sp
  | 0 => fun _ _ _ _ => False
  | n + 1 => (c__law_same (n + 1)).sp K
theorem cl_same {fm : Fm} {G : Gm} {C : Cs} {tr : TA} {n : Nat} {d : PyData} (h : EvA fm tr G C [.d d, .d d]) (hd : deepS n d = true) : Ev fm (tCall (sp__law_same fm.K n) [] E0 tr) G C (.d (.bool true)) := by
  cases n with
  | zero => cases hd
  | succ n => exact ev_call d h rfl rfl hd fun _ _ h => h
theorem ih2 : ∀ ds : List PyData, ds.zip ds = ds.map fun d => (d, d)
  | [] => rfl
  | d :: ds => by rw [List.zip_cons_cons, List.map_cons, ih2 ds]
theorem p__law_same {K : PySem.W.Frag} (n : Nat) : (c__law_same (n + 1)).keeps K 4 (t__law_same K (sp__law_same K n)) := by
  rintro (d : PyData) M0 F0 Q (hd : deepS (n + 1) d = true) hQ
  have h0 := hQ F0 (Ex.refl F0) _ _ ⟨rfl, rfl⟩
  show At ⟨K, M0, F0⟩ _ [some (.d d), some (.d d), none, none] []
  unfold t__law_same
  refine at_sq ?_
  cases d with
  | int i =>
    refine at_if (b := false) ?_ (fun e => by cases e) fun _ => at_nx (at_sq ?_)
    · apply EvT.is
      · walk_at "et"
      · rfl
    refine at_if (b := false) ?_ (fun e => by cases e) fun _ => at_nx (at_sq ?_)
    · apply EvT.is
      · walk_at "et"
      · rfl
    refine at_if (b := false) ?_ (fun e => by cases e) fun _ => at_nx (at_sq ?_)
    · apply EvT.is
      · walk_at "et"
      · rfl
    refine at_if (b := false) ?_ (fun e => by cases e) fun _ => at_nx (at_rt ?_ h0)
    · apply EvT.is
      · walk_at "et"
      · rfl
    apply Ev.is
    · walk_at "ev"
    · simp
  | str i =>
    refine at_if (b := false) ?_ (fun e => by cases e) fun _ => at_nx (at_sq ?_)
    · apply EvT.is
      · walk_at "et"
      · rfl
    refine at_if (b := false) ?_ (fun e => by cases e) fun _ => at_nx (at_sq ?_)
    · apply EvT.is
      · walk_at "et"
      · rfl
    refine at_if (b := false) ?_ (fun e => by cases e) fun _ => at_nx (at_sq ?_)
    · apply EvT.is
      · walk_at "et"
      · rfl
    refine at_if (b := false) ?_ (fun e => by cases e) fun _ => at_nx (at_rt ?_ h0)
    · apply EvT.is
      · walk_at "et"
      · rfl
    apply Ev.is
    · exact ev_op (x := .d (.str i)) (y := .d (.str i)) (by walk_at "ev") (by walk_at "ev") r_eqS
    · simp
  | none =>
    refine at_if (b := false) ?_ (fun e => by cases e) fun _ => at_nx (at_sq ?_)
    · apply EvT.is
      · walk_at "et"
      · rfl
    refine at_if (b := false) ?_ (fun e => by cases e) fun _ => at_nx (at_sq ?_)
    · apply EvT.is
      · walk_at "et"
      · rfl
    refine at_if (b := true) ?_ (fun _ => at_rt ?_ h0) fun e => by cases e
    · apply EvT.is
      · walk_at "et"
      · rfl
    apply Ev.is
    · walk_at "ev"
    · rfl
  | list ds =>
    obtain ⟨hd1, hd2⟩ := Bool.and_eq_true_iff.mp hd
    have hlen := of_decide_eq_true hd2
    refine at_if (b := true) ?_ (fun _ => at_sq ?_) fun e => by cases e
    · apply EvT.is
      · walk_at "et"
      · rfl
    refine at_if (b := false) ?_ (fun e => by cases e) fun _ => at_nx (at_rt ?_ h0)
    · apply EvT.is
      · walk_at "et"
      · rfl
    refine ev_andV (a := true) (b := true) ?_ fun _ => ?_
    · apply Ev.is
      · walk_at "ev"
      · simp
    · apply Ev.is
      · apply ev_cb
        · apply ea_cons
          · apply Ev.ofL
            apply el_lcB (f := fun _ => true) (xs := ds.zip ds) (enc := fun p : PyData × PyData => .d (.tuple [p.1, p.2]))
            · apply ei_zip (e1 := fun d : PyData => d) (e2 := fun d : PyData => d)
              rw [List.map_id']
              walk_at "ea"
            · rw [List.length_zip]
              omega
            · intro _
              walk_at "tgw"
            · intro M0 F0 a ha
              have e : a.1 = a.2 := by
                rw [ih2] at ha
                obtain ⟨d, _, rfl⟩ := List.mem_map.mp ha
                rfl
              obtain ⟨d1, d2⟩ := a
              have e : d1 = d2 := e
              subst e
              exact cl_same (by walk_at "ea") (List.all_eq_true.mp hd1 _ (List.of_mem_zip ha).1)
          · exact ea_nil
        · walk_at "r1"
      · simp
  | tuple ds => cases hd
  | bool b => cases hd
  | dict b => cases hd
end LibPick
namespace LibDist
open PySem L2 Rr Lib Lib2 Lib3 LibTape LibTimes LibTapeR LibPick
local macro_rules | `(tactic| walk_at "call") => `(tactic| fail "no call")
local macro_rules | `(tactic| walk_at "calll") => `(tactic| fail "no call")
local macro_rules | `(tactic| walk_at "side") => `(tactic| first | rfl | (with_reducible assumption) | omega | (focus (simp only [List.length_map, List.length_range, List.length_cons, List.length_nil, List.length_append, List.length_replicate, Int.toNat_natCast, rgI]; omega)) | (focus (simp; done)) | (focus (simp; omega)) | decide)
local macro_rules | `(tactic| walk_at "rd") => `(tactic| first | exact RdQ.d _ | exact RdD.d _ | exact RdT.d _ | exact AsD.d _ | exact RdQ.c (k := 0) rfl | exact RdQ.c (k := 1) rfl | exact RdQ.c (k := 2) rfl | exact RdQ.c (k := 3) rfl | exact RdD.c (k := 0) rfl | exact RdD.c (k := 1) rfl | exact RdD.c (k := 2) rfl | exact RdD.c (k := 3) rfl | exact AsD.c (k := 0) rfl | exact AsD.c (k := 1) rfl | exact AsD.c (k := 2) rfl | exact AsD.c (k := 3) rfl | exact RdQ.s _)
local macro_rules | `(tactic| walk_at "sz") => `(tactic| first | (with_reducible assumption) | (apply sz_getD; with_reducible assumption) | (apply sz_mem; (with_reducible assumption); (with_reducible assumption)) | (apply sz_of <;> omega))
local macro_rules | `(tactic| walk_at "mul") => `(tactic| first | (with_reducible assumption) | (apply cmul_sz <;> walk_at "sz"))
local macro_rules | `(tactic| walk_at "pow") => `(tactic| first | (with_reducible assumption) | exact cpow_lt (a := 4) (by decide) (by decide) (by decide) (by decide) | exact cpow_lt (a := 300) (by decide +kernel) (by decide) (by decide) (by decide) | exact cpow_lt (a := 1000) (by omega) (by decide) (by omega) (by omega))
local macro_rules | `(tactic| walk_at "rk") => `(tactic| first
  | (with_reducible exact r_add)
  | (with_reducible exact r_sub)
  | (with_reducible exact r_lt)
  | (with_reducible exact r_le)
  | (with_reducible exact r_gt)
  | (with_reducible exact r_ge)
  | (with_reducible exact r_eqI)
  | (with_reducible exact r_neI)
  | (with_reducible exact r_is)
  | (with_reducible exact r_isNot)
  | (with_reducible exact r_isB)
  | (with_reducible exact r_isNotB)
  | ((with_reducible apply r_mul); walk_at "mul")
  | ((with_reducible apply r_div); (first | (with_reducible assumption) | (apply cdiv_sm <;> omega)))
  | ((with_reducible apply r_mod); (first | (with_reducible assumption) | omega))
  | ((with_reducible apply r_pow); walk_at "pow")
  | ((with_reducible apply r_in); walk_at "rd")
  | ((with_reducible apply r_notIn); walk_at "rd")
  | ((with_reducible apply r_ixI); walk_at "rd"; walk_at "side"; walk_at "side")
  | ((with_reducible apply r_ixB); walk_at "rd"; walk_at "side"; walk_at "side")
  | ((with_reducible apply r_ix); walk_at "rd"; walk_at "side"; walk_at "side"; rfl)
  | ((with_reducible apply r_ixD); walk_at "rd"; walk_at "side"; walk_at "side")
  | ((with_reducible apply r_ixTD); walk_at "rd"; walk_at "side"; walk_at "side")
  | ((with_reducible apply r_eqLI); walk_at "rd"; walk_at "rd")
  | ((with_reducible apply r_neLI); walk_at "rd"; walk_at "rd")
  | ((with_reducible apply r_eqD); walk_at "rd"; walk_at "rd"; (first | (with_reducible assumption) | rfl); (first | (with_reducible assumption) | rfl))
  | ((with_reducible apply r_neD); walk_at "rd"; walk_at "rd"; (first | (with_reducible assumption) | rfl); (first | (with_reducible assumption) | rfl))
  | (apply R2k.ofL; walk_at "rl"))
local macro_rules | `(tactic| walk_at "rl") => `(tactic| first
  | ((with_reducible apply r_cat); walk_at "rd"; walk_at "rd"; walk_at "side")
  | ((with_reducible apply r_rep); walk_at "rd"; walk_at "side"; walk_at "side"; walk_at "side"))
local macro_rules | `(tactic| walk_at "r1") => `(tactic| first
  | ((with_reducible apply r_lenL); walk_at "rd")
  | ((with_reducible apply r_lenT); walk_at "rd")
  | (with_reducible exact r_max2)
  | (with_reducible exact r_min2)
  | ((with_reducible apply r_max); walk_at "rd"; walk_at "side")
  | ((with_reducible apply r_min); walk_at "rd"; walk_at "side")
  | (with_reducible exact r_abs)
  | (with_reducible exact r_intB)
  | ((with_reducible apply r_sum); walk_at "rd")
  | ((with_reducible apply r_all); walk_at "rd")
  | ((with_reducible apply r_any); walk_at "rd")
  | ((with_reducible apply r_tuple); walk_at "rd")
  | (apply R1k.ofL; walk_at "r1l"))
local macro_rules | `(tactic| walk_at "r1l") => `(tactic| first
  | ((with_reducible apply r_sorted); walk_at "rd")
  | ((with_reducible apply r_list); walk_at "rd")
  | ((with_reducible apply r_listT); walk_at "rd"))
local macro_rules | `(tactic| walk_at "ev") => `(tactic| ((fail_if_success (with_reducible apply ev_guard)); first
  | (with_reducible exact ev_int)
  | ((with_reducible apply ev_var); rfl)
  | (with_reducible exact ev_bl)
  | (with_reducible exact ev_str)
  | (with_reducible exact ev_non)
  | ((with_reducible apply ev_isi); walk_at "ev"; walk_at "rd"; (focus (simp; done)))
  | ((with_reducible apply ev_isi2); walk_at "ev"; walk_at "rd"; (focus (simp; done)); (focus (simp; done)))
  | ((with_reducible apply ev_op); walk_at "ev"; walk_at "ev"; walk_at "rk")
  | ((with_reducible apply ev_cb); walk_at "ea"; walk_at "r1")
  | ((with_reducible apply ev_neg); walk_at "ev")
  | ((with_reducible apply ev_count); walk_at "ev"; walk_at "rd"; walk_at "ev")
  | ((with_reducible apply ev_notV); walk_at "ev")
  | ((with_reducible apply ev_andV); walk_at "ev"; (intro _; walk_at "ev"))
  | ((with_reducible apply ev_orV); walk_at "ev"; (intro _; walk_at "ev"))
  | ((with_reducible apply ev_chain); walk_at "ev"; walk_at "ev"; walk_at "rk"; (intro _; walk_at "ev"); (intro _; walk_at "rk"))
  | ((with_reducible apply ev_ifI); walk_at "et"; (intro _; walk_at "ev"); (intro _; walk_at "ev"))
  | ((with_reducible apply ev_tu); walk_at "ed"; walk_at "side")
  | walk_at "call"
  | (apply Ev.ofL; walk_at "el")))
local macro_rules | `(tactic| walk_at "ea") => `(tactic| first
  | (with_reducible exact ea_nil)
  | ((with_reducible apply ea_cons); walk_at "ev"; walk_at "ea"))
local macro_rules | `(tactic| walk_at "ed") => `(tactic| first
  | (exact ed_nil)
  | (apply ed_cons; walk_at "ev"; walk_at "ed"))
local macro_rules | `(tactic| walk_at "et") => `(tactic| ((fail_if_success (with_reducible apply et_guard)); first
  | ((with_reducible apply et_test); walk_at "ev")
  | ((with_reducible apply et_B); walk_at "ev")
  | ((with_reducible apply et_and); walk_at "et"; (intro _; walk_at "et"))
  | ((with_reducible apply et_or); walk_at "et"; (intro _; walk_at "et"))
  | ((with_reducible apply et_not); walk_at "et")
  | (with_reducible exact et_yes)))
local macro_rules | `(tactic| walk_at "el") => `(tactic| ((fail_if_success (with_reducible apply el_guard)); first
  | ((with_reducible apply el_ls); walk_at "ed"; walk_at "side")
  | ((with_reducible apply el_op); walk_at "ev"; walk_at "ev"; walk_at "rl")
  | ((with_reducible apply el_cb); walk_at "ea"; walk_at "r1l")
  | ((with_reducible apply el_lcI); walk_at "ei"; walk_at "side"; (intro _; walk_at "tgw"); (intro _ _ _ hm; (try simp only [List.mem_range] at hm); walk_at "ev"))
  | ((with_reducible apply el_lcB); walk_at "ei"; walk_at "side"; (intro _; walk_at "tgw"); (intro _ _ _ hm; (try simp only [List.mem_range] at hm); walk_at "ev"))
  | ((with_reducible apply el_lc0); walk_at "ei"; walk_at "side"; (intro _; walk_at "tgw"); (intro _ _ _ hm; (try simp only [List.mem_range] at hm); walk_at "ev"))
  | ((with_reducible apply el_lcIf); walk_at "ei"; walk_at "side"; (intro _; walk_at "tgw"); (intro _ _ _ hm; (try simp only [List.mem_range] at hm); walk_at "et"); (intro _ _ _ hm _; (try simp only [List.mem_range] at hm); walk_at "ev"))
  | ((with_reducible apply el_lc); walk_at "ei"; walk_at "side"; (intro _; walk_at "tgw"); (intro _ _ _ hm; (try simp only [List.mem_range] at hm); walk_at "et"); (intro _ _ _ hm _; (try simp only [List.mem_range] at hm); walk_at "ev"))
  | ((with_reducible apply el_slice); walk_at "ev"; walk_at "eo"; walk_at "eo"; walk_at "rd")
  | ((with_reducible apply el_rev); walk_at "ev"; walk_at "rd")
  | ((with_reducible apply el_listRg); walk_at "eg"; omega; omega)
  | walk_at "calll"))
local macro_rules | `(tactic| walk_at "eo") => `(tactic| first | (with_reducible exact eo_none) | ((with_reducible apply eo_some); walk_at "ev"))
local macro_rules | `(tactic| walk_at "eg") => `(tactic| first | ((with_reducible apply eg_1); walk_at "ev") | ((with_reducible apply eg_2); walk_at "ev"; walk_at "ev"))
local macro_rules | `(tactic| walk_at "tgw") => `(tactic| first | exact tgw_name (by simp) | exact tgw_two (by simp) (by simp) | exact tgw_three (by simp) (by simp) (by simp))
local macro_rules | `(tactic| walk_at "tg") => `(tactic| first | exact tg_name | exact tg_two | exact tg_three)
local macro_rules | `(tactic| walk_at "ei") => `(tactic| first
  | ((with_reducible apply ei_range1); walk_at "ea"; omega; omega)
  | ((with_reducible apply ei_range2); walk_at "ea"; omega; omega)
  | ((with_reducible apply ei_rangeD); walk_at "ea"; omega; omega)
  | ((with_reducible apply ei_list); walk_at "ev")
  | ((with_reducible apply ei_enum); walk_at "ea")
  | ((with_reducible apply ei_zip); walk_at "ea"))
def t_distance_of (K : PySem.W.Frag) : TS :=
  (tRet (tOp xAdd (tOp xMod (tOp xSub (tOp xSub (tVar 2) (tVar 1)) (tC (.int 1))) (tVar 0)) (tC (.int 1))))
theorem server_ok {n i : Int} (h0 : 0 ≤ i) (h1 : i < n) : isInt (.int i) 0 (some (n - 1)) = true := by
  have h5 : i ≤ n - 1 := by omega
  simp [isInt, h0, h5]
structure NIJ where
  n : Int
  i : Int
  j : Int
def dist (n i j : Int) : Int := (j - i - 1) % n + 1
abbrev aNIJ : NIJ → List Rr.It := fun x => [.d (.int x.n), .d (.int x.i), .d (.int x.j)]
def c_distance_of : Ct := { args := aNIJ, pre := fun x => 0 < x.n, post := fun x it C => it = .d (.int (dist x.n x.i x.j)) ∧ C = [] }
def sp_distance_of (K : PySem.W.Frag) : Sp := c_distance_of.sp K
theorem p_distance_of {K : PySem.W.Frag} : c_distance_of.keeps K 3 (t_distance_of K) := by
  rintro ⟨n, i, j⟩ M0 F0 Q h1 hQ
  have h1 : 0 < n := h1
  have h0 := hQ F0 (Ex.refl F0) _ _ ⟨rfl, rfl⟩
  show At ⟨K, M0, F0⟩ _ [some (.d (.int n)), some (.d (.int i)), some (.d (.int j))] []
  unfold t_distance_of
  refine at_rt ?_ h0
  have hn : n ≠ 0 := by omega
  exact ev_op (ev_op (ev_op (ev_op (by walk_at "ev") (by walk_at "ev") r_sub) (by walk_at "ev") r_sub) (by walk_at "ev") (r_mod (by omega))) (by walk_at "ev") r_add
theorem cl_distance_of {fm : Fm} {G : Gm} {C : Cs} {tr : TA} {n i j : Int} (h : EvA fm tr G C [.d (.int n), .d (.int i), .d (.int j)]) (h1 : 0 < n) : Ev fm (tCall (sp_distance_of fm.K) [] E0 tr) G C (.d (.int (dist n i j))) := ev_call ⟨n, i, j⟩ h rfl rfl h1 fun _ _ h => h
theorem mod_small {x n : Int} (h0 : 0 ≤ x) (h1 : x < n) : x % n = x := Int.emod_eq_of_lt h0 h1
theorem mod_once {x n : Int} (h0 : n ≤ x) (h1 : x < 2 * n) : x % n = x - n := by
  have e : x = (x - n) + n := by omega
  rw [e, Int.add_emod_right, mod_small (by omega) (by omega)]
  omega
theorem mod_neg {x n : Int} (h0 : -n ≤ x) (h1 : x < 0) : x % n = x + n := by
  rw [← Int.add_emod_right, mod_small (by omega) (by omega)]
theorem dist_lt {n i j : Int} (i0 : 0 ≤ i) (i1 : i < n) (j0 : 0 ≤ j) (j1 : j < n) : dist n i j = if i < j then j - i else j - i + n := by
  unfold dist
  by_cases e : i < j
  · rw [if_pos e, mod_small (by omega) (by omega)]
    omega
  · rw [if_neg e, mod_neg (by omega) (by omega)]
    omega
theorem dist_rng {n i j : Int} (h : 0 < n) : 1 ≤ dist n i j ∧ dist n i j ≤ n := by
  unfold dist
  have h1 := Int.emod_nonneg (j - i - 1) (Int.ne_of_gt h)
  have h2 := Int.emod_lt_of_pos (j - i - 1) h
  omega
theorem dist_at {n i j : Int} (i0 : 0 ≤ i) (i1 : i < n) (j0 : 0 ≤ j) (j1 : j < n) {f : Int} (f0 : 1 ≤ f) (f1 : f ≤ n) : (i + f) % n = j ↔ f = dist n i j := by
  rw [dist_lt i0 i1 j0 j1]
  by_cases e : i + f < n
  · rw [mod_small (by omega) e]
    by_cases e2 : i < j
    · rw [if_pos e2]; omega
    · rw [if_neg e2]; omega
  · rw [mod_once (by omega) (by omega)]
    by_cases e2 : i < j
    · rw [if_pos e2]; omega
    · rw [if_neg e2]; omega
end LibDist
namespace LibMoves
open PySem L2 Rr Lib Lib2 Lib3 LibPick LibDist
local macro_rules | `(tactic| walk_at "call") => `(tactic| fail "no call")
local macro_rules | `(tactic| walk_at "calll") => `(tactic| fail "no call")
local macro_rules | `(tactic| walk_at "side") => `(tactic| first | rfl | (with_reducible assumption) | omega | (focus (simp only [List.length_map, List.length_range, List.length_cons, List.length_nil, List.length_append, List.length_replicate, Int.toNat_natCast, rgI]; omega)) | (focus (simp; done)) | (focus (simp; omega)) | decide)
local macro_rules | `(tactic| walk_at "rd") => `(tactic| first | exact RdQ.d _ | exact RdD.d _ | exact RdT.d _ | exact AsD.d _ | exact RdQ.c (k := 0) rfl | exact RdQ.c (k := 1) rfl | exact RdQ.c (k := 2) rfl | exact RdQ.c (k := 3) rfl | exact RdD.c (k := 0) rfl | exact RdD.c (k := 1) rfl | exact RdD.c (k := 2) rfl | exact RdD.c (k := 3) rfl | exact AsD.c (k := 0) rfl | exact AsD.c (k := 1) rfl | exact AsD.c (k := 2) rfl | exact AsD.c (k := 3) rfl | exact RdQ.s _)
local macro_rules | `(tactic| walk_at "sz") => `(tactic| first | (with_reducible assumption) | (apply sz_getD; with_reducible assumption) | (apply sz_mem; (with_reducible assumption); (with_reducible assumption)) | (apply sz_of <;> omega))
local macro_rules | `(tactic| walk_at "mul") => `(tactic| first | (with_reducible assumption) | (apply cmul_sz <;> walk_at "sz"))
local macro_rules | `(tactic| walk_at "pow") => `(tactic| first | (with_reducible assumption) | exact cpow_lt (a := 4) (by decide) (by decide) (by decide) (by decide) | exact cpow_lt (a := 300) (by decide +kernel) (by decide) (by decide) (by decide) | exact cpow_lt (a := 1000) (by omega) (by decide) (by omega) (by omega))
local macro_rules | `(tactic| walk_at "rk") => `(tactic| first
  | (with_reducible exact r_add)
  | (with_reducible exact r_sub)
  | (with_reducible exact r_lt)
  | (with_reducible exact r_le)
  | (with_reducible exact r_gt)
  | (with_reducible exact r_ge)
  | (with_reducible exact r_eqI)
  | (with_reducible exact r_neI)
  | (with_reducible exact r_is)
  | (with_reducible exact r_isNot)
  | (with_reducible exact r_isB)
  | (with_reducible exact r_isNotB)
  | ((with_reducible apply r_mul); walk_at "mul")
  | ((with_reducible apply r_div); (first | (with_reducible assumption) | (apply cdiv_sm <;> omega)))
  | ((with_reducible apply r_mod); (first | (with_reducible assumption) | omega))
  | ((with_reducible apply r_pow); walk_at "pow")
  | ((with_reducible apply r_in); walk_at "rd")
  | ((with_reducible apply r_notIn); walk_at "rd")
  | ((with_reducible apply r_ixI); walk_at "rd"; walk_at "side"; walk_at "side")
  | ((with_reducible apply r_ixB); walk_at "rd"; walk_at "side"; walk_at "side")
  | ((with_reducible apply r_ix); walk_at "rd"; walk_at "side"; walk_at "side"; rfl)
  | ((with_reducible apply r_ixD); walk_at "rd"; walk_at "side"; walk_at "side")
  | ((with_reducible apply r_ixTD); walk_at "rd"; walk_at "side"; walk_at "side")
  | ((with_reducible apply r_eqLI); walk_at "rd"; walk_at "rd")
  | ((with_reducible apply r_neLI); walk_at "rd"; walk_at "rd")
  | ((with_reducible apply r_eqD); walk_at "rd"; walk_at "rd"; (first | (with_reducible assumption) | rfl); (first | (with_reducible assumption) | rfl))
  | ((with_reducible apply r_neD); walk_at "rd"; walk_at "rd"; (first | (with_reducible assumption) | rfl); (first | (with_reducible assumption) | rfl))
  | (apply R2k.ofL; walk_at "rl"))
local macro_rules | `(tactic| walk_at "rl") => `(tactic| first
  | ((with_reducible apply r_cat); walk_at "rd"; walk_at "rd"; walk_at "side")
  | ((with_reducible apply r_rep); walk_at "rd"; walk_at "side"; walk_at "side"; walk_at "side"))
local macro_rules | `(tactic| walk_at "r1") => `(tactic| first
  | ((with_reducible apply r_lenL); walk_at "rd")
  | ((with_reducible apply r_lenT); walk_at "rd")
  | (with_reducible exact r_max2)
  | (with_reducible exact r_min2)
  | ((with_reducible apply r_max); walk_at "rd"; walk_at "side")
  | ((with_reducible apply r_min); walk_at "rd"; walk_at "side")
  | (with_reducible exact r_abs)
  | (with_reducible exact r_intB)
  | ((with_reducible apply r_sum); walk_at "rd")
  | ((with_reducible apply r_all); walk_at "rd")
  | ((with_reducible apply r_any); walk_at "rd")
  | ((with_reducible apply r_tuple); walk_at "rd")
  | (apply R1k.ofL; walk_at "r1l"))
local macro_rules | `(tactic| walk_at "r1l") => `(tactic| first
  | ((with_reducible apply r_sorted); walk_at "rd")
  | ((with_reducible apply r_list); walk_at "rd")
  | ((with_reducible apply r_listT); walk_at "rd"))
local macro_rules | `(tactic| walk_at "ev") => `(tactic| ((fail_if_success (with_reducible apply ev_guard)); first
  | (with_reducible exact ev_int)
  | ((with_reducible apply ev_var); rfl)
  | (with_reducible exact ev_bl)
  | (with_reducible exact ev_str)
  | (with_reducible exact ev_non)
  | ((with_reducible apply ev_isi); walk_at "ev"; walk_at "rd"; (focus (simp; done)))
  | ((with_reducible apply ev_isi2); walk_at "ev"; walk_at "rd"; (focus (simp; done)); (focus (simp; done)))
  | ((with_reducible apply ev_op); walk_at "ev"; walk_at "ev"; walk_at "rk")
  | ((with_reducible apply ev_cb); walk_at "ea"; walk_at "r1")
  | ((with_reducible apply ev_neg); walk_at "ev")
  | ((with_reducible apply ev_count); walk_at "ev"; walk_at "rd"; walk_at "ev")
  | ((with_reducible apply ev_notV); walk_at "ev")
  | ((with_reducible apply ev_andV); walk_at "ev"; (intro _; walk_at "ev"))
  | ((with_reducible apply ev_orV); walk_at "ev"; (intro _; walk_at "ev"))
  | ((with_reducible apply ev_chain); walk_at "ev"; walk_at "ev"; walk_at "rk"; (intro _; walk_at "ev"); (intro _; walk_at "rk"))
  | ((with_reducible apply ev_ifI); walk_at "et"; (intro _; walk_at "ev"); (intro _; walk_at "ev"))
  | ((with_reducible apply ev_tu); walk_at "ed"; walk_at "side")
  | walk_at "call"
  | (apply Ev.ofL; walk_at "el")))
local macro_rules | `(tactic| walk_at "ea") => `(tactic| first
  | (with_reducible exact ea_nil)
  | ((with_reducible apply ea_cons); walk_at "ev"; walk_at "ea"))
local macro_rules | `(tactic| walk_at "ed") => `(tactic| first
  | (exact ed_nil)
  | (apply ed_cons; walk_at "ev"; walk_at "ed"))
local macro_rules | `(tactic| walk_at "et") => `(tactic| ((fail_if_success (with_reducible apply et_guard)); first
  | ((with_reducible apply et_test); walk_at "ev")
  | ((with_reducible apply et_B); walk_at "ev")
  | ((with_reducible apply et_and); walk_at "et"; (intro _; walk_at "et"))
  | ((with_reducible apply et_or); walk_at "et"; (intro _; walk_at "et"))
  | ((with_reducible apply et_not); walk_at "et")
  | (with_reducible exact et_yes)))
local macro_rules | `(tactic| walk_at "el") => `(tactic| ((fail_if_success (with_reducible apply el_guard)); first
  | ((with_reducible apply el_ls); walk_at "ed"; walk_at "side")
  | ((with_reducible apply el_op); walk_at "ev"; walk_at "ev"; walk_at "rl")
  | ((with_reducible apply el_cb); walk_at "ea"; walk_at "r1l")
  | ((with_reducible apply el_lcI); walk_at "ei"; walk_at "side"; (intro _; walk_at "tgw"); (intro _ _ _ hm; (try simp only [List.mem_range] at hm); walk_at "ev"))
  | ((with_reducible apply el_lcB); walk_at "ei"; walk_at "side"; (intro _; walk_at "tgw"); (intro _ _ _ hm; (try simp only [List.mem_range] at hm); walk_at "ev"))
  | ((with_reducible apply el_lc0); walk_at "ei"; walk_at "side"; (intro _; walk_at "tgw"); (intro _ _ _ hm; (try simp only [List.mem_range] at hm); walk_at "ev"))
  | ((with_reducible apply el_lcIf); walk_at "ei"; walk_at "side"; (intro _; walk_at "tgw"); (intro _ _ _ hm; (try simp only [List.mem_range] at hm); walk_at "et"); (intro _ _ _ hm _; (try simp only [List.mem_range] at hm); walk_at "ev"))
  | ((with_reducible apply el_lc); walk_at "ei"; walk_at "side"; (intro _; walk_at "tgw"); (intro _ _ _ hm; (try simp only [List.mem_range] at hm); walk_at "et"); (intro _ _ _ hm _; (try simp only [List.mem_range] at hm); walk_at "ev"))
  | ((with_reducible apply el_slice); walk_at "ev"; walk_at "eo"; walk_at "eo"; walk_at "rd")
  | ((with_reducible apply el_rev); walk_at "ev"; walk_at "rd")
  | ((with_reducible apply el_listRg); walk_at "eg"; omega; omega)
  | walk_at "calll"))
local macro_rules | `(tactic| walk_at "eo") => `(tactic| first | (with_reducible exact eo_none) | ((with_reducible apply eo_some); walk_at "ev"))
local macro_rules | `(tactic| walk_at "eg") => `(tactic| first | ((with_reducible apply eg_1); walk_at "ev") | ((with_reducible apply eg_2); walk_at "ev"; walk_at "ev"))
local macro_rules | `(tactic| walk_at "tgw") => `(tactic| first | exact tgw_name (by simp) | exact tgw_two (by simp) (by simp) | exact tgw_three (by simp) (by simp) (by simp))
local macro_rules | `(tactic| walk_at "tg") => `(tactic| first | exact tg_name | exact tg_two | exact tg_three)
local macro_rules | `(tactic| walk_at "ei") => `(tactic| first
  | ((with_reducible apply ei_range1); walk_at "ea"; omega; omega)
  | ((with_reducible apply ei_range2); walk_at "ea"; omega; omega)
  | ((with_reducible apply ei_rangeD); walk_at "ea"; omega; omega)
  | ((with_reducible apply ei_list); walk_at "ev")
  | ((with_reducible apply ei_enum); walk_at "ea")
  | ((with_reducible apply ei_zip); walk_at "ea"))
def lst (l : List Int) : Int := l.getD (pyIx l.length (-1)) 0
end LibMoves
namespace LibEnds
open PySem L2 Rr Lib Lib2 Lib3 LibPick LibDist
open LibTape (TapeC)
open LibTapeR (tape_one)
local macro_rules | `(tactic| walk_at "call") => `(tactic| fail "no call")
local macro_rules | `(tactic| walk_at "calll") => `(tactic| fail "no call")
local macro_rules | `(tactic| walk_at "side") => `(tactic| first | rfl | (with_reducible assumption) | omega | (focus (simp only [List.length_map, List.length_range, List.length_cons, List.length_nil, List.length_append, List.length_replicate, Int.toNat_natCast, rgI]; omega)) | (focus (simp; done)) | (focus (simp; omega)) | decide)
local macro_rules | `(tactic| walk_at "rd") => `(tactic| first | exact RdQ.d _ | exact RdD.d _ | exact RdT.d _ | exact AsD.d _ | exact RdQ.c (k := 0) rfl | exact RdQ.c (k := 1) rfl | exact RdQ.c (k := 2) rfl | exact RdQ.c (k := 3) rfl | exact RdD.c (k := 0) rfl | exact RdD.c (k := 1) rfl | exact RdD.c (k := 2) rfl | exact RdD.c (k := 3) rfl | exact AsD.c (k := 0) rfl | exact AsD.c (k := 1) rfl | exact AsD.c (k := 2) rfl | exact AsD.c (k := 3) rfl | exact RdQ.s _)
local macro_rules | `(tactic| walk_at "sz") => `(tactic| first | (with_reducible assumption) | (apply sz_getD; with_reducible assumption) | (apply sz_mem; (with_reducible assumption); (with_reducible assumption)) | (apply sz_of <;> omega))
local macro_rules | `(tactic| walk_at "mul") => `(tactic| first | (with_reducible assumption) | (apply cmul_sz <;> walk_at "sz"))
local macro_rules | `(tactic| walk_at "pow") => `(tactic| first | (with_reducible assumption) | exact cpow_lt (a := 4) (by decide) (by decide) (by decide) (by decide) | exact cpow_lt (a := 300) (by decide +kernel) (by decide) (by decide) (by decide) | exact cpow_lt (a := 1000) (by omega) (by decide) (by omega) (by omega))
local macro_rules | `(tactic| walk_at "rk") => `(tactic| first
  | (with_reducible exact r_add)
  | (with_reducible exact r_sub)
  | (with_reducible exact r_lt)
  | (with_reducible exact r_le)
  | (with_reducible exact r_gt)
  | (with_reducible exact r_ge)
  | (with_reducible exact r_eqI)
  | (with_reducible exact r_neI)
  | (with_reducible exact r_is)
  | (with_reducible exact r_isNot)
  | (with_reducible exact r_isB)
  | (with_reducible exact r_isNotB)
  | ((with_reducible apply r_mul); walk_at "mul")
  | ((with_reducible apply r_div); (first | (with_reducible assumption) | (apply cdiv_sm <;> omega)))
  | ((with_reducible apply r_mod); (first | (with_reducible assumption) | omega))
  | ((with_reducible apply r_pow); walk_at "pow")
  | ((with_reducible apply r_in); walk_at "rd")
  | ((with_reducible apply r_notIn); walk_at "rd")
  | ((with_reducible apply r_ixI); walk_at "rd"; walk_at "side"; walk_at "side")
  | ((with_reducible apply r_ixB); walk_at "rd"; walk_at "side"; walk_at "side")
  | ((with_reducible apply r_ix); walk_at "rd"; walk_at "side"; walk_at "side"; rfl)
  | ((with_reducible apply r_ixD); walk_at "rd"; walk_at "side"; walk_at "side")
  | ((with_reducible apply r_ixTD); walk_at "rd"; walk_at "side"; walk_at "side")
  | ((with_reducible apply r_eqLI); walk_at "rd"; walk_at "rd")
  | ((with_reducible apply r_neLI); walk_at "rd"; walk_at "rd")
  | ((with_reducible apply r_eqD); walk_at "rd"; walk_at "rd"; (first | (with_reducible assumption) | rfl); (first | (with_reducible assumption) | rfl))
  | ((with_reducible apply r_neD); walk_at "rd"; walk_at "rd"; (first | (with_reducible assumption) | rfl); (first | (with_reducible assumption) | rfl))
  | (apply R2k.ofL; walk_at "rl"))
local macro_rules | `(tactic| walk_at "rl") => `(tactic| first
  | ((with_reducible apply r_cat); walk_at "rd"; walk_at "rd"; walk_at "side")
  | ((with_reducible apply r_rep); walk_at "rd"; walk_at "side"; walk_at "side"; walk_at "side"))
local macro_rules | `(tactic| walk_at "r1") => `(tactic| first
  | ((with_reducible apply r_lenL); walk_at "rd")
  | ((with_reducible apply r_lenT); walk_at "rd")
  | (with_reducible exact r_max2)
  | (with_reducible exact r_min2)
  | ((with_reducible apply r_max); walk_at "rd"; walk_at "side")
  | ((with_reducible apply r_min); walk_at "rd"; walk_at "side")
  | (with_reducible exact r_abs)
  | (with_reducible exact r_intB)
  | ((with_reducible apply r_sum); walk_at "rd")
  | ((with_reducible apply r_all); walk_at "rd")
  | ((with_reducible apply r_any); walk_at "rd")
  | ((with_reducible apply r_tuple); walk_at "rd")
  | (apply R1k.ofL; walk_at "r1l"))
local macro_rules | `(tactic| walk_at "r1l") => `(tactic| first
  | ((with_reducible apply r_sorted); walk_at "rd")
  | ((with_reducible apply r_list); walk_at "rd")
  | ((with_reducible apply r_listT); walk_at "rd"))
local macro_rules | `(tactic| walk_at "ev") => `(tactic| ((fail_if_success (with_reducible apply ev_guard)); first
  | (with_reducible exact ev_int)
  | ((with_reducible apply ev_var); rfl)
  | (with_reducible exact ev_bl)
  | (with_reducible exact ev_str)
  | (with_reducible exact ev_non)
  | ((with_reducible apply ev_isi); walk_at "ev"; walk_at "rd"; (focus (simp; done)))
  | ((with_reducible apply ev_isi2); walk_at "ev"; walk_at "rd"; (focus (simp; done)); (focus (simp; done)))
  | ((with_reducible apply ev_op); walk_at "ev"; walk_at "ev"; walk_at "rk")
  | ((with_reducible apply ev_cb); walk_at "ea"; walk_at "r1")
  | ((with_reducible apply ev_neg); walk_at "ev")
  | ((with_reducible apply ev_count); walk_at "ev"; walk_at "rd"; walk_at "ev")
  | ((with_reducible apply ev_notV); walk_at "ev")
  | ((with_reducible apply ev_andV); walk_at "ev"; (intro _; walk_at "ev"))
  | ((with_reducible apply ev_orV); walk_at "ev"; (intro _; walk_at "ev"))
  | ((with_reducible apply ev_chain); walk_at "ev"; walk_at "ev"; walk_at "rk"; (intro _; walk_at "ev"); (intro _; walk_at "rk"))
  | ((with_reducible apply ev_ifI); walk_at "et"; (intro _; walk_at "ev"); (intro _; walk_at "ev"))
  | ((with_reducible apply ev_tu); walk_at "ed"; walk_at "side")
  | walk_at "call"
  | (apply Ev.ofL; walk_at "el")))
local macro_rules | `(tactic| walk_at "ea") => `(tactic| first
  | (with_reducible exact ea_nil)
  | ((with_reducible apply ea_cons); walk_at "ev"; walk_at "ea"))
local macro_rules | `(tactic| walk_at "ed") => `(tactic| first
  | (exact ed_nil)
  | (apply ed_cons; walk_at "ev"; walk_at "ed"))
local macro_rules | `(tactic| walk_at "et") => `(tactic| ((fail_if_success (with_reducible apply et_guard)); first
  | ((with_reducible apply et_test); walk_at "ev")
  | ((with_reducible apply et_B); walk_at "ev")
  | ((with_reducible apply et_and); walk_at "et"; (intro _; walk_at "et"))
  | ((with_reducible apply et_or); walk_at "et"; (intro _; walk_at "et"))
  | ((with_reducible apply et_not); walk_at "et")
  | (with_reducible exact et_yes)))
local macro_rules | `(tactic| walk_at "el") => `(tactic| ((fail_if_success (with_reducible apply el_guard)); first
  | ((with_reducible apply el_ls); walk_at "ed"; walk_at "side")
  | ((with_reducible apply el_op); walk_at "ev"; walk_at "ev"; walk_at "rl")
  | ((with_reducible apply el_cb); walk_at "ea"; walk_at "r1l")
  | ((with_reducible apply el_lcI); walk_at "ei"; walk_at "side"; (intro _; walk_at "tgw"); (intro _ _ _ hm; (try simp only [List.mem_range] at hm); walk_at "ev"))
  | ((with_reducible apply el_lcB); walk_at "ei"; walk_at "side"; (intro _; walk_at "tgw"); (intro _ _ _ hm; (try simp only [List.mem_range] at hm); walk_at "ev"))
  | ((with_reducible apply el_lc0); walk_at "ei"; walk_at "side"; (intro _; walk_at "tgw"); (intro _ _ _ hm; (try simp only [List.mem_range] at hm); walk_at "ev"))
  | ((with_reducible apply el_lcIf); walk_at "ei"; walk_at "side"; (intro _; walk_at "tgw"); (intro _ _ _ hm; (try simp only [List.mem_range] at hm); walk_at "et"); (intro _ _ _ hm _; (try simp only [List.mem_range] at hm); walk_at "ev"))
  | ((with_reducible apply el_lc); walk_at "ei"; walk_at "side"; (intro _; walk_at "tgw"); (intro _ _ _ hm; (try simp only [List.mem_range] at hm); walk_at "et"); (intro _ _ _ hm _; (try simp only [List.mem_range] at hm); walk_at "ev"))
  | ((with_reducible apply el_slice); walk_at "ev"; walk_at "eo"; walk_at "eo"; walk_at "rd")
  | ((with_reducible apply el_rev); walk_at "ev"; walk_at "rd")
  | ((with_reducible apply el_listRg); walk_at "eg"; omega; omega)
  | walk_at "calll"))
local macro_rules | `(tactic| walk_at "eo") => `(tactic| first | (with_reducible exact eo_none) | ((with_reducible apply eo_some); walk_at "ev"))
local macro_rules | `(tactic| walk_at "eg") => `(tactic| first | ((with_reducible apply eg_1); walk_at "ev") | ((with_reducible apply eg_2); walk_at "ev"; walk_at "ev"))
local macro_rules | `(tactic| walk_at "tgw") => `(tactic| first | exact tgw_name (by simp) | exact tgw_two (by simp) (by simp) | exact tgw_three (by simp) (by simp) (by simp))
local macro_rules | `(tactic| walk_at "tg") => `(tactic| first | exact tg_name | exact tg_two | exact tg_three)
local macro_rules | `(tactic| walk_at "ei") => `(tactic| first
  | ((with_reducible apply ei_range1); walk_at "ea"; omega; omega)
  | ((with_reducible apply ei_range2); walk_at "ea"; omega; omega)
  | ((with_reducible apply ei_rangeD); walk_at "ea"; omega; omega)
  | ((with_reducible apply ei_list); walk_at "ev")
  | ((with_reducible apply ei_enum); walk_at "ea")
  | ((with_reducible apply ei_zip); walk_at "ea"))
def folL (n : Nat) (is : List Int) : Nat → Int
  | 0 => is.getD 0 0
  | m + 1 => if (n : Int) - 1 - (m : Int) ∈ is then (n : Int) - 1 - (m : Int) else folL n is m
def endsL (n : Nat) (is : List Int) : List Int := ((List.range n).map (folL n is)).reverse
theorem endsL_len (n : Nat) (is : List Int) : (endsL n is).length = n := by unfold endsL; rw [List.length_reverse, List.length_map, List.length_range]
theorem endsL_at {n : Nat} {is : List Int} {i : Nat} (hi : i < n) : (endsL n is).getD i 0 = folL n is (n - 1 - i) := by
  unfold endsL
  rw [List.getD_eq_getElem?_getD, List.getElem?_reverse (by rw [List.length_map, List.length_range]; exact hi), List.getElem?_map, List.length_map, List.length_range, List.getElem?_range (by omega)]
  rfl
theorem fol_end {n : Nat} {is : List Int} (hd : DOk n is) : ∀ m : Nat, m < n → isEnd n is (n - 1 - m) (folL n is m)
  | 0, h => by
    have hpos := hd.pos
    obtain ⟨y, l, rfl⟩ : ∃ y l, is = y :: l := by
      cases is with
      | nil => simp at hpos
      | cons y l => exact ⟨y, l, rfl⟩
    have hy := hd.rng y List.mem_cons_self
    have hmin := (List.pairwise_cons.mp hd.up).1
    have hmod : ∀ d : Nat, 1 ≤ d → d ≤ n → (n - 1 - 0 + d) % n = d - 1 := fun d d0 d1 => by
      rw [show n - 1 - 0 + d = (d - 1) + n by omega, Nat.add_mod_right, Nat.mod_eq_of_lt (by omega)]
    refine ⟨y.toNat + 1, by omega, ?_, List.mem_cons_self, fun d' g1 g2 z => ?_⟩
    · show y = _
      rw [hmod _ (by omega) (by omega)]
      omega
    · rw [hmod d' g1 (by omega)] at z
      rcases List.mem_cons.mp z with q | q
      · omega
      · have := hmin _ q
        omega
  | m + 1, h => by
    have ih := fol_end hd m (by omega)
    have e1 : n - 1 - (m + 1) + 1 = n - 1 - m := by omega
    have hmod : ∀ d : Nat, (n - 1 - (m + 1) + (d + 1)) % n = (n - 1 - m + d) % n := fun d => by
      rw [show n - 1 - (m + 1) + (d + 1) = n - 1 - m + d by omega]
    have e2 : (((n - 1 - m : Nat)) : Int) = (n : Int) - 1 - (m : Int) := by omega
    show isEnd n is _ (if (n : Int) - 1 - (m : Int) ∈ is then (n : Int) - 1 - (m : Int) else folL n is m)
    by_cases q : (n : Int) - 1 - (m : Int) ∈ is
    · rw [if_pos q]
      refine ⟨1, Nat.le_refl _, ?_, q, fun d' g1 g2 => by omega⟩
      rw [hmod 0, Nat.add_zero, Nat.mod_eq_of_lt (by omega), e2]
    · rw [if_neg q]
      obtain ⟨d, h1, h2, h3, h4⟩ := ih
      refine ⟨d + 1, by omega, by rw [hmod]; exact h2, h3, fun d' g1 g2 => ?_⟩
      obtain ⟨d'', rfl⟩ : ∃ x, d' = x + 1 := ⟨d' - 1, by omega⟩
      rw [hmod]
      cases d'' with
      | zero =>
        rw [Nat.add_zero, Nat.mod_eq_of_lt (by omega), e2]
        exact q
      | succ d'' => exact h4 (d'' + 1) (by omega) (by omega)
theorem ends_end {n : Nat} {is : List Int} (hd : DOk n is) {i : Nat} (hi : i < n) : isEnd n is i ((endsL n is).getD i 0) := by
  rw [endsL_at hi]
  have z := fol_end hd (n - 1 - i) (by omega)
  have e : n - 1 - (n - 1 - i) = i := by omega
  rw [e] at z
  exact z
end LibEnds
namespace LibFeed
open PySem L2 Rr Lib Lib2 Lib3 LibDist LibMoves LibEnds
open LibTape (TapeC bits_add)
open LibTapeR (tape_one)
local macro_rules | `(tactic| walk_at "call") => `(tactic| fail "no call")
local macro_rules | `(tactic| walk_at "calll") => `(tactic| fail "no call")
local macro_rules | `(tactic| walk_at "side") => `(tactic| first | rfl | (with_reducible assumption) | omega | (focus (simp only [List.length_map, List.length_range, List.length_cons, List.length_nil, List.length_append, List.length_replicate, Int.toNat_natCast, rgI]; omega)) | (focus (simp; done)) | (focus (simp; omega)) | decide)
local macro_rules | `(tactic| walk_at "rd") => `(tactic| first | exact RdQ.d _ | exact RdD.d _ | exact RdT.d _ | exact AsD.d _ | exact RdQ.c (k := 0) rfl | exact RdQ.c (k := 1) rfl | exact RdQ.c (k := 2) rfl | exact RdQ.c (k := 3) rfl | exact RdD.c (k := 0) rfl | exact RdD.c (k := 1) rfl | exact RdD.c (k := 2) rfl | exact RdD.c (k := 3) rfl | exact AsD.c (k := 0) rfl | exact AsD.c (k := 1) rfl | exact AsD.c (k := 2) rfl | exact AsD.c (k := 3) rfl | exact RdQ.s _)
local macro_rules | `(tactic| walk_at "sz") => `(tactic| first | (with_reducible assumption) | (apply sz_getD; with_reducible assumption) | (apply sz_mem; (with_reducible assumption); (with_reducible assumption)) | (apply sz_of <;> omega))
local macro_rules | `(tactic| walk_at "mul") => `(tactic| first | (with_reducible assumption) | (apply cmul_sz <;> walk_at "sz"))
local macro_rules | `(tactic| walk_at "pow") => `(tactic| first | (with_reducible assumption) | exact cpow_lt (a := 4) (by decide) (by decide) (by decide) (by decide) | exact cpow_lt (a := 300) (by decide +kernel) (by decide) (by decide) (by decide) | exact cpow_lt (a := 1000) (by omega) (by decide) (by omega) (by omega))
local macro_rules | `(tactic| walk_at "rk") => `(tactic| first
  | (with_reducible exact r_add)
  | (with_reducible exact r_sub)
  | (with_reducible exact r_lt)
  | (with_reducible exact r_le)
  | (with_reducible exact r_gt)
  | (with_reducible exact r_ge)
  | (with_reducible exact r_eqI)
  | (with_reducible exact r_neI)
  | (with_reducible exact r_is)
  | (with_reducible exact r_isNot)
  | (with_reducible exact r_isB)
  | (with_reducible exact r_isNotB)
  | ((with_reducible apply r_mul); walk_at "mul")
  | ((with_reducible apply r_div); (first | (with_reducible assumption) | (apply cdiv_sm <;> omega)))
  | ((with_reducible apply r_mod); (first | (with_reducible assumption) | omega))
  | ((with_reducible apply r_pow); walk_at "pow")
  | ((with_reducible apply r_in); walk_at "rd")
  | ((with_reducible apply r_notIn); walk_at "rd")
  | ((with_reducible apply r_ixI); walk_at "rd"; walk_at "side"; walk_at "side")
  | ((with_reducible apply r_ixB); walk_at "rd"; walk_at "side"; walk_at "side")
  | ((with_reducible apply r_ix); walk_at "rd"; walk_at "side"; walk_at "side"; rfl)
  | ((with_reducible apply r_ixD); walk_at "rd"; walk_at "side"; walk_at "side")
  | ((with_reducible apply r_ixTD); walk_at "rd"; walk_at "side"; walk_at "side")
  | ((with_reducible apply r_eqLI); walk_at "rd"; walk_at "rd")
  | ((with_reducible apply r_neLI); walk_at "rd"; walk_at "rd")
  | ((with_reducible apply r_eqD); walk_at "rd"; walk_at "rd"; (first | (with_reducible assumption) | rfl); (first | (with_reducible assumption) | rfl))
  | ((with_reducible apply r_neD); walk_at "rd"; walk_at "rd"; (first | (with_reducible assumption) | rfl); (first | (with_reducible assumption) | rfl))
  | (apply R2k.ofL; walk_at "rl"))
local macro_rules | `(tactic| walk_at "rl") => `(tactic| first
  | ((with_reducible apply r_cat); walk_at "rd"; walk_at "rd"; walk_at "side")
  | ((with_reducible apply r_rep); walk_at "rd"; walk_at "side"; walk_at "side"; walk_at "side"))
local macro_rules | `(tactic| walk_at "r1") => `(tactic| first
  | ((with_reducible apply r_lenL); walk_at "rd")
  | ((with_reducible apply r_lenT); walk_at "rd")
  | (with_reducible exact r_max2)
  | (with_reducible exact r_min2)
  | ((with_reducible apply r_max); walk_at "rd"; walk_at "side")
  | ((with_reducible apply r_min); walk_at "rd"; walk_at "side")
  | (with_reducible exact r_abs)
  | (with_reducible exact r_intB)
  | ((with_reducible apply r_sum); walk_at "rd")
  | ((with_reducible apply r_all); walk_at "rd")
  | ((with_reducible apply r_any); walk_at "rd")
  | ((with_reducible apply r_tuple); walk_at "rd")
  | (apply R1k.ofL; walk_at "r1l"))
local macro_rules | `(tactic| walk_at "r1l") => `(tactic| first
  | ((with_reducible apply r_sorted); walk_at "rd")
  | ((with_reducible apply r_list); walk_at "rd")
  | ((with_reducible apply r_listT); walk_at "rd"))
local macro_rules | `(tactic| walk_at "ev") => `(tactic| ((fail_if_success (with_reducible apply ev_guard)); first
  | (with_reducible exact ev_int)
  | ((with_reducible apply ev_var); rfl)
  | (with_reducible exact ev_bl)
  | (with_reducible exact ev_str)
  | (with_reducible exact ev_non)
  | ((with_reducible apply ev_isi); walk_at "ev"; walk_at "rd"; (focus (simp; done)))
  | ((with_reducible apply ev_isi2); walk_at "ev"; walk_at "rd"; (focus (simp; done)); (focus (simp; done)))
  | ((with_reducible apply ev_op); walk_at "ev"; walk_at "ev"; walk_at "rk")
  | ((with_reducible apply ev_cb); walk_at "ea"; walk_at "r1")
  | ((with_reducible apply ev_neg); walk_at "ev")
  | ((with_reducible apply ev_count); walk_at "ev"; walk_at "rd"; walk_at "ev")
  | ((with_reducible apply ev_notV); walk_at "ev")
  | ((with_reducible apply ev_andV); walk_at "ev"; (intro _; walk_at "ev"))
  | ((with_reducible apply ev_orV); walk_at "ev"; (intro _; walk_at "ev"))
  | ((with_reducible apply ev_chain); walk_at "ev"; walk_at "ev"; walk_at "rk"; (intro _; walk_at "ev"); (intro _; walk_at "rk"))
  | ((with_reducible apply ev_ifI); walk_at "et"; (intro _; walk_at "ev"); (intro _; walk_at "ev"))
  | ((with_reducible apply ev_tu); walk_at "ed"; walk_at "side")
  | walk_at "call"
  | (apply Ev.ofL; walk_at "el")))
local macro_rules | `(tactic| walk_at "ea") => `(tactic| first
  | (with_reducible exact ea_nil)
  | ((with_reducible apply ea_cons); walk_at "ev"; walk_at "ea"))
local macro_rules | `(tactic| walk_at "ed") => `(tactic| first
  | (exact ed_nil)
  | (apply ed_cons; walk_at "ev"; walk_at "ed"))
local macro_rules | `(tactic| walk_at "et") => `(tactic| ((fail_if_success (with_reducible apply et_guard)); first
  | ((with_reducible apply et_test); walk_at "ev")
  | ((with_reducible apply et_B); walk_at "ev")
  | ((with_reducible apply et_and); walk_at "et"; (intro _; walk_at "et"))
  | ((with_reducible apply et_or); walk_at "et"; (intro _; walk_at "et"))
  | ((with_reducible apply et_not); walk_at "et")
  | (with_reducible exact et_yes)))
local macro_rules | `(tactic| walk_at "el") => `(tactic| ((fail_if_success (with_reducible apply el_guard)); first
  | ((with_reducible apply el_ls); walk_at "ed"; walk_at "side")
  | ((with_reducible apply el_op); walk_at "ev"; walk_at "ev"; walk_at "rl")
  | ((with_reducible apply el_cb); walk_at "ea"; walk_at "r1l")
  | ((with_reducible apply el_lcI); walk_at "ei"; walk_at "side"; (intro _; walk_at "tgw"); (intro _ _ _ hm; (try simp only [List.mem_range] at hm); walk_at "ev"))
  | ((with_reducible apply el_lcB); walk_at "ei"; walk_at "side"; (intro _; walk_at "tgw"); (intro _ _ _ hm; (try simp only [List.mem_range] at hm); walk_at "ev"))
  | ((with_reducible apply el_lc0); walk_at "ei"; walk_at "side"; (intro _; walk_at "tgw"); (intro _ _ _ hm; (try simp only [List.mem_range] at hm); walk_at "ev"))
  | ((with_reducible apply el_lcIf); walk_at "ei"; walk_at "side"; (intro _; walk_at "tgw"); (intro _ _ _ hm; (try simp only [List.mem_range] at hm); walk_at "et"); (intro _ _ _ hm _; (try simp only [List.mem_range] at hm); walk_at "ev"))
  | ((with_reducible apply el_lc); walk_at "ei"; walk_at "side"; (intro _; walk_at "tgw"); (intro _ _ _ hm; (try simp only [List.mem_range] at hm); walk_at "et"); (intro _ _ _ hm _; (try simp only [List.mem_range] at hm); walk_at "ev"))
  | ((with_reducible apply el_slice); walk_at "ev"; walk_at "eo"; walk_at "eo"; walk_at "rd")
  | ((with_reducible apply el_rev); walk_at "ev"; walk_at "rd")
  | ((with_reducible apply el_listRg); walk_at "eg"; omega; omega)
  | walk_at "calll"))
local macro_rules | `(tactic| walk_at "eo") => `(tactic| first | (with_reducible exact eo_none) | ((with_reducible apply eo_some); walk_at "ev"))
local macro_rules | `(tactic| walk_at "eg") => `(tactic| first | ((with_reducible apply eg_1); walk_at "ev") | ((with_reducible apply eg_2); walk_at "ev"; walk_at "ev"))
local macro_rules | `(tactic| walk_at "tgw") => `(tactic| first | exact tgw_name (by simp) | exact tgw_two (by simp) (by simp) | exact tgw_three (by simp) (by simp) (by simp))
local macro_rules | `(tactic| walk_at "tg") => `(tactic| first | exact tg_name | exact tg_two | exact tg_three)
local macro_rules | `(tactic| walk_at "ei") => `(tactic| first
  | ((with_reducible apply ei_range1); walk_at "ea"; omega; omega)
  | ((with_reducible apply ei_range2); walk_at "ea"; omega; omega)
  | ((with_reducible apply ei_rangeD); walk_at "ea"; omega; omega)
  | ((with_reducible apply ei_list); walk_at "ev")
  | ((with_reducible apply ei_enum); walk_at "ea")
  | ((with_reducible apply ei_zip); walk_at "ea"))
def t__law_feed (K : PySem.W.Frag) : TS :=
  (tSeq (tAsg (tC (.int 0)) (gName 2))
    (tSeq (tIfS (tTest (tOp xLt (tVar 1) (tCB (xLen K) (tCons (tVar 0) tNil)))) (tAsg (tOp (xIx K) (tVar 0) (tVar 1)) (gName 2)) tNext)
    (tRet (tLst (tCons (tCB (xMax K) (tCons (tC (.int 0)) (tCons (tOp xSub (tCB xAbs (tCons (tVar 2) tNil)) (tOp xPow (tC (.int 10)) (tC (.int 18)))) tNil))) (tCons (tOp xMod (tOp xAdd (tOp xAdd (tOp xMulS (tVar 2) (tC (.int 163))) (tOp xMulS (tC (.int 8101)) (tVar 1))) (tC (.int 41))) (tC (.int 2305843009213693951))) (tCons (tC (.int 0)) tNil)))))))
def t__law_pick (K : PySem.W.Frag) : TS :=
  (tSeq (tIfS (tTest (tOp xGt (tOp (xIx K) (tVar 0) (tC (.int 0))) (tC (.int 0)))) (tSeq (tAsg (tOp xMod (tOp (xIx K) (tVar 0) (tC (.int 0))) (tVar 1)) (gName 2))
    (tSeq (tAsg (tOp xDiv (tOp (xIx K) (tVar 0) (tC (.int 0))) (tVar 1)) (gSub (tVar 0) (tC (.int 0)) rSetL))
    (tRet (tVar 2)))) tNext)
    (tSeq (tAsg (tOp xAdd (tOp (xIx K) (tVar 0) (tC (.int 2))) (tC (.int 1))) (gSub (tVar 0) (tC (.int 2)) rSetL))
    (tSeq (tAsg (tOp xMod (tOp xAdd (tOp (xIx K) (tVar 0) (tC (.int 1))) (tOp xMul (tC (.int 151007)) (tOp (xIx K) (tVar 0) (tC (.int 2))))) (tC (.int 2305843009213693951))) (gName 3))
    (tSeq (tAsg (tOp xMod (tOp xAdd (tOp xAdd (tOp xMul (tVar 3) (tVar 3)) (tOp xMul (tOp xMul (tC (.int 57731)) (tOp (xIx K) (tVar 0) (tC (.int 2)))) (tVar 3))) (tC (.int 53))) (tC (.int 2305843009213693951))) (gName 3))
    (tSeq (tAsg (tOp xMod (tOp xAdd (tOp xAdd (tOp xPow (tVar 3) (tC (.int 3))) (tOp (xIx K) (tVar 0) (tC (.int 1)))) (tOp xMul (tC (.int 3)) (tOp (xIx K) (tVar 0) (tC (.int 2))))) (tC (.int 2305843009213693951))) (gName 3))
    (tRet (tOp xMod (tOp xDiv (tVar 3) (tC (.int 8191))) (tVar 1))))))))
def t_passes (K : PySem.W.Frag) (s_distance_of : Sp) : TS :=
  (tRet (tOp xLt (tCall s_distance_of [] E0 (tCons (tVar 0) (tCons (tVar 2) (tCons (tOp (xIx K) (tVar 1) (tVar 3)) tNil)))) (tCall s_distance_of [] E0 (tCons (tVar 0) (tCons (tVar 2) (tCons (tOp (xIx K) (tVar 1) (tVar 2)) tNil))))))
def t_reason (K : PySem.W.Frag) (w : World) (s_need_assignment s_need_ring s_passes : Sp) : TS :=
  (tSeq (tDrop (tCall s_need_ring [] E0 (tCons (tVar 0) tNil)))
    (tSeq (tDrop (tCall s_need_assignment [] E0 (tCons (tVar 0) (tCons (tVar 1) tNil))))
    (tSeq (tFor (iRng1 (tCons (tVar 0) tNil)) (gName 2) (tFor (iRng1 (tCons (tVar 0) tNil)) (gName 3) (tIfS (tB (tCall s_passes [] E0 (tCons (tVar 0) (tCons (tVar 1) (tCons (tVar 2) (tCons (tVar 3) tNil)))))) (tRet (tTup (tCons (tC (.str "passed")) (tCons (tVar 2) (tCons (tVar 3) tNil))))) tNext)))
    (tRet (tIf (tTest (tOp (xEq K) (tCB (xLenS w) (tCons (tCB (xSetI K w) (tCons (tVar 1) tNil)) tNil)) (tVar 0))) (tTup (tCons (tC (.str "all")) tNil)) (tC .non))))))
def t_possible (K : PySem.W.Frag) (s_reason : Sp) : TS :=
  (tRet (tOp xIs (tCall s_reason [] E0 (tCons (tVar 0) (tCons (tVar 1) tNil))) (tC .non)))
def t_drops_from (K : PySem.W.Frag) (w : World) (s_reason : Sp) : TS :=
  (tSeq (tAsg (tCall s_reason [] E0 (tCons (tVar 0) (tCons (tVar 1) tNil))) (gName 2))
    (tSeq (tIfS (tTest (tOp xIsNot (tVar 2) (tC .non))) tNever tNext)
    (tRet (tCB (rSortedSet w) (tCons (tCB (xSetI K w) (tCons (tVar 1) tNil)) tNil)))))
def t_are_ends (K : PySem.W.Frag) (s_is_server : Sp) : TS :=
  (tRet (tAndV (tCB (xIsi K) (tCons (tVar 1) (tCons (tC (.ty "list")) tNil))) (tAndV (tOp (xEq K) (tCB (xLen K) (tCons (tVar 1) tNil)) (tVar 0)) (tCB (xAll K) (tCons (tLc (iList K (tVar 1)) (gName 2) tYes (tCall s_is_server [] E0 (tCons (tVar 0) (tCons (tVar 2) tNil))) [2]) tNil)))))
def t_need_assignment (K : PySem.W.Frag) (s_are_ends : Sp) : TS :=
  (tIfS (tNot (tB (tCall s_are_ends [] E0 (tCons (tVar 0) (tCons (tVar 1) tNil))))) tNever tNext)
def c__law_feed : Ct := { args := fun x : List Int × Nat => [.s x.1, .d (.int x.2)], pre := fun x => x.2 ≤ 1000, post := fun x it C => ∃ p b, it = .c p ∧ TapeC p b 0 C ∧ Bits 200 b }
def sp__law_feed (K : PySem.W.Frag) : Sp := c__law_feed.sp K
abbrev M61 : Int := 2305843009213693951
theorem p__law_feed {K : PySem.W.Frag} : c__law_feed.keeps K 3 (t__law_feed K) := by
  rintro ⟨ns, k⟩ M0 F0 Q (hk : k ≤ 1000) hQ
  show At ⟨K, M0, F0⟩ _ [some (.s ns), some (.d (.int k)), none] []
  unfold t__law_feed
  refine at_sq (at_st (it := .d (.int 0)) (by walk_at "ev") ?_)
  refine at_mid (fun G2 C2 => C2 = [] ∧ ∃ x : Int, G2 = [some (.s ns), some (.d (.int k)), some (.d (.int x))]) (fun N hN => ?_) ?_
  · refine at_if (b := decide ((k : Int) < (ns.length : Int))) ?_ (fun e => ?_) fun _ => at_nx (hN _ _ ⟨rfl, 0, rfl⟩)
    · apply EvT.is
      · walk_at "et"
      · rw [List.length_map]
    · have hlt := of_decide_eq_true e
      exact at_st (it := .d (.int (ns.getD (pyIx ns.length (k : Int)) 0))) (by walk_at "ev") (hN _ _ ⟨rfl, _, rfl⟩)
  rintro G2 C2 ⟨rfl, x, rfl⟩
  have hm0 := Int.emod_nonneg (x * 163 + 8101 * (k : Int) + 41) (show M61 ≠ 0 by decide)
  have hm1 := Int.emod_lt_of_pos (x * 163 + 8101 * (k : Int) + 41) (show (0 : Int) < M61 by decide)
  have hb : Bits 200 ((x * 163 + 8101 * (k : Int) + 41) % M61) := ⟨hm0, Int.lt_trans hm1 (by decide +kernel)⟩
  refine at_rtL (ds := [.int (max 0 ((x.natAbs : Int) - (10 : Int) ^ (18 : Int).toNat)), .int ((x * 163 + 8101 * (k : Int) + 41) % M61), .int 0]) ?_ fun p => hQ F0 (Ex.refl F0) _ _ ⟨p, _, rfl, ⟨_, _, rfl, Int.le_max_left _ _, Int.le_refl _, Int.le_refl _⟩, hb⟩
  refine el_ls (ds := [.int (max 0 ((x.natAbs : Int) - (10 : Int) ^ (18 : Int).toNat)), .int ((x * 163 + 8101 * (k : Int) + 41) % M61), .int 0]) (ed_cons (by walk_at "ev") (ed_cons ?_ (ed_cons (by walk_at "ev") ed_nil))) (by simp)
  refine ev_op (x := .d (.int (x * 163 + 8101 * (k : Int) + 41))) (ev_op (x := .d (.int (x * 163 + 8101 * (k : Int)))) (ev_op (x := .d (.int (x * 163))) (y := .d (.int (8101 * (k : Int)))) ?_ ?_ r_add) (by walk_at "ev") r_add) (by walk_at "ev") (r_mod (by decide))
  · exact ev_op (by walk_at "ev") (by walk_at "ev") (r_mulS (.inr ⟨by decide +kernel, by decide +kernel⟩))
  · exact ev_op (by walk_at "ev") (by walk_at "ev") (r_mulS (.inl ⟨by decide +kernel, by decide +kernel⟩))
def c__law_pick : Ct := { args := fun x : LibUrn.UrnS => [.c x.p, .d (.int x.w)], cells := fun x => [(x.p, .dat [.int x.a, .int x.b, .int x.c])], pre := fun x => 0 ≤ x.a ∧ Bits 200 x.b ∧ 0 ≤ x.c ∧ x.c < 1000000 ∧ 0 < x.w ∧ x.w ≤ 4294967296, post := fun x it C => ∃ r a c, it = .d (.int r) ∧ 0 ≤ r ∧ r < x.w ∧ C = [(x.p, .dat [.int a, .int x.b, .int c])] ∧ 0 ≤ a ∧ x.c ≤ c ∧ c ≤ x.c + 1 }
def sp__law_pick (K : PySem.W.Frag) : Sp := c__law_pick.sp K
theorem mod61 (x : Int) : ∃ m, x % M61 = m ∧ Bits 61 m := ⟨_, rfl, Int.emod_nonneg _ (by decide), Int.lt_trans (Int.emod_lt_of_pos _ (by decide)) (by decide +kernel)⟩
theorem p__law_pick {K : PySem.W.Frag} : c__law_pick.keeps K 4 (t__law_pick K) := by
  rintro ⟨p, a, b, c, w⟩ M0 F0 Q ⟨ha, hb, hc0, hc1, hw0, hw1⟩ hQ
  dsimp only at ha hb hc0 hc1 hw0 hw1
  show At ⟨K, M0, F0⟩ _ [some (.c p), some (.d (.int w)), none, none] [(p, .dat [.int a, .int b, .int c])]
  unfold t__law_pick
  refine at_sq ?_
  apply at_if
  · walk_at "et"
  · intro _
    refine at_sq (at_st (it := .d (.int (a % w))) (by walk_at "ev") ?_)
    refine at_sq (at_pt (p := p) (j := 0) (i := 0) (ds := [.int a, .int b, .int c]) (d := .int (a / w)) (by walk_at "ev") (by walk_at "ev") (by walk_at "ev") rfl (by walk_at "side") (by walk_at "side") ?_)
    refine at_rt (it := .d (.int (a % w))) (by walk_at "ev") (hQ F0 (Ex.refl F0) _ _ ⟨_, a / w, c, rfl, Int.emod_nonneg _ (Int.ne_of_gt hw0), Int.emod_lt_of_pos _ hw0, rfl, Int.ediv_nonneg ha (Int.le_of_lt hw0), Int.le_refl _, by show c ≤ c + 1; omega⟩)
  · intro _
    refine at_nx ?_
    refine at_sq (at_pt (p := p) (j := 0) (i := 2) (ds := [.int a, .int b, .int c]) (d := .int (c + 1)) (by walk_at "ev") (by walk_at "ev") (by walk_at "ev") rfl (by walk_at "side") (by walk_at "side") ?_)
    show At _ _ _ [(p, .dat [.int a, .int b, .int (c + 1)])]
    have bc : Bits 20 (c + 1) := ⟨by omega, by show c + 1 < 1048576; omega⟩
    have c1 : CMulW 151007 (c + 1) := Bits.cmul (a := 30) (b := 20) ⟨by decide, by decide⟩ bc (by decide) (by decide) (by decide)
    have c2 : CMulW 57731 (c + 1) := Bits.cmul (a := 30) (b := 20) ⟨by decide, by decide⟩ bc (by decide) (by decide) (by decide)
    have c3 : CMulW 3 (c + 1) := Bits.cmul (a := 30) (b := 20) ⟨by decide, by decide⟩ bc (by decide) (by decide) (by decide)
    obtain ⟨m1, e1, hb1⟩ := mod61 (b + 151007 * (c + 1))
    refine at_sq (at_st (it := .d (.int m1)) ?_ ?_)
    · apply Ev.is
      · exact ev_op (x := .d (.int (b + 151007 * (c + 1)))) (by walk_at "ev") (by walk_at "ev") (r_mod (by decide))
      · rw [← e1]
    have d1 : CMulW m1 m1 := hb1.cmul hb1 (by decide) (by decide) (by decide)
    have d2 : CMulW (57731 * (c + 1)) m1 := (Bits.mul (a := 30) (b := 20) (x := 57731) ⟨by decide, by decide⟩ bc).cmul hb1 (by decide) (by decide) (by decide)
    obtain ⟨m2, e2, hb2⟩ := mod61 (m1 * m1 + 57731 * (c + 1) * m1 + 53)
    refine at_sq (at_st (it := .d (.int m2)) ?_ ?_)
    · apply Ev.is
      · exact ev_op (x := .d (.int (m1 * m1 + 57731 * (c + 1) * m1 + 53))) (by walk_at "ev") (by walk_at "ev") (r_mod (by decide))
      · rw [← e2]
    have w2 : CPowW m2 3 := cpow_lt (a := 61) hb2.abs (by decide) (by decide) (by decide)
    obtain ⟨m3, e3, hb3⟩ := mod61 (m2 ^ (3 : Int).toNat + b + 3 * (c + 1))
    refine at_sq (at_st (it := .d (.int m3)) ?_ ?_)
    · apply Ev.is
      · exact ev_op (x := .d (.int (m2 ^ (3 : Int).toNat + b + 3 * (c + 1)))) (by walk_at "ev") (by walk_at "ev") (r_mod (by decide))
      · rw [← e3]
    refine at_rt (it := .d (.int (m3 / 8191 % w))) (by walk_at "ev") (hQ F0 (Ex.refl F0) _ _ ⟨_, a, c + 1, rfl, Int.emod_nonneg _ (Int.ne_of_gt hw0), Int.emod_lt_of_pos _ hw0, rfl, ha, by show c ≤ c + 1; omega, Int.le_refl _⟩)
section
variable {fm : Fm} {G : Gm} {C C2 : Cs} {tr : TA} {k : Rr.It → Cs → Prop} {p : Addr} {b m w : Int}
theorem w_pickF (h : EvA fm tr G (C ++ C2) [.c p, .d (.int w)]) (hC : TapeC p b m C) (hb : Bits 200 b) (hm : m < 900000) (hw : 0 < w ∧ w ≤ 4294967296)
    (hk : ∀ r C', 0 ≤ r → r < w → TapeC p b (m + 1) C' → k (.d (.int r)) (C' ++ C2)) : W fm (tCall (sp__law_pick fm.K) [] E0 tr) G (C ++ C2) k := by
  obtain ⟨a, c, rfl, ha, h0, h1⟩ := hC
  refine w_call (WA.of h ⟨⟨p, a, b, c, w⟩, C2, rfl, rfl, ⟨ha, hb, h0, by show c < 1000000; omega, hw.1, hw.2⟩, ?_⟩)
  rintro it C' ⟨r, a', c', rfl, r0, r1, rfl, ha', q1, q2⟩
  have q1' : c ≤ c' := q1
  have q2' : c' ≤ c + 1 := q2
  exact hk r _ r0 r1 ⟨a', c', rfl, ha', by omega, by omega⟩
theorem w_pick (h : EvA fm tr G C [.c p, .d (.int w)]) (hC : TapeC p b m C) (hb : Bits 200 b) (hm : m < 900000) (hw : 0 < w ∧ w ≤ 4294967296)
    (hk : ∀ r C', 0 ≤ r → r < w → TapeC p b (m + 1) C' → k (.d (.int r)) C') : W fm (tCall (sp__law_pick fm.K) [] E0 tr) G C k := by
  have z := w_pickF (C2 := []) (k := k) (by rw [List.append_nil]; exact h) hC hb hm hw fun r C' r0 r1 hC' => by rw [List.append_nil]; exact hk r C' r0 r1 hC'
  rw [List.append_nil] at z
  exact z
end
structure AsOk (n : Nat) (es : List Int) : Prop where
  len : es.length = n
  rng : ∀ x ∈ es, 0 ≤ x ∧ x < n
abbrev preE : Nat × List Int → Prop := fun x => AsOk x.1 x.2 ∧ 2 ≤ x.1 ∧ x.1 ≤ 60
def c_are_ends : Ct := { args := aNI, pre := preE, post := fun x it C => it = .d (.bool true) ∧ C = [] }
def sp_are_ends (K : PySem.W.Frag) : Sp := c_are_ends.sp K
theorem p_are_ends {K : PySem.W.Frag} : c_are_ends.keeps K 3 (t_are_ends K (sp_is_server K)) := by
  rintro ⟨n, es⟩ M0 F0 Q ⟨h, n0, n1⟩ hQ
  have h0 := hQ F0 (Ex.refl F0) _ _ ⟨rfl, rfl⟩
  clear hQ
  dsimp only at h n0 n1
  have hl := h.len
  show At ⟨K, M0, F0⟩ _ [some (.d (.int n)), some (.d (.list (es.map .int))), none] []
  unfold t_are_ends
  refine at_rt (it := .d (.bool true)) ?_ h0
  refine ev_andV (a := true) (b := true) ?_ fun _ => ev_andV (a := true) (b := true) ?_ fun _ => ?_
  · apply Ev.is
    · walk_at "ev"
    · simp [isD, tyD]
  · apply Ev.is
    · walk_at "ev"
    · rw [List.length_map, hl]
      simp
  · apply Ev.is
    · apply ev_cb
      · apply ea_cons
        · apply Ev.ofL
          apply el_lcB (f := fun _ : Int => true) (xs := es) (enc := fun i : Int => .d (.int i))
          · apply ei_list
            walk_at "ev"
          · omega
          · intro _
            walk_at "tgw"
          · intro _ _ x hx
            have r := h.rng x hx
            apply Ev.is
            · exact cl_is_server (n := (n : Int)) (d := .int x) (by walk_at "ea")
            · rw [server_ok r.1 r.2]
        · exact ea_nil
      · walk_at "r1"
    · simp
theorem cl_are_ends {fm : Fm} {G : Gm} {C : Cs} {tr : TA} {n : Nat} {es : List Int} (h : EvA fm tr G C [.d (.int n), .d (.list (es.map .int))]) (h1 : AsOk n es ∧ 2 ≤ n ∧ n ≤ 60) : Ev fm (tCall (sp_are_ends fm.K) [] E0 tr) G C (.d (.bool true)) := ev_call (n, es) h rfl rfl h1 fun _ _ h => h
def c_need_assignment : Ct := { args := aNI, pre := preE, post := fun x it C => it = .d .none ∧ C = [] }
def sp_need_assignment (K : PySem.W.Frag) : Sp := c_need_assignment.sp K
theorem p_need_assignment {K : PySem.W.Frag} : c_need_assignment.keeps K 2 (t_need_assignment K (sp_are_ends K)) := by
  rintro ⟨n, es⟩ M0 F0 Q ⟨h, n0, n1⟩ hQ
  have h0 := hQ F0 (Ex.refl F0) _ _ ⟨rfl, rfl⟩
  clear hQ
  dsimp only at h n0 n1
  show At ⟨K, M0, F0⟩ _ [some (.d (.int n)), some (.d (.list (es.map .int)))] []
  unfold t_need_assignment
  refine at_if (b := false) ?_ (fun e => by cases e) (fun _ => at_nx (at_end h0))
  apply EvT.is
  · apply et_not
    apply et_B
    exact cl_are_ends (n := n) (es := es) (by walk_at "ea") ⟨h, n0, n1⟩
  · rfl
theorem cl_need_assignment {fm : Fm} {G : Gm} {C : Cs} {tr : TA} {n : Nat} {es : List Int} (h : EvA fm tr G C [.d (.int n), .d (.list (es.map .int))]) (h1 : AsOk n es ∧ 2 ≤ n ∧ n ≤ 60) : Ev fm (tCall (sp_need_assignment fm.K) [] E0 tr) G C (.d .none) := ev_call (n, es) h rfl rfl h1 fun _ _ h => h
structure PsA where
  n : Nat
  es : List Int
  i : Nat
  k : Nat
def passB (n : Nat) (es : List Int) (i k : Nat) : Bool := decide (dist n (i : Int) (es.getD k 0) < dist n (i : Int) (es.getD i 0))
def c_passes : Ct := { args := fun x : PsA => [.d (.int x.n), .d (.list (x.es.map .int)), .d (.int (x.i : Int)), .d (.int (x.k : Int))], pre := fun x => x.es.length = x.n ∧ x.i < x.n ∧ x.k < x.n, post := fun x it C => it = .d (.bool (passB x.n x.es x.i x.k)) ∧ C = [] }
def sp_passes (K : PySem.W.Frag) : Sp := c_passes.sp K
theorem p_passes {K : PySem.W.Frag} : c_passes.keeps K 4 (t_passes K (sp_distance_of K)) := by
  rintro ⟨n, es, i, k⟩ M0 F0 Q ⟨hl, hi, hk⟩ hQ
  have h0 := hQ F0 (Ex.refl F0) _ _ ⟨rfl, rfl⟩
  clear hQ
  dsimp only at hl hi hk
  show At ⟨K, M0, F0⟩ _ [some (.d (.int n)), some (.d (.list (es.map .int))), some (.d (.int (i : Int))), some (.d (.int (k : Int)))] []
  unfold t_passes
  refine at_rt (it := .d (.bool (passB n es i k))) ?_ h0
  unfold passB
  have hat : ∀ (v j : Nat), [some (Rr.It.d (.int n)), some (.d (.list (es.map .int))), some (.d (.int (i : Int))), some (.d (.int (k : Int)))][v]? = some (some (.d (.int (j : Int)))) → j < n → Ev ⟨K, M0, F0⟩ (tOp (xIx K) (tVar 1) (tVar v)) [some (.d (.int n)), some (.d (.list (es.map .int))), some (.d (.int (i : Int))), some (.d (.int (k : Int)))] [] (.d (.int (es.getD j 0))) := fun v j hv hj => by
    apply Ev.is
    · exact ev_op (x := .d (.list (es.map .int))) (y := .d (.int (j : Int))) (by walk_at "ev") (ev_var hv) (r_ixI (RdQ.d _) (by omega) (by omega))
    · rw [pyIx_nat]
  refine ev_op (x := .d (.int (dist n (i : Int) (es.getD k 0)))) (y := .d (.int (dist n (i : Int) (es.getD i 0)))) ?_ ?_ r_lt
  · exact cl_distance_of (n := (n : Int)) (i := (i : Int)) (j := es.getD k 0) (ea_cons (by walk_at "ev") (ea_cons (by walk_at "ev") (ea_cons (hat 3 k rfl hk) ea_nil))) (by omega)
  · exact cl_distance_of (n := (n : Int)) (i := (i : Int)) (j := es.getD i 0) (ea_cons (by walk_at "ev") (ea_cons (by walk_at "ev") (ea_cons (hat 2 i rfl hi) ea_nil))) (by omega)
theorem cl_passes {fm : Fm} {G : Gm} {C : Cs} {tr : TA} {n : Nat} {es : List Int} {i k : Nat} (h : EvA fm tr G C [.d (.int n), .d (.list (es.map .int)), .d (.int (i : Int)), .d (.int (k : Int))]) (h1 : es.length = n ∧ i < n ∧ k < n) : Ev fm (tCall (sp_passes fm.K) [] E0 tr) G C (.d (.bool (passB n es i k))) := ev_call ⟨n, es, i, k⟩ h rfl rfl h1 fun _ _ h => h
theorem ends_ok {n : Nat} {is : List Int} (hd : DOk n is) : AsOk n (endsL n is) := ⟨endsL_len _ _, fun e he => by
  obtain ⟨i, hi, rfl⟩ := Lib2.mem_getD he
  rw [endsL_len] at hi
  obtain ⟨d, _, _, d2, _⟩ := ends_end hd hi
  exact hd.rng _ d2⟩
theorem ends_mem {n : Nat} {is : List Int} (hd : DOk n is) {x : Int} : x ∈ endsL n is ↔ x ∈ is := by
  constructor
  · intro h
    obtain ⟨i, hi, e⟩ := Lib2.mem_getD h
    rw [endsL_len] at hi
    obtain ⟨d, d0, d1, d2, d3⟩ := ends_end hd hi
    rw [e] at d2
    exact d2
  · intro h
    obtain ⟨h0, h1⟩ := hd.rng x h
    have hn : 0 < n := by omega
    have hp : prv n x.toNat < n := Nat.mod_lt _ hn
    have e1 : (prv n x.toNat + 1) % n = x.toNat := by
      unfold prv
      rw [Nat.mod_add_mod, show x.toNat + n - 1 + 1 = x.toNat + n by omega, Nat.add_mod_right, Nat.mod_eq_of_lt (by omega)]
    have z := ends_end hd hp
    have e2 : (endsL n is).getD (prv n x.toNat) 0 = x := isEnd_unique z ⟨1, Nat.le_refl _, by rw [e1]; omega, h, fun d' g1 g2 => by omega⟩
    rw [← e2]
    exact Lib2.getD_mem (by rw [endsL_len]; exact hp)
theorem ends_set {n : Nat} {is : List Int} (hd : DOk n is) : uniqs (srt (endsL n is)) = is := by
  have h1 := ks_up (endsL n is)
  have hp : (uniqs (srt (endsL n is))).Perm is := (List.perm_ext_iff_of_nodup (h1.imp fun h => Int.ne_of_lt h) (hd.up.imp fun h => Int.ne_of_lt h)).mpr fun a => by rw [mem_ks, ends_mem hd]
  rw [srt_eq hp (h1.imp fun h => Int.le_of_lt h), srt_id (hd.up.imp fun h => Int.le_of_lt h)]
theorem ends_kinds {n : Nat} {is : List Int} (hd : DOk n is) : (uniqs (endsL n is)).length = is.length := by
  have hp : (uniqs (endsL n is)).Perm is := (List.perm_ext_iff_of_nodup (uniqs_nodup _) (hd.up.imp fun h => Int.ne_of_lt h)).mpr fun a => by rw [mem_uniqs, ends_mem hd]
  exact hp.length_eq
theorem dist_end {n : Nat} {is : List Int} (hd : DOk n is) {g : Nat} (hg : g < n) {e : Int} (he : e ∈ is) : ¬ dist n (g : Int) e < dist n (g : Int) ((endsL n is).getD g 0) := by
  obtain ⟨d, d0, d1, d2, d3⟩ := ends_end hd hg
  have r1 := hd.rng e he
  have r2 := hd.rng _ d2
  have hn : (0 : Int) < n := by omega
  have q1 := dist_rng (n := (n : Int)) (i := (g : Int)) (j := e) hn
  have q2 := dist_rng (n := (n : Int)) (i := (g : Int)) (j := (endsL n is).getD g 0) hn
  have a1 := (dist_at (n := (n : Int)) (i := (g : Int)) (j := e) (by omega) (by omega) r1.1 r1.2 (f := dist n (g : Int) e) q1.1 q1.2).mpr rfl
  intro h
  -- the distance of e stops short of d
  have hdd : ((d : Int)) ≥ dist n (g : Int) ((endsL n is).getD g 0) := by
    by_cases w : d ≤ n
    · have := (dist_at (n := (n : Int)) (i := (g : Int)) (j := (endsL n is).getD g 0) (by omega) (by omega) r2.1 r2.2 (f := (d : Int)) (by omega) (by omega)).mp (by rw [d1, Int.natCast_emod]; rfl)
      omega
    · omega
  refine d3 (dist n (g : Int) e).toNat (by omega) (by omega) ?_
  have e2 : (((g + (dist n (g : Int) e).toNat) % n : Nat) : Int) = e := by
    rw [Int.natCast_emod, Int.natCast_add, Int.toNat_of_nonneg (by omega)]
    exact a1
  rw [e2]
  exact he
theorem no_pass {n : Nat} {is : List Int} (hd : DOk n is) {i k : Nat} (hi : i < n) (hk : k < n) : passB n (endsL n is) i k = false := by
  unfold passB
  refine decide_eq_false (dist_end hd hi ?_)
  exact (ends_mem hd).mp (Lib2.getD_mem (by rw [endsL_len]; exact hk))
abbrev argE : Nat × List Int → List Rr.It := fun x => [.d (.int x.1), .d (.list ((endsL x.1 x.2).map .int))]
def c_reason : Ct := { args := argE, pre := preD, post := fun x it C => it = .d .none ∧ C = [] }
def sp_reason (K : PySem.W.Frag) : Sp := c_reason.sp K
theorem p_reason {K : PySem.W.Frag} {w : World} : c_reason.keeps K 4 (t_reason K w (sp_need_assignment K) (sp_need_ring K) (sp_passes K)) := by
  rintro ⟨n, is⟩ M0 F0 Q ⟨hd, n0, n1⟩ hQ
  have h0 := hQ F0 (Ex.refl F0) _ _ ⟨rfl, rfl⟩
  clear hQ
  dsimp only at hd n0 n1
  have hok := ends_ok hd
  have hel := hok.len
  have hku := ends_kinds hd
  have hlt := hd.lt
  have hnp : ∀ i k : Nat, i < n → k < n → passB n (endsL n is) i k = false := fun i k hi hk => no_pass hd hi hk
  show At ⟨K, M0, F0⟩ _ [some (.d (.int n)), some (.d (.list ((endsL n is).map .int))), none, none] []
  generalize endsL n is = es at hok hel hku hnp
  unfold t_reason
  refine at_sq (at_dpE (it := .d .none) (cl_need_ring (by walk_at "ea") ⟨by omega, by omega⟩) ?_)
  refine at_sq (at_dpE (it := .d .none) (cl_need_assignment (n := n) (es := es) (by walk_at "ea") ⟨hok, n0, n1⟩) ?_)
  refine at_sq ?_
  refine at_each (xs := List.range ((n : Int)).toNat) (enc := fun i : Nat => .d (.int (i : Int))) ?_ (fun i G' C' => C' = [] ∧ ∃ x2 x3, G' = [some (.d (.int n)), some (.d (.list (es.map .int))), x2, x3]) ⟨rfl, _, _, rfl⟩ ?_ ?_
  · walk_at "ei"
  · rintro F1 e1 i a G' C' ha ⟨rfl, x2, x3, rfl⟩
    obtain ⟨hi, rfl⟩ := List.getElem?_eq_some_iff.mp ha
    rw [List.length_range] at hi
    refine ⟨_, tg_name, fun N hN => ?_⟩
    rw [List.getElem_range]
    refine at_each (xs := List.range ((n : Int)).toNat) (enc := fun i : Nat => .d (.int (i : Int))) ?_ (fun k G' C' => C' = [] ∧ ∃ x3, G' = [some (.d (.int n)), some (.d (.list (es.map .int))), some (.d (.int (i : Int))), x3]) ⟨rfl, _, rfl⟩ ?_ ?_
    · walk_at "ei"
    · rintro F2 e2 k a G2 C2 ha ⟨rfl, x3, rfl⟩
      obtain ⟨hk, rfl⟩ := List.getElem?_eq_some_iff.mp ha
      rw [List.length_range] at hk
      refine ⟨_, tg_name, fun N2 hN2 => ?_⟩
      rw [List.getElem_range]
      refine at_if (b := false) ?_ (fun e => by cases e) fun _ => at_nx (hN2 _ _ ⟨rfl, _, rfl⟩)
      apply EvT.is
      · apply et_B
        exact cl_passes (n := n) (es := es) (i := i) (k := k) (by walk_at "ea") ⟨hel, by omega, by omega⟩
      · exact hnp i k (by omega) (by omega)
    · rintro G2 C2 ⟨rfl, x3, rfl⟩
      exact hN _ _ ⟨rfl, _, _, rfl⟩
  · rintro G' C' ⟨rfl, x2, x3, rfl⟩
    refine at_rt (it := .d .none) (ev_if (b := false) ?_ (fun e => by cases e) fun _ => by walk_at "ev") h0
    apply EvT.is
    · apply et_test
      exact ev_op (x := .d (.int ((uniqs es).length : Int))) (y := .d (.int (n : Int))) (ev_lenSet (x := .d (.list (es.map .int))) (by walk_at "ev") (RdQ.d _) (by omega)) (by walk_at "ev") r_eqI
    · rw [hku]
      exact decide_eq_false (by omega)
theorem cl_reason {fm : Fm} {G : Gm} {C : Cs} {tr : TA} {n : Nat} {is : List Int} (h : EvA fm tr G C [.d (.int n), .d (.list ((endsL n is).map .int))]) (h1 : DOk n is ∧ 2 ≤ n ∧ n ≤ 60) : Ev fm (tCall (sp_reason fm.K) [] E0 tr) G C (.d .none) := ev_call (n, is) h rfl rfl h1 fun _ _ h => h
def c_possible : Ct := { args := argE, pre := preD, post := fun x it C => it = .d (.bool true) ∧ C = [] }
def sp_possible (K : PySem.W.Frag) : Sp := c_possible.sp K
theorem p_possible {K : PySem.W.Frag} : c_possible.keeps K 2 (t_possible K (sp_reason K)) := by
  rintro ⟨n, is⟩ M0 F0 Q ⟨hd, n0, n1⟩ hQ
  have h0 := hQ F0 (Ex.refl F0) _ _ ⟨rfl, rfl⟩
  clear hQ
  dsimp only at hd n0 n1
  show At ⟨K, M0, F0⟩ _ [some (.d (.int n)), some (.d (.list ((endsL n is).map .int)))] []
  unfold t_possible
  refine at_rt (it := .d (.bool true)) ?_ h0
  apply Ev.is
  · exact ev_op (x := .d .none) (y := .d .none) (cl_reason (n := n) (is := is) (by walk_at "ea") ⟨hd, n0, n1⟩) (by walk_at "ev") (by walk_at "rk")
  · rfl
def c_drops_from : Ct := { args := argE, pre := preD, post := fun x it C => ∃ p, it = .c p ∧ C = [(p, .dat (x.2.map .int))] }
def sp_drops_from (K : PySem.W.Frag) : Sp := c_drops_from.sp K
theorem p_drops_from {K : PySem.W.Frag} {w : World} : c_drops_from.keeps K 3 (t_drops_from K w (sp_reason K)) := by
  rintro ⟨n, is⟩ M0 F0 Q ⟨hd, n0, n1⟩ hQ
  have h0 := fun p => hQ F0 (Ex.refl F0) _ _ ⟨p, rfl, rfl⟩
  clear hQ
  dsimp only at hd n0 n1 h0
  have hel := endsL_len n is
  show At ⟨K, M0, F0⟩ _ [some (.d (.int n)), some (.d (.list ((endsL n is).map .int))), none] []
  unfold t_drops_from
  refine at_sq (at_st (it := .d .none) (cl_reason (n := n) (is := is) (by walk_at "ea") ⟨hd, n0, n1⟩) ?_)
  refine at_sq (at_if (b := false) ?_ (fun e => by cases e) fun _ => at_nx ?_)
  · apply EvT.is
    · walk_at "et"
    · rfl
  refine at_rtL ?_ h0
  apply EvL.is
  · exact el_sortedSet (ns := endsL n is) (x := .d (.list ((endsL n is).map .int))) (by walk_at "ev") (RdQ.d _) (by omega)
  · rw [ends_set hd]
end LibFeed
namespace LibSameB
open PySem L2 Rr Lib Lib2 Lib3 LibDist
open LibPick (deepS ih2)
local macro_rules | `(tactic| walk_at "call") => `(tactic| fail "no call")
local macro_rules | `(tactic| walk_at "calll") => `(tactic| fail "no call")
local macro_rules | `(tactic| walk_at "side") => `(tactic| first | rfl | (with_reducible assumption) | omega | (focus (simp only [List.length_map, List.length_range, List.length_cons, List.length_nil, List.length_append, List.length_replicate, Int.toNat_natCast, rgI]; omega)) | (focus (simp; done)) | (focus (simp; omega)) | decide)
local macro_rules | `(tactic| walk_at "rd") => `(tactic| first | exact RdQ.d _ | exact RdD.d _ | exact RdT.d _ | exact AsD.d _ | exact RdQ.c (k := 0) rfl | exact RdQ.c (k := 1) rfl | exact RdQ.c (k := 2) rfl | exact RdQ.c (k := 3) rfl | exact RdD.c (k := 0) rfl | exact RdD.c (k := 1) rfl | exact RdD.c (k := 2) rfl | exact RdD.c (k := 3) rfl | exact AsD.c (k := 0) rfl | exact AsD.c (k := 1) rfl | exact AsD.c (k := 2) rfl | exact AsD.c (k := 3) rfl | exact RdQ.s _)
local macro_rules | `(tactic| walk_at "sz") => `(tactic| first | (with_reducible assumption) | (apply sz_getD; with_reducible assumption) | (apply sz_mem; (with_reducible assumption); (with_reducible assumption)) | (apply sz_of <;> omega))
local macro_rules | `(tactic| walk_at "mul") => `(tactic| first | (with_reducible assumption) | (apply cmul_sz <;> walk_at "sz"))
local macro_rules | `(tactic| walk_at "pow") => `(tactic| first | (with_reducible assumption) | exact cpow_lt (a := 4) (by decide) (by decide) (by decide) (by decide) | exact cpow_lt (a := 300) (by decide +kernel) (by decide) (by decide) (by decide) | exact cpow_lt (a := 1000) (by omega) (by decide) (by omega) (by omega))
local macro_rules | `(tactic| walk_at "rk") => `(tactic| first
  | (with_reducible exact r_add)
  | (with_reducible exact r_sub)
  | (with_reducible exact r_lt)
  | (with_reducible exact r_le)
  | (with_reducible exact r_gt)
  | (with_reducible exact r_ge)
  | (with_reducible exact r_eqI)
  | (with_reducible exact r_neI)
  | (with_reducible exact r_is)
  | (with_reducible exact r_isNot)
  | (with_reducible exact r_isB)
  | (with_reducible exact r_isNotB)
  | ((with_reducible apply r_mul); walk_at "mul")
  | ((with_reducible apply r_div); (first | (with_reducible assumption) | (apply cdiv_sm <;> omega)))
  | ((with_reducible apply r_mod); (first | (with_reducible assumption) | omega))
  | ((with_reducible apply r_pow); walk_at "pow")
  | ((with_reducible apply r_in); walk_at "rd")
  | ((with_reducible apply r_notIn); walk_at "rd")
  | ((with_reducible apply r_ixI); walk_at "rd"; walk_at "side"; walk_at "side")
  | ((with_reducible apply r_ixB); walk_at "rd"; walk_at "side"; walk_at "side")
  | ((with_reducible apply r_ix); walk_at "rd"; walk_at "side"; walk_at "side"; rfl)
  | ((with_reducible apply r_ixD); walk_at "rd"; walk_at "side"; walk_at "side")
  | ((with_reducible apply r_ixTD); walk_at "rd"; walk_at "side"; walk_at "side")
  | ((with_reducible apply r_eqLI); walk_at "rd"; walk_at "rd")
  | ((with_reducible apply r_neLI); walk_at "rd"; walk_at "rd")
  | ((with_reducible apply r_eqD); walk_at "rd"; walk_at "rd"; (first | (with_reducible assumption) | rfl); (first | (with_reducible assumption) | rfl))
  | ((with_reducible apply r_neD); walk_at "rd"; walk_at "rd"; (first | (with_reducible assumption) | rfl); (first | (with_reducible assumption) | rfl))
  | (apply R2k.ofL; walk_at "rl"))
local macro_rules | `(tactic| walk_at "rl") => `(tactic| first
  | ((with_reducible apply r_cat); walk_at "rd"; walk_at "rd"; walk_at "side")
  | ((with_reducible apply r_rep); walk_at "rd"; walk_at "side"; walk_at "side"; walk_at "side"))
local macro_rules | `(tactic| walk_at "r1") => `(tactic| first
  | ((with_reducible apply r_lenL); walk_at "rd")
  | ((with_reducible apply r_lenT); walk_at "rd")
  | (with_reducible exact r_max2)
  | (with_reducible exact r_min2)
  | ((with_reducible apply r_max); walk_at "rd"; walk_at "side")
  | ((with_reducible apply r_min); walk_at "rd"; walk_at "side")
  | (with_reducible exact r_abs)
  | (with_reducible exact r_intB)
  | ((with_reducible apply r_sum); walk_at "rd")
  | ((with_reducible apply r_all); walk_at "rd")
  | ((with_reducible apply r_any); walk_at "rd")
  | ((with_reducible apply r_tuple); walk_at "rd")
  | (apply R1k.ofL; walk_at "r1l"))
local macro_rules | `(tactic| walk_at "r1l") => `(tactic| first
  | ((with_reducible apply r_sorted); walk_at "rd")
  | ((with_reducible apply r_list); walk_at "rd")
  | ((with_reducible apply r_listT); walk_at "rd"))
local macro_rules | `(tactic| walk_at "ev") => `(tactic| ((fail_if_success (with_reducible apply ev_guard)); first
  | (with_reducible exact ev_int)
  | ((with_reducible apply ev_var); rfl)
  | (with_reducible exact ev_bl)
  | (with_reducible exact ev_str)
  | (with_reducible exact ev_non)
  | ((with_reducible apply ev_isi); walk_at "ev"; walk_at "rd"; (focus (simp; done)))
  | ((with_reducible apply ev_isi2); walk_at "ev"; walk_at "rd"; (focus (simp; done)); (focus (simp; done)))
  | ((with_reducible apply ev_op); walk_at "ev"; walk_at "ev"; walk_at "rk")
  | ((with_reducible apply ev_cb); walk_at "ea"; walk_at "r1")
  | ((with_reducible apply ev_neg); walk_at "ev")
  | ((with_reducible apply ev_count); walk_at "ev"; walk_at "rd"; walk_at "ev")
  | ((with_reducible apply ev_notV); walk_at "ev")
  | ((with_reducible apply ev_andV); walk_at "ev"; (intro _; walk_at "ev"))
  | ((with_reducible apply ev_orV); walk_at "ev"; (intro _; walk_at "ev"))
  | ((with_reducible apply ev_chain); walk_at "ev"; walk_at "ev"; walk_at "rk"; (intro _; walk_at "ev"); (intro _; walk_at "rk"))
  | ((with_reducible apply ev_ifI); walk_at "et"; (intro _; walk_at "ev"); (intro _; walk_at "ev"))
  | ((with_reducible apply ev_tu); walk_at "ed"; walk_at "side")
  | walk_at "call"
  | (apply Ev.ofL; walk_at "el")))
local macro_rules | `(tactic| walk_at "ea") => `(tactic| first
  | (with_reducible exact ea_nil)
  | ((with_reducible apply ea_cons); walk_at "ev"; walk_at "ea"))
local macro_rules | `(tactic| walk_at "ed") => `(tactic| first
  | (exact ed_nil)
  | (apply ed_cons; walk_at "ev"; walk_at "ed"))
local macro_rules | `(tactic| walk_at "et") => `(tactic| ((fail_if_success (with_reducible apply et_guard)); first
  | ((with_reducible apply et_test); walk_at "ev")
  | ((with_reducible apply et_B); walk_at "ev")
  | ((with_reducible apply et_and); walk_at "et"; (intro _; walk_at "et"))
  | ((with_reducible apply et_or); walk_at "et"; (intro _; walk_at "et"))
  | ((with_reducible apply et_not); walk_at "et")
  | (with_reducible exact et_yes)))
local macro_rules | `(tactic| walk_at "el") => `(tactic| ((fail_if_success (with_reducible apply el_guard)); first
  | ((with_reducible apply el_ls); walk_at "ed"; walk_at "side")
  | ((with_reducible apply el_op); walk_at "ev"; walk_at "ev"; walk_at "rl")
  | ((with_reducible apply el_cb); walk_at "ea"; walk_at "r1l")
  | ((with_reducible apply el_lcI); walk_at "ei"; walk_at "side"; (intro _; walk_at "tgw"); (intro _ _ _ hm; (try simp only [List.mem_range] at hm); walk_at "ev"))
  | ((with_reducible apply el_lcB); walk_at "ei"; walk_at "side"; (intro _; walk_at "tgw"); (intro _ _ _ hm; (try simp only [List.mem_range] at hm); walk_at "ev"))
  | ((with_reducible apply el_lc0); walk_at "ei"; walk_at "side"; (intro _; walk_at "tgw"); (intro _ _ _ hm; (try simp only [List.mem_range] at hm); walk_at "ev"))
  | ((with_reducible apply el_lcIf); walk_at "ei"; walk_at "side"; (intro _; walk_at "tgw"); (intro _ _ _ hm; (try simp only [List.mem_range] at hm); walk_at "et"); (intro _ _ _ hm _; (try simp only [List.mem_range] at hm); walk_at "ev"))
  | ((with_reducible apply el_lc); walk_at "ei"; walk_at "side"; (intro _; walk_at "tgw"); (intro _ _ _ hm; (try simp only [List.mem_range] at hm); walk_at "et"); (intro _ _ _ hm _; (try simp only [List.mem_range] at hm); walk_at "ev"))
  | ((with_reducible apply el_slice); walk_at "ev"; walk_at "eo"; walk_at "eo"; walk_at "rd")
  | ((with_reducible apply el_rev); walk_at "ev"; walk_at "rd")
  | ((with_reducible apply el_listRg); walk_at "eg"; omega; omega)
  | walk_at "calll"))
local macro_rules | `(tactic| walk_at "eo") => `(tactic| first | (with_reducible exact eo_none) | ((with_reducible apply eo_some); walk_at "ev"))
local macro_rules | `(tactic| walk_at "eg") => `(tactic| first | ((with_reducible apply eg_1); walk_at "ev") | ((with_reducible apply eg_2); walk_at "ev"; walk_at "ev"))
local macro_rules | `(tactic| walk_at "tgw") => `(tactic| first | exact tgw_name (by simp) | exact tgw_two (by simp) (by simp) | exact tgw_three (by simp) (by simp) (by simp))
local macro_rules | `(tactic| walk_at "tg") => `(tactic| first | exact tg_name | exact tg_two | exact tg_three)
local macro_rules | `(tactic| walk_at "ei") => `(tactic| first
  | ((with_reducible apply ei_range1); walk_at "ea"; omega; omega)
  | ((with_reducible apply ei_range2); walk_at "ea"; omega; omega)
  | ((with_reducible apply ei_rangeD); walk_at "ea"; omega; omega)
  | ((with_reducible apply ei_list); walk_at "ev")
  | ((with_reducible apply ei_enum); walk_at "ea")
  | ((with_reducible apply ei_zip); walk_at "ea"))
end LibSameB
namespace LibReason
open PySem L2 Rr Lib Lib2 Lib3 LibDist LibMoves LibEnds
open LibFeed (AsOk preE passB cl_passes cl_need_assignment sp_need_assignment sp_passes no_pass ends_kinds ends_ok ends_set argE)
local macro_rules | `(tactic| walk_at "call") => `(tactic| fail "no call")
local macro_rules | `(tactic| walk_at "calll") => `(tactic| fail "no call")
local macro_rules | `(tactic| walk_at "side") => `(tactic| first | rfl | (with_reducible assumption) | omega | (focus (simp only [List.length_map, List.length_range, List.length_cons, List.length_nil, List.length_append, List.length_replicate, Int.toNat_natCast, rgI]; omega)) | (focus (simp; done)) | (focus (simp; omega)) | decide)
local macro_rules | `(tactic| walk_at "rd") => `(tactic| first | exact RdQ.d _ | exact RdD.d _ | exact RdT.d _ | exact AsD.d _ | exact RdQ.c (k := 0) rfl | exact RdQ.c (k := 1) rfl | exact RdQ.c (k := 2) rfl | exact RdQ.c (k := 3) rfl | exact RdD.c (k := 0) rfl | exact RdD.c (k := 1) rfl | exact RdD.c (k := 2) rfl | exact RdD.c (k := 3) rfl | exact AsD.c (k := 0) rfl | exact AsD.c (k := 1) rfl | exact AsD.c (k := 2) rfl | exact AsD.c (k := 3) rfl | exact RdQ.s _)
local macro_rules | `(tactic| walk_at "sz") => `(tactic| first | (with_reducible assumption) | (apply sz_getD; with_reducible assumption) | (apply sz_mem; (with_reducible assumption); (with_reducible assumption)) | (apply sz_of <;> omega))
local macro_rules | `(tactic| walk_at "mul") => `(tactic| first | (with_reducible assumption) | (apply cmul_sz <;> walk_at "sz"))
local macro_rules | `(tactic| walk_at "pow") => `(tactic| first | (with_reducible assumption) | exact cpow_lt (a := 4) (by decide) (by decide) (by decide) (by decide) | exact cpow_lt (a := 300) (by decide +kernel) (by decide) (by decide) (by decide) | exact cpow_lt (a := 1000) (by omega) (by decide) (by omega) (by omega))
local macro_rules | `(tactic| walk_at "rk") => `(tactic| first
  | (with_reducible exact r_add)
  | (with_reducible exact r_sub)
  | (with_reducible exact r_lt)
  | (with_reducible exact r_le)
  | (with_reducible exact r_gt)
  | (with_reducible exact r_ge)
  | (with_reducible exact r_eqI)
  | (with_reducible exact r_neI)
  | (with_reducible exact r_is)
  | (with_reducible exact r_isNot)
  | (with_reducible exact r_isB)
  | (with_reducible exact r_isNotB)
  | ((with_reducible apply r_mul); walk_at "mul")
  | ((with_reducible apply r_div); (first | (with_reducible assumption) | (apply cdiv_sm <;> omega)))
  | ((with_reducible apply r_mod); (first | (with_reducible assumption) | omega))
  | ((with_reducible apply r_pow); walk_at "pow")
  | ((with_reducible apply r_in); walk_at "rd")
  | ((with_reducible apply r_notIn); walk_at "rd")
  | ((with_reducible apply r_ixI); walk_at "rd"; walk_at "side"; walk_at "side")
  | ((with_reducible apply r_ixB); walk_at "rd"; walk_at "side"; walk_at "side")
  | ((with_reducible apply r_ix); walk_at "rd"; walk_at "side"; walk_at "side"; rfl)
  | ((with_reducible apply r_ixD); walk_at "rd"; walk_at "side"; walk_at "side")
  | ((with_reducible apply r_ixTD); walk_at "rd"; walk_at "side"; walk_at "side")
  | ((with_reducible apply r_eqLI); walk_at "rd"; walk_at "rd")
  | ((with_reducible apply r_neLI); walk_at "rd"; walk_at "rd")
  | ((with_reducible apply r_eqD); walk_at "rd"; walk_at "rd"; (first | (with_reducible assumption) | rfl); (first | (with_reducible assumption) | rfl))
  | ((with_reducible apply r_neD); walk_at "rd"; walk_at "rd"; (first | (with_reducible assumption) | rfl); (first | (with_reducible assumption) | rfl))
  | (apply R2k.ofL; walk_at "rl"))
local macro_rules | `(tactic| walk_at "rl") => `(tactic| first
  | ((with_reducible apply r_cat); walk_at "rd"; walk_at "rd"; walk_at "side")
  | ((with_reducible apply r_rep); walk_at "rd"; walk_at "side"; walk_at "side"; walk_at "side"))
local macro_rules | `(tactic| walk_at "r1") => `(tactic| first
  | ((with_reducible apply r_lenL); walk_at "rd")
  | ((with_reducible apply r_lenT); walk_at "rd")
  | (with_reducible exact r_max2)
  | (with_reducible exact r_min2)
  | ((with_reducible apply r_max); walk_at "rd"; walk_at "side")
  | ((with_reducible apply r_min); walk_at "rd"; walk_at "side")
  | (with_reducible exact r_abs)
  | (with_reducible exact r_intB)
  | ((with_reducible apply r_sum); walk_at "rd")
  | ((with_reducible apply r_all); walk_at "rd")
  | ((with_reducible apply r_any); walk_at "rd")
  | ((with_reducible apply r_tuple); walk_at "rd")
  | (apply R1k.ofL; walk_at "r1l"))
local macro_rules | `(tactic| walk_at "r1l") => `(tactic| first
  | ((with_reducible apply r_sorted); walk_at "rd")
  | ((with_reducible apply r_list); walk_at "rd")
  | ((with_reducible apply r_listT); walk_at "rd"))
local macro_rules | `(tactic| walk_at "ev") => `(tactic| ((fail_if_success (with_reducible apply ev_guard)); first
  | (with_reducible exact ev_int)
  | ((with_reducible apply ev_var); rfl)
  | (with_reducible exact ev_bl)
  | (with_reducible exact ev_str)
  | (with_reducible exact ev_non)
  | ((with_reducible apply ev_isi); walk_at "ev"; walk_at "rd"; (focus (simp; done)))
  | ((with_reducible apply ev_isi2); walk_at "ev"; walk_at "rd"; (focus (simp; done)); (focus (simp; done)))
  | ((with_reducible apply ev_op); walk_at "ev"; walk_at "ev"; walk_at "rk")
  | ((with_reducible apply ev_cb); walk_at "ea"; walk_at "r1")
  | ((with_reducible apply ev_neg); walk_at "ev")
  | ((with_reducible apply ev_count); walk_at "ev"; walk_at "rd"; walk_at "ev")
  | ((with_reducible apply ev_notV); walk_at "ev")
  | ((with_reducible apply ev_andV); walk_at "ev"; (intro _; walk_at "ev"))
  | ((with_reducible apply ev_orV); walk_at "ev"; (intro _; walk_at "ev"))
  | ((with_reducible apply ev_chain); walk_at "ev"; walk_at "ev"; walk_at "rk"; (intro _; walk_at "ev"); (intro _; walk_at "rk"))
  | ((with_reducible apply ev_ifI); walk_at "et"; (intro _; walk_at "ev"); (intro _; walk_at "ev"))
  | ((with_reducible apply ev_tu); walk_at "ed"; walk_at "side")
  | walk_at "call"
  | (apply Ev.ofL; walk_at "el")))
local macro_rules | `(tactic| walk_at "ea") => `(tactic| first
  | (with_reducible exact ea_nil)
  | ((with_reducible apply ea_cons); walk_at "ev"; walk_at "ea"))
local macro_rules | `(tactic| walk_at "ed") => `(tactic| first
  | (exact ed_nil)
  | (apply ed_cons; walk_at "ev"; walk_at "ed"))
local macro_rules | `(tactic| walk_at "et") => `(tactic| ((fail_if_success (with_reducible apply et_guard)); first
  | ((with_reducible apply et_test); walk_at "ev")
  | ((with_reducible apply et_B); walk_at "ev")
  | ((with_reducible apply et_and); walk_at "et"; (intro _; walk_at "et"))
  | ((with_reducible apply et_or); walk_at "et"; (intro _; walk_at "et"))
  | ((with_reducible apply et_not); walk_at "et")
  | (with_reducible exact et_yes)))
local macro_rules | `(tactic| walk_at "el") => `(tactic| ((fail_if_success (with_reducible apply el_guard)); first
  | ((with_reducible apply el_ls); walk_at "ed"; walk_at "side")
  | ((with_reducible apply el_op); walk_at "ev"; walk_at "ev"; walk_at "rl")
  | ((with_reducible apply el_cb); walk_at "ea"; walk_at "r1l")
  | ((with_reducible apply el_lcI); walk_at "ei"; walk_at "side"; (intro _; walk_at "tgw"); (intro _ _ _ hm; (try simp only [List.mem_range] at hm); walk_at "ev"))
  | ((with_reducible apply el_lcB); walk_at "ei"; walk_at "side"; (intro _; walk_at "tgw"); (intro _ _ _ hm; (try simp only [List.mem_range] at hm); walk_at "ev"))
  | ((with_reducible apply el_lc0); walk_at "ei"; walk_at "side"; (intro _; walk_at "tgw"); (intro _ _ _ hm; (try simp only [List.mem_range] at hm); walk_at "ev"))
  | ((with_reducible apply el_lcIf); walk_at "ei"; walk_at "side"; (intro _; walk_at "tgw"); (intro _ _ _ hm; (try simp only [List.mem_range] at hm); walk_at "et"); (intro _ _ _ hm _; (try simp only [List.mem_range] at hm); walk_at "ev"))
  | ((with_reducible apply el_lc); walk_at "ei"; walk_at "side"; (intro _; walk_at "tgw"); (intro _ _ _ hm; (try simp only [List.mem_range] at hm); walk_at "et"); (intro _ _ _ hm _; (try simp only [List.mem_range] at hm); walk_at "ev"))
  | ((with_reducible apply el_slice); walk_at "ev"; walk_at "eo"; walk_at "eo"; walk_at "rd")
  | ((with_reducible apply el_rev); walk_at "ev"; walk_at "rd")
  | ((with_reducible apply el_listRg); walk_at "eg"; omega; omega)
  | walk_at "calll"))
local macro_rules | `(tactic| walk_at "eo") => `(tactic| first | (with_reducible exact eo_none) | ((with_reducible apply eo_some); walk_at "ev"))
local macro_rules | `(tactic| walk_at "eg") => `(tactic| first | ((with_reducible apply eg_1); walk_at "ev") | ((with_reducible apply eg_2); walk_at "ev"; walk_at "ev"))
local macro_rules | `(tactic| walk_at "tgw") => `(tactic| first | exact tgw_name (by simp) | exact tgw_two (by simp) (by simp) | exact tgw_three (by simp) (by simp) (by simp))
local macro_rules | `(tactic| walk_at "tg") => `(tactic| first | exact tg_name | exact tg_two | exact tg_three)
local macro_rules | `(tactic| walk_at "ei") => `(tactic| first
  | ((with_reducible apply ei_range1); walk_at "ea"; omega; omega)
  | ((with_reducible apply ei_range2); walk_at "ea"; omega; omega)
  | ((with_reducible apply ei_rangeD); walk_at "ea"; omega; omega)
  | ((with_reducible apply ei_list); walk_at "ev")
  | ((with_reducible apply ei_enum); walk_at "ea")
  | ((with_reducible apply ei_zip); walk_at "ea"))
def t_reason (K : PySem.W.Frag) (w : World) (s_need_assignment s_need_ring s_passes : Sp) : TS :=
  (tSeq (tDrop (tCall s_need_ring [] E0 (tCons (tVar 0) tNil)))
    (tSeq (tDrop (tCall s_need_assignment [] E0 (tCons (tVar 0) (tCons (tVar 1) tNil))))
    (tSeq (tFor (iRng1 (tCons (tVar 0) tNil)) (gName 2) (tFor (iRng1 (tCons (tVar 0) tNil)) (gName 3) (tIfS (tB (tCall s_passes [] E0 (tCons (tVar 0) (tCons (tVar 1) (tCons (tVar 2) (tCons (tVar 3) tNil)))))) (tRet (tTup (tCons (tC (.str "passed")) (tCons (tVar 2) (tCons (tVar 3) tNil))))) tNext)))
    (tRet (tIf (tTest (tOp (xEq K) (tCB (xLenS w) (tCons (tCB (xSetI K w) (tCons (tVar 1) tNil)) tNil)) (tVar 0))) (tTup (tCons (tC (.str "all")) tNil)) (tC .non))))))
def t_drops_from (K : PySem.W.Frag) (w : World) (s_reason : Sp) : TS :=
  (tSeq (tAsg (tCall s_reason [] E0 (tCons (tVar 0) (tCons (tVar 1) tNil))) (gName 2))
    (tSeq (tIfS (tTest (tOp xIsNot (tVar 2) (tC .non))) tNever tNext)
    (tRet (tCB (rSortedSet w) (tCons (tCB (xSetI K w) (tCons (tVar 1) tNil)) tNil)))))
/-- what reason answers, for any assignment -/
def ReasonIs (n : Nat) (es : List Int) (d : PyData) : Prop :=
  (∃ i k : Nat, i < n ∧ k < n ∧ passB n es i k = true ∧ (∀ i' k', i' < i → k' < n → passB n es i' k' = false) ∧ (∀ k', k' < k → passB n es i k' = false) ∧ d = .tuple [.str "passed", .int (i : Int), .int (k : Int)]) ∨
  ((∀ i k, i < n → k < n → passB n es i k = false) ∧ d = if (uniqs es).length = n then .tuple [.str "all"] else .none)
def possP (n : Nat) (es : List Int) : Prop := (∀ i k, i < n → k < n → passB n es i k = false) ∧ (uniqs es).length ≠ n
theorem ReasonIs.none {n : Nat} {es : List Int} {d : PyData} (h : ReasonIs n es d) : (∃ ds, d = .tuple ds ∧ ¬ possP n es) ∨ (d = .none ∧ possP n es) := by
  rcases h with ⟨i, k, hi, hk, hp, _, _, rfl⟩ | ⟨h, rfl⟩
  · refine .inl ⟨_, rfl, fun q => ?_⟩
    rw [q.1 i k hi hk] at hp
    cases hp
  · by_cases e : (uniqs es).length = n
    · rw [if_pos e]
      exact .inl ⟨_, rfl, fun q => q.2 e⟩
    · rw [if_neg e]
      exact .inr ⟨rfl, h, e⟩
def c_reason : Ct := { args := aNI, pre := preE, post := fun x it C => ∃ d, it = .d d ∧ C = [] ∧ ReasonIs x.1 x.2 d }
def sp_reason (K : PySem.W.Frag) : Sp := c_reason.sp K
theorem p_reason {K : PySem.W.Frag} {w : World} : c_reason.keeps K 4 (t_reason K w (sp_need_assignment K) (sp_need_ring K) (sp_passes K)) := by
  rintro ⟨n, es⟩ M0 F0 Q ⟨hok, n0, n1⟩ hQ
  have h0 : ∀ F1, Ex F0 F1 → ∀ d, ReasonIs n es d → Rt ⟨K, M0, F1⟩ Q (.d d) [] := fun F1 e d h => hQ F1 e _ _ ⟨d, rfl, rfl, h⟩
  clear hQ
  dsimp only at hok n0 n1
  have hel := hok.len
  have hus := uniqs_le es
  show At ⟨K, M0, F0⟩ _ [some (.d (.int n)), some (.d (.list (es.map .int))), none, none] []
  unfold t_reason
  refine at_sq (at_dpE (it := .d .none) (cl_need_ring (by walk_at "ea") ⟨by omega, by omega⟩) ?_)
  refine at_sq (at_dpE (it := .d .none) (cl_need_assignment (n := n) (es := es) (by walk_at "ea") ⟨hok, n0, n1⟩) ?_)
  refine at_sq ?_
  refine at_each (xs := List.range ((n : Int)).toNat) (enc := fun i : Nat => .d (.int (i : Int))) ?_ (fun i G' C' => C' = [] ∧ (∀ i' k', i' < i → k' < n → passB n es i' k' = false) ∧ ∃ x2 x3, G' = [some (.d (.int n)), some (.d (.list (es.map .int))), x2, x3]) ⟨rfl, fun i' k' h => by omega, _, _, rfl⟩ ?_ ?_
  · walk_at "ei"
  · rintro F1 e1 i a G' C' ha ⟨rfl, hno, x2, x3, rfl⟩
    obtain ⟨hi, rfl⟩ := List.getElem?_eq_some_iff.mp ha
    rw [List.length_range] at hi
    have hi : i < n := by omega
    refine ⟨_, tg_name, fun N hN => ?_⟩
    rw [List.getElem_range]
    refine at_each (xs := List.range ((n : Int)).toNat) (enc := fun i : Nat => .d (.int (i : Int))) ?_ (fun k G' C' => C' = [] ∧ (∀ k', k' < k → passB n es i k' = false) ∧ ∃ x3, G' = [some (.d (.int n)), some (.d (.list (es.map .int))), some (.d (.int (i : Int))), x3]) ⟨rfl, fun k' h => by omega, _, rfl⟩ ?_ ?_
    · walk_at "ei"
    · rintro F2 e2 k a G2 C2 ha ⟨rfl, hno2, x3, rfl⟩
      obtain ⟨hk, rfl⟩ := List.getElem?_eq_some_iff.mp ha
      rw [List.length_range] at hk
      have hk : k < n := by omega
      refine ⟨_, tg_name, fun N2 hN2 => ?_⟩
      rw [List.getElem_range]
      refine at_if (b := passB n es i k) ?_ (fun q => ?_) fun q => at_nx (hN2 _ _ ⟨rfl, fun k' h => ?_, _, rfl⟩)
      · apply et_B
        exact cl_passes (n := n) (es := es) (i := i) (k := k) (by walk_at "ea") ⟨hel, hi, hk⟩
      · refine at_rt (it := .d (.tuple [.str "passed", .int (i : Int), .int (k : Int)])) ?_ (h0 F2 (e1.trans e2) _ (.inl ⟨i, k, hi, hk, q, hno, hno2, rfl⟩))
        exact ev_tu (ed_cons ev_str (ed_cons (by walk_at "ev") (ed_cons (by walk_at "ev") ed_nil))) (by simp)
      · by_cases z : k' = k
        · subst z
          exact q
        · exact hno2 k' (by omega)
    · rintro G2 C2 ⟨rfl, hno2, x3, rfl⟩
      rw [List.length_range] at hno2
      refine hN _ _ ⟨rfl, fun i' k' h1 h2 => ?_, _, _, rfl⟩
      by_cases z : i' = i
      · subst z
        exact hno2 k' (by omega)
      · exact hno i' k' (by omega) h2
  · rintro G' C' ⟨rfl, hno, x2, x3, rfl⟩
    rw [List.length_range] at hno
    have hall : ∀ i k, i < n → k < n → passB n es i k = false := fun i k hi hk => hno i k (by omega) hk
    refine at_rt (it := .d (if (uniqs es).length = n then .tuple [.str "all"] else .none)) (ev_if (b := decide (((uniqs es).length : Int) = (n : Int))) ?_ (fun e => ?_) fun e => ?_) (h0 F0 (Ex.refl F0) _ (.inr ⟨hall, rfl⟩))
    · apply et_test
      exact ev_op (x := .d (.int ((uniqs es).length : Int))) (y := .d (.int (n : Int))) (ev_lenSet (x := .d (.list (es.map .int))) (by walk_at "ev") (RdQ.d _) (by omega)) (by walk_at "ev") r_eqI
    · have e := of_decide_eq_true e
      rw [if_pos (by omega)]
      exact ev_tu (ed_cons ev_str ed_nil) (by simp)
    · have e := of_decide_eq_false e
      rw [if_neg (by omega)]
      walk_at "ev"
theorem w_reason {fm : Fm} {G : Gm} {C : Cs} {tr : TA} {k : Rr.It → Cs → Prop} {n : Nat} {es : List Int} (h : WA fm tr G C fun its C1 => its = [.d (.int n), .d (.list (es.map .int))] ∧ (AsOk n es ∧ 2 ≤ n ∧ n ≤ 60) ∧ ∀ d, ReasonIs n es d → k (.d d) C1) : W fm (tCall (sp_reason fm.K) [] E0 tr) G C k := by
  refine w_call fun F M σ ok Q q => h F M σ ok Q fun vs its C1 F1 M1 e1 ok1 r1 ⟨e, hp, hk⟩ => q vs its C1 F1 M1 e1 ok1 r1 ⟨(n, es), C1, e, rfl, hp, ?_⟩
  rintro it C' ⟨d, rfl, rfl, hd⟩
  exact hk d hd
theorem ends_poss {n : Nat} {is : List Int} (hd : DOk n is) : possP n (endsL n is) := by
  have hl := hd.lt
  refine ⟨fun i k hi hk => no_pass hd hi hk, ?_⟩
  rw [ends_kinds hd]
  omega
def c_drops_from : Ct := { args := argE, pre := preD, post := fun x it C => ∃ p, it = .c p ∧ C = [(p, .dat (x.2.map .int))] }
def sp_drops_from (K : PySem.W.Frag) : Sp := c_drops_from.sp K
theorem p_drops_from {K : PySem.W.Frag} {w : World} : c_drops_from.keeps K 3 (t_drops_from K w (sp_reason K)) := by
  rintro ⟨n, is⟩ M0 F0 Q ⟨hd, n0, n1⟩ hQ
  have h0 := fun p => hQ F0 (Ex.refl F0) _ _ ⟨p, rfl, rfl⟩
  clear hQ
  dsimp only at hd n0 n1 h0
  have hel := endsL_len n is
  show At ⟨K, M0, F0⟩ _ [some (.d (.int n)), some (.d (.list ((endsL n is).map .int))), none] []
  unfold t_drops_from
  refine at_sq (at_stW (w_reason (n := n) (es := endsL n is) (WA.of (its := [.d (.int n), .d (.list ((endsL n is).map .int))]) (by walk_at "ea") ⟨rfl, ⟨ends_ok hd, n0, n1⟩, fun d hdd => ?_⟩)))
  rcases hdd.none with ⟨ds, _, q⟩ | ⟨rfl, _⟩
  · exact absurd (ends_poss hd) q
  refine at_sq (at_if (b := false) ?_ (fun e => by cases e) fun _ => at_nx ?_)
  · apply EvT.is
    · walk_at "et"
    · rfl
  refine at_rtL ?_ h0
  apply EvL.is
  · exact el_sortedSet (ns := endsL n is) (x := .d (.list ((endsL n is).map .int))) (by walk_at "ev") (RdQ.d _) (by omega)
  · rw [ends_set hd]
end LibReason
namespace LibShow
open PySem L2 Rr Lib Lib2 Lib3 LibDist LibMoves LibEnds
open LibFeed (AsOk preE passB cl_passes cl_need_assignment sp_need_assignment sp_passes w_pick w_pickF sp__law_pick)
open LibTape (TapeC)
open LibTapeR (tape_one)
open LibPick (ih2)
local macro_rules | `(tactic| walk_at "call") => `(tactic| fail "no call")
local macro_rules | `(tactic| walk_at "calll") => `(tactic| fail "no call")
local macro_rules | `(tactic| walk_at "side") => `(tactic| first | rfl | (with_reducible assumption) | omega | (focus (simp only [List.length_map, List.length_range, List.length_cons, List.length_nil, List.length_append, List.length_replicate, Int.toNat_natCast, rgI]; omega)) | (focus (simp; done)) | (focus (simp; omega)) | decide)
local macro_rules | `(tactic| walk_at "rd") => `(tactic| first | exact RdQ.d _ | exact RdD.d _ | exact RdT.d _ | exact AsD.d _ | exact RdQ.c (k := 0) rfl | exact RdQ.c (k := 1) rfl | exact RdQ.c (k := 2) rfl | exact RdQ.c (k := 3) rfl | exact RdD.c (k := 0) rfl | exact RdD.c (k := 1) rfl | exact RdD.c (k := 2) rfl | exact RdD.c (k := 3) rfl | exact AsD.c (k := 0) rfl | exact AsD.c (k := 1) rfl | exact AsD.c (k := 2) rfl | exact AsD.c (k := 3) rfl | exact RdQ.s _)
local macro_rules | `(tactic| walk_at "sz") => `(tactic| first | (with_reducible assumption) | (apply sz_getD; with_reducible assumption) | (apply sz_mem; (with_reducible assumption); (with_reducible assumption)) | (apply sz_of <;> omega))
local macro_rules | `(tactic| walk_at "mul") => `(tactic| first | (with_reducible assumption) | (apply cmul_sz <;> walk_at "sz"))
local macro_rules | `(tactic| walk_at "pow") => `(tactic| first | (with_reducible assumption) | exact cpow_lt (a := 4) (by decide) (by decide) (by decide) (by decide) | exact cpow_lt (a := 300) (by decide +kernel) (by decide) (by decide) (by decide) | exact cpow_lt (a := 1000) (by omega) (by decide) (by omega) (by omega))
local macro_rules | `(tactic| walk_at "rk") => `(tactic| first
  | (with_reducible exact r_add)
  | (with_reducible exact r_sub)
  | (with_reducible exact r_lt)
  | (with_reducible exact r_le)
  | (with_reducible exact r_gt)
  | (with_reducible exact r_ge)
  | (with_reducible exact r_eqI)
  | (with_reducible exact r_neI)
  | (with_reducible exact r_is)
  | (with_reducible exact r_isNot)
  | (with_reducible exact r_isB)
  | (with_reducible exact r_isNotB)
  | ((with_reducible apply r_mul); walk_at "mul")
  | ((with_reducible apply r_div); (first | (with_reducible assumption) | (apply cdiv_sm <;> omega)))
  | ((with_reducible apply r_mod); (first | (with_reducible assumption) | omega))
  | ((with_reducible apply r_pow); walk_at "pow")
  | ((with_reducible apply r_in); walk_at "rd")
  | ((with_reducible apply r_notIn); walk_at "rd")
  | ((with_reducible apply r_ixI); walk_at "rd"; walk_at "side"; walk_at "side")
  | ((with_reducible apply r_ixB); walk_at "rd"; walk_at "side"; walk_at "side")
  | ((with_reducible apply r_ix); walk_at "rd"; walk_at "side"; walk_at "side"; rfl)
  | ((with_reducible apply r_ixD); walk_at "rd"; walk_at "side"; walk_at "side")
  | ((with_reducible apply r_ixTD); walk_at "rd"; walk_at "side"; walk_at "side")
  | ((with_reducible apply r_eqLI); walk_at "rd"; walk_at "rd")
  | ((with_reducible apply r_neLI); walk_at "rd"; walk_at "rd")
  | ((with_reducible apply r_eqD); walk_at "rd"; walk_at "rd"; (first | (with_reducible assumption) | rfl); (first | (with_reducible assumption) | rfl))
  | ((with_reducible apply r_neD); walk_at "rd"; walk_at "rd"; (first | (with_reducible assumption) | rfl); (first | (with_reducible assumption) | rfl))
  | (apply R2k.ofL; walk_at "rl"))
local macro_rules | `(tactic| walk_at "rl") => `(tactic| first
  | ((with_reducible apply r_cat); walk_at "rd"; walk_at "rd"; walk_at "side")
  | ((with_reducible apply r_rep); walk_at "rd"; walk_at "side"; walk_at "side"; walk_at "side"))
local macro_rules | `(tactic| walk_at "r1") => `(tactic| first
  | ((with_reducible apply r_lenL); walk_at "rd")
  | ((with_reducible apply r_lenT); walk_at "rd")
  | (with_reducible exact r_max2)
  | (with_reducible exact r_min2)
  | ((with_reducible apply r_max); walk_at "rd"; walk_at "side")
  | ((with_reducible apply r_min); walk_at "rd"; walk_at "side")
  | (with_reducible exact r_abs)
  | (with_reducible exact r_intB)
  | ((with_reducible apply r_sum); walk_at "rd")
  | ((with_reducible apply r_all); walk_at "rd")
  | ((with_reducible apply r_any); walk_at "rd")
  | ((with_reducible apply r_tuple); walk_at "rd")
  | (apply R1k.ofL; walk_at "r1l"))
local macro_rules | `(tactic| walk_at "r1l") => `(tactic| first
  | ((with_reducible apply r_sorted); walk_at "rd")
  | ((with_reducible apply r_list); walk_at "rd")
  | ((with_reducible apply r_listT); walk_at "rd"))
local macro_rules | `(tactic| walk_at "ev") => `(tactic| ((fail_if_success (with_reducible apply ev_guard)); first
  | (with_reducible exact ev_int)
  | ((with_reducible apply ev_var); rfl)
  | (with_reducible exact ev_bl)
  | (with_reducible exact ev_str)
  | (with_reducible exact ev_non)
  | ((with_reducible apply ev_isi); walk_at "ev"; walk_at "rd"; (focus (simp; done)))
  | ((with_reducible apply ev_isi2); walk_at "ev"; walk_at "rd"; (focus (simp; done)); (focus (simp; done)))
  | ((with_reducible apply ev_op); walk_at "ev"; walk_at "ev"; walk_at "rk")
  | ((with_reducible apply ev_cb); walk_at "ea"; walk_at "r1")
  | ((with_reducible apply ev_neg); walk_at "ev")
  | ((with_reducible apply ev_count); walk_at "ev"; walk_at "rd"; walk_at "ev")
  | ((with_reducible apply ev_notV); walk_at "ev")
  | ((with_reducible apply ev_andV); walk_at "ev"; (intro _; walk_at "ev"))
  | ((with_reducible apply ev_orV); walk_at "ev"; (intro _; walk_at "ev"))
  | ((with_reducible apply ev_chain); walk_at "ev"; walk_at "ev"; walk_at "rk"; (intro _; walk_at "ev"); (intro _; walk_at "rk"))
  | ((with_reducible apply ev_ifI); walk_at "et"; (intro _; walk_at "ev"); (intro _; walk_at "ev"))
  | ((with_reducible apply ev_tu); walk_at "ed"; walk_at "side")
  | walk_at "call"
  | (apply Ev.ofL; walk_at "el")))
local macro_rules | `(tactic| walk_at "ea") => `(tactic| first
  | (with_reducible exact ea_nil)
  | ((with_reducible apply ea_cons); walk_at "ev"; walk_at "ea"))
local macro_rules | `(tactic| walk_at "ed") => `(tactic| first
  | (exact ed_nil)
  | (apply ed_cons; walk_at "ev"; walk_at "ed"))
local macro_rules | `(tactic| walk_at "et") => `(tactic| ((fail_if_success (with_reducible apply et_guard)); first
  | ((with_reducible apply et_test); walk_at "ev")
  | ((with_reducible apply et_B); walk_at "ev")
  | ((with_reducible apply et_and); walk_at "et"; (intro _; walk_at "et"))
  | ((with_reducible apply et_or); walk_at "et"; (intro _; walk_at "et"))
  | ((with_reducible apply et_not); walk_at "et")
  | (with_reducible exact et_yes)))
local macro_rules | `(tactic| walk_at "el") => `(tactic| ((fail_if_success (with_reducible apply el_guard)); first
  | ((with_reducible apply el_ls); walk_at "ed"; walk_at "side")
  | ((with_reducible apply el_op); walk_at "ev"; walk_at "ev"; walk_at "rl")
  | ((with_reducible apply el_cb); walk_at "ea"; walk_at "r1l")
  | ((with_reducible apply el_lcI); walk_at "ei"; walk_at "side"; (intro _; walk_at "tgw"); (intro _ _ _ hm; (try simp only [List.mem_range] at hm); walk_at "ev"))
  | ((with_reducible apply el_lcB); walk_at "ei"; walk_at "side"; (intro _; walk_at "tgw"); (intro _ _ _ hm; (try simp only [List.mem_range] at hm); walk_at "ev"))
  | ((with_reducible apply el_lc0); walk_at "ei"; walk_at "side"; (intro _; walk_at "tgw"); (intro _ _ _ hm; (try simp only [List.mem_range] at hm); walk_at "ev"))
  | ((with_reducible apply el_lcIf); walk_at "ei"; walk_at "side"; (intro _; walk_at "tgw"); (intro _ _ _ hm; (try simp only [List.mem_range] at hm); walk_at "et"); (intro _ _ _ hm _; (try simp only [List.mem_range] at hm); walk_at "ev"))
  | ((with_reducible apply el_lc); walk_at "ei"; walk_at "side"; (intro _; walk_at "tgw"); (intro _ _ _ hm; (try simp only [List.mem_range] at hm); walk_at "et"); (intro _ _ _ hm _; (try simp only [List.mem_range] at hm); walk_at "ev"))
  | ((with_reducible apply el_slice); walk_at "ev"; walk_at "eo"; walk_at "eo"; walk_at "rd")
  | ((with_reducible apply el_rev); walk_at "ev"; walk_at "rd")
  | ((with_reducible apply el_listRg); walk_at "eg"; omega; omega)
  | walk_at "calll"))
local macro_rules | `(tactic| walk_at "eo") => `(tactic| first | (with_reducible exact eo_none) | ((with_reducible apply eo_some); walk_at "ev"))
local macro_rules | `(tactic| walk_at "eg") => `(tactic| first | ((with_reducible apply eg_1); walk_at "ev") | ((with_reducible apply eg_2); walk_at "ev"; walk_at "ev"))
local macro_rules | `(tactic| walk_at "tgw") => `(tactic| first | exact tgw_name (by simp) | exact tgw_two (by simp) (by simp) | exact tgw_three (by simp) (by simp) (by simp))
local macro_rules | `(tactic| walk_at "tg") => `(tactic| first | exact tg_name | exact tg_two | exact tg_three)
local macro_rules | `(tactic| walk_at "ei") => `(tactic| first
  | ((with_reducible apply ei_range1); walk_at "ea"; omega; omega)
  | ((with_reducible apply ei_range2); walk_at "ea"; omega; omega)
  | ((with_reducible apply ei_rangeD); walk_at "ea"; omega; omega)
  | ((with_reducible apply ei_list); walk_at "ev")
  | ((with_reducible apply ei_enum); walk_at "ea")
  | ((with_reducible apply ei_zip); walk_at "ea"))
def t__law_away (K : PySem.W.Frag) : TS :=
  (tSeq (tAsg (tC (.int 1)) (gName 3))
    (tSeq (tWhile (tTest (tOp (xNe K) (tOp xMod (tOp xAdd (tVar 1) (tVar 3)) (tVar 0)) (tVar 2))) (tAsg (tOp xAdd (tVar 3) (tC (.int 1))) (gName 3)))
    (tRet (tVar 3))))
def t__law_stops (K : PySem.W.Frag) : TS :=
  (tSeq (tAsg (tLst tNil) (gName 2))
    (tSeq (tFor (iRng1 (tCons (tVar 0) tNil)) (gName 3) (tSeq (tAsg (tOp xMod (tOp xAdd (tVar 3) (tC (.int 1))) (tVar 0)) (gName 4))
    (tSeq (tWhile (tTest (tOp (xNotIn K) (tVar 4) (tVar 1))) (tAsg (tOp xMod (tOp xAdd (tVar 4) (tC (.int 1))) (tVar 0)) (gName 4)))
    (tDrop (tBM K "list" rAppend (tVar 2) (tCons (tVar 4) tNil))))))
    (tRet (tVar 2))))
def t__law_same (K : PySem.W.Frag) (s__law_same : Sp) : TS :=
  (tSeq (tIfS (tB (tCB (xIsi K) (tCons (tVar 1) (tCons (tC (.ty "dict")) tNil)))) (tSeq (tIfS (tOr (tNot (tB (tCB (xIsi K) (tCons (tVar 0) (tCons (tC (.ty "dict")) tNil))))) (tTest (tOp (xNe K) (tCB (xList K) (tCons (tVar 0) tNil)) (tCB (xList K) (tCons (tVar 1) tNil))))) (tRet (tC (.bl false))) tNext)
    (tRet (tCB (xAll K) (tCons (tLc (iList K (tVar 1)) (gName 2) tYes (tCall s__law_same [] E0 (tCons (tOp (xIx K) (tVar 0) (tVar 2)) (tCons (tOp (xIx K) (tVar 1) (tVar 2)) tNil))) [2]) tNil)))) tNext)
    (tSeq (tIfS (tB (tCB (xIsi K) (tCons (tVar 1) (tCons (tTup (tCons (tC (.ty "list")) (tCons (tC (.ty "tuple")) tNil))) tNil)))) (tSeq (tIfS (tOr (tTest (tOp (xNe K) (tCB (xIsi K) (tCons (tVar 0) (tCons (tC (.ty "list")) tNil))) (tCB (xIsi K) (tCons (tVar 1) (tCons (tC (.ty "list")) tNil))))) (tTest (tOp (xNe K) (tCB (xIsi K) (tCons (tVar 0) (tCons (tC (.ty "tuple")) tNil))) (tCB (xIsi K) (tCons (tVar 1) (tCons (tC (.ty "tuple")) tNil)))))) (tRet (tC (.bl false))) tNext)
    (tRet (tAndV (tOp (xEq K) (tCB (xLen K) (tCons (tVar 0) tNil)) (tCB (xLen K) (tCons (tVar 1) tNil))) (tCB (xAll K) (tCons (tLc (RZ.iZipA K (tCons (tVar 0) (tCons (tVar 1) tNil))) (gTup K 2 (gCons (gName 3) (gCons (gName 4) gNil))) tYes (tCall s__law_same [] E0 (tCons (tVar 3) (tCons (tVar 4) tNil))) [3, 4]) tNil))))) tNext)
    (tSeq (tIfS (tOr (tTest (tOp xIs (tVar 1) (tC .non))) (tTest (tOp xIs (tVar 0) (tC .non)))) (tRet (tAndV (tOp xIs (tVar 1) (tC .non)) (tOp xIs (tVar 0) (tC .non)))) tNext)
    (tSeq (tIfS (tOr (tTest (tOp (xNe K) (tCB (xIsi K) (tCons (tVar 0) (tCons (tC (.ty "bool")) tNil))) (tCB (xIsi K) (tCons (tVar 1) (tCons (tC (.ty "bool")) tNil))))) (tTest (tOp (xNe K) (tCB (xIsi K) (tCons (tVar 0) (tCons (tC (.ty "str")) tNil))) (tCB (xIsi K) (tCons (tVar 1) (tCons (tC (.ty "str")) tNil)))))) (tRet (tC (.bl false))) tNext)
    (tRet (tOp (xEq K) (tVar 0) (tVar 1)))))))
def deepT : Nat → PyData → Bool
  | 0, _ => false
  | _ + 1, .int _ => true
  | _ + 1, .str _ => true
  | _ + 1, .bool _ => true
  | _ + 1, .none => true
  | n + 1, .list ds => ds.all (deepT n) && decide (ds.length ≤ 1000000)
  | n + 1, .tuple ds => ds.all (deepT n) && decide (ds.length ≤ 1000000)
  | _, _ => false
def c__law_same (n : Nat) : Ct := { args := fun d : PyData => [.d d, .d d], pre := fun d => deepT n d = true, post := fun d it C => it = .d (.bool true) ∧ C = [] }
def sp__law_same (K : PySem.W.Frag) : Nat → Sp
  | 0 => fun _ _ _ _ => False
  | n + 1 => (c__law_same (n + 1)).sp K
theorem cl_same {fm : Fm} {G : Gm} {C : Cs} {tr : TA} {n : Nat} {d : PyData} (h : EvA fm tr G C [.d d, .d d]) (hd : deepT n d = true) : Ev fm (tCall (sp__law_same fm.K n) [] E0 tr) G C (.d (.bool true)) := by
  cases n with
  | zero => cases hd
  | succ n => exact ev_call d h rfl rfl hd fun _ _ h => h
theorem p__law_same {K : PySem.W.Frag} (n : Nat) : (c__law_same (n + 1)).keeps K 5 (t__law_same K (sp__law_same K n)) := by
  rintro (d : PyData) M0 F0 Q (hd : deepT (n + 1) d = true) hQ
  have h0 := hQ F0 (Ex.refl F0) _ _ ⟨rfl, rfl⟩
  show At ⟨K, M0, F0⟩ _ [some (.d d), some (.d d), none, none, none] []
  unfold t__law_same
  refine at_sq ?_
  cases d with
  | int i =>
    refine at_if (b := false) ?_ (fun e => by cases e) fun _ => at_nx (at_sq ?_)
    · apply EvT.is
      · walk_at "et"
      · rfl
    refine at_if (b := false) ?_ (fun e => by cases e) fun _ => at_nx (at_sq ?_)
    · apply EvT.is
      · walk_at "et"
      · rfl
    refine at_if (b := false) ?_ (fun e => by cases e) fun _ => at_nx (at_sq ?_)
    · apply EvT.is
      · walk_at "et"
      · rfl
    refine at_if (b := false) ?_ (fun e => by cases e) fun _ => at_nx (at_rt ?_ h0)
    · apply EvT.is
      · walk_at "et"
      · rfl
    apply Ev.is
    · refine ev_op (x := .d (.int i)) (y := .d (.int i)) (ev_var rfl) (ev_var rfl) r_eqI
    · simp
  | str i =>
    refine at_if (b := false) ?_ (fun e => by cases e) fun _ => at_nx (at_sq ?_)
    · apply EvT.is
      · walk_at "et"
      · rfl
    refine at_if (b := false) ?_ (fun e => by cases e) fun _ => at_nx (at_sq ?_)
    · apply EvT.is
      · walk_at "et"
      · rfl
    refine at_if (b := false) ?_ (fun e => by cases e) fun _ => at_nx (at_sq ?_)
    · apply EvT.is
      · walk_at "et"
      · rfl
    refine at_if (b := false) ?_ (fun e => by cases e) fun _ => at_nx (at_rt ?_ h0)
    · apply EvT.is
      · walk_at "et"
      · rfl
    apply Ev.is
    · refine ev_op (x := .d (.str i)) (y := .d (.str i)) (ev_var rfl) (ev_var rfl) r_eqS
    · simp
  | bool i =>
    refine at_if (b := false) ?_ (fun e => by cases e) fun _ => at_nx (at_sq ?_)
    · apply EvT.is
      · walk_at "et"
      · rfl
    refine at_if (b := false) ?_ (fun e => by cases e) fun _ => at_nx (at_sq ?_)
    · apply EvT.is
      · walk_at "et"
      · rfl
    refine at_if (b := false) ?_ (fun e => by cases e) fun _ => at_nx (at_sq ?_)
    · apply EvT.is
      · walk_at "et"
      · rfl
    refine at_if (b := false) ?_ (fun e => by cases e) fun _ => at_nx (at_rt ?_ h0)
    · apply EvT.is
      · walk_at "et"
      · rfl
    apply Ev.is
    · refine ev_op (x := .d (.bool i)) (y := .d (.bool i)) (ev_var rfl) (ev_var rfl) (r_eqD (AsD.d _) (AsD.d _) rfl rfl)
    · cases i <;> rfl
  | none =>
    refine at_if (b := false) ?_ (fun e => by cases e) fun _ => at_nx (at_sq ?_)
    · apply EvT.is
      · walk_at "et"
      · rfl
    refine at_if (b := false) ?_ (fun e => by cases e) fun _ => at_nx (at_sq ?_)
    · apply EvT.is
      · walk_at "et"
      · rfl
    refine at_if (b := true) ?_ (fun _ => at_rt ?_ h0) fun e => by cases e
    · apply EvT.is
      · walk_at "et"
      · rfl
    apply Ev.is
    · walk_at "ev"
    · rfl
  | list ds =>
    obtain ⟨hd1, hd2⟩ := Bool.and_eq_true_iff.mp hd
    have hlen := of_decide_eq_true hd2
    refine at_if (b := false) ?_ (fun e => by cases e) fun _ => at_nx (at_sq ?_)
    · apply EvT.is
      · walk_at "et"
      · rfl
    refine at_if (b := true) ?_ (fun _ => at_sq ?_) fun e => by cases e
    · apply EvT.is
      · walk_at "et"
      · rfl
    refine at_if (b := false) ?_ (fun e => by cases e) fun _ => at_nx (at_rt ?_ h0)
    · apply EvT.is
      · walk_at "et"
      · rfl
    have hlv : ∀ {v : Nat} {G : Gm} {C : Cs}, G[v]? = some (some (.d (.list ds))) → Ev ⟨K, M0, F0⟩ (tCB (xLen K) (tCons (tVar v) tNil)) G C (.d (.int (ds.length : Int))) := fun g => ev_cb (its := [.d (.list ds)]) (ea_cons (ev_var g) ea_nil) (r_lenL (RdQ.d _))
    refine ev_andV (a := true) (b := true) (Ev.is (ev_op (hlv rfl) (hlv rfl) r_eqI) (by simp)) fun _ => ?_
    apply Ev.is
    · apply ev_cb
      · apply ea_cons
        · apply Ev.ofL
          apply el_lcB (f := fun _ => true) (xs := ds.zip ds) (enc := fun p : PyData × PyData => .d (.tuple [p.1, p.2]))
          · apply ei_zipL (e1 := fun d : PyData => d) (e2 := fun d : PyData => d)
            rw [List.map_id']
            exact ea_cons (ev_var rfl) (ea_cons (ev_var rfl) ea_nil)
          · rw [List.length_zip]
            omega
          · intro _
            walk_at "tgw"
          · intro M0 F0 a ha
            have e : a.1 = a.2 := by
              rw [ih2] at ha
              obtain ⟨d, _, rfl⟩ := List.mem_map.mp ha
              rfl
            obtain ⟨d1, d2⟩ := a
            have e : d1 = d2 := e
            subst e
            exact cl_same (by walk_at "ea") (List.all_eq_true.mp hd1 _ (List.of_mem_zip ha).1)
        · exact ea_nil
      · walk_at "r1"
    · simp
  | tuple ds =>
    obtain ⟨hd1, hd2⟩ := Bool.and_eq_true_iff.mp hd
    have hlen := of_decide_eq_true hd2
    refine at_if (b := false) ?_ (fun e => by cases e) fun _ => at_nx (at_sq ?_)
    · apply EvT.is
      · walk_at "et"
      · rfl
    refine at_if (b := true) ?_ (fun _ => at_sq ?_) fun e => by cases e
    · apply EvT.is
      · walk_at "et"
      · rfl
    refine at_if (b := false) ?_ (fun e => by cases e) fun _ => at_nx (at_rt ?_ h0)
    · apply EvT.is
      · walk_at "et"
      · rfl
    have hlv : ∀ {v : Nat} {G : Gm} {C : Cs}, G[v]? = some (some (.d (.tuple ds))) → Ev ⟨K, M0, F0⟩ (tCB (xLen K) (tCons (tVar v) tNil)) G C (.d (.int (ds.length : Int))) := fun g => ev_cb (its := [.d (.tuple ds)]) (ea_cons (ev_var g) ea_nil) (r_lenT (RdT.d _))
    refine ev_andV (a := true) (b := true) (Ev.is (ev_op (hlv rfl) (hlv rfl) r_eqI) (by simp)) fun _ => ?_
    apply Ev.is
    · apply ev_cb
      · apply ea_cons
        · apply Ev.ofL
          apply el_lcB (f := fun _ => true) (xs := ds.zip ds) (enc := fun p : PyData × PyData => .d (.tuple [p.1, p.2]))
          · apply ei_zipT (e1 := fun d : PyData => d) (e2 := fun d : PyData => d)
            rw [List.map_id']
            exact ea_cons (ev_var rfl) (ea_cons (ev_var rfl) ea_nil)
          · rw [List.length_zip]
            omega
          · intro _
            walk_at "tgw"
          · intro M0 F0 a ha
            have e : a.1 = a.2 := by
              rw [ih2] at ha
              obtain ⟨d, _, rfl⟩ := List.mem_map.mp ha
              rfl
            obtain ⟨d1, d2⟩ := a
            have e : d1 = d2 := e
            subst e
            exact cl_same (by walk_at "ea") (List.all_eq_true.mp hd1 _ (List.of_mem_zip ha).1)
        · exact ea_nil
      · walk_at "r1"
    · simp
  | dict b => cases hd
structure AwA where
  n : Int
  i : Int
  j : Int
def c__law_away : Ct := { args := fun x : AwA => [.d (.int x.n), .d (.int x.i), .d (.int x.j)], pre := fun x => 2 ≤ x.n ∧ x.n ≤ 60 ∧ 0 ≤ x.i ∧ x.i < x.n ∧ 0 ≤ x.j ∧ x.j < x.n, post := fun x it C => it = .d (.int (dist x.n x.i x.j)) ∧ C = [] }
def sp__law_away (K : PySem.W.Frag) : Sp := c__law_away.sp K
theorem p__law_away {K : PySem.W.Frag} : c__law_away.keeps K 4 (t__law_away K) := by
  rintro ⟨n, i, j⟩ M0 F0 Q ⟨n0, n1, i0, i1, j0, j1⟩ hQ
  dsimp only at n0 n1 i0 i1 j0 j1
  have h0 := hQ F0 (Ex.refl F0) _ _ ⟨rfl, rfl⟩
  dsimp only at h0
  have hr := dist_rng (n := n) (i := i) (j := j) (by omega)
  show At ⟨K, M0, F0⟩ _ [some (.d (.int n)), some (.d (.int i)), some (.d (.int j)), none] []
  unfold t__law_away
  refine at_sq (at_st (it := .d (.int 1)) ev_int ?_)
  refine at_sq ?_
  refine at_while (fun m G' C' => C' = [] ∧ ∃ f : Int, 1 ≤ f ∧ f + (m : Int) = dist n i j ∧ G' = [some (.d (.int n)), some (.d (.int i)), some (.d (.int j)), some (.d (.int f))]) (m0 := (dist n i j - 1).toNat) ⟨rfl, 1, by omega, by omega, rfl⟩ ?_
  rintro m G' C' ⟨rfl, f, f1, fm, rfl⟩
  have hat := dist_at i0 i1 j0 j1 f1 (by omega)
  refine WT.of (b := !decide ((i + f) % n = j)) ?_ ⟨fun e N hN => ?_, fun e => ?_⟩
  · exact et_test (ev_op (ev_op (ev_op (ev_var rfl) (ev_var rfl) r_add) (ev_var rfl) (r_mod (by omega))) (ev_var rfl) r_neI)
  · have hne : ¬ (i + f) % n = j := by simpa using e
    have hf : f ≠ dist n i j := fun q => hne (hat.mpr q)
    refine at_st (it := .d (.int (f + 1))) (ev_op (ev_var rfl) ev_int r_add) ?_
    exact hN (m - 1) _ _ (by omega) ⟨rfl, f + 1, by omega, by omega, rfl⟩
  · have he : (i + f) % n = j := by simpa using e
    have hf := hat.mp he
    rw [← hf] at h0
    dsimp only
    exact at_rt (it := .d (.int f)) (ev_var rfl) h0
theorem cl_away {fm : Fm} {G : Gm} {C : Cs} {tr : TA} {n i j : Int} (h : EvA fm tr G C [.d (.int n), .d (.int i), .d (.int j)]) (h1 : 2 ≤ n ∧ n ≤ 60 ∧ 0 ≤ i ∧ i < n ∧ 0 ≤ j ∧ j < n) : Ev fm (tCall (sp__law_away fm.K) [] E0 tr) G C (.d (.int (dist n i j))) := ev_call (⟨n, i, j⟩ : AwA) h rfl rfl h1 fun _ _ h => h
theorem mod_nxt {n t : Int} (h0 : 0 ≤ t) (h1 : t < n) : (t + 1) % n = if t + 1 = n then 0 else t + 1 := by
  by_cases e : t + 1 = n
  · rw [if_pos e, e, Int.emod_self]
  · rw [if_neg e, Int.emod_eq_of_lt (by omega) (by omega)]
def wayTo (n f t : Int) : Int := if t ≤ f then f - t else f - t + n
theorem way_step {n f t : Int} (f0 : 0 ≤ f) (f1 : f < n) (t0 : 0 ≤ t) (t1 : t < n) (h : t ≠ f) : wayTo n f (if t + 1 = n then 0 else t + 1) = wayTo n f t - 1 := by
  unfold wayTo
  by_cases e : t + 1 = n
  · rw [if_pos e, if_pos f0, if_neg (by omega)]
    omega
  · rw [if_neg e]
    by_cases g : t ≤ f
    · rw [if_pos g, if_pos (by omega)]
      omega
    · rw [if_neg g, if_neg (by omega)]
      omega
theorem way_pos {n f t : Int} (f0 : 0 ≤ f) (f1 : f < n) (t0 : 0 ≤ t) (t1 : t < n) : 0 ≤ wayTo n f t ∧ (t ≠ f → 1 ≤ wayTo n f t) := by
  unfold wayTo
  by_cases g : t ≤ f
  · rw [if_pos g]
    exact ⟨by omega, fun h => by omega⟩
  · rw [if_neg g]
    exact ⟨by omega, fun h => by omega⟩
def c__law_stops : Ct := { args := fun x : Nat × List Int => [.d (.int x.1), .d (.list (x.2.map .int))], pre := fun x => 2 ≤ x.1 ∧ x.1 ≤ 60 ∧ x.2 ≠ [] ∧ ∀ y ∈ x.2, 0 ≤ y ∧ y < x.1, post := fun x it C => ∃ p es, it = .c p ∧ AsOk x.1 es ∧ C = [(p, .dat (es.map .int))] }
def sp__law_stops (K : PySem.W.Frag) : Sp := c__law_stops.sp K
theorem p__law_stops {K : PySem.W.Frag} : c__law_stops.keeps K 5 (t__law_stops K) := by
  rintro ⟨n, is⟩ M0 F0 Q ⟨n0, n1, hne, hr⟩ hQ
  have h0 : ∀ p es, AsOk n es → Rt ⟨K, M0, F0⟩ Q (.c p) [(p, .dat (es.map .int))] := fun p es h => hQ F0 (Ex.refl F0) _ _ ⟨p, es, rfl, h, rfl⟩
  clear hQ
  dsimp only at n0 n1 hne hr
  obtain ⟨f0, ft, rfl⟩ : ∃ a l, is = a :: l := by
    cases is with
    | nil => exact absurd rfl hne
    | cons a l => exact ⟨a, l, rfl⟩
  obtain ⟨r0, r1⟩ := hr f0 List.mem_cons_self
  show At ⟨K, M0, F0⟩ _ [some (.d (.int n)), some (.d (.list ((f0 :: ft).map .int))), none, none, none] []
  unfold t__law_stops
  refine at_sq (at_stL (ds := ([] : List Int).map .int) (el_ls ed_nil (by simp)) fun p => ?_)
  refine at_sq ?_
  refine at_each (xs := List.range ((n : Int)).toNat) (enc := fun i : Nat => .d (.int (i : Int))) (by walk_at "ei") (fun i G' C' => (∃ es : List Int, es.length = i ∧ (∀ y ∈ es, 0 ≤ y ∧ y < (n : Int)) ∧ C' = [(p, .dat (es.map .int))]) ∧ ∃ x3 x4, G' = [some (.d (.int n)), some (.d (.list ((f0 :: ft).map .int))), some (.c p), x3, x4]) ⟨⟨[], rfl, fun y h => (by cases h), rfl⟩, _, _, rfl⟩ ?_ ?_
  · rintro F1 e1 i y G' C' hy ⟨⟨es, hel, her, rfl⟩, x3, x4, rfl⟩
    obtain ⟨hi, rfl⟩ := List.getElem?_eq_some_iff.mp hy
    rw [List.length_range] at hi
    have hi : i < n := by omega
    refine ⟨_, tg_name, fun N hN => ?_⟩
    rw [List.getElem_range]
    refine at_sq (at_st (it := .d (.int (((i : Int) + 1) % (n : Int)))) (ev_op (ev_op (ev_var rfl) ev_int r_add) (ev_var rfl) (r_mod (by omega))) ?_)
    have hm0 := Int.emod_nonneg ((i : Int) + 1) (show (n : Int) ≠ 0 by omega)
    have hm1 := Int.emod_lt_of_pos ((i : Int) + 1) (show (0 : Int) < n by omega)
    generalize ((i : Int) + 1) % (n : Int) = t0 at hm0 hm1
    refine at_sq ?_
    refine at_while (fun m G' C' => C' = [(p, .dat (es.map .int))] ∧ ∃ t : Int, 0 ≤ t ∧ t < n ∧ (m : Int) = wayTo n f0 t ∧ G' = [some (.d (.int n)), some (.d (.list ((f0 :: ft).map .int))), some (.c p), some (.d (.int (i : Int))), some (.d (.int t))]) (m0 := (wayTo n f0 t0).toNat) ⟨rfl, t0, hm0, hm1, by have := (way_pos r0 r1 hm0 hm1).1; omega, rfl⟩ ?_
    rintro m G2 C2 ⟨rfl, t, t0', t1, hmt, rfl⟩
    refine WT.of (b := !decide (t ∈ f0 :: ft)) ?_ ⟨fun e N2 hN2 => ?_, fun e => ?_⟩
    · exact et_test (ev_op (ev_var rfl) (ev_var rfl) (r_notIn (RdQ.d _)))
    · have hnt : ¬ t ∈ f0 :: ft := by simpa using e
      have htf : t ≠ f0 := fun q => hnt (by rw [q]; exact List.mem_cons_self)
      refine at_st (it := .d (.int ((t + 1) % (n : Int)))) (ev_op (ev_op (ev_var rfl) ev_int r_add) (ev_var rfl) (r_mod (by omega))) ?_
      rw [mod_nxt t0' t1]
      have w1 := (way_pos r0 r1 t0' t1).2 htf
      have w2 := way_step r0 r1 t0' t1 htf
      exact hN2 (m - 1) _ _ (by omega) ⟨rfl, if t + 1 = (n : Int) then 0 else t + 1, by split <;> omega, by split <;> omega, by omega, rfl⟩
    · dsimp only
      refine at_dp (w_append (p := p) (j := 0) (ds := es.map .int) (d := .int t) (ev_var rfl) rfl (ev_var rfl) (by rw [List.length_map]; omega) ?_)
      refine hN _ _ ⟨⟨es ++ [t], by rw [List.length_append]; simp; omega, fun y hy => ?_, by rw [List.map_append]; rfl⟩, _, _, rfl⟩
      rcases List.mem_append.mp hy with hy | hy
      · exact her y hy
      · rw [List.mem_singleton.mp hy]
        exact ⟨t0', t1⟩
  · rintro G' C' ⟨⟨es, hel, her, rfl⟩, x3, x4, rfl⟩
    rw [List.length_range] at hel
    exact at_rt (ev_var rfl) (h0 p es ⟨by omega, her⟩)
end LibShow
namespace LibSub
open PySem L2 Rr Lib Lib2 Lib3 LibDist LibMoves LibEnds
open LibFeed (AsOk w_pick w_pickF sp__law_pick)
open LibTape (TapeC)
open LibTapeR (tape_one)
open LibShow (wayTo way_pos way_step mod_nxt)
local macro_rules | `(tactic| walk_at "call") => `(tactic| fail "no call")
local macro_rules | `(tactic| walk_at "calll") => `(tactic| fail "no call")
local macro_rules | `(tactic| walk_at "side") => `(tactic| first | rfl | (with_reducible assumption) | omega | (focus (simp only [List.length_map, List.length_range, List.length_cons, List.length_nil, List.length_append, List.length_replicate, Int.toNat_natCast, rgI]; omega)) | (focus (simp; done)) | (focus (simp; omega)) | decide)
local macro_rules | `(tactic| walk_at "rd") => `(tactic| first | exact RdQ.d _ | exact RdD.d _ | exact RdT.d _ | exact AsD.d _ | exact RdQ.c (k := 0) rfl | exact RdQ.c (k := 1) rfl | exact RdQ.c (k := 2) rfl | exact RdQ.c (k := 3) rfl | exact RdD.c (k := 0) rfl | exact RdD.c (k := 1) rfl | exact RdD.c (k := 2) rfl | exact RdD.c (k := 3) rfl | exact AsD.c (k := 0) rfl | exact AsD.c (k := 1) rfl | exact AsD.c (k := 2) rfl | exact AsD.c (k := 3) rfl | exact RdQ.s _)
local macro_rules | `(tactic| walk_at "sz") => `(tactic| first | (with_reducible assumption) | (apply sz_getD; with_reducible assumption) | (apply sz_mem; (with_reducible assumption); (with_reducible assumption)) | (apply sz_of <;> omega))
local macro_rules | `(tactic| walk_at "mul") => `(tactic| first | (with_reducible assumption) | (apply cmul_sz <;> walk_at "sz"))
local macro_rules | `(tactic| walk_at "pow") => `(tactic| first | (with_reducible assumption) | exact cpow_lt (a := 4) (by decide) (by decide) (by decide) (by decide) | exact cpow_lt (a := 300) (by decide +kernel) (by decide) (by decide) (by decide) | exact cpow_lt (a := 1000) (by omega) (by decide) (by omega) (by omega))
local macro_rules | `(tactic| walk_at "rk") => `(tactic| first
  | (with_reducible exact r_add)
  | (with_reducible exact r_sub)
  | (with_reducible exact r_lt)
  | (with_reducible exact r_le)
  | (with_reducible exact r_gt)
  | (with_reducible exact r_ge)
  | (with_reducible exact r_eqI)
  | (with_reducible exact r_neI)
  | (with_reducible exact r_is)
  | (with_reducible exact r_isNot)
  | (with_reducible exact r_isB)
  | (with_reducible exact r_isNotB)
  | ((with_reducible apply r_mul); walk_at "mul")
  | ((with_reducible apply r_div); (first | (with_reducible assumption) | (apply cdiv_sm <;> omega)))
  | ((with_reducible apply r_mod); (first | (with_reducible assumption) | omega))
  | ((with_reducible apply r_pow); walk_at "pow")
  | ((with_reducible apply r_in); walk_at "rd")
  | ((with_reducible apply r_notIn); walk_at "rd")
  | ((with_reducible apply r_ixI); walk_at "rd"; walk_at "side"; walk_at "side")
  | ((with_reducible apply r_ixB); walk_at "rd"; walk_at "side"; walk_at "side")
  | ((with_reducible apply r_ix); walk_at "rd"; walk_at "side"; walk_at "side"; rfl)
  | ((with_reducible apply r_ixD); walk_at "rd"; walk_at "side"; walk_at "side")
  | ((with_reducible apply r_ixTD); walk_at "rd"; walk_at "side"; walk_at "side")
  | ((with_reducible apply r_eqLI); walk_at "rd"; walk_at "rd")
  | ((with_reducible apply r_neLI); walk_at "rd"; walk_at "rd")
  | ((with_reducible apply r_eqD); walk_at "rd"; walk_at "rd"; (first | (with_reducible assumption) | rfl); (first | (with_reducible assumption) | rfl))
  | ((with_reducible apply r_neD); walk_at "rd"; walk_at "rd"; (first | (with_reducible assumption) | rfl); (first | (with_reducible assumption) | rfl))
  | (apply R2k.ofL; walk_at "rl"))
local macro_rules | `(tactic| walk_at "rl") => `(tactic| first
  | ((with_reducible apply r_cat); walk_at "rd"; walk_at "rd"; walk_at "side")
  | ((with_reducible apply r_rep); walk_at "rd"; walk_at "side"; walk_at "side"; walk_at "side"))
local macro_rules | `(tactic| walk_at "r1") => `(tactic| first
  | ((with_reducible apply r_lenL); walk_at "rd")
  | ((with_reducible apply r_lenT); walk_at "rd")
  | (with_reducible exact r_max2)
  | (with_reducible exact r_min2)
  | ((with_reducible apply r_max); walk_at "rd"; walk_at "side")
  | ((with_reducible apply r_min); walk_at "rd"; walk_at "side")
  | (with_reducible exact r_abs)
  | (with_reducible exact r_intB)
  | ((with_reducible apply r_sum); walk_at "rd")
  | ((with_reducible apply r_all); walk_at "rd")
  | ((with_reducible apply r_any); walk_at "rd")
  | ((with_reducible apply r_tuple); walk_at "rd")
  | (apply R1k.ofL; walk_at "r1l"))
local macro_rules | `(tactic| walk_at "r1l") => `(tactic| first
  | ((with_reducible apply r_sorted); walk_at "rd")
  | ((with_reducible apply r_list); walk_at "rd")
  | ((with_reducible apply r_listT); walk_at "rd"))
local macro_rules | `(tactic| walk_at "ev") => `(tactic| ((fail_if_success (with_reducible apply ev_guard)); first
  | (with_reducible exact ev_int)
  | ((with_reducible apply ev_var); rfl)
  | (with_reducible exact ev_bl)
  | (with_reducible exact ev_str)
  | (with_reducible exact ev_non)
  | ((with_reducible apply ev_isi); walk_at "ev"; walk_at "rd"; (focus (simp; done)))
  | ((with_reducible apply ev_isi2); walk_at "ev"; walk_at "rd"; (focus (simp; done)); (focus (simp; done)))
  | ((with_reducible apply ev_op); walk_at "ev"; walk_at "ev"; walk_at "rk")
  | ((with_reducible apply ev_cb); walk_at "ea"; walk_at "r1")
  | ((with_reducible apply ev_neg); walk_at "ev")
  | ((with_reducible apply ev_count); walk_at "ev"; walk_at "rd"; walk_at "ev")
  | ((with_reducible apply ev_notV); walk_at "ev")
  | ((with_reducible apply ev_andV); walk_at "ev"; (intro _; walk_at "ev"))
  | ((with_reducible apply ev_orV); walk_at "ev"; (intro _; walk_at "ev"))
  | ((with_reducible apply ev_chain); walk_at "ev"; walk_at "ev"; walk_at "rk"; (intro _; walk_at "ev"); (intro _; walk_at "rk"))
  | ((with_reducible apply ev_ifI); walk_at "et"; (intro _; walk_at "ev"); (intro _; walk_at "ev"))
  | ((with_reducible apply ev_tu); walk_at "ed"; walk_at "side")
  | walk_at "call"
  | (apply Ev.ofL; walk_at "el")))
local macro_rules | `(tactic| walk_at "ea") => `(tactic| first
  | (with_reducible exact ea_nil)
  | ((with_reducible apply ea_cons); walk_at "ev"; walk_at "ea"))
local macro_rules | `(tactic| walk_at "ed") => `(tactic| first
  | (exact ed_nil)
  | (apply ed_cons; walk_at "ev"; walk_at "ed"))
local macro_rules | `(tactic| walk_at "et") => `(tactic| ((fail_if_success (with_reducible apply et_guard)); first
  | ((with_reducible apply et_test); walk_at "ev")
  | ((with_reducible apply et_B); walk_at "ev")
  | ((with_reducible apply et_and); walk_at "et"; (intro _; walk_at "et"))
  | ((with_reducible apply et_or); walk_at "et"; (intro _; walk_at "et"))
  | ((with_reducible apply et_not); walk_at "et")
  | (with_reducible exact et_yes)))
local macro_rules | `(tactic| walk_at "el") => `(tactic| ((fail_if_success (with_reducible apply el_guard)); first
  | ((with_reducible apply el_ls); walk_at "ed"; walk_at "side")
  | ((with_reducible apply el_op); walk_at "ev"; walk_at "ev"; walk_at "rl")
  | ((with_reducible apply el_cb); walk_at "ea"; walk_at "r1l")
  | ((with_reducible apply el_lcI); walk_at "ei"; walk_at "side"; (intro _; walk_at "tgw"); (intro _ _ _ hm; (try simp only [List.mem_range] at hm); walk_at "ev"))
  | ((with_reducible apply el_lcB); walk_at "ei"; walk_at "side"; (intro _; walk_at "tgw"); (intro _ _ _ hm; (try simp only [List.mem_range] at hm); walk_at "ev"))
  | ((with_reducible apply el_lc0); walk_at "ei"; walk_at "side"; (intro _; walk_at "tgw"); (intro _ _ _ hm; (try simp only [List.mem_range] at hm); walk_at "ev"))
  | ((with_reducible apply el_lcIf); walk_at "ei"; walk_at "side"; (intro _; walk_at "tgw"); (intro _ _ _ hm; (try simp only [List.mem_range] at hm); walk_at "et"); (intro _ _ _ hm _; (try simp only [List.mem_range] at hm); walk_at "ev"))
  | ((with_reducible apply el_lc); walk_at "ei"; walk_at "side"; (intro _; walk_at "tgw"); (intro _ _ _ hm; (try simp only [List.mem_range] at hm); walk_at "et"); (intro _ _ _ hm _; (try simp only [List.mem_range] at hm); walk_at "ev"))
  | ((with_reducible apply el_slice); walk_at "ev"; walk_at "eo"; walk_at "eo"; walk_at "rd")
  | ((with_reducible apply el_rev); walk_at "ev"; walk_at "rd")
  | ((with_reducible apply el_listRg); walk_at "eg"; omega; omega)
  | walk_at "calll"))
local macro_rules | `(tactic| walk_at "eo") => `(tactic| first | (with_reducible exact eo_none) | ((with_reducible apply eo_some); walk_at "ev"))
local macro_rules | `(tactic| walk_at "eg") => `(tactic| first | ((with_reducible apply eg_1); walk_at "ev") | ((with_reducible apply eg_2); walk_at "ev"; walk_at "ev"))
local macro_rules | `(tactic| walk_at "tgw") => `(tactic| first | exact tgw_name (by simp) | exact tgw_two (by simp) (by simp) | exact tgw_three (by simp) (by simp) (by simp))
local macro_rules | `(tactic| walk_at "tg") => `(tactic| first | exact tg_name | exact tg_two | exact tg_three)
local macro_rules | `(tactic| walk_at "ei") => `(tactic| first
  | ((with_reducible apply ei_range1); walk_at "ea"; omega; omega)
  | ((with_reducible apply ei_range2); walk_at "ea"; omega; omega)
  | ((with_reducible apply ei_rangeD); walk_at "ea"; omega; omega)
  | ((with_reducible apply ei_list); walk_at "ev")
  | ((with_reducible apply ei_enum); walk_at "ea")
  | ((with_reducible apply ei_zip); walk_at "ea"))
def t__law_stops (K : PySem.W.Frag) : TS :=
  (tSeq (tAsg (tLst tNil) (gName 2))
    (tSeq (tFor (iRng1 (tCons (tVar 0) tNil)) (gName 3) (tSeq (tAsg (tOp xMod (tOp xAdd (tVar 3) (tC (.int 1))) (tVar 0)) (gName 4))
    (tSeq (tWhile (tTest (tOp (xNotIn K) (tVar 4) (tVar 1))) (tAsg (tOp xMod (tOp xAdd (tVar 4) (tC (.int 1))) (tVar 0)) (gName 4)))
    (tDrop (tBM K "list" rAppend (tVar 2) (tCons (tVar 4) tNil))))))
    (tRet (tVar 2))))
theorem i_mod {n i d : Nat} : (((i : Int) + (d : Int)) % (n : Int)) = (((i + d) % n : Nat) : Int) := by
  rw [Int.natCast_emod]
  rfl
def c__law_stops : Ct := { args := fun x : Nat × List Int => [.d (.int x.1), .d (.list (x.2.map .int))], pre := fun x => 2 ≤ x.1 ∧ x.1 ≤ 60 ∧ DOk x.1 x.2, post := fun x it C => ∃ p, it = .c p ∧ C = [(p, .dat ((endsL x.1 x.2).map .int))] }
def sp__law_stops (K : PySem.W.Frag) : Sp := c__law_stops.sp K
theorem p__law_stops {K : PySem.W.Frag} : c__law_stops.keeps K 5 (t__law_stops K) := by
  rintro ⟨n, is⟩ M0 F0 Q ⟨n0, n1, hd⟩ hQ
  have h0 : ∀ p, Rt ⟨K, M0, F0⟩ Q (.c p) [(p, .dat ((endsL n is).map .int))] := fun p => hQ F0 (Ex.refl F0) _ _ ⟨p, rfl, rfl⟩
  clear hQ
  dsimp only at n0 n1 hd
  have hpos := hd.pos
  have hel := endsL_len n is
  obtain ⟨f0, hf0⟩ : ∃ f0, f0 ∈ is := by
    cases is with
    | nil => simp at hpos
    | cons a l => exact ⟨a, List.mem_cons_self⟩
  obtain ⟨r0, r1⟩ := hd.rng f0 hf0
  show At ⟨K, M0, F0⟩ _ [some (.d (.int n)), some (.d (.list (is.map .int))), none, none, none] []
  unfold t__law_stops
  refine at_sq (at_stL (ds := ((endsL n is).take 0).map .int) (el_ls ed_nil (by simp)) fun p => ?_)
  refine at_sq ?_
  refine at_each (xs := List.range ((n : Int)).toNat) (enc := fun i : Nat => .d (.int (i : Int))) (by walk_at "ei") (fun i G' C' => C' = [(p, .dat (((endsL n is).take i).map .int))] ∧ ∃ x3 x4, G' = [some (.d (.int n)), some (.d (.list (is.map .int))), some (.c p), x3, x4]) ⟨rfl, _, _, rfl⟩ ?_ ?_
  · rintro F1 e1 i y G' C' hy ⟨rfl, x3, x4, rfl⟩
    obtain ⟨hi, rfl⟩ := List.getElem?_eq_some_iff.mp hy
    rw [List.length_range] at hi
    have hi : i < n := by omega
    refine ⟨_, tg_name, fun N hN => ?_⟩
    rw [List.getElem_range]
    refine at_sq (at_st (it := .d (.int (((i : Int) + ((1 : Nat) : Int)) % (n : Int)))) (ev_op (ev_op (ev_var rfl) ev_int r_add) (ev_var rfl) (r_mod (by omega))) ?_)
    refine at_sq ?_
    have t0 : ∀ d : Nat, 0 ≤ ((i : Int) + (d : Int)) % (n : Int) := fun d => Int.emod_nonneg _ (by omega)
    have t1 : ∀ d : Nat, ((i : Int) + (d : Int)) % (n : Int) < n := fun d => Int.emod_lt_of_pos _ (by omega)
    refine at_while (fun m G' C' => C' = [(p, .dat (((endsL n is).take i).map .int))] ∧ ∃ d : Nat, 1 ≤ d ∧ (∀ d' : Nat, 1 ≤ d' → d' < d → ¬ (((i + d') % n : Nat) : Int) ∈ is) ∧ (m : Int) = wayTo n f0 (((i : Int) + (d : Int)) % (n : Int)) ∧ G' = [some (.d (.int n)), some (.d (.list (is.map .int))), some (.c p), some (.d (.int (i : Int))), some (.d (.int (((i : Int) + (d : Int)) % (n : Int))))]) (m0 := (wayTo n f0 (((i : Int) + ((1 : Nat) : Int)) % (n : Int))).toNat) ⟨rfl, 1, Nat.le_refl 1, fun d' h1 h2 => by omega, by have := (way_pos r0 r1 (t0 1) (t1 1)).1; omega, rfl⟩ ?_
    rintro m G2 C2 ⟨rfl, d, hd1, hno, hmt, rfl⟩
    have a0 := t0 d
    have a1 := t1 d
    refine WT.of (b := !decide (((i : Int) + (d : Int)) % (n : Int) ∈ is)) ?_ ⟨fun e N2 hN2 => ?_, fun e => ?_⟩
    · exact et_test (ev_op (ev_var rfl) (ev_var rfl) (r_notIn (RdQ.d _)))
    · have hnt : ¬ ((i : Int) + (d : Int)) % (n : Int) ∈ is := by simpa using e
      have htf : ((i : Int) + (d : Int)) % (n : Int) ≠ f0 := fun q => hnt (by rw [q]; exact hf0)
      have hst : (((i : Int) + (d : Int)) % (n : Int) + 1) % (n : Int) = ((i : Int) + ((d + 1 : Nat) : Int)) % (n : Int) := by
        rw [Int.emod_add_emod]
        congr 1
      have w1 := (way_pos r0 r1 a0 a1).2 htf
      have w2 := way_step r0 r1 a0 a1 htf
      rw [← mod_nxt a0 a1, hst] at w2
      refine at_st (it := .d (.int (((i : Int) + ((d + 1 : Nat) : Int)) % (n : Int)))) (Ev.is (ev_op (ev_op (ev_var rfl) ev_int r_add) (ev_var rfl) (r_mod (by omega))) (by rw [hst])) ?_
      refine hN2 (m - 1) _ _ (by omega) ⟨rfl, d + 1, by omega, fun d' h1 h2 => ?_, by omega, rfl⟩
      by_cases c : d' = d
      · subst c
        rw [← i_mod]
        exact hnt
      · exact hno d' h1 (by omega)
    · dsimp only
      have hin : ((i : Int) + (d : Int)) % (n : Int) ∈ is := by simpa using e
      have he : isEnd n is i (((i : Int) + (d : Int)) % (n : Int)) := ⟨d, hd1, i_mod, hin, hno⟩
      have hx := isEnd_unique he (ends_end hd hi)
      refine at_dp (w_append (p := p) (j := 0) (ds := ((endsL n is).take i).map .int) (d := .int (((i : Int) + (d : Int)) % (n : Int))) (ev_var rfl) rfl (ev_var rfl) (by rw [List.length_map, List.length_take]; omega) ?_)
      refine hN _ _ ⟨?_, _, _, rfl⟩
      show [(p, Cell.dat _)] = _
      rw [List.take_succ, List.getElem?_eq_getElem (by omega), List.map_append, hx, List.getD_eq_getElem?_getD, List.getElem?_eq_getElem (by omega)]
      rfl
  · rintro G' C' ⟨rfl, x3, x4, rfl⟩
    rw [List.length_range, show ((n : Int)).toNat = n by omega, List.take_of_length_le (by omega)]
    exact at_rt (ev_var rfl) (h0 p)
theorem el_stops {fm : Fm} {G : Gm} {C : Cs} {tr : TA} {n : Nat} {is : List Int} (h : EvA fm tr G C [.d (.int n), .d (.list (is.map .int))]) (hp : 2 ≤ n ∧ n ≤ 60 ∧ DOk n is) : EvL fm (tCall (sp__law_stops fm.K) [] E0 tr) G C ((endsL n is).map .int) := el_call (n, is) h rfl rfl hp fun _ _ h => h
end LibSub
namespace LibAll
open PySem L2 Rr Lib Lib2 Lib3
local macro_rules | `(tactic| walk_at "call") => `(tactic| fail "no call")
local macro_rules | `(tactic| walk_at "calll") => `(tactic| fail "no call")
local macro_rules | `(tactic| walk_at "side") => `(tactic| first | rfl | (with_reducible assumption) | omega | (focus (simp only [List.length_map, List.length_range, List.length_cons, List.length_nil, List.length_append, List.length_replicate, Int.toNat_natCast, rgI]; omega)) | (focus (simp; done)) | (focus (simp; omega)) | decide)
local macro_rules | `(tactic| walk_at "rd") => `(tactic| first | exact RdQ.d _ | exact RdD.d _ | exact RdT.d _ | exact AsD.d _ | exact RdQ.c (k := 0) rfl | exact RdQ.c (k := 1) rfl | exact RdQ.c (k := 2) rfl | exact RdQ.c (k := 3) rfl | exact RdD.c (k := 0) rfl | exact RdD.c (k := 1) rfl | exact RdD.c (k := 2) rfl | exact RdD.c (k := 3) rfl | exact AsD.c (k := 0) rfl | exact AsD.c (k := 1) rfl | exact AsD.c (k := 2) rfl | exact AsD.c (k := 3) rfl | exact RdQ.s _)
local macro_rules | `(tactic| walk_at "sz") => `(tactic| first | (with_reducible assumption) | (apply sz_getD; with_reducible assumption) | (apply sz_mem; (with_reducible assumption); (with_reducible assumption)) | (apply sz_of <;> omega))
local macro_rules | `(tactic| walk_at "mul") => `(tactic| first | (with_reducible assumption) | (apply cmul_sz <;> walk_at "sz"))
local macro_rules | `(tactic| walk_at "pow") => `(tactic| first | (with_reducible assumption) | exact cpow_lt (a := 4) (by decide) (by decide) (by decide) (by decide) | exact cpow_lt (a := 300) (by decide +kernel) (by decide) (by decide) (by decide) | exact cpow_lt (a := 1000) (by omega) (by decide) (by omega) (by omega))
local macro_rules | `(tactic| walk_at "rk") => `(tactic| first
  | (with_reducible exact r_add)
  | (with_reducible exact r_sub)
  | (with_reducible exact r_lt)
  | (with_reducible exact r_le)
  | (with_reducible exact r_gt)
  | (with_reducible exact r_ge)
  | (with_reducible exact r_eqI)
  | (with_reducible exact r_neI)
  | (with_reducible exact r_is)
  | (with_reducible exact r_isNot)
  | (with_reducible exact r_isB)
  | (with_reducible exact r_isNotB)
  | ((with_reducible apply r_mul); walk_at "mul")
  | ((with_reducible apply r_div); (first | (with_reducible assumption) | (apply cdiv_sm <;> omega)))
  | ((with_reducible apply r_mod); (first | (with_reducible assumption) | omega))
  | ((with_reducible apply r_pow); walk_at "pow")
  | ((with_reducible apply r_in); walk_at "rd")
  | ((with_reducible apply r_notIn); walk_at "rd")
  | ((with_reducible apply r_ixI); walk_at "rd"; walk_at "side"; walk_at "side")
  | ((with_reducible apply r_ixB); walk_at "rd"; walk_at "side"; walk_at "side")
  | ((with_reducible apply r_ix); walk_at "rd"; walk_at "side"; walk_at "side"; rfl)
  | ((with_reducible apply r_ixD); walk_at "rd"; walk_at "side"; walk_at "side")
  | ((with_reducible apply r_ixTD); walk_at "rd"; walk_at "side"; walk_at "side")
  | ((with_reducible apply r_eqLI); walk_at "rd"; walk_at "rd")
  | ((with_reducible apply r_neLI); walk_at "rd"; walk_at "rd")
  | ((with_reducible apply r_eqD); walk_at "rd"; walk_at "rd"; (first | (with_reducible assumption) | rfl); (first | (with_reducible assumption) | rfl))
  | ((with_reducible apply r_neD); walk_at "rd"; walk_at "rd"; (first | (with_reducible assumption) | rfl); (first | (with_reducible assumption) | rfl))
  | (apply R2k.ofL; walk_at "rl"))
local macro_rules | `(tactic| walk_at "rl") => `(tactic| first
  | ((with_reducible apply r_cat); walk_at "rd"; walk_at "rd"; walk_at "side")
  | ((with_reducible apply r_rep); walk_at "rd"; walk_at "side"; walk_at "side"; walk_at "side"))
local macro_rules | `(tactic| walk_at "r1") => `(tactic| first
  | ((with_reducible apply r_lenL); walk_at "rd")
  | ((with_reducible apply r_lenT); walk_at "rd")
  | (with_reducible exact r_max2)
  | (with_reducible exact r_min2)
  | ((with_reducible apply r_max); walk_at "rd"; walk_at "side")
  | ((with_reducible apply r_min); walk_at "rd"; walk_at "side")
  | (with_reducible exact r_abs)
  | (with_reducible exact r_intB)
  | ((with_reducible apply r_sum); walk_at "rd")
  | ((with_reducible apply r_all); walk_at "rd")
  | ((with_reducible apply r_any); walk_at "rd")
  | ((with_reducible apply r_tuple); walk_at "rd")
  | (apply R1k.ofL; walk_at "r1l"))
local macro_rules | `(tactic| walk_at "r1l") => `(tactic| first
  | ((with_reducible apply r_sorted); walk_at "rd")
  | ((with_reducible apply r_list); walk_at "rd")
  | ((with_reducible apply r_listT); walk_at "rd"))
local macro_rules | `(tactic| walk_at "ev") => `(tactic| ((fail_if_success (with_reducible apply ev_guard)); first
  | (with_reducible exact ev_int)
  | ((with_reducible apply ev_var); rfl)
  | (with_reducible exact ev_bl)
  | (with_reducible exact ev_str)
  | (with_reducible exact ev_non)
  | ((with_reducible apply ev_isi); walk_at "ev"; walk_at "rd"; (focus (simp; done)))
  | ((with_reducible apply ev_isi2); walk_at "ev"; walk_at "rd"; (focus (simp; done)); (focus (simp; done)))
  | ((with_reducible apply ev_op); walk_at "ev"; walk_at "ev"; walk_at "rk")
  | ((with_reducible apply ev_cb); walk_at "ea"; walk_at "r1")
  | ((with_reducible apply ev_neg); walk_at "ev")
  | ((with_reducible apply ev_count); walk_at "ev"; walk_at "rd"; walk_at "ev")
  | ((with_reducible apply ev_notV); walk_at "ev")
  | ((with_reducible apply ev_andV); walk_at "ev"; (intro _; walk_at "ev"))
  | ((with_reducible apply ev_orV); walk_at "ev"; (intro _; walk_at "ev"))
  | ((with_reducible apply ev_chain); walk_at "ev"; walk_at "ev"; walk_at "rk"; (intro _; walk_at "ev"); (intro _; walk_at "rk"))
  | ((with_reducible apply ev_ifI); walk_at "et"; (intro _; walk_at "ev"); (intro _; walk_at "ev"))
  | ((with_reducible apply ev_tu); walk_at "ed"; walk_at "side")
  | walk_at "call"
  | (apply Ev.ofL; walk_at "el")))
local macro_rules | `(tactic| walk_at "ea") => `(tactic| first
  | (with_reducible exact ea_nil)
  | ((with_reducible apply ea_cons); walk_at "ev"; walk_at "ea"))
local macro_rules | `(tactic| walk_at "ed") => `(tactic| first
  | (exact ed_nil)
  | (apply ed_cons; walk_at "ev"; walk_at "ed"))
local macro_rules | `(tactic| walk_at "et") => `(tactic| ((fail_if_success (with_reducible apply et_guard)); first
  | ((with_reducible apply et_test); walk_at "ev")
  | ((with_reducible apply et_B); walk_at "ev")
  | ((with_reducible apply et_and); walk_at "et"; (intro _; walk_at "et"))
  | ((with_reducible apply et_or); walk_at "et"; (intro _; walk_at "et"))
  | ((with_reducible apply et_not); walk_at "et")
  | (with_reducible exact et_yes)))
local macro_rules | `(tactic| walk_at "el") => `(tactic| ((fail_if_success (with_reducible apply el_guard)); first
  | ((with_reducible apply el_ls); walk_at "ed"; walk_at "side")
  | ((with_reducible apply el_op); walk_at "ev"; walk_at "ev"; walk_at "rl")
  | ((with_reducible apply el_cb); walk_at "ea"; walk_at "r1l")
  | ((with_reducible apply el_lcI); walk_at "ei"; walk_at "side"; (intro _; walk_at "tgw"); (intro _ _ _ hm; (try simp only [List.mem_range] at hm); walk_at "ev"))
  | ((with_reducible apply el_lcB); walk_at "ei"; walk_at "side"; (intro _; walk_at "tgw"); (intro _ _ _ hm; (try simp only [List.mem_range] at hm); walk_at "ev"))
  | ((with_reducible apply el_lc0); walk_at "ei"; walk_at "side"; (intro _; walk_at "tgw"); (intro _ _ _ hm; (try simp only [List.mem_range] at hm); walk_at "ev"))
  | ((with_reducible apply el_lcIf); walk_at "ei"; walk_at "side"; (intro _; walk_at "tgw"); (intro _ _ _ hm; (try simp only [List.mem_range] at hm); walk_at "et"); (intro _ _ _ hm _; (try simp only [List.mem_range] at hm); walk_at "ev"))
  | ((with_reducible apply el_lc); walk_at "ei"; walk_at "side"; (intro _; walk_at "tgw"); (intro _ _ _ hm; (try simp only [List.mem_range] at hm); walk_at "et"); (intro _ _ _ hm _; (try simp only [List.mem_range] at hm); walk_at "ev"))
  | ((with_reducible apply el_slice); walk_at "ev"; walk_at "eo"; walk_at "eo"; walk_at "rd")
  | ((with_reducible apply el_rev); walk_at "ev"; walk_at "rd")
  | ((with_reducible apply el_listRg); walk_at "eg"; omega; omega)
  | walk_at "calll"))
local macro_rules | `(tactic| walk_at "eo") => `(tactic| first | (with_reducible exact eo_none) | ((with_reducible apply eo_some); walk_at "ev"))
local macro_rules | `(tactic| walk_at "eg") => `(tactic| first | ((with_reducible apply eg_1); walk_at "ev") | ((with_reducible apply eg_2); walk_at "ev"; walk_at "ev"))
local macro_rules | `(tactic| walk_at "tgw") => `(tactic| first | exact tgw_name (by simp) | exact tgw_two (by simp) (by simp) | exact tgw_three (by simp) (by simp) (by simp))
local macro_rules | `(tactic| walk_at "tg") => `(tactic| first | exact tg_name | exact tg_two | exact tg_three)
local macro_rules | `(tactic| walk_at "ei") => `(tactic| first
  | ((with_reducible apply ei_range1); walk_at "ea"; omega; omega)
  | ((with_reducible apply ei_range2); walk_at "ea"; omega; omega)
  | ((with_reducible apply ei_rangeD); walk_at "ea"; omega; omega)
  | ((with_reducible apply ei_list); walk_at "ev")
  | ((with_reducible apply ei_enum); walk_at "ea")
  | ((with_reducible apply ei_zip); walk_at "ea"))
def t__law_all_sets (K : PySem.W.Frag) : TS :=
  (tSeq (tAsg (tLst (tCons (tLst tNil) tNil)) (gName 1))
    (tSeq (tFor (iRng1 (tCons (tVar 0) tNil)) (gName 2) (tAsg (tOp xAdd (tVar 1) (tLc (iList K (tVar 1)) (gName 3) tYes (tOp xAdd (tVar 3) (tLst (tCons (tVar 2) tNil))) [3])) (gName 1)))
    (tRet (tCB (rSortedR K) (tCons (tLc (iList K (tVar 1)) (gName 3) (tTest (tChain xLt xLt (tC (.int 0)) (tCB (xLen K) (tCons (tVar 3) tNil)) (tVar 0))) (tVar 3) [3]) tNil)))))
def allR : Nat → List (List Int)
  | 0 => [[]]
  | k + 1 => allR k ++ (allR k).map fun r => r ++ [(k : Int)]
theorem allR_len : ∀ k, (allR k).length = 2 ^ k
  | 0 => rfl
  | k + 1 => by
    show (allR k ++ _).length = _
    rw [List.length_append, List.length_map, allR_len k, Nat.pow_succ]
    omega
theorem mem_allR : ∀ {k : Nat} {is : List Int}, is ∈ allR k ↔ is.Pairwise (· < ·) ∧ ∀ x ∈ is, 0 ≤ x ∧ x < (k : Int)
  | 0, is => by
    show is ∈ [[]] ↔ _
    rw [List.mem_singleton]
    constructor
    · rintro rfl
      exact ⟨List.Pairwise.nil, fun x h => by cases h⟩
    · rintro ⟨-, h⟩
      cases is with
      | nil => rfl
      | cons x is =>
        have := h x List.mem_cons_self
        omega
  | k + 1, is => by
    show is ∈ allR k ++ (allR k).map (fun r => r ++ [(k : Int)]) ↔ _
    rw [List.mem_append, List.mem_map, mem_allR]
    constructor
    · rintro (⟨h1, h2⟩ | ⟨r, hr, rfl⟩)
      · exact ⟨h1, fun x hx => by have := h2 x hx; omega⟩
      · obtain ⟨h1, h2⟩ := mem_allR.mp hr
        refine ⟨List.pairwise_append.mpr ⟨h1, List.pairwise_singleton _ _, fun x hx y hy => by rw [List.mem_singleton.mp hy]; exact (h2 x hx).2⟩, fun x hx => ?_⟩
        rcases List.mem_append.mp hx with hx | hx
        · have := h2 x hx
          omega
        · rw [List.mem_singleton.mp hx]
          omega
    · rintro ⟨h1, h2⟩
      by_cases c : (k : Int) ∈ is
      · right
        obtain ⟨l1, l2, rfl⟩ := List.append_of_mem c
        obtain ⟨p1, p2, p3⟩ := List.pairwise_append.mp h1
        have hl2 : l2 = [] := by
          cases l2 with
          | nil => rfl
          | cons y l2 =>
            have := (List.pairwise_cons.mp p2).1 y List.mem_cons_self
            have := h2 y (by simp)
            omega
        subst hl2
        refine ⟨l1, mem_allR.mpr ⟨p1, fun x hx => ?_⟩, rfl⟩
        have := h2 x (by simp [hx])
        have := p3 x hx (k : Int) List.mem_cons_self
        omega
      · left
        refine ⟨h1, fun x hx => ?_⟩
        have h3 := h2 x hx
        by_cases e : x = (k : Int)
        · exact absurd (e ▸ hx) c
        · omega
theorem allR_nd : ∀ k, (allR k).Nodup
  | 0 => by
    show [[]].Nodup
    simp
  | k + 1 => by
    show (allR k ++ (allR k).map fun r => r ++ [(k : Int)]).Nodup
    refine List.nodup_append.mpr ⟨allR_nd k, ?_, fun a ha b hb e => ?_⟩
    · refine List.pairwise_map.mpr ((allR_nd k).imp fun h e => h ?_)
      exact List.append_cancel_right e
    · subst e
      obtain ⟨r, _, rfl⟩ := List.mem_map.mp hb
      have := (mem_allR.mp ha).2 (k : Int) (by simp)
      omega
def prR (n : Nat) (r : List Int) : Bool := decide (0 < r.length) && decide (r.length < n)
def setsL (n : Nat) : List (List Int) := srtR ((allR n).filter (prR n))
theorem mem_sets {n : Nat} {is : List Int} : is ∈ setsL n ↔ DOk n is := by
  unfold setsL
  rw [(srtR_perm _).mem_iff, List.mem_filter, mem_allR]
  unfold prR
  rw [Bool.and_eq_true, decide_eq_true_eq, decide_eq_true_eq]
  exact ⟨fun ⟨⟨a, b⟩, c, d⟩ => ⟨a, b, c, d⟩, fun h => ⟨⟨h.up, h.rng⟩, h.pos, h.lt⟩⟩
theorem sets_nd (n : Nat) : (setsL n).Nodup := (srtR_perm _).nodup_iff.mpr ((allR_nd n).filter _)
theorem sets_len (n : Nat) : (setsL n).length ≤ 2 ^ n := by
  unfold setsL
  rw [(srtR_perm _).length_eq, ← allR_len n]
  exact List.length_filter_le _ _
def c__law_all_sets : Ct := { args := fun n : Nat => [.d (.int n)], pre := fun n => n ≤ 6, post := fun n it C => ∃ p, it = .c p ∧ C = [(p, .dat ((setsL n).map eRow))] }
def sp__law_all_sets (K : PySem.W.Frag) : Sp := c__law_all_sets.sp K
theorem p__law_all_sets {K : PySem.W.Frag} : c__law_all_sets.keeps K 4 (t__law_all_sets K) := by
  rintro (n : Nat) M0 F0 Q (hn : n ≤ 6) hQ
  have h0 : ∀ p, Rt ⟨K, M0, F0⟩ Q (.c p) [(p, .dat ((setsL n).map eRow))] := fun p => hQ F0 (Ex.refl F0) _ _ ⟨p, rfl, rfl⟩
  clear hQ
  have hk : ∀ k, k ≤ 6 → (allR k).length ≤ 64 := fun k h => by
    rw [allR_len]
    exact Nat.le_trans (Nat.pow_le_pow_right (by decide) h) (by decide)
  have hrl : ∀ {k : Nat} {r : List Int}, r ∈ allR k → r.length ≤ k := fun {k r} h => by
    obtain ⟨h1, h2⟩ := mem_allR.mp h
    have := List.Nodup.length_le_of_subset (l₁ := r) (l₂ := rgI 0 (k : Int)) (h1.imp fun h => Int.ne_of_lt h) fun x hx => rgI_mem.mpr (h2 x hx)
    rw [rgI_len] at this
    exact this
  show At ⟨K, M0, F0⟩ _ [some (.d (.int n)), none, none, none] []
  unfold t__law_all_sets
  refine at_sq (at_st (it := .d (.list ((allR 0).map eRow))) (Ev.ofL (el_ls (ds := [.list []]) (ed_cons (Ev.ofL (el_ls ed_nil (by simp))) ed_nil) (by simp))) ?_)
  refine at_sq ?_
  refine at_each (xs := List.range ((n : Int)).toNat) (enc := fun i : Nat => .d (.int (i : Int))) (ei_range1 (ea_cons (ev_var rfl) ea_nil) (by omega) (by omega)) (fun i G' C' => C' = [] ∧ ∃ x2, G' = [some (.d (.int n)), some (.d (.list ((allR i).map eRow))), x2, none]) ⟨rfl, _, rfl⟩ ?_ ?_
  · rintro F1 e1 i y G' C' hy ⟨rfl, x2, rfl⟩
    obtain ⟨hi, rfl⟩ := List.getElem?_eq_some_iff.mp hy
    rw [List.length_range] at hi
    have hi : i < n := by omega
    rw [List.getElem_range]
    have hkl := hk i (by omega)
    refine ⟨_, tg_name, fun N hN => ?_⟩
    refine at_st (it := .d (.list ((allR (i + 1)).map eRow))) (Ev.is (Ev.ofL (el_op (x := .d (.list ((allR i).map eRow))) (y := .d (.list ((allR i).map fun r => eRow (r ++ [(i : Int)])))) (ev_var rfl) (Ev.ofL (el_lc0 (f := fun r => eRow (r ++ [(i : Int)])) (xs := allR i) (enc := fun r => .d (eRow r)) (G2 := fun r => [some (.d (.int n)), some (.d (.list ((allR i).map eRow))), some (.d (.int (i : Int))), some (.d (eRow r))]) (ei_list (enc := eRow) (ev_var rfl)) (by omega) (fun r => tgw_name (by simp)) fun _ _ r hr => ?_)) (r_cat (RdD.d _) (RdD.d _) (by rw [List.length_map, List.length_map]; omega)))) ?_) (hN _ _ ⟨rfl, _, rfl⟩)
    · have := hrl hr
      exact Ev.is (Ev.ofL (el_op (x := .d (.list (r.map .int))) (y := .d (.list [.int (i : Int)])) (ev_var rfl) (Ev.ofL (el_ls (ed_cons (ev_var rfl) ed_nil) (by simp))) (r_cat (RdD.d _) (RdD.d _) (by rw [List.length_map]; simp; omega)))) (by show _ = It.d (.list ((r ++ [(i : Int)]).map .int)); rw [List.map_append]; rfl)
    · show It.d (.list (_ ++ _)) = It.d (.list ((allR i ++ (allR i).map fun r => r ++ [(i : Int)]).map eRow))
      rw [List.map_append, List.map_map]
      rfl
  · rintro G' C' ⟨rfl, x2, rfl⟩
    rw [List.length_range, show ((n : Int)).toNat = n by omega]
    have hkl := hk n hn
    refine at_rtL (ds := (setsL n).map eRow) (el_cb (its := [.d (.list (((allR n).filter (prR n)).map eRow))]) (ea_cons (Ev.ofL (el_lc (p := prR n) (f := eRow) (xs := allR n) (enc := fun r => .d (eRow r)) (G2 := fun r => [some (.d (.int n)), some (.d (.list ((allR n).map eRow))), x2, some (.d (eRow r))]) (ei_list (enc := eRow) (ev_var rfl)) (by omega) (fun r => tgw_name (by simp)) (fun _ _ r hr => ?_) fun _ _ r _ _ => ev_var rfl)) ea_nil) (r_sortedR (RdQ.d _))) h0
    refine EvT.is (et_test (ev_chain (b := decide ((0 : Int) < ((r.length : Nat) : Int))) (b' := decide (((r.length : Nat) : Int) < (n : Int))) ev_int (Ev.is (ev_cb (its := [.d (eRow r)]) (ea_cons (ev_var rfl) ea_nil) (r_lenL (RdQ.d _))) (by rw [List.length_map])) r_lt (fun _ => ev_var rfl) fun _ => r_lt)) ?_
    unfold prR
    congr 1
    · exact decide_eq_decide.mpr (by omega)
    · exact decide_eq_decide.mpr (by omega)
theorem el_sets {fm : Fm} {G : Gm} {C : Cs} {tr : TA} {n : Nat} (h : EvA fm tr G C [.d (.int n)]) (h1 : n ≤ 6) : EvL fm (tCall (sp__law_all_sets fm.K) [] E0 tr) G C ((setsL n).map eRow) := el_call n h rfl rfl h1 fun _ _ h => h
end LibAll
namespace K13
open PySem L2 Rr Lib Lib2 Lib3 LibDist LibAll
open LibEnds (endsL endsL_len ends_end)
open LibFeed (AsOk preE passB ends_ok ends_set cl_passes cl_need_assignment sp_need_assignment sp_passes p_passes p_need_assignment sp_are_ends p_are_ends w_pick w_pickF sp__law_pick p__law_pick sp__law_feed p__law_feed c__law_feed)
open LibReason (ReasonIs possP ends_poss sp_reason p_reason c_reason w_reason)
open LibShow (deepT sp__law_same p__law_same cl_same sp__law_away p__law_away cl_away)
open LibSub (sp__law_stops p__law_stops el_stops)
open LibTape (TapeC)
open LibTapeR (tape_one)
local macro_rules | `(tactic| walk_at "call") => `(tactic| fail "no call")
local macro_rules | `(tactic| walk_at "calll") => `(tactic| fail "no call")
local macro_rules | `(tactic| walk_at "side") => `(tactic| first | rfl | (with_reducible assumption) | omega | (focus (simp only [List.length_map, List.length_range, List.length_cons, List.length_nil, List.length_append, List.length_replicate, Int.toNat_natCast, rgI]; omega)) | (focus (simp; done)) | (focus (simp; omega)) | decide)
local macro_rules | `(tactic| walk_at "rd") => `(tactic| first | exact RdQ.d _ | exact RdD.d _ | exact RdT.d _ | exact AsD.d _ | exact RdQ.c (k := 0) rfl | exact RdQ.c (k := 1) rfl | exact RdQ.c (k := 2) rfl | exact RdQ.c (k := 3) rfl | exact RdD.c (k := 0) rfl | exact RdD.c (k := 1) rfl | exact RdD.c (k := 2) rfl | exact RdD.c (k := 3) rfl | exact AsD.c (k := 0) rfl | exact AsD.c (k := 1) rfl | exact AsD.c (k := 2) rfl | exact AsD.c (k := 3) rfl | exact RdQ.s _)
local macro_rules | `(tactic| walk_at "sz") => `(tactic| first | (with_reducible assumption) | (apply sz_getD; with_reducible assumption) | (apply sz_mem; (with_reducible assumption); (with_reducible assumption)) | (apply sz_of <;> omega))
local macro_rules | `(tactic| walk_at "mul") => `(tactic| first | (with_reducible assumption) | (apply cmul_sz <;> walk_at "sz"))
local macro_rules | `(tactic| walk_at "pow") => `(tactic| first | (with_reducible assumption) | exact cpow_lt (a := 4) (by decide) (by decide) (by decide) (by decide) | exact cpow_lt (a := 300) (by decide +kernel) (by decide) (by decide) (by decide) | exact cpow_lt (a := 1000) (by omega) (by decide) (by omega) (by omega))
local macro_rules | `(tactic| walk_at "rk") => `(tactic| first
  | (with_reducible exact r_add)
  | (with_reducible exact r_sub)
  | (with_reducible exact r_lt)
  | (with_reducible exact r_le)
  | (with_reducible exact r_gt)
  | (with_reducible exact r_ge)
  | (with_reducible exact r_eqI)
  | (with_reducible exact r_neI)
  | (with_reducible exact r_is)
  | (with_reducible exact r_isNot)
  | (with_reducible exact r_isB)
  | (with_reducible exact r_isNotB)
  | ((with_reducible apply r_mul); walk_at "mul")
  | ((with_reducible apply r_div); (first | (with_reducible assumption) | (apply cdiv_sm <;> omega)))
  | ((with_reducible apply r_mod); (first | (with_reducible assumption) | omega))
  | ((with_reducible apply r_pow); walk_at "pow")
  | ((with_reducible apply r_in); walk_at "rd")
  | ((with_reducible apply r_notIn); walk_at "rd")
  | ((with_reducible apply r_ixI); walk_at "rd"; walk_at "side"; walk_at "side")
  | ((with_reducible apply r_ixB); walk_at "rd"; walk_at "side"; walk_at "side")
  | ((with_reducible apply r_ix); walk_at "rd"; walk_at "side"; walk_at "side"; rfl)
  | ((with_reducible apply r_ixD); walk_at "rd"; walk_at "side"; walk_at "side")
  | ((with_reducible apply r_ixTD); walk_at "rd"; walk_at "side"; walk_at "side")
  | ((with_reducible apply r_eqLI); walk_at "rd"; walk_at "rd")
  | ((with_reducible apply r_neLI); walk_at "rd"; walk_at "rd")
  | ((with_reducible apply r_eqD); walk_at "rd"; walk_at "rd"; (first | (with_reducible assumption) | rfl); (first | (with_reducible assumption) | rfl))
  | ((with_reducible apply r_neD); walk_at "rd"; walk_at "rd"; (first | (with_reducible assumption) | rfl); (first | (with_reducible assumption) | rfl))
  | (apply R2k.ofL; walk_at "rl"))
local macro_rules | `(tactic| walk_at "rl") => `(tactic| first
  | ((with_reducible apply r_cat); walk_at "rd"; walk_at "rd"; walk_at "side")
  | ((with_reducible apply r_rep); walk_at "rd"; walk_at "side"; walk_at "side"; walk_at "side"))
local macro_rules | `(tactic| walk_at "r1") => `(tactic| first
  | ((with_reducible apply r_lenL); walk_at "rd")
  | ((with_reducible apply r_lenT); walk_at "rd")
  | (with_reducible exact r_max2)
  | (with_reducible exact r_min2)
  | ((with_reducible apply r_max); walk_at "rd"; walk_at "side")
  | ((with_reducible apply r_min); walk_at "rd"; walk_at "side")
  | (with_reducible exact r_abs)
  | (with_reducible exact r_intB)
  | ((with_reducible apply r_sum); walk_at "rd")
  | ((with_reducible apply r_all); walk_at "rd")
  | ((with_reducible apply r_any); walk_at "rd")
  | ((with_reducible apply r_tuple); walk_at "rd")
  | (apply R1k.ofL; walk_at "r1l"))
local macro_rules | `(tactic| walk_at "r1l") => `(tactic| first
  | ((with_reducible apply r_sorted); walk_at "rd")
  | ((with_reducible apply r_list); walk_at "rd")
  | ((with_reducible apply r_listT); walk_at "rd"))
local macro_rules | `(tactic| walk_at "ev") => `(tactic| ((fail_if_success (with_reducible apply ev_guard)); first
  | (with_reducible exact ev_int)
  | ((with_reducible apply ev_var); rfl)
  | (with_reducible exact ev_bl)
  | (with_reducible exact ev_str)
  | (with_reducible exact ev_non)
  | ((with_reducible apply ev_isi); walk_at "ev"; walk_at "rd"; (focus (simp; done)))
  | ((with_reducible apply ev_isi2); walk_at "ev"; walk_at "rd"; (focus (simp; done)); (focus (simp; done)))
  | ((with_reducible apply ev_op); walk_at "ev"; walk_at "ev"; walk_at "rk")
  | ((with_reducible apply ev_cb); walk_at "ea"; walk_at "r1")
  | ((with_reducible apply ev_neg); walk_at "ev")
  | ((with_reducible apply ev_count); walk_at "ev"; walk_at "rd"; walk_at "ev")
  | ((with_reducible apply ev_notV); walk_at "ev")
  | ((with_reducible apply ev_andV); walk_at "ev"; (intro _; walk_at "ev"))
  | ((with_reducible apply ev_orV); walk_at "ev"; (intro _; walk_at "ev"))
  | ((with_reducible apply ev_chain); walk_at "ev"; walk_at "ev"; walk_at "rk"; (intro _; walk_at "ev"); (intro _; walk_at "rk"))
  | ((with_reducible apply ev_ifI); walk_at "et"; (intro _; walk_at "ev"); (intro _; walk_at "ev"))
  | ((with_reducible apply ev_tu); walk_at "ed"; walk_at "side")
  | walk_at "call"
  | (apply Ev.ofL; walk_at "el")))
local macro_rules | `(tactic| walk_at "ea") => `(tactic| first
  | (with_reducible exact ea_nil)
  | ((with_reducible apply ea_cons); walk_at "ev"; walk_at "ea"))
local macro_rules | `(tactic| walk_at "ed") => `(tactic| first
  | (exact ed_nil)
  | (apply ed_cons; walk_at "ev"; walk_at "ed"))
local macro_rules | `(tactic| walk_at "et") => `(tactic| ((fail_if_success (with_reducible apply et_guard)); first
  | ((with_reducible apply et_test); walk_at "ev")
  | ((with_reducible apply et_B); walk_at "ev")
  | ((with_reducible apply et_and); walk_at "et"; (intro _; walk_at "et"))
  | ((with_reducible apply et_or); walk_at "et"; (intro _; walk_at "et"))
  | ((with_reducible apply et_not); walk_at "et")
  | (with_reducible exact et_yes)))
local macro_rules | `(tactic| walk_at "el") => `(tactic| ((fail_if_success (with_reducible apply el_guard)); first
  | ((with_reducible apply el_ls); walk_at "ed"; walk_at "side")
  | ((with_reducible apply el_op); walk_at "ev"; walk_at "ev"; walk_at "rl")
  | ((with_reducible apply el_cb); walk_at "ea"; walk_at "r1l")
  | ((with_reducible apply el_lcI); walk_at "ei"; walk_at "side"; (intro _; walk_at "tgw"); (intro _ _ _ hm; (try simp only [List.mem_range] at hm); walk_at "ev"))
  | ((with_reducible apply el_lcB); walk_at "ei"; walk_at "side"; (intro _; walk_at "tgw"); (intro _ _ _ hm; (try simp only [List.mem_range] at hm); walk_at "ev"))
  | ((with_reducible apply el_lc0); walk_at "ei"; walk_at "side"; (intro _; walk_at "tgw"); (intro _ _ _ hm; (try simp only [List.mem_range] at hm); walk_at "ev"))
  | ((with_reducible apply el_lcIf); walk_at "ei"; walk_at "side"; (intro _; walk_at "tgw"); (intro _ _ _ hm; (try simp only [List.mem_range] at hm); walk_at "et"); (intro _ _ _ hm _; (try simp only [List.mem_range] at hm); walk_at "ev"))
  | ((with_reducible apply el_lc); walk_at "ei"; walk_at "side"; (intro _; walk_at "tgw"); (intro _ _ _ hm; (try simp only [List.mem_range] at hm); walk_at "et"); (intro _ _ _ hm _; (try simp only [List.mem_range] at hm); walk_at "ev"))
  | ((with_reducible apply el_slice); walk_at "ev"; walk_at "eo"; walk_at "eo"; walk_at "rd")
  | ((with_reducible apply el_rev); walk_at "ev"; walk_at "rd")
  | ((with_reducible apply el_listRg); walk_at "eg"; omega; omega)
  | walk_at "calll"))
local macro_rules | `(tactic| walk_at "eo") => `(tactic| first | (with_reducible exact eo_none) | ((with_reducible apply eo_some); walk_at "ev"))
local macro_rules | `(tactic| walk_at "eg") => `(tactic| first | ((with_reducible apply eg_1); walk_at "ev") | ((with_reducible apply eg_2); walk_at "ev"; walk_at "ev"))
local macro_rules | `(tactic| walk_at "tgw") => `(tactic| first | exact tgw_name (by simp) | exact tgw_two (by simp) (by simp) | exact tgw_three (by simp) (by simp) (by simp))
local macro_rules | `(tactic| walk_at "tg") => `(tactic| first | exact tg_name | exact tg_two | exact tg_three)
local macro_rules | `(tactic| walk_at "ei") => `(tactic| first
  | ((with_reducible apply ei_range1); walk_at "ea"; omega; omega)
  | ((with_reducible apply ei_range2); walk_at "ea"; omega; omega)
  | ((with_reducible apply ei_rangeD); walk_at "ea"; omega; omega)
  | ((with_reducible apply ei_list); walk_at "ev")
  | ((with_reducible apply ei_enum); walk_at "ea")
  | ((with_reducible apply ei_zip); walk_at "ea"))
def t_possible (K : PySem.W.Frag) (s_reason : Sp) : TS :=
  (tRet (tOp xIs (tCall s_reason [] E0 (tCons (tVar 0) (tCons (tVar 1) tNil))) (tC .non)))
def t_drops_from (K : PySem.W.Frag) (w : World) (E : XK) (s_reason : Sp) : TS :=
  (tSeq (tAsg (tCall s_reason [] E0 (tCons (tVar 0) (tCons (tVar 1) tNil))) (gName 2))
    (tSeq (tIfS (tTest (tOp xIsNot (tVar 2) (tC .non))) (tRaiseR (He.ga K "Impossible") "reason" (tVar 2) E) tNext)
    (tRet (tCB (rSortedSet w) (tCons (tCB (xSetI K w) (tCons (tVar 1) tNil)) tNil)))))
def t__law_told (K : PySem.W.Frag) (s_drops_from : Sp) : TS :=
  (tTryR K (fun W => (tSeq (tIfS (tB (tVar 2)) (tRet (tCallKS 2 s_drops_from (Rr.perm [1, 0]) (WE W) (tCons (tVar 1) (tCons (tVar 0) tNil)))) tNext)
    (tRet (tCallS s_drops_from (WE W) (tCons (tVar 0) (tCons (tVar 1) tNil)))))) (.ref (He.ga K "Impossible")) 3 (fun a cls d => tRet (tTup (tCons (tC (.str "no")) (tCons (tXf a cls d (He.ga K "Impossible") "reason" (tVar 3)) tNil)))) (fun _ _ _ _ => False))
def t__law_reason (K : PySem.W.Frag) (w : World) (s__law_away : Sp) : TS :=
  (tSeq (tFor (iRng1 (tCons (tVar 0) tNil)) (gName 2) (tFor (iRng1 (tCons (tVar 0) tNil)) (gName 3) (tIfS (tAnd (tTest (tOp xIsNot (tOp (xIx K) (tVar 1) (tVar 2)) (tC .non))) (tTest (tOp xIsNot (tOp (xIx K) (tVar 1) (tVar 3)) (tC .non)))) (tIfS (tTest (tOp xLt (tCall s__law_away [] E0 (tCons (tVar 0) (tCons (tVar 2) (tCons (tOp (xIx K) (tVar 1) (tVar 3)) tNil)))) (tCall s__law_away [] E0 (tCons (tVar 0) (tCons (tVar 2) (tCons (tOp (xIx K) (tVar 1) (tVar 2)) tNil)))))) (tRet (tTup (tCons (tC (.str "passed")) (tCons (tVar 2) (tCons (tVar 3) tNil))))) tNext) tNext)))
    (tSeq (tAsg (tLc (iList K (tVar 1)) (gName 4) (tTest (tOp xIsNot (tVar 4) (tC .non))) (tVar 4) [4]) (gName 5))
    (tRet (tIf (tTest (tOp (xEq K) (tCB (xLenS w) (tCons (tCB (xSetI K w) (tCons (tVar 5) tNil)) tNil)) (tVar 0))) (tTup (tCons (tC (.str "all")) tNil)) (tC .non)))))
def t__law_right (K : PySem.W.Frag) (s__law_reason s__law_same s__law_told s_possible s_reason : Sp) : TS :=
  (tSeq (tAsg (tCB (xRepr K) (tCons (tVar 1) tNil)) (gName 3))
    (tSeq (tPar 4 5 (tCons (tCall s__law_reason [] E0 (tCons (tVar 0) (tCons (tVar 1) tNil))) (tCons (tDGet1 (tVar 2) (tCB (xTuple K) (tCons (tVar 1) tNil))) tNil)))
    (tSeq (tIfS (tTest (tOp (xNe K) (tOp xIs (tVar 4) (tC .non)) (tOp xIsNot (tVar 5) (tC .non)))) (tRet (tC (.bl false))) tNext)
    (tSeq (tAsg (tLst (tCons (tCall s_possible [] E0 (tCons (tVar 0) (tCons (tVar 1) tNil))) (tCons (tCallK0 2 s_possible (Rr.perm [1, 0]) E0 (tCons (tVar 1) (tCons (tVar 0) tNil))) tNil))) (gName 6))
    (tSeq (tIfS (tNot (tB (tCall s__law_same [] E0 (tCons (tVar 6) (tCons (tOp xMul (tLst (tCons (tOp xIs (tVar 4) (tC .non)) tNil)) (tC (.int 2))) tNil))))) (tRet (tC (.bl false))) tNext)
    (tSeq (tIfS (tNot (tB (tCall s__law_same [] E0 (tCons (tLst (tCons (tCall s_reason [] E0 (tCons (tVar 0) (tCons (tVar 1) tNil))) (tCons (tCallK0 2 s_reason (Rr.perm [1, 0]) E0 (tCons (tVar 1) (tCons (tVar 0) tNil))) tNil))) (tCons (tLst (tCons (tVar 4) (tCons (tVar 4) tNil))) tNil))))) (tRet (tC (.bl false))) tNext)
    (tSeq (tAsg (tIf (tTest (tOp xIs (tVar 5) (tC .non))) (tTup (tCons (tC (.str "no")) (tCons (tVar 4) tNil))) (tVar 5)) (gName 7))
    (tSeq (tAsg (tLst (tCons (tCall s__law_told [] E0 (tCons (tVar 0) (tCons (tVar 1) (tCons (tC (.bl false)) tNil)))) (tCons (tCall s__law_told [] E0 (tCons (tVar 0) (tCons (tVar 1) (tCons (tC (.bl true)) tNil)))) tNil))) (gName 8))
    (tRet (tAndV (tCall s__law_same [] E0 (tCons (tVar 8) (tCons (tLst (tCons (tVar 7) (tCons (tVar 7) tNil))) tNil))) (tOp (xEq K) (tCB (xRepr K) (tCons (tVar 1) tNil)) (tVar 3))))))))))))
def t__law_every (K : PySem.W.Frag) : TS :=
  (tSeq (tAsg (tLst (tCons (tLst tNil) tNil)) (gName 1))
    (tSeq (tFor (iRng1 (tCons (tVar 0) tNil)) (gName 2) (tSeq (tAsg (tLst tNil) (gName 3))
    (tSeq (tFor (iList K (tVar 1)) (gName 4) (tDrop (tBM K "list" rExtend (tVar 3) (tCons (tLc (iRng1 (tCons (tVar 0) tNil)) (gName 5) tYes (tOp xAdd (tVar 4) (tLst (tCons (tVar 5) tNil))) [5]) tNil))))
    (tAsg (tVar 3) (gName 1)))))
    (tRet (tVar 1))))
def t_law (K : PySem.W.Frag) (s__law_all_sets s__law_every s__law_feed s__law_pick s__law_right s__law_stops : Sp) : TS :=
  (tSeq (tFor (iRng1 (tCons (tC (.int 1)) tNil)) (gName 1) (tSeq (tAsg (tCall s__law_feed [] E0 (tCons (tVar 0) (tCons (tVar 1) tNil))) (gName 2))
    (tSeq (tAsg (tOp xAdd (tC (.int 2)) (tCall s__law_pick [] E0 (tCons (tVar 2) (tCons (tC (.int 3)) tNil)))) (gName 3))
    (tSeq (tAsg (tCB (rDictT K) (tCons (tLc (iList K (tCall s__law_all_sets [] E0 (tCons (tVar 3) tNil))) (gName 4) tYes (tTup (tCons (tCB (xTuple K) (tCons (tCall s__law_stops [] E0 (tCons (tVar 3) (tCons (tVar 4) tNil))) tNil)) (tCons (tVar 4) tNil))) [4]) tNil)) (gName 5))
    (tSeq (tFor (iList K (tCall s__law_every [] E0 (tCons (tVar 3) tNil))) (gName 6) (tIfS (tNot (tB (tCall s__law_right [] E0 (tCons (tVar 3) (tCons (tVar 6) (tCons (tVar 5) tNil)))))) (tRet (tC (.bl false))) tNext))
    (tSeq (tAsg (tOp xAdd (tC (.int 5)) (tCall s__law_pick [] E0 (tCons (tVar 2) (tCons (tC (.int 2)) tNil)))) (gName 3))
    (tSeq (tAsg (tCB (rDictT K) (tCons (tLc (iList K (tCall s__law_all_sets [] E0 (tCons (tVar 3) tNil))) (gName 4) tYes (tTup (tCons (tCB (xTuple K) (tCons (tCall s__law_stops [] E0 (tCons (tVar 3) (tCons (tVar 4) tNil))) tNil)) (tCons (tVar 4) tNil))) [4]) tNil)) (gName 5))
    (tSeq (tAsg (tCB rSortedDT (tCons (tVar 5) tNil)) (gName 7))
    (tSeq (tFor (iRng1 (tCons (tC (.int 50)) tNil)) (gName 8) (tSeq (tAsg (tCB (xList K) (tCons (tOp (xIx K) (tVar 7) (tCall s__law_pick [] E0 (tCons (tVar 2) (tCons (tCB (xLen K) (tCons (tVar 7) tNil)) tNil)))) tNil)) (gName 6))
    (tSeq (tFor (iRng1 (tCons (tCall s__law_pick [] E0 (tCons (tVar 2) (tCons (tC (.int 3)) tNil))) tNil)) (gName 9) (tAsg (tCall s__law_pick [] E0 (tCons (tVar 2) (tCons (tVar 3) tNil))) (gSub (tVar 6) (tCall s__law_pick [] E0 (tCons (tVar 2) (tCons (tVar 3) tNil))) rSetL)))
    (tIfS (tNot (tB (tCall s__law_right [] E0 (tCons (tVar 3) (tCons (tVar 6) (tCons (tVar 5) tNil)))))) (tRet (tC (.bl false))) tNext))))
    (tSeq (tAsg (tLc (iRng1 (tCons (tVar 3) tNil)) (gName 10) tYes (tCall s__law_pick [] E0 (tCons (tVar 2) (tCons (tVar 3) tNil))) [10]) (gName 6))
    (tIfS (tNot (tB (tCall s__law_right [] E0 (tCons (tVar 3) (tCons (tVar 6) (tCons (tVar 5) tNil)))))) (tRet (tC (.bl false))) tNext)))))))))))
    (tRet (tC (.bl true))))
def exB (K : PySem.W.Frag) : Bool := iniB K "Impossible" "reason"
theorem K_ini_Impossible {K : PySem.W.Frag} (h : exB K = true) : IniF K "Impossible" "reason" := iniB_ok h
theorem reason_one {n : Nat} {es : List Int} {d d' : PyData} (h : ReasonIs n es d) (h' : ReasonIs n es d') : d = d' := by
  rcases h with ⟨i, k, hi, hk, hp, h1, h2, rfl⟩ | ⟨h, rfl⟩
  · rcases h' with ⟨i', k', hi', hk', hp', h1', h2', rfl⟩ | ⟨h', rfl⟩
    · have ei : i = i' := by
        rcases Nat.lt_trichotomy i i' with q | q | q
        · rw [h1' i k q hk] at hp
          cases hp
        · exact q
        · rw [h1 i' k' q hk'] at hp'
          cases hp'
      subst ei
      have ek : k = k' := by
        rcases Nat.lt_trichotomy k k' with q | q | q
        · rw [h2' k q] at hp
          cases hp
        · exact q
        · rw [h2 k' q] at hp'
          cases hp'
      subst ek
      rfl
    · rw [h' i k hi hk] at hp
      cases hp
  · rcases h' with ⟨i', k', hi', hk', hp', h1', h2', rfl⟩ | ⟨h', rfl⟩
    · rw [h i' k' hi' hk'] at hp'
      cases hp'
    · rfl
theorem least {P : Nat → Prop} : ∀ n, P n → ∃ i, P i ∧ ∀ j, j < i → ¬ P j := fun n => by
  induction n using Nat.strongRecOn with
  | ind n ih =>
    intro h
    by_cases c : ∃ j, j < n ∧ P j
    · obtain ⟨j, hj, hp⟩ := c
      exact ih j hj hp
    · exact ⟨n, h, fun j hj hp => c ⟨j, hj, hp⟩⟩
theorem reason_ex (n : Nat) (es : List Int) : ∃ d, ReasonIs n es d := by
  by_cases h : ∀ i k, i < n → k < n → passB n es i k = false
  · exact ⟨_, .inr ⟨h, rfl⟩⟩
  · have h2 : ∃ i, i < n ∧ ∃ k, k < n ∧ passB n es i k = true := Classical.byContradiction fun q => h fun i k hi hk => by
      cases hp : passB n es i k with
      | false => rfl
      | true => exact absurd ⟨i, hi, k, hk, hp⟩ q
    obtain ⟨i0, h3⟩ := h2
    obtain ⟨i, ⟨hi, k0, h4⟩, hl⟩ := least (P := fun i => i < n ∧ ∃ k, k < n ∧ passB n es i k = true) i0 h3
    obtain ⟨k, ⟨hk, hp⟩, hl2⟩ := least (P := fun k => k < n ∧ passB n es i k = true) k0 h4
    refine ⟨_, .inl ⟨i, k, hi, hk, hp, fun i' k' h5 h6 => ?_, fun k' h5 => ?_, rfl⟩⟩
    · cases hq : passB n es i' k' with
      | false => rfl
      | true => exact absurd ⟨by omega, k', h6, hq⟩ (hl i' h5)
    · cases hq : passB n es i k' with
      | false => rfl
      | true => exact absurd ⟨by omega, hq⟩ (hl2 k' h5)
noncomputable def reaD (n : Nat) (es : List Int) : PyData := Classical.choose (reason_ex n es)
theorem reaD_is (n : Nat) (es : List Int) : ReasonIs n es (reaD n es) := Classical.choose_spec (reason_ex n es)
theorem reaD_eq {n : Nat} {es : List Int} {d : PyData} (h : ReasonIs n es d) : d = reaD n es := reason_one h (reaD_is n es)
theorem reaD_no (n : Nat) (es : List Int) : isNo (reaD n es) = true ↔ possP n es := by
  rcases (reaD_is n es).none with ⟨ds, e, h⟩ | ⟨e, h⟩
  · rw [e]
    exact ⟨(fun z => by cases z), fun z => absurd z h⟩
  · rw [e]
    exact ⟨fun _ => h, fun _ => rfl⟩
theorem poss_ends {n : Nat} {es : List Int} (h : AsOk n es) (n0 : 2 ≤ n) (hp : possP n es) : DOk n (uniqs (srt es)) ∧ endsL n (uniqs (srt es)) = es := by
  obtain ⟨hno, hne⟩ := hp
  have hel := h.len
  have hm : ∀ {x : Int}, x ∈ uniqs (srt es) ↔ x ∈ es := fun {x} => by rw [mem_uniqs, (srt_perm es).mem_iff]
  have hl : (uniqs (srt es)).length = (uniqs es).length := ((List.perm_ext_iff_of_nodup (uniqs_nodup _) (uniqs_nodup _)).mpr fun x => by rw [hm, mem_uniqs]).length_eq
  have hle := uniqs_le es
  have hd : DOk n (uniqs (srt es)) := by
    refine ⟨uniqs_up (srt_up es), fun x hx => h.rng x (hm.mp hx), ?_, by omega⟩
    exact List.length_pos_of_mem (hm.mpr (List.getElem_mem (show 0 < es.length by omega)))
  refine ⟨hd, List.ext_getElem (by rw [endsL_len, hel]) fun i h1 h2 => ?_⟩
  have hi : i < n := by omega
  have hrg : ∀ k, k < n → 0 ≤ es.getD k 0 ∧ es.getD k 0 < (n : Int) := fun k hk => h.rng _ (Lib2.getD_mem (by omega))
  obtain ⟨r0, r1⟩ := hrg i hi
  have hdr := dist_rng (n := (n : Int)) (i := (i : Int)) (j := es.getD i 0) (by omega)
  obtain ⟨d, hdd⟩ : ∃ d : Nat, dist n (i : Int) (es.getD i 0) = (d : Int) := ⟨(dist n (i : Int) (es.getD i 0)).toNat, by omega⟩
  have hat : (((i + d) % n : Nat) : Int) = es.getD i 0 := by
    have := (dist_at (n := (n : Int)) (i := (i : Int)) (j := es.getD i 0) (by omega) (by omega) r0 r1 (f := (d : Int)) (by omega) (by omega)).mpr hdd.symm
    rw [← this, Int.natCast_emod]
    rfl
  have hE : isEnd n (uniqs (srt es)) i (es.getD i 0) := by
    refine ⟨d, by omega, hat.symm, hm.mpr (Lib2.getD_mem (by omega)), fun d' h3 h4 hin => ?_⟩
    obtain ⟨k, hk, e⟩ := List.mem_iff_getElem.mp (hm.mp hin)
    have hk : k < n := by omega
    have hg : es.getD k 0 = (((i + d') % n : Nat) : Int) := by
      rw [List.getD_eq_getElem?_getD, List.getElem?_eq_getElem (by omega)]
      exact e
    have hml : (i + d') % n < n := Nat.mod_lt _ (by omega)
    have h5 := (dist_at (n := (n : Int)) (i := (i : Int)) (j := es.getD k 0) (by omega) (by omega) (hrg k hk).1 (hrg k hk).2 (f := (d' : Int)) (by omega) (by omega)).mp (by rw [hg, Int.natCast_emod]; rfl)
    have h6 := hno i k hi hk
    unfold passB at h6
    have h6 := of_decide_eq_false h6
    omega
  have := isEnd_unique (ends_end hd hi) hE
  rw [List.getD_eq_getElem?_getD, List.getElem?_eq_getElem h1, List.getD_eq_getElem?_getD, List.getElem?_eq_getElem h2] at this
  exact this
abbrev aE : Nat × List Int → List Rr.It := fun x => [.d (.int x.1), .d (.list (x.2.map .int))]
section
variable {fm : Fm} {G : Gm} {C : Cs} {tr : TA} {n : Nat} {es : List Int}
theorem ev_reason (h : EvA fm tr G C [.d (.int n), .d (.list (es.map .int))]) (hp : preE (n, es)) : Ev fm (tCall (sp_reason fm.K) [] E0 tr) G C (.d (reaD n es)) := ev_call (n, es) h rfl rfl hp fun it C' ⟨d, e1, e2, hd⟩ => ⟨by rw [e1, reaD_eq hd], e2⟩
theorem ek_reason (h : EvA fm tr G C [.d (.list (es.map .int)), .d (.int n)]) (hp : preE (n, es)) : Ev fm (tCallK0 2 (sp_reason fm.K) (Rr.perm [1, 0]) E0 tr) G C (.d (reaD n es)) := evk_call (n, es) rfl rfl h rfl hp fun it C' ⟨d, e1, e2, hd⟩ => ⟨by rw [e1, reaD_eq hd], e2⟩
end
def c_possible : Ct := { args := aE, pre := preE, post := fun x it C => it = .d (.bool (isNo (reaD x.1 x.2))) ∧ C = [] }
def sp_possible (K : PySem.W.Frag) : Sp := c_possible.sp K
theorem p_possible {K : PySem.W.Frag} : c_possible.keeps K 2 (t_possible K (sp_reason K)) := by
  rintro ⟨n, es⟩ M0 F0 Q hp hQ
  show At ⟨K, M0, F0⟩ _ [some (.d (.int n)), some (.d (.list (es.map .int)))] []
  unfold t_possible
  exact at_rt (ev_op (ev_reason (es := es) (ea_cons (ev_var rfl) (ea_cons (ev_var rfl) ea_nil)) hp) ev_non r_is) (hQ F0 (Ex.refl F0) _ _ ⟨rfl, rfl⟩)
/-- drops_from raises with the certificate -/
def exR : Nat × List Int → PyData → Prop := fun x d => d = reaD x.1 x.2 ∧ ¬ possP x.1 x.2
def poR : Nat × List Int → Rr.It → Cs → Prop := fun x it C => it = .d (.list ((uniqs (srt x.2)).map .int)) ∧ C = [] ∧ possP x.1 x.2
def sp_drops_from (K : PySem.W.Frag) : Sp := SpcR K "Impossible" "reason" aE preE poR exR
theorem p_drops_from {K : PySem.W.Frag} {w : World} : KeepsR K 3 "Impossible" "reason" (fun E => t_drops_from K w E (sp_reason K)) aE preE poR exR := by
  rintro ⟨n, es⟩ M0 F0 Q E hp hQ hE
  have hus := uniqs_le es
  have hel := hp.1.len
  have hn1 := hp.2.2
  dsimp only at hel hn1
  show At ⟨K, M0, F0⟩ _ [some (.d (.int n)), some (.d (.list (es.map .int))), none] []
  unfold t_drops_from
  refine at_sq (at_st (ev_reason (es := es) (ea_cons (ev_var rfl) (ea_cons (ev_var rfl) ea_nil)) hp) ?_)
  refine at_sq (at_if (b := !isNo (reaD n es)) (et_test (ev_op (ev_var rfl) ev_non r_isNot)) (fun e => ?_) fun e => at_nx ?_)
  · exact at_raiseR (r := reaD n es) (ev_var rfl) (hE F0 (Ex.refl F0) _ ⟨rfl, fun z => by rw [(reaD_no n es).mpr z] at e; cases e⟩)
  · exact at_rt (Ev.ofL (el_sortedSet (ns := es) (x := .d (.list (es.map .int))) (ev_var rfl) (RdQ.d _) (by omega))) (hQ F0 (Ex.refl F0) _ _ ⟨rfl, rfl, (reaD_no n es).mp (by simpa using e)⟩)
open Classical in
noncomputable def tD (n : Nat) (es : List Int) : PyData := if possP n es then .list ((uniqs (srt es)).map .int) else .tuple [.str "no", reaD n es]
def c__law_told : Ct := { args := fun x : Nat × List Int × Bool => [.d (.int x.1), .d (.list (x.2.1.map .int)), .d (.bool x.2.2)], pre := fun x => preE (x.1, x.2.1), post := fun x it C => it = .d (tD x.1 x.2.1) ∧ C = [] }
def sp__law_told (K : PySem.W.Frag) : Sp := c__law_told.sp K
theorem p__law_told {K : PySem.W.Frag} (hK : exB K = true) : c__law_told.keeps K 4 (t__law_told K (sp_drops_from K)) := by
  rintro ⟨n, es, nm⟩ M0 F0 Q hp hQ
  have h0 : ∀ F1, Ex F0 F1 → Rt ⟨K, M0, F1⟩ Q (.d (tD n es)) [] := fun F1 e => hQ F1 e _ _ ⟨rfl, rfl⟩
  clear hQ
  have hp : preE (n, es) := hp
  show At ⟨K, M0, F0⟩ _ [some (.d (.int n)), some (.d (.list (es.map .int))), some (.d (.bool nm)), none] []
  unfold t__law_told
  refine at_tryR ?_
  have hyes : ∀ it C', poR (n, es) it C' → Rt ⟨K, M0, F0⟩ Q it (C' ++ []) := fun it C' po => by
    obtain ⟨rfl, rfl, hc⟩ := po
    have := h0 F0 (Ex.refl F0)
    unfold tD at this
    rw [if_pos hc] at this
    exact this
  have hno : ∀ {P Pb Pc : L2.St → Hp → Prop} {r : PyData}, exR (n, es) r → AtR ⟨K, M0, F0⟩ (wAs K (.ref (He.ga K "Impossible")) 3 (fun a cls d => tRet (tTup (tCons (tC (.str "no")) (tCons (tXf a cls d (He.ga K "Impossible") "reason" (tVar 3)) tNil)))) (fun _ _ _ _ => False) ⟨P, Q, Pb, Pc⟩) "Impossible" "reason" r [some (.d (.int n)), some (.d (.list (es.map .int))), some (.d (.bool nm)), none] [] := fun {P Pb Pc r} hr => by
    obtain ⟨rfl, hn⟩ := hr
    refine atR_as (by show 3 < 4; decide) (K_ini_Impossible hK).me fun a dx v F1 N B T hF hv hx => ?_
    have hz := h0 F1 hx
    unfold tD at hz
    rw [if_neg hn] at hz
    exact at_rt (it := .d (.tuple [.str "no", reaD n es])) (ev_tu (ed_cons ev_str (ed_cons (ev_xf hF hv rfl) ed_nil)) (by simp)) hz
  refine at_sq (at_if (b := nm) (et_B (ev_var rfl)) (fun e => ?_) fun e => at_nx ?_)
  · exact at_rtW (w_callKSR (l := [1, 0]) (its := [.d (.list (es.map .int)), .d (.int n)]) (ea_cons (ev_var rfl) (ea_cons (ev_var rfl) ea_nil)) ((n, es) : Nat × List Int) rfl rfl hp hyes fun r hr => hno hr)
  · exact at_rtW (w_callSR (its := [.d (.int n), .d (.list (es.map .int))]) (ea_cons (ev_var rfl) (ea_cons (ev_var rfl) ea_nil)) ((n, es) : Nat × List Int) rfl hp hyes fun r hr => hno hr)
def c__law_reason : Ct := { args := aE, pre := preE, post := fun x it C => ∃ d, ReasonIs x.1 x.2 d ∧ it = .d d ∧ C = [] }
def sp__law_reason (K : PySem.W.Frag) : Sp := c__law_reason.sp K
theorem p__law_reason {K : PySem.W.Frag} {w : World} : c__law_reason.keeps K 6 (t__law_reason K w (sp__law_away K)) := by
  rintro ⟨n, es⟩ M0 F0 Q ⟨hok, n0, n1⟩ hQ
  have h0 : ∀ F1, Ex F0 F1 → ∀ d, ReasonIs n es d → Rt ⟨K, M0, F1⟩ Q (.d d) [] := fun F1 e d h => hQ F1 e _ _ ⟨d, h, rfl, rfl⟩
  clear hQ
  dsimp only at hok n0 n1
  have hel := hok.len
  have hus := uniqs_le es
  have hrg : ∀ k, k < n → 0 ≤ es.getD k 0 ∧ es.getD k 0 < (n : Int) := fun k hk => hok.rng _ (Lib2.getD_mem (by omega))
  show At ⟨K, M0, F0⟩ _ [some (.d (.int n)), some (.d (.list (es.map .int))), none, none, none, none] []
  unfold t__law_reason
  have hix : ∀ {v k : Nat} {G : Gm} {C : Cs} {M0 F0 : Hp}, G[1]? = some (some (.d (.list (es.map .int)))) → G[v]? = some (some (.d (.int (k : Int)))) → k < n → Ev ⟨K, M0, F0⟩ (tOp (xIx K) (tVar 1) (tVar v)) G C (.d (.int (es.getD k 0))) := fun {v k G C M0 F0} g1 gv hk => by
    apply Ev.is
    · exact ev_op (x := .d (.list (es.map .int))) (ev_var g1) (ev_var gv) (r_ixI (RdQ.d _) (by omega) (by omega))
    · rw [pyIx_nat]
  refine at_sq ?_
  refine at_each (xs := List.range ((n : Int)).toNat) (enc := fun i : Nat => .d (.int (i : Int))) (by walk_at "ei") (fun i G' C' => C' = [] ∧ (∀ i' k', i' < i → k' < n → passB n es i' k' = false) ∧ ∃ x2 x3, G' = [some (.d (.int n)), some (.d (.list (es.map .int))), x2, x3, none, none]) ⟨rfl, fun i' k' h => by omega, _, _, rfl⟩ ?_ ?_
  · rintro F1 e1 i a G' C' ha ⟨rfl, hno, x2, x3, rfl⟩
    obtain ⟨hi, rfl⟩ := List.getElem?_eq_some_iff.mp ha
    rw [List.length_range] at hi
    have hi : i < n := by omega
    refine ⟨_, tg_name, fun N hN => ?_⟩
    rw [List.getElem_range]
    refine at_each (xs := List.range ((n : Int)).toNat) (enc := fun i : Nat => .d (.int (i : Int))) (by walk_at "ei") (fun k G' C' => C' = [] ∧ (∀ k', k' < k → passB n es i k' = false) ∧ ∃ x3, G' = [some (.d (.int n)), some (.d (.list (es.map .int))), some (.d (.int (i : Int))), x3, none, none]) ⟨rfl, fun k' h => by omega, _, rfl⟩ ?_ ?_
    · rintro F2 e2 k a G2 C2 ha ⟨rfl, hno2, x3, rfl⟩
      obtain ⟨hk, rfl⟩ := List.getElem?_eq_some_iff.mp ha
      rw [List.length_range] at hk
      have hk : k < n := by omega
      refine ⟨_, tg_name, fun N2 hN2 => ?_⟩
      rw [List.getElem_range]
      refine at_if (b := true && true) ?_ (fun _ => ?_) fun e => by cases e
      · refine et_and (a := true) (b := true) ?_ fun _ => ?_
        · exact EvT.is (et_test (ev_op (x := .d (.int (es.getD i 0))) (hix rfl rfl hi) ev_non r_isNot)) rfl
        · exact EvT.is (et_test (ev_op (x := .d (.int (es.getD k 0))) (hix rfl rfl hk) ev_non r_isNot)) rfl
      have ri := hrg i hi
      have rk := hrg k hk
      refine at_if (b := passB n es i k) ?_ (fun q => ?_) fun q => at_nx (hN2 _ _ ⟨rfl, fun k' h => ?_, _, rfl⟩)
      · apply et_test
        refine ev_op (x := .d (.int (dist n (i : Int) (es.getD k 0)))) (y := .d (.int (dist n (i : Int) (es.getD i 0)))) ?_ ?_ r_lt
        · exact cl_away (n := (n : Int)) (i := (i : Int)) (j := es.getD k 0) (ea_cons (ev_var rfl) (ea_cons (ev_var rfl) (ea_cons (hix rfl rfl hk) ea_nil))) (by omega)
        · exact cl_away (n := (n : Int)) (i := (i : Int)) (j := es.getD i 0) (ea_cons (ev_var rfl) (ea_cons (ev_var rfl) (ea_cons (hix rfl rfl hi) ea_nil))) (by omega)
      · refine at_rt (it := .d (.tuple [.str "passed", .int (i : Int), .int (k : Int)])) ?_ (h0 F2 (e1.trans e2) _ (.inl ⟨i, k, hi, hk, q, hno, hno2, rfl⟩))
        exact ev_tu (ed_cons ev_str (ed_cons (ev_var rfl) (ed_cons (ev_var rfl) ed_nil))) (by simp)
      · by_cases z : k' = k
        · subst z
          exact q
        · exact hno2 k' (by omega)
    · rintro G2 C2 ⟨rfl, hno2, x3, rfl⟩
      rw [List.length_range] at hno2
      refine hN _ _ ⟨rfl, fun i' k' h1 h2 => ?_, _, _, rfl⟩
      by_cases z : i' = i
      · subst z
        exact hno2 k' (by omega)
      · exact hno i' k' (by omega) h2
  · rintro G' C' ⟨rfl, hno, x2, x3, rfl⟩
    rw [List.length_range] at hno
    have hall : ∀ i k, i < n → k < n → passB n es i k = false := fun i k hi hk => hno i k (by omega) hk
    refine at_sq (at_st (it := .d (.list (es.map .int))) ?_ ?_)
    · apply Ev.is
      · refine Ev.ofL (el_lc (p := fun _ : Int => true) (f := fun i => .int i) (xs := es) (enc := fun i => .d (.int i)) (G2 := fun i => [some (.d (.int n)), some (.d (.list (es.map .int))), x2, x3, some (.d (.int i)), none]) ?_ (by omega) ?_ ?_ ?_)
        · exact ei_list (enc := PyData.int) (ev_var rfl)
        · intro _
          exact tgw_name (by simp)
        · intro _ _ x _
          exact EvT.is (et_test (ev_op (x := .d (.int x)) (ev_var rfl) ev_non r_isNot)) rfl
        · intro _ _ x _ _
          exact ev_var rfl
      · rw [List.filter_eq_self.mpr (fun _ _ => rfl)]
    refine at_rt (it := .d (if (uniqs es).length = n then .tuple [.str "all"] else .none)) (ev_if (b := decide (((uniqs es).length : Int) = (n : Int))) ?_ (fun e => ?_) fun e => ?_) (h0 F0 (Ex.refl F0) _ (.inr ⟨hall, rfl⟩))
    · apply et_test
      exact ev_op (x := .d (.int ((uniqs es).length : Int))) (y := .d (.int (n : Int))) (ev_lenSet (x := .d (.list (es.map .int))) (ev_var rfl) (RdQ.d _) (by omega)) (ev_var rfl) r_eqI
    · have e := of_decide_eq_true e
      rw [if_pos (by omega)]
      exact ev_tu (ed_cons ev_str ed_nil) (by simp)
    · have e := of_decide_eq_false e
      rw [if_neg (by omega)]
      exact ev_non
theorem shw_ints {n : Nat} {es : List Int} (h : AsOk n es) (n1 : n ≤ 60) : Shw (.list (es.map .int)) := by
  have hl := h.len
  refine Pr.shw (B := 8) (e := 1) (w := 900) (pr_list (e := 0) (w := 12) (fun d hd => ?_) (by rw [List.length_map]; omega)) (by decide) (by decide) (by decide)
  obtain ⟨x, hx, rfl⟩ := List.mem_map.mp hd
  have hr := h.rng x hx
  have hl2 : x.natAbs.log2 ≤ 10 := by
    by_cases e : x.natAbs = 0
    · rw [e]; decide
    · have := (Nat.log2_lt e (k := 10)).mpr (by omega)
      omega
  exact pr_int (k := 4) (by decide) (by omega) (by decide) (by omega) (by omega)
section
variable {fm : Fm} {G : Gm} {C : Cs} {tr : TA} {n : Nat} {es : List Int} {nm : Bool}
theorem ev_lreason (h : EvA fm tr G C [.d (.int n), .d (.list (es.map .int))]) (hp : preE (n, es)) : Ev fm (tCall (sp__law_reason fm.K) [] E0 tr) G C (.d (reaD n es)) := ev_call (n, es) h rfl rfl hp fun it C' ⟨d, hd, e1, e2⟩ => ⟨by rw [e1, reaD_eq hd], e2⟩
theorem ev_possible (h : EvA fm tr G C [.d (.int n), .d (.list (es.map .int))]) (hp : preE (n, es)) : Ev fm (tCall (sp_possible fm.K) [] E0 tr) G C (.d (.bool (isNo (reaD n es)))) := ev_call (n, es) h rfl rfl hp fun _ _ h => h
theorem ek_possible (h : EvA fm tr G C [.d (.list (es.map .int)), .d (.int n)]) (hp : preE (n, es)) : Ev fm (tCallK0 2 (sp_possible fm.K) (Rr.perm [1, 0]) E0 tr) G C (.d (.bool (isNo (reaD n es)))) := evk_call (n, es) rfl rfl h rfl hp fun _ _ h => h
theorem ev_told (h : EvA fm tr G C [.d (.int n), .d (.list (es.map .int)), .d (.bool nm)]) (hp : preE (n, es)) : Ev fm (tCall (sp__law_told fm.K) [] E0 tr) G C (.d (tD n es)) := ev_call (n, es, nm) h rfl rfl hp fun _ _ h => h
end
def knownL (n : Nat) : List (List Int × PyData) := (setsL n).map fun is => (endsL n is, eRow is)
def knT (n : Nat) : List (List Key × PyData) := (knownL n).map fun z => (z.1.map Sum.inl, z.2)
theorem known_nd (n : Nat) : ((knownL n).map (·.1)).Nodup := by
  unfold knownL
  rw [List.map_map]
  refine List.pairwise_map.mpr (List.Pairwise.imp_of_mem (fun {a b} ha hb hne e => hne ?_) (sets_nd n))
  have e : endsL n a = endsL n b := e
  rw [← ends_set (mem_sets.mp ha), ← ends_set (mem_sets.mp hb), e]
open Classical in
noncomputable def falD (n : Nat) (es : List Int) : PyData := if possP n es then .list ((uniqs (srt es)).map .int) else .none
theorem known_get {n : Nat} {es : List Int} (h : AsOk n es) (n0 : 2 ≤ n) : (lookT (knT n) (es.map Sum.inl)).getD .none = falD n es := by
  have inj : ∀ {a b : List Int}, a.map (Sum.inl : Int → Key) = b.map Sum.inl → a = b := fun {a b} e => (List.map_inj_right fun _ _ e => Sum.inl.inj e).mp e
  have key : ∀ l : List (List Int), (∀ is ∈ l, DOk n is) → lookT (l.map fun is => ((endsL n is).map (Sum.inl : Int → Key), eRow is)) (es.map Sum.inl) = (l.find? fun is => decide (endsL n is = es)).map eRow := fun l => by
    induction l with
    | nil => intro _; rfl
    | cons a l ih =>
      intro hl
      rw [List.map_cons, List.find?_cons]
      by_cases e : endsL n a = es
      · rw [look_posT (by rw [e]), decide_eq_true e]
        rfl
      · rw [look_negT (fun z => e (inj z)), decide_eq_false e]
        exact ih fun is hi => hl is (List.mem_cons_of_mem _ hi)
  have e0 : knT n = (setsL n).map fun is => ((endsL n is).map (Sum.inl : Int → Key), eRow is) := by
    unfold knT knownL
    rw [List.map_map]
    rfl
  rw [e0, key _ fun is hi => mem_sets.mp hi]
  unfold falD
  by_cases hp : possP n es
  · rw [if_pos hp]
    obtain ⟨hd, he⟩ := poss_ends h n0 hp
    cases hf : (setsL n).find? fun is => decide (endsL n is = es) with
    | none => exact absurd (decide_eq_true he) (List.find?_eq_none.mp hf _ (mem_sets.mpr hd))
    | some is =>
      have h1 := List.find?_some hf
      have h1 : endsL n is = es := of_decide_eq_true h1
      have h2 := ends_set (mem_sets.mp (List.mem_of_find?_eq_some hf))
      rw [h1] at h2
      rw [h2]
      rfl
  · rw [if_neg hp]
    cases hf : (setsL n).find? fun is => decide (endsL n is = es) with
    | none => rfl
    | some is =>
      have h1 := List.find?_some hf
      have h1 : endsL n is = es := of_decide_eq_true h1
      have := ends_poss (mem_sets.mp (List.mem_of_find?_eq_some hf))
      rw [h1] at this
      exact absurd this hp
theorem fal_no (n : Nat) (es : List Int) : isNo (falD n es) = !isNo (reaD n es) := by
  unfold falD
  by_cases hp : possP n es
  · rw [if_pos hp, (reaD_no n es).mpr hp]
    rfl
  · rw [if_neg hp]
    cases h : isNo (reaD n es) with
    | true => exact absurd ((reaD_no n es).mp h) hp
    | false => rfl
theorem deep_rea {k n : Nat} {es : List Int} : deepT (k + 2) (reaD n es) = true := by
  rcases reaD_is n es with ⟨i, k, hi, hk, hp, h1, h2, e⟩ | ⟨h, e⟩
  · rw [e]
    simp [deepT]
  · rw [e]
    split
    · simp [deepT]
    · rfl
theorem deep_tD {n : Nat} {es : List Int} (h : (uniqs (srt es)).length ≤ 1000) : deepT 3 (tD n es) = true := by
  unfold tD
  split
  · unfold deepT
    rw [Bool.and_eq_true]
    refine ⟨List.all_eq_true.mpr fun d hd => ?_, decide_eq_true (by rw [List.length_map]; omega)⟩
    obtain ⟨i, -, rfl⟩ := List.mem_map.mp hd
    rfl
  · show (([.str "no", reaD n es] : List PyData).all (deepT 2) && _) = true
    have : deepT 2 (reaD n es) = true := deep_rea
    simp [this, deepT]
theorem deep_two {k : Nat} {d : PyData} (h : deepT k d = true) : deepT (k + 1) (.list [d, d]) = true := by
  show (([d, d] : List PyData).all (deepT k) && _) = true
  simp [h]
theorem eqv_bool (a b : Bool) : PyData.eqv (.bool a) (.bool b) = decide (a = b) := by cases a <;> cases b <;> simp [PyData.eqv]
structure RgS where
  n : Nat
  es : List Int
  q : Addr
  C : Cs
def c__law_right : Ct := { args := fun x : RgS => [.d (.int x.n), .d (.list (x.es.map .int)), .c x.q], cells := fun x => x.C ++ [(x.q, .dit (knT x.n))], pre := fun x => preE (x.n, x.es), post := fun x it C => it = .d (.bool true) ∧ C = x.C ++ [(x.q, .dit (knT x.n))] }
def sp__law_right (K : PySem.W.Frag) : Sp := c__law_right.sp K
theorem p__law_right {K : PySem.W.Frag} : c__law_right.keeps K 9 (t__law_right K (sp__law_reason K) (sp__law_same K 4) (sp__law_told K) (sp_possible K) (sp_reason K)) := by
  rintro ⟨n, es, q, C⟩ M0 F0 Q hp hQ
  have hp : preE (n, es) := hp
  have h0 : Rt ⟨K, M0, F0⟩ Q (.d (.bool true)) (C ++ [(q, .dit (knT n))]) := hQ F0 (Ex.refl F0) _ _ ⟨rfl, rfl⟩
  clear hQ
  have hp' := hp
  obtain ⟨hok, n0, n1⟩ := hp'
  dsimp only at hok n0 n1
  have hel := hok.len
  have hshw := shw_ints hok n1
  have hus : (uniqs (srt es)).length ≤ 1000 := by
    have h1 := uniqs_le (srt es)
    have h2 := (srt_perm es).length_eq
    omega
  have dT : deepT 4 (.list [tD n es, tD n es]) = true := deep_two (deep_tD hus)
  show At ⟨K, M0, F0⟩ _ [some (.d (.int n)), some (.d (.list (es.map .int))), some (.c q), none, none, none, none, none, none] (C ++ [(q, .dit (knT n))])
  unfold t__law_right
  refine at_sq (at_st (it := .d (.str (PyData.list (es.map .int)).shown)) (ev_cb (its := [.d (.list (es.map .int))]) (ea_cons (ev_var rfl) ea_nil) (r_repr (AsX.d _) (IsRef.l _) hshw)) ?_)
  refine at_sq (at_parE (x := .d (reaD n es)) (y := .d (falD n es)) (ea_cons (ev_lreason (es := es) (ea_cons (ev_var rfl) (ea_cons (ev_var rfl) ea_nil)) hp) (ea_cons (Ev.is (ev_dget1T (kvs := knT n) (d := .tuple (es.map .int)) (ky := es.map Sum.inl) (ev_var rfl) (ev_cb (its := [.d (.list (es.map .int))]) (ea_cons (ev_var rfl) ea_nil) (r_tuple (RdQ.d _))) (KeyT.mk es) append_at) (by rw [known_get hok n0])) ea_nil)) ?_)
  show At ⟨K, M0, F0⟩ _ [some (.d (.int n)), some (.d (.list (es.map .int))), some (.c q), some (.d (.str (PyData.list (es.map .int)).shown)), some (.d (reaD n es)), some (.d (falD n es)), none, none, none] (C ++ [(q, .dit (knT n))])
  refine at_sq (at_if (b := false) (EvT.is (et_test (ev_op (ev_op (ev_var rfl) ev_non r_is) (ev_op (ev_var rfl) ev_non r_isNot) (r_neD (AsD.d _) (AsD.d _) rfl rfl))) (by rw [eqv_bool, fal_no]; simp)) (fun e => by cases e) fun _ => at_nx ?_)
  refine at_sq (at_st (it := .d (.list [.bool (isNo (reaD n es)), .bool (isNo (reaD n es))])) (Ev.ofL (el_ls (ed_cons (ev_possible (es := es) (ea_cons (ev_var rfl) (ea_cons (ev_var rfl) ea_nil)) hp) (ed_cons (ek_possible (es := es) (ea_cons (ev_var rfl) (ea_cons (ev_var rfl) ea_nil)) hp) ed_nil)) (by simp))) ?_)
  refine at_sq (at_if (b := false) (EvT.is (et_not (et_B (cl_same (n := 4) (d := .list [.bool (isNo (reaD n es)), .bool (isNo (reaD n es))]) (ea_cons (ev_var rfl) (ea_cons (Ev.ofL (el_op (x := .d (.list [.bool (isNo (reaD n es))])) (y := .d (.int 2)) (Ev.ofL (el_ls (ed_cons (ev_op (ev_var rfl) ev_non r_is) ed_nil) (by simp))) ev_int (r_rep (RdD.d _) (by decide) (by simp) (by decide)))) ea_nil)) rfl))) rfl) (fun e => by cases e) fun _ => at_nx ?_)
  refine at_sq (at_if (b := false) (EvT.is (et_not (et_B (cl_same (n := 4) (d := .list [reaD n es, reaD n es]) (ea_cons (Ev.ofL (el_ls (ed_cons (ev_reason (es := es) (ea_cons (ev_var rfl) (ea_cons (ev_var rfl) ea_nil)) hp) (ed_cons (ek_reason (es := es) (ea_cons (ev_var rfl) (ea_cons (ev_var rfl) ea_nil)) hp) ed_nil)) (by simp))) (ea_cons (Ev.ofL (el_ls (ed_cons (ev_var rfl) (ed_cons (ev_var rfl) ed_nil)) (by simp))) ea_nil)) (deep_two deep_rea)))) rfl) (fun e => by cases e) fun _ => at_nx ?_)
  refine at_sq (at_st (it := .d (tD n es)) (ev_if (b := isNo (falD n es)) (et_test (ev_op (ev_var rfl) ev_non r_is)) (fun e => ?_) fun e => ?_) ?_)
  · refine Ev.is (ev_tu (ed_cons ev_str (ed_cons (ev_var rfl) ed_nil)) (by simp)) ?_
    have hn : ¬ possP n es := fun z => by
      rw [fal_no, (reaD_no n es).mpr z] at e
      cases e
    unfold tD
    rw [if_neg hn]
  · refine Ev.is (ev_var rfl) ?_
    have hn : possP n es := (reaD_no n es).mp (by rw [fal_no] at e; simpa using e)
    unfold tD falD
    rw [if_pos hn, if_pos hn]
  refine at_sq (at_st (it := .d (.list [tD n es, tD n es])) (Ev.ofL (el_ls (ed_cons (ev_told (es := es) (nm := false) (ea_cons (ev_var rfl) (ea_cons (ev_var rfl) (ea_cons ev_bl ea_nil))) hp) (ed_cons (ev_told (es := es) (nm := true) (ea_cons (ev_var rfl) (ea_cons (ev_var rfl) (ea_cons ev_bl ea_nil))) hp) ed_nil)) (by simp))) ?_)
  exact at_rtW (w_andV (W.of (it := .d (.bool true)) (cl_same (n := 4) (d := .list [tD n es, tD n es]) (ea_cons (ev_var rfl) (ea_cons (Ev.ofL (el_ls (ed_cons (ev_var rfl) (ed_cons (ev_var rfl) ed_nil)) (by simp))) ea_nil)) dT) ⟨true, rfl, fun _ => W.of (it := .d (.bool true)) (Ev.is (ev_op (x := .d (.str (PyData.list (es.map .int)).shown)) (y := .d (.str (PyData.list (es.map .int)).shown)) (ev_cb (its := [.d (.list (es.map .int))]) (ea_cons (ev_var rfl) ea_nil) (r_repr (AsX.d _) (IsRef.l _) hshw)) (ev_var rfl) r_eqS) (by simp)) h0, fun e => by cases e⟩))
theorem w_right {fm : Fm} {G : Gm} {C : Cs} {tr : TA} {k : Rr.It → Cs → Prop} {n : Nat} {es : List Int} {q : Addr} (h : EvA fm tr G (C ++ [(q, .dit (knT n))]) [.d (.int n), .d (.list (es.map .int)), .c q]) (hp : preE (n, es)) (hk : k (.d (.bool true)) (C ++ [(q, .dit (knT n))])) : W fm (tCall (sp__law_right fm.K) [] E0 tr) G (C ++ [(q, .dit (knT n))]) k := by
  refine w_call (WA.of h ⟨(⟨n, es, q, C⟩ : RgS), [], rfl, (List.append_nil _).symm, hp, ?_⟩)
  rintro it C' ⟨rfl, rfl⟩
  rw [List.append_nil]
  exact hk
def evR (n : Nat) : Nat → List (List Int)
  | 0 => [[]]
  | k + 1 => (evR n k).flatMap fun r => (List.range n).map fun t : Nat => r ++ [(t : Int)]
theorem evR_ok {n : Nat} : ∀ {k : Nat} {r : List Int}, r ∈ evR n k → r.length = k ∧ ∀ x ∈ r, 0 ≤ x ∧ x < (n : Int)
  | 0, r, h => by
    have : r = [] := List.mem_singleton.mp h
    subst this
    exact ⟨rfl, fun x h => by cases h⟩
  | k + 1, r, h => by
    obtain ⟨r0, h1, h2⟩ := List.mem_flatMap.mp h
    obtain ⟨t, ht, rfl⟩ := List.mem_map.mp h2
    obtain ⟨a, b⟩ := evR_ok h1
    have ht := List.mem_range.mp ht
    refine ⟨by rw [List.length_append, a]; rfl, fun x hx => ?_⟩
    rcases List.mem_append.mp hx with hx | hx
    · exact b x hx
    · rw [List.mem_singleton.mp hx]
      omega
theorem evR_len (n : Nat) : ∀ k, (evR n k).length = n ^ k
  | 0 => rfl
  | k + 1 => by
    show ((evR n k).flatMap _).length = _
    rw [List.length_flatMap]
    have : ∀ l : List (List Int), (l.map fun r => ((List.range n).map fun t : Nat => r ++ [(t : Int)]).length).sum = l.length * n := fun l => by
      induction l with
      | nil => simp
      | cons a l ih => rw [List.map_cons, List.sum_cons, ih, List.length_map, List.length_range, List.length_cons, Nat.succ_mul, Nat.add_comm]
    rw [this, evR_len n k, Nat.pow_succ]
def c__law_every : Ct := { args := fun n : Nat => [.d (.int n)], pre := fun n => 1 ≤ n ∧ n ≤ 4, post := fun n it C => it = .d (.list ((evR n n).map eRow)) ∧ C = [] }
def sp__law_every (K : PySem.W.Frag) : Sp := c__law_every.sp K
theorem p__law_every {K : PySem.W.Frag} : c__law_every.keeps K 6 (t__law_every K) := by
  rintro (n : Nat) M0 F0 Q ⟨n0, n4⟩ hQ
  have n0 : 1 ≤ n := n0
  have n4 : n ≤ 4 := n4
  have h0 : Rt ⟨K, M0, F0⟩ Q (.d (.list ((evR n n).map eRow))) [] := hQ F0 (Ex.refl F0) _ _ ⟨rfl, rfl⟩
  clear hQ
  have hz : ∀ k, k ≤ n → (evR n k).length ≤ 256 := fun k hk => by
    rw [evR_len]
    exact Nat.le_trans (Nat.pow_le_pow_right n0 hk) (Nat.le_trans (Nat.pow_le_pow_left n4 n) (Nat.le_trans (Nat.pow_le_pow_right (by decide) n4) (by decide)))
  show At ⟨K, M0, F0⟩ _ [some (.d (.int n)), none, none, none, none, none] []
  unfold t__law_every
  refine at_sq (at_st (it := .d (.list ((evR n 0).map eRow))) (Ev.ofL (el_ls (ds := [.list []]) (ed_cons (Ev.ofL (el_ls ed_nil (by simp))) ed_nil) (by simp))) ?_)
  refine at_sq ?_
  refine at_each (xs := List.range ((n : Int)).toNat) (enc := fun i : Nat => .d (.int (i : Int))) (ei_range1 (ea_cons (ev_var rfl) ea_nil) (by omega) (by omega)) (fun i G' C' => C' = [] ∧ ∃ x2 x3 x4, G' = [some (.d (.int n)), some (.d (.list ((evR n i).map eRow))), x2, x3, x4, none]) ⟨rfl, _, _, _, rfl⟩ ?_ ?_
  · rintro F1 e1 i y G' C' hy ⟨rfl, x2, x3, x4, rfl⟩
    obtain ⟨hi, rfl⟩ := List.getElem?_eq_some_iff.mp hy
    rw [List.length_range] at hi
    have hi : i < n := by omega
    rw [List.getElem_range]
    have hzi := hz i (by omega)
    have hzj := hz (i + 1) (by omega)
    refine ⟨_, tg_name, fun N hN => ?_⟩
    refine at_sq (at_stL (ds := (((evR n i).take 0).flatMap fun r => (List.range n).map fun t : Nat => r ++ [(t : Int)]).map eRow) (EvL.is (el_ls ed_nil (by simp)) rfl) fun pl => ?_)
    refine at_sq ?_
    refine at_each (xs := evR n i) (enc := fun r => .d (eRow r)) (ei_list (enc := eRow) (ev_var rfl)) (fun j G' C' => C' = [(pl, .dat ((((evR n i).take j).flatMap fun r => (List.range n).map fun t : Nat => r ++ [(t : Int)]).map eRow))] ∧ ∃ x4, G' = [some (.d (.int n)), some (.d (.list ((evR n i).map eRow))), some (.d (.int (i : Int))), some (.c pl), x4, none]) ⟨rfl, _, rfl⟩ ?_ ?_
    · rintro F2 e2 j r G2 C2 hr ⟨rfl, x4, rfl⟩
      refine ⟨_, tg_name, fun N2 hN2 => ?_⟩
      have hrl := (evR_ok (List.mem_of_getElem? hr)).1
      have htk : ((evR n i).take (j + 1)).flatMap (fun r => (List.range n).map fun t : Nat => r ++ [(t : Int)]) = ((evR n i).take j).flatMap (fun r => (List.range n).map fun t : Nat => r ++ [(t : Int)]) ++ (List.range n).map fun t : Nat => r ++ [(t : Int)] := by
        rw [List.take_succ, hr, List.flatMap_append]
        simp
      have hle : (((evR n i).take (j + 1)).flatMap (fun r => (List.range n).map fun t : Nat => r ++ [(t : Int)])).length ≤ 256 := by
        refine Nat.le_trans ?_ hzj
        show _ ≤ ((evR n i).flatMap _).length
        conv => rhs; rw [← List.take_append_drop (j + 1) (evR n i), List.flatMap_append, List.length_append]
        omega
      rw [htk, List.length_append] at hle
      refine at_dp (w_extend (p := pl) (j := 0) (es := ((List.range n).map fun t : Nat => r ++ [(t : Int)]).map eRow) (ev_var rfl) rfl (Ev.ofL (EvL.is (el_lc0 (f := fun t : Nat => eRow (r ++ [(t : Int)])) (xs := List.range ((n : Int)).toNat) (enc := fun t : Nat => .d (.int (t : Int))) (G2 := fun t => [some (.d (.int n)), some (.d (.list ((evR n i).map eRow))), some (.d (.int (i : Int))), some (.c pl), some (.d (eRow r)), some (.d (.int (t : Int)))]) (ei_range1 (ea_cons (ev_var rfl) ea_nil) (by omega) (by omega)) (by rw [List.length_range]; omega) (fun t => tgw_name (by simp)) fun _ _ t _ => ?_) ?_)) (RdD.d _) (by rw [List.length_map, List.length_map]; omega) (hN2 _ _ ⟨?_, _, rfl⟩))
      · exact Ev.is (Ev.ofL (el_op (x := .d (eRow r)) (y := .d (.list [.int (t : Int)])) (ev_var rfl) (Ev.ofL (el_ls (ed_cons (ev_var rfl) ed_nil) (by simp))) (r_cat (RdD.d _) (RdD.d _) (by rw [List.length_map]; simp; omega)))) (by show _ = It.d (.list ((r ++ [(t : Int)]).map .int)); rw [List.map_append]; rfl)
      · rw [show ((n : Int)).toNat = n by omega, List.map_map]
        rfl
      · show [(pl, Cell.dat _)] = _
        rw [htk, List.map_append]
    · rintro G2 C2 ⟨rfl, x4, rfl⟩
      rw [List.take_length]
      exact at_frz (i := 3) (j := 0) (p := pl) rfl rfl (at_st (it := .d (.list ((evR n (i + 1)).map eRow))) (ev_var rfl) (hN _ _ ⟨rfl, _, _, _, rfl⟩))
  · rintro G' C' ⟨rfl, x2, x3, x4, rfl⟩
    rw [List.length_range, show ((n : Int)).toNat = n by omega]
    exact at_rt (ev_var rfl) h0
theorem ev_every {fm : Fm} {G : Gm} {C : Cs} {tr : TA} {n : Nat} (h : EvA fm tr G C [.d (.int n)]) (h1 : 1 ≤ n ∧ n ≤ 4) : Ev fm (tCall (sp__law_every fm.K) [] E0 tr) G C (.d (.list ((evR n n).map eRow))) := ev_call n h rfl rfl h1 fun _ _ h => h
theorem at_eachR1 {fm : Fm} {G : Gm} {C : Cs} {tr : TA} {g : TG} {ts : TS} {P Pb Pc : L2.St → Hp → Prop} {R : VK} (h : WA fm tr G C fun its C1 => ∃ (n : Int) (Iv : Nat → Gm → Cs → Prop), its = [.d (.int n)] ∧ 0 ≤ n ∧ n ≤ 1000000 ∧ Iv 0 G C1 ∧
    (∀ F1, Ex fm.F0 F1 → ∀ i G' C', i < n.toNat → Iv i G' C' → ∃ G2, Tg g (.d (.int (i : Int))) G' G2 ∧ ∀ N, (∀ G3 C3, Iv (i + 1) G3 C3 → At ⟨fm.K, fm.M0, F1⟩ N G3 C3) → At ⟨fm.K, fm.M0, F1⟩ (ts ⟨N, R, P, N⟩) G2 C') ∧
    (∀ F1, Ex fm.F0 F1 → ∀ G' C', Iv n.toNat G' C' → At ⟨fm.K, fm.M0, F1⟩ P G' C')) : At fm (tFor (iRng1 tr) g ts ⟨P, R, Pb, Pc⟩) G C := fun F M σ ok =>
  h F M σ ok _ fun vs its C1 F1 M1 e1 ok1 r1 ⟨n, Iv, e, h1, h2, i0, hs, hd⟩ => by
    subst e
    cases r1 with
    | cons a r =>
      cases r
      cases a
      refine ⟨n, rfl, by omega, by omega, ?_⟩
      have ex1 : Ex fm.F0 F1 := ok1.c.ex
      have hi : EvI ⟨fm.K, fm.M0, F1⟩ (fun σ' H' R' => R' (Itr 0 n.toNat) H') G C1 PT0 (List.range n.toNat) (fun i : Nat => .d (.int (i : Int))) := fun F2 M2 σ2 ok2 R2 q => q _ F2 (Ex.refl F2) ok2 (by
        have z := iter_rng (K := fm.K) (F1 := F2) (lo := 0) (n := n.toNat)
        have e : (fun i : Nat => Rr.It.d (.int (0 + (i : Int)))) = fun i : Nat => Rr.It.d (.int (i : Int)) := by funext i; rw [Int.zero_add]
        rw [e] at z
        exact z)
      exact at_each (fm := ⟨fm.K, fm.M0, F1⟩) hi Iv i0 (fun F2 e2 i b G' C' hb iv => by
        obtain ⟨hl, rfl⟩ := List.getElem?_eq_some_iff.mp hb
        rw [List.length_range] at hl
        rw [List.getElem_range]
        exact hs F2 (ex1.trans e2) i G' C' hl iv) (fun G' C' iv => hd F1 ex1 G' C' (by rwa [List.length_range] at iv)) F1 M1 σ (ok1.based (Ex.refl F1))
theorem ev_pairs {K : PySem.W.Frag} {M F : Hp} {C : Cs} {n : Nat} {x0 x1 x2 x4 x5 x6 x7 x8 x9 x10 : Option Rr.It} (n2 : 2 ≤ n) (n6 : n ≤ 6) : Ev ⟨K, M, F⟩ (tLc (iList K (tCall (sp__law_all_sets K) [] E0 (tCons (tVar 3) tNil))) (gName 4) tYes (tTup (tCons (tCB (xTuple K) (tCons (tCall (sp__law_stops K) [] E0 (tCons (tVar 3) (tCons (tVar 4) tNil))) tNil)) (tCons (tVar 4) tNil))) [4]) [x0, x1, x2, some (.d (.int n)), x4, x5, x6, x7, x8, x9, x10] C (.d (.list ((knownL n).map ktD))) := by
  have hsl := sets_len n
  have h64 : 2 ^ n ≤ 64 := Nat.le_trans (Nat.pow_le_pow_right (by decide) n6) (by decide)
  refine Ev.is (Ev.ofL (el_lc0 (f := fun is => ktD (endsL n is, eRow is)) (xs := setsL n) (enc := fun is => .d (eRow is)) (G2 := fun is => [x0, x1, x2, some (.d (.int n)), some (.d (eRow is)), x5, x6, x7, x8, x9, x10]) (ei_list (enc := eRow) (Ev.ofL (el_sets (ea_cons (ev_var rfl) ea_nil) n6))) (by omega) (fun is => tgw_name (by simp)) fun _ _ is hi => ?_)) ?_
  · exact ev_tu (ds := [.tuple ((endsL n is).map .int), eRow is]) (ed_cons (ev_cb (its := [.d (.list ((endsL n is).map .int))]) (ea_cons (Ev.ofL (el_stops (n := n) (is := is) (ea_cons (ev_var rfl) (ea_cons (ev_var rfl) ea_nil)) ⟨n2, by omega, mem_sets.mp hi⟩)) ea_nil) (r_tuple (RdQ.d _))) (ed_cons (ev_var rfl) ed_nil)) (by simp)
  · unfold knownL
    rw [List.map_map]
    rfl
theorem tape_dat {p : Addr} {b m : Int} {C : Cs} (h : TapeC p b m C) : ∃ ds, C = [(p, .dat ds)] := by
  obtain ⟨a, c, rfl, -⟩ := h
  exact ⟨_, rfl⟩
def rowsL (n : Nat) : List (List Int) := srtR ((knownL n).map (·.1))
theorem rows_ok {n : Nat} {r : List Int} (h : r ∈ rowsL n) : AsOk n r := by
  have h := (srtR_perm _).mem_iff.mp h
  unfold knownL at h
  rw [List.map_map] at h
  obtain ⟨is, hi, rfl⟩ := List.mem_map.mp h
  exact ends_ok (mem_sets.mp hi)
theorem rows_len {n : Nat} (n2 : 2 ≤ n) (n6 : n ≤ 6) : 0 < (rowsL n).length ∧ (rowsL n).length ≤ 64 := by
  have hsl := sets_len n
  have h64 : 2 ^ n ≤ 64 := Nat.le_trans (Nat.pow_le_pow_right (by decide) n6) (by decide)
  have e : (rowsL n).length = (setsL n).length := by
    unfold rowsL knownL
    rw [(srtR_perm _).length_eq, List.length_map, List.length_map]
  have hd : DOk n [0] := ⟨List.pairwise_singleton _ _, fun x hx => by rw [List.mem_singleton.mp hx]; omega, by simp, by simp; omega⟩
  have := List.length_pos_of_mem (mem_sets.mpr hd)
  omega
theorem as_set {n : Nat} {es : List Int} (h : AsOk n es) {g v : Int} (v0 : 0 ≤ v) (v1 : v < n) : AsOk n (es.set g.toNat v) := by
  refine ⟨by rw [List.length_set]; exact h.len, fun z hz => ?_⟩
  rcases List.mem_or_eq_of_mem_set hz with hz | rfl
  · exact h.rng z hz
  · exact ⟨v0, v1⟩
def c_law : Ct := { args := fun ns : List Int => [.s ns], pre := fun ns => ns.length ≤ 63, post := fun n it C => it = .d (.bool true) ∧ C = C }
def sp_law (K : PySem.W.Frag) : Sp := c_law.sp K
theorem p_law {K : PySem.W.Frag} : c_law.keeps K 11 (t_law K (sp__law_all_sets K) (sp__law_every K) (sp__law_feed K) (sp__law_pick K) (sp__law_right K) (sp__law_stops K)) := by
  rintro (ns : List Int) M0 F0 Q (hl : ns.length ≤ 63) hQ
  have h0 : ∀ C, Rt ⟨K, M0, F0⟩ Q (.d (.bool true)) C := fun C => hQ F0 (Ex.refl F0) _ _ ⟨rfl, rfl⟩
  show At ⟨K, M0, F0⟩ _ [some (.s ns), none, none, none, none, none, none, none, none, none, none] []
  unfold t_law
  refine at_alone fun Fz Mz okz => ?_
  have hr := rt_alone okz (h0 [])
  generalize ov Mz Fz = F0 at hr
  show At ⟨K, fun _ => none, F0⟩ _ [some (.s ns), none, none, none, none, none, none, none, none, none, none] []
  refine at_sq ?_
  refine at_each (xs := List.range ((1 : Int)).toNat) (enc := fun i : Nat => .d (.int (i : Int))) (ei_range1 (ea_cons ev_int ea_nil) (by omega) (by omega)) (fun i G' C' => C' = [] ∧ ∃ x1 x2 x3 x4 x5 x6 x7 x8 x9 x10, G' = [some (.s ns), x1, x2, x3, x4, x5, x6, x7, x8, x9, x10]) ⟨rfl, _, _, _, _, _, _, _, _, _, _, rfl⟩ ?_ ?_
  · rintro F1 e1 i x G' C' hx ⟨rfl, x1, x2, x3, x4, x5, x6, x7, x8, x9, x10, rfl⟩
    obtain ⟨hi, rfl⟩ := List.getElem?_eq_some_iff.mp hx
    rw [List.length_range] at hi
    have hi : i < 1 := hi
    refine ⟨_, tg_name, fun N hN => ?_⟩
    rw [List.getElem_range]
    refine at_sq (at_stW (w_call (WA.of (its := [.s ns, .d (.int (i : Int))]) (ea_cons (ev_var rfl) (ea_cons (ev_var rfl) ea_nil)) ⟨(ns, i), [], rfl, rfl, by show i ≤ 1000; omega, ?_⟩)))
    rintro it C' ⟨p, b, rfl, hC, hb⟩
    rw [List.append_nil]
    refine at_sq (at_stW (w_op (W.of (it := .d (.int 2)) ev_int (w_pick (w := 3) (ea_cons (ev_var rfl) (ea_cons ev_int ea_nil)) hC hb (by omega) (by decide) fun r C1 r0 r1 hC1 => ⟨_, r_add, ?_⟩))))
    obtain ⟨n, hn⟩ : ∃ n : Nat, 2 + r = (n : Int) := ⟨(2 + r).toNat, by omega⟩
    rw [hn]
    have n2 : 2 ≤ n := by omega
    have n4 : n ≤ 4 := by omega
    show At ⟨K, fun _ => none, F1⟩ _ [some (.s ns), some (.d (.int (i : Int))), some (.c p), some (.d (.int (n : Int))), x4, x5, x6, x7, x8, x9, x10] C1
    refine at_sq (at_stW (w_dictT (kvs := knownL n) (ev_pairs n2 (by omega)) (known_nd n) fun q => ?_))
    show At ⟨K, fun _ => none, F1⟩ _ [some (.s ns), some (.d (.int (i : Int))), some (.c p), some (.d (.int (n : Int))), x4, some (.c q), x6, x7, x8, x9, x10] (C1 ++ [(q, .dit (knT n))])
    refine at_sq ?_
    refine at_each (xs := evR n n) (enc := fun es => .d (eRow es)) (ei_list (enc := eRow) (ev_every (ea_cons (ev_var rfl) ea_nil) ⟨by omega, n4⟩)) (fun j G' C' => C' = C1 ++ [(q, .dit (knT n))] ∧ ∃ x6, G' = [some (.s ns), some (.d (.int (i : Int))), some (.c p), some (.d (.int (n : Int))), x4, some (.c q), x6, x7, x8, x9, x10]) ⟨rfl, _, rfl⟩ ?_ ?_
    · rintro F2 e2 j es G2 C2 hes ⟨rfl, x6, rfl⟩
      obtain ⟨h1, h2⟩ := evR_ok (List.mem_of_getElem? hes)
      refine ⟨_, tg_name, fun N2 hN2 => ?_⟩
      exact at_ifW (wt_not (wt_B (w_right (n := n) (es := es) (ea_cons (ev_var rfl) (ea_cons (ev_var rfl) (ea_cons (ev_var rfl) ea_nil))) ⟨⟨h1, h2⟩, n2, by show n ≤ 60; omega⟩ ⟨true, rfl, (fun e => by cases e), fun _ => at_nx (hN2 _ _ ⟨rfl, _, rfl⟩)⟩)))
    rintro G2 C2 ⟨rfl, x6, rfl⟩
    obtain ⟨ds1, rfl⟩ := tape_dat hC1
    refine at_fgt (j := 1) ?_
    show At ⟨K, fun _ => none, F1⟩ _ [some (.s ns), some (.d (.int (i : Int))), some (.c p), some (.d (.int (n : Int))), x4, some (.c q), x6, x7, x8, x9, x10] [(p, .dat ds1)]
    refine at_sq (at_stW (w_op (W.of (it := .d (.int 5)) ev_int (w_pick (w := 2) (ea_cons (ev_var rfl) (ea_cons ev_int ea_nil)) hC1 hb (by omega) (by decide) fun r C2 r0 r1 hC2 => ⟨_, r_add, ?_⟩))))
    obtain ⟨n, hn⟩ : ∃ n : Nat, 5 + r = (n : Int) := ⟨(5 + r).toNat, by omega⟩
    rw [hn]
    have n2 : 2 ≤ n := by omega
    have n6 : n ≤ 6 := by omega
    show At ⟨K, fun _ => none, F1⟩ _ [some (.s ns), some (.d (.int (i : Int))), some (.c p), some (.d (.int (n : Int))), x4, some (.c q), x6, x7, x8, x9, x10] C2
    refine at_sq (at_stW (w_dictT (kvs := knownL n) (ev_pairs n2 n6) (known_nd n) fun q => ?_))
    obtain ⟨ds2, rfl⟩ := tape_dat hC2
    show At ⟨K, fun _ => none, F1⟩ _ [some (.s ns), some (.d (.int (i : Int))), some (.c p), some (.d (.int (n : Int))), x4, some (.c q), x6, x7, x8, x9, x10] [(p, .dat ds2), (q, .dit (knT n))]
    refine at_sq (at_st (it := .d (.list ((rowsL n).map fun r => .tuple (r.map .int)))) (Ev.ofL (el_sortedDT (j := 1) (kis := knownL n) rfl (fun x hx => ?_) (ev_var rfl) rfl fun z hz => ?_)) ?_)
    · simp only [List.mem_cons, List.not_mem_nil, or_false] at hx
      rcases hx with rfl | rfl
      · exact .inl ⟨_, rfl⟩
      · exact .inr ⟨_, rfl⟩
    · unfold knownL at hz
      obtain ⟨is, hi, rfl⟩ := List.mem_map.mp hz
      intro e
      have := endsL_len n is
      have e : endsL n is = [] := e
      rw [e] at this
      have : (0 : Nat) = n := this
      omega
    obtain ⟨hr0, hr64⟩ := rows_len n2 n6
    have hro : ∀ r ∈ rowsL n, AsOk n r := fun r h => rows_ok h
    generalize rowsL n = R at hr0 hr64 hro
    refine at_sq ?_
    refine at_each (xs := List.range ((50 : Int)).toNat) (enc := fun i : Nat => .d (.int (i : Int))) (ei_range1 (ea_cons ev_int ea_nil) (by omega) (by omega)) (fun t G' C' => ∃ c, TapeC p b (10 + 10 * t) [(p, c)] ∧ C' = [(p, c), (q, .dit (knT n))] ∧ ∃ x6 x8 x9, G' = [some (.s ns), some (.d (.int (i : Int))), some (.c p), some (.d (.int (n : Int))), x4, some (.c q), x6, some (.d (.list (R.map fun r => .tuple (r.map .int)))), x8, x9, x10]) ⟨_, hC2.up (by omega), rfl, _, _, _, rfl⟩ ?_ ?_
    · rintro F2 e2 t y G2 C3 hy ⟨c, hC3, rfl, x6, x8, x9, rfl⟩
      obtain ⟨ht, rfl⟩ := List.getElem?_eq_some_iff.mp hy
      rw [List.length_range] at ht
      have ht : t < 50 := ht
      rw [List.getElem_range]
      refine ⟨_, tg_name, fun N2 hN2 => ?_⟩
      refine at_sq (at_stW (w_cbL (wa_cons (w_op (W.of (it := .d (.list (R.map fun r => .tuple (r.map .int)))) (ev_var rfl) (w_pickF (w := (R.length : Int)) (C := [(p, c)]) (C2 := [(q, .dit (knT n))]) (ea_cons (ev_var rfl) (ea_cons (Ev.is (ev_cb (its := [.d (.list (R.map fun r => .tuple (r.map .int)))]) (ea_cons (ev_var rfl) ea_nil) (r_lenL (RdQ.d _))) (by rw [List.length_map])) ea_nil)) hC3 hb (by omega) ⟨by omega, by omega⟩ fun r C4 r0 r1 hC4 => ?_))))))
      obtain ⟨k, rfl⟩ : ∃ k : Nat, r = (k : Int) := ⟨r.toNat, by omega⟩
      have hk : k < R.length := by omega
      have hrow := hro _ (List.getElem_mem hk)
      refine ⟨.d (.tuple (R[k].map .int)), r_ix (RdQ.d _) (by omega) (by rw [List.length_map]; omega) (by rw [pyIx_nat, List.getElem?_map, List.getElem?_eq_getElem hk]; rfl), wa_nil ⟨R[k].map .int, r_listT (RdT.d _), fun st => ?_⟩⟩
      generalize R[k] = es0 at hrow
      obtain ⟨c4, rfl⟩ := tape_one hC4
      show At ⟨K, fun _ => none, F2⟩ _ [some (.s ns), some (.d (.int (i : Int))), some (.c p), some (.d (.int (n : Int))), x4, some (.c q), some (.c st), some (.d (.list (R.map fun r => .tuple (r.map .int)))), some (.d (.int (t : Int))), x9, x10] [(p, c4), (q, .dit (knT n)), (st, .dat (es0.map .int))]
      refine at_sq ?_
      refine at_eachR1 (wa_cons (w_pickF (w := 3) (C := [(p, c4)]) (C2 := [(q, .dit (knT n)), (st, .dat (es0.map .int))]) (ea_cons (ev_var rfl) (ea_cons ev_int ea_nil)) hC4 hb (by omega) (by decide) fun s C5 s0 s1 hC5 => wa_nil ⟨s, fun l G' C' => ∃ c es, TapeC p b (10 + 10 * t + 2 + 2 * l) [(p, c)] ∧ AsOk n es ∧ C' = [(p, c), (q, .dit (knT n)), (st, .dat (es.map .int))] ∧ ∃ x9, G' = [some (.s ns), some (.d (.int (i : Int))), some (.c p), some (.d (.int (n : Int))), x4, some (.c q), some (.c st), some (.d (.list (R.map fun r => .tuple (r.map .int)))), some (.d (.int (t : Int))), x9, x10], rfl, s0, by omega, ?_, ?_, ?_⟩))
      · obtain ⟨c5, rfl⟩ := tape_one hC5
        exact ⟨c5, es0, hC5.up (by omega), hrow, rfl, _, rfl⟩
      · rintro F3 e3 l G3 C6 hl2 ⟨c, es, hC6, hes, rfl, x9, rfl⟩
        have hl3 : l < 3 := by omega
        have hel := hes.len
        refine ⟨_, tg_name, fun N3 hN3 => ?_⟩
        refine at_ptWW (p := st) (j := 2) (w_pickF (w := (n : Int)) (C := [(p, c)]) (C2 := [(q, .dit (knT n)), (st, .dat (es.map .int))]) (ea_cons (ev_var rfl) (ea_cons (ev_var rfl) ea_nil)) hC6 hb (by omega) ⟨by omega, by omega⟩ fun v C7 v0 v1 hC7 => ⟨.int v, rfl, ev_var rfl, w_pickF (w := (n : Int)) (C := C7) (C2 := [(q, .dit (knT n)), (st, .dat (es.map .int))]) (ea_cons (ev_var rfl) (ea_cons (ev_var rfl) ea_nil)) hC7 hb (by omega) ⟨by omega, by omega⟩ fun g C8 g0 g1 hC8 => ?_⟩)
        obtain ⟨c8, rfl⟩ := tape_one hC8
        refine ⟨g, es.map .int, rfl, rfl, by omega, by rw [List.length_map]; omega, hN3 _ _ ⟨c8, es.set g.toNat v, hC8.up (by omega), as_set hes v0 v1, ?_, _, rfl⟩⟩
        show [(p, c8), (q, Cell.dit (knT n)), (st, Cell.dat _)] = _
        rw [pyIx_nn g0, List.map_set]
      · rintro F3 e3 G3 C6 ⟨c, es, hC6, hes, rfl, x9, rfl⟩
        have hs2 : s.toNat ≤ 2 := by omega
        refine at_frz (i := 6) (j := 2) (p := st) rfl rfl ?_
        exact at_ifW (wt_not (wt_B (w_right (C := [(p, c)]) (n := n) (es := es) (ea_cons (ev_var rfl) (ea_cons (ev_var rfl) (ea_cons (ev_var rfl) ea_nil))) ⟨hes, n2, by show n ≤ 60; omega⟩ ⟨true, rfl, (fun e => by cases e), fun _ => at_nx (At.on e3 (hN2 _ _ ⟨c, hC6.up (by omega), rfl, _, _, _, rfl⟩))⟩)))
    rintro G2 C3 ⟨c, hC3, rfl, x6, x8, x9, rfl⟩
    rw [List.length_range, show (50 : Int).toNat = 50 from rfl] at hC3
    refine at_sq (at_stW (w_lc (Pp := PT0) (xs := List.range ((n : Int)).toNat) (enc := fun i : Nat => .d (.int (i : Int))) (ei_range1 (ea_cons (ev_var rfl) ea_nil) (by omega) (by omega)) (fun g acc C' => ∃ (c : Cell) (es : List Int), acc = es.map .int ∧ es.length = g ∧ (∀ x ∈ es, 0 ≤ x ∧ x < (n : Int)) ∧ TapeC p b (600 + g) [(p, c)] ∧ C' = [(p, c), (q, .dit (knT n))]) ⟨c, [], rfl, rfl, (fun x h => by cases h), hC3.up (by omega), rfl⟩ (fun _ _ _ _ _ _ _ _ _ _ => trivial) (by rw [List.length_range]; omega) ?_ ?_))
    · rintro M4 F4 g y acc C6 hy ⟨c, es, rfl, hel, her, hC6, rfl⟩
      obtain ⟨hg, rfl⟩ := List.getElem?_eq_some_iff.mp hy
      rw [List.length_range] at hg
      have hg : g < n := by omega
      refine ⟨_, tgw_name (by simp), WT.of et_yes ⟨fun _ => ?_, fun e => by cases e⟩⟩
      refine w_pickF (w := (n : Int)) (C := [(p, c)]) (C2 := [(q, .dit (knT n))]) (ea_cons (ev_var rfl) (ea_cons (ev_var rfl) ea_nil)) hC6 hb (by omega) ⟨by omega, by omega⟩ fun v C7 v0 v1 hC7 => ?_
      obtain ⟨c7, rfl⟩ := tape_one hC7
      refine ⟨_, rfl, c7, es ++ [v], by rw [List.map_append]; rfl, by rw [List.length_append, hel]; rfl, fun x hx => ?_, hC7.up (by omega), rfl⟩
      rcases List.mem_append.mp hx with hx | hx
      · exact her x hx
      · rw [List.mem_singleton.mp hx]
        exact ⟨v0, v1⟩
    rintro acc C6 ⟨c, es, rfl, hel, her, hC6, rfl⟩
    rw [List.length_range, show ((n : Int)).toNat = n by omega] at hel
    exact at_ifW (wt_not (wt_B (w_right (C := [(p, c)]) (n := n) (es := es) (ea_cons (ev_var rfl) (ea_cons (ev_var rfl) (ea_cons (ev_var rfl) ea_nil))) ⟨⟨hel, her⟩, n2, by show n ≤ 60; omega⟩ ⟨true, rfl, (fun e => by cases e), fun _ => at_nx (at_fgtAll (hN _ _ ⟨rfl, _, _, _, _, _, _, _, _, _, _, rfl⟩))⟩)))
  · rintro G' C' ⟨rfl, x1, x2, x3, x4, x5, x6, x7, x8, x9, x10, rfl⟩
    exact at_rt ev_bl (hr _ (Ex.refl _) _)
open LibFeed (c__law_pick t__law_pick t__law_feed c_need_assignment t_need_assignment c_passes t_passes c_are_ends t_are_ends)
open LibReason (t_reason)
open LibSub (c__law_stops t__law_stops)
open LibShow (c__law_same t__law_same c__law_away t__law_away)
def top (i : Nat) : Stmt := PySem.Challenge.pw_ringrestart_k13_assignments_of_small_rin.main.body.getD i (.Pass ⟨0, 0, 0, 0⟩)
abbrev FnP (K : PySem.W.Frag) (x : Str) (st : Stmt) (f : Addr) (fd : FuncData) : Prop := FunD K x x (defArgs st) (defBody st) (defScope st) [] [] f fd
abbrev T_is_integer : Stmt := top 8
abbrev T_distance_of : Stmt := top 13
abbrev T__law_feed : Stmt := top 22
abbrev T__law_pick : Stmt := top 23
abbrev T__law_away : Stmt := top 30
abbrev T__law_stops : Stmt := top 31
abbrev T__law_all_sets : Stmt := top 32
abbrev T__law_same : Stmt := top 34
abbrev T__law_every : Stmt := top 37
abbrev T_need_ring : Stmt := top 9
abbrev T_is_server : Stmt := top 10
abbrev T_passes : Stmt := top 17
abbrev T__law_reason : Stmt := top 33
abbrev T_are_ends : Stmt := top 11
abbrev T_need_assignment : Stmt := top 12
abbrev T_reason : Stmt := top 18
abbrev T_possible : Stmt := top 19
abbrev T_drops_from : Stmt := top 20
abbrev T__law_told : Stmt := top 35
abbrev T__law_right : Stmt := top 36
abbrev T_law : Stmt := top 38
theorem sc_is_integer : FnScope ["thing", "least", "most"] ["thing", "least", "most"] (defScope T_is_integer) := ⟨rfl, rfl, rfl, by decide +kernel, rfl, by decide +kernel, by decide +kernel⟩
theorem sc_distance_of : FnScope ["n", "i", "j"] ["n", "i", "j"] (defScope T_distance_of) := ⟨rfl, rfl, rfl, by decide +kernel, rfl, by decide +kernel, by decide +kernel⟩
theorem sc__law_feed : FnScope ["script", "k", "cell"] ["script", "k"] (defScope T__law_feed) := ⟨rfl, rfl, rfl, by decide +kernel, rfl, by decide +kernel, by decide +kernel⟩
theorem sc__law_pick : FnScope ["feed", "wide", "digit", "mixed"] ["feed", "wide"] (defScope T__law_pick) := ⟨rfl, rfl, rfl, by decide +kernel, rfl, by decide +kernel, by decide +kernel⟩
theorem sc__law_away : FnScope ["size", "here", "there", "found"] ["size", "here", "there"] (defScope T__law_away) := ⟨rfl, rfl, rfl, by decide +kernel, rfl, by decide +kernel, by decide +kernel⟩
theorem sc__law_stops : FnScope ["size", "falls", "found", "group", "there"] ["size", "falls"] (defScope T__law_stops) := ⟨rfl, rfl, rfl, by decide +kernel, rfl, by decide +kernel, by decide +kernel⟩
theorem sc__law_all_sets : FnScope ["size", "rows", "spot", "row"] ["size"] (defScope T__law_all_sets) := ⟨rfl, rfl, rfl, by decide +kernel, rfl, by decide +kernel, by decide +kernel⟩
theorem sc__law_same : FnScope ["found", "due", "word", "one", "two"] ["found", "due"] (defScope T__law_same) := ⟨rfl, rfl, rfl, by decide +kernel, rfl, by decide +kernel, by decide +kernel⟩
theorem sc__law_every : FnScope ["size", "found", "spot", "longer", "row", "there"] ["size"] (defScope T__law_every) := ⟨rfl, rfl, rfl, by decide +kernel, rfl, by decide +kernel, by decide +kernel⟩
theorem sc_need_ring : FnScope ["n"] ["n"] (defScope T_need_ring) := ⟨rfl, rfl, rfl, by decide +kernel, rfl, by decide +kernel, by decide +kernel⟩
theorem sc_is_server : FnScope ["n", "thing"] ["n", "thing"] (defScope T_is_server) := ⟨rfl, rfl, rfl, by decide +kernel, rfl, by decide +kernel, by decide +kernel⟩
theorem sc_passes : FnScope ["n", "assignment", "i", "k"] ["n", "assignment", "i", "k"] (defScope T_passes) := ⟨rfl, rfl, rfl, by decide +kernel, rfl, by decide +kernel, by decide +kernel⟩
theorem sc__law_reason : FnScope ["size", "stops", "group", "mate", "stop", "there"] ["size", "stops"] (defScope T__law_reason) := ⟨rfl, rfl, rfl, by decide +kernel, rfl, by decide +kernel, by decide +kernel⟩
theorem sc_are_ends : FnScope ["n", "thing", "server"] ["n", "thing"] (defScope T_are_ends) := ⟨rfl, rfl, rfl, by decide +kernel, rfl, by decide +kernel, by decide +kernel⟩
theorem sc_need_assignment : FnScope ["n", "assignment"] ["n", "assignment"] (defScope T_need_assignment) := ⟨rfl, rfl, rfl, by decide +kernel, rfl, by decide +kernel, by decide +kernel⟩
theorem sc_reason : FnScope ["n", "assignment", "i", "k"] ["n", "assignment"] (defScope T_reason) := ⟨rfl, rfl, rfl, by decide +kernel, rfl, by decide +kernel, by decide +kernel⟩
theorem sc_possible : FnScope ["n", "assignment"] ["n", "assignment"] (defScope T_possible) := ⟨rfl, rfl, rfl, by decide +kernel, rfl, by decide +kernel, by decide +kernel⟩
theorem sc_drops_from : FnScope ["n", "assignment", "found"] ["n", "assignment"] (defScope T_drops_from) := ⟨rfl, rfl, rfl, by decide +kernel, rfl, by decide +kernel, by decide +kernel⟩
theorem sc__law_told : FnScope ["size", "stops", "named", "e"] ["size", "stops", "named"] (defScope T__law_told) := ⟨rfl, rfl, rfl, by decide +kernel, rfl, by decide +kernel, by decide +kernel⟩
theorem sc__law_right : FnScope ["size", "stops", "known", "kept", "due", "falls", "told", "reply", "found"] ["size", "stops", "known"] (defScope T__law_right) := ⟨rfl, rfl, rfl, by decide +kernel, rfl, by decide +kernel, by decide +kernel⟩
theorem sc_law : FnScope ["script", "k", "feed", "size", "falls", "known", "stops", "rows", "turn", "lap", "spot"] ["script"] (defScope T_law) := ⟨rfl, rfl, rfl, by decide +kernel, rfl, by decide +kernel, by decide +kernel⟩
abbrev TI_Impossible : Stmt := Rr.clsMeth (top 4)
theorem scI_Impossible : FnScope ["self", "reason"] ["self", "reason"] (defScope TI_Impossible) := ⟨rfl, rfl, rfl, by decide +kernel, rfl, by decide +kernel, by decide +kernel⟩
section
variable {P : Program} {w : World} {K : PySem.W.Frag} {mg : Str → Option Value} {base : Heap} {f : Addr} {fd : FuncData}
theorem ok_is_integer (F : FnP K "is_integer" T_is_integer f fd) (m_bool : mg "bool" = none) (m_int : mg "int" = none) (m_isinstance : mg "isinstance" = none) : FnG P w K mg base CX0 1 f fd ["thing", "least", "most"] (sp_is_integer K) :=
  ok_keeps (k := 0) F sc_is_integer (fun _ => rfl) (by decide) p_is_integer (fun cdv A outer s H E hr hgd => (pss_cons (ps_if (PW.pt (pw_or (pt_not (pt_val (pe_callB call_xIsi (by rfl) m_isinstance (by decide +kernel) (pa_cons (pv 0) (pa_cons (pe_bltn (v := .ty "int") (by rfl) m_int (by decide +kernel) rfl) pa_nil))))) (pw_or (pt_val (pe_callB call_xIsi (by rfl) m_isinstance (by decide +kernel) (pa_cons (pv 0) (pa_cons (pe_bltn (v := .ty "bool") (by rfl) m_bool (by decide +kernel) rfl) pa_nil)))) (pw_or1 (pt_cmpR op_xLt (pv 0) (pv 1) (nomark _)))))) (pss_one (ps_ret pe_bl)) pss_nil)
    (pss_one (ps_ret (pe_or (pe_cmpR op_xIs (pv 2) pe_non (nomark _)) (pe_one (pe_cmpR op_xLe (pv 0) (pv 2) (nomark _))))))))
theorem ok_distance_of (F : FnP K "distance_of" T_distance_of f fd)  : FnG P w K mg base CX0 1 f fd ["n", "i", "j"] (sp_distance_of K) :=
  ok_keeps (k := 0) F sc_distance_of (fun _ => rfl) (by decide) p_distance_of (fun cdv A outer s H E hr hgd => (pss_one (ps_ret (pe_op op_xAdd (pe_op op_xMod (pe_op op_xSub (pe_op op_xSub (pv 2) (pv 1)) pe_int) (pv 0)) pe_int))))
theorem ok__law_feed (F : FnP K "_law_feed" T__law_feed f fd) (m_abs : mg "abs" = none) (m_len : mg "len" = none) (m_max : mg "max" = none) : FnG P w K mg base CX0 1 f fd ["script", "k"] (sp__law_feed K) :=
  ok_keeps (k := 0) F sc__law_feed (fun _ => rfl) (by decide) p__law_feed (fun cdv A outer s H E hr hgd => (pss_cons (ps_set (i := 2) sc__law_feed.nd rfl (by first | exact Or.inl rfl | exact Or.inr rfl) pe_int)
    (pss_cons (ps_if (pt_cmpR op_xLt (pv 1) (pe_callB call_xLen (by rfl) m_len (by decide +kernel) (pa_cons (pv 0) pa_nil)) (nomark _)) (pss_one (ps_set (i := 2) sc__law_feed.nd rfl (by first | exact Or.inl rfl | exact Or.inr rfl) (pe_ix ix_x (pv 0) (pv 1) (fun _ _ => rfl)))) pss_nil)
    (pss_one (ps_ret (pe_lst (pa_cons (pe_callB (call_xMax rfl) (by rfl) m_max (by decide +kernel) (pa_cons pe_int (pa_cons (pe_op op_xSub (pe_callB call_xAbs (by rfl) m_abs (by decide +kernel) (pa_cons (pv 2) pa_nil)) (pe_op op_xPow pe_int pe_int)) pa_nil))) (pa_cons (pe_op op_xMod (pe_op op_xAdd (pe_op op_xAdd (pe_op op_xMulS (pv 2) pe_int) (pe_op op_xMulS pe_int (pv 1))) pe_int) pe_int) (pa_cons pe_int pa_nil)))))))))
theorem ok__law_pick (F : FnP K "_law_pick" T__law_pick f fd)  : FnG P w K mg base CX0 1 f fd ["feed", "wide"] (sp__law_pick K) :=
  ok_keeps (k := 0) F sc__law_pick (fun _ => rfl) (by decide) p__law_pick (fun cdv A outer s H E hr hgd => (pss_cons (ps_if (pt_cmpR op_xGt (pe_ix ix_x (pv 0) pe_int (fun _ _ => rfl)) pe_int (nomark _)) (pss_cons (ps_set (i := 2) sc__law_pick.nd rfl (by first | exact Or.inl rfl | exact Or.inr rfl) (pe_op op_xMod (pe_ix ix_x (pv 0) pe_int (fun _ _ => rfl)) (pv 1)))
    (pss_cons (ps_asg (pe_op op_xDiv (pe_ix ix_x (pv 0) pe_int (fun _ _ => rfl)) (pv 1)) (pg_sub (pv 0) pe_int set_list))
    (pss_one (ps_ret (pv 2))))) pss_nil)
    (pss_cons (ps_asg (pe_op op_xAdd (pe_ix ix_x (pv 0) pe_int (fun _ _ => rfl)) pe_int) (pg_sub (pv 0) pe_int set_list))
    (pss_cons (ps_set (i := 3) sc__law_pick.nd rfl (by first | exact Or.inl rfl | exact Or.inr rfl) (pe_op op_xMod (pe_op op_xAdd (pe_ix ix_x (pv 0) pe_int (fun _ _ => rfl)) (pe_op op_xMul pe_int (pe_ix ix_x (pv 0) pe_int (fun _ _ => rfl)))) pe_int))
    (pss_cons (ps_set (i := 3) sc__law_pick.nd rfl (by first | exact Or.inl rfl | exact Or.inr rfl) (pe_op op_xMod (pe_op op_xAdd (pe_op op_xAdd (pe_op op_xMul (pv 3) (pv 3)) (pe_op op_xMul (pe_op op_xMul pe_int (pe_ix ix_x (pv 0) pe_int (fun _ _ => rfl))) (pv 3))) pe_int) pe_int))
    (pss_cons (ps_set (i := 3) sc__law_pick.nd rfl (by first | exact Or.inl rfl | exact Or.inr rfl) (pe_op op_xMod (pe_op op_xAdd (pe_op op_xAdd (pe_op op_xPow (pv 3) pe_int) (pe_ix ix_x (pv 0) pe_int (fun _ _ => rfl))) (pe_op op_xMul pe_int (pe_ix ix_x (pv 0) pe_int (fun _ _ => rfl)))) pe_int))
    (pss_one (ps_ret (pe_op op_xMod (pe_op op_xDiv (pv 3) pe_int) (pv 1))))))))))
theorem ok__law_away (F : FnP K "_law_away" T__law_away f fd)  : FnG P w K mg base CX0 1 f fd ["size", "here", "there"] (sp__law_away K) :=
  ok_keeps (k := 0) F sc__law_away (fun _ => rfl) (by decide) p__law_away (fun cdv A outer s H E hr hgd => (pss_cons (ps_set (i := 3) sc__law_away.nd rfl (by first | exact Or.inl rfl | exact Or.inr rfl) pe_int)
    (pss_cons (ps_while PassesOwn.never (pt_cmpR (op_xNe (hu_of64 hr)) (pe_op op_xMod (pe_op op_xAdd (pv 1) (pv 3)) (pv 0)) (pv 2) (nomark _)) (pss_one (ps_set (i := 3) sc__law_away.nd rfl (by first | exact Or.inl rfl | exact Or.inr rfl) (pe_op op_xAdd (pv 3) pe_int))))
    (pss_one (ps_ret (pv 3))))))
theorem ok__law_stops (F : FnP K "_law_stops" T__law_stops f fd) (m_range : mg "range" = none) : FnG P w K mg base CX0 1 f fd ["size", "falls"] (sp__law_stops K) :=
  ok_keeps (k := 0) F sc__law_stops (fun _ => rfl) (by decide) p__law_stops (fun cdv A outer s H E hr hgd => (pss_cons (ps_set (i := 2) sc__law_stops.nd rfl (by first | exact Or.inl rfl | exact Or.inr rfl) (pe_lst pa_nil))
    (pss_cons (ps_for PassesOwn.never rfl (pi_range1 (by rfl) m_range (pa_cons (pv 0) pa_nil)) (pg_name (i := 3) sc__law_stops.nd rfl (by first | exact Or.inl rfl | exact Or.inr rfl)) (pss_cons (ps_set (i := 4) sc__law_stops.nd rfl (by first | exact Or.inl rfl | exact Or.inr rfl) (pe_op op_xMod (pe_op op_xAdd (pv 3) pe_int) (pv 0)))
    (pss_cons (ps_while PassesOwn.never (pt_cmpR op_xNotIn (pv 4) (pv 1) rfl) (pss_one (ps_set (i := 4) sc__law_stops.nd rfl (by first | exact Or.inl rfl | exact Or.inr rfl) (pe_op op_xMod (pe_op op_xAdd (pv 4) pe_int) (pv 0)))))
    (pss_one (ps_expr (pe_bm PySem.F.plainAttrs_list PySem.F.slot_list_append PySem.F.type_list_append mt_append (pv 2) (pa_cons (pv 4) pa_nil)))))))
    (pss_one (ps_ret (pv 2))))))
theorem ok__law_all_sets (F : FnP K "_law_all_sets" T__law_all_sets f fd) (m_len : mg "len" = none) (m_range : mg "range" = none) (m_sorted : mg "sorted" = none) : FnG P w K mg base CX0 1 f fd ["size"] (sp__law_all_sets K) :=
  ok_keeps (k := 0) F sc__law_all_sets (fun _ => rfl) (by decide) p__law_all_sets (fun cdv A outer s H E hr hgd => (pss_cons (ps_set (i := 1) sc__law_all_sets.nd rfl (by first | exact Or.inl rfl | exact Or.inr rfl) (pe_lst (pa_cons (pe_lst pa_nil) pa_nil)))
    (pss_cons (ps_for PassesOwn.never rfl (pi_range1 (by rfl) m_range (pa_cons (pv 0) pa_nil)) (pg_name (i := 2) sc__law_all_sets.nd rfl (by first | exact Or.inl rfl | exact Or.inr rfl)) (pss_one (ps_set (i := 1) sc__law_all_sets.nd rfl (by first | exact Or.inl rfl | exact Or.inr rfl) (pe_op op_xAdd (pv 1) (pe_lc (own := [("row", 3)]) (g := (gName 3)) (tt := tYes) rfl sc__law_all_sets.nd (pi_list (pv 1)) (blkOk_by (own := [("row", 3)]) (N := ["size", "rows", "spot", "row"]) (sc := defScope T__law_all_sets) (by decide +kernel)) (fun _ _ _ _ _ => (pg_name (i := 3) sc__law_all_sets.nd rfl (by first | exact Or.inl rfl | exact Or.inr rfl))) (fun _ _ _ _ _ => pts_nil) (fun _ _ _ _ _ => (pe_op op_xAdd (pv 3) (pe_lst (pa_cons (pv 2) pa_nil)))))))))
    (pss_one (ps_ret (pe_callB (call_xSortedR (hu_of64 hr)) (by rfl) m_sorted (by decide +kernel) (pa_cons (pe_lc (own := [("row", 3)]) (g := (gName 3)) (tt := (tTest (tChain xLt xLt (tC (.int 0)) (tCB (xLen K) (tCons (tVar 3) tNil)) (tVar 0)))) rfl sc__law_all_sets.nd (pi_list (pv 1)) (blkOk_by (own := [("row", 3)]) (N := ["size", "rows", "spot", "row"]) (sc := defScope T__law_all_sets) (by decide +kernel)) (fun _ _ _ _ _ => (pg_name (i := 3) sc__law_all_sets.nd rfl (by first | exact Or.inl rfl | exact Or.inr rfl))) (fun _ _ _ _ _ => (pts_one (pt_chain op_xLt op_xLt pe_int (pe_callB call_xLen (by rfl) m_len (by decide +kernel) (pa_cons (pv 3) pa_nil)) (pv 0)))) (fun _ _ _ _ _ => (pv 3))) pa_nil)))))))
theorem ok__law_same (F : FnP K "_law_same" T__law_same f fd) (m_all : mg "all" = none) (m_bool : mg "bool" = none) (m_dict : mg "dict" = none) (m_isinstance : mg "isinstance" = none) (m_len : mg "len" = none) (m_list : mg "list" = none) (m_str : mg "str" = none) (m_tuple : mg "tuple" = none) (m_zip : mg "zip" = none) (mf : mg "_law_same" = some (.ref f)) (bf : Binds K fd ["found", "due"] []) : ∀ n : Nat, FnG P w K mg base CX0 (0 + n) f fd ["found", "due"] (sp__law_same K n)
  | 0 => ⟨fun _ _ _ _ h => False.elim h, fun _ _ _ _ _ _ _ _ _ _ _ _ _ _ h => False.elim h⟩
  | n + 1 => by
    have f__law_same : Fn P w K mg base CX0 (0 + n) "_law_same" ["found", "due"] (sp__law_same K n) := ⟨_, _, ok__law_same F m_all m_bool m_dict m_isinstance m_len m_list m_str m_tuple m_zip mf bf n, mf, F.kp, bf⟩
    exact ok_keeps (k := 0 + n) F sc__law_same (fun _ => rfl) (by decide) (p__law_same n) (fun cdv A outer s H E hr hgd => (pss_cons (ps_if (pt_val (pe_callB call_xIsi (by rfl) m_isinstance (by decide +kernel) (pa_cons (pv 1) (pa_cons (pe_bltn (v := .ty "dict") (by rfl) m_dict (by decide +kernel) rfl) pa_nil)))) (pss_cons (ps_if (PW.pt (pw_or (pt_not (pt_val (pe_callB call_xIsi (by rfl) m_isinstance (by decide +kernel) (pa_cons (pv 0) (pa_cons (pe_bltn (v := .ty "dict") (by rfl) m_dict (by decide +kernel) rfl) pa_nil))))) (pw_or1 (pt_cmpR (op_xNe (hu_of64 hr)) (pe_callTy call_xList (by rfl) m_list (by decide +kernel) (pa_cons (pv 0) pa_nil)) (pe_callTy call_xList (by rfl) m_list (by decide +kernel) (pa_cons (pv 1) pa_nil)) (nomark _))))) (pss_one (ps_ret pe_bl)) pss_nil)
    (pss_one (ps_ret (pe_callB (call_xAll rfl) (by rfl) m_all (by decide +kernel) (pa_cons (pe_lc (own := [("word", 2)]) (g := (gName 2)) (tt := tYes) rfl sc__law_same.nd (pi_list (pv 1)) (blkOk_by (own := [("word", 2)]) (N := ["found", "due", "word", "one", "two"]) (sc := defScope T__law_same) (by decide +kernel)) (fun _ _ _ _ _ => (pg_name (i := 2) sc__law_same.nd rfl (by first | exact Or.inl rfl | exact Or.inr rfl))) (fun _ _ _ _ _ => pts_nil) (fun _ _ _ _ _ => (pe_fn f__law_same hr (by omega) hgd pass0 (pa_cons (pe_ix ix_x (pv 0) (pv 2) (fun _ _ => rfl)) (pa_cons (pe_ix ix_x (pv 1) (pv 2) (fun _ _ => rfl)) pa_nil))))) pa_nil))))) pss_nil)
    (pss_cons (ps_if (pt_val (pe_callB call_xIsi (by rfl) m_isinstance (by decide +kernel) (pa_cons (pv 1) (pa_cons (pe_tup (pa_cons (pe_bltn (v := .ty "list") (by rfl) m_list (by decide +kernel) rfl) (pa_cons (pe_bltn (v := .ty "tuple") (by rfl) m_tuple (by decide +kernel) rfl) pa_nil))) pa_nil)))) (pss_cons (ps_if (PW.pt (pw_or (pt_cmpR (op_xNe (hu_of64 hr)) (pe_callB call_xIsi (by rfl) m_isinstance (by decide +kernel) (pa_cons (pv 0) (pa_cons (pe_bltn (v := .ty "list") (by rfl) m_list (by decide +kernel) rfl) pa_nil))) (pe_callB call_xIsi (by rfl) m_isinstance (by decide +kernel) (pa_cons (pv 1) (pa_cons (pe_bltn (v := .ty "list") (by rfl) m_list (by decide +kernel) rfl) pa_nil))) (nomark _)) (pw_or1 (pt_cmpR (op_xNe (hu_of64 hr)) (pe_callB call_xIsi (by rfl) m_isinstance (by decide +kernel) (pa_cons (pv 0) (pa_cons (pe_bltn (v := .ty "tuple") (by rfl) m_tuple (by decide +kernel) rfl) pa_nil))) (pe_callB call_xIsi (by rfl) m_isinstance (by decide +kernel) (pa_cons (pv 1) (pa_cons (pe_bltn (v := .ty "tuple") (by rfl) m_tuple (by decide +kernel) rfl) pa_nil))) (nomark _))))) (pss_one (ps_ret pe_bl)) pss_nil)
    (pss_one (ps_ret (pe_and (pe_cmpR (op_xEq (hu_of64 hr)) (pe_callB call_xLen (by rfl) m_len (by decide +kernel) (pa_cons (pv 0) pa_nil)) (pe_callB call_xLen (by rfl) m_len (by decide +kernel) (pa_cons (pv 1) pa_nil)) (nomark _)) (pe_one (pe_callB (call_xAll rfl) (by rfl) m_all (by decide +kernel) (pa_cons (pe_lc (own := [("one", 3), ("two", 4)]) (g := (gTup K 2 (gCons (gName 3) (gCons (gName 4) gNil)))) (tt := tYes) rfl sc__law_same.nd (RZ.pi_zipA (by rfl) m_zip (pa_cons (pv 0) (pa_cons (pv 1) pa_nil))) (blkOk_by (own := [("one", 3), ("two", 4)]) (N := ["found", "due", "word", "one", "two"]) (sc := defScope T__law_same) (by decide +kernel)) (fun _ _ _ _ _ => (pg_tup rfl (pgs_cons (pg_name (i := 3) sc__law_same.nd rfl (by first | exact Or.inl rfl | exact Or.inr rfl)) (pgs_cons (pg_name (i := 4) sc__law_same.nd rfl (by first | exact Or.inl rfl | exact Or.inr rfl)) pgs_nil)))) (fun _ _ _ _ _ => pts_nil) (fun _ _ _ _ _ => (pe_fn f__law_same hr (by omega) hgd pass0 (pa_cons (pv 3) (pa_cons (pv 4) pa_nil))))) pa_nil))))))) pss_nil)
    (pss_cons (ps_if (PW.pt (pw_or (pt_cmpR op_xIs (pv 1) pe_non (nomark _)) (pw_or1 (pt_cmpR op_xIs (pv 0) pe_non (nomark _))))) (pss_one (ps_ret (pe_and (pe_cmpR op_xIs (pv 1) pe_non (nomark _)) (pe_one (pe_cmpR op_xIs (pv 0) pe_non (nomark _)))))) pss_nil)
    (pss_cons (ps_if (PW.pt (pw_or (pt_cmpR (op_xNe (hu_of64 hr)) (pe_callB call_xIsi (by rfl) m_isinstance (by decide +kernel) (pa_cons (pv 0) (pa_cons (pe_bltn (v := .ty "bool") (by rfl) m_bool (by decide +kernel) rfl) pa_nil))) (pe_callB call_xIsi (by rfl) m_isinstance (by decide +kernel) (pa_cons (pv 1) (pa_cons (pe_bltn (v := .ty "bool") (by rfl) m_bool (by decide +kernel) rfl) pa_nil))) (nomark _)) (pw_or1 (pt_cmpR (op_xNe (hu_of64 hr)) (pe_callB call_xIsi (by rfl) m_isinstance (by decide +kernel) (pa_cons (pv 0) (pa_cons (pe_bltn (v := .ty "str") (by rfl) m_str (by decide +kernel) rfl) pa_nil))) (pe_callB call_xIsi (by rfl) m_isinstance (by decide +kernel) (pa_cons (pv 1) (pa_cons (pe_bltn (v := .ty "str") (by rfl) m_str (by decide +kernel) rfl) pa_nil))) (nomark _))))) (pss_one (ps_ret pe_bl)) pss_nil)
    (pss_one (ps_ret (pe_cmpR (op_xEq (hu_of64 hr)) (pv 0) (pv 1) (nomark _)))))))))
theorem ok__law_every (F : FnP K "_law_every" T__law_every f fd) (m_range : mg "range" = none) : FnG P w K mg base CX0 1 f fd ["size"] (sp__law_every K) :=
  ok_keeps (k := 0) F sc__law_every (fun _ => rfl) (by decide) p__law_every (fun cdv A outer s H E hr hgd => (pss_cons (ps_set (i := 1) sc__law_every.nd rfl (by first | exact Or.inl rfl | exact Or.inr rfl) (pe_lst (pa_cons (pe_lst pa_nil) pa_nil)))
    (pss_cons (ps_for PassesOwn.never rfl (pi_range1 (by rfl) m_range (pa_cons (pv 0) pa_nil)) (pg_name (i := 2) sc__law_every.nd rfl (by first | exact Or.inl rfl | exact Or.inr rfl)) (pss_cons (ps_set (i := 3) sc__law_every.nd rfl (by first | exact Or.inl rfl | exact Or.inr rfl) (pe_lst pa_nil))
    (pss_cons (ps_for PassesOwn.never rfl (pi_list (pv 1)) (pg_name (i := 4) sc__law_every.nd rfl (by first | exact Or.inl rfl | exact Or.inr rfl)) (pss_one (ps_expr (pe_bm PySem.F.plainAttrs_list PySem.F.slot_list_extend PySem.F.type_list_extend mt_extend (pv 3) (pa_cons (pe_lc (own := [("there", 5)]) (g := (gName 5)) (tt := tYes) rfl sc__law_every.nd (pi_range1 (by rfl) m_range (pa_cons (pv 0) pa_nil)) (blkOk_by (own := [("there", 5)]) (N := ["size", "found", "spot", "longer", "row", "there"]) (sc := defScope T__law_every) (by decide +kernel)) (fun _ _ _ _ _ => (pg_name (i := 5) sc__law_every.nd rfl (by first | exact Or.inl rfl | exact Or.inr rfl))) (fun _ _ _ _ _ => pts_nil) (fun _ _ _ _ _ => (pe_op op_xAdd (pv 4) (pe_lst (pa_cons (pv 5) pa_nil))))) pa_nil)))))
    (pss_one (ps_set (i := 1) sc__law_every.nd rfl (by first | exact Or.inl rfl | exact Or.inr rfl) (pv 3))))))
    (pss_one (ps_ret (pv 1))))))
theorem ok_need_ring (F : FnP K "need_ring" T_need_ring f fd) (f_is_integer : Fn P w K mg base CX0 1 "is_integer" ["thing", "least", "most"] (sp_is_integer K)) {t_LEAST_SERVERS : _} (g_LEAST_SERVERS : mg "LEAST_SERVERS" = some (Value.int 2 t_LEAST_SERVERS)) {t_MOST_SERVERS : _} (g_MOST_SERVERS : mg "MOST_SERVERS" = some (Value.int 60 t_MOST_SERVERS)) : FnG P w K mg base CX0 2 f fd ["n"] (sp_need_ring K) :=
  ok_keeps (k := 1) F sc_need_ring (fun _ => rfl) (by decide) p_need_ring (fun cdv A outer s H E hr hgd => (pss_one (ps_if (pt_not (pt_val (pe_fn f_is_integer hr (by omega) hgd pass0 (pa_cons (pv 0) (pa_cons (pe_glob (by rfl) g_LEAST_SERVERS ⟨_, rfl⟩) (pa_cons (pe_glob (by rfl) g_MOST_SERVERS ⟨_, rfl⟩) pa_nil)))))) (pss_one ps_never) pss_nil)))
theorem ok_is_server (F : FnP K "is_server" T_is_server f fd) (f_is_integer : Fn P w K mg base CX0 1 "is_integer" ["thing", "least", "most"] (sp_is_integer K)) : FnG P w K mg base CX0 2 f fd ["n", "thing"] (sp_is_server K) :=
  ok_keeps (k := 1) F sc_is_server (fun _ => rfl) (by decide) p_is_server (fun cdv A outer s H E hr hgd => (pss_one (ps_ret (pe_fn f_is_integer hr (by omega) hgd pass0 (pa_cons (pv 1) (pa_cons pe_int (pa_cons (pe_op op_xSub (pv 0) pe_int) pa_nil)))))))
theorem ok_passes (F : FnP K "passes" T_passes f fd) (f_distance_of : Fn P w K mg base CX0 1 "distance_of" ["n", "i", "j"] (sp_distance_of K)) : FnG P w K mg base CX0 2 f fd ["n", "assignment", "i", "k"] (sp_passes K) :=
  ok_keeps (k := 1) F sc_passes (fun _ => rfl) (by decide) p_passes (fun cdv A outer s H E hr hgd => (pss_one (ps_ret (pe_cmpR op_xLt (pe_fn f_distance_of hr (by omega) hgd pass0 (pa_cons (pv 0) (pa_cons (pv 2) (pa_cons (pe_ix ix_x (pv 1) (pv 3) (fun _ _ => rfl)) pa_nil)))) (pe_fn f_distance_of hr (by omega) hgd pass0 (pa_cons (pv 0) (pa_cons (pv 2) (pa_cons (pe_ix ix_x (pv 1) (pv 2) (fun _ _ => rfl)) pa_nil)))) (nomark _)))))
theorem ok__law_reason (F : FnP K "_law_reason" T__law_reason f fd) (f__law_away : Fn P w K mg base CX0 1 "_law_away" ["size", "here", "there"] (sp__law_away K)) (m_len : mg "len" = none) (m_range : mg "range" = none) (m_set : mg "set" = none) : FnG P w K mg base CX0 2 f fd ["size", "stops"] (sp__law_reason K) :=
  ok_keeps (k := 1) F sc__law_reason (fun _ => rfl) (by decide) p__law_reason (fun cdv A outer s H E hr hgd => (pss_cons (ps_for PassesOwn.never rfl (pi_range1 (by rfl) m_range (pa_cons (pv 0) pa_nil)) (pg_name (i := 2) sc__law_reason.nd rfl (by first | exact Or.inl rfl | exact Or.inr rfl)) (pss_one (ps_for PassesOwn.never rfl (pi_range1 (by rfl) m_range (pa_cons (pv 0) pa_nil)) (pg_name (i := 3) sc__law_reason.nd rfl (by first | exact Or.inl rfl | exact Or.inr rfl)) (pss_one (ps_if (PW.pt (pw_and (pt_cmpR op_xIsNot (pe_ix ix_x (pv 1) (pv 2) (fun _ _ => rfl)) pe_non (nomark _)) (pw_and1 (pt_cmpR op_xIsNot (pe_ix ix_x (pv 1) (pv 3) (fun _ _ => rfl)) pe_non (nomark _))))) (pss_one (ps_if (pt_cmpR op_xLt (pe_fn f__law_away hr (by omega) hgd pass0 (pa_cons (pv 0) (pa_cons (pv 2) (pa_cons (pe_ix ix_x (pv 1) (pv 3) (fun _ _ => rfl)) pa_nil)))) (pe_fn f__law_away hr (by omega) hgd pass0 (pa_cons (pv 0) (pa_cons (pv 2) (pa_cons (pe_ix ix_x (pv 1) (pv 2) (fun _ _ => rfl)) pa_nil)))) (nomark _)) (pss_one (ps_ret (pe_tup (pa_cons pe_str (pa_cons (pv 2) (pa_cons (pv 3) pa_nil)))))) pss_nil)) pss_nil)))))
    (pss_cons (ps_setLc (i := 5) (own := [("stop", 4)]) (g := (gName 4)) (tt := (tTest (tOp xIsNot (tVar 4) (tC .non)))) rfl sc__law_reason.nd rfl rfl (sw_true rfl rfl rfl (by decide +kernel)) (pi_list (pv 1)) (blkOk_by (own := [("stop", 4)]) (N := ["size", "stops", "group", "mate", "stop", "there"]) (sc := defScope T__law_reason) (by decide +kernel)) (fun _ _ _ _ _ => (pg_name (i := 4) sc__law_reason.nd rfl (by first | exact Or.inl rfl | exact Or.inr rfl))) (fun _ _ _ _ _ => (pts_one (pt_cmpR op_xIsNot (pv 4) pe_non (nomark _)))) (fun _ _ _ _ _ => (pv 4)))
    (pss_one (ps_ret (pe_ifExp (pt_cmpR (op_xEq (hu_of64 hr)) (pe_callB call_xLenS (by rfl) m_len (by decide +kernel) (pa_cons (pe_callTy (call_xSetI rfl) (by rfl) m_set (by decide +kernel) (pa_cons (pv 5) pa_nil)) pa_nil)) (pv 0) (nomark _)) (pe_tup (pa_cons pe_str pa_nil)) pe_non))))))
theorem ok_are_ends (F : FnP K "are_ends" T_are_ends f fd) (f_is_server : Fn P w K mg base CX0 2 "is_server" ["n", "thing"] (sp_is_server K)) (m_all : mg "all" = none) (m_isinstance : mg "isinstance" = none) (m_len : mg "len" = none) (m_list : mg "list" = none) : FnG P w K mg base CX0 3 f fd ["n", "thing"] (sp_are_ends K) :=
  ok_keeps (k := 2) F sc_are_ends (fun _ => rfl) (by decide) p_are_ends (fun cdv A outer s H E hr hgd => (pss_one (ps_ret (pe_and (pe_callB call_xIsi (by rfl) m_isinstance (by decide +kernel) (pa_cons (pv 1) (pa_cons (pe_bltn (v := .ty "list") (by rfl) m_list (by decide +kernel) rfl) pa_nil))) (pe_and (pe_cmpR (op_xEq (hu_of64 hr)) (pe_callB call_xLen (by rfl) m_len (by decide +kernel) (pa_cons (pv 1) pa_nil)) (pv 0) (nomark _)) (pe_one (pe_callB (call_xAll rfl) (by rfl) m_all (by decide +kernel) (pa_cons (pe_lc (own := [("server", 2)]) (g := (gName 2)) (tt := tYes) rfl sc_are_ends.nd (pi_list (pv 1)) (blkOk_by (own := [("server", 2)]) (N := ["n", "thing", "server"]) (sc := defScope T_are_ends) (by decide +kernel)) (fun _ _ _ _ _ => (pg_name (i := 2) sc_are_ends.nd rfl (by first | exact Or.inl rfl | exact Or.inr rfl))) (fun _ _ _ _ _ => pts_nil) (fun _ _ _ _ _ => (pe_fn f_is_server hr (by omega) hgd pass0 (pa_cons (pv 0) (pa_cons (pv 2) pa_nil))))) pa_nil))))))))
theorem ok_need_assignment (F : FnP K "need_assignment" T_need_assignment f fd) (f_are_ends : Fn P w K mg base CX0 3 "are_ends" ["n", "thing"] (sp_are_ends K)) : FnG P w K mg base CX0 4 f fd ["n", "assignment"] (sp_need_assignment K) :=
  ok_keeps (k := 3) F sc_need_assignment (fun _ => rfl) (by decide) p_need_assignment (fun cdv A outer s H E hr hgd => (pss_one (ps_if (pt_not (pt_val (pe_fn f_are_ends hr (by omega) hgd pass0 (pa_cons (pv 0) (pa_cons (pv 1) pa_nil))))) (pss_one ps_never) pss_nil)))
theorem ok_reason (F : FnP K "reason" T_reason f fd) (f_need_assignment : Fn P w K mg base CX0 4 "need_assignment" ["n", "assignment"] (sp_need_assignment K)) (f_need_ring : Fn P w K mg base CX0 2 "need_ring" ["n"] (sp_need_ring K)) (f_passes : Fn P w K mg base CX0 2 "passes" ["n", "assignment", "i", "k"] (sp_passes K)) (m_len : mg "len" = none) (m_range : mg "range" = none) (m_set : mg "set" = none) {t_ALL : _} (g_ALL : mg "ALL" = some (Value.str "all" t_ALL)) {t_PASSED : _} (g_PASSED : mg "PASSED" = some (Value.str "passed" t_PASSED)) : FnG P w K mg base CX0 5 f fd ["n", "assignment"] (sp_reason K) :=
  ok_keeps (k := 4) F sc_reason (fun _ => rfl) (by decide) p_reason (fun cdv A outer s H E hr hgd => (pss_cons (ps_expr (pe_fn f_need_ring hr (by omega) hgd pass0 (pa_cons (pv 0) pa_nil)))
    (pss_cons (ps_expr (pe_fn f_need_assignment hr (by omega) hgd pass0 (pa_cons (pv 0) (pa_cons (pv 1) pa_nil))))
    (pss_cons (ps_for PassesOwn.never rfl (pi_range1 (by rfl) m_range (pa_cons (pv 0) pa_nil)) (pg_name (i := 2) sc_reason.nd rfl (by first | exact Or.inl rfl | exact Or.inr rfl)) (pss_one (ps_for PassesOwn.never rfl (pi_range1 (by rfl) m_range (pa_cons (pv 0) pa_nil)) (pg_name (i := 3) sc_reason.nd rfl (by first | exact Or.inl rfl | exact Or.inr rfl)) (pss_one (ps_if (pt_val (pe_fn f_passes hr (by omega) hgd pass0 (pa_cons (pv 0) (pa_cons (pv 1) (pa_cons (pv 2) (pa_cons (pv 3) pa_nil)))))) (pss_one (ps_ret (pe_tup (pa_cons (pe_glob (by rfl) g_PASSED ⟨_, rfl⟩) (pa_cons (pv 2) (pa_cons (pv 3) pa_nil)))))) pss_nil)))))
    (pss_one (ps_ret (pe_ifExp (pt_cmpR (op_xEq (hu_of64 hr)) (pe_callB call_xLenS (by rfl) m_len (by decide +kernel) (pa_cons (pe_callTy (call_xSetI rfl) (by rfl) m_set (by decide +kernel) (pa_cons (pv 1) pa_nil)) pa_nil)) (pv 0) (nomark _)) (pe_tup (pa_cons (pe_glob (by rfl) g_ALL ⟨_, rfl⟩) pa_nil)) pe_non)))))))
theorem ok_possible (F : FnP K "possible" T_possible f fd) (f_reason : Fn P w K mg base CX0 5 "reason" ["n", "assignment"] (sp_reason K)) : FnG P w K mg base CX0 6 f fd ["n", "assignment"] (sp_possible K) :=
  ok_keeps (k := 5) F sc_possible (fun _ => rfl) (by decide) p_possible (fun cdv A outer s H E hr hgd => (pss_one (ps_ret (pe_cmpR op_xIs (pe_fn f_reason hr (by omega) hgd pass0 (pa_cons (pv 0) (pa_cons (pv 1) pa_nil))) pe_non (nomark _)))))
theorem ok_drops_from (F : FnP K "drops_from" T_drops_from f fd) (f_reason : Fn P w K mg base CX0 5 "reason" ["n", "assignment"] (sp_reason K)) (m_set : mg "set" = none) (m_sorted : mg "sorted" = none) (o_Impossible : Rr.OexF P w K mg base 1 "Impossible" "reason") : FnG P w K mg base (L2.CX P w) 6 f fd ["n", "assignment"] (sp_drops_from K) :=
  Rr.ok_keepsR (k := 5) F sc_drops_from (fun _ => rfl) (by decide) p_drops_from (fun cdv A outer s H E hr hgd tk => (pss_cons (ps_set (i := 2) sc_drops_from.nd rfl (by first | exact Or.inl rfl | exact Or.inr rfl) (pe_fn f_reason hr (by omega) hgd pass0 (pa_cons (pv 0) (pa_cons (pv 1) pa_nil))))
    (pss_cons (ps_if (pt_cmpR op_xIsNot (pv 2) pe_non (nomark _)) (pss_one (Rr.ps_raiseR rfl o_Impossible hr (by omega) hgd tk (pv 2))) pss_nil)
    (pss_one (ps_ret (pe_callB (cr_sortedSet rfl) (by rfl) m_sorted (by decide +kernel) (pa_cons (pe_callTy (call_xSetI rfl) (by rfl) m_set (by decide +kernel) (pa_cons (pv 1) pa_nil)) pa_nil)))))))
theorem ok__law_told (F : FnP K "_law_told" T__law_told f fd) (f_drops_from : Fn P w K mg base (L2.CX P w) 6 "drops_from" ["n", "assignment"] (sp_drops_from K)) (k_drops_from_assignment_n : Fnk P w K mg base (L2.CX P w) 6 "drops_from" ["n", "assignment"] (sp_drops_from K) ["assignment", "n"] (Rr.perm [1, 0]) (Rr.perm [1, 0])) (g_Impossible : mg "Impossible" = some (.ref (He.ga K "Impossible"))) (hK : exB K = true) : FnG P w K mg base CX0 7 f fd ["size", "stops", "named"] (sp__law_told K) :=
  ok_keeps (k := 6) F sc__law_told (fun _ => rfl) (by decide) (p__law_told hK) (fun cdv A outer s H E hr hgd => (pss_one (ps_try_as (i := 3) (tb := fun W => (tSeq (tIfS (tB (tVar 2)) (tRet (tCallKS 2 (sp_drops_from K) (Rr.perm [1, 0]) (WE W) (tCons (tVar 1) (tCons (tVar 0) tNil)))) tNext)
    (tRet (tCallS (sp_drops_from K) (WE W) (tCons (tVar 0) (tCons (tVar 1) tNil)))))) (ts := (fun a cls d => tRet (tTup (tCons (tC (.str "no")) (tCons (tXf a cls d (He.ga K "Impossible") "reason" (tVar 3)) tNil))))) (Wout := (fun _ _ _ _ => False)) rfl rfl sc__law_told.nd rfl rfl ⟨rfl, by decide, Or.inl g_Impossible⟩ takes0 (fun W pn xe tk _ => (pss_cons (ps_if (pt_val (pv 2)) (pss_one (ps_ret (Rr.pe_fnkS k_drops_from_assignment_n hr (by omega) hgd (fun σ => passAt tk σ) (pk_cons (pv 1) (pk_cons (pv 0) pk_nil))))) pss_nil)
    (pss_one (ps_ret (Rr.pe_fnS f_drops_from hr (by omega) hgd (fun σ => passAt tk σ) (pa_cons (pv 0) (pa_cons (pv 1) pa_nil))))))) (fun a oe cls d pn hz hf => pss_one (ps_ret (pe_tup (pa_cons pe_str (pa_cons (pe_xf (K_ini_Impossible hK).xf (K_ini_Impossible hK).no hz hf (pv 3)) pa_nil))))))))
theorem ok__law_right (F : FnP K "_law_right" T__law_right f fd) (f__law_reason : Fn P w K mg base CX0 2 "_law_reason" ["size", "stops"] (sp__law_reason K)) (f__law_same : Fn P w K mg base CX0 4 "_law_same" ["found", "due"] (sp__law_same K 4)) (f__law_told : Fn P w K mg base CX0 7 "_law_told" ["size", "stops", "named"] (sp__law_told K)) (f_possible : Fn P w K mg base CX0 6 "possible" ["n", "assignment"] (sp_possible K)) (f_reason : Fn P w K mg base CX0 5 "reason" ["n", "assignment"] (sp_reason K)) (k_possible_assignment_n : Fnk P w K mg base CX0 6 "possible" ["n", "assignment"] (sp_possible K) ["assignment", "n"] (Rr.perm [1, 0]) (Rr.perm [1, 0])) (k_reason_assignment_n : Fnk P w K mg base CX0 5 "reason" ["n", "assignment"] (sp_reason K) ["assignment", "n"] (Rr.perm [1, 0]) (Rr.perm [1, 0])) (m_repr : mg "repr" = none) (m_tuple : mg "tuple" = none) : FnG P w K mg base CX0 8 f fd ["size", "stops", "known"] (sp__law_right K) :=
  ok_keeps (k := 7) F sc__law_right (fun _ => rfl) (by decide) p__law_right (fun cdv A outer s H E hr hgd => (pss_cons (ps_set (i := 3) sc__law_right.nd rfl (by first | exact Or.inl rfl | exact Or.inr rfl) (pe_callB (call_xRepr hgd (hu_of64 hr)) (by rfl) m_repr (by decide +kernel) (pa_cons (pv 1) pa_nil)))
    (pss_cons (ps_par (i := 4) (j := 5) rfl sc__law_right.nd rfl rfl (by decide) rfl rfl (pa_cons (pe_fn f__law_reason hr (by omega) hgd pass0 (pa_cons (pv 0) (pa_cons (pv 1) pa_nil))) (pa_cons (pe_dget1 (hu_of hr) (pv 2) (pe_callTy call_xTuple (by rfl) m_tuple (by decide +kernel) (pa_cons (pv 1) pa_nil)) ⟨by rfl, by rfl, by rfl, by rfl⟩) pa_nil)) (by rfl))
    (pss_cons (ps_if (pt_cmpR (op_xNe (hu_of64 hr)) (pe_cmpR op_xIs (pv 4) pe_non (nomark _)) (pe_cmpR op_xIsNot (pv 5) pe_non (nomark _)) (nomark _)) (pss_one (ps_ret pe_bl)) pss_nil)
    (pss_cons (ps_set (i := 6) sc__law_right.nd rfl (by first | exact Or.inl rfl | exact Or.inr rfl) (pe_lst (pa_cons (pe_fn f_possible hr (by omega) hgd pass0 (pa_cons (pv 0) (pa_cons (pv 1) pa_nil))) (pa_cons (pe_fnm k_possible_assignment_n hr (by omega) hgd pass0 (pk_cons (pv 1) (pk_cons (pv 0) pk_nil))) pa_nil))))
    (pss_cons (ps_if (pt_not (pt_val (pe_fn f__law_same hr (by omega) hgd pass0 (pa_cons (pv 6) (pa_cons (pe_op op_xMul (pe_lst (pa_cons (pe_cmpR op_xIs (pv 4) pe_non (nomark _)) pa_nil)) pe_int) pa_nil))))) (pss_one (ps_ret pe_bl)) pss_nil)
    (pss_cons (ps_if (pt_not (pt_val (pe_fn f__law_same hr (by omega) hgd pass0 (pa_cons (pe_lst (pa_cons (pe_fn f_reason hr (by omega) hgd pass0 (pa_cons (pv 0) (pa_cons (pv 1) pa_nil))) (pa_cons (pe_fnm k_reason_assignment_n hr (by omega) hgd pass0 (pk_cons (pv 1) (pk_cons (pv 0) pk_nil))) pa_nil))) (pa_cons (pe_lst (pa_cons (pv 4) (pa_cons (pv 4) pa_nil))) pa_nil))))) (pss_one (ps_ret pe_bl)) pss_nil)
    (pss_cons (ps_set (i := 7) sc__law_right.nd rfl (by first | exact Or.inl rfl | exact Or.inr rfl) (pe_ifExp (pt_cmpR op_xIs (pv 5) pe_non (nomark _)) (pe_tup (pa_cons pe_str (pa_cons (pv 4) pa_nil))) (pv 5)))
    (pss_cons (ps_set (i := 8) sc__law_right.nd rfl (by first | exact Or.inl rfl | exact Or.inr rfl) (pe_lst (pa_cons (pe_fn f__law_told hr (by omega) hgd pass0 (pa_cons (pv 0) (pa_cons (pv 1) (pa_cons pe_bl pa_nil)))) (pa_cons (pe_fn f__law_told hr (by omega) hgd pass0 (pa_cons (pv 0) (pa_cons (pv 1) (pa_cons pe_bl pa_nil)))) pa_nil))))
    (pss_one (ps_ret (pe_and (pe_fn f__law_same hr (by omega) hgd pass0 (pa_cons (pv 8) (pa_cons (pe_lst (pa_cons (pv 7) (pa_cons (pv 7) pa_nil))) pa_nil))) (pe_one (pe_cmpR (op_xEq (hu_of64 hr)) (pe_callB (call_xRepr hgd (hu_of64 hr)) (by rfl) m_repr (by decide +kernel) (pa_cons (pv 1) pa_nil)) (pv 3) (nomark _)))))))))))))))
theorem ok_law (F : FnP K "law" T_law f fd) (f__law_all_sets : Fn P w K mg base CX0 1 "_law_all_sets" ["size"] (sp__law_all_sets K)) (f__law_every : Fn P w K mg base CX0 1 "_law_every" ["size"] (sp__law_every K)) (f__law_feed : Fn P w K mg base CX0 1 "_law_feed" ["script", "k"] (sp__law_feed K)) (f__law_pick : Fn P w K mg base CX0 1 "_law_pick" ["feed", "wide"] (sp__law_pick K)) (f__law_right : Fn P w K mg base CX0 8 "_law_right" ["size", "stops", "known"] (sp__law_right K)) (f__law_stops : Fn P w K mg base CX0 1 "_law_stops" ["size", "falls"] (sp__law_stops K)) (m_dict : mg "dict" = none) (m_len : mg "len" = none) (m_list : mg "list" = none) (m_range : mg "range" = none) (m_sorted : mg "sorted" = none) (m_tuple : mg "tuple" = none) : FnG P w K mg base CX0 9 f fd ["script"] (sp_law K) :=
  ok_keeps (k := 8) F sc_law (fun _ => rfl) (by decide) p_law (fun cdv A outer s H E hr hgd => (pss_cons (ps_for PassesOwn.never rfl (pi_range1 (by rfl) m_range (pa_cons pe_int pa_nil)) (pg_name (i := 1) sc_law.nd rfl (by first | exact Or.inl rfl | exact Or.inr rfl)) (pss_cons (ps_set (i := 2) sc_law.nd rfl (by first | exact Or.inl rfl | exact Or.inr rfl) (pe_fn f__law_feed hr (by omega) hgd pass0 (pa_cons (pv 0) (pa_cons (pv 1) pa_nil))))
    (pss_cons (ps_set (i := 3) sc_law.nd rfl (by first | exact Or.inl rfl | exact Or.inr rfl) (pe_op op_xAdd pe_int (pe_fn f__law_pick hr (by omega) hgd pass0 (pa_cons (pv 2) (pa_cons pe_int pa_nil)))))
    (pss_cons (ps_set (i := 5) sc_law.nd rfl (by first | exact Or.inl rfl | exact Or.inr rfl) (pe_callTy (call_rDictT rfl (hu_of64 hr)) (by rfl) m_dict (by decide +kernel) (pa_cons (pe_lc (own := [("falls", 4)]) (g := (gName 4)) (tt := tYes) rfl sc_law.nd (pi_list (pe_fn f__law_all_sets hr (by omega) hgd pass0 (pa_cons (pv 3) pa_nil))) (blkOk_by (own := [("falls", 4)]) (N := ["script", "k", "feed", "size", "falls", "known", "stops", "rows", "turn", "lap", "spot"]) (sc := defScope T_law) (by decide +kernel)) (fun _ _ _ _ _ => (pg_name (i := 4) sc_law.nd rfl (by first | exact Or.inl rfl | exact Or.inr rfl))) (fun _ _ _ _ _ => pts_nil) (fun _ _ _ _ _ => (pe_tup (pa_cons (pe_callTy call_xTuple (by rfl) m_tuple (by decide +kernel) (pa_cons (pe_fn f__law_stops hr (by omega) hgd pass0 (pa_cons (pv 3) (pa_cons (pv 4) pa_nil))) pa_nil)) (pa_cons (pv 4) pa_nil))))) pa_nil)))
    (pss_cons (ps_for PassesOwn.never rfl (pi_list (pe_fn f__law_every hr (by omega) hgd pass0 (pa_cons (pv 3) pa_nil))) (pg_name (i := 6) sc_law.nd rfl (by first | exact Or.inl rfl | exact Or.inr rfl)) (pss_one (ps_if (pt_not (pt_val (pe_fn f__law_right hr (by omega) hgd pass0 (pa_cons (pv 3) (pa_cons (pv 6) (pa_cons (pv 5) pa_nil)))))) (pss_one (ps_ret pe_bl)) pss_nil)))
    (pss_cons (ps_set (i := 3) sc_law.nd rfl (by first | exact Or.inl rfl | exact Or.inr rfl) (pe_op op_xAdd pe_int (pe_fn f__law_pick hr (by omega) hgd pass0 (pa_cons (pv 2) (pa_cons pe_int pa_nil)))))
    (pss_cons (ps_set (i := 5) sc_law.nd rfl (by first | exact Or.inl rfl | exact Or.inr rfl) (pe_callTy (call_rDictT rfl (hu_of64 hr)) (by rfl) m_dict (by decide +kernel) (pa_cons (pe_lc (own := [("falls", 4)]) (g := (gName 4)) (tt := tYes) rfl sc_law.nd (pi_list (pe_fn f__law_all_sets hr (by omega) hgd pass0 (pa_cons (pv 3) pa_nil))) (blkOk_by (own := [("falls", 4)]) (N := ["script", "k", "feed", "size", "falls", "known", "stops", "rows", "turn", "lap", "spot"]) (sc := defScope T_law) (by decide +kernel)) (fun _ _ _ _ _ => (pg_name (i := 4) sc_law.nd rfl (by first | exact Or.inl rfl | exact Or.inr rfl))) (fun _ _ _ _ _ => pts_nil) (fun _ _ _ _ _ => (pe_tup (pa_cons (pe_callTy call_xTuple (by rfl) m_tuple (by decide +kernel) (pa_cons (pe_fn f__law_stops hr (by omega) hgd pass0 (pa_cons (pv 3) (pa_cons (pv 4) pa_nil))) pa_nil)) (pa_cons (pv 4) pa_nil))))) pa_nil)))
    (pss_cons (ps_set (i := 7) sc_law.nd rfl (by first | exact Or.inl rfl | exact Or.inr rfl) (pe_callB (call_rSortedDT rfl (hu_of64 hr)) (by rfl) m_sorted (by decide +kernel) (pa_cons (pv 5) pa_nil)))
    (pss_cons (ps_for PassesOwn.never rfl (pi_range1 (by rfl) m_range (pa_cons pe_int pa_nil)) (pg_name (i := 8) sc_law.nd rfl (by first | exact Or.inl rfl | exact Or.inr rfl)) (pss_cons (ps_set (i := 6) sc_law.nd rfl (by first | exact Or.inl rfl | exact Or.inr rfl) (pe_callTy call_xList (by rfl) m_list (by decide +kernel) (pa_cons (pe_ix ix_x (pv 7) (pe_fn f__law_pick hr (by omega) hgd pass0 (pa_cons (pv 2) (pa_cons (pe_callB call_xLen (by rfl) m_len (by decide +kernel) (pa_cons (pv 7) pa_nil)) pa_nil))) (fun _ _ => rfl)) pa_nil)))
    (pss_cons (ps_for PassesOwn.never rfl (pi_range1 (by rfl) m_range (pa_cons (pe_fn f__law_pick hr (by omega) hgd pass0 (pa_cons (pv 2) (pa_cons pe_int pa_nil))) pa_nil)) (pg_name (i := 9) sc_law.nd rfl (by first | exact Or.inl rfl | exact Or.inr rfl)) (pss_one (ps_asg (pe_fn f__law_pick hr (by omega) hgd pass0 (pa_cons (pv 2) (pa_cons (pv 3) pa_nil))) (pg_sub (pv 6) (pe_fn f__law_pick hr (by omega) hgd pass0 (pa_cons (pv 2) (pa_cons (pv 3) pa_nil))) set_list))))
    (pss_one (ps_if (pt_not (pt_val (pe_fn f__law_right hr (by omega) hgd pass0 (pa_cons (pv 3) (pa_cons (pv 6) (pa_cons (pv 5) pa_nil)))))) (pss_one (ps_ret pe_bl)) pss_nil)))))
    (pss_cons (ps_setLc (i := 6) (own := [("spot", 10)]) (g := (gName 10)) (tt := tYes) rfl sc_law.nd rfl rfl (sw_true rfl rfl rfl (by decide +kernel)) (pi_range1 (by rfl) m_range (pa_cons (pv 3) pa_nil)) (blkOk_by (own := [("spot", 10)]) (N := ["script", "k", "feed", "size", "falls", "known", "stops", "rows", "turn", "lap", "spot"]) (sc := defScope T_law) (by decide +kernel)) (fun _ _ _ _ _ => (pg_name (i := 10) sc_law.nd rfl (by first | exact Or.inl rfl | exact Or.inr rfl))) (fun _ _ _ _ _ => pts_nil) (fun _ _ _ _ _ => (pe_fn f__law_pick hr (by omega) hgd pass0 (pa_cons (pv 2) (pa_cons (pv 3) pa_nil)))))
    (pss_one (ps_if (pt_not (pt_val (pe_fn f__law_right hr (by omega) hgd pass0 (pa_cons (pv 3) (pa_cons (pv 6) (pa_cons (pv 5) pa_nil)))))) (pss_one (ps_ret pe_bl)) pss_nil))))))))))))
    (pss_one (ps_ret pe_bl))))
end
def d_is_integer : He.DefD := ⟨("is_integer", none), "is_integer", "is_integer", defArgs T_is_integer, defBody T_is_integer, defScope T_is_integer, [], []⟩
def d_distance_of : He.DefD := ⟨("distance_of", none), "distance_of", "distance_of", defArgs T_distance_of, defBody T_distance_of, defScope T_distance_of, [], []⟩
def d__law_feed : He.DefD := ⟨("_law_feed", none), "_law_feed", "_law_feed", defArgs T__law_feed, defBody T__law_feed, defScope T__law_feed, [], []⟩
def d__law_pick : He.DefD := ⟨("_law_pick", none), "_law_pick", "_law_pick", defArgs T__law_pick, defBody T__law_pick, defScope T__law_pick, [], []⟩
def d__law_away : He.DefD := ⟨("_law_away", none), "_law_away", "_law_away", defArgs T__law_away, defBody T__law_away, defScope T__law_away, [], []⟩
def d__law_stops : He.DefD := ⟨("_law_stops", none), "_law_stops", "_law_stops", defArgs T__law_stops, defBody T__law_stops, defScope T__law_stops, [], []⟩
def d__law_all_sets : He.DefD := ⟨("_law_all_sets", none), "_law_all_sets", "_law_all_sets", defArgs T__law_all_sets, defBody T__law_all_sets, defScope T__law_all_sets, [], []⟩
def d__law_same : He.DefD := ⟨("_law_same", none), "_law_same", "_law_same", defArgs T__law_same, defBody T__law_same, defScope T__law_same, [], []⟩
def d__law_every : He.DefD := ⟨("_law_every", none), "_law_every", "_law_every", defArgs T__law_every, defBody T__law_every, defScope T__law_every, [], []⟩
def d_need_ring : He.DefD := ⟨("need_ring", none), "need_ring", "need_ring", defArgs T_need_ring, defBody T_need_ring, defScope T_need_ring, [], []⟩
def d_is_server : He.DefD := ⟨("is_server", none), "is_server", "is_server", defArgs T_is_server, defBody T_is_server, defScope T_is_server, [], []⟩
def d_passes : He.DefD := ⟨("passes", none), "passes", "passes", defArgs T_passes, defBody T_passes, defScope T_passes, [], []⟩
def d__law_reason : He.DefD := ⟨("_law_reason", none), "_law_reason", "_law_reason", defArgs T__law_reason, defBody T__law_reason, defScope T__law_reason, [], []⟩
def d_are_ends : He.DefD := ⟨("are_ends", none), "are_ends", "are_ends", defArgs T_are_ends, defBody T_are_ends, defScope T_are_ends, [], []⟩
def d_need_assignment : He.DefD := ⟨("need_assignment", none), "need_assignment", "need_assignment", defArgs T_need_assignment, defBody T_need_assignment, defScope T_need_assignment, [], []⟩
def d_reason : He.DefD := ⟨("reason", none), "reason", "reason", defArgs T_reason, defBody T_reason, defScope T_reason, [], []⟩
def d_possible : He.DefD := ⟨("possible", none), "possible", "possible", defArgs T_possible, defBody T_possible, defScope T_possible, [], []⟩
def d_drops_from : He.DefD := ⟨("drops_from", none), "drops_from", "drops_from", defArgs T_drops_from, defBody T_drops_from, defScope T_drops_from, [], []⟩
def d__law_told : He.DefD := ⟨("_law_told", none), "_law_told", "_law_told", defArgs T__law_told, defBody T__law_told, defScope T__law_told, [], []⟩
def d__law_right : He.DefD := ⟨("_law_right", none), "_law_right", "_law_right", defArgs T__law_right, defBody T__law_right, defScope T__law_right, [], []⟩
def d_law : He.DefD := ⟨("law", none), "law", "law", defArgs T_law, defBody T_law, defScope T_law, [], []⟩
def dI_Impossible : He.DefD := ⟨("Impossible", some "__init__"), "__init__", "Impossible.__init__", defArgs TI_Impossible, defBody TI_Impossible, defScope TI_Impossible, [], []⟩
def fn : List He.DefD := [d_is_integer, d_distance_of, d__law_feed, d__law_pick, d__law_away, d__law_stops, d__law_all_sets, d__law_same, d__law_every, d_need_ring, d_is_server, d_passes, d__law_reason, d_are_ends, d_need_assignment, d_reason, d_possible, d_drops_from, d__law_told, d__law_right, d_law, dI_Impossible]
def fa : List He.Fa := [.glo "is_integer", .glo "distance_of", .glo "_law_feed", .glo "_law_pick", .glo "_law_away", .glo "_law_stops", .glo "_law_all_sets", .glo "_law_same", .glo "_law_every", .glo "need_ring", .glo "is_server", .glo "passes", .glo "_law_reason", .glo "are_ends", .glo "need_assignment", .glo "reason", .glo "possible", .glo "drops_from", .glo "_law_told", .glo "_law_right", .glo "law", .free "abs", .free "all", .free "bool", .free "dict", .free "int", .free "isinstance", .free "len", .free "list", .free "max", .free "range", .free "repr", .free "set", .free "sorted", .free "str", .free "tuple", .free "zip", .str "ALL" "all", .int "LEAST_SERVERS" 2, .int "MOST_SERVERS" 60, .str "PASSED" "passed", .glo "Impossible", .glo "RingError"]
abbrev R : PySem.W.OpenRow := PySem.W.OpenLaw.row PySem.Challenge.rw_ringrestart_k13_assignments_of_small_rin
abbrev hk : PySem.W.Hook := Rr.hookS 4 fa fn exB
def ob (s : PySem.W.SharedT) : He.AlD := Rr.obS 4 fa fn exB (HandSHeadRun.getT s)
theorem ob_eq (s : PySem.W.SharedT) : ob s = hk.obs s.abs := Rr.obsS_eq (HandSHeadRun.getT_eq s)
def nm0 : List PySem.Str := ["RingError", "NoRing", "NoAssignment", "Impossible", "LEAST_SERVERS", "MOST_SERVERS", "is_integer", "need_ring", "is_server", "are_ends", "need_assignment", "distance_of", "PASSED", "ALL", "passes", "reason", "possible", "drops_from", "_law_feed", "_law_pick", "_law_shuffle", "_law_clock", "_law_batches", "_law_run", "_law_size", "_law_subset", "_law_away", "_law_stops", "_law_all_sets", "_law_reason"]
def nm1 : List PySem.Str := ["_law_same", "_law_told", "_law_right", "_law_every"]
def loose : List PySem.Str := nm0 ++ nm1
theorem run (w : World) : HandSHeadRun.RunEq R (PySem.W.view R.prog [38]) hk ob 2740 loose w := by
  intro os
  kernel_rfl
theorem facts {P : Program} {w : World} {K : PySem.W.Frag} {h : Heap} {mg : Str → Option Value} {a : Addr} (X : K.In h) (G : h.Ns mainGlobals mg) (hfa : mg ("law" : Str) = some (.ref a)) (c : He.SaysD fa fn K) (hK : exB K = true) :
    ∃ fd : FuncData, (∀ (s : Shared) (v : Value), BindsTo s fd ⟨[v], []⟩ [("script", v)]) ∧ ∀ base : Heap, K.In base → base.Ns mainGlobals mg → FnG P w K mg base CX0 9 a fd ["script"] (sp_law K) := by
  obtain ⟨fd_is_integer, F_is_integer⟩ := c.def_ 0 (d := d_is_integer) rfl
  have e_is_integer := He.glo_ok X G (c.fact 0 (f := .glo "is_integer") rfl)
  have b_is_integer := FunD.bindsN (ps := ["thing", "least", "most"]) F_is_integer fun _ _ _ _ _ _ us hl => match us, hl with | [_, _, _], _ => rfl
  obtain ⟨fd_distance_of, F_distance_of⟩ := c.def_ 1 (d := d_distance_of) rfl
  have e_distance_of := He.glo_ok X G (c.fact 1 (f := .glo "distance_of") rfl)
  have b_distance_of := FunD.bindsN (ps := ["n", "i", "j"]) F_distance_of fun _ _ _ _ _ _ us hl => match us, hl with | [_, _, _], _ => rfl
  obtain ⟨fd__law_feed, F__law_feed⟩ := c.def_ 2 (d := d__law_feed) rfl
  have e__law_feed := He.glo_ok X G (c.fact 2 (f := .glo "_law_feed") rfl)
  have b__law_feed := FunD.bindsN (ps := ["script", "k"]) F__law_feed fun _ _ _ _ _ _ us hl => match us, hl with | [_, _], _ => rfl
  obtain ⟨fd__law_pick, F__law_pick⟩ := c.def_ 3 (d := d__law_pick) rfl
  have e__law_pick := He.glo_ok X G (c.fact 3 (f := .glo "_law_pick") rfl)
  have b__law_pick := FunD.bindsN (ps := ["feed", "wide"]) F__law_pick fun _ _ _ _ _ _ us hl => match us, hl with | [_, _], _ => rfl
  obtain ⟨fd__law_away, F__law_away⟩ := c.def_ 4 (d := d__law_away) rfl
  have e__law_away := He.glo_ok X G (c.fact 4 (f := .glo "_law_away") rfl)
  have b__law_away := FunD.bindsN (ps := ["size", "here", "there"]) F__law_away fun _ _ _ _ _ _ us hl => match us, hl with | [_, _, _], _ => rfl
  obtain ⟨fd__law_stops, F__law_stops⟩ := c.def_ 5 (d := d__law_stops) rfl
  have e__law_stops := He.glo_ok X G (c.fact 5 (f := .glo "_law_stops") rfl)
  have b__law_stops := FunD.bindsN (ps := ["size", "falls"]) F__law_stops fun _ _ _ _ _ _ us hl => match us, hl with | [_, _], _ => rfl
  obtain ⟨fd__law_all_sets, F__law_all_sets⟩ := c.def_ 6 (d := d__law_all_sets) rfl
  have e__law_all_sets := He.glo_ok X G (c.fact 6 (f := .glo "_law_all_sets") rfl)
  have b__law_all_sets := FunD.bindsN (ps := ["size"]) F__law_all_sets fun _ _ _ _ _ _ us hl => match us, hl with | [_], _ => rfl
  obtain ⟨fd__law_same, F__law_same⟩ := c.def_ 7 (d := d__law_same) rfl
  have e__law_same := He.glo_ok X G (c.fact 7 (f := .glo "_law_same") rfl)
  have b__law_same := FunD.bindsN (ps := ["found", "due"]) F__law_same fun _ _ _ _ _ _ us hl => match us, hl with | [_, _], _ => rfl
  obtain ⟨fd__law_every, F__law_every⟩ := c.def_ 8 (d := d__law_every) rfl
  have e__law_every := He.glo_ok X G (c.fact 8 (f := .glo "_law_every") rfl)
  have b__law_every := FunD.bindsN (ps := ["size"]) F__law_every fun _ _ _ _ _ _ us hl => match us, hl with | [_], _ => rfl
  obtain ⟨fd_need_ring, F_need_ring⟩ := c.def_ 9 (d := d_need_ring) rfl
  have e_need_ring := He.glo_ok X G (c.fact 9 (f := .glo "need_ring") rfl)
  have b_need_ring := FunD.bindsN (ps := ["n"]) F_need_ring fun _ _ _ _ _ _ us hl => match us, hl with | [_], _ => rfl
  obtain ⟨fd_is_server, F_is_server⟩ := c.def_ 10 (d := d_is_server) rfl
  have e_is_server := He.glo_ok X G (c.fact 10 (f := .glo "is_server") rfl)
  have b_is_server := FunD.bindsN (ps := ["n", "thing"]) F_is_server fun _ _ _ _ _ _ us hl => match us, hl with | [_, _], _ => rfl
  obtain ⟨fd_passes, F_passes⟩ := c.def_ 11 (d := d_passes) rfl
  have e_passes := He.glo_ok X G (c.fact 11 (f := .glo "passes") rfl)
  have b_passes := FunD.bindsN (ps := ["n", "assignment", "i", "k"]) F_passes fun _ _ _ _ _ _ us hl => match us, hl with | [_, _, _, _], _ => rfl
  obtain ⟨fd__law_reason, F__law_reason⟩ := c.def_ 12 (d := d__law_reason) rfl
  have e__law_reason := He.glo_ok X G (c.fact 12 (f := .glo "_law_reason") rfl)
  have b__law_reason := FunD.bindsN (ps := ["size", "stops"]) F__law_reason fun _ _ _ _ _ _ us hl => match us, hl with | [_, _], _ => rfl
  obtain ⟨fd_are_ends, F_are_ends⟩ := c.def_ 13 (d := d_are_ends) rfl
  have e_are_ends := He.glo_ok X G (c.fact 13 (f := .glo "are_ends") rfl)
  have b_are_ends := FunD.bindsN (ps := ["n", "thing"]) F_are_ends fun _ _ _ _ _ _ us hl => match us, hl with | [_, _], _ => rfl
  obtain ⟨fd_need_assignment, F_need_assignment⟩ := c.def_ 14 (d := d_need_assignment) rfl
  have e_need_assignment := He.glo_ok X G (c.fact 14 (f := .glo "need_assignment") rfl)
  have b_need_assignment := FunD.bindsN (ps := ["n", "assignment"]) F_need_assignment fun _ _ _ _ _ _ us hl => match us, hl with | [_, _], _ => rfl
  obtain ⟨fd_reason, F_reason⟩ := c.def_ 15 (d := d_reason) rfl
  have e_reason := He.glo_ok X G (c.fact 15 (f := .glo "reason") rfl)
  have b_reason := FunD.bindsN (ps := ["n", "assignment"]) F_reason fun _ _ _ _ _ _ us hl => match us, hl with | [_, _], _ => rfl
  obtain ⟨fd_possible, F_possible⟩ := c.def_ 16 (d := d_possible) rfl
  have e_possible := He.glo_ok X G (c.fact 16 (f := .glo "possible") rfl)
  have b_possible := FunD.bindsN (ps := ["n", "assignment"]) F_possible fun _ _ _ _ _ _ us hl => match us, hl with | [_, _], _ => rfl
  obtain ⟨fd_drops_from, F_drops_from⟩ := c.def_ 17 (d := d_drops_from) rfl
  have e_drops_from := He.glo_ok X G (c.fact 17 (f := .glo "drops_from") rfl)
  have b_drops_from := FunD.bindsN (ps := ["n", "assignment"]) F_drops_from fun _ _ _ _ _ _ us hl => match us, hl with | [_, _], _ => rfl
  obtain ⟨fd__law_told, F__law_told⟩ := c.def_ 18 (d := d__law_told) rfl
  have e__law_told := He.glo_ok X G (c.fact 18 (f := .glo "_law_told") rfl)
  have b__law_told := FunD.bindsN (ps := ["size", "stops", "named"]) F__law_told fun _ _ _ _ _ _ us hl => match us, hl with | [_, _, _], _ => rfl
  obtain ⟨fd__law_right, F__law_right⟩ := c.def_ 19 (d := d__law_right) rfl
  have e__law_right := He.glo_ok X G (c.fact 19 (f := .glo "_law_right") rfl)
  have b__law_right := FunD.bindsN (ps := ["size", "stops", "known"]) F__law_right fun _ _ _ _ _ _ us hl => match us, hl with | [_, _, _], _ => rfl
  obtain ⟨fd_law, F_law⟩ := c.def_ 20 (d := d_law) rfl
  have e_law := He.glo_ok X G (c.fact 20 (f := .glo "law") rfl)
  have b_law := FunD.bindsN (ps := ["script"]) F_law fun _ _ _ _ _ _ us hl => match us, hl with | [_], _ => rfl
  have m_abs := He.free_ok X G (c.fact 21 (f := .free "abs") rfl)
  have m_all := He.free_ok X G (c.fact 22 (f := .free "all") rfl)
  have m_bool := He.free_ok X G (c.fact 23 (f := .free "bool") rfl)
  have m_dict := He.free_ok X G (c.fact 24 (f := .free "dict") rfl)
  have m_int := He.free_ok X G (c.fact 25 (f := .free "int") rfl)
  have m_isinstance := He.free_ok X G (c.fact 26 (f := .free "isinstance") rfl)
  have m_len := He.free_ok X G (c.fact 27 (f := .free "len") rfl)
  have m_list := He.free_ok X G (c.fact 28 (f := .free "list") rfl)
  have m_max := He.free_ok X G (c.fact 29 (f := .free "max") rfl)
  have m_range := He.free_ok X G (c.fact 30 (f := .free "range") rfl)
  have m_repr := He.free_ok X G (c.fact 31 (f := .free "repr") rfl)
  have m_set := He.free_ok X G (c.fact 32 (f := .free "set") rfl)
  have m_sorted := He.free_ok X G (c.fact 33 (f := .free "sorted") rfl)
  have m_str := He.free_ok X G (c.fact 34 (f := .free "str") rfl)
  have m_tuple := He.free_ok X G (c.fact 35 (f := .free "tuple") rfl)
  have m_zip := He.free_ok X G (c.fact 36 (f := .free "zip") rfl)
  have g_Impossible := He.glo_ok X G (c.fact 41 (f := .glo "Impossible") rfl)
  have g_RingError := He.glo_ok X G (c.fact 42 (f := .glo "RingError") rfl)
  obtain ⟨t_ALL, g_ALL⟩ := He.str_ok X G (c.fact 37 (f := .str "ALL" "all") rfl)
  obtain ⟨t_LEAST_SERVERS, g_LEAST_SERVERS⟩ := He.int_ok X G (c.fact 38 (f := .int "LEAST_SERVERS" 2) rfl)
  obtain ⟨t_MOST_SERVERS, g_MOST_SERVERS⟩ := He.int_ok X G (c.fact 39 (f := .int "MOST_SERVERS" 60) rfl)
  obtain ⟨t_PASSED, g_PASSED⟩ := He.str_ok X G (c.fact 40 (f := .str "PASSED" "passed") rfl)
  obtain ⟨fdI_Impossible, FI_Impossible⟩ := c.def_ 21 (d := dI_Impossible) rfl
  have bI_Impossible := FunD.bindsN (ps := ["self", "reason"]) FI_Impossible fun _ _ _ _ _ _ us hl => match us, hl with | [_, _], _ => rfl
  have ea := hfa.symm.trans e_law
  cases ea
  have b := FunD.bindsA (ps := ["script"]) F_law fun _ _ _ _ _ _ us hl => match us, hl with | [_], _ => rfl
  refine ⟨fd_law, fun s v => b s [v] rfl, fun base _ _ => ?_⟩
  have o_Impossible : Rr.OexF P w K mg base 1 "Impossible" "reason" := Rr.oexF_of (m := "this cannot occur") (K_ini_Impossible hK) g_Impossible FI_Impossible scI_Impossible bI_Impossible fun cdv A outer s H E hr hgd => pss_cons (ps_expr (Rr.pe_ownInit (by rfl) g_RingError (by decide +kernel) (K_ini_Impossible hK).ga (K_ini_Impossible hK).rd (K_ini_Impossible hK).vV (pa_cons (pv 0) (pa_cons pe_str pa_nil)))) (pss_one (ps_ost (pv 0) (pv 1)))
  have f_is_integer : Fn P w K mg base CX0 1 "is_integer" ["thing", "least", "most"] (sp_is_integer K) := ⟨_, fd_is_integer, ok_is_integer F_is_integer m_bool m_int m_isinstance, e_is_integer, F_is_integer.kp, b_is_integer⟩
  have f_distance_of : Fn P w K mg base CX0 1 "distance_of" ["n", "i", "j"] (sp_distance_of K) := ⟨_, fd_distance_of, ok_distance_of F_distance_of , e_distance_of, F_distance_of.kp, b_distance_of⟩
  have f__law_feed : Fn P w K mg base CX0 1 "_law_feed" ["script", "k"] (sp__law_feed K) := ⟨_, fd__law_feed, ok__law_feed F__law_feed m_abs m_len m_max, e__law_feed, F__law_feed.kp, b__law_feed⟩
  have f__law_pick : Fn P w K mg base CX0 1 "_law_pick" ["feed", "wide"] (sp__law_pick K) := ⟨_, fd__law_pick, ok__law_pick F__law_pick , e__law_pick, F__law_pick.kp, b__law_pick⟩
  have f__law_away : Fn P w K mg base CX0 1 "_law_away" ["size", "here", "there"] (sp__law_away K) := ⟨_, fd__law_away, ok__law_away F__law_away , e__law_away, F__law_away.kp, b__law_away⟩
  have f__law_stops : Fn P w K mg base CX0 1 "_law_stops" ["size", "falls"] (sp__law_stops K) := ⟨_, fd__law_stops, ok__law_stops F__law_stops m_range, e__law_stops, F__law_stops.kp, b__law_stops⟩
  have f__law_all_sets : Fn P w K mg base CX0 1 "_law_all_sets" ["size"] (sp__law_all_sets K) := ⟨_, fd__law_all_sets, ok__law_all_sets F__law_all_sets m_len m_range m_sorted, e__law_all_sets, F__law_all_sets.kp, b__law_all_sets⟩
  have f__law_same : Fn P w K mg base CX0 4 "_law_same" ["found", "due"] (sp__law_same K 4) := ⟨_, fd__law_same, ok__law_same F__law_same m_all m_bool m_dict m_isinstance m_len m_list m_str m_tuple m_zip e__law_same b__law_same 4, e__law_same, F__law_same.kp, b__law_same⟩
  have f__law_every : Fn P w K mg base CX0 1 "_law_every" ["size"] (sp__law_every K) := ⟨_, fd__law_every, ok__law_every F__law_every m_range, e__law_every, F__law_every.kp, b__law_every⟩
  have f_need_ring : Fn P w K mg base CX0 2 "need_ring" ["n"] (sp_need_ring K) := ⟨_, fd_need_ring, ok_need_ring F_need_ring f_is_integer g_LEAST_SERVERS g_MOST_SERVERS, e_need_ring, F_need_ring.kp, b_need_ring⟩
  have f_is_server : Fn P w K mg base CX0 2 "is_server" ["n", "thing"] (sp_is_server K) := ⟨_, fd_is_server, ok_is_server F_is_server f_is_integer, e_is_server, F_is_server.kp, b_is_server⟩
  have f_passes : Fn P w K mg base CX0 2 "passes" ["n", "assignment", "i", "k"] (sp_passes K) := ⟨_, fd_passes, ok_passes F_passes f_distance_of, e_passes, F_passes.kp, b_passes⟩
  have f__law_reason : Fn P w K mg base CX0 2 "_law_reason" ["size", "stops"] (sp__law_reason K) := ⟨_, fd__law_reason, ok__law_reason F__law_reason f__law_away m_len m_range m_set, e__law_reason, F__law_reason.kp, b__law_reason⟩
  have f_are_ends : Fn P w K mg base CX0 3 "are_ends" ["n", "thing"] (sp_are_ends K) := ⟨_, fd_are_ends, ok_are_ends F_are_ends f_is_server m_all m_isinstance m_len m_list, e_are_ends, F_are_ends.kp, b_are_ends⟩
  have f_need_assignment : Fn P w K mg base CX0 4 "need_assignment" ["n", "assignment"] (sp_need_assignment K) := ⟨_, fd_need_assignment, ok_need_assignment F_need_assignment f_are_ends, e_need_assignment, F_need_assignment.kp, b_need_assignment⟩
  have f_reason : Fn P w K mg base CX0 5 "reason" ["n", "assignment"] (sp_reason K) := ⟨_, fd_reason, ok_reason F_reason f_need_assignment f_need_ring f_passes m_len m_range m_set g_ALL g_PASSED, e_reason, F_reason.kp, b_reason⟩
  have k_reason_assignment_n : Fnk P w K mg base CX0 5 "reason" ["n", "assignment"] (sp_reason K) ["assignment", "n"] (Rr.perm [1, 0]) (Rr.perm [1, 0]) := ⟨_, fd_reason, ok_reason F_reason f_need_assignment f_need_ring f_passes m_len m_range m_set g_ALL g_PASSED, e_reason, F_reason.kp, fun s ws _ hl => bindsK (ks := ["assignment", "n"]) (g := (Rr.perm [1, 0])) F_reason (fun _ _ _ _ _ _ ws hl => match ws, hl with | [_, _], _ => rfl) s ws hl, fun r => vals_perm r _⟩
  have f_possible : Fn P w K mg base CX0 6 "possible" ["n", "assignment"] (sp_possible K) := ⟨_, fd_possible, ok_possible F_possible f_reason, e_possible, F_possible.kp, b_possible⟩
  have k_possible_assignment_n : Fnk P w K mg base CX0 6 "possible" ["n", "assignment"] (sp_possible K) ["assignment", "n"] (Rr.perm [1, 0]) (Rr.perm [1, 0]) := ⟨_, fd_possible, ok_possible F_possible f_reason, e_possible, F_possible.kp, fun s ws _ hl => bindsK (ks := ["assignment", "n"]) (g := (Rr.perm [1, 0])) F_possible (fun _ _ _ _ _ _ ws hl => match ws, hl with | [_, _], _ => rfl) s ws hl, fun r => vals_perm r _⟩
  have f_drops_from : Fn P w K mg base (L2.CX P w) 6 "drops_from" ["n", "assignment"] (sp_drops_from K) := ⟨_, fd_drops_from, ok_drops_from F_drops_from f_reason m_set m_sorted o_Impossible, e_drops_from, F_drops_from.kp, b_drops_from⟩
  have k_drops_from_assignment_n : Fnk P w K mg base (L2.CX P w) 6 "drops_from" ["n", "assignment"] (sp_drops_from K) ["assignment", "n"] (Rr.perm [1, 0]) (Rr.perm [1, 0]) := ⟨_, fd_drops_from, ok_drops_from F_drops_from f_reason m_set m_sorted o_Impossible, e_drops_from, F_drops_from.kp, fun s ws _ hl => bindsK (ks := ["assignment", "n"]) (g := (Rr.perm [1, 0])) F_drops_from (fun _ _ _ _ _ _ ws hl => match ws, hl with | [_, _], _ => rfl) s ws hl, fun r => vals_perm r _⟩
  have f__law_told : Fn P w K mg base CX0 7 "_law_told" ["size", "stops", "named"] (sp__law_told K) := ⟨_, fd__law_told, ok__law_told F__law_told f_drops_from k_drops_from_assignment_n g_Impossible hK, e__law_told, F__law_told.kp, b__law_told⟩
  have f__law_right : Fn P w K mg base CX0 8 "_law_right" ["size", "stops", "known"] (sp__law_right K) := ⟨_, fd__law_right, ok__law_right F__law_right f__law_reason f__law_same f__law_told f_possible f_reason k_possible_assignment_n k_reason_assignment_n m_repr m_tuple, e__law_right, F__law_right.kp, b__law_right⟩
  exact ok_law F_law f__law_all_sets f__law_every f__law_feed f__law_pick f__law_right f__law_stops m_dict m_len m_list m_range m_sorted m_tuple
end K13
open PySem PySem.W PySem.Calls PyProof.Rows
theorem PySem.Challenge.cw_ringrestart_k13_assignments_of_small_rin_holds : PySem.Challenge.rw_ringrestart_k13_assignments_of_small_rin.Holds := by
  w_on; o_law
  refine HandSHeadRun.head_any (r := OpenLaw.row PySem.Challenge.rw_ringrestart_k13_assignments_of_small_rin) (q := view (OpenLaw.row PySem.Challenge.rw_ringrestart_k13_assignments_of_small_rin).prog [38]) (H := K13.hk) (ob := K13.ob) (M := 2740) (loose := K13.loose) (d := HandSHeadRun.topDef (OpenLaw.row PySem.Challenge.rw_ringrestart_k13_assignments_of_small_rin).prog 38) (kwd := []) K13.ob_eq
    (by kernel_rfl) (fun s => by kernel_rfl) K13.run (by kernel_rfl) (by kernel_rfl) (by kernel_rfl) (by rfl) (by first | assumption | decide +kernel) (by decide +kernel) ⟨rfl, rfl, rfl, rfl, rfl, by decide +kernel⟩ ?hw ?hc
  case hw => w_witness2
  case hc =>
    refine Rr.walk_g (l := PySem.Challenge.rw_ringrestart_k13_assignments_of_small_rin) (n := 63) (k := 9) (x := "script") (CX := L2.CX0) rfl (by decide) (by kernel_rfl) ⟨rfl, by decide, by decide⟩ ?F (fun _ _ _ _ z => z)
    intro w mg fa h Y G hmg0
    obtain ⟨K, KX, c, hK⟩ := Y
    have hmg : mg ("law" : PySem.Str) = some (.ref fa) := by
      have e : (HandSHeadRun.topDef (OpenLaw.row PySem.Challenge.rw_ringrestart_k13_assignments_of_small_rin).prog 38).name = ("law" : PySem.Str) := by kernel_rfl
      rw [← e]
      exact hmg0
    obtain ⟨fd, hb, hF⟩ := K13.facts (P := (PySem.Challenge.rw_ringrestart_k13_assignments_of_small_rin).prog) (w := w) KX G hmg c hK
    exact ⟨K, fd, K13.sp_law K, KX, hb, fun H a ns hl hS _ => Rr.spc_law (E := fun _ _ _ => False) (fun _ _ _ h => h.1) H a ns hl hS, hF⟩
