import PyProof.Rows.All
import Wide.All
import OpenK.AllK
import Wide.FinOn
import HandS.ForMost
import HandS.ForExc
import HandS.Defaults
import HandS.Head2
import HandS.HeadEnd
import HandS.HeadHook4
import HandS.Walk
import HandS.Zip
import HandS.Deep
import HandS.Conv
import HandS.TupAny
import HandS.CallSlots
import HandS.TryOnly
import HandS.IsInst
import KE.GoesMore
import HandS.SortRule
import HandS.SortInts
import HandS.TupSets
import HandS.TupLe
import HandS.ExcValue
import HandS.ExcIs
import PyProof.Rows.CountFlat
import KE.DatumOrd
import KE.SortData
import HandS.SortKw
import HandS.Flt
import HandS.CallLocal
import HandS.TupMul
import HandS.Small
import HandS.Sort
import KE.KDictList
import HandS.DictComp
import KE.GoesEnum
import HandS.Style
import KE.KRevSl
import PyProof.SeqIndex
import HandS.FStr
import HandS.Text
import HandS.Codes
import KE.KDictKeyed
import KE.KDictPairs
import KE.KDictWalk
import KE.KDictDisplayH
import KE.KDictCopyH
import KE.KStateDown
import Lean
import HandS.Head0
import HandS.Head1
import HandS.HeadHook1
import HandS.HeadHook2
import PySem.Challenge.RW_drawbooks_k20_whole_names
set_option Elab.async false
set_option linter.all false
set_option maxRecDepth 100000
set_option maxHeartbeats 2000000
/-! DLa: data over the hand layer: slots by what they hold, expressions by what data they give. -/
namespace DL
open PySem PySem.Spec PyProof.Rows L2

abbrev D := PyData

/-! ### heaps, the hidden part -/
def Ex (H H' : Hp) : Prop := ∀ a o, H a = some o → H' a = some o
theorem Ex.refl (H : Hp) : Ex H H := fun _ _ h => h
theorem Ex.trans {H H1 H2 : Hp} (a : Ex H H1) (b : Ex H1 H2) : Ex H H2 := fun x o h => b x o (a x o h)
theorem Ex.new {H : Hp} {p : Addr} {o : HO} (h : H p = none) : Ex H (upd H p o) := fun a u e => by
  rw [upd_ne (ne_of_none e h)]; exact e
theorem Ex.none {H H' : Hp} {p : Addr} (e : Ex H H') (h : H' p = none) : H p = none := by
  cases h1 : H p with
  | none => rfl
  | some o => rw [e p o h1] at h; cases h
def hide (L : List Addr) (H : Hp) : Hp := fun a => if a ∈ L then none else H a
theorem hide_in {L : List Addr} {H : Hp} {a : Addr} (h : a ∈ L) : hide L H a = none := if_pos h
theorem hide_out {L : List Addr} {H : Hp} {a : Addr} (h : a ∉ L) : hide L H a = H a := if_neg h
theorem hide_some {L : List Addr} {H : Hp} {a : Addr} {o : HO} (h : hide L H a = some o) : a ∉ L ∧ H a = some o := by
  by_cases c : a ∈ L
  · rw [hide_in c] at h; cases h
  · exact ⟨c, by rw [hide_out c] at h; exact h⟩
theorem hide_ex (L : List Addr) (H : Hp) : Ex (hide L H) H := fun _ _ h => (hide_some h).2
theorem hide_mono {L L' : List Addr} {H : Hp} (s : ∀ a, a ∈ L' → a ∈ L) : Ex (hide L H) (hide L' H) := fun a o h => by
  obtain ⟨h1, h2⟩ := hide_some h
  rw [hide_out (fun z => h1 (s a z))]; exact h2
/-- what is not in O is kept -/
def Gw (O : List Addr) (H H' : Hp) : Prop := ∀ a o, a ∉ O → H a = some o → H' a = some o
theorem Gw.refl (O : List Addr) (H : Hp) : Gw O H H := fun _ _ _ h => h
theorem Gw.trans {O : List Addr} {H H1 H2 : Hp} (a : Gw O H H1) (b : Gw O H1 H2) : Gw O H H2 := fun x o n h => b x o n (a x o n h)
theorem Gw.of {O : List Addr} {H H' : Hp} (e : Ex H H') : Gw O H H' := fun a o _ h => e a o h
theorem Gw.hide {L O : List Addr} {H H' : Hp} (g : Gw O H H') (s : ∀ a, a ∈ O → a ∈ L) : Ex (hide L H) (hide L H') := fun a o h => by
  obtain ⟨h1, h2⟩ := hide_some h
  rw [hide_out h1]; exact g a o (fun z => h1 (s a z)) h2
theorem Ex.hide {L : List Addr} {H H' : Hp} (g : Ex H H') : Ex (hide L H) (hide L H') := Gw.hide (O := []) (Gw.of g) (fun _ z => nomatch z)
def Dom (L : List Addr) (H : Hp) : Prop := ∀ a ∈ L, H a ≠ none
theorem Dom.ex {L : List Addr} {H H' : Hp} (d : Dom L H) (e : Ex H H') : Dom L H' := fun a h z => by
  cases q : H a with
  | none => exact d a h q
  | some o => rw [e a o q] at z; cases z
theorem Dom.fresh {L : List Addr} {H : Hp} {p : Addr} (d : Dom L H) (h : H p = none) : p ∉ L := fun z => d p z h

/-! ### data under growth -/
theorem sq_ex {K : PySem.W.Frag} {H H' : Hp} {a : Addr} {xs : List V} (e : Ex H H') (h : SqL K H a xs) : SqL K H' a xs := by
  rcases h with (h | ⟨o, h⟩) | h
  · exact .inl (.inl (e _ _ h))
  · exact .inl (.inr ⟨o, e _ _ h⟩)
  · exact .inr h
theorem st_ex {K : PySem.W.Frag} {H H' : Hp} {a : Addr} {xs : List V} (e : Ex H H') (h : SqT K H a xs) : SqT K H' a xs := by
  rcases h with (h | ⟨o, h⟩) | h
  · exact .inl (.inl (e _ _ h))
  · exact .inl (.inr ⟨o, e _ _ h⟩)
  · exact .inr h
/-! ### data: the library's, and dicts that are never changed (their object is known) -/
/-- the hash of a tuple of ints -/
def hashT (ns : List Int) : Int := reduceHash (Builtin.Tuple.tupleHashOf (ns.map hashInt))
/-- o is a dict of these keys and values -/
structure DcO (a : Addr) (o : Obj) (es : Array DictEntry) (ep : Nat) (ks vs : List V) (kds : List PyData) : Prop where
  sm : (a == sysModules) = false
  ex : o.ExactDict
  dt : o.data = .dict es ep
  rk : Vals ks (es.toList.map (·.key))
  rv : Vals vs (es.toList.map (·.val))
  sz : es.size ≤ sizeLine
  hs : ∀ (i : Nat) (e : DictEntry) (ns : List Int), es.toList[i]? = some e → kds[i]? = some (.tuple (ns.map PyData.int)) → e.hash = hashT ns
abbrev anyO : HO := .ext fun _ => True
mutual
inductive Dp (K : PySem.W.Frag) (H : Hp) : V → PyData → Prop
  | non : Dp K H .non .none
  | bl (b : Bool) : Dp K H (.bl b) (.bool b)
  | int (i : Int) : Dp K H (.int i) (.int i)
  | str (x : Str) : Dp K H (.str x) (.str x)
  | lst {a : Addr} {xs : List V} {ds : List PyData} : SqL K H a xs → DpAll K H xs ds → Dp K H (.ref a) (.list ds)
  | tup {a : Addr} {xs : List V} {ds : List PyData} : SqT K H a xs → DpAll K H xs ds → Dp K H (.ref a) (.tuple ds)
  | dic {a : Addr} {o : Obj} {es : Array DictEntry} {ep : Nat} {ks vs : List V} {kvs : List (PyData × PyData)} : H a = some (.frz o anyO) → DcO a o es ep ks vs (kvs.map (·.1)) → DpAll K H ks (kvs.map (·.1)) → DpAll K H vs (kvs.map (·.2)) → Dp K H (.ref a) (.dict kvs)
inductive DpAll (K : PySem.W.Frag) (H : Hp) : List V → List PyData → Prop
  | nil : DpAll K H [] []
  | cons {v : V} {vs : List V} {d : PyData} {ds : List PyData} : Dp K H v d → DpAll K H vs ds → DpAll K H (v :: vs) (d :: ds)
end
mutual
theorem Dp.ex {K : PySem.W.Frag} {H H' : Hp} (e : Ex H H') : ∀ {v : V} {d : PyData}, Dp K H v d → Dp K H' v d
  | _, _, .non => .non
  | _, _, .bl _ => .bl _
  | _, _, .int _ => .int _
  | _, _, .str _ => .str _
  | _, _, .lst s a => .lst (sq_ex e s) (DpAll.ex e a)
  | _, _, .tup s a => .tup (st_ex e s) (DpAll.ex e a)
  | _, _, .dic f c a b => .dic (e _ _ f) c (DpAll.ex e a) (DpAll.ex e b)
theorem DpAll.ex {K : PySem.W.Frag} {H H' : Hp} (e : Ex H H') : ∀ {vs : List V} {ds : List PyData}, DpAll K H vs ds → DpAll K H' vs ds
  | _, _, .nil => .nil
  | _, _, .cons h1 h2 => .cons (Dp.ex e h1) (DpAll.ex e h2)
end
mutual
theorem Dp.reads {X : Cx} {pins : List (Addr × Obj)} {σ : L2.St} {H : Hp} {s : Shared} (I : Inv X pins σ H s) : ∀ (d : PyData) (v : V) (u : Value), Dp X.K H v d → RelV v u → ∃ as, Reads s.heap u d as
  | _, _, _, .non, r => by cases r; exact ⟨_, Reads.none⟩
  | _, _, _, .bl b, r => by cases r; exact ⟨_, Reads.bool b⟩
  | _, _, _, .int i, r => by obtain ⟨t, rfl⟩ := r; exact ⟨_, Reads.int i t⟩
  | _, _, _, .str x, r => by obtain ⟨t, rfl⟩ := r; exact ⟨_, Reads.str x t⟩
  | _, _, _, .lst hs ha, r => by
    cases r
    obtain ⟨its, rv, ⟨o, n, ho, hc, _, hd⟩, _⟩ := I.list hs
    obtain ⟨as, hr⟩ := Dp.readsAll I _ _ its ha rv
    exact ⟨_, Reads.list ho hc hd hr⟩
  | _, _, _, .tup hs ha, r => by
    cases r
    obtain ⟨its, rv, ⟨o, ho, hc, n, hd⟩, _⟩ := I.tuple hs
    obtain ⟨as, hr⟩ := Dp.readsAll I _ _ its ha rv
    exact ⟨_, Reads.tuple ho hc hd hr⟩
  | _, _, _, .dic hf hc ha hb, r => by
    cases r
    obtain ⟨ho, _⟩ := I.hok _ _ hf
    obtain ⟨as, h1⟩ := Dp.readsAll I _ _ _ ha hc.rk
    obtain ⟨bs, h2⟩ := Dp.readsAll I _ _ _ hb hc.rv
    exact ⟨_, Reads.dict ho hc.ex.1 hc.dt h1 h2⟩
theorem Dp.readsAll {X : Cx} {pins : List (Addr × Obj)} {σ : L2.St} {H : Hp} {s : Shared} (I : Inv X pins σ H s) : ∀ (ds : List PyData) (vs : List V) (us : List Value), DpAll X.K H vs ds → Vals vs us → ∃ as, ReadsAll s.heap us ds as
  | _, _, _, .nil, r => by cases r; exact ⟨_, .nil⟩
  | _, _, _, .cons h1 h2, r => by
    cases r with
    | cons r1 r2 =>
      obtain ⟨as, q1⟩ := Dp.reads I _ _ _ h1 r1
      obtain ⟨bs, q2⟩ := Dp.readsAll I _ _ _ h2 r2
      exact ⟨_, .cons q1 q2⟩
end
mutual
theorem Dp.lib {K : PySem.W.Frag} {H : Hp} : ∀ {v : V} {d : PyData}, Dp K H v d → d.canLay0 = true → L2.Dp K H v d
  | _, _, .non, _ => .non
  | _, _, .bl _, _ => .bl _
  | _, _, .int _, _ => .int _
  | _, _, .str _, _ => .str _
  | _, _, .lst s a, c => .lst s (DpAll.lib a (by simpa [PyData.canLay0] using c))
  | _, _, .tup s a, c => .tup s (DpAll.lib a (by simpa [PyData.canLay0] using c))
  | _, _, .dic _ _ _ _, c => by simp [PyData.canLay0] at c
theorem DpAll.lib {K : PySem.W.Frag} {H : Hp} : ∀ {vs : List V} {ds : List PyData}, DpAll K H vs ds → PyData.canLayAll0 ds = true → L2.DpAll K H vs ds
  | _, _, .nil, _ => .nil
  | _, _, .cons h1 h2, c => by
    rw [PyData.canLayAll0, Bool.and_eq_true] at c
    exact .cons (Dp.lib h1 c.1) (DpAll.lib h2 c.2)
end
/-- the library's own readings, over this data -/
def rEqD (K : PySem.W.Frag) : R2 := fun x y H Q => ∃ d e, Dp K H x d ∧ Dp K H y e ∧ SeqAt.shaped d = true ∧ SeqAt.shaped e = true ∧ Q (.bl (PyData.eqv d e)) H
def rNeD (K : PySem.W.Frag) : R2 := fun x y H Q => ∃ d e, Dp K H x d ∧ Dp K H y e ∧ SeqAt.shaped d = true ∧ SeqAt.shaped e = true ∧ Q (.bl (!PyData.eqv d e)) H
def rInD (K : PySem.W.Frag) : R2 := fun x y H Q => ∃ d ds, Dp K H x d ∧ Dp K H y (.list ds) ∧ SeqAt.shaped d = true ∧ SeqAt.shaped (.list ds) = true ∧ Q (.bl (ds.any fun z => PyData.eqv z d)) H
def rNotInD (K : PySem.W.Frag) : R2 := fun x y H Q => ∃ d ds, Dp K H x d ∧ Dp K H y (.list ds) ∧ SeqAt.shaped d = true ∧ SeqAt.shaped (.list ds) = true ∧ Q (.bl (!ds.any fun z => PyData.eqv z d)) H
def rIndexD (K : PySem.W.Frag) : V → List V → Hp → VK → Prop := fun x xs H Q => ∃ (a : Addr) (y : V) (d : PyData) (ds : List PyData) (j : Nat) (z : PyData), x = V.ref a ∧ xs = [y] ∧ Dp K H (V.ref a) (.list ds) ∧ Dp K H y d ∧
  SeqAt.shaped (.list ds) = true ∧ SeqAt.shaped d = true ∧ ds[j]? = some z ∧ PyData.eqv z d = true ∧ (∀ (m : Nat) (z' : PyData), m < j → ds[m]? = some z' → PyData.eqv z' d = false) ∧ Q (.int (j : Nat)) H
section
variable {X : Cx}
theorem op_eqD (hu : X.A.units + 64 < cLine) : OpR X (compareOp .Eq) (rEqD X.K) := fun pins s σ H x y v u Q I rx ry h =>
  L2.op_eqD hu pins s σ H x y v u Q I rx ry (let ⟨d, e, hd, he, sd, se, q⟩ := h; ⟨d, e, hd.lib (SeqAt.canLay_of_shaped sd), he.lib (SeqAt.canLay_of_shaped se), sd, se, q⟩)
theorem op_neD (hu : X.A.units + 64 < cLine) : OpR X (compareOp .NotEq) (rNeD X.K) := fun pins s σ H x y v u Q I rx ry h =>
  L2.op_neD hu pins s σ H x y v u Q I rx ry (let ⟨d, e, hd, he, sd, se, q⟩ := h; ⟨d, e, hd.lib (SeqAt.canLay_of_shaped sd), he.lib (SeqAt.canLay_of_shaped se), sd, se, q⟩)
theorem op_inD (hu : X.A.units + 65 < cLine) : OpR X (compareOp .In) (rInD X.K) := fun pins s σ H x y v u Q I rx ry h =>
  L2.op_inD hu pins s σ H x y v u Q I rx ry (let ⟨d, e, hd, he, sd, se, q⟩ := h; ⟨d, e, hd.lib (SeqAt.canLay_of_shaped sd), he.lib (SeqAt.canLay_of_shaped se), sd, se, q⟩)
theorem op_notInD (hu : X.A.units + 65 < cLine) : OpR X (compareOp .NotIn) (rNotInD X.K) := fun pins s σ H x y v u Q I rx ry h =>
  L2.op_notInD hu pins s σ H x y v u Q I rx ry (let ⟨d, e, hd, he, sd, se, q⟩ := h; ⟨d, e, hd.lib (SeqAt.canLay_of_shaped sd), he.lib (SeqAt.canLay_of_shaped se), sd, se, q⟩)
theorem mt_indexD (hu : X.A.units + 65 < cLine) : MtR X "list.index" (rIndexD X.K) := fun pins s σ H x xs v us Q I rx rxs h =>
  L2.mt_indexD hu pins s σ H x xs v us Q I rx rxs (let ⟨a, y, d, ds, j, z, e1, e2, hl, hy, sl, sd, q⟩ := h; ⟨a, y, d, ds, j, z, e1, e2, hl.lib (SeqAt.canLay_of_shaped sl), hy.lib (SeqAt.canLay_of_shaped sd), sl, sd, q⟩)
end
theorem DpAll.len {K : PySem.W.Frag} {H : Hp} : ∀ {ds : List PyData} {vs : List V}, DpAll K H vs ds → vs.length = ds.length
  | [], _, h => by cases h; rfl
  | d :: ds, _, h => by
    cases h with
    | cons h1 h2 => exact congrArg Nat.succ (DpAll.len h2)
theorem DpAll.get {K : PySem.W.Frag} {H : Hp} : ∀ {ds : List PyData} {vs : List V} {i : Nat} {d : PyData}, DpAll K H vs ds → ds[i]? = some d → ∃ v, vs[i]? = some v ∧ Dp K H v d
  | [], _, _, _, _, e => by simp at e
  | d :: ds, _, 0, d', h, e => by
    cases h with
    | cons h1 h2 =>
      have e2 : d = d' := by simpa using e
      exact ⟨_, rfl, e2 ▸ h1⟩
  | d :: ds, _, i + 1, d', h, e => by
    cases h with
    | cons h1 h2 =>
      obtain ⟨v, q, r⟩ := DpAll.get (i := i) h2 (by simpa using e)
      exact ⟨v, by simpa using q, r⟩
theorem DpAll.app {K : PySem.W.Frag} {H : Hp} : ∀ {ds es : List PyData} {vs us : List V}, DpAll K H vs ds → DpAll K H us es → DpAll K H (vs ++ us) (ds ++ es)
  | [], _, _, _, h, q => by cases h; exact q
  | d :: ds, _, _, _, h, q => by
    cases h with
    | cons h1 h2 => exact .cons h1 (DpAll.app h2 q)
theorem DpAll.snoc {K : PySem.W.Frag} {H : Hp} {ds : List PyData} {vs : List V} {d : PyData} {v : V} (h : DpAll K H vs ds) (q : Dp K H v d) : DpAll K H (vs ++ [v]) (ds ++ [d]) := DpAll.app h (.cons q .nil)
theorem DpAll.take {K : PySem.W.Frag} {H : Hp} : ∀ {ds : List PyData} {vs : List V} (n : Nat), DpAll K H vs ds → DpAll K H (vs.take n) (ds.take n)
  | _, _, 0, _ => by simp; exact .nil
  | [], _, _ + 1, h => by cases h; exact .nil
  | d :: ds, _, n + 1, h => by
    cases h with
    | cons h1 h2 => exact .cons h1 (DpAll.take n h2)
theorem DpAll.drop {K : PySem.W.Frag} {H : Hp} : ∀ {ds : List PyData} {vs : List V} (n : Nat), DpAll K H vs ds → DpAll K H (vs.drop n) (ds.drop n)
  | _, _, 0, h => h
  | [], _, _ + 1, h => by cases h; exact .nil
  | d :: ds, _, n + 1, h => by
    cases h with
    | cons h1 h2 => exact DpAll.drop n h2
theorem DpAll.rev {K : PySem.W.Frag} {H : Hp} : ∀ {ds : List PyData} {vs : List V}, DpAll K H vs ds → DpAll K H vs.reverse ds.reverse
  | [], _, h => by cases h; exact .nil
  | d :: ds, _, h => by
    cases h with
    | cons h1 h2 =>
      rw [List.reverse_cons, List.reverse_cons]
      exact DpAll.snoc (DpAll.rev h2) h1
theorem DpAll.set {K : PySem.W.Frag} {H : Hp} {v : V} {d : PyData} (q : Dp K H v d) : ∀ {ds : List PyData} {vs : List V} (n : Nat), DpAll K H vs ds → DpAll K H (vs.set n v) (ds.set n d)
  | [], _, n, h => by cases h; exact .nil
  | d :: ds, _, 0, h => by
    cases h with
    | cons h1 h2 => exact .cons q h2
  | d :: ds, _, n + 1, h => by
    cases h with
    | cons h1 h2 => exact .cons h1 (DpAll.set q n h2)
theorem dpInts {K : PySem.W.Frag} {H : Hp} : ∀ ns : List Int, DpAll K H (ns.map V.int) (ns.map PyData.int)
  | [] => .nil
  | n :: ns => .cons (.int n) (dpInts ns)
theorem dp_ints {K : PySem.W.Frag} {H : Hp} : ∀ {ns : List Int} {vs : List V}, DpAll K H vs (ns.map PyData.int) → vs = ns.map V.int
  | [], _, h => by cases h; rfl
  | n :: ns, _, h => by
    cases h with
    | cons h1 h2 => cases h1; rw [dp_ints h2]; rfl
theorem dp_bools {K : PySem.W.Frag} {H : Hp} : ∀ {bs : List Bool} {vs : List V}, DpAll K H vs (bs.map PyData.bool) → vs = bs.map V.bl
  | [], _, h => by cases h; rfl
  | n :: ns, _, h => by
    cases h with
    | cons h1 h2 => cases h1; rw [dp_bools h2]; rfl

/-! ### slots -/
inductive SV where
  | un
  | pu (d : PyData)
  | ow (l : Addr) (ds : List PyData)
  | kp (f : Hp → V → Prop)
  | od (l : Addr) (f : Hp → HO → Prop)
  | ob (v : V) (cs : List Addr) (f : Hp → List HO → Prop)
def ownA : SV → List Addr
  | .ow l _ => [l]
  | .od l _ => [l]
  | .ob _ cs _ => cs
  | _ => []
def own (τ : List SV) : List Addr := τ.flatMap ownA
theorem own_mem {τ : List SV} {l : Addr} {ds : List PyData} {i : Nat} (h : τ[i]? = some (.ow l ds)) : l ∈ own τ :=
  List.mem_flatMap.mpr ⟨_, List.mem_of_getElem? h, by simp [ownA]⟩
theorem own_mem' {τ : List SV} {l : Addr} {sv : SV} {i : Nat} (h : τ[i]? = some sv) (ho : l ∈ ownA sv) : l ∈ own τ :=
  List.mem_flatMap.mpr ⟨_, List.mem_of_getElem? h, ho⟩
theorem mem_own {τ : List SV} {l : Addr} (h : l ∈ own τ) : ∃ (i : Nat) (sv : SV), τ[i]? = some sv ∧ l ∈ ownA sv := by
  obtain ⟨sv, h1, h2⟩ := List.mem_flatMap.mp h
  obtain ⟨i, hi, e2⟩ := List.mem_iff_getElem.mp h1
  exact ⟨i, sv, by rw [List.getElem?_eq_getElem hi, e2], h2⟩
/-- the cells as they lie -/
theorem cells_ex {H H' : Hp} (e : Ex H H') : ∀ {cs : List Addr} {hos : List HO}, cs.map H = hos.map some → cs.map H' = hos.map some
  | [], [], _ => rfl
  | c :: cs, o :: hos, h => by
    rw [List.map_cons, List.map_cons, List.cons.injEq] at h ⊢
    exact ⟨e _ _ h.1, cells_ex e h.2⟩
  | [], _ :: _, h => by cases h
  | _ :: _, [], h => by cases h
theorem cells_upd {H : Hp} {p : Addr} {o : HO} {cs : List Addr} (h : p ∉ cs) : cs.map (upd H p o) = cs.map H := List.map_congr_left fun c hc => upd_ne (fun z => h (z ▸ hc))
theorem cells_dom {H : Hp} {l : Addr} : ∀ {cs : List Addr} {hos : List HO}, cs.map H = hos.map some → l ∈ cs → H l ≠ none
  | c :: cs, o :: hos, h, hl => by
    rw [List.map_cons, List.map_cons, List.cons.injEq] at h
    rcases List.mem_cons.mp hl with e | hl
    · rw [e, h.1]; exact fun z => nomatch z
    · exact cells_dom h.2 hl
  | _ :: _, [], h, _ => by cases h
/-- the frame's own context: hidden objects of the callers, what may be changed of them, the heap at the entry -/
structure Fc where
  L0 : List Addr
  M : List Addr
  H0 : Hp
def SlOk (K : PySem.W.Frag) (L : List Addr) (H : Hp) : SV → Option V → Prop
  | .un, _ => True
  | .pu d, o => ∃ v, o = some v ∧ Dp K (hide L H) v d
  | .ow l ds, o => o = some (.ref l) ∧ ∃ xs, H l = some (.lst xs) ∧ DpAll K (hide L H) xs ds
  | .kp f, o => ∃ v, o = some v ∧ ∀ H', Ex (hide L H) H' → f H' v
  | .od l f, o => o = some (.ref l) ∧ ∃ ho, H l = some ho ∧ ∀ H', Ex (hide L H) H' → f H' ho
  | .ob v cs f, o => o = some v ∧ ∃ hos, cs.map H = hos.map some ∧ ∀ H', Ex (hide L H) H' → f H' hos
structure Sl (K : PySem.W.Frag) (C : Fc) (H : Hp) (σ : L2.St) (τ : List SV) : Prop where
  len : σ.length = τ.length
  sl : ∀ (i : Nat) (sv : SV), τ[i]? = some sv → ∃ o, σ[i]? = some o ∧ SlOk K (C.L0 ++ own τ) H sv o
  gr : ∀ a o, a ∉ C.M → C.H0 a = some o → H a = some o
  ow : ∀ l ∈ own τ, l ∈ C.M ∨ C.H0 l = none
  dm : Dom C.L0 H
  mm : Dom C.M H
  nl : ∀ l ∈ own τ, l ∉ C.L0
section
variable {K : PySem.W.Frag} {C : Fc} {H H' : Hp} {σ : L2.St} {τ : List SV}
theorem Sl.dom (S : Sl K C H σ τ) : Dom (C.L0 ++ own τ) H := fun a h z => by
  rcases List.mem_append.mp h with h | h
  · exact S.dm a h z
  · obtain ⟨i, sv, e, eo⟩ := mem_own h
    obtain ⟨o, _, h1⟩ := S.sl i _ e
    cases sv with
    | un => cases eo
    | pu d => cases eo
    | kp f => cases eo
    | ow l ds =>
      obtain ⟨_, xs, h2, _⟩ := h1
      have el : a = l := List.mem_singleton.mp eo
      rw [← el, z] at h2; cases h2
    | od l f =>
      obtain ⟨_, xs, h2, _⟩ := h1
      have el : a = l := List.mem_singleton.mp eo
      rw [← el, z] at h2; cases h2
    | ob v cs f =>
      obtain ⟨_, hos, h2, _⟩ := h1
      exact cells_dom h2 eo z
theorem SlOk.ex {L : List Addr} (e : Ex H H') {sv : SV} {o : Option V} (h : SlOk K L H sv o) : SlOk K L H' sv o := by
  cases sv with
  | un => trivial
  | pu d => obtain ⟨v, h1, h2⟩ := h; exact ⟨v, h1, Dp.ex e.hide h2⟩
  | ow l ds => obtain ⟨h1, xs, h2, h3⟩ := h; exact ⟨h1, xs, e _ _ h2, DpAll.ex e.hide h3⟩
  | kp f => obtain ⟨v, h1, h2⟩ := h; exact ⟨v, h1, fun H'' z => h2 H'' (e.hide.trans z)⟩
  | od l f => obtain ⟨h1, xs, h2, h3⟩ := h; exact ⟨h1, xs, e _ _ h2, fun H'' z => h3 H'' (e.hide.trans z)⟩
  | ob v cs f => obtain ⟨h1, xs, h2, h3⟩ := h; exact ⟨h1, xs, cells_ex e h2, fun H'' z => h3 H'' (e.hide.trans z)⟩
/-- nothing changed but by new objects -/
theorem Sl.ex (S : Sl K C H σ τ) (e : Ex H H') : Sl K C H' σ τ :=
  ⟨S.len, fun i sv h => by obtain ⟨o, h1, h2⟩ := S.sl i sv h; exact ⟨o, h1, h2.ex e⟩, fun a o n h => e a o (S.gr a o n h), S.ow, S.dm.ex e, S.mm.ex e, S.nl⟩
end

/-! ### what an expression gives, semantically -/
def WE (X : Cx) (e : Expr) : TE := fun σ H Q => ∀ (pins : List (Addr × Obj)) (s : Shared), Inv X pins σ H s → wpAny (model X.prog X.w) X.A (eval e X.env) (EP X pins σ Q) X.xe s
theorem pe_self {X : Cx} {e : Expr} : PE X e (WE X e) := ⟨fun pins s _ _ _ I h => h pins s I⟩
theorem WE.of {X : Cx} {e : Expr} {t : TE} (h : PE X e t) {σ : L2.St} {H : Hp} {Q : VK} (q : t σ H Q) : WE X e σ H Q := fun pins s I => h.run pins s σ H Q I q
def WA (X : Cx) (es : List Expr) : TA := fun σ H Q => ∀ (pos : Pos) (pins : List (Addr × Obj)) (s : Shared), Inv X pins σ H s → wpAny (model X.prog X.w) X.A (spliced (backTo pos (starEach es X.env))) (AP X pins σ Q) X.xe s
theorem pa_self {X : Cx} {es : List Expr} : PA X es (WA X es) := ⟨fun pos pins s _ _ _ I h => h pos pins s I⟩
theorem WA.of {X : Cx} {es : List Expr} {t : TA} (h : PA X es t) {σ : L2.St} {H : Hp} {Q : List V → Hp → Prop} (q : t σ H Q) : WA X es σ H Q := fun pos pins s I => h.run pos pins s σ H Q I q
def WT (X : Cx) (e : Expr) : TT := fun σ H Q => ∀ (pins : List (Addr × Obj)) (s : Shared), Inv X pins σ H s → wpAny (model X.prog X.w) X.A (isTrue e X.env (eval e X.env)) (TP X pins σ Q) X.xe s
theorem pt_self {X : Cx} {e : Expr} : PT X e (WT X e) := ⟨fun pins s _ _ _ I h => h pins s I⟩
theorem WT.of {X : Cx} {e : Expr} {t : TT} (h : PT X e t) {σ : L2.St} {H : Hp} {Q : Bool → Hp → Prop} (q : t σ H Q) : WT X e σ H Q := fun pins s I => h.run pins s σ H Q I q
def WSs (X : Cx) (sts : List Stmt) : TS := fun D σ H => ∀ (pins : List (Addr × Obj)) (s : Shared), Inv X pins σ H s → wpAny (model X.prog X.w) X.A (execs sts X.env) (SP X pins D) X.xe s
theorem pss_self {X : Cx} {sts : List Stmt} : PSs X sts (WSs X sts) := ⟨fun pins s _ _ _ I h => h pins s I⟩
theorem WSs.of {X : Cx} {sts : List Stmt} {t : TS} (h : PSs X sts t) {σ : L2.St} {H : Hp} {D : Ends} (q : t D σ H) : WSs X sts D σ H := fun pins s I => h.run pins s σ H D I q
def WS (X : Cx) (st : Stmt) : TS := fun D σ H => ∀ (pins : List (Addr × Obj)) (s : Shared), Inv X pins σ H s → wpAny (model X.prog X.w) X.A (exec st X.env) (SP X pins D) X.xe s
theorem ps_self {X : Cx} {st : Stmt} : PS X st (WS X st) := ⟨fun pins s _ _ _ I h => h pins s I⟩
theorem WS.of {X : Cx} {st : Stmt} {t : TS} (h : PS X st t) {σ : L2.St} {H : Hp} {D : Ends} (q : t D σ H) : WS X st D σ H := fun pins s I => h.run pins s σ H D I q

/-- e gives d, from the slots τ to τ' -/
structure EV (X : Cx) (e : Expr) (τ : List SV) (d : PyData) (τ' : List SV) : Prop where
  ow : own τ' = own τ
  run : ∀ (C : Fc) (σ : L2.St) (H : Hp) (Q : VK), Sl X.K C H σ τ → (∀ v H', Gw (own τ) H H' → Sl X.K C H' σ τ' → Dp X.K (hide (C.L0 ++ own τ') H') v d → Q v H') → WE X e σ H Q
/-- a test -/
structure ET (X : Cx) (e : Expr) (τ : List SV) (b : Bool) (τ' : List SV) : Prop where
  ow : own τ' = own τ
  run : ∀ (C : Fc) (σ : L2.St) (H : Hp) (Q : Bool → Hp → Prop), Sl X.K C H σ τ → (∀ H', Gw (own τ) H H' → Sl X.K C H' σ τ' → Q b H') → WT X e σ H Q
/-- arguments -/
structure EA (X : Cx) (es : List Expr) (τ : List SV) (ds : List PyData) (τ' : List SV) : Prop where
  ow : own τ' = own τ
  run : ∀ (C : Fc) (σ : L2.St) (H : Hp) (Q : List V → Hp → Prop), Sl X.K C H σ τ → (∀ vs H', Gw (own τ) H H' → Sl X.K C H' σ τ' → DpAll X.K (hide (C.L0 ++ own τ') H') vs ds → Q vs H') → WA X es σ H Q

section
variable {X : Cx} {a b c e : Expr} {es : List Expr} {pos : Pos} {τ τ1 τ2 τ3 : List SV} {d d1 d2 d3 : PyData} {ds : List PyData}
/-- what was data stays data -/
theorem keep_dp {K : PySem.W.Frag} {L0 : List Addr} {τ τ' : List SV} {H H' : Hp} {v : V} {d : PyData} (o : own τ' = own τ) (g : Gw (own τ) H H') (h : Dp K (hide (L0 ++ own τ) H) v d) : Dp K (hide (L0 ++ own τ') H') v d := by
  rw [o]; exact Dp.ex (Gw.hide g fun a z => List.mem_append_right _ z) h
theorem keep_dps {K : PySem.W.Frag} {L0 : List Addr} {τ τ' : List SV} {H H' : Hp} {v : List V} {d : List PyData} (o : own τ' = own τ) (g : Gw (own τ) H H') (h : DpAll K (hide (L0 ++ own τ) H) v d) : DpAll K (hide (L0 ++ own τ') H') v d := by
  rw [o]; exact DpAll.ex (Gw.hide g fun a z => List.mem_append_right _ z) h

theorem EV.is (h : EV X e τ d τ1) (q : d = d1) : EV X e τ d1 τ1 := q ▸ h
theorem ET.is {k k' : Bool} (h : ET X e τ k τ1) (q : k = k') : ET X e τ k' τ1 := q ▸ h
theorem EV.var (i : Nat) {x : Str} (hs : τ[i]? = some (.pu d) := by rfl) (hN : X.N[i]? = some x := by rfl) (hv : Vis X.env.scope x := by first | exact Or.inl rfl | exact Or.inr (Or.inl rfl) | exact Or.inr (Or.inr rfl)) (hd : (x == ("__debug__" : Str)) = false := by decide)
    (hcd : (x == ("__classdict__" : Str)) = false := by decide) : EV X (.Name x pos) τ d τ :=
  ⟨rfl, fun C σ H Q S q => WE.of (pe_var hN hv hd hcd) (by
    obtain ⟨o, h1, v, h2, h3⟩ := S.sl i _ hs
    exact ⟨v, by rw [h1, h2], q v H (Gw.refl _ _) S h3⟩)⟩
theorem EV.scal {v : V} (h : PE X e (tC v)) (hd : ∀ K H, Dp K H v d) : EV X e τ d τ := ⟨rfl, fun C σ H Q S q => WE.of h (q v H (Gw.refl _ _) S (hd _ _))⟩
theorem EV.int {i j} : EV X (.Constant (.int i) j pos) τ (.int i) τ := EV.scal pe_int fun _ _ => .int i
theorem EV.bl {i j} : EV X (.Constant (.bool i) j pos) τ (.bool i) τ := EV.scal pe_bl fun _ _ => .bl i
theorem EV.non {j} : EV X (.Constant .none j pos) τ .none τ := EV.scal pe_non fun _ _ => .non
theorem EV.str {i j} : EV X (.Constant (.str i) j pos) τ (.str i) τ := EV.scal pe_str fun _ _ => .str i
theorem EV.gint {x : Str} {i : Int} (hg : Gl X x) (hm : ∃ t, X.mg x = some (.int i t)) (hd : (x == ("__debug__" : Str)) = false := by decide) : EV X (.Name x pos) τ (.int i) τ := by
  obtain ⟨t, ht⟩ := hm
  exact EV.scal (pe_glob (v := .int i) hg ht ⟨t, rfl⟩ hd) fun _ _ => .int i

/-! ### operators by data -/
/-- what a rule by values does of data -/
def OpD (K : PySem.W.Frag) (r : R2) (d1 d2 d : PyData) : Prop := ∀ (L : List Addr) (H : Hp) (x y : V) (Q : VK), Dom L H → Dp K (hide L H) x d1 → Dp K (hide L H) y d2 → (∀ v H', Ex H H' → Dp K (hide L H') v d → Q v H') → r x y H Q
def UnD (K : PySem.W.Frag) (r : V → Hp → VK → Prop) (d1 d : PyData) : Prop := ∀ (L : List Addr) (H : Hp) (x : V) (Q : VK), Dom L H → Dp K (hide L H) x d1 → (∀ v H', Ex H H' → Dp K (hide L H') v d → Q v H') → r x H Q
def CaD (K : PySem.W.Frag) (r : List V → Hp → VK → Prop) (ds : List PyData) (d : PyData) : Prop := ∀ (L : List Addr) (H : Hp) (vs : List V) (Q : VK), Dom L H → DpAll K (hide L H) vs ds → (∀ v H', Ex H H' → Dp K (hide L H') v d → Q v H') → r vs H Q
theorem tOp_run {r : R2} (h1 : EV X a τ d1 τ1) (h2 : EV X b τ1 d2 τ2) (hd : OpD X.K r d1 d2 d) (C : Fc) (σ : L2.St) (H : Hp) (Q : VK) (S : Sl X.K C H σ τ)
    (q : ∀ v H', Gw (own τ) H H' → Sl X.K C H' σ τ2 → Dp X.K (hide (C.L0 ++ own τ2) H') v d → Q v H') : tOp r (WE X a) (WE X b) σ H Q := by
  refine h1.run C σ H _ S fun x H1 g1 S1 p1 => ?_
  refine h2.run C σ H1 _ S1 fun y H2 g2 S2 p2 => ?_
  have p1' := keep_dp (L0 := C.L0) h2.ow g2 p1
  refine hd (C.L0 ++ own τ2) H2 x y Q S2.dom p1' p2 fun v H3 e p3 => ?_
  exact q v H3 ((g1.trans (h1.ow ▸ g2)).trans (Gw.of e)) (S2.ex e) p3
theorem EV.bin {op : Operator} {r : R2} (ho : OpR X (binaryOp op) r) (h1 : EV X a τ d1 τ1) (h2 : EV X b τ1 d2 τ2) (hd : OpD X.K r d1 d2 d) : EV X (.BinOp a op b pos) τ d τ2 :=
  ⟨h2.ow.trans h1.ow, fun C σ H Q S q => WE.of (pe_op ho pe_self pe_self) (tOp_run h1 h2 hd C σ H Q S q)⟩
theorem EV.cmp {op : CmpOp} {r : R2} (ho : OpR X (compareOp op) r) (h1 : EV X a τ d1 τ1) (h2 : EV X b τ1 d2 τ2) (hd : OpD X.K r d1 d2 d) (hm : behindInMarks op b = false := by first | exact nomark _ | rfl) : EV X (.Compare a [op] [b] pos) τ d τ2 :=
  ⟨h2.ow.trans h1.ow, fun C σ H Q S q => WE.of (pe_cmpR ho pe_self pe_self hm) (tOp_run h1 h2 hd C σ H Q S q)⟩
theorem EV.un {op : UnaryOp} {r : V → Hp → VK → Prop} (ho : UnR X (unaryOp op) r) (h1 : EV X a τ d1 τ1) (hd : UnD X.K r d1 d) : EV X (.UnaryOp op a pos) τ d τ1 :=
  ⟨h1.ow, fun C σ H Q S q => WE.of (pe_un ho pe_self) (by
    refine h1.run C σ H _ S fun x H1 g1 S1 p1 => ?_
    refine hd (C.L0 ++ own τ1) H1 x Q S1.dom p1 fun v H3 e p3 => ?_
    exact q v H3 (g1.trans (Gw.of e)) (S1.ex e) p3)⟩
/-! ints -/
theorem OpD.rI0 {K : PySem.W.Frag} {g : Int → Int → V} {i j : Int} (hd : ∀ H, Dp K H (g i j) d) : OpD K (rI0 g) (.int i) (.int j) d := fun L H x y Q _ h1 h2 q => by
  cases h1; cases h2; exact ⟨i, j, rfl, rfl, q _ H (Ex.refl _) (hd _)⟩
theorem OpD.rI {K : PySem.W.Frag} {Cn : Int → Int → Prop} {g : Int → Int → V} {i j : Int} (hc : Cn i j) (hd : ∀ H, Dp K H (g i j) d) : OpD K (rI Cn g) (.int i) (.int j) d := fun L H x y Q _ h1 h2 q => by
  cases h1; cases h2; exact ⟨i, j, rfl, rfl, hc, q _ H (Ex.refl _) (hd _)⟩
theorem EV.add {i j : Int} (h1 : EV X a τ (.int i) τ1) (h2 : EV X b τ1 (.int j) τ2) : EV X (.BinOp a .Add b pos) τ (.int (i + j)) τ2 := EV.bin op_add h1 h2 (OpD.rI0 fun _ => .int _)
theorem EV.sub {i j : Int} (h1 : EV X a τ (.int i) τ1) (h2 : EV X b τ1 (.int j) τ2) : EV X (.BinOp a .Sub b pos) τ (.int (i - j)) τ2 := EV.bin op_sub h1 h2 (OpD.rI0 fun _ => .int _)
theorem EV.mul {i j : Int} (h1 : EV X a τ (.int i) τ1) (h2 : EV X b τ1 (.int j) τ2) (hc : CMul i j) : EV X (.BinOp a .Mult b pos) τ (.int (i * j)) τ2 := EV.bin op_mul h1 h2 (OpD.rI hc fun _ => .int _)
theorem EV.fdiv {i j : Int} (h1 : EV X a τ (.int i) τ1) (h2 : EV X b τ1 (.int j) τ2) (hc : CDiv i j) : EV X (.BinOp a .FloorDiv b pos) τ (.int (i / j)) τ2 := EV.bin op_fdiv h1 h2 (OpD.rI hc fun _ => .int _)
theorem EV.mod {i j : Int} (h1 : EV X a τ (.int i) τ1) (h2 : EV X b τ1 (.int j) τ2) (hc : 0 < j) : EV X (.BinOp a .Mod b pos) τ (.int (i % j)) τ2 := EV.bin op_mod h1 h2 (OpD.rI hc fun _ => .int _)
theorem EV.pow {i j : Int} (h1 : EV X a τ (.int i) τ1) (h2 : EV X b τ1 (.int j) τ2) (hc : CPow i j) : EV X (.BinOp a .Pow b pos) τ (.int (i ^ j.toNat)) τ2 := EV.bin op_pow h1 h2 (OpD.rI hc fun _ => .int _)
theorem EV.neg {i : Int} (h1 : EV X a τ (.int i) τ1) : EV X (.UnaryOp .USub a pos) τ (.int (-i)) τ1 := EV.un un_neg h1 fun L H x Q _ h q => by
  cases h; exact ⟨i, rfl, q _ H (Ex.refl _) (.int _)⟩
theorem EV.lt {i j : Int} (h1 : EV X a τ (.int i) τ1) (h2 : EV X b τ1 (.int j) τ2) : EV X (.Compare a [.Lt] [b] pos) τ (.bool (decide (i < j))) τ2 := EV.cmp op_lt h1 h2 (OpD.rI0 fun _ => .bl _)
theorem EV.le {i j : Int} (h1 : EV X a τ (.int i) τ1) (h2 : EV X b τ1 (.int j) τ2) : EV X (.Compare a [.LtE] [b] pos) τ (.bool (decide (i ≤ j))) τ2 := EV.cmp op_le h1 h2 (OpD.rI0 fun _ => .bl _)
theorem EV.gt {i j : Int} (h1 : EV X a τ (.int i) τ1) (h2 : EV X b τ1 (.int j) τ2) : EV X (.Compare a [.Gt] [b] pos) τ (.bool (decide (j < i))) τ2 := EV.cmp op_gt h1 h2 (OpD.rI0 fun _ => .bl _)
theorem EV.ge {i j : Int} (h1 : EV X a τ (.int i) τ1) (h2 : EV X b τ1 (.int j) τ2) : EV X (.Compare a [.GtE] [b] pos) τ (.bool (decide (j ≤ i))) τ2 := EV.cmp op_ge h1 h2 (OpD.rI0 fun _ => .bl _)
/-! any data -/
theorem EV.eq (hu : X.A.units + 64 < cLine) (h1 : EV X a τ d1 τ1) (h2 : EV X b τ1 d2 τ2) (s1 : SeqAt.shaped d1 = true) (s2 : SeqAt.shaped d2 = true) : EV X (.Compare a [.Eq] [b] pos) τ (.bool (PyData.eqv d1 d2)) τ2 :=
  EV.cmp (op_eqD hu) h1 h2 fun L H x y Q _ p1 p2 q => ⟨d1, d2, Dp.ex (hide_ex L H) p1, Dp.ex (hide_ex L H) p2, s1, s2, q _ H (Ex.refl _) (.bl _)⟩
theorem EV.ne (hu : X.A.units + 64 < cLine) (h1 : EV X a τ d1 τ1) (h2 : EV X b τ1 d2 τ2) (s1 : SeqAt.shaped d1 = true) (s2 : SeqAt.shaped d2 = true) : EV X (.Compare a [.NotEq] [b] pos) τ (.bool (!PyData.eqv d1 d2)) τ2 :=
  EV.cmp (op_neD hu) h1 h2 fun L H x y Q _ p1 p2 q => ⟨d1, d2, Dp.ex (hide_ex L H) p1, Dp.ex (hide_ex L H) p2, s1, s2, q _ H (Ex.refl _) (.bl _)⟩
end
end DL

set_option maxRecDepth 100000
set_option maxHeartbeats 2000000
/-! DLb: arguments, displays, comparisons, and/or/not, conditional expressions, subscripts, calls. -/
namespace DL
open PySem L2
section
variable {X : Cx} {a b c e : Expr} {es rest : List Expr} {pos : Pos} {τ τ1 τ2 τ3 : List SV} {d d1 d2 d3 : PyData} {ds : List PyData}
/-! ### arguments, displays -/
theorem EA.nil : EA X [] τ [] τ := ⟨rfl, fun C σ H Q S q => WA.of pa_nil (q [] H (Gw.refl _ _) S .nil)⟩
theorem EA.cons (h1 : EV X e τ d τ1) (h2 : EA X es τ1 ds τ2) (hs : starEach (e :: es) X.env = (false, eval e X.env) :: starEach es X.env := by rfl) : EA X (e :: es) τ (d :: ds) τ2 :=
  ⟨h2.ow.trans h1.ow, fun C σ H Q S q => WA.of (pa_cons pe_self pa_self hs) (h1.run C σ H _ S fun x H1 g1 S1 p1 => h2.run C σ H1 _ S1 fun xs H2 g2 S2 p2 =>
    q (x :: xs) H2 (g1.trans (h1.ow ▸ g2)) S2 (.cons (keep_dp h2.ow g2 p1) p2))⟩
theorem dp_new {K : PySem.W.Frag} {L : List Addr} {H : Hp} {p : Addr} {xs : List V} {ds : List PyData} (hp : H p = none) (dm : Dom L H) (h : DpAll K (hide L H) xs ds) : Dp K (hide L (upd H p (.lst xs))) (.ref p) (.list ds) :=
  .lst (xs := xs) (SqL.of (by rw [hide_out (dm.fresh hp)]; exact upd_same)) (DpAll.ex (Ex.new hp).hide h)
theorem dp_newT {K : PySem.W.Frag} {L : List Addr} {H : Hp} {p : Addr} {xs : List V} {ds : List PyData} (hp : H p = none) (dm : Dom L H) (h : DpAll K (hide L H) xs ds) : Dp K (hide L (upd H p (.tup xs))) (.ref p) (.tuple ds) :=
  .tup (xs := xs) (SqT.of (by rw [hide_out (dm.fresh hp)]; exact upd_same)) (DpAll.ex (Ex.new hp).hide h)
theorem EV.lst (h : EA X es τ ds τ1) (hl : ds.length ≤ sizeLine := by exact Nat.le_of_ble_eq_true rfl) : EV X (.List es pos) τ (.list ds) τ1 :=
  ⟨h.ow, fun C σ H Q S q => WE.of (pe_lst pa_self) (h.run C σ H _ S fun xs H1 g1 S1 p1 =>
    ⟨by rw [DpAll.len p1]; exact hl, fun p hp => q _ _ (g1.trans (Gw.of (Ex.new hp))) (S1.ex (Ex.new hp)) (dp_new hp S1.dom p1)⟩)⟩
theorem EV.tup {x1} (h : EA X es τ ds τ1) (hl : ds.length ≤ sizeLine := by exact Nat.le_of_ble_eq_true rfl) : EV X (.Tuple es x1 pos) τ (.tuple ds) τ1 :=
  ⟨h.ow, fun C σ H Q S q => WE.of (pe_tup pa_self) (h.run C σ H _ S fun xs H1 g1 S1 p1 =>
    ⟨by rw [DpAll.len p1]; exact hl, fun p hp => q _ _ (g1.trans (Gw.of (Ex.new hp))) (S1.ex (Ex.new hp)) (dp_newT hp S1.dom p1)⟩)⟩

/-! ### comparisons: a value, or a test -/
structure EC (X : Cx) (op : CmpOp) (a b : Expr) (τ : List SV) (k : Bool) (τ' : List SV) : Prop where
  ow : own τ' = own τ
  mrk : behindInMarks op b = false
  run : ∃ r, OpR X (compareOp op) r ∧ ∀ (C : Fc) (σ : L2.St) (H : Hp) (Q : VK), Sl X.K C H σ τ → (∀ H', Gw (own τ) H H' → Sl X.K C H' σ τ' → Q (.bl k) H') → tOp r (WE X a) (WE X b) σ H Q
theorem EC.mk' {op : CmpOp} {r : R2} {k : Bool} (ho : OpR X (compareOp op) r) (h1 : EV X a τ d1 τ1) (h2 : EV X b τ1 d2 τ2) (hd : OpD X.K r d1 d2 (.bool k)) (hm : behindInMarks op b = false := by first | exact nomark _ | rfl) : EC X op a b τ k τ2 :=
  ⟨h2.ow.trans h1.ow, hm, r, ho, fun C σ H Q S q => tOp_run h1 h2 hd C σ H Q S fun v H' g S' p => by cases p; exact q H' g S'⟩
theorem EC.ev {op : CmpOp} {k : Bool} (h : EC X op a b τ k τ1) : EV X (.Compare a [op] [b] pos) τ (.bool k) τ1 := by
  obtain ⟨o, m, r, ho, hr⟩ := h
  exact ⟨o, fun C σ H Q S q => WE.of (pe_cmpR ho pe_self pe_self m) (hr C σ H Q S fun H' g S' => q _ H' g S' (.bl k))⟩
theorem EC.et {op : CmpOp} {k : Bool} (h : EC X op a b τ k τ1) : ET X (.Compare a [op] [b] pos) τ k τ1 := by
  obtain ⟨o, m, r, ho, hr⟩ := h
  exact ⟨o, fun C σ H Q S q => WT.of (pt_cmpR ho pe_self pe_self m) (hr C σ H _ S fun H' g S' => ⟨k, rfl, q H' g S'⟩)⟩
theorem EC.is {op : CmpOp} {k k' : Bool} (h : EC X op a b τ k τ1) (q : k = k') : EC X op a b τ k' τ1 := q ▸ h
theorem EC.lt {i j : Int} (h1 : EV X a τ (.int i) τ1) (h2 : EV X b τ1 (.int j) τ2) : EC X .Lt a b τ (decide (i < j)) τ2 := EC.mk' op_lt h1 h2 (OpD.rI0 fun _ => .bl _)
theorem EC.le {i j : Int} (h1 : EV X a τ (.int i) τ1) (h2 : EV X b τ1 (.int j) τ2) : EC X .LtE a b τ (decide (i ≤ j)) τ2 := EC.mk' op_le h1 h2 (OpD.rI0 fun _ => .bl _)
theorem EC.gt {i j : Int} (h1 : EV X a τ (.int i) τ1) (h2 : EV X b τ1 (.int j) τ2) : EC X .Gt a b τ (decide (j < i)) τ2 := EC.mk' op_gt h1 h2 (OpD.rI0 fun _ => .bl _)
theorem EC.ge {i j : Int} (h1 : EV X a τ (.int i) τ1) (h2 : EV X b τ1 (.int j) τ2) : EC X .GtE a b τ (decide (j ≤ i)) τ2 := EC.mk' op_ge h1 h2 (OpD.rI0 fun _ => .bl _)
theorem EC.eqI {i j : Int} (h1 : EV X a τ (.int i) τ1) (h2 : EV X b τ1 (.int j) τ2) : EC X .Eq a b τ (decide (i = j)) τ2 := EC.mk' op_eq h1 h2 fun L H x y Q _ p1 p2 q => by
  cases p1; cases p2
  exact ⟨rfl, q _ H (Ex.refl _) (by rw [show decide (V.int i = V.int j) = decide (i = j) by rw [dec_int]; rfl]; exact .bl _)⟩
theorem EC.neI {i j : Int} (h1 : EV X a τ (.int i) τ1) (h2 : EV X b τ1 (.int j) τ2) : EC X .NotEq a b τ (!decide (i = j)) τ2 := EC.mk' op_ne h1 h2 fun L H x y Q _ p1 p2 q => by
  cases p1; cases p2
  exact ⟨rfl, q _ H (Ex.refl _) (by rw [show decide (V.int i = V.int j) = decide (i = j) by rw [dec_int]; rfl]; exact .bl _)⟩
theorem EC.eq (hu : X.A.units + 64 < cLine) (h1 : EV X a τ d1 τ1) (h2 : EV X b τ1 d2 τ2) (s1 : SeqAt.shaped d1 = true) (s2 : SeqAt.shaped d2 = true) : EC X .Eq a b τ (PyData.eqv d1 d2) τ2 :=
  EC.mk' (op_eqD hu) h1 h2 fun L H x y Q _ p1 p2 q => ⟨d1, d2, Dp.ex (hide_ex L H) p1, Dp.ex (hide_ex L H) p2, s1, s2, q _ H (Ex.refl _) (.bl _)⟩
theorem EC.ne (hu : X.A.units + 64 < cLine) (h1 : EV X a τ d1 τ1) (h2 : EV X b τ1 d2 τ2) (s1 : SeqAt.shaped d1 = true) (s2 : SeqAt.shaped d2 = true) : EC X .NotEq a b τ (!PyData.eqv d1 d2) τ2 :=
  EC.mk' (op_neD hu) h1 h2 fun L H x y Q _ p1 p2 q => ⟨d1, d2, Dp.ex (hide_ex L H) p1, Dp.ex (hide_ex L H) p2, s1, s2, q _ H (Ex.refl _) (.bl _)⟩
def isNon : PyData → Bool
  | .none => true
  | _ => false
theorem isNon_dp {K : PySem.W.Frag} {H : Hp} {v : V} (h : Dp K H v d) : decide (v = .non) = isNon d := by
  cases h <;> simp [isNon]
theorem EC.isN (h1 : EV X a τ d τ1) (h2 : EV X b τ1 .none τ2) : EC X .Is a b τ (isNon d) τ2 :=
  EC.mk' op_isN h1 h2 fun L H x y Q _ p1 p2 q => by
    cases p2; exact ⟨rfl, q _ H (Ex.refl _) (by rw [isNon_dp p1]; exact .bl _)⟩
theorem EC.notN (h1 : EV X a τ d τ1) (h2 : EV X b τ1 .none τ2) : EC X .IsNot a b τ (!isNon d) τ2 :=
  EC.mk' op_notN h1 h2 fun L H x y Q _ p1 p2 q => by
    cases p2; exact ⟨rfl, q _ H (Ex.refl _) (by rw [isNon_dp p1]; exact .bl _)⟩
/-- i <= j <= k of ints, as a value -/
theorem EV.chain {op op' : CmpOp} {i j k : Int} {p p' : Int → Int → Bool} (ho : OpR X (compareOp op) (rI0 fun i j => .bl (p i j))) (ho' : OpR X (compareOp op') (rI0 fun i j => .bl (p' i j))) (h1 : EV X a τ (.int i) τ) (h2 : EV X b τ (.int j) τ) (h3 : EV X c τ (.int k) τ) (hm : lastMarks [op, op'] [b, c] = false := by rfl) :
    EV X (.Compare a [op, op'] [b, c] pos) τ (.bool (p i j && p' j k)) τ :=
  ⟨rfl, fun C σ H Q S q => WE.of (pe_chain ho ho' pe_self pe_self pe_self hm) (h1.run C σ H _ S fun x H1 g1 S1 p1 => h2.run C σ H1 _ S1 fun y H2 g2 S2 p2 => by
    cases p1; cases p2
    refine ⟨i, j, rfl, rfl, p i j, rfl, ?_⟩
    cases hb : p i j with
    | true =>
      show WE X c σ H2 _
      refine h3.run C σ H2 _ S2 fun z H3 g3 S3 p3 => ?_
      cases p3
      refine ⟨j, k, rfl, rfl, ?_⟩
      have q2 := q (.bl (p' j k)) H3 ((g1.trans g2).trans g3) S3
      rw [hb, Bool.true_and] at q2
      exact q2 (.bl _)
    | false =>
      show Q (.bl false) H2
      have q2 := q (.bl false) H2 (g1.trans g2) S2
      rw [hb, Bool.false_and] at q2
      exact q2 (.bl _))⟩
theorem EV.lele {i j k : Int} (h1 : EV X a τ (.int i) τ) (h2 : EV X b τ (.int j) τ) (h3 : EV X c τ (.int k) τ) (hm : lastMarks [.LtE, .LtE] [b, c] = false := by rfl) : EV X (.Compare a [.LtE, .LtE] [b, c] pos) τ (.bool (decide (i ≤ j) && decide (j ≤ k))) τ :=
  EV.chain op_le op_le h1 h2 h3 hm

/-! ### and, or, not as values -/
theorem EV.one {op} (h : EV X a τ d τ1) : EV X (.BoolOp op [a] pos) τ d τ1 := ⟨h.ow, fun C σ H Q S q => WE.of (pe_one pe_self) (h.run C σ H Q S q)⟩
theorem EV.andT (h1 : EV X a τ (.bool true) τ1) (h2 : EV X (.BoolOp .And (b :: rest) pos) τ1 d τ2) : EV X (.BoolOp .And (a :: b :: rest) pos) τ d τ2 :=
  ⟨h2.ow.trans h1.ow, fun C σ H Q S q => WE.of (pe_and pe_self pe_self) (h1.run C σ H _ S fun x H1 g1 S1 p1 => by
    cases p1; exact ⟨true, rfl, iteT (h2.run C σ H1 Q S1 fun v H2 g2 S2 p2 => q v H2 (g1.trans (h1.ow ▸ g2)) S2 p2)⟩)⟩
theorem EV.andF (h1 : EV X a τ (.bool false) τ1) : EV X (.BoolOp .And (a :: b :: rest) pos) τ (.bool false) τ1 :=
  ⟨h1.ow, fun C σ H Q S q => WE.of (pe_and (rest := rest) (pos := pos) pe_self pe_self) (h1.run C σ H _ S fun x H1 g1 S1 p1 => by
    cases p1; exact ⟨false, rfl, iteF (q _ H1 g1 S1 (.bl _))⟩)⟩
theorem EV.and {x y : Bool} (h1 : EV X a τ (.bool x) τ) (h2 : x = true → EV X (.BoolOp .And (b :: rest) pos) τ (.bool y) τ) : EV X (.BoolOp .And (a :: b :: rest) pos) τ (.bool (x && y)) τ := by
  cases x with
  | true => exact EV.andT h1 (h2 rfl)
  | false => exact EV.andF h1
theorem EV.orT (h1 : EV X a τ (.bool true) τ1) : EV X (.BoolOp .Or (a :: b :: rest) pos) τ (.bool true) τ1 :=
  ⟨h1.ow, fun C σ H Q S q => WE.of (pe_or (rest := rest) (pos := pos) pe_self pe_self) (h1.run C σ H _ S fun x H1 g1 S1 p1 => by
    cases p1; exact ⟨true, rfl, iteT (q _ H1 g1 S1 (.bl _))⟩)⟩
theorem EV.orF (h1 : EV X a τ (.bool false) τ1) (h2 : EV X (.BoolOp .Or (b :: rest) pos) τ1 d τ2) : EV X (.BoolOp .Or (a :: b :: rest) pos) τ d τ2 :=
  ⟨h2.ow.trans h1.ow, fun C σ H Q S q => WE.of (pe_or pe_self pe_self) (h1.run C σ H _ S fun x H1 g1 S1 p1 => by
    cases p1; exact ⟨false, rfl, iteF (h2.run C σ H1 Q S1 fun v H2 g2 S2 p2 => q v H2 (g1.trans (h1.ow ▸ g2)) S2 p2)⟩)⟩
theorem EV.or {x y : Bool} (h1 : EV X a τ (.bool x) τ) (h2 : x = false → EV X (.BoolOp .Or (b :: rest) pos) τ (.bool y) τ) : EV X (.BoolOp .Or (a :: b :: rest) pos) τ (.bool (x || y)) τ := by
  cases x with
  | true => exact EV.orT h1
  | false => exact EV.orF h1 (h2 rfl)
theorem EV.not {x : Bool} (h1 : EV X a τ (.bool x) τ1) : EV X (.UnaryOp .Not a pos) τ (.bool (!x)) τ1 :=
  ⟨h1.ow, fun C σ H Q S q => WE.of (pe_not pe_self) (h1.run C σ H _ S fun y H1 g1 S1 p1 => by
    cases p1; exact ⟨x, rfl, q _ H1 g1 S1 (.bl _)⟩)⟩

/-! ### tests -/
theorem ET.val {k : Bool} (h : EV X e τ (.bool k) τ1) (he : ∀ whole, isTrue e X.env whole = (do let v ← whole; standAt e.pos; holding [v] (truthy v)) := by intro _; rfl) : ET X e τ k τ1 :=
  ⟨h.ow, fun C σ H Q S q => WT.of (pt_val pe_self he) (h.run C σ H _ S fun v H1 g1 S1 p1 => by cases p1; exact ⟨k, rfl, q H1 g1 S1⟩)⟩
/-- whatever the whole is -/
def WW (X : Cx) (e : Expr) : TT := fun σ H Q => ∀ (whole : Sem Value) (pins : List (Addr × Obj)) (s : Shared), Inv X pins σ H s → wpAny (model X.prog X.w) X.A (isTrue e X.env whole) (TP X pins σ Q) X.xe s
theorem pw_self : PW X e (WW X e) := ⟨fun wh pins s _ _ _ I h => h wh pins s I⟩
theorem WW.of {t : TT} (h : PW X e t) {σ : L2.St} {H : Hp} {Q : Bool → Hp → Prop} (q : t σ H Q) : WW X e σ H Q := fun wh pins s I => h.run wh pins s σ H Q I q
structure EW (X : Cx) (e : Expr) (τ : List SV) (b : Bool) (τ' : List SV) : Prop where
  ow : own τ' = own τ
  run : ∀ (C : Fc) (σ : L2.St) (H : Hp) (Q : Bool → Hp → Prop), Sl X.K C H σ τ → (∀ H', Gw (own τ) H H' → Sl X.K C H' σ τ' → Q b H') → WW X e σ H Q
theorem ET.w {k : Bool} (h : EW X e τ k τ1) : ET X e τ k τ1 := ⟨h.ow, fun C σ H Q S q => WT.of (PW.pt pw_self) (h.run C σ H Q S q)⟩
theorem EW.and1 {k : Bool} (h : ET X a τ k τ1) : EW X (.BoolOp .And [a] pos) τ k τ1 := ⟨h.ow, fun C σ H Q S q => WW.of (pw_and1 pt_self) (h.run C σ H Q S q)⟩
theorem EW.or1 {k : Bool} (h : ET X a τ k τ1) : EW X (.BoolOp .Or [a] pos) τ k τ1 := ⟨h.ow, fun C σ H Q S q => WW.of (pw_or1 pt_self) (h.run C σ H Q S q)⟩
theorem EW.andT {k : Bool} (h1 : ET X a τ true τ1) (h2 : EW X (.BoolOp .And (b :: rest) pos) τ1 k τ2) : EW X (.BoolOp .And (a :: b :: rest) pos) τ k τ2 :=
  ⟨h2.ow.trans h1.ow, fun C σ H Q S q => WW.of (pw_and pt_self pw_self) (h1.run C σ H _ S fun H1 g1 S1 => iteT (h2.run C σ H1 Q S1 fun H2 g2 S2 => q H2 (g1.trans (h1.ow ▸ g2)) S2))⟩
theorem EW.andF (h1 : ET X a τ false τ1) : EW X (.BoolOp .And (a :: b :: rest) pos) τ false τ1 :=
  ⟨h1.ow, fun C σ H Q S q => WW.of (pw_and (rest := rest) (pos := pos) pt_self pw_self) (h1.run C σ H _ S fun H1 g1 S1 => iteF (q H1 g1 S1))⟩
theorem EW.and {x y : Bool} (h1 : ET X a τ x τ) (h2 : x = true → EW X (.BoolOp .And (b :: rest) pos) τ y τ) : EW X (.BoolOp .And (a :: b :: rest) pos) τ (x && y) τ := by
  cases x with
  | true => exact EW.andT h1 (h2 rfl)
  | false => exact EW.andF h1
theorem EW.orT (h1 : ET X a τ true τ1) : EW X (.BoolOp .Or (a :: b :: rest) pos) τ true τ1 :=
  ⟨h1.ow, fun C σ H Q S q => WW.of (pw_or (rest := rest) (pos := pos) pt_self pw_self) (h1.run C σ H _ S fun H1 g1 S1 => iteT (q H1 g1 S1))⟩
theorem EW.orF {k : Bool} (h1 : ET X a τ false τ1) (h2 : EW X (.BoolOp .Or (b :: rest) pos) τ1 k τ2) : EW X (.BoolOp .Or (a :: b :: rest) pos) τ k τ2 :=
  ⟨h2.ow.trans h1.ow, fun C σ H Q S q => WW.of (pw_or pt_self pw_self) (h1.run C σ H _ S fun H1 g1 S1 => iteF (h2.run C σ H1 Q S1 fun H2 g2 S2 => q H2 (g1.trans (h1.ow ▸ g2)) S2))⟩
theorem EW.or {x y : Bool} (h1 : ET X a τ x τ) (h2 : x = false → EW X (.BoolOp .Or (b :: rest) pos) τ y τ) : EW X (.BoolOp .Or (a :: b :: rest) pos) τ (x || y) τ := by
  cases x with
  | true => exact EW.orT h1
  | false => exact EW.orF h1 (h2 rfl)
theorem ET.not {k : Bool} (h : ET X a τ k τ1) : ET X (.UnaryOp .Not a pos) τ (!k) τ1 := ⟨h.ow, fun C σ H Q S q => WT.of (pt_not pt_self) (h.run C σ H _ S fun H1 g1 S1 => q H1 g1 S1)⟩
theorem EV.ifT (h : ET X c τ true τ1) (h1 : EV X a τ1 d τ2) : EV X (.IfExp c a b pos) τ d τ2 :=
  ⟨h1.ow.trans h.ow, fun C σ H Q S q => WE.of (pe_ifExp pt_self pe_self (tb := WE X b) pe_self) (h.run C σ H _ S fun H1 g1 S1 => iteT (h1.run C σ H1 Q S1 fun v H2 g2 S2 p2 => q v H2 (g1.trans (h.ow ▸ g2)) S2 p2))⟩
theorem EV.ifF (h : ET X c τ false τ1) (h1 : EV X b τ1 d τ2) : EV X (.IfExp c a b pos) τ d τ2 :=
  ⟨h1.ow.trans h.ow, fun C σ H Q S q => WE.of (pe_ifExp pt_self (ta := WE X a) pe_self pe_self) (h.run C σ H _ S fun H1 g1 S1 => iteF (h1.run C σ H1 Q S1 fun v H2 g2 S2 p2 => q v H2 (g1.trans (h.ow ▸ g2)) S2 p2))⟩
theorem EV.ite {k : Bool} (h : ET X c τ k τ1) (h1 : k = true → EV X a τ1 d τ2) (h2 : k = false → EV X b τ1 d τ2) : EV X (.IfExp c a b pos) τ d τ2 := by
  cases k with
  | true => exact EV.ifT h (h1 rfl)
  | false => exact EV.ifF h (h2 rfl)
theorem EV.iteD {k : Bool} (h : ET X c τ k τ) (h1 : k = true → EV X a τ d1 τ) (h2 : k = false → EV X b τ d2 τ) : EV X (.IfExp c a b pos) τ (if k = true then d1 else d2) τ := by
  cases k with
  | true => exact EV.ifT h (h1 rfl)
  | false => exact EV.ifF h (h2 rfl)

/-! ### built-ins by name -/
variable {x : Str} {p : Pos} {id T : String} {r : List V → Hp → VK → Prop}
theorem tCB_run (h : EA X es τ ds τ1) (hd : CaD X.K r ds d) (C : Fc) (σ : L2.St) (H : Hp) (Q : VK) (S : Sl X.K C H σ τ)
    (q : ∀ v H', Gw (own τ) H H' → Sl X.K C H' σ τ1 → Dp X.K (hide (C.L0 ++ own τ1) H') v d → Q v H') : tCB r (WA X es) σ H Q :=
  h.run C σ H _ S fun vs H1 g1 S1 p1 => hd _ H1 vs Q S1.dom p1 fun v H2 e p2 => q v H2 (g1.trans (Gw.of e)) (S1.ex e) p2
theorem EV.callB (hc : CallR X (.builtin id) r) (hm : X.mg x = none) (h : EA X (e :: es) τ ds τ1) (hd : CaD X.K r ds d) (hg : Gl X x := by rfl) (hv : bootBuiltins x = some (.builtin id) := by decide +kernel)
    (hn : x ≠ "__name__" := by decide) (hdb : (x == ("__debug__" : Str)) = false := by decide) (he : starEach (e :: es) X.env = (false, eval e X.env) :: starEach es X.env := by rfl) (hpl : (backTo pos (starEach es X.env)).any (·.1) = false := by rfl) :
    EV X (.Call (.Name x p) (e :: es) [] pos) τ d τ1 :=
  ⟨h.ow, fun C σ H Q S q => WE.of (pe_callB hc hg hm hv pa_self hn hdb he hpl) (tCB_run h hd C σ H Q S q)⟩
theorem EV.callTy (hc : CallR X (.type T) r) (hm : X.mg x = none) (h : EA X (e :: es) τ ds τ1) (hd : CaD X.K r ds d) (hg : Gl X x := by rfl) (hv : bootBuiltins x = some (.type T) := by decide +kernel)
    (hn : x ≠ "__name__" := by decide) (hdb : (x == ("__debug__" : Str)) = false := by decide) (he : starEach (e :: es) X.env = (false, eval e X.env) :: starEach es X.env := by rfl) (hpl : (backTo pos (starEach es X.env)).any (·.1) = false := by rfl) :
    EV X (.Call (.Name x p) (e :: es) [] pos) τ d τ1 :=
  ⟨h.ow, fun C σ H Q S q => WE.of (pe_callTy hc hg hm hv pa_self hn hdb he hpl) (tCB_run h hd C σ H Q S q)⟩
end
end DL

set_option maxRecDepth 100000
set_option maxHeartbeats 2000000
/-! DLc: calls of defs by their promises over data, what raises, statements. -/
namespace DL
open PySem L2
open PyProof.Rows (envOfC)
/-- what a def comes to: data, or an error of the class that stands under this name -/
inductive Res where
  | ok (d : PyData)
  | ex (c : Str)
/-- the promise of a def that changes nothing -/
def spP (K : PySem.W.Frag) (R : List PyData → Res → Prop) : Sp := fun vs H Q E => ∃ (L : List Addr) (ds : List PyData) (r : Res), Dom L H ∧ DpAll K (hide L H) vs ds ∧ R ds r ∧
  match r with
  | .ok d => ∀ v H', Ex H H' → Dp K (hide L H') v d → Q v H'
  | .ex c => ∀ H', Ex H H' → E (.ref (He.ga K c)) none H'
/-- a def that may be called by its name -/
structure Cal (P : Program) (w : World) (K : PySem.W.Frag) (mg : Str → Option Value) (base : Heap) (k : Nat) (x : Str) (ps : List Str) (sp : Sp) : Prop where
  ex : ∃ (f : Addr) (fd : FuncData), mg x = some (.ref f) ∧ PySem.W.keepIn K (.ref f) = true ∧ Binds K fd ps [] ∧ FnOk P w K mg base (L2.CX P w) k f fd ps sp
theorem Cal.mono {P : Program} {w : World} {K : PySem.W.Frag} {mg : Str → Option Value} {base : Heap} {j k : Nat} {x : Str} {ps : List Str} {sp : Sp} (c : Cal P w K mg base j x ps sp) (h : j ≤ k) : Cal P w K mg base k x ps sp := by
  obtain ⟨f, fd, h1, h2, h3, h4⟩ := c.ex
  exact ⟨f, fd, h1, h2, h3, h4.mono h⟩
theorem Cal.imp {P : Program} {w : World} {K : PySem.W.Frag} {mg : Str → Option Value} {base : Heap} {k : Nat} {x : Str} {ps : List Str} {sp sp' : Sp} (c : Cal P w K mg base k x ps sp) (h : ∀ vs H Q E, sp' vs H Q E → sp vs H Q E) : Cal P w K mg base k x ps sp' := by
  obtain ⟨f, fd, h1, h2, h3, h4⟩ := c.ex
  exact ⟨f, fd, h1, h2, h3, h4.imp h⟩
/-- e raises an error of the class under the name c -/
structure ER (X : Cx) (e : Expr) (τ : List SV) (c : Str) : Prop where
  run : ∀ (C : Fc) (σ : L2.St) (H : Hp) (Q : VK) (W : WX), Takes X W → Sl X.K C H σ τ → (∀ H', Sl X.K C H' σ τ → W (.ref (He.ga X.K c)) none σ H') → WE X e σ H Q
section
variable {X : Cx} {a b c e : Expr} {es : List Expr} {pos p : Pos} {τ τ1 τ2 τ3 : List SV} {d d1 d2 d3 : PyData} {ds : List PyData} {x : Str} {k : Nat} {ps : List Str} {R : List PyData → Res → Prop}
theorem EV.call (F : Cal X.prog X.w X.K X.mg X.base k x ps (spP X.K R)) (hr : Room k X.A) (h : EA X (e :: es) τ ds τ1) (hR : R ds (.ok d)) (hg : Gl X x := by rfl)
    (hdb : (x == ("__debug__" : Str)) = false := by decide) (he : starEach (e :: es) X.env = (false, eval e X.env) :: starEach es X.env := by rfl) (hpl : (backTo pos (starEach es X.env)).any (·.1) = false := by rfl) :
    EV X (.Call (.Name x p) (e :: es) [] pos) τ d τ1 := by
  obtain ⟨f, fd, hm, hk, hb, G⟩ := F.ex
  exact ⟨h.ow, fun C σ H Q S q => WE.of (pe_call G hr hg hm hk hb .nil passL pa_self hdb he hpl) (h.run C σ H _ S fun vs H1 g1 S1 p1 =>
    ⟨C.L0 ++ own τ1, ds, .ok d, S1.dom, by rw [List.append_nil]; exact p1, hR, fun v H2 ex p2 => q v H2 (g1.trans (Gw.of ex)) (S1.ex ex) p2⟩)⟩
theorem EV.call0 (F : Cal X.prog X.w X.K X.mg X.base k x ps (spP X.K R)) (hr : Room k X.A) (hR : R [] (.ok d)) (hg : Gl X x := by rfl)
    (hdb : (x == ("__debug__" : Str)) = false := by decide) :
    EV X (.Call (.Name x p) [] [] pos) τ d τ := by
  obtain ⟨f, fd, hm, hk, hb, G⟩ := F.ex
  exact ⟨rfl, fun C σ H Q S q => WE.of (pe_call0 G hr hg hm hk hb .nil passL hdb) 
    (show spP X.K R ([] ++ []) H Q E0 from ⟨C.L0 ++ own τ, [], .ok d, S.dom, .nil, hR, fun v H2 ex p2 => q v H2 (Gw.of ex) (S.ex ex) p2⟩)⟩
theorem ER.call {c : Str} (F : Cal X.prog X.w X.K X.mg X.base k x ps (spP X.K R)) (hr : Room k X.A) (h : EA X (e :: es) τ ds τ) (hR : R ds (.ex c)) (hg : Gl X x := by rfl)
    (hdb : (x == ("__debug__" : Str)) = false := by decide) (he : starEach (e :: es) X.env = (false, eval e X.env) :: starEach es X.env := by rfl) (hpl : (backTo pos (starEach es X.env)).any (·.1) = false := by rfl) :
    ER X (.Call (.Name x p) (e :: es) [] pos) τ c := by
  obtain ⟨f, fd, hm, hk, hb, G⟩ := F.ex
  exact ⟨fun C σ H Q W tk S q => WE.of (pe_callS G hr hg hm hk hb (fun σ => passAt tk σ) pa_self hdb he hpl) (h.run C σ H _ S fun vs H1 g1 S1 p1 =>
    ⟨C.L0 ++ own τ, ds, .ex c, S1.dom, p1, hR, fun H2 ex => q H2 (S1.ex ex)⟩)⟩
end

/-! ### statements -/
inductive Out where
  | nx (τ : List SV)
  | rt (d : PyData) (τ : List SV)
  | bk (τ : List SV)
  | ct (τ : List SV)
  | xc (c : Str) (τ : List SV)
  | rk (ds : List PyData) (τ : List SV)
  | ro (i : Nat) (τ : List SV)
/-- a tuple whose object is known: one without a dict of its own -/
def FT (K : PySem.W.Frag) (ds : List PyData) (H : Hp) (v : V) : Prop := ∃ (l : Addr) (o : Obj) (xs : List V), v = .ref l ∧ H l = some (.frz o (.tup xs)) ∧ o.cls = .type "tuple" ∧ o.dict = none ∧ DpAll K H xs ds
def Post (K : PySem.W.Frag) (C : Fc) (D : Ends) (W : WX) : Out → Prop
  | .nx τ => ∀ σ H, Sl K C H σ τ → D.nx σ H
  | .rt d τ => ∀ σ v H, Sl K C H σ τ → Dp K (hide (C.L0 ++ own τ) H) v d → D.rt v H
  | .bk τ => ∀ σ H, Sl K C H σ τ → D.bk σ H
  | .ct τ => ∀ σ H, Sl K C H σ τ → D.ct σ H
  | .xc c τ => ∀ σ H, Sl K C H σ τ → W (.ref (He.ga K c)) none σ H
  | .rk ds τ => ∀ σ v H, Sl K C H σ τ → FT K ds (hide (C.L0 ++ own τ) H) v → D.rt v H
  | .ro i τ => ∀ σ v H, Sl K C H σ τ → σ[i]? = some (some v) → D.rt v H
/-- from the slots τ the block ends as R tells -/
structure SX (X : Cx) (sts : List Stmt) (τ : List SV) (R : Out → Prop) : Prop where
  run : ∀ (C : Fc) (σ : L2.St) (H : Hp) (D : Ends) (W : WX), Takes X W → Sl X.K C H σ τ → (∀ o, R o → Post X.K C D W o) → WSs X sts D σ H
def seqO (X : Cx) (rest : List Stmt) (R : Out → Prop) : Out → Prop
  | .nx τ => SX X rest τ R
  | o => R o
/-- the end of a def -/
def ret (d : PyData) : Out → Prop
  | .rt d' _ => d' = d
  | .nx _ => d = .none
  | _ => False
def rai (c : Str) : Out → Prop
  | .xc c' _ => c' = c
  | _ => False
def resO : Res → Out → Prop
  | .ok d => ret d
  | .ex c => rai c
section
variable {X : Cx} {a b c e tg : Expr} {es : List Expr} {pos p : Pos} {τ τ1 τ2 τ3 : List SV} {d d1 d2 d3 : PyData} {ds : List PyData} {x : Str} {rest A B : List Stmt} {st : Stmt} {R R' : Out → Prop} {i : Nat}
theorem SX.imp (h : SX X rest τ R) (q : ∀ o, R o → R' o) : SX X rest τ R' := ⟨fun C σ H D W tk S k => h.run C σ H D W tk S fun o ho => k o (q o ho)⟩
theorem SX.nil (h : R (.nx τ)) : SX X [] τ R := ⟨fun C σ H D W tk S k => WSs.of pss_nil (k _ h σ H S)⟩
/-- a statement, then the rest -/
theorem SX.seq {t : TS} (hs : PS X st t) (h : ∀ (C : Fc) (σ : L2.St) (H : Hp) (D : Ends) (W : WX), Takes X W → Sl X.K C H σ τ → (∀ o, seqO X rest R o → Post X.K C D W o) → t D σ H) : SX X (st :: rest) τ R := SX.mk fun C σ H D W tk S k =>
  WSs.of (pss_cons hs pss_self) (h C σ H { D with nx := WSs X rest D } W tk S fun o ho => by
    cases o with
    | nx τ' => exact fun σ' H' S' => SX.run ho C σ' H' D W tk S' k
    | rt d' τ' => exact k _ ho
    | bk τ' => exact k _ ho
    | ct τ' => exact k _ ho
    | xc c' τ' => exact k _ ho
    | ro i' τ' => exact k _ ho
    | rk d' τ' => exact k _ ho)
theorem Sl.set {K : PySem.W.Frag} {C : Fc} {H : Hp} {σ : L2.St} {v : V} (S : Sl K C H σ τ) (h : Dp K (hide (C.L0 ++ own τ) H) v d) (i : Nat) : Sl K C H (σ.set i (some v)) (τ.set i (.pu d)) := by
  have sub : ∀ a, a ∈ own (τ.set i (.pu d)) → a ∈ own τ := fun a ha => by
    obtain ⟨j, sv, e, eo⟩ := mem_own ha
    by_cases hj : i = j
    · subst hj
      by_cases hl : i < τ.length
      · rw [List.getElem?_set_self hl] at e; cases e; cases eo
      · rw [List.getElem?_eq_none (by simpa using hl)] at e; cases e
    · rw [List.getElem?_set_ne hj] at e
      exact own_mem' e eo
  have ex : Ex (hide (C.L0 ++ own τ) H) (hide (C.L0 ++ own (τ.set i (.pu d))) H) := hide_mono fun a ha => by
    rcases List.mem_append.mp ha with z | z
    · exact List.mem_append_left _ z
    · exact List.mem_append_right _ (sub a z)
  refine ⟨by simp [S.len], fun j sv e => ?_, S.gr, fun l hl => S.ow l (sub l hl), S.dm, S.mm, fun l hl => S.nl l (sub l hl)⟩
  by_cases hj : i = j
  · subst hj
    by_cases hl : i < τ.length
    · rw [List.getElem?_set_self hl] at e
      have e2 : SV.pu d = sv := Option.some.inj e
      subst e2
      exact ⟨some v, by rw [List.getElem?_set_self (by rw [S.len]; exact hl)], v, rfl, Dp.ex ex h⟩
    · rw [List.getElem?_eq_none (by simpa using hl)] at e; cases e
  · rw [List.getElem?_set_ne hj] at e
    obtain ⟨o, h1, h2⟩ := S.sl j sv e
    refine ⟨o, by rw [List.getElem?_set_ne hj]; exact h1, ?_⟩
    cases sv with
    | un => trivial
    | pu d' => obtain ⟨v', z1, z2⟩ := h2; exact ⟨v', z1, Dp.ex ex z2⟩
    | ow l ds => obtain ⟨z1, xs, z2, z3⟩ := h2; exact ⟨z1, xs, z2, DpAll.ex ex z3⟩
    | kp f => obtain ⟨v', z1, z2⟩ := h2; exact ⟨v', z1, fun H'' z => z2 H'' (ex.trans z)⟩
    | od l f => obtain ⟨z1, xs, z2, z3⟩ := h2; exact ⟨z1, xs, z2, fun H'' z => z3 H'' (ex.trans z)⟩
    | ob w cs f => obtain ⟨z1, xs, z2, z3⟩ := h2; exact ⟨z1, xs, z2, fun H'' z => z3 H'' (ex.trans z)⟩
theorem Sl.forget {K : PySem.W.Frag} {C : Fc} {H : Hp} {σ : L2.St} (S : Sl K C H σ τ) (i : Nat) : Sl K C H σ (τ.set i .un) := by
  have sub : ∀ a, a ∈ own (τ.set i .un) → a ∈ own τ := fun a ha => by
    obtain ⟨j, sv, e, eo⟩ := mem_own ha
    by_cases hj : i = j
    · subst hj
      by_cases hl : i < τ.length
      · rw [List.getElem?_set_self hl] at e; cases e; cases eo
      · rw [List.getElem?_eq_none (by simpa using hl)] at e; cases e
    · rw [List.getElem?_set_ne hj] at e
      exact own_mem' e eo
  have ex : Ex (hide (C.L0 ++ own τ) H) (hide (C.L0 ++ own (τ.set i .un)) H) := hide_mono fun a ha => by
    rcases List.mem_append.mp ha with z | z
    · exact List.mem_append_left _ z
    · exact List.mem_append_right _ (sub a z)
  refine ⟨by simp [S.len], fun j sv e => ?_, S.gr, fun l hl => S.ow l (sub l hl), S.dm, S.mm, fun l hl => S.nl l (sub l hl)⟩
  by_cases hj : i = j
  · subst hj
    by_cases hl : i < τ.length
    · rw [List.getElem?_set_self hl] at e
      have e2 : SV.un = sv := Option.some.inj e
      subst e2
      exact ⟨_, List.getElem?_eq_getElem (by rw [S.len]; exact hl), trivial⟩
    · rw [List.getElem?_eq_none (by simpa using hl)] at e; cases e
  · rw [List.getElem?_set_ne hj] at e
    obtain ⟨o, h1, h2⟩ := S.sl j sv e
    refine ⟨o, h1, ?_⟩
    cases sv with
    | un => trivial
    | pu d' => obtain ⟨v', z1, z2⟩ := h2; exact ⟨v', z1, Dp.ex ex z2⟩
    | ow l ds => obtain ⟨z1, xs, z2, z3⟩ := h2; exact ⟨z1, xs, z2, DpAll.ex ex z3⟩
    | kp f => obtain ⟨v', z1, z2⟩ := h2; exact ⟨v', z1, fun H'' z => z2 H'' (ex.trans z)⟩
    | od l f => obtain ⟨z1, xs, z2, z3⟩ := h2; exact ⟨z1, xs, z2, fun H'' z => z3 H'' (ex.trans z)⟩
    | ob w cs f => obtain ⟨z1, xs, z2, z3⟩ := h2; exact ⟨z1, xs, z2, fun H'' z => z3 H'' (ex.trans z)⟩
theorem SX.forget (i : Nat) (h : SX X rest (τ.set i .un) R) : SX X rest τ R := ⟨fun C σ H D W tk S k => h.run C σ H D W tk (S.forget i) k⟩
/-- x = e -/
theorem SX.asg (i : Nat) {p' : Pos} (h1 : EV X e τ d τ1) (h : SX X rest (τ1.set i (.pu d)) R) (hN : X.N.Nodup := by assumption) (hi : X.N[i]? = some x := by rfl) (hx : Loc X.env.scope x := by first | exact Or.inl rfl | exact Or.inr rfl)
    (hs : swapsWith e (some (.Name x p')) pos.line X.env = pure false := by rfl) (hf : X.fn x = true ∨ X.env.scope.names.lookup x = some .local := by first | exact .inl rfl | exact .inr rfl) : SX X (.Assign [.Name x p'] e pos :: rest) τ R :=
  SX.seq (ps_set hN hi hx pe_self hs hf) fun C σ H D W tk S k => h1.run C σ H _ S fun v H' g S' p1 => k (.nx (τ1.set i (.pu d))) h _ _ (S'.set p1 i)
theorem SX.ret (h1 : EV X e τ d τ1) (h : R (.rt d τ1)) : SX X (.Return (some e) pos :: rest) τ R :=
  SX.seq (ps_ret pe_self) fun C σ H D W tk S k => h1.run C σ H _ S fun v H' g S' p1 => k (.rt d τ1) h σ v H' S' p1
theorem SX.retR {c : Str} (h1 : ER X e τ c) (h : R (.xc c τ)) : SX X (.Return (some e) pos :: rest) τ R :=
  SX.seq (ps_ret pe_self) fun C σ H D W tk S k => h1.run C σ H _ W tk S fun H' S' => k (.xc c τ) h σ H' S'
theorem SX.expr (h1 : EV X e τ d τ1) (h : SX X rest τ1 R) (hs : swapsWith e none pos.line X.env = pure false := by rfl) : SX X (.Expr e pos :: rest) τ R :=
  SX.seq (ps_expr pe_self hs) fun C σ H D W tk S k => h1.run C σ H _ S fun v H' g S' p1 => k (.nx τ1) h _ _ S'
theorem SX.exprR {c : Str} (h1 : ER X e τ c) (h : R (.xc c τ)) (hs : swapsWith e none pos.line X.env = pure false := by rfl) : SX X (.Expr e pos :: rest) τ R :=
  SX.seq (ps_expr pe_self hs) fun C σ H D W tk S k => h1.run C σ H _ W tk S fun H' S' => k (.xc c τ) h σ H' S'
theorem SX.iteT (h1 : ET X c τ true τ1) (h : SX X A τ1 (seqO X rest R)) : SX X (.If c A B pos :: rest) τ R :=
  SX.seq (ps_if pt_self pss_self (u := WSs X B) pss_self) fun C σ H D W tk S k => h1.run C σ H _ S fun H' g S' => L2.iteT (h.run C σ H' D W tk S' k)
theorem SX.iteF (h1 : ET X c τ false τ1) (h : SX X B τ1 (seqO X rest R)) : SX X (.If c A B pos :: rest) τ R :=
  SX.seq (ps_if pt_self (t := WSs X A) pss_self pss_self) fun C σ H D W tk S k => h1.run C σ H _ S fun H' g S' => L2.iteF (h.run C σ H' D W tk S' k)
theorem SX.ite {k : Bool} (h1 : ET X c τ k τ1) (h : k = true → SX X A τ1 (seqO X rest R)) (h' : k = false → SX X B τ1 (seqO X rest R)) : SX X (.If c A B pos :: rest) τ R := by
  cases k with
  | true => exact SX.iteT h1 (h rfl)
  | false => exact SX.iteF h1 (h' rfl)
/-- nothing is raised from here on -/
theorem SX.nox (h : SX X.nox rest τ R) (hR : ∀ c τ', ¬ R (.xc c τ')) : SX X rest τ R := SX.mk fun C σ H D W tk S k =>
  WSs.of (PSs.nox (t := WSs X.nox rest) pss_self) (h.run C σ H D (fun _ _ _ _ => False) takes0 S fun o ho => by
    cases o with
    | nx τ' => exact k _ ho
    | rt d' τ' => exact k _ ho
    | bk τ' => exact k _ ho
    | ct τ' => exact k _ ho
    | xc c' τ' => exact absurd ho (hR c' τ')
    | ro i' τ' => exact k _ ho
    | rk d' τ' => exact k _ ho)
theorem SX.noxR {d : PyData} (h : SX X.nox rest τ (DL.ret d)) : SX X rest τ (DL.ret d) := SX.nox h fun _ _ z => z
theorem SX.pass (h : SX X rest τ R) : SX X (.Pass pos :: rest) τ R := SX.seq ps_pass fun C σ H D W tk S k => k (.nx τ) h _ _ S
theorem SX.brk (h : R (.bk τ)) : SX X (.Break pos :: rest) τ R := SX.seq ps_break fun C σ H D W tk S k => k (.bk τ) h _ _ S
theorem SX.cont (h : R (.ct τ)) : SX X (.Continue pos :: rest) τ R := SX.seq ps_continue fun C σ H D W tk S k => k (.ct τ) h _ _ S
end

/-! ### a def by its body -/
section
variable {P : Program} {w : World} {K : PySem.W.Frag} {mg : Str → Option Value} {base : Heap}
theorem sl_start {ps N : List Str} {vs : List V} {ds : List PyData} {L : List Addr} {H : Hp} (dm : Dom L H) (h : DpAll K (hide L H) vs ds) (hl : ds.length ≤ N.length) :
    Sl K ⟨L, [], H⟩ H (L2.start N vs) (ds.map SV.pu ++ List.replicate (N.length - ds.length) SV.un) := by
  have no : own (ds.map SV.pu ++ List.replicate (N.length - ds.length) SV.un) = [] := by
    unfold own
    rw [List.flatMap_append]
    have e1 : (ds.map SV.pu).flatMap ownA = [] := List.flatMap_eq_nil_iff.mpr fun x hx => by
      obtain ⟨d, _, rfl⟩ := List.mem_map.mp hx; rfl
    have e2 : (List.replicate (N.length - ds.length) SV.un).flatMap ownA = [] := List.flatMap_eq_nil_iff.mpr fun x hx => by
      rw [(List.mem_replicate.mp hx).2]; rfl
    rw [e1, e2]; rfl
  have hlen := DpAll.len h
  refine ⟨?_, fun i sv e => ?_, fun a o _ q => q, fun l hl => ?_, dm, fun a ha => (nomatch ha), fun l hl => by rw [no] at hl; cases hl⟩
  · unfold L2.start
    rw [List.length_append, List.length_map, List.length_replicate, List.length_append, List.length_map, List.length_replicate, hlen]
  · rw [no, List.append_nil]
    unfold L2.start
    by_cases hi : i < ds.length
    · rw [List.getElem?_append_left (by simpa using hi), List.getElem?_map, List.getElem?_eq_getElem hi] at e
      have e2 : SV.pu ds[i] = sv := Option.some.inj e
      subst e2
      obtain ⟨v, h1, h2⟩ := DpAll.get h (List.getElem?_eq_getElem hi)
      refine ⟨some v, ?_, v, rfl, h2⟩
      rw [List.getElem?_append_left (by simpa [hlen] using hi), List.getElem?_map, h1]; rfl
    · rw [List.getElem?_append_right (by simpa using hi), List.getElem?_replicate] at e
      split at e
      · rename_i h2
        have e2 : SV.un = sv := Option.some.inj e
        subst e2
        refine ⟨none, ?_, trivial⟩
        rw [List.getElem?_append_right (by simp [hlen]; omega), List.getElem?_replicate, List.length_map, hlen]
        rw [List.length_map] at h2
        rw [if_pos h2]
      · cases e
  · rw [no] at hl; cases hl
/-- a pure def keeps its promise -/
theorem fn_pure {x qual : Str} {params : Arguments} {body : List Stmt} {scope : Scope} {f : Addr} {fd : FuncData} {N ps : List Str} {k : Nat} {R : List PyData → Res → Prop} (F : FunD K x qual params body scope [] [] f fd) (S : FnScope N ps scope)
    (len : ∀ ds r, R ds r → ds.length = ps.length)
    (hb : ∀ (cdv : Value) (A : Around) (outer : List Env) (s : Shared) (H : Hp) (E : XK) (ds : List PyData) (r : Res), Room k (A.deeper (envOfC qual scope s.heap.objs.size f cdv)) → R ds r →
      SX (cxOf (L2.CX P w) P w K mg base N qual scope f cdv A outer s H E) body (ds.map SV.pu ++ List.replicate (N.length - ds.length) SV.un) (resO r)) :
    FnOk P w K mg base (L2.CX P w) (k + 1) f fd ps (spP K R) := by
  have hpl : ps.length ≤ N.length := by have := congrArg List.length S.pre; rw [List.length_take] at this; omega
  refine F.ok S (fun vs H Q E h => ?_) (fun cdv A outer s H vs Q E hr h => ?_)
  · obtain ⟨L, ds, r, dm, p, hR, _⟩ := h
    rw [DpAll.len p]; exact len ds r hR
  · obtain ⟨L, ds, r, dm, p, hR, q⟩ := h
    have hl := len ds r hR
    refine ⟨_, pss_self, (hb cdv A outer s H E ds r hr hR).run ⟨L, [], H⟩ _ H _ (fun cls d _ H => E cls d H) (takes_of rfl rfl rfl rfl) (sl_start (ps := ps) dm p (by omega)) fun o ho => ?_⟩
    have hEx : ∀ {σ' : L2.St} {τ' : List SV} {H' : Hp}, Sl K ⟨L, [], H⟩ H' σ' τ' → Ex H H' := fun S' a u e => S'.gr a u (fun z => nomatch z) e
    cases r with
    | ok d =>
      cases o with
      | rt d' τ' =>
        have e : d' = d := ho
        subst e
        exact fun σ' v H' S' p' => q v H' (hEx S') (Dp.ex (hide_mono fun a z => List.mem_append_left _ z) p')
      | nx τ' =>
        have e : d = .none := ho
        subst e
        exact fun σ' H' S' => q .non H' (hEx S') .non
      | bk τ' => exact False.elim ho
      | ct τ' => exact False.elim ho
      | xc c' τ' => exact False.elim ho
      | rk d' τ' => exact False.elim ho
      | ro i' τ' => exact False.elim ho
    | ex c =>
      cases o with
      | xc c' τ' =>
        have e : c' = c := ho
        subst e
        exact fun σ' H' S' => q H' (hEx S')
      | nx τ' => exact False.elim ho
      | rt d τ' => exact False.elim ho
      | bk τ' => exact False.elim ho
      | ct τ' => exact False.elim ho
      | rk d' τ' => exact False.elim ho
      | ro i' τ' => exact False.elim ho
end
end DL

set_option maxRecDepth 100000
set_option maxHeartbeats 2000000
/-! DLd: what is walked, comprehensions, for. -/
namespace DL
open PySem L2
/-! ### own, set, wipe -/
def nOw : Option SV → Bool
  | some (.ow _ _) => false
  | some (.od _ _) => false
  | some (.ob _ _ _) => false
  | _ => true
theorem own_set {τ : List SV} {i : Nat} {sv : SV} (h : nOw τ[i]? = true) (hs : ownA sv = []) : own (τ.set i sv) = own τ := by
  induction τ generalizing i with
  | nil => rfl
  | cons t r ih =>
    cases i with
    | zero =>
      have e : ownA t = [] := by
        cases t with
        | un => rfl
        | pu d => rfl
        | ow l ds => simp [nOw] at h
        | kp f => rfl
        | od l f => simp [nOw] at h
        | ob v cs f => simp [nOw] at h
      show (sv :: r).flatMap ownA = (t :: r).flatMap ownA
      rw [List.flatMap_cons, List.flatMap_cons, e, hs]
    | succ n =>
      have h' : nOw r[n]? = true := by simpa using h
      have q : (r.set n sv).flatMap ownA = r.flatMap ownA := ih h'
      show (t :: r.set n sv).flatMap ownA = (t :: r).flatMap ownA
      rw [List.flatMap_cons, List.flatMap_cons, q]
def wipeT (τ : List SV) : List Nat → List SV
  | [] => τ
  | v :: vs => (wipeT τ vs).set v .un
def noOw (τ : List SV) (vs : List Nat) : Bool := vs.all fun i => nOw τ[i]?
theorem wipeT_len (τ : List SV) : ∀ vs : List Nat, (wipeT τ vs).length = τ.length
  | [] => rfl
  | v :: vs => by unfold wipeT; rw [List.length_set, wipeT_len τ vs]
theorem wipeT_out {τ : List SV} {i : Nat} : ∀ {vs : List Nat}, i ∉ vs → (wipeT τ vs)[i]? = τ[i]?
  | [], _ => rfl
  | v :: vs, h => by
    simp only [List.mem_cons, not_or] at h
    unfold wipeT
    rw [List.getElem?_set_ne (fun e => h.1 e.symm)]
    exact wipeT_out h.2
theorem wipeT_own {τ : List SV} : ∀ {vs : List Nat}, noOw τ vs = true → own (wipeT τ vs) = own τ
  | [], _ => rfl
  | v :: vs, h => by
    have h1 : nOw τ[v]? = true ∧ noOw τ vs = true := by
      unfold noOw at h
      rw [List.all_cons, Bool.and_eq_true] at h
      exact h
    unfold wipeT
    have ih := wipeT_own h1.2
    by_cases hv : v ∈ vs
    · rw [own_set ?_ rfl, ih]
      have : ∀ (vs : List Nat), v ∈ vs → nOw (wipeT τ vs)[v]? = true := by
        intro vs
        induction vs with
        | nil => intro z; cases z
        | cons u us ihu =>
          intro z
          unfold wipeT
          by_cases hu : u = v
          · subst hu
            by_cases hl : u < (wipeT τ us).length
            · rw [List.getElem?_set_self hl]; rfl
            · rw [List.getElem?_eq_none (by simpa using hl)]; rfl
          · rw [List.getElem?_set_ne hu]
            exact ihu (by rcases List.mem_cons.mp z with q | q; exact absurd q.symm hu; exact q)
      exact this vs hv
    · rw [own_set ?_ rfl, ih]
      rw [wipeT_out hv]; exact h1.1
theorem wipe_out' {σ : L2.St} {i : Nat} {vs : List Nat} (h : i ∉ vs) : (wipe σ vs)[i]? = σ[i]? := wipe_out h
theorem wipe_in {σ : L2.St} {i : Nat} : ∀ {vs : List Nat}, i ∈ vs → i < σ.length → (wipe σ vs)[i]? = some none
  | [], h, _ => by cases h
  | v :: vs, h, hl => by
    unfold wipe
    by_cases hv : v = i
    · subst hv
      rw [List.getElem?_set_self (by rw [wipe_length]; exact hl)]
    · rw [List.getElem?_set_ne hv]
      exact wipe_in (by rcases List.mem_cons.mp h with q | q; exact absurd q.symm hv; exact q) hl
theorem wipe_ext {σ σ2 : L2.St} {vs : List Nat} (hl : σ2.length = σ.length) (h : ∀ i, i ∉ vs → σ2[i]? = σ[i]?) : wipe σ2 vs = wipe σ vs := by
  apply List.ext_getElem?
  intro i
  by_cases hi : i ∈ vs
  · by_cases hlt : i < σ.length
    · rw [wipe_in hi (by omega), wipe_in hi hlt]
    · rw [List.getElem?_eq_none (by rw [wipe_length]; omega), List.getElem?_eq_none (by rw [wipe_length]; omega)]
  · rw [wipe_out' hi, wipe_out' hi, h i hi]
theorem wipe_wipe (σ : L2.St) (vs : List Nat) : wipe (wipe σ vs) vs = wipe σ vs := wipe_ext (wipe_length σ vs) fun i hi => wipe_out' hi
section
variable {K : PySem.W.Frag} {C : Fc} {H H' : Hp} {σ : L2.St} {τ : List SV}
theorem Sl.drop1 (S : Sl K C H σ τ) (i : Nat) : Sl K C H (σ.set i none) (τ.set i .un) := by
  have S1 := S.forget i
  refine ⟨by simp [S.len], fun j sv e => ?_, S1.gr, S1.ow, S1.dm, S1.mm, S1.nl⟩
  by_cases hj : i = j
  · subst hj
    by_cases hl : i < τ.length
    · rw [List.getElem?_set_self hl] at e
      have e2 : SV.un = sv := Option.some.inj e
      subst e2
      exact ⟨none, by rw [List.getElem?_set_self (by rw [S.len]; exact hl)], trivial⟩
    · rw [List.getElem?_eq_none (by simpa using hl)] at e; cases e
  · obtain ⟨o, h1, h2⟩ := S1.sl j sv e
    exact ⟨o, by rw [List.getElem?_set_ne hj]; exact h1, h2⟩
theorem Sl.wipe (S : Sl K C H σ τ) : ∀ vs : List Nat, Sl K C H (L2.wipe σ vs) (wipeT τ vs)
  | [] => S
  | v :: vs => (Sl.wipe S vs).drop1 v
/-- behind a block: its own names stand as they stood -/
theorem Sl.restore {τ2 : List SV} {vs : List Nat} (S : Sl K C H σ τ) (no : noOw τ vs = true) (g : Ex (hide (C.L0 ++ own τ) H) (hide (C.L0 ++ own τ) H')) (S2 : Sl K C H' (L2.wipe σ vs) (wipeT τ2 vs)) (ho : own τ2 = own τ) (hv : ∀ i, i ∈ vs → τ2[i]? = τ[i]?) : Sl K C H' σ τ2 := by
  have no2 : noOw τ2 vs = true := by
    unfold noOw at no ⊢
    rw [List.all_eq_true] at no ⊢
    intro i hi
    rw [hv i hi]; exact no i hi
  have o2 : own (wipeT τ2 vs) = own τ2 := wipeT_own no2
  have hlen : τ2.length = τ.length := by
    have h1 := S2.len
    rw [wipe_length, wipeT_len, S.len] at h1
    exact h1.symm
  refine ⟨by rw [S.len, hlen], fun i sv e => ?_, S2.gr, fun l hl => S2.ow l (by rw [o2]; exact hl), S2.dm, S2.mm, fun l hl => S2.nl l (by rw [o2]; exact hl)⟩
  by_cases hi : i ∈ vs
  · rw [hv i hi] at e
    obtain ⟨o, h1, h2⟩ := S.sl i sv e
    refine ⟨o, h1, ?_⟩
    rw [ho]
    cases sv with
    | un => trivial
    | pu d => obtain ⟨v, z1, z2⟩ := h2; exact ⟨v, z1, Dp.ex g z2⟩
    | ow l ds =>
      unfold noOw at no
      rw [List.all_eq_true] at no
      have := no i hi
      rw [e] at this; cases this
    | kp f => obtain ⟨v', z1, z2⟩ := h2; exact ⟨v', z1, fun H'' z => z2 H'' (g.trans z)⟩
    | od l f =>
      unfold noOw at no
      rw [List.all_eq_true] at no
      have := no i hi
      rw [e] at this; cases this
    | ob w cs f =>
      unfold noOw at no
      rw [List.all_eq_true] at no
      have := no i hi
      rw [e] at this; cases this
  · have e' : (wipeT τ2 vs)[i]? = some sv := by rw [wipeT_out hi]; exact e
    obtain ⟨o, h1, h2⟩ := S2.sl i sv e'
    rw [wipe_out' hi] at h1
    rw [o2] at h2
    exact ⟨o, h1, h2⟩
theorem hide_upd {L : List Addr} {H : Hp} {p : Addr} {o : HO} (h : p ∈ L) : hide L (upd H p o) = hide L H := by
  funext a
  by_cases ha : a ∈ L
  · rw [hide_in ha, hide_in ha]
  · rw [hide_out ha, hide_out ha, upd_ne (show a ≠ p from fun e => ha (e ▸ h))]
/-- a hidden object changes -/
theorem Sl.updHid {p : Addr} {o : HO} (S : Sl K C H σ τ) (h : p ∈ C.L0) (hn : p ∉ own τ) (hM : p ∉ C.M) (h0 : C.H0 p = none) : Sl K C (upd H p o) σ τ := by
  have e : hide (C.L0 ++ own τ) (upd H p o) = hide (C.L0 ++ own τ) H := hide_upd (List.mem_append_left _ h)
  refine ⟨S.len, fun i sv q => ?_, fun a u n q => ?_, S.ow, fun a ha z => ?_, fun a ha z => ?_, S.nl⟩
  · obtain ⟨v, h1, h2⟩ := S.sl i sv q
    refine ⟨v, h1, ?_⟩
    cases sv with
    | un => trivial
    | pu d => obtain ⟨v, z1, z2⟩ := h2; exact ⟨v, z1, by rw [e]; exact z2⟩
    | ow l ds =>
      obtain ⟨z1, xs, z2, z3⟩ := h2
      exact ⟨z1, xs, by rw [upd_ne (show l ≠ p from fun z => hn (z ▸ own_mem q))]; exact z2, by rw [e]; exact z3⟩
    | kp f => obtain ⟨v, z1, z2⟩ := h2; exact ⟨v, z1, by rw [e]; exact z2⟩
    | od l f =>
      obtain ⟨z1, xs, z2, z3⟩ := h2
      exact ⟨z1, xs, by rw [upd_ne (show l ≠ p from fun z => hn (z ▸ own_mem' q (List.mem_singleton.mpr rfl)))]; exact z2, by rw [e]; exact z3⟩
    | ob w cs f =>
      obtain ⟨z1, xs, z2, z3⟩ := h2
      exact ⟨z1, xs, by rw [cells_upd (cs := cs) (fun z => hn (own_mem' q z))]; exact z2, by rw [e]; exact z3⟩
  · rw [upd_ne (fun z => by rw [z, h0] at q; cases q)]; exact S.gr a u n q
  · by_cases c : a = p
    · rw [c, upd_same] at z; cases z
    · rw [upd_ne c] at z; exact S.dm a ha z
  · by_cases c : a = p
    · rw [c, upd_same] at z; cases z
    · rw [upd_ne c] at z; exact S.mm a ha z
theorem Sl.no0 {p : Addr} (S : Sl K C H σ τ) (h : H p = none) : p ∉ own τ ∧ p ∉ C.M ∧ C.H0 p = none := by
  have hM : p ∉ C.M := S.mm.fresh h
  refine ⟨fun z => S.dom p (List.mem_append_right _ z) h, hM, ?_⟩
  cases q : C.H0 p with
  | none => rfl
  | some o => rw [S.gr p o hM q] at h; cases h
/-- a new object is laid, and hidden -/
theorem Sl.addHid {p : Addr} {o : HO} (S : Sl K C H σ τ) (h : H p = none) : Sl K { C with L0 := p :: C.L0 } (upd H p o) σ τ := by
  obtain ⟨n1, n2, n3⟩ := S.no0 h
  have np : p ∉ C.L0 ++ own τ := S.dom.fresh h
  have ex : Ex (hide (C.L0 ++ own τ) H) (hide ((p :: C.L0) ++ own τ) (upd H p o)) := fun a u q => by
    obtain ⟨z1, z2⟩ := hide_some q
    have na : a ≠ p := fun e => by rw [e, h] at z2; cases z2
    rw [hide_out (fun z => by rcases List.mem_cons.mp (show a ∈ p :: (C.L0 ++ own τ) from z) with y | y; exact na y; exact z1 y), upd_ne na]
    exact z2
  refine ⟨S.len, fun i sv q => ?_, fun a u n q => ?_, S.ow, fun a ha z => ?_, fun a ha z => ?_, fun l hl z => by
    rcases List.mem_cons.mp z with y | y
    · exact n1 (y ▸ hl)
    · exact S.nl l hl y⟩
  · obtain ⟨v, h1, h2⟩ := S.sl i sv q
    refine ⟨v, h1, ?_⟩
    cases sv with
    | un => trivial
    | pu d => obtain ⟨v, z1, z2⟩ := h2; exact ⟨v, z1, Dp.ex ex z2⟩
    | ow l ds =>
      obtain ⟨z1, xs, z2, z3⟩ := h2
      exact ⟨z1, xs, by rw [upd_ne (show l ≠ p from fun z => n1 (z ▸ own_mem q))]; exact z2, DpAll.ex ex z3⟩
    | kp f => obtain ⟨v, z1, z2⟩ := h2; exact ⟨v, z1, fun H'' z => z2 H'' (ex.trans z)⟩
    | od l f =>
      obtain ⟨z1, xs, z2, z3⟩ := h2
      exact ⟨z1, xs, by rw [upd_ne (show l ≠ p from fun z => n1 (z ▸ own_mem' q (List.mem_singleton.mpr rfl)))]; exact z2, fun H'' z => z3 H'' (ex.trans z)⟩
    | ob w cs f =>
      obtain ⟨z1, xs, z2, z3⟩ := h2
      exact ⟨z1, xs, by rw [cells_upd (cs := cs) (fun z => n1 (own_mem' q z))]; exact z2, fun H'' z => z3 H'' (ex.trans z)⟩
  · have q' : C.H0 a = some u := q
    rw [upd_ne (fun z => by rw [z, n3] at q'; cases q')]; exact S.gr a u n q
  · rcases List.mem_cons.mp ha with c | c
    · rw [c, upd_same] at z; cases z
    · by_cases c' : a = p
      · rw [c', upd_same] at z; cases z
      · rw [upd_ne c'] at z; exact S.dm a c z
  · by_cases c : a = p
    · rw [c, upd_same] at z; cases z
    · rw [upd_ne c] at z; exact S.mm a ha z
/-- no longer hidden -/
theorem Sl.unHid {p : Addr} (S : Sl K { C with L0 := p :: C.L0 } H σ τ) : Sl K C H σ τ := by
  have ex : Ex (hide ((p :: C.L0) ++ own τ) H) (hide (C.L0 ++ own τ) H) := hide_mono fun a z => List.mem_cons_of_mem _ z
  refine ⟨S.len, fun i sv q => ?_, S.gr, S.ow, fun a ha => S.dm a (List.mem_cons_of_mem _ ha), S.mm, fun l hl z => S.nl l hl (List.mem_cons_of_mem _ z)⟩
  obtain ⟨v, h1, h2⟩ := S.sl i sv q
  refine ⟨v, h1, ?_⟩
  cases sv with
  | un => trivial
  | pu d => obtain ⟨v, z1, z2⟩ := h2; exact ⟨v, z1, Dp.ex ex z2⟩
  | ow l ds => obtain ⟨z1, xs, z2, z3⟩ := h2; exact ⟨z1, xs, z2, DpAll.ex ex z3⟩
  | kp f => obtain ⟨v', z1, z2⟩ := h2; exact ⟨v', z1, fun H'' z => z2 H'' (ex.trans z)⟩
  | od l f => obtain ⟨z1, xs, z2, z3⟩ := h2; exact ⟨z1, xs, z2, fun H'' z => z3 H'' (ex.trans z)⟩
  | ob w cs f => obtain ⟨z1, xs, z2, z3⟩ := h2; exact ⟨z1, xs, z2, fun H'' z => z3 H'' (ex.trans z)⟩
end

/-! ### what is walked -/
/-- J gives the data ds, whatever else is laid -/
def Wk (K : PySem.W.Frag) (C : Fc) (τ : List SV) (H1 : Hp) (J : It) (ds : List PyData) : Prop := ∃ (G : Hp → Prop) (Y : Nat → Hp → V → Hp → Prop), Walk J ds.length G Y ∧ (∀ H2, Gw (own τ) H1 H2 → G H2) ∧
  ∀ (i : Nat) (d : PyData) (H2 : Hp) (x : V) (H3 : Hp) (L : List Addr), ds[i]? = some d → Gw (own τ) H1 H2 → Y i H2 x H3 → (∀ a, a ∈ L → a ∈ C.L0 ++ own τ ∨ H1 a = none) → Dom L H2 → Ex H2 H3 ∧ Dp K (hide L H3) x d
structure EVI (X : Cx) (tg it : Expr) (τ : List SV) (ds : List PyData) (τ' : List SV) : Prop where
  ow : own τ' = own τ
  ex : ∃ wi, PI X tg it wi ∧ ∀ (C : Fc) (σ : L2.St) (H : Hp) (R : It → Hp → Prop), Sl X.K C H σ τ → (∀ J H1, Gw (own τ) H H1 → Sl X.K C H1 σ τ' → Wk X.K C τ' H1 J ds → R J H1) → wi σ H R
theorem ex_part {L L1 O : List Addr} {H1 H2 : Hp} (hL : ∀ a, a ∈ L → a ∈ L1 ∨ H1 a = none) (g : Gw O H1 H2) (hO : ∀ a, a ∈ O → a ∈ L1) : Ex (hide L1 H1) (hide L H2) := fun a o h => by
  obtain ⟨h1, h2⟩ := hide_some h
  rw [hide_out (fun z => by rcases hL a z with y | y; exact h1 y; rw [y] at h2; cases h2)]
  exact g a o (fun z => h1 (hO a z)) h2
section
variable {X : Cx} {a b c e tg it : Expr} {es : List Expr} {pos p : Pos} {τ τ1 τ2 τ3 : List SV} {d d1 d2 d3 : PyData} {ds : List PyData}
theorem EVI.lst (h : EV X e τ (.list ds) τ1) : EVI X tg e τ ds τ1 := ⟨h.ow, _, pi_list pe_self, fun C σ H R S q => h.run C σ H _ S fun v H1 g1 S1 p1 => by
  cases p1 with
  | @lst a xs _ hs ha =>
    refine ⟨a, rfl, ⟨xs, sq_ex (hide_ex _ _) hs⟩, q _ H1 g1 S1 ⟨fun H => SqL X.K H a xs, YAt xs, by rw [← DpAll.len ha]; exact walk_list, fun H2 g => ?_, ?_⟩⟩
    · exact sq_ex (fun b o z => g b o (fun y => (hide_some z).1 (List.mem_append_right _ y)) (hide_some z).2) hs
    · rintro i d H2 x H3 L hd g ⟨rfl, hx⟩ hL dm
      refine ⟨Ex.refl _, ?_⟩
      obtain ⟨v, h1, h2⟩ := DpAll.get ha hd
      rw [hx] at h1
      have e : x = v := Option.some.inj h1
      rw [e]
      exact Dp.ex (ex_part hL g fun a z => List.mem_append_right _ z) h2⟩
theorem EVI.tup (h : EV X e τ (.tuple ds) τ1) : EVI X tg e τ ds τ1 := ⟨h.ow, _, pi_tup pe_self, fun C σ H R S q => h.run C σ H _ S fun v H1 g1 S1 p1 => by
  cases p1 with
  | @tup a xs _ hs ha =>
    refine ⟨a, rfl, ⟨xs, st_ex (hide_ex _ _) hs⟩, q _ H1 g1 S1 ⟨fun H => SqT X.K H a xs, YAt xs, by rw [← DpAll.len ha]; exact walk_tup, fun H2 g => ?_, ?_⟩⟩
    · exact st_ex (fun b o z => g b o (fun y => (hide_some z).1 (List.mem_append_right _ y)) (hide_some z).2) hs
    · rintro i d H2 x H3 L hd g ⟨rfl, hx⟩ hL dm
      refine ⟨Ex.refl _, ?_⟩
      obtain ⟨v, h1, h2⟩ := DpAll.get ha hd
      rw [hx] at h1
      have e : x = v := Option.some.inj h1
      rw [e]
      exact Dp.ex (ex_part hL g fun a z => List.mem_append_right _ z) h2⟩
def rng (lo : Int) (n : Nat) : List Int := (List.range n).map fun (i : Nat) => lo + (i : Int)
theorem rng_len (lo : Int) (n : Nat) : (rng lo n).length = n := by unfold rng; simp
theorem rng_get {lo : Int} {n i : Nat} (h : i < n) : (rng lo n)[i]? = some (lo + (i : Int)) := by unfold rng; simp [h]
theorem wk_range {K : PySem.W.Frag} {C : Fc} {H1 : Hp} {lo : Int} {n : Nat} : Wk K C τ H1 (Itr lo n) ((rng lo n).map PyData.int) := by
  refine ⟨fun _ => True, YFn fun i => .int (lo + i), by rw [List.length_map, rng_len]; exact walk_range, fun _ _ => trivial, ?_⟩
  rintro i d H2 x H3 L hd g ⟨rfl, rfl⟩ hL dm
  refine ⟨Ex.refl _, ?_⟩
  have hi : i < n := by
    have := (List.getElem?_eq_some_iff.mp hd).1
    rw [List.length_map, rng_len] at this; exact this
  rw [List.getElem?_map, rng_get hi] at hd
  have e : PyData.int (lo + i) = d := Option.some.inj hd
  rw [← e]; exact .int _
theorem EVI.range1 {j : Int} (hm : X.mg "range" = none) (h : EV X a τ (.int j) τ1) (h1 : -(2 ^ 62) ≤ j ∧ j < 2 ^ 62) (hg : Gl X "range" := by rfl) (hs : starEach [a] X.env = [(false, eval a X.env)] := by rfl) :
    EVI X tg (.Call (.Name "range" p) [a] [] pos) τ ((rng 0 j.toNat).map PyData.int) τ1 := ⟨h.ow, _, pi_range1 hg hm (pa_cons pe_self pa_nil hs) hs, fun C σ H R S q => h.run C σ H _ S fun v H1 g1 S1 p1 => by
  cases p1; exact ⟨j, rfl, h1.1, h1.2, q _ H1 g1 S1 wk_range⟩⟩
theorem EVI.range2 {i j : Int} (hm : X.mg "range" = none) (h : EV X a τ (.int i) τ1) (h' : EV X b τ1 (.int j) τ2) (hb : -(2 ^ 62) ≤ i ∧ i < 2 ^ 62 ∧ -(2 ^ 62) ≤ j ∧ j < 2 ^ 62) (hg : Gl X "range" := by rfl) (hs : starEach [a, b] X.env = [(false, eval a X.env), (false, eval b X.env)] := by rfl) (hs2 : starEach [b] X.env = [(false, eval b X.env)] := by rfl) :
    EVI X tg (.Call (.Name "range" p) [a, b] [] pos) τ ((rng i (j - i).toNat).map PyData.int) τ2 := ⟨h'.ow.trans h.ow, _, pi_range2 hg hm (pa_cons pe_self (pa_cons pe_self pa_nil hs2) (by rw [hs, hs2])) hs hs2, fun C σ H R S q => h.run C σ H _ S fun v H1 g1 S1 p1 => h'.run C σ H1 _ S1 fun v2 H2 g2 S2 p2 => by
  cases p1; cases p2; exact ⟨i, j, rfl, hb, q _ H2 (g1.trans (h.ow ▸ g2)) S2 wk_range⟩⟩

/-! ### targets -/
/-- the target's reading g puts d into the slots -/
structure EG (K : PySem.W.Frag) (g : TG) (vs : List Nat) (τ : List SV) (d : PyData) (τ' : List SV) : Prop where
  ow : own τ' = own τ
  run : ∀ (C : Fc) (σ : L2.St) (H : Hp) (v : V) (Q : L2.St → Hp → Prop), Sl K C H σ τ → Dp K (hide (C.L0 ++ own τ) H) v d → (∀ σ2, wipe σ2 vs = wipe σ vs → Sl K C H σ2 τ' → Q σ2 H) → g v σ H Q
theorem EG.name {K : PySem.W.Frag} {vs : List Nat} (i : Nat) (hv : i ∈ vs) (no : nOw τ[i]? = true) : EG K (gName i) vs τ d (τ.set i (.pu d)) :=
  ⟨own_set no rfl, fun C σ H v Q S p q => q _ (wipe_ext (by simp) fun j hj => by rw [List.getElem?_set_ne (show i ≠ j from fun e => hj (e ▸ hv))]) (S.set p i)⟩
theorem EG.pair {K : PySem.W.Frag} {vs : List Nat} (i j : Nat) (hi : i ∈ vs) (hj : j ∈ vs) (no : nOw τ[i]? = true) (no2 : nOw (τ.set i (.pu d1))[j]? = true) :
    EG K (gTup K 2 (gCons (gName i) (gCons (gName j) gNil))) vs τ (.tuple [d1, d2]) ((τ.set i (.pu d1)).set j (.pu d2)) :=
  ⟨(own_set no2 rfl).trans (own_set no rfl), fun C σ H v Q S p q => by
    cases p with
    | @tup a xs _ hs ha =>
      cases ha with
      | cons q1 ha =>
        cases ha with
        | cons q2 ha =>
          cases ha
          rename_i x y
          refine ⟨a, [x, y], rfl, st_ex (hide_ex _ _) hs, rfl, x, [y], rfl, y, [], rfl, rfl, ?_⟩
          have S1 := S.set q1 i
          have S2 := S1.set (i := j) (v := y) (d := d2) (by rw [own_set no rfl]; exact q2)
          refine q _ ?_ S2
          exact wipe_ext (by simp) fun k hk => by rw [List.getElem?_set_ne (show j ≠ k from fun e => hk (e ▸ hj)), List.getElem?_set_ne (show i ≠ k from fun e => hk (e ▸ hi))]⟩
end
end DL

set_option maxRecDepth 100000
set_option maxHeartbeats 2000000
/-! DLe: comprehensions, for loops. -/
namespace DL
open PySem L2
/-- the context within a comprehension's block -/
abbrev blkX (X : Cx) (scope : Scope) (s : Shared) (H : Hp) (C : Addr) (cl : List (Str × Addr)) (fp : List Addr) : Cx := X.blk s H scope (compEnvC scope cl C X.env) fp
/-- for every start of the block -/
abbrev InBlk (X : Cx) (scope : Scope) (P : Cx → Prop) : Prop := ∀ (s : Shared) (H : Hp) (C : Addr) (cl : List (Str × Addr)) (fp : List Addr), P (blkX X scope s H C cl fp)
def teB (X : Cx) (scope : Scope) (e : Expr) : TE := fun σ H Q => InBlk X scope fun X' => WE X' e σ H Q
def ttB (X : Cx) (scope : Scope) (e : Expr) : TT := fun σ H Q => InBlk X scope fun X' => WT X' e σ H Q
/-- the tests of a comprehension: none or one -/
def ttI (X : Cx) (scope : Scope) : List Expr → TT
  | [c] => ttB X scope c
  | _ => tYes
/-- a comprehension, from τ to τ', its list ds -/
structure LC (X : Cx) (elt tg iter : Expr) (ifs : List Expr) (scope : Scope) (ow_ : List (Str × Nat)) (τ : List SV) (ds : List PyData) (τ' : List SV) : Prop where
  ow : own τ' = own τ
  ex : ∃ wi g tt te, PI X tg iter wi ∧ BlkOk X.N X.env.scope scope ow_ ∧ (InBlk X scope fun X' => PG X' tg g) ∧ (InBlk X scope fun X' => PTs X' ifs tt) ∧ (InBlk X scope fun X' => PE X' elt te) ∧
    ∀ (C : Fc) (σ : L2.St) (H : Hp) (Q : VK), Sl X.K C H σ τ → (∀ p H' xs, Gw (own τ) H H' → H p = none → H' p = some (.lst xs) → DpAll X.K (hide ((p :: C.L0) ++ own τ') H') xs ds → Sl X.K { C with L0 := p :: C.L0 } H' σ τ' → Q (.ref p) H') → tLc wi g tt te (ow_.map (·.2)) σ H Q
def outs (k : Nat → Bool) (g : Nat → PyData) (n : Nat) : List PyData := (List.range n).filterMap fun i => if k i = true then some (g i) else none
theorem outs_succ (k : Nat → Bool) (g : Nat → PyData) (n : Nat) : outs k g (n + 1) = if k n = true then outs k g n ++ [g n] else outs k g n := by
  unfold outs
  rw [List.range_succ, List.filterMap_append]
  by_cases h : k n = true
  · rw [if_pos h]; simp [h]
  · rw [if_neg h]; simp [h]
theorem outs_len (k : Nat → Bool) (g : Nat → PyData) (n : Nat) : (outs k g n).length ≤ n := by
  unfold outs
  exact Nat.le_trans (List.length_filterMap_le _ _) (by simp)
def TestsIs (X : Cx) (scope : Scope) (ifs : List Expr) (τt : List SV) (k : Bool) (τt2 : List SV) : Prop := match ifs with
  | [] => k = true ∧ τt2 = τt
  | [c] => InBlk X scope fun X' => ET X' c τt k τt2
  | _ => False
/-- one turn: the target, the test, the element -/
structure LTurn (X : Cx) (elt : Expr) (ifs : List Expr) (scope : Scope) (g : TG) (vs : List Nat) (τ : List SV) (d : PyData) (k : Bool) (y : PyData) (τ' : List SV) : Prop where
  ex : ∃ τt τt2, EG X.K g vs (wipeT τ vs) d τt ∧ TestsIs X scope ifs τt k τt2 ∧
    (k = true → ∃ τt3, (InBlk X scope fun X' => EV X' elt τt2 y τt3) ∧ wipeT τt3 vs = wipeT τ' vs) ∧ (k = false → wipeT τt2 vs = wipeT τ' vs)
theorem ifs_pts {X : Cx} {ifs : List Expr} {scope : Scope} (h : ifs.length ≤ 1) : InBlk X scope fun X' => PTs X' ifs (ttI X scope ifs) := fun s H C cl fp => by
  match ifs, h with
  | [], _ => exact pts_nil
  | [c], _ => exact pts_one (t := ttB X scope c) ⟨fun pins s' σ H' Q I q => q s H C cl fp pins s' I⟩
theorem LC.mk' {X : Cx} {elt tg iter : Expr} {ifs : List Expr} {scope : Scope} {ow_ : List (Str × Nat)} {τ τ1 : List SV} {ds : List PyData} {g : TG} (hi : EVI X tg iter τ ds τ1) (τf : Nat → List SV) (k : Nat → Bool) (y : Nat → PyData)
    (h0 : τf 0 = τ1) (hown : ∀ i, own (τf i) = own τ1) (hvs : ∀ i j, j ∈ ow_.map (·.2) → (τf i)[j]? = τ1[j]?) (no : noOw τ1 (ow_.map (·.2)) = true) (hl : ifs.length ≤ 1) (hz : ds.length < sizeLine)
    (ok : BlkOk X.N X.env.scope scope ow_) (hg : InBlk X scope fun X' => PG X' tg g)
    (turn : ∀ i d, ds[i]? = some d → LTurn X elt ifs scope g (ow_.map (·.2)) (τf i) d (k i) (y i) (τf (i + 1))) : LC X elt tg iter ifs scope ow_ τ (outs k y ds.length) (τf ds.length) := by
  refine ⟨(hown _).trans hi.ow, ?_⟩
  obtain ⟨wi, hpi, hrun⟩ := hi.ex
  refine ⟨wi, g, ttI X scope ifs, teB X scope elt, hpi, ok, hg, ifs_pts hl, fun s H C cl fp => ⟨fun pins s' σ H' Q I q => q s H C cl fp pins s' I⟩, fun C σ H Q S q => ?_⟩
  refine hrun C σ H _ S fun J H1 g1 S1 wk => ?_
  intro D hD
  obtain ⟨G, Y, W, hG, hY⟩ := wk
  obtain ⟨nD1, nD2, nD3⟩ := S1.no0 hD
  have nDL : D ∉ C.L0 ++ own τ1 := S1.dom.fresh hD
  have nof : ∀ i, noOw (τf i) (ow_.map (·.2)) = true := fun i => by
    unfold noOw at no ⊢
    rw [List.all_eq_true] at no ⊢
    intro j hj
    rw [hvs i j hj]; exact no j hj
  have wown : ∀ i, own (wipeT (τf i) (ow_.map (·.2))) = own τ1 := fun i => (wipeT_own (nof i)).trans (hown i)
  refine lc_it W (fun i H => ∃ acc, H D = some (.lst acc) ∧ DpAll X.K (hide ((D :: C.L0) ++ own τ1) H) acc (outs k y i) ∧ Sl X.K { C with L0 := D :: C.L0 } H (wipe σ (ow_.map (·.2))) (wipeT (τf i) (ow_.map (·.2))) ∧ Gw (own τ1) H1 H) ?_ ?_ ?_ ?_
  · refine ⟨[], upd_same, .nil, ?_, Gw.of (Ex.new hD)⟩
    rw [h0]
    exact (S1.addHid hD).wipe _
  · rintro i H2 _ ⟨acc, _, _, _, gw⟩
    exact hG H2 gw
  · rintro i x H2 H2' hi' ⟨acc, e1, e2, e3, gw⟩ yy
    have hd : ds[i]? = some ds[i] := List.getElem?_eq_getElem hi'
    obtain ⟨ex, dx⟩ := hY i ds[i] H2 x H2' ((D :: C.L0) ++ own τ1) hd gw yy (fun a ha => by
      rcases List.mem_cons.mp (show a ∈ D :: (C.L0 ++ own τ1) from ha) with z | z
      · exact .inr (z ▸ hD)
      · exact .inl z) (by have := e3.dom; rw [wown i] at this; exact this)
    obtain ⟨τt, τt2, hEG, hT, hE1, hE2⟩ := (turn i ds[i] hd).ex
    have S2 := e3.ex ex
    have ot : own τt = own τ1 := hEG.ow.trans (wown i)
    refine hEG.run _ _ H2' x _ S2 (by rw [wown i]; exact dx) fun σ2 hw S3 => ⟨hw.trans (wipe_wipe _ _), ?_⟩
    have e1' : H2' D = some (.lst acc) := ex _ _ e1
    have e2' : DpAll X.K (hide ((D :: C.L0) ++ own τ1) H2') acc (outs k y i) := DpAll.ex ex.hide e2
    have gw' : Gw (own τ1) H1 H2' := gw.trans (Gw.of ex)
    -- the element
    have elem : ∀ H3, Gw (own τ1) H2' H3 → own τt2 = own τ1 → Sl X.K { C with L0 := D :: C.L0 } H3 σ2 τt2 → (if k i = true then teB X scope elt σ2 H3 fun y_1 H4 => ∃ acc, H4 D = some (.lst acc) ∧ acc.length < sizeLine ∧
        (∃ acc_1, upd H4 D (.lst (acc ++ [y_1])) D = some (.lst acc_1) ∧ DpAll X.K (hide ((D :: C.L0) ++ own τ1) (upd H4 D (.lst (acc ++ [y_1])))) acc_1 (outs k y (i + 1)) ∧ Sl X.K { C with L0 := D :: C.L0 } (upd H4 D (.lst (acc ++ [y_1]))) (wipe σ (ow_.map (·.2))) (wipeT (τf (i + 1)) (ow_.map (·.2))) ∧ Gw (own τ1) H1 (upd H4 D (.lst (acc ++ [y_1]))))
        else (∃ acc, H3 D = some (.lst acc) ∧ DpAll X.K (hide ((D :: C.L0) ++ own τ1) H3) acc (outs k y (i + 1)) ∧ Sl X.K { C with L0 := D :: C.L0 } H3 (wipe σ (ow_.map (·.2))) (wipeT (τf (i + 1)) (ow_.map (·.2))) ∧ Gw (own τ1) H1 H3)) := by
      intro H3 g3 o2 S4
      have f1 : H3 D = some (.lst acc) := g3 _ _ nD1 e1'
      have f2 : DpAll X.K (hide ((D :: C.L0) ++ own τ1) H3) acc (outs k y i) := DpAll.ex (Gw.hide g3 fun a z => List.mem_append_right _ z) e2'
      cases hk : k i with
      | true =>
        rw [if_pos rfl]
        obtain ⟨τt3, hEV, hw3⟩ := hE1 hk
        intro s0 H0 C0 cl fp
        have ev := hEV s0 H0 C0 cl fp
        refine ev.run _ σ2 H3 _ S4 fun v H4 g4 S5 p5 => ?_
        have o3 : own τt3 = own τ1 := ev.ow.trans o2
        rw [o2] at g4
        refine ⟨acc, g4 _ _ nD1 f1, ?_, acc ++ [v], upd_same, ?_, ?_, ?_⟩
        · rw [DpAll.len f2]
          exact Nat.lt_of_le_of_lt (outs_len k y i) (Nat.lt_trans hi' hz)
        · rw [hide_upd (by simp), outs_succ, if_pos hk]
          refine DpAll.snoc (DpAll.ex (Gw.hide g4 fun a z => List.mem_append_right _ z) f2) ?_
          rw [← o3]; exact p5
        · have S6 := S5.wipe (ow_.map (·.2))
          rw [hw.trans (wipe_wipe _ _), hw3] at S6
          exact S6.updHid (by simp) (by rw [wown (i + 1)]; exact nD1) nD2 nD3
        · intro a o na ha
          rw [upd_ne (fun z => by rw [z, hD] at ha; cases ha)]
          exact g4 a o na (g3 a o na (gw' a o na ha))
      | false =>
        rw [if_neg Bool.false_ne_true]
        have hw3 := hE2 hk
        refine ⟨acc, f1, ?_, ?_, gw'.trans g3⟩
        · rw [outs_succ, hk, if_neg Bool.false_ne_true]; exact f2
        · have S6 := S4.wipe (ow_.map (·.2))
          rw [hw.trans (wipe_wipe _ _), hw3] at S6
          exact S6
    match ifs, hl, hT with
    | [], _, hT =>
      obtain ⟨hk, ht2⟩ := hT
      rw [show ttI X scope [] = tYes from rfl]
      have := elem H2' (Gw.refl _ _) (by rw [ht2]; exact ot) (by rw [ht2]; exact S3)
      rw [hk] at this
      exact this
    | [c], _, hT =>
      intro s0 H0 C0 cl fp
      have et := hT s0 H0 C0 cl fp
      refine et.run _ σ2 H2' _ S3 fun H3 g3 S4 => ?_
      rw [ot] at g3
      exact elem H3 g3 (et.ow.trans ot) S4
  · rintro H2 ⟨acc, e1, e2, e3, gw⟩
    have S5 : Sl X.K { C with L0 := D :: C.L0 } H2 σ (τf ds.length) := (S1.addHid (o := .lst []) hD).restore no (by
      show Ex (hide ((D :: C.L0) ++ own τ1) (upd H1 D (.lst []))) (hide ((D :: C.L0) ++ own τ1) H2)
      rw [hide_upd (by simp)]
      exact Gw.hide gw fun a z => List.mem_append_right _ z) e3 (hown _) (fun j hj => hvs _ j hj)
    refine q D H2 acc (g1.trans (hi.ow ▸ gw)) ?_ e1 (by rw [hown]; exact e2) S5
    cases hq : H D with
    | none => rfl
    | some o =>
      have := g1 D o (fun z => nD1 (hi.ow ▸ z)) hq
      rw [hD] at this; cases this
/-- a fresh list -/
structure EF (X : Cx) (e : Expr) (τ : List SV) (ds : List PyData) (τ' : List SV) : Prop where
  ow : own τ' = own τ
  run : ∀ (C : Fc) (σ : L2.St) (H : Hp) (Q : VK), Sl X.K C H σ τ → (∀ p H' xs, Gw (own τ) H H' → H p = none → H' p = some (.lst xs) → DpAll X.K (hide ((p :: C.L0) ++ own τ') H') xs ds → Sl X.K { C with L0 := p :: C.L0 } H' σ τ' → Q (.ref p) H') → WE X e σ H Q
theorem fresh_dp {K : PySem.W.Frag} {C : Fc} {τ τ' : List SV} {H H' : Hp} {σ : L2.St} {p : Addr} {xs : List V} {ds : List PyData} (S : Sl K C H σ τ) (ho : own τ' = own τ) (hp : H p = none) (h1 : H' p = some (.lst xs)) (h2 : DpAll K (hide ((p :: C.L0) ++ own τ') H') xs ds) :
    Dp K (hide (C.L0 ++ own τ') H') (.ref p) (.list ds) := by
  refine .lst (xs := xs) (SqL.of ?_) (DpAll.ex (hide_mono fun a z => List.mem_cons_of_mem _ z) h2)
  have : p ∉ C.L0 ++ own τ := S.dom.fresh hp
  rw [hide_out (by rw [ho]; exact this)]; exact h1
theorem EF.ev {X : Cx} {e : Expr} {τ τ' : List SV} {ds : List PyData} (h : EF X e τ ds τ') : EV X e τ (.list ds) τ' := ⟨h.ow, fun C σ H Q S q => h.run C σ H Q S fun p H' xs g hp h1 h2 S' => q _ H' g S'.unHid (fresh_dp S h.ow hp h1 h2)⟩
section
variable {X : Cx} {elt tg iter : Expr} {ifs : List Expr} {scope : Scope} {ow_ : List (Str × Nat)} {τ τ1 : List SV} {ds : List PyData} {g : TG} {pos spos py : Pos}
theorem EV.lc (h : LC X elt tg iter ifs scope ow_ τ ds τ1) (hc : X.calm = true := by rfl) (hN : X.N.Nodup := by assumption) (hs : ∀ x, foldedSetIterable iter X.env x = pure x := by intro _; rfl) : EV X (.ListComp elt [⟨tg, iter, ifs, 0⟩] scope pos) τ (.list ds) τ1 := by
  obtain ⟨wi, g, tt, te, h1, h2, h3, h4, h5, h6⟩ := h.ex
  exact EF.ev ⟨h.ow, fun C σ H Q S q => WE.of (pe_lc hc hN h1 h2 h3 h4 h5 hs) (h6 C σ H Q S q)⟩
theorem EF.lc (h : LC X elt tg iter ifs scope ow_ τ ds τ1) (hc : X.calm = true := by rfl) (hN : X.N.Nodup := by assumption) (hs : ∀ x, foldedSetIterable iter X.env x = pure x := by intro _; rfl) : EF X (.ListComp elt [⟨tg, iter, ifs, 0⟩] scope pos) τ ds τ1 := by
  obtain ⟨wi, g, tt, te, h1, h2, h3, h4, h5, h6⟩ := h.ex
  exact ⟨h.ow, fun C σ H Q S q => WE.of (pe_lc hc hN h1 h2 h3 h4 h5 hs) (h6 C σ H Q S q)⟩
theorem SX.asgLc {rest : List Stmt} {R : Out → Prop} {y : Str} (i : Nat) (h : LC X elt tg iter ifs scope ow_ τ ds τ1) (hr : SX X rest (τ1.set i (.pu (.list ds))) R) (hc : X.calm = true := by rfl) (hN : X.N.Nodup := by assumption) (hy : X.N[i]? = some y := by rfl)
    (hyl : X.env.scope.names.lookup y = some .local := by rfl) (hsw : swapsWith (.ListComp elt [⟨tg, iter, ifs, 0⟩] scope pos) (some (.Name y py)) spos.line X.env = pure true := by exact sw_true rfl rfl rfl (by decide +kernel)) (hs : ∀ x, foldedSetIterable iter X.env x = pure x := by intro _; rfl) :
    SX X (.Assign [.Name y py] (.ListComp elt [⟨tg, iter, ifs, 0⟩] scope pos) spos :: rest) τ R := by
  obtain ⟨wi, g, tt, te, h1, h2, h3, h4, h5, h6⟩ := h.ex
  exact SX.seq (ps_setLc hc hN hy hyl hsw h1 h2 h3 h4 h5 hs) fun C σ H D W tk S k => h6 C σ H _ S fun p H' xs g hp e1 e2 S' => k (.nx (τ1.set i (.pu (.list ds)))) hr _ _ (S'.unHid.set (fresh_dp S h.ow hp e1 e2) i)
end

/-! ### comprehensions that change nothing -/
theorem outs_map {α : Type} (f : α → PyData) (p : α → Bool) : ∀ (xs : List α) (k : Nat → Bool) (y : Nat → PyData), (∀ (i : Nat) (a : α), xs[i]? = some a → k i = p a ∧ y i = f a) → outs k y xs.length = (xs.filter p).map f := by
  intro xs k y h
  have e : ∀ n, n ≤ xs.length → outs k y n = ((xs.take n).filter p).map f := by
    intro n
    induction n with
    | zero => intro _; simp [outs]
    | succ n ih =>
      intro hn
      have hn' : n < xs.length := hn
      obtain ⟨h1, h2⟩ := h n xs[n] (List.getElem?_eq_getElem hn')
      rw [outs_succ, ih (by omega), h1, h2, List.take_succ, List.getElem?_eq_getElem hn']
      rw [List.filter_append, List.map_append]
      by_cases hp : p xs[n] = true
      · rw [if_pos hp]; simp [hp]
      · rw [if_neg hp]; simp [hp]
  rw [e _ (Nat.le_refl _), List.take_length]
section
variable {X : Cx} {elt tg iter c : Expr} {ifs : List Expr} {scope : Scope} {ow_ : List (Str × Nat)} {τ τ1 : List SV} {g : TG} {α : Type} {xs : List α} {enc : α → PyData}
/-- [f x for x in xs if p x], the target by its slots (τx) -/
theorem LC.pure {f : α → PyData} {p : α → Bool} (τx : α → List SV) (hi : EVI X tg iter τ (xs.map enc) τ1) (ok : BlkOk X.N X.env.scope scope ow_) (hg : InBlk X scope fun X' => PG X' tg g)
    (hG : ∀ a, a ∈ xs → EG X.K g (ow_.map (·.2)) (wipeT τ1 (ow_.map (·.2))) (enc a) (τx a)) (hw : ∀ a, a ∈ xs → wipeT (τx a) (ow_.map (·.2)) = wipeT τ1 (ow_.map (·.2)))
    (hT : ∀ a, a ∈ xs → TestsIs X scope ifs (τx a) (p a) (τx a))
    (hE : ∀ a, a ∈ xs → p a = true → InBlk X scope fun X' => EV X' elt (τx a) (f a) (τx a)) (hz : xs.length < sizeLine) (no : noOw τ1 (ow_.map (·.2)) = true := by rfl) (hl : ifs.length ≤ 1 := by decide) :
    LC X elt tg iter ifs scope ow_ τ ((xs.filter p).map f) τ1 := by
  have key := LC.mk' (X := X) (elt := elt) (ifs := ifs) (g := g) hi (fun _ => τ1) (fun i => match xs[i]? with | some a => p a | none => false) (fun i => match xs[i]? with | some a => f a | none => .none) rfl (fun _ => rfl) (fun _ _ _ => rfl) no hl (by rw [List.length_map]; exact hz) ok hg (fun i d hd => by
    rw [List.getElem?_map] at hd
    cases e : xs[i]? with
    | none => rw [e] at hd; cases hd
    | some a =>
      rw [e] at hd
      have ed : enc a = d := Option.some.inj hd
      have ha : a ∈ xs := List.mem_of_getElem? e
      subst ed
      have eq : xs[i]? = some a := e
      simp only [eq]
      exact ⟨τx a, τx a, hG a ha, hT a ha, fun hp => ⟨τx a, hE a ha hp, hw a ha⟩, fun _ => hw a ha⟩)
  rw [List.length_map] at key
  have e := outs_map f p xs (fun i => match xs[i]? with | some a => p a | none => false) (fun i => match xs[i]? with | some a => f a | none => .none) (fun i a h => by simp [h])
  rw [e] at key
  exact key
/-- .. the target one name, in slot i -/
theorem LC.name {f : α → PyData} {p : α → Bool} (i : Nat) (nm : Str) (hi : EVI X tg iter τ (xs.map enc) τ1) (ok : BlkOk X.N X.env.scope scope [(nm, i)]) (hg : InBlk X scope fun X' => PG X' tg (gName i))
    (hT : ∀ a, a ∈ xs → TestsIs X scope ifs (τ1.set i (.pu (enc a))) (p a) (τ1.set i (.pu (enc a))))
    (hE : ∀ a, a ∈ xs → p a = true → InBlk X scope fun X' => EV X' elt (τ1.set i (.pu (enc a))) (f a) (τ1.set i (.pu (enc a)))) (hz : xs.length < sizeLine) (no : nOw τ1[i]? = true := by rfl) (hl : ifs.length ≤ 1 := by decide) :
    LC X elt tg iter ifs scope [(nm, i)] τ ((xs.filter p).map f) τ1 := by
  have no' : noOw τ1 [i] = true := by show (nOw τ1[i]? && true) = true; rw [no]; rfl
  have es : ∀ a, (wipeT τ1 [i]).set i (.pu (enc a)) = τ1.set i (.pu (enc a)) := fun a => by
    show (τ1.set i .un).set i (.pu (enc a)) = _
    rw [List.set_set]
  refine LC.pure (g := gName i) (fun a => τ1.set i (.pu (enc a))) hi ok hg (fun a ha => ?_) (fun a ha => ?_) hT hE hz no' hl
  · rw [← es a]
    refine EG.name i (by simp) ?_
    show nOw (τ1.set i .un)[i]? = true
    by_cases h : i < τ1.length
    · rw [List.getElem?_set_self h]; rfl
    · rw [List.getElem?_eq_none (by simpa using h)]; rfl
  · show (τ1.set i (.pu (enc a))).set i .un = τ1.set i .un
    rw [List.set_set]
end

theorem LC.flt {X : Cx} {elt tg iter c : Expr} {scope : Scope} {τ τ1 : List SV} {α : Type} {xs : List α} {enc : α → PyData} {f : α → PyData} {p : α → Bool} (i : Nat) (nm : Str) (hi : EVI X tg iter τ (xs.map enc) τ1)
    (hT : ∀ a, a ∈ xs → InBlk X scope fun X' => ET X' c (τ1.set i (.pu (enc a))) (p a) (τ1.set i (.pu (enc a))))
    (hE : ∀ a, a ∈ xs → p a = true → InBlk X scope fun X' => EV X' elt (τ1.set i (.pu (enc a))) (f a) (τ1.set i (.pu (enc a)))) (hz : xs.length < sizeLine) (ok : BlkOk X.N X.env.scope scope [(nm, i)] := by exact blkOk_by (by kernel_rfl)) (hg : InBlk X scope fun X' => PG X' tg (gName i) := by exact fun _ _ _ _ _ => pg_name (by assumption) rfl (by first | exact Or.inl rfl | exact Or.inr rfl)) (no : nOw τ1[i]? = true := by rfl) :
    LC X elt tg iter [c] scope [(nm, i)] τ ((xs.filter p).map f) τ1 := LC.name i nm hi ok hg hT hE hz no (Nat.le_refl 1)
theorem LC.map {X : Cx} {elt tg iter : Expr} {scope : Scope} {τ τ1 : List SV} {α : Type} {xs : List α} {enc : α → PyData} {f : α → PyData} (i : Nat) (nm : Str) (hi : EVI X tg iter τ (xs.map enc) τ1)
    (hE : ∀ a, a ∈ xs → InBlk X scope fun X' => EV X' elt (τ1.set i (.pu (enc a))) (f a) (τ1.set i (.pu (enc a)))) (hz : xs.length < sizeLine) (ok : BlkOk X.N X.env.scope scope [(nm, i)] := by exact blkOk_by (by kernel_rfl)) (hg : InBlk X scope fun X' => PG X' tg (gName i) := by exact fun _ _ _ _ _ => pg_name (by assumption) rfl (by first | exact Or.inl rfl | exact Or.inr rfl)) (no : nOw τ1[i]? = true := by rfl) :
    LC X elt tg iter [] scope [(nm, i)] τ (xs.map f) τ1 := by
  have h := LC.name (ifs := []) (p := fun _ => true) i nm hi ok hg (fun a ha => ⟨rfl, rfl⟩) (fun a ha _ => hE a ha) hz no (by decide)
  rw [List.filter_eq_self.mpr (fun _ _ => rfl)] at h
  exact h

/-! ### for -/
/-- one turn of a for, within the rest of the block -/
def forO (rest : Out → Prop) (I : List SV → Prop) (R : Out → Prop) : Out → Prop
  | .nx τ => I τ
  | .ct τ => I τ
  | .bk τ => rest (.nx τ)
  | o => R o
section
variable {X : Cx} {tg iter : Expr} {τ τ1 : List SV} {ds : List PyData} {g : TG} {pos : Pos} {body rest : List Stmt} {R : Out → Prop}
theorem Sl.outer {K : PySem.W.Frag} {C : Fc} {H1 H : Hp} {σ1 σ : L2.St} {τ : List SV} (S1 : Sl K C H1 σ1 τ1) (S : Sl K ⟨C.L0, own τ1, H1⟩ H σ τ) : Sl K C H σ τ := by
  refine ⟨S.len, S.sl, fun a o n q => ?_, fun l hl => ?_, S.dm, fun a ha z => ?_, S.nl⟩
  · have h1 := S1.gr a o n q
    refine S.gr a o (fun z => ?_) h1
    rcases S1.ow a z with y | y
    · exact n y
    · rw [q] at y; cases y
  · rcases S.ow l hl with y | y
    · exact S1.ow l y
    · by_cases hM : l ∈ C.M
      · exact .inl hM
      · refine .inr ?_
        cases q : C.H0 l with
        | none => rfl
        | some o =>
          have := S1.gr l o hM q
          have y' : H1 l = none := y
          rw [this] at y'; cases y'
  · by_cases hO : a ∈ own τ1
    · exact S.mm a hO z
    · cases q : H1 a with
      | none => exact S1.mm a ha q
      | some o =>
        have := S.gr a o hO q
        rw [this] at z; cases z
/-- for: an invariant over the slots. vs: the target's slots -/
theorem SX.for_ (vs : List Nat) (I : Nat → List SV → Prop) (hi : EVI X tg iter τ ds τ1) (hg : PG X tg g) (h0 : I 0 τ1)
    (ht : ∀ i d τ', ds[i]? = some d → I i τ' → ∃ τ2, EG X.K g vs τ' d τ2 ∧ SX X body τ2 (forO (seqO X rest R) (I (i + 1)) R)) (hd : ∀ τ', I ds.length τ' → SX X rest τ' R)
    (hp : PassesOwn (model X.prog X.w) X.A X.env X.xe) (hc : X.calm = true := by rfl) (hs : ∀ x, foldedSetIterable iter X.env x = pure x := by intro _; rfl) : SX X (.For tg iter body [] pos :: rest) τ R := by
  obtain ⟨wi, hpi, hrun⟩ := hi.ex
  refine SX.seq (ps_for hp hc hpi hg pss_self hs) fun C σ H D W tk S k => ?_
  refine hrun C σ H _ S fun J H1 g1 S1 wk => ?_
  obtain ⟨G, Y, Wl, hG, hY⟩ := wk
  -- within the loop the heap of its start is what is kept
  refine for_it Wl (fun i σ' H' => ∃ τ', I i τ' ∧ Sl X.K ⟨C.L0, own τ1, H1⟩ H' σ' τ') ⟨τ1, h0, ?_⟩ ?_ ?_ ?_
  · exact ⟨S1.len, S1.sl, fun a o _ q => q, fun l hl => .inl hl, S1.dm, fun a ha => S1.dom a (List.mem_append_right _ ha), S1.nl⟩
  · rintro i σ' H' _ ⟨τ', _, S2⟩
    exact hG H' S2.gr
  · rintro i x σ' H' H'' hi' ⟨τ', hI, S3⟩ yy
    have hd' : ds[i]? = some ds[i] := List.getElem?_eq_getElem hi'
    obtain ⟨τ2, hEG, hSX⟩ := ht i ds[i] τ' hd' hI
    obtain ⟨ex, dx⟩ := hY i ds[i] H' x H'' (C.L0 ++ own τ') hd' S3.gr yy (fun a ha => by
      rcases List.mem_append.mp ha with z | z
      · exact .inl (List.mem_append_left _ z)
      · rcases S3.ow a z with y | y
        · exact .inl (List.mem_append_right _ y)
        · exact .inr y) S3.dom
    refine hEG.run _ σ' H'' x _ (S3.ex ex) dx fun σ2 _ S4 => ?_
    refine hSX.run _ σ2 H'' _ W tk S4 fun o ho => ?_
    cases o with
    | nx τ3 => exact fun σ3 H3 S5 => ⟨τ3, ho, S5⟩
    | ct τ3 => exact fun σ3 H3 S5 => ⟨τ3, ho, S5⟩
    | bk τ3 => exact fun σ3 H3 S5 => k (.nx τ3) ho σ3 H3 (S1.outer S5)
    | rt d3 τ3 => exact fun σ3 v H3 S5 p => k (.rt d3 τ3) ho σ3 v H3 (S1.outer S5) p
    | xc c3 τ3 => exact fun σ3 H3 S5 => k (.xc c3 τ3) ho σ3 H3 (S1.outer S5)
    | rk d3 τ3 => exact fun σ3 v H3 S5 p => k (.rk d3 τ3) ho σ3 v H3 (S1.outer S5) p
    | ro d3 τ3 => exact fun σ3 v H3 S5 p => k (.ro d3 τ3) ho σ3 v H3 (S1.outer S5) p
  · rintro σ' H' ⟨τ', hI, S2⟩
    exact k (.nx τ') (hd τ' hI) σ' H' (S1.outer S2)
end
end DL

set_option maxRecDepth 100000
set_option maxHeartbeats 2000000
/-! DLf: built-ins over data. -/
namespace DL
open PySem L2
/-! ### shapes -/
def Sh (n : Nat) (d : PyData) : Prop := d.canLay0 = true ∧ d.depth ≤ n
theorem Sh.mono {n m : Nat} {d : PyData} (h : Sh n d) (l : n ≤ m) : Sh m d := ⟨h.1, Nat.le_trans h.2 l⟩
theorem Sh.ok {n : Nat} {d : PyData} (h : Sh n d) (l : n ≤ 64 := by decide) : SeqAt.shaped d = true := by
  unfold SeqAt.shaped
  rw [h.1, decide_eq_true (Nat.le_trans h.2 l)]; rfl
theorem Sh.int (i : Int) : Sh 0 (.int i) := ⟨rfl, Nat.le_refl _⟩
theorem Sh.bool (i : Bool) : Sh 0 (.bool i) := ⟨rfl, Nat.le_refl _⟩
theorem Sh.none : Sh 0 .none := ⟨rfl, Nat.le_refl _⟩
theorem Sh.all {n : Nat} : ∀ {ds : List PyData}, (∀ d, d ∈ ds → Sh n d) → PyData.canLayAll0 ds = true ∧ PyData.depthAll ds ≤ n
  | [], _ => ⟨rfl, Nat.zero_le _⟩
  | d :: ds, h => by
    obtain ⟨h1, h2⟩ := h d (by simp)
    obtain ⟨h3, h4⟩ := Sh.all (ds := ds) fun x hx => h x (List.mem_cons_of_mem _ hx)
    exact ⟨by simp only [PyData.canLayAll0, h1, h3, Bool.and_self], by simp only [PyData.depthAll]; omega⟩
theorem Sh.tup {n : Nat} {ds : List PyData} (h : ∀ d, d ∈ ds → Sh n d) : Sh (n + 1) (.tuple ds) := ⟨by simp only [PyData.canLay0]; exact (Sh.all h).1, by simp only [PyData.depth]; exact Nat.succ_le_succ (Sh.all h).2⟩
theorem Sh.lst {n : Nat} {ds : List PyData} (h : ∀ d, d ∈ ds → Sh n d) : Sh (n + 1) (.list ds) := ⟨by simp only [PyData.canLay0]; exact (Sh.all h).1, by simp only [PyData.depth]; exact Nat.succ_le_succ (Sh.all h).2⟩
/-- a way to write values as data: their shape is known, and equal data is equal values -/
structure Enc {α : Type} (f : α → PyData) (n : Nat) : Prop where
  sh : ∀ a, Sh n (f a)
  eq : ∀ a b, PyData.eqv (f a) (f b) = true ↔ a = b
theorem Enc.eqv {α : Type} [DecidableEq α] {f : α → PyData} {n : Nat} (e : Enc f n) (a b : α) : PyData.eqv (f a) (f b) = decide (a = b) := by
  by_cases h : a = b
  · rw [decide_eq_true h]; exact (e.eq a b).mpr h
  · rw [decide_eq_false h]
    cases q : PyData.eqv (f a) (f b) with
    | false => rfl
    | true => exact absurd ((e.eq a b).mp q) h
theorem Enc.int : Enc PyData.int 0 := ⟨Sh.int, fun a b => by simp [PyData.eqv]⟩
theorem Enc.bool : Enc PyData.bool 0 := ⟨Sh.bool, fun a b => by simp [PyData.eqv]⟩
theorem Enc.all {α : Type} {f : α → PyData} {n : Nat} (e : Enc f n) : ∀ (xs ys : List α), PyData.eqvAll (xs.map f) (ys.map f) = true ↔ xs = ys
  | [], [] => by simp [PyData.eqvAll]
  | [], _ :: _ => by simp [PyData.eqvAll]
  | _ :: _, [] => by simp [PyData.eqvAll]
  | x :: xs, y :: ys => by
    simp only [List.map_cons, PyData.eqvAll, Bool.and_eq_true, e.eq, Enc.all e xs ys, List.cons.injEq]
abbrev tup {α : Type} (f : α → PyData) (xs : List α) : PyData := .tuple (xs.map f)
abbrev lst {α : Type} (f : α → PyData) (xs : List α) : PyData := .list (xs.map f)
theorem Enc.tup {α : Type} {f : α → PyData} {n : Nat} (e : Enc f n) : Enc (tup f) (n + 1) :=
  ⟨fun a => Sh.tup fun d hd => by obtain ⟨x, _, rfl⟩ := List.mem_map.mp hd; exact e.sh x, fun a b => by simp only [PyData.eqv]; exact e.all a b⟩
theorem Enc.lst {α : Type} {f : α → PyData} {n : Nat} (e : Enc f n) : Enc (lst f) (n + 1) :=
  ⟨fun a => Sh.lst fun d hd => by obtain ⟨x, _, rfl⟩ := List.mem_map.mp hd; exact e.sh x, fun a b => by simp only [PyData.eqv]; exact e.all a b⟩
theorem Enc.pair {α β : Type} {f : α → PyData} {g : β → PyData} {n m : Nat} (e : Enc f n) (e' : Enc g m) : Enc (fun p : α × β => PyData.tuple [f p.1, g p.2]) (max n m + 1) :=
  ⟨fun p => Sh.tup fun d hd => by
    rcases List.mem_cons.mp hd with rfl | hd
    · exact (e.sh _).mono (Nat.le_max_left _ _)
    · have := List.mem_singleton.mp hd; subst this; exact (e'.sh _).mono (Nat.le_max_right _ _),
  fun a b => by
    obtain ⟨a1, a2⟩ := a
    obtain ⟨b1, b2⟩ := b
    simp only [PyData.eqv, PyData.eqvAll, Bool.and_true, Bool.and_eq_true, e.eq, e'.eq, Prod.mk.injEq]⟩
def memD {α : Type} [DecidableEq α] (x : α) (xs : List α) : Bool := decide (x ∈ xs)
theorem memD_iff {α : Type} [DecidableEq α] {x : α} {xs : List α} : memD x xs = true ↔ x ∈ xs := decide_eq_true_iff
theorem Enc.any {α : Type} [DecidableEq α] {f : α → PyData} {n : Nat} (e : Enc f n) (xs : List α) (a : α) : ((xs.map f).any fun z => PyData.eqv z (f a)) = memD a xs := by
  show _ = decide (a ∈ xs)
  rw [Bool.eq_iff_iff, decide_eq_true_eq, List.any_eq_true]
  constructor
  · rintro ⟨z, hz, q⟩
    obtain ⟨x, hx, rfl⟩ := List.mem_map.mp hz
    rw [(e.eq x a).mp q] at hx; exact hx
  · intro h
    exact ⟨f a, List.mem_map.mpr ⟨a, h, rfl⟩, (e.eq a a).mpr rfl⟩
abbrev eI : Int → PyData := PyData.int
abbrev eT : List Int → PyData := tup PyData.int
abbrev eTT : List (List Int) → PyData := tup eT
abbrev eLT : List (List Int) → PyData := lst eT
theorem encT : Enc eT 1 := Enc.int.tup
theorem encTT : Enc eTT 2 := encT.tup
theorem encLT : Enc eLT 2 := encT.lst
theorem encLI : Enc (lst PyData.int) 1 := Enc.int.lst

section
variable {X : Cx} {a b c e : Expr} {es : List Expr} {pos p p2 : Pos} {τ τ1 τ2 τ3 : List SV} {d d1 d2 d3 : PyData} {ds es' : List PyData}
/-! ### comparison of typed data -/
theorem EC.eqE {α : Type} [DecidableEq α] {f : α → PyData} {n : Nat} {x y : α} (E : Enc f n) (hu : X.A.units + 64 < cLine) (h1 : EV X a τ (f x) τ1) (h2 : EV X b τ1 (f y) τ2) (l : n ≤ 64 := by decide) : EC X .Eq a b τ (decide (x = y)) τ2 :=
  (EC.eq hu h1 h2 ((E.sh x).ok l) ((E.sh y).ok l)).is (E.eqv x y)
theorem EC.neE {α : Type} [DecidableEq α] {f : α → PyData} {n : Nat} {x y : α} (E : Enc f n) (hu : X.A.units + 64 < cLine) (h1 : EV X a τ (f x) τ1) (h2 : EV X b τ1 (f y) τ2) (l : n ≤ 64 := by decide) : EC X .NotEq a b τ (!decide (x = y)) τ2 :=
  (EC.ne hu h1 h2 ((E.sh x).ok l) ((E.sh y).ok l)).is (by rw [E.eqv x y])
/-! in -/
def rInT (K : PySem.W.Frag) : R2 := fun x y H Q => ∃ d ds, Dp K H x d ∧ Dp K H y (.tuple ds) ∧ SeqAt.shaped d = true ∧ SeqAt.shaped (.tuple ds) = true ∧ Q (.bl (ds.any fun z => PyData.eqv z d)) H
def rNotInT (K : PySem.W.Frag) : R2 := fun x y H Q => ∃ d ds, Dp K H x d ∧ Dp K H y (.tuple ds) ∧ SeqAt.shaped d = true ∧ SeqAt.shaped (.tuple ds) = true ∧ Q (.bl (!ds.any fun z => PyData.eqv z d)) H
theorem op_inT (hu : X.A.units + 65 < cLine) : OpR X (compareOp .In) (rInT X.K) := by
  intro pins s σ H x y v u Q I rx ry h
  obtain ⟨d, ds, hd, he, sd, se, q⟩ := h
  obtain ⟨as, r1⟩ := Dp.reads I d x v hd rx
  obtain ⟨bs, r2⟩ := Dp.reads I (.tuple ds) y u he ry
  exact SeqAt.in_tuple_reads r2 r1 (SeqAt.canLay_of_shaped se) (SeqAt.canLay_of_shaped sd) (PyProof.Rows.room_in_shaped sd hu) ⟨.bl _, H, I, rfl, q⟩
theorem op_notInT (hu : X.A.units + 65 < cLine) : OpR X (compareOp .NotIn) (rNotInT X.K) := by
  intro pins s σ H x y v u Q I rx ry h
  obtain ⟨d, ds, hd, he, sd, se, q⟩ := h
  obtain ⟨as, r1⟩ := Dp.reads I d x v hd rx
  obtain ⟨bs, r2⟩ := Dp.reads I (.tuple ds) y u he ry
  exact SeqAt.notIn_tuple_reads r2 r1 (SeqAt.canLay_of_shaped se) (SeqAt.canLay_of_shaped sd) (PyProof.Rows.room_in_shaped sd hu) ⟨.bl _, H, I, rfl, q⟩
theorem u65 {k : Nat} {A : Around} (r : Room k A) : A.units + 65 < cLine := by have := r.un; omega
theorem EC.inT {α : Type} [DecidableEq α] {f : α → PyData} {n : Nat} {x : α} {xs : List α} (E : Enc f n) (hu : X.A.units + 65 < cLine) (h1 : EV X a τ (f x) τ1) (h2 : EV X b τ1 (tup f xs) τ2) (l : n + 1 ≤ 64 := by decide) (hm : behindInMarks .In b = false := by rfl) : EC X .In a b τ (memD x xs) τ2 :=
  EC.mk' (op_inT hu) h1 h2 (fun L H v w Q _ p1 p2 q => ⟨_, _, Dp.ex (hide_ex L H) p1, Dp.ex (hide_ex L H) p2, (E.sh x).ok (by omega), (E.tup.sh xs).ok l, q _ H (Ex.refl _) (by rw [E.any xs x]; exact .bl _)⟩) hm
theorem EC.notInT {α : Type} [DecidableEq α] {f : α → PyData} {n : Nat} {x : α} {xs : List α} (E : Enc f n) (hu : X.A.units + 65 < cLine) (h1 : EV X a τ (f x) τ1) (h2 : EV X b τ1 (tup f xs) τ2) (l : n + 1 ≤ 64 := by decide) (hm : behindInMarks .NotIn b = false := by rfl) : EC X .NotIn a b τ (!memD x xs) τ2 :=
  EC.mk' (op_notInT hu) h1 h2 (fun L H v w Q _ p1 p2 q => ⟨_, _, Dp.ex (hide_ex L H) p1, Dp.ex (hide_ex L H) p2, (E.sh x).ok (by omega), (E.tup.sh xs).ok l, q _ H (Ex.refl _) (by rw [E.any xs x]; exact .bl _)⟩) hm
theorem EC.inL {α : Type} [DecidableEq α] {f : α → PyData} {n : Nat} {x : α} {xs : List α} (E : Enc f n) (hu : X.A.units + 65 < cLine) (h1 : EV X a τ (f x) τ1) (h2 : EV X b τ1 (lst f xs) τ2) (l : n + 1 ≤ 64 := by decide) (hm : behindInMarks .In b = false := by rfl) : EC X .In a b τ (memD x xs) τ2 :=
  EC.mk' (op_inD hu) h1 h2 (fun L H v w Q _ p1 p2 q => ⟨_, _, Dp.ex (hide_ex L H) p1, Dp.ex (hide_ex L H) p2, (E.sh x).ok (by omega), (E.lst.sh xs).ok l, q _ H (Ex.refl _) (by rw [E.any xs x]; exact .bl _)⟩) hm
theorem EC.notInL {α : Type} [DecidableEq α] {f : α → PyData} {n : Nat} {x : α} {xs : List α} (E : Enc f n) (hu : X.A.units + 65 < cLine) (h1 : EV X a τ (f x) τ1) (h2 : EV X b τ1 (lst f xs) τ2) (l : n + 1 ≤ 64 := by decide) (hm : behindInMarks .NotIn b = false := by rfl) : EC X .NotIn a b τ (!memD x xs) τ2 :=
  EC.mk' (op_notInD hu) h1 h2 (fun L H v w Q _ p1 p2 q => ⟨_, _, Dp.ex (hide_ex L H) p1, Dp.ex (hide_ex L H) p2, (E.sh x).ok (by omega), (E.lst.sh xs).ok l, q _ H (Ex.refl _) (by rw [E.any xs x]; exact .bl _)⟩) hm
/-! ### len -/
theorem CaD.lenL {K : PySem.W.Frag} : CaD K (fun xs H Q => ∃ p ys, xs = [.ref p] ∧ (SqL K H p ys ∨ SqT K H p ys) ∧ Q (.int ys.length) H) [.list ds] (.int ds.length) := fun L H vs Q _ h q => by
  cases h with
  | cons h1 h2 =>
    cases h2
    cases h1 with
    | lst s1 s2 => exact ⟨_, _, rfl, .inl (sq_ex (hide_ex L H) s1), q _ H (Ex.refl _) (by rw [DpAll.len s2]; exact .int _)⟩
theorem CaD.lenT {K : PySem.W.Frag} : CaD K (fun xs H Q => ∃ p ys, xs = [.ref p] ∧ (SqL K H p ys ∨ SqT K H p ys) ∧ Q (.int ys.length) H) [.tuple ds] (.int ds.length) := fun L H vs Q _ h q => by
  cases h with
  | cons h1 h2 =>
    cases h2
    cases h1 with
    | tup s1 s2 => exact ⟨_, _, rfl, .inr (st_ex (hide_ex L H) s1), q _ H (Ex.refl _) (by rw [DpAll.len s2]; exact .int _)⟩
theorem EV.lenL (hm : X.mg "len" = none) (h : EV X a τ (.list ds) τ1) (hg : Gl X "len" := by rfl) (he : starEach [a] X.env = (false, eval a X.env) :: starEach [] X.env := by rfl) : EV X (.Call (.Name "len" p) [a] [] pos) τ (.int ds.length) τ1 :=
  EV.callB call_len_seq hm (EA.cons h EA.nil he) CaD.lenL hg (he := he) (hpl := rfl)
theorem EV.lenT (hm : X.mg "len" = none) (h : EV X a τ (.tuple ds) τ1) (hg : Gl X "len" := by rfl) (he : starEach [a] X.env = (false, eval a X.env) :: starEach [] X.env := by rfl) : EV X (.Call (.Name "len" p) [a] [] pos) τ (.int ds.length) τ1 :=
  EV.callB call_len_seq hm (EA.cons h EA.nil he) CaD.lenT hg (he := he) (hpl := rfl)
/-! ### subscripts -/
theorem atI_dp {K : PySem.W.Frag} {H : Hp} {vs : List V} {i : Int} (h : DpAll K H vs ds) (e : atI ds i = some d) : ∃ v, atI vs i = some v ∧ Dp K H v d := by
  unfold atI at e ⊢
  rw [DpAll.len h]
  cases q : ixN ds.length i with
  | none => rw [q] at e; cases e
  | some j =>
    rw [q] at e
    exact DpAll.get (i := j) h e
theorem EV.ixT {i : Int} (h1 : EV X a τ (.tuple ds) τ1) (h2 : EV X b τ1 (.int i) τ2) (hi : atI ds i = some d) (hs : PlainIx b := by exact fun _ _ => rfl) : EV X (.Subscript a b pos) τ d τ2 :=
  ⟨h2.ow.trans h1.ow, fun C σ H Q S q => WE.of (pe_ix ix_tup pe_self pe_self hs) (tOp_run h1 h2 (r := rIxT X.K) (fun L H x y Q dm p1 p2 q => by
    cases p2
    cases p1 with
    | tup s1 s2 =>
      obtain ⟨v, e, dv⟩ := atI_dp s2 hi
      exact ⟨_, _, i, v, rfl, rfl, st_ex (hide_ex L H) s1, e, q v H (Ex.refl _) dv⟩) C σ H Q S q)⟩
theorem EV.ixL {i : Int} (h1 : EV X a τ (.list ds) τ1) (h2 : EV X b τ1 (.int i) τ2) (hi : atI ds i = some d) (hs : PlainIx b := by exact fun _ _ => rfl) : EV X (.Subscript a b pos) τ d τ2 :=
  ⟨h2.ow.trans h1.ow, fun C σ H Q S q => WE.of (pe_ix ix_list pe_self pe_self hs) (tOp_run h1 h2 (r := rIxL X.K) (fun L H x y Q dm p1 p2 q => by
    cases p2
    cases p1 with
    | lst s1 s2 =>
      obtain ⟨v, e, dv⟩ := atI_dp s2 hi
      exact ⟨_, _, i, v, rfl, rfl, sq_ex (hide_ex L H) s1, e, q v H (Ex.refl _) dv⟩) C σ H Q S q)⟩
theorem atI_nn {α : Type} {xs : List α} {i : Nat} {x : α} (h : xs[i]? = some x) : atI xs (i : Int) = some x := atI_nat h
/-! ### slices -/
/-- a part of a slice -/
structure EO (X : Cx) (e : Option Expr) (τ : List SV) (o : Option Int) (τ' : List SV) : Prop where
  ow : own τ' = own τ
  ex : ∃ t, PO X e t ∧ ∀ (C : Fc) (σ : L2.St) (H : Hp) (Q : Option Int → Hp → Prop), Sl X.K C H σ τ → (∀ H', Gw (own τ) H H' → Sl X.K C H' σ τ' → Q o H') → t σ H Q
theorem EO.none : EO X none τ none τ := ⟨rfl, _, po_none, fun C σ H Q S q => q H (Gw.refl _ _) S⟩
theorem EO.some {i : Int} (h : EV X e τ (.int i) τ1) : EO X (some e) τ (some i) τ1 := ⟨h.ow, _, po_some pe_self, fun C σ H Q S q => h.run C σ H _ S fun v H' g S' p => by cases p; exact ⟨i, rfl, q H' g S'⟩⟩
def cutD {α : Type} (xs : List α) (lo hi : Option Int) : List α := (xs.drop (HT.sIx xs.length 0 lo)).take (HT.sIx xs.length xs.length hi - HT.sIx xs.length 0 lo)
theorem cut_dp {K : PySem.W.Frag} {H : Hp} {vs : List V} (h : DpAll K H vs ds) (lo hi : Option Int) : DpAll K H (cutV vs lo hi) (cutD ds lo hi) := by
  unfold cutV cutD
  rw [DpAll.len h]
  exact DpAll.take _ (DpAll.drop _ h)
theorem sIx_le (n dflt : Nat) (o : Option Int) (h : dflt ≤ n) : HT.sIx n dflt o ≤ n := by
  unfold HT.sIx
  split
  · exact h
  · first | omega | (split <;> omega)
theorem EV.slL {lo hi : Option Expr} {l h : Option Int} (h1 : EV X a τ (.list ds) τ1) (h2 : EO X lo τ1 l τ2) (h3 : EO X hi τ2 h τ3) : EV X (.Subscript a (.Slice lo hi none p2) pos) τ (.list (cutD ds l h)) τ3 := by
  obtain ⟨t2, q2, r2⟩ := h2.ex
  obtain ⟨t3, q3, r3⟩ := h3.ex
  exact ⟨(h3.ow.trans h2.ow).trans h1.ow, fun C σ H Q S q => WE.of (pe_slice sl_list pe_self q2 q3) (h1.run C σ H _ S fun v H1 g1 S1 p1 => r2 C σ H1 _ S1 fun H2 g2 S2 => r3 C σ H2 _ S2 fun H3 g3 S3 => by
    have p3 := keep_dp (L0 := C.L0) h3.ow g3 (keep_dp (L0 := C.L0) h2.ow g2 p1)
    cases p3 with
    | lst s1 s2 => exact ⟨_, _, rfl, sq_ex (hide_ex _ _) s1, fun p hp => q _ _ ((g1.trans (h1.ow ▸ g2)).trans ((h2.ow.trans h1.ow) ▸ g3 |>.trans (Gw.of (Ex.new hp)))) (S3.ex (Ex.new hp)) (dp_new hp S3.dom (cut_dp s2 l h))⟩)⟩
theorem EV.slT {lo hi : Option Expr} {l h : Option Int} (h1 : EV X a τ (.tuple ds) τ1) (h2 : EO X lo τ1 l τ2) (h3 : EO X hi τ2 h τ3) : EV X (.Subscript a (.Slice lo hi none p2) pos) τ (.tuple (cutD ds l h)) τ3 := by
  obtain ⟨t2, q2, r2⟩ := h2.ex
  obtain ⟨t3, q3, r3⟩ := h3.ex
  exact ⟨(h3.ow.trans h2.ow).trans h1.ow, fun C σ H Q S q => WE.of (pe_slice sl_tupA pe_self q2 q3) (h1.run C σ H _ S fun v H1 g1 S1 p1 => r2 C σ H1 _ S1 fun H2 g2 S2 => r3 C σ H2 _ S2 fun H3 g3 S3 => by
    have p3 := keep_dp (L0 := C.L0) h3.ow g3 (keep_dp (L0 := C.L0) h2.ow g2 p1)
    have gg : Gw (own τ) H H3 := (g1.trans (h1.ow ▸ g2)).trans ((h2.ow.trans h1.ow) ▸ g3)
    cases p3 with
    | @tup a xs _ s1 s2 =>
      refine ⟨a, xs, rfl, st_ex (hide_ex _ _) s1, fun w => ?_, fun w p hp => q _ _ (gg.trans (Gw.of (Ex.new hp))) (S3.ex (Ex.new hp)) (dp_newT hp S3.dom (cut_dp s2 l h))⟩
      refine q _ H3 gg S3 ?_
      have e : cutD ds l h = ds := by
        unfold cutD
        rw [← DpAll.len s2, w.1, w.2, DpAll.len s2, List.drop_zero, Nat.sub_zero, List.take_length]
      rw [e]
      exact .tup s1 s2)⟩
/-! ### + * -/
theorem EV.catT (h1 : EV X a τ (.tuple ds) τ1) (h2 : EV X b τ1 (.tuple es') τ2) (hz : ds.length + es'.length ≤ sizeLine) : EV X (.BinOp a .Add b pos) τ (.tuple (ds ++ es')) τ2 :=
  EV.bin op_catA h1 h2 fun L H x y Q dm p1 p2 q => by
    cases p1 with
    | @tup a xs _ s1 s2 =>
      cases p2 with
      | @tup b ys _ u1 u2 =>
        refine ⟨a, b, xs, ys, rfl, rfl, st_ex (hide_ex L H) s1, st_ex (hide_ex L H) u1, by rw [DpAll.len s2, DpAll.len u2]; exact hz, fun e => ?_, fun e e2 => ?_, fun e e2 p hp => ?_⟩
        · subst e
          have : ds = [] := List.length_eq_zero_iff.mp (DpAll.len s2).symm
          subst this
          exact q _ H (Ex.refl _) (.tup u1 u2)
        · subst e2
          have : es' = [] := List.length_eq_zero_iff.mp (DpAll.len u2).symm
          subst this
          rw [List.append_nil] at q
          exact q _ H (Ex.refl _) (.tup s1 s2)
        · exact q _ _ (Ex.new hp) (dp_newT hp dm (DpAll.app s2 u2))
end
end DL

set_option maxRecDepth 100000
set_option maxHeartbeats 2000000
/-! DLg: defs of the text. -/
namespace DL
open PySem L2
open PyProof.Rows (envOfC)
/-- a def of the top, under its own name -/
structure Def (K : PySem.W.Frag) (mg : Str → Option Value) (x : Str) (st : Stmt) : Prop where
  fd : ∃ fd, FunD K x x (defArgs st) (defBody st) (defScope st) [] [] (He.ga K x) fd
  gl : mg x = some (.ref (He.ga K x))
section
variable {P : Program} {w : World} {K : PySem.W.Frag} {mg : Str → Option Value} {base : Heap}
theorem Def.cal {x : Str} {st : Stmt} {N ps : List Str} {k : Nat} {R : List PyData → Res → Prop} (D : Def K mg x st) (S : FnScope N ps (defScope st))
    (hbind : ∀ (dV kV doc pm : Value) (an : Option Addr) (cdv ct : Value) (us : List Value), us.length = ps.length → bindArgs (PySem.W.fnOf x x (defArgs st) (defBody st) (defScope st) .none kV doc pm an cdv ct) ⟨us, []⟩ = pure (ps.zip us))
    (len : ∀ ds r, R ds r → ds.length = ps.length)
    (hb : ∀ (f : Addr) (cdv : Value) (A : Around) (outer : List Env) (s : Shared) (H : Hp) (E : XK) (ds : List PyData) (r : Res), Room k (A.deeper (envOfC x (defScope st) s.heap.objs.size f cdv)) → R ds r →
      SX (cxOf (L2.CX P w) P w K mg base N x (defScope st) f cdv A outer s H E) (defBody st) (ds.map SV.pu ++ List.replicate (N.length - ds.length) SV.un) (resO r)) :
    Cal P w K mg base (k + 1) x ps (spP K R) := by
  obtain ⟨fd, F⟩ := D.fd
  exact ⟨_, fd, D.gl, F.kp, F.bindsN fun kV doc pm an cdv ct us hl => hbind .none kV doc pm an cdv ct us hl, fn_pure F S len fun cdv A outer s H E ds r hr hR => hb _ cdv A outer s H E ds r hr hR⟩
end
end DL

set_option maxRecDepth 100000
set_option maxHeartbeats 2000000
/-! DLh: lists of one's own: made, grown, changed by place, let go. -/
namespace DL
open PySem L2
section
variable {K : PySem.W.Frag} {C : Fc} {H H' : Hp} {σ : L2.St} {τ τ1 : List SV} {ds es' : List PyData} {xs : List V} {p l : Addr} {i : Nat} {d : PyData}
theorem own_sub_set {sv : SV} {a : Addr} (h : a ∈ own (τ.set i sv)) : a ∈ ownA sv ∨ a ∈ own (τ.set i .un) := by
  obtain ⟨j, sv', e, eo⟩ := mem_own h
  by_cases hj : i = j
  · subst hj
    by_cases hl : i < τ.length
    · rw [List.getElem?_set_self hl] at e
      have e2 : sv = sv' := Option.some.inj e
      exact .inl (by rw [e2]; exact eo)
    · rw [List.getElem?_eq_none (by simpa using hl)] at e; cases e
  · rw [List.getElem?_set_ne hj] at e
    refine .inr (own_mem' (i := j) (sv := sv') ?_ eo)
    rw [List.getElem?_set_ne hj]; exact e
theorem own_un_sub {a : Addr} (h : a ∈ own (τ.set i .un)) : a ∈ own τ := by
  obtain ⟨j, sv', e, eo⟩ := mem_own h
  by_cases hj : i = j
  · subst hj
    by_cases hl : i < τ.length
    · rw [List.getElem?_set_self hl] at e; cases e; cases eo
    · rw [List.getElem?_eq_none (by simpa using hl)] at e; cases e
  · rw [List.getElem?_set_ne hj] at e
    exact own_mem' e eo
/-- slot i now holds the list at p: a new one, or the one that it held, changed; all else stands -/
theorem Sl.put (S : Sl K C H σ τ) (hi : i < τ.length) (hw : p ∉ own (τ.set i .un)) (hx : p ∈ own τ ∨ H p = none) (h : DpAll K (hide (C.L0 ++ own τ) H) xs ds) :
    Sl K C (upd H p (.lst xs)) (σ.set i (some (.ref p))) (τ.set i (.ow p ds)) := by
  have hq : p ∈ C.M ∨ C.H0 p = none := by
    rcases hx with z | z
    · exact S.ow p z
    · exact .inr (S.no0 z).2.2
  have hsub : ∀ a, a ∈ own (τ.set i (.ow p ds)) → a = p ∨ a ∈ own τ := fun a ha => by
    rcases own_sub_set ha with z | z
    · exact .inl (by simpa [ownA] using z)
    · exact .inr (own_un_sub z)
  have np : ∀ a o, hide (C.L0 ++ own τ) H a = some o → a ≠ p := fun a o q e => by
    obtain ⟨z1, z2⟩ := hide_some q
    rcases hx with z | z
    · exact z1 (by rw [e]; exact List.mem_append_right _ z)
    · rw [e, z] at z2; cases z2
  have ex : Ex (hide (C.L0 ++ own τ) H) (hide (C.L0 ++ own (τ.set i (.ow p ds))) (upd H p (.lst xs))) := fun a o q => by
    have na := np a o q
    obtain ⟨z1, z2⟩ := hide_some q
    rw [hide_out (fun z => ?_), upd_ne na]
    · exact z2
    · rcases List.mem_append.mp z with y | y
      · exact z1 (List.mem_append_left _ y)
      · rcases hsub a y with w | w
        · exact na w
        · exact z1 (List.mem_append_right _ w)
  refine ⟨by simp [S.len], fun j sv e => ?_, fun a o n q => ?_, fun a ha => ?_, fun a ha z => ?_, fun a ha z => ?_, fun a ha z => ?_⟩
  · by_cases hj : i = j
    · subst hj
      rw [List.getElem?_set_self hi] at e
      have e2 : SV.ow p ds = sv := Option.some.inj e
      subst e2
      exact ⟨some (.ref p), by rw [List.getElem?_set_self (by rw [S.len]; exact hi)], rfl, xs, upd_same, DpAll.ex ex h⟩
    · have e' := e
      rw [List.getElem?_set_ne hj] at e
      obtain ⟨o, h1, h2⟩ := S.sl j sv e
      refine ⟨o, by rw [List.getElem?_set_ne hj]; exact h1, ?_⟩
      cases sv with
      | un => trivial
      | pu d => obtain ⟨v, z1, z2⟩ := h2; exact ⟨v, z1, Dp.ex ex z2⟩
      | ow l es =>
        obtain ⟨z1, ys, z2, z3⟩ := h2
        have nl : l ≠ p := fun q => hw (by rw [← q]; exact own_mem (i := j) (by rw [List.getElem?_set_ne hj]; exact e))
        exact ⟨z1, ys, by rw [upd_ne nl]; exact z2, DpAll.ex ex z3⟩
      | kp f => obtain ⟨v, z1, z2⟩ := h2; exact ⟨v, z1, fun H'' z => z2 H'' (ex.trans z)⟩
      | od l f =>
        obtain ⟨z1, ys, z2, z3⟩ := h2
        have nl : l ≠ p := fun q => hw (by rw [← q]; exact own_mem' (i := j) (sv := .od l f) (by rw [List.getElem?_set_ne hj]; exact e) (List.mem_singleton.mpr rfl))
        exact ⟨z1, ys, by rw [upd_ne nl]; exact z2, fun H'' z => z3 H'' (ex.trans z)⟩
      | ob w cs f =>
        obtain ⟨z1, ys, z2, z3⟩ := h2
        exact ⟨z1, ys, by rw [cells_upd (cs := cs) (fun z => hw (own_mem' (i := j) (sv := .ob w cs f) (by rw [List.getElem?_set_ne hj]; exact e) z))]; exact z2, fun H'' z => z3 H'' (ex.trans z)⟩
  · have na : a ≠ p := fun e => by
      rcases hq with z | z
      · exact n (e ▸ z)
      · rw [e, z] at q; cases q
    rw [upd_ne na]; exact S.gr a o n q
  · rcases hsub a ha with w | w
    · rw [w]; exact hq
    · exact S.ow a w
  · by_cases c : a = p
    · rw [c, upd_same] at z; cases z
    · rw [upd_ne c] at z; exact S.dm a ha z
  · by_cases c : a = p
    · rw [c, upd_same] at z; cases z
    · rw [upd_ne c] at z; exact S.mm a ha z
  · rcases hsub a ha with w | w
    · rcases hx with y | y
      · exact S.nl p y (w ▸ z)
      · exact S.dm p (w ▸ z) y
    · exact S.nl a w z
/-- a fresh list comes into slot i -/
theorem Sl.take (S : Sl K { C with L0 := p :: C.L0 } H σ τ) (hi : i < τ.length) (h1 : H p = some (.lst xs)) (h : DpAll K (hide ((p :: C.L0) ++ own τ) H) xs ds) (hw : p ∉ own τ) (hq : p ∈ C.M ∨ C.H0 p = none) (hL : p ∉ C.L0) :
    Sl K C H (σ.set i (some (.ref p))) (τ.set i (.ow p ds)) := by
  have hsub : ∀ a, a ∈ own (τ.set i (.ow p ds)) → a = p ∨ a ∈ own τ := fun a ha => by
    rcases own_sub_set ha with z | z
    · exact .inl (by simpa [ownA] using z)
    · exact .inr (own_un_sub z)
  have ex : Ex (hide ((p :: C.L0) ++ own τ) H) (hide (C.L0 ++ own (τ.set i (.ow p ds))) H) := hide_mono fun a ha => by
    rcases List.mem_append.mp ha with y | y
    · exact List.mem_append_left _ (List.mem_cons_of_mem _ y)
    · rcases hsub a y with w | w
      · rw [w]; exact List.mem_append_left _ List.mem_cons_self
      · exact List.mem_append_right _ w
  refine ⟨by simp [S.len], fun j sv e => ?_, S.gr, fun a ha => ?_, fun a ha => S.dm a (List.mem_cons_of_mem _ ha), S.mm, fun a ha z => ?_⟩
  · by_cases hj : i = j
    · subst hj
      rw [List.getElem?_set_self hi] at e
      have e2 : SV.ow p ds = sv := Option.some.inj e
      subst e2
      exact ⟨some (.ref p), by rw [List.getElem?_set_self (by rw [S.len]; exact hi)], rfl, xs, h1, DpAll.ex ex h⟩
    · rw [List.getElem?_set_ne hj] at e
      obtain ⟨o, h1, h2⟩ := S.sl j sv e
      refine ⟨o, by rw [List.getElem?_set_ne hj]; exact h1, ?_⟩
      cases sv with
      | un => trivial
      | pu d => obtain ⟨v, z1, z2⟩ := h2; exact ⟨v, z1, Dp.ex ex z2⟩
      | ow l es =>
        obtain ⟨z1, ys, z2, z3⟩ := h2
        exact ⟨z1, ys, z2, DpAll.ex ex z3⟩
      | kp f => obtain ⟨v, z1, z2⟩ := h2; exact ⟨v, z1, fun H'' z => z2 H'' (ex.trans z)⟩
      | od l f => obtain ⟨z1, ys, z2, z3⟩ := h2; exact ⟨z1, ys, z2, fun H'' z => z3 H'' (ex.trans z)⟩
      | ob w cs f => obtain ⟨z1, ys, z2, z3⟩ := h2; exact ⟨z1, ys, z2, fun H'' z => z3 H'' (ex.trans z)⟩
  · rcases hsub a ha with w | w
    · rw [w]; exact hq
    · exact S.ow a w
  · rcases hsub a ha with w | w
    · exact hL (w ▸ z)
    · exact S.nl a w (List.mem_cons_of_mem _ z)
/-- a list is no longer one's own: data -/
theorem Sl.freeze (S : Sl K C H σ τ) (hi : τ[i]? = some (.ow l ds)) (hw : l ∉ own (τ.set i .un)) : Sl K C H σ (τ.set i (.pu (.list ds))) := by
  have hl : i < τ.length := (List.getElem?_eq_some_iff.mp hi).1
  obtain ⟨o, h1, h2, xs, h3, h4⟩ := S.sl i _ hi
  have S1 := S.forget i
  have ex : Ex (hide (C.L0 ++ own τ) H) (hide (C.L0 ++ own (τ.set i .un)) H) := hide_mono fun a ha => by
    rcases List.mem_append.mp ha with z | z
    · exact List.mem_append_left _ z
    · exact List.mem_append_right _ (own_un_sub z)
  have hd : Dp K (hide (C.L0 ++ own (τ.set i .un)) H) (.ref l) (.list ds) := by
    refine .lst (xs := xs) (SqL.of ?_) (DpAll.ex ex h4)
    rw [hide_out (fun z => ?_)]
    · exact h3
    · rcases List.mem_append.mp z with y | y
      · exact S.nl l (own_mem hi) y
      · exact hw y
  have S2 := S1.set (v := .ref l) hd i
  rw [List.set_set] at S2
  have e : σ.set i (some (.ref l)) = σ := by
    apply List.ext_getElem?
    intro j
    by_cases hj : i = j
    · subst hj
      rw [List.getElem?_set_self (by rw [S.len]; exact hl), h1, h2]
    · rw [List.getElem?_set_ne hj]
  rw [e] at S2
  exact S2
end
section
variable {X : Cx} {a b c e e1 e2 : Expr} {es : List Expr} {pos p1 p2 p3 : Pos} {τ τ1 τ2 τ3 : List SV} {d d1 d2 d3 : PyData} {ds es' : List PyData} {x : Str} {rest : List Stmt} {R : Out → Prop} {i : Nat} {l : Addr}
theorem SX.freeze (i : Nat) (hi : τ[i]? = some (.ow l ds) := by rfl) (h : SX X rest (τ.set i (.pu (.list ds))) R) (hw : l ∉ own (τ.set i .un) := by simp [own, ownA]) : SX X rest τ R := ⟨fun C σ H D W tk S k => h.run C σ H D W tk (S.freeze hi hw) k⟩
/-! fresh lists -/
theorem EF.lst (h : EA X es τ ds τ1) (hl : ds.length ≤ sizeLine := by exact Nat.le_of_ble_eq_true rfl) : EF X (.List es pos) τ ds τ1 :=
  ⟨h.ow, fun C σ H Q S q => WE.of (pe_lst pa_self) (h.run C σ H _ S fun xs H1 g1 S1 p1 =>
    ⟨by rw [DpAll.len p1]; exact hl, fun p hp => q p _ xs (g1.trans (Gw.of (Ex.new hp))) (by
      cases hq : H p with
      | none => rfl
      | some o =>
        have no : p ∉ own τ := fun z => S1.dom p (List.mem_append_right _ (by rw [h.ow]; exact z)) hp
        have := g1 p o no hq
        rw [hp] at this; cases this) upd_same (DpAll.ex (fun a o z => by
        obtain ⟨z1, z2⟩ := hide_some z
        have na : a ≠ p := fun e => by rw [e, hp] at z2; cases z2
        rw [hide_out (fun y => by rcases List.mem_cons.mp (show a ∈ p :: (C.L0 ++ own τ1) from y) with w | w; exact na w; exact z1 w), upd_ne na]; exact z2) p1) (S1.addHid hp)⟩)⟩
/-- x = a fresh list, one's own -/
theorem SX.mine (i : Nat) {p' : Pos} (h1 : EF X e τ ds τ1) (h : ∀ p, p ∉ own τ1 → SX X rest (τ1.set i (.ow p ds)) R) (hl : i < τ1.length := by simp) (hN : X.N.Nodup := by assumption) (hi : X.N[i]? = some x := by rfl) (hx : Loc X.env.scope x := by first | exact Or.inl rfl | exact Or.inr rfl)
    (hs : swapsWith e (some (.Name x p')) pos.line X.env = pure false := by rfl) (hf : X.fn x = true ∨ X.env.scope.names.lookup x = some .local := by first | exact .inl rfl | exact .inr rfl) : SX X (.Assign [.Name x p'] e pos :: rest) τ R :=
  SX.seq (ps_set hN hi hx pe_self hs hf) fun C σ H D W tk S k => h1.run C σ H _ S fun p H' xs g hp e1 e2 S' => by
    have np : p ∉ own τ := (S.no0 hp).1
    have np1 : p ∉ own τ1 := by rw [h1.ow]; exact np
    have nL : p ∉ C.L0 := S.dm.fresh hp
    exact k (.nx (τ1.set i (.ow p ds))) (h p np1) _ _ (Sl.take S' hl e1 e2 np1 (.inr (S.no0 hp).2.2) nL)
end
end DL

set_option maxRecDepth 100000
set_option maxHeartbeats 2000000
/-! DLi: changes of one's own lists, unpacking, raise, while. -/
namespace DL
open PySem L2
section
variable {X : Cx} {a b c e e1 e2 : Expr} {es : List Expr} {pos p1 p2 p3 : Pos} {τ τ1 τ2 τ3 : List SV} {d d1 d2 d3 : PyData} {ds es' : List PyData} {x : Str} {rest body : List Stmt} {R : Out → Prop} {i : Nat} {l : Addr}
/-- the name in slot i, one's own list -/
theorem own_run {σ : L2.St} {H : Hp} {C : Fc} {Q : VK} (hs : τ[i]? = some (.ow l ds)) (hN : X.N[i]? = some x) (hv : Vis X.env.scope x) (hd : (x == ("__debug__" : Str)) = false) (hcd : (x == ("__classdict__" : Str)) = false) (S : Sl X.K C H σ τ)
    (q : ∀ xs, H l = some (.lst xs) → DpAll X.K (hide (C.L0 ++ own τ) H) xs ds → Q (.ref l) H) : WE X (.Name x pos) σ H Q := by
  obtain ⟨o, h1, h2, xs, h3, h4⟩ := S.sl i _ hs
  exact WE.of (pe_var hN hv hd hcd) ⟨.ref l, by rw [h1, h2], q xs h3 h4⟩
theorem EV.ixOw (i : Nat) {j : Int} (h2 : EV X b τ (.int j) τ1) (hs : τ1[i]? = some (.ow l ds)) (hs0 : ∃ ds0, τ[i]? = some (.ow l ds0)) (hj : atI ds j = some d) (hN : X.N[i]? = some x := by rfl) (hv : Vis X.env.scope x := by first | exact Or.inl rfl | exact Or.inr (Or.inl rfl) | exact Or.inr (Or.inr rfl)) (hd : (x == ("__debug__" : Str)) = false := by decide)
    (hcd : (x == ("__classdict__" : Str)) = false := by decide) (hp : PlainIx b := by exact fun _ _ => rfl) : EV X (.Subscript (.Name x p1) b pos) τ d τ1 :=
  ⟨h2.ow, fun C σ H Q S q => WE.of (pe_ix ix_list pe_self pe_self hp) (by
    obtain ⟨ds0, hs0⟩ := hs0
    refine own_run hs0 hN hv hd hcd S fun xs e1 e2 => ?_
    refine h2.run C σ H _ S fun v H' g S' p => ?_
    cases p
    obtain ⟨o, z1, z2, ys, z3, z4⟩ := S'.sl i _ hs
    obtain ⟨v, w1, w2⟩ := atI_dp z4 hj
    exact ⟨l, ys, j, v, rfl, rfl, SqL.of z3, w1, q v H' g S' w2⟩)⟩
theorem EV.lenOw (i : Nat) (hm : X.mg "len" = none) (hs : τ[i]? = some (.ow l ds) := by rfl) (hN : X.N[i]? = some x := by rfl) (hv : Vis X.env.scope x := by first | exact Or.inl rfl | exact Or.inr (Or.inl rfl) | exact Or.inr (Or.inr rfl)) (hd : (x == ("__debug__" : Str)) = false := by decide)
    (hcd : (x == ("__classdict__" : Str)) = false := by decide) (hg : Gl X "len" := by rfl) (he : starEach [.Name x p1] X.env = (false, eval (.Name x p1) X.env) :: starEach [] X.env := by rfl) : EV X (.Call (.Name "len" p2) [.Name x p1] [] pos) τ (.int ds.length) τ :=
  ⟨rfl, fun C σ H Q S q => WE.of (pe_callB call_len_seq hg hm (by decide +kernel) (pa_cons pe_self pa_nil he) (by decide) (by decide) he rfl) (by
    refine own_run hs hN hv hd hcd S fun xs e1 e2 => ?_
    exact ⟨l, xs, rfl, .inl (SqL.of e1), by rw [DpAll.len e2]; exact q _ H (Gw.refl _ _) S (.int _)⟩)⟩
theorem put_back {K : PySem.W.Frag} {C : Fc} {H : Hp} {σ : L2.St} {xs : List V} (S : Sl K C H σ τ) (hs : τ[i]? = some (.ow l ds)) (hw : l ∉ own (τ.set i .un)) (h : DpAll K (hide (C.L0 ++ own τ) H) xs es') : Sl K C (upd H l (.lst xs)) σ (τ.set i (.ow l es')) := by
  have hl : i < τ.length := (List.getElem?_eq_some_iff.mp hs).1
  have S2 := S.put (p := l) hl hw (.inl (own_mem hs)) h
  obtain ⟨o, h1, h2, _⟩ := S.sl i _ hs
  have e : σ.set i (some (.ref l)) = σ := by
    apply List.ext_getElem?
    intro j
    by_cases hj : i = j
    · subst hj
      rw [List.getElem?_set_self (by rw [S.len]; exact hl), h1, h2]
    · rw [List.getElem?_set_ne hj]
  rw [e] at S2
  exact S2
/-- xs.append(e) -/
theorem SX.app (i : Nat) {ap : Pos} (h1 : EV X e τ d τ1) (hs : τ1[i]? = some (.ow l ds)) (hs0 : ∃ ds0, τ[i]? = some (.ow l ds0)) (hz : ds.length < sizeLine) (h : SX X rest (τ1.set i (.ow l (ds ++ [d]))) R) (hw : l ∉ own (τ1.set i .un) := by simp [own, ownA]) (hN : X.N[i]? = some x := by rfl) (hv : Vis X.env.scope x := by first | exact Or.inl rfl | exact Or.inr (Or.inl rfl) | exact Or.inr (Or.inr rfl)) (hd : (x == ("__debug__" : Str)) = false := by decide)
    (hcd : (x == ("__classdict__" : Str)) = false := by decide) (hbase : attributeBase (.Name x p1) "append" X.env (eval (.Name x p1) X.env) = eval (.Name x p1) X.env := by rfl)
    (hfew : ((backTo p2 (starEach [e] X.env)).all (fun x => !x.1) && (backToKw p2 (keywordEach [] X.env)).all (fun x => x.1.isSome) && decide ([e].length + ([] : List Keyword).length + (if ([] : List Keyword).isEmpty then 0 else 1) < 30)) = true := by rfl)
    (hline : (ap.endLine == p2.line) = true := by rfl) (hst : starEach [e] X.env = (false, eval e X.env) :: starEach [] X.env := by rfl) (hsw : swapsWith (.Call (.Attribute (.Name x p1) "append" ap) [e] [] p2) none pos.line X.env = pure false := by rfl) :
    SX X (.Expr (.Call (.Attribute (.Name x p1) "append" ap) [e] [] p2) pos :: rest) τ R :=
  SX.seq (ps_expr (pe_bm PySem.F.plainAttrs_list PySem.F.slot_list_append PySem.F.type_list_append mt_append pe_self (pa_cons pe_self pa_nil hst) hbase hfew hline hst rfl) hsw) fun C σ H D W tk S k => by
    obtain ⟨ds0, hs0⟩ := hs0
    refine own_run hs0 hN hv hd hcd S fun xs e1 e2 => ⟨.inl ⟨rfl, xs, SqL.of e1⟩, ?_⟩
    refine h1.run C σ H _ S fun v H' g S' p => ?_
    obtain ⟨o, z1, z2, ys, z3, z4⟩ := S'.sl i _ hs
    refine ⟨l, ys, v, rfl, rfl, z3, by rw [DpAll.len z4]; exact hz, ?_⟩
    exact k (.nx _) h _ _ (put_back S' hs hw (DpAll.snoc z4 p))
/-- xs.extend(a fresh list) -/
theorem SX.ext (i : Nat) {ap : Pos} (h1 : EF X e τ es' τ1) (hs : τ1[i]? = some (.ow l ds)) (hs0 : ∃ ds0, τ[i]? = some (.ow l ds0)) (hz : ds.length + es'.length ≤ sizeLine) (h : SX X rest (τ1.set i (.ow l (ds ++ es'))) R) (hw : l ∉ own (τ1.set i .un) := by simp [own, ownA]) (hN : X.N[i]? = some x := by rfl) (hv : Vis X.env.scope x := by first | exact Or.inl rfl | exact Or.inr (Or.inl rfl) | exact Or.inr (Or.inr rfl)) (hd : (x == ("__debug__" : Str)) = false := by decide)
    (hcd : (x == ("__classdict__" : Str)) = false := by decide) (hbase : attributeBase (.Name x p1) "extend" X.env (eval (.Name x p1) X.env) = eval (.Name x p1) X.env := by rfl)
    (hfew : ((backTo p2 (starEach [e] X.env)).all (fun x => !x.1) && (backToKw p2 (keywordEach [] X.env)).all (fun x => x.1.isSome) && decide ([e].length + ([] : List Keyword).length + (if ([] : List Keyword).isEmpty then 0 else 1) < 30)) = true := by rfl)
    (hline : (ap.endLine == p2.line) = true := by rfl) (hst : starEach [e] X.env = (false, eval e X.env) :: starEach [] X.env := by rfl) (hsw : swapsWith (.Call (.Attribute (.Name x p1) "extend" ap) [e] [] p2) none pos.line X.env = pure false := by rfl) :
    SX X (.Expr (.Call (.Attribute (.Name x p1) "extend" ap) [e] [] p2) pos :: rest) τ R :=
  SX.seq (ps_expr (pe_bm PySem.F.plainAttrs_list PySem.F.slot_list_extend PySem.F.type_list_extend mt_extend pe_self (pa_cons pe_self pa_nil hst) hbase hfew hline hst rfl) hsw) fun C σ H D W tk S k => by
    obtain ⟨ds0, hs0⟩ := hs0
    refine own_run hs0 hN hv hd hcd S fun xs e1 e2 => ⟨.inl ⟨rfl, xs, SqL.of e1⟩, ?_⟩
    refine h1.run C σ H _ S fun p H' zs g hp f1 f2 S' => ?_
    obtain ⟨o, z1, z2, ys, z3, z4⟩ := S'.sl i _ hs
    refine ⟨l, p, ys, zs, rfl, rfl, z3, f1, by rw [DpAll.len z4, DpAll.len f2]; exact hz, ?_⟩
    exact k (.nx _) h _ _ (put_back (es' := ds ++ es') S' hs hw (DpAll.app z4 f2)).unHid
/-- xs[j] = e -/
theorem SX.setIx (i : Nat) {j : Int} {jn : Nat} (h1 : EV X e τ d τ1) (h2 : EV X b τ1 (.int j) τ2) (hs : τ2[i]? = some (.ow l ds)) (hs0 : ∃ ds0, τ1[i]? = some (.ow l ds0)) (hj : ixN ds.length j = some jn) (h : SX X rest (τ2.set i (.ow l (ds.set jn d))) R) (hw : l ∉ own (τ2.set i .un) := by simp [own, ownA]) (hN : X.N[i]? = some x := by rfl) (hv : Vis X.env.scope x := by first | exact Or.inl rfl | exact Or.inr (Or.inl rfl) | exact Or.inr (Or.inr rfl)) (hd : (x == ("__debug__" : Str)) = false := by decide)
    (hcd : (x == ("__classdict__" : Str)) = false := by decide) (hg : PG X (.Subscript (.Name x p1) b p2) (gSub (WE X (.Name x p1)) (WE X b) rSetL) := by exact pg_sub pe_self pe_self set_list)
    (hsw : swapsWithSole [.Subscript (.Name x p1) b p2] e pos.line X.env = pure false := by rfl) (hst : swappedStores [.Subscript (.Name x p1) b p2] e X.env = pure none := by rfl) :
    SX X (.Assign [.Subscript (.Name x p1) b p2] e pos :: rest) τ R :=
  SX.seq (ps_asg pe_self hg hsw hst) fun C σ H D W tk S k => by
    obtain ⟨ds0, hs0⟩ := hs0
    refine h1.run C σ H _ S fun v H1 g1 S1 q1 => ?_
    refine own_run hs0 hN hv hd hcd S1 fun xs e1 e2 => ?_
    refine h2.run C σ H1 _ S1 fun w H2 g2 S2 q2 => ?_
    cases q2
    obtain ⟨o, z1, z2, ys, z3, z4⟩ := S2.sl i _ hs
    refine ⟨l, ys, j, jn, rfl, rfl, z3, by rw [DpAll.len z4]; exact hj, ?_⟩
    exact k (.nx _) h _ _ (put_back S2 hs hw (DpAll.set (keep_dp h2.ow g2 q1) jn z4))
/-! ### unpacking -/
theorem SX.unp2 {kk : Nat} {tp : Pos} {x y : Str} (i j : Nat) (h1 : EV X e τ (.tuple [d1, d2]) τ1) (h : SX X rest ((τ1.set i (.pu d1)).set j (.pu d2)) R) (no : nOw τ1[i]? = true := by rfl) (no2 : nOw (τ1.set i (.pu d1))[j]? = true := by rfl)
    (hg : PG X (.Tuple [.Name x p1, .Name y p2] kk tp) (gTup X.K 2 (gCons (gName i) (gCons (gName j) gNil))) := by exact pg_tup rfl (pgs_cons (pg_name (by assumption) rfl (by first | exact Or.inl rfl | exact Or.inr rfl)) (pgs_cons (pg_name (by assumption) rfl (by first | exact Or.inl rfl | exact Or.inr rfl)) pgs_nil)))
    (hsw : swapsWithSole [.Tuple [.Name x p1, .Name y p2] kk tp] e pos.line X.env = pure false := by rfl) (hst : swappedStores [.Tuple [.Name x p1, .Name y p2] kk tp] e X.env = pure none := by rfl) :
    SX X (.Assign [.Tuple [.Name x p1, .Name y p2] kk tp] e pos :: rest) τ R :=
  SX.seq (ps_asg pe_self hg hsw hst) fun C σ H D W tk S k => by
    refine h1.run C σ H _ S fun v H1 g1 S1 q1 => ?_
    exact (EG.pair (vs := [i, j]) i j (by simp) (by simp) no no2).run C σ H1 v _ S1 q1 fun σ2 _ S2 => k (.nx _) h _ _ S2
theorem dp4 {K : PySem.W.Frag} {H : Hp} {v : V} {d4 : PyData} (h : Dp K H v (.tuple [d1, d2, d3, d4])) : ∃ a w1 w2 w3 w4, v = .ref a ∧ SqT K H a [w1, w2, w3, w4] ∧ Dp K H w1 d1 ∧ Dp K H w2 d2 ∧ Dp K H w3 d3 ∧ Dp K H w4 d4 := by
  cases h with
  | tup s1 s2 =>
    cases s2 with
    | cons q1 s2 =>
      cases s2 with
      | cons q2 s2 =>
        cases s2 with
        | cons q3 s2 =>
          cases s2 with
          | cons q4 s2 => cases s2; exact ⟨_, _, _, _, _, rfl, s1, q1, q2, q3, q4⟩
theorem dp3 {K : PySem.W.Frag} {H : Hp} {v : V} (h : Dp K H v (.tuple [d1, d2, d3])) : ∃ a w1 w2 w3, v = .ref a ∧ SqT K H a [w1, w2, w3] ∧ Dp K H w1 d1 ∧ Dp K H w2 d2 ∧ Dp K H w3 d3 := by
  cases h with
  | tup s1 s2 =>
    cases s2 with
    | cons q1 s2 =>
      cases s2 with
      | cons q2 s2 =>
        cases s2 with
        | cons q3 s2 => cases s2; exact ⟨_, _, _, _, rfl, s1, q1, q2, q3⟩
theorem SX.unp4 {kk : Nat} {tp p4 : Pos} {x y z u : Str} {d4 : PyData} (i j m n : Nat) (h1 : EV X e τ (.tuple [d1, d2, d3, d4]) τ1) (h : SX X rest ((((τ1.set i (.pu d1)).set j (.pu d2)).set m (.pu d3)).set n (.pu d4)) R) (no : nOw τ1[i]? = true := by rfl) (no2 : nOw (τ1.set i (.pu d1))[j]? = true := by rfl) (no3 : nOw ((τ1.set i (.pu d1)).set j (.pu d2))[m]? = true := by rfl)
    (hg : PG X (.Tuple [.Name x p1, .Name y p2, .Name z p3, .Name u p4] kk tp) (gTup X.K 4 (gCons (gName i) (gCons (gName j) (gCons (gName m) (gCons (gName n) gNil))))) := by exact pg_tup rfl (pgs_cons (pg_name (by assumption) rfl (by first | exact Or.inl rfl | exact Or.inr rfl)) (pgs_cons (pg_name (by assumption) rfl (by first | exact Or.inl rfl | exact Or.inr rfl)) (pgs_cons (pg_name (by assumption) rfl (by first | exact Or.inl rfl | exact Or.inr rfl)) (pgs_cons (pg_name (by assumption) rfl (by first | exact Or.inl rfl | exact Or.inr rfl)) pgs_nil)))))
    (hsw : swapsWithSole [.Tuple [.Name x p1, .Name y p2, .Name z p3, .Name u p4] kk tp] e pos.line X.env = pure false := by rfl) (hst : swappedStores [.Tuple [.Name x p1, .Name y p2, .Name z p3, .Name u p4] kk tp] e X.env = pure none := by rfl) :
    SX X (.Assign [.Tuple [.Name x p1, .Name y p2, .Name z p3, .Name u p4] kk tp] e pos :: rest) τ R :=
  SX.seq (ps_asg pe_self hg hsw hst) fun C σ H D W tk S k => by
    refine h1.run C σ H _ S fun v H1 g1 S1 q1 => ?_
    obtain ⟨a, w1, w2, w3, w4, rfl, s1, q1, q2, q3, q4⟩ := dp4 q1
    refine ⟨a, _, rfl, st_ex (hide_ex _ _) s1, rfl, w1, _, rfl, w2, _, rfl, w3, _, rfl, w4, _, rfl, rfl, ?_⟩
    have S2 := S1.set q1 i
    have o2 := own_set (τ := τ1) (sv := .pu d1) no rfl
    have S3 := S2.set (v := w2) (d := d2) (by rw [o2]; exact q2) j
    have o3 := (own_set (τ := τ1.set i (.pu d1)) (sv := .pu d2) no2 rfl).trans o2
    have S4 := S3.set (v := w3) (d := d3) (by rw [o3]; exact q3) m
    have o4 := (own_set (τ := (τ1.set i (.pu d1)).set j (.pu d2)) (sv := .pu d3) no3 rfl).trans o3
    exact k (.nx _) h _ _ (S4.set (v := w4) (d := d4) (by rw [o4]; exact q4) n)
theorem SX.unp3 {kk : Nat} {tp : Pos} {x y z : Str} (i j m : Nat) (h1 : EV X e τ (.tuple [d1, d2, d3]) τ1) (h : SX X rest (((τ1.set i (.pu d1)).set j (.pu d2)).set m (.pu d3)) R) (no : nOw τ1[i]? = true := by rfl) (no2 : nOw (τ1.set i (.pu d1))[j]? = true := by rfl)
    (hg : PG X (.Tuple [.Name x p1, .Name y p2, .Name z p3] kk tp) (gTup X.K 3 (gCons (gName i) (gCons (gName j) (gCons (gName m) gNil)))) := by exact pg_tup rfl (pgs_cons (pg_name (by assumption) rfl (by first | exact Or.inl rfl | exact Or.inr rfl)) (pgs_cons (pg_name (by assumption) rfl (by first | exact Or.inl rfl | exact Or.inr rfl)) (pgs_cons (pg_name (by assumption) rfl (by first | exact Or.inl rfl | exact Or.inr rfl)) pgs_nil))))
    (hsw : swapsWithSole [.Tuple [.Name x p1, .Name y p2, .Name z p3] kk tp] e pos.line X.env = pure false := by rfl) (hst : swappedStores [.Tuple [.Name x p1, .Name y p2, .Name z p3] kk tp] e X.env = pure none := by rfl) :
    SX X (.Assign [.Tuple [.Name x p1, .Name y p2, .Name z p3] kk tp] e pos :: rest) τ R :=
  SX.seq (ps_asg pe_self hg hsw hst) fun C σ H D W tk S k => by
    refine h1.run C σ H _ S fun v H1 g1 S1 q1 => ?_
    obtain ⟨a, w1, w2, w3, rfl, s1, q1, q2, q3⟩ := dp3 q1
    refine ⟨a, _, rfl, st_ex (hide_ex _ _) s1, rfl, w1, _, rfl, w2, _, rfl, w3, _, rfl, rfl, ?_⟩
    have S2 := S1.set q1 i
    have o2 := own_set (τ := τ1) (sv := .pu d1) no rfl
    have S3 := S2.set (v := w2) (d := d2) (by rw [o2]; exact q2) j
    have o3 := (own_set (τ := τ1.set i (.pu d1)) (sv := .pu d2) no2 rfl).trans o2
    exact k (.nx _) h _ _ (S3.set (v := w3) (d := d3) (by rw [o3]; exact q3) m)
/-- a, b = e1, e2 (written) -/
theorem SX.par {x y : Str} {kt k2 : Nat} {pt pt2 : Pos} (i j : Nat) (h1 : EV X a τ d1 τ1) (h2 : EV X b τ1 d2 τ2) (h : SX X rest ((τ2.set i (.pu d1)).set j (.pu d2)) R) (no : nOw τ2[i]? = true := by rfl)
    (hps : PS X (.Assign [.Tuple [.Name x p1, .Name y p2] kt pt] (.Tuple [a, b] k2 pt2) pos) (tPar i j (tCons (WE X a) (tCons (WE X b) tNil))) := by exact ps_par (by rfl) (by assumption) rfl rfl (by decide) rfl rfl (pa_cons pe_self (pa_cons pe_self pa_nil)) (by rfl)) :
    SX X (.Assign [.Tuple [.Name x p1, .Name y p2] kt pt] (.Tuple [a, b] k2 pt2) pos :: rest) τ R :=
  SX.seq hps fun C σ H D W tk S k => by
    refine h1.run C σ H _ S fun v H1 g1 S1 q1 => ?_
    refine h2.run C σ H1 _ S1 fun w H2 g2 S2 q2 => ?_
    refine ⟨v, w, rfl, ?_⟩
    have S3 := S2.set (keep_dp h2.ow g2 q1) i
    have o3 := own_set (τ := τ2) (sv := .pu d1) no rfl
    exact k (.nx _) h _ _ (S3.set (v := w) (d := d2) (by rw [o3]; exact q2) j)
/-! ### raise -/
structure ExcOk (K : PySem.W.Frag) (mg : Str → Option Value) (c : Str) : Prop where
  gl : mg c = some (.ref (He.ga K c))
  ex : PySem.W.excIn K (He.ga K c) He.veBase "ValueError.__new__" = true
  kp : PySem.W.keepIn K (.ref (He.ga K c)) = true
  sb : PySem.W.subIn K (.ref (He.ga K c)) (.type "BaseException") = some true
  ty : PySem.W.typeIn K (.ref (He.ga K c)) = some (.type "type")
theorem SX.raise {c m : Str} {j : Nat} (E : ExcOk X.K X.mg c) (h : R (.xc c τ)) (hc : X.calm = true := by rfl) (hg : Gl X c := by rfl) (hdb : (c == ("__debug__" : Str)) = false := by decide) : SX X (.Raise (some (.Call (.Name c p1) [.Constant (.str m) j p2] [] p3)) none pos :: rest) τ R := by
  refine SX.mk fun C σ H D W tk S k => ?_
  refine WSs.of (pss_cons (ps_raise hc tk (pmk_own PySem.F.excBase_ValueError E.ex E.gl E.kp (raises_own E.sb E.ty) hg hdb)) (pss_self (sts := rest))) ?_
  exact k (.xc c τ) h σ H S
/-! ### while -/
/-- while: an invariant over the slots, a number that falls -/
theorem SX.while_ (I : Nat → List SV → Prop) {m0 : Nat} (h0 : I m0 τ)
    (ht : ∀ m τ', I m τ' → ∃ k τ2, ET X c τ' k τ2 ∧ (k = true → SX X body τ2 (forO (seqO X rest R) (fun τ3 => ∃ m', m' < m ∧ I m' τ3) R)) ∧ (k = false → SX X rest τ2 R))
    (hp : PassesOwn (model X.prog X.w) X.A X.env X.xe) : SX X (.While c body [] pos :: rest) τ R := by
  refine SX.seq (ps_while hp pt_self pss_self) fun C σ H D W tk S k => ?_
  refine ⟨fun m σ' H' => ∃ τ', I m τ' ∧ Sl X.K C H' σ' τ', ⟨m0, τ, h0, S⟩, ?_⟩
  rintro m σ' H' ⟨τ', hI, S'⟩
  obtain ⟨kk, τ2, hT, hB, hE⟩ := ht m τ' hI
  refine hT.run C σ' H' _ S' fun H1 g1 S1 => ?_
  cases kk with
  | true =>
    refine L2.iteT ⟨fun σ3 H3 => ∃ m', m' < m ∧ ∃ τ3, I m' τ3 ∧ Sl X.K C H3 σ3 τ3, fun σ3 H3 ⟨m', hm, τ3, h3, S3⟩ => ⟨m', hm, τ3, h3, S3⟩, ?_⟩
    refine (hB rfl).run C σ' H1 _ W tk S1 fun o ho => ?_
    cases o with
    | nx τ3 => exact fun σ3 H3 S3 => let ⟨m', hm, h3⟩ := ho; ⟨m', hm, τ3, h3, S3⟩
    | ct τ3 => exact fun σ3 H3 S3 => let ⟨m', hm, h3⟩ := ho; ⟨m', hm, τ3, h3, S3⟩
    | bk τ3 => exact fun σ3 H3 S3 => k (.nx τ3) ho σ3 H3 S3
    | rt d3 τ3 => exact k (.rt d3 τ3) ho
    | xc c3 τ3 => exact k (.xc c3 τ3) ho
    | rk d3 τ3 => exact k (.rk d3 τ3) ho
    | ro d3 τ3 => exact k (.ro d3 τ3) ho
  | false => exact L2.iteF (k (.nx τ2) (hE rfl) σ' H1 S1)
end
end DL

set_option maxRecDepth 100000
set_option maxHeartbeats 2000000
/-! DLj: further built-ins over data. -/
namespace DL
open PySem L2
/-! ### types -/
def tyD : PyData → String
  | .none => "NoneType"
  | .bool _ => "bool"
  | .int _ => "int"
  | .str _ => "str"
  | .list _ => "list"
  | .tuple _ => "tuple"
  | .dict _ => "dict"
/-- the type of a value by its data -/
theorem kit_dp {X : Cx} {pins : List (Addr × Obj)} {σ : L2.St} {H : Hp} {s : Shared} {v : V} {u : Value} {d : PyData} (I : Inv X pins σ H s) (rx : RelV v u) (h : Dp X.K H v d) : ∃ P : Heap → Prop, PySem.W.KitX X.K u (.type (tyD d)) P ∧ P s.heap ∧ u ≠ .builtin "__main__.__loader__#opaque" := by
  cases h with
  | non => exact kit_of I rx (.base .non)
  | bl b => exact kit_of I rx (.base (.bl b))
  | int i => exact kit_of I rx (.base (.int i))
  | str x => exact kit_of I rx (.base (.str x))
  | lst s _ =>
    rcases s with (e | ⟨o, e⟩) | ⟨o, its, n, e, c, _⟩
    · exact kit_of I rx (.base (.lst e))
    · exact kit_of I rx (.base (.frz e))
    · exact kit_of I rx (.kList e c)
  | tup s _ =>
    rcases s with (e | ⟨o, e⟩) | ⟨o, its, n, e, c, _⟩
    · exact kit_of I rx (.base (.tup e))
    · exact kit_of I rx (.fTuple e)
    · exact kit_of I rx (.kTuple e c)
  | @dic a o _ _ _ _ _ hf hc _ _ =>
    cases (show u = Value.ref a from rx)
    exact ⟨_, PySem.W.kitx_dict, ⟨o, (I.hok _ _ hf).1, hc.ex.1⟩, fun z => nomatch z⟩
def rIsiD (K : PySem.W.Frag) : List V → Hp → VK → Prop := fun xs H Q => ∃ (x : V) (T : String) (d : PyData) (b : Bool), xs = [x, .ty T] ∧ Dp K H x d ∧ kitB (tyD d) T = some b ∧ Q (.bl b) H
theorem call_isiD {X : Cx} : CallR X (.builtin "isinstance") (rIsiD X.K) := by
  intro pins s σ H xs us Q I r h
  obtain ⟨x, T, d, b, rfl, hd, e, q⟩ := h
  obtain ⟨u1, u2, rfl, r1, r2⟩ := vals2 r
  have e2 := (ClsV.ty T).eq r2
  subst e2
  obtain ⟨P, Z, p, hx⟩ := kit_dp I r1 hd
  exact PySem.W.kia_one Z I.kIn p (kit_ty e) hx fun tk => ⟨.bl b, H, I.tok tk, rfl, q⟩
section
variable {X : Cx} {a b c e : Expr} {es : List Expr} {pos p p2 p3 : Pos} {τ τ1 τ2 τ3 : List SV} {d d1 d2 d3 : PyData} {ds es' : List PyData}
theorem EV.isi {T : String} {x : Str} {k : Bool} (hm : X.mg "isinstance" = none) (hm2 : X.mg x = none) (h : EV X a τ d τ1) (hk : kitB (tyD d) T = some k) (hv : bootBuiltins x = some (.type T) := by decide +kernel) (hg : Gl X "isinstance" := by rfl) (hg2 : Gl X x := by rfl) (hn : x ≠ "__name__" := by decide) (hdb : (x == ("__debug__" : Str)) = false := by decide)
    (he : starEach [a, .Name x p2] X.env = (false, eval a X.env) :: starEach [.Name x p2] X.env := by rfl) (he2 : starEach [.Name x p2] X.env = (false, eval (.Name x p2) X.env) :: starEach [] X.env := by rfl) (hpl : (backTo pos (starEach [.Name x p2] X.env)).any (·.1) = false := by rfl) :
    EV X (.Call (.Name "isinstance" p) [a, .Name x p2] [] pos) τ (.bool k) τ1 :=
  ⟨h.ow, fun C σ H Q S q => WE.of (pe_callB call_isiD hg hm (by decide +kernel) (pa_cons pe_self (pa_cons (pe_bltn (v := .ty T) hg2 hm2 hv rfl hn hdb) pa_nil he2) he) (by decide) (by decide) he hpl) (h.run C σ H _ S fun v H1 g1 S1 p1 =>
    ⟨v, T, d, k, rfl, Dp.ex (hide_ex _ _) p1, hk, q _ H1 g1 S1 (.bl k)⟩)⟩
theorem EV.min2 {i j : Int} (hm : X.mg "min" = none) (h : EV X a τ (.int i) τ1) (h' : EV X b τ1 (.int j) τ2) (hc : X.calm = true := by rfl) (hg : Gl X "min" := by rfl) (he : starEach [a, b] X.env = (false, eval a X.env) :: starEach [b] X.env := by rfl) (he2 : starEach [b] X.env = (false, eval b X.env) :: starEach [] X.env := by rfl) (hpl : (backTo pos (starEach [b] X.env)).any (·.1) = false := by rfl) :
    EV X (.Call (.Name "min" p) [a, b] [] pos) τ (.int (min i j)) τ2 :=
  EV.callB (call_min2 hc) hm (EA.cons h (EA.cons h' EA.nil he2) he) (fun L H vs Q _ hd q => by
    cases hd with
    | cons q1 hd =>
      cases hd with
      | cons q2 hd =>
        cases hd; cases q1; cases q2
        refine ⟨i, j, rfl, ?_⟩
        have e : (if j < i then j else i) = min i j := by split <;> omega
        rw [e]; exact q _ H (Ex.refl _) (.int _)) hg (he := he) (hpl := hpl)
theorem EV.max2 {i j : Int} (hm : X.mg "max" = none) (h : EV X a τ (.int i) τ1) (h' : EV X b τ1 (.int j) τ2) (hc : X.calm = true := by rfl) (hg : Gl X "max" := by rfl) (he : starEach [a, b] X.env = (false, eval a X.env) :: starEach [b] X.env := by rfl) (he2 : starEach [b] X.env = (false, eval b X.env) :: starEach [] X.env := by rfl) (hpl : (backTo pos (starEach [b] X.env)).any (·.1) = false := by rfl) :
    EV X (.Call (.Name "max" p) [a, b] [] pos) τ (.int (max i j)) τ2 :=
  EV.callB (call_max2 hc) hm (EA.cons h (EA.cons h' EA.nil he2) he) (fun L H vs Q _ hd q => by
    cases hd with
    | cons q1 hd =>
      cases hd with
      | cons q2 hd =>
        cases hd; cases q1; cases q2
        refine ⟨i, j, rfl, ?_⟩
        have e : (if j > i then j else i) = max i j := by split <;> omega
        rw [e]; exact q _ H (Ex.refl _) (.int _)) hg (he := he) (hpl := hpl)
theorem EV.sum {ns : List Int} (hm : X.mg "sum" = none) (h : EV X a τ (DL.lst PyData.int ns) τ1) (hc : X.calm = true := by rfl) (hg : Gl X "sum" := by rfl) (he : starEach [a] X.env = (false, eval a X.env) :: starEach [] X.env := by rfl) : EV X (.Call (.Name "sum" p) [a] [] pos) τ (.int ns.sum) τ1 :=
  EV.callB (cr_sum hc) hm (EA.cons h EA.nil he) (fun L H vs Q _ hd q => by
    cases hd with
    | cons q1 hd =>
      cases hd
      cases q1 with
      | @lst a xs _ s1 s2 =>
        rw [dp_ints s2] at s1
        exact ⟨a, ns, rfl, sq_ex (hide_ex L H) s1, q _ H (Ex.refl _) (.int _)⟩) hg (he := he) (hpl := rfl)
theorem EV.all {ns : List Bool} (hm : X.mg "all" = none) (h : EV X a τ (DL.lst PyData.bool ns) τ1) (hc : X.calm = true := by rfl) (hg : Gl X "all" := by rfl) (he : starEach [a] X.env = (false, eval a X.env) :: starEach [] X.env := by rfl) : EV X (.Call (.Name "all" p) [a] [] pos) τ (.bool (ns.all id)) τ1 :=
  EV.callB (cr_all hc) hm (EA.cons h EA.nil he) (fun L H vs Q _ hd q => by
    cases hd with
    | cons q1 hd =>
      cases hd
      cases q1 with
      | @lst a xs _ s1 s2 =>
        rw [dp_bools s2] at s1
        exact ⟨a, ns, rfl, sq_ex (hide_ex L H) s1, q _ H (Ex.refl _) (.bl _)⟩) hg (he := he) (hpl := rfl)
theorem EV.any {ns : List Bool} (hm : X.mg "any" = none) (h : EV X a τ (DL.lst PyData.bool ns) τ1) (hc : X.calm = true := by rfl) (hg : Gl X "any" := by rfl) (he : starEach [a] X.env = (false, eval a X.env) :: starEach [] X.env := by rfl) : EV X (.Call (.Name "any" p) [a] [] pos) τ (.bool (ns.any id)) τ1 :=
  EV.callB (cr_any hc) hm (EA.cons h EA.nil he) (fun L H vs Q _ hd q => by
    cases hd with
    | cons q1 hd =>
      cases hd
      cases q1 with
      | @lst a xs _ s1 s2 =>
        rw [dp_bools s2] at s1
        exact ⟨a, ns, rfl, sq_ex (hide_ex L H) s1, q _ H (Ex.refl _) (.bl _)⟩) hg (he := he) (hpl := rfl)
/-! ### tuple(..), list(..) -/
theorem EV.tupL (hm : X.mg "tuple" = none) (h : EV X a τ (.list ds) τ1) (hg : Gl X "tuple" := by rfl) (he : starEach [a] X.env = (false, eval a X.env) :: starEach [] X.env := by rfl) : EV X (.Call (.Name "tuple" p) [a] [] pos) τ (.tuple ds) τ1 :=
  EV.callTy call_tuple_of hm (EA.cons h EA.nil he) (fun L H vs Q dm hd q => by
    cases hd with
    | cons q1 hd =>
      cases hd
      cases q1 with
      | @lst a xs _ s1 s2 => exact ⟨a, xs, rfl, .inl ⟨sq_ex (hide_ex L H) s1, fun l hl => q _ _ (Ex.new hl) (dp_newT hl dm s2)⟩⟩) hg (he := he) (hpl := rfl)
theorem EV.tupT (hm : X.mg "tuple" = none) (h : EV X a τ (.tuple ds) τ1) (hg : Gl X "tuple" := by rfl) (he : starEach [a] X.env = (false, eval a X.env) :: starEach [] X.env := by rfl) : EV X (.Call (.Name "tuple" p) [a] [] pos) τ (.tuple ds) τ1 :=
  EV.callTy call_tuple_of hm (EA.cons h EA.nil he) (fun L H vs Q dm hd q => by
    cases hd with
    | cons q1 hd =>
      cases hd
      cases q1 with
      | @tup a xs _ s1 s2 => exact ⟨a, xs, rfl, .inr ⟨st_ex (hide_ex L H) s1, q _ H (Ex.refl _) (.tup s1 s2)⟩⟩) hg (he := he) (hpl := rfl)
theorem fresh_hide {K : PySem.W.Frag} {C : Fc} {τ1 : List SV} {H1 : Hp} {l : Addr} {o : HO} {xs : List V} (hl : H1 l = none) (s2 : DpAll K (hide (C.L0 ++ own τ1) H1) xs ds) : DpAll K (hide ((l :: C.L0) ++ own τ1) (upd H1 l o)) xs ds :=
  DpAll.ex (fun a u z => by
    obtain ⟨z1, z2⟩ := hide_some z
    have na : a ≠ l := fun e => by rw [e, hl] at z2; cases z2
    rw [hide_out (fun y => by rcases List.mem_cons.mp (show a ∈ l :: (C.L0 ++ own τ1) from y) with w | w; exact na w; exact z1 w), upd_ne na]; exact z2) s2
theorem back_none {K : PySem.W.Frag} {C : Fc} {σ : L2.St} {τ1 : List SV} {H H1 : Hp} {l : Addr} (S1 : Sl K C H1 σ τ1) (ho : own τ1 = own τ) (g : Gw (own τ) H H1) (hl : H1 l = none) : H l = none := by
  cases q : H l with
  | none => rfl
  | some o =>
    have := g l o (fun z => S1.dom l (List.mem_append_right _ (by rw [ho]; exact z)) hl) q
    rw [hl] at this; cases this
theorem EF.list (hm : X.mg "list" = none) (h : EV X a τ d τ1) (hd : d = .list ds ∨ d = .tuple ds) (hg : Gl X "list" := by rfl) (he : starEach [a] X.env = (false, eval a X.env) :: starEach [] X.env := by rfl) : EF X (.Call (.Name "list" p) [a] [] pos) τ ds τ1 :=
  ⟨h.ow, fun C σ H Q S q => WE.of (pe_callTy call_list_of hg hm (by decide +kernel) (pa_cons pe_self pa_nil he) (by decide) (by decide) he rfl) (h.run C σ H _ S fun v H1 g1 S1 p1 => by
    rcases hd with rfl | rfl
    · cases p1 with
      | @lst a xs _ s1 s2 => exact ⟨a, xs, rfl, .inl (sq_ex (hide_ex _ _) s1), fun l hl => q l _ xs (g1.trans (Gw.of (Ex.new hl))) (back_none S1 h.ow g1 hl) upd_same (fresh_hide hl s2) (S1.addHid hl)⟩
    · cases p1 with
      | @tup a xs _ s1 s2 => exact ⟨a, xs, rfl, .inr (st_ex (hide_ex _ _) s1), fun l hl => q l _ xs (g1.trans (Gw.of (Ex.new hl))) (back_none S1 h.ow g1 hl) upd_same (fresh_hide hl s2) (S1.addHid hl)⟩)⟩
theorem rgV_dp {K : PySem.W.Frag} {H : Hp} {i j : Int} : DpAll K H (rgV i j) ((rng i (j - i).toNat).map PyData.int) := by
  have e : rgV i j = (rng i (j - i).toNat).map V.int := by
    unfold rgV rng
    rw [List.map_map]; rfl
  rw [e]; exact dpInts _
/-- tuple(range(a, b)) -/
theorem EV.tupRg2 {i j : Int} (hm : X.mg "tuple" = none) (hm2 : X.mg "range" = none) (h : EV X a τ (.int i) τ1) (h' : EV X b τ1 (.int j) τ2) (ok : RgOk i j) (hc : X.calm = true := by rfl) (hg : Gl X "tuple" := by rfl) (hg2 : Gl X "range" := by rfl)
    (na : starEach [a, b] X.env = (false, eval a X.env) :: starEach [b] X.env := by rfl) (nb : starEach [b] X.env = (false, eval b X.env) :: starEach [] X.env := by rfl) (hp : (backTo p3 (starEach [b] X.env)).any (·.1) = false := by rfl) (nc : starEach [.Call (.Name "range" p2) [a, b] [] p3] X.env = (false, eval (.Call (.Name "range" p2) [a, b] [] p3) X.env) :: starEach [] X.env := by rfl) :
    EV X (.Call (.Name "tuple" p) [.Call (.Name "range" p2) [a, b] [] p3] [] pos) τ (eT (rng i (j - i).toNat)) τ2 :=
  ⟨h'.ow.trans h.ow, fun C σ H Q S q => WE.of (pe_tupRg hc hg hm (prg_2 hg2 hm2 pe_self pe_self na nb hp) nc) (h.run C σ H _ S fun v H1 g1 S1 p1 => h'.run C σ H1 _ S1 fun v2 H2 g2 S2 p2 => by
    cases p1; cases p2
    exact ⟨i, j, rfl, rfl, ok, fun l hl => q _ _ ((g1.trans (h.ow ▸ g2)).trans (Gw.of (Ex.new hl))) (S2.ex (Ex.new hl)) (dp_newT hl S2.dom rgV_dp)⟩)⟩
/-- list(range(a, b)) -/
theorem EF.listRg2 {i j : Int} (hm : X.mg "list" = none) (hm2 : X.mg "range" = none) (h : EV X a τ (.int i) τ1) (h' : EV X b τ1 (.int j) τ2) (ok : RgOk i j) (hc : X.calm = true := by rfl) (hg : Gl X "list" := by rfl) (hg2 : Gl X "range" := by rfl)
    (na : starEach [a, b] X.env = (false, eval a X.env) :: starEach [b] X.env := by rfl) (nb : starEach [b] X.env = (false, eval b X.env) :: starEach [] X.env := by rfl) (hp : (backTo p3 (starEach [b] X.env)).any (·.1) = false := by rfl) (nc : starEach [.Call (.Name "range" p2) [a, b] [] p3] X.env = (false, eval (.Call (.Name "range" p2) [a, b] [] p3) X.env) :: starEach [] X.env := by rfl) :
    EF X (.Call (.Name "list" p) [.Call (.Name "range" p2) [a, b] [] p3] [] pos) τ ((rng i (j - i).toNat).map PyData.int) τ2 :=
  ⟨h'.ow.trans h.ow, fun C σ H Q S q => WE.of (pe_listRg hc hg hm (prg_2 hg2 hm2 pe_self pe_self na nb hp) nc) (h.run C σ H _ S fun v H1 g1 S1 p1 => h'.run C σ H1 _ S1 fun v2 H2 g2 S2 p2 => by
    cases p1; cases p2
    have gg : Gw (own τ) H H2 := g1.trans (h.ow ▸ g2)
    exact ⟨i, j, rfl, rfl, ok, fun l hl => q l _ _ (gg.trans (Gw.of (Ex.new hl))) (back_none S2 (h'.ow.trans h.ow) gg hl) upd_same (fresh_hide hl rgV_dp) (S2.addHid hl)⟩)⟩
/-! ### list + list, list * n -/
def rCatS (K : PySem.W.Frag) : R2 := fun x y H Q => ∃ l b xs zs, x = .ref l ∧ y = .ref b ∧ SqL K H l xs ∧ SqL K H b zs ∧ xs.length + zs.length ≤ sizeLine ∧ ∀ p, H p = none → Q (.ref p) (upd H p (.lst (xs ++ zs)))
theorem EF.cat (ho : OpR X (binaryOp .Add) (rCatS X.K)) (h1 : EV X a τ (.list ds) τ1) (h2 : EV X b τ1 (.list es') τ2) (hz : ds.length + es'.length ≤ sizeLine) : EF X (.BinOp a .Add b pos) τ (ds ++ es') τ2 :=
  ⟨h2.ow.trans h1.ow, fun C σ H Q S q => WE.of (pe_op ho pe_self pe_self) (h1.run C σ H _ S fun x H1 g1 S1 p1 => h2.run C σ H1 _ S1 fun y H2 g2 S2 p2 => by
    have p1' := keep_dp (L0 := C.L0) h2.ow g2 p1
    have gg : Gw (own τ) H H2 := g1.trans (h1.ow ▸ g2)
    cases p1' with
    | @lst l xs _ s1 s2 =>
      cases p2 with
      | @lst b ys _ u1 u2 =>
        exact ⟨l, b, xs, ys, rfl, rfl, sq_ex (hide_ex _ _) s1, sq_ex (hide_ex _ _) u1, by rw [DpAll.len s2, DpAll.len u2]; exact hz, fun p hp =>
          q p _ _ (gg.trans (Gw.of (Ex.new hp))) (back_none S2 (h2.ow.trans h1.ow) gg hp) upd_same (fresh_hide hp (DpAll.app s2 u2)) (S2.addHid hp)⟩)⟩
theorem DpAll.rep {K : PySem.W.Frag} {H : Hp} {xs : List V} (h : DpAll K H xs ds) : ∀ n, DpAll K H (List.replicate n xs).flatten (List.replicate n ds).flatten
  | 0 => .nil
  | n + 1 => by
    rw [List.replicate_succ, List.flatten_cons, List.replicate_succ, List.flatten_cons]
    exact DpAll.app h (DpAll.rep h n)
/-- [..] * n of a fresh list -/
theorem EF.rep {k : Int} (h1 : EF X a τ ds τ1) (h2 : EV X b τ1 (.int k) τ1) (hb : -(2 ^ 63) ≤ k ∧ k < 2 ^ 63) (hz : ds.length * k.toNat ≤ sizeLine) : EF X (.BinOp a .Mult b pos) τ (List.replicate k.toNat ds).flatten τ1 :=
  ⟨h1.ow, fun C σ H Q S q => WE.of (pe_op op_rep pe_self pe_self) (h1.run C σ H _ S fun l H1 xs g1 hl e1 e2 S1 => h2.run _ σ H1 _ S1 fun y H2 g2 S2 p2 => by
    cases p2
    have nl : l ∉ own τ1 := fun z => (S.no0 hl).1 (by rw [← h1.ow]; exact z)
    have gg : Gw (own τ) H H2 := g1.trans (h1.ow ▸ g2)
    have e3 : H2 l = some (.lst xs) := g2 _ _ nl e1
    have e4 : DpAll X.K (hide (C.L0 ++ own τ1) H2) xs ds := DpAll.ex (Ex.trans (Gw.hide g2 fun a z => List.mem_append_right _ z) (hide_mono fun a z => List.mem_cons_of_mem _ z)) e2
    exact ⟨l, k, xs, rfl, rfl, e3, hb.1, hb.2, by rw [DpAll.len e2]; exact hz, fun p hp =>
      q p _ _ (gg.trans (Gw.of (Ex.new hp))) (back_none S2.unHid h1.ow gg hp) upd_same (fresh_hide hp (DpAll.rep e4 _)) (S2.unHid.addHid hp)⟩)⟩
end
end DL

set_option maxRecDepth 100000
set_option maxHeartbeats 2000000
/-! DLk: list + list, enumerate of a tuple, zip. -/
namespace DL
open PySem PySem.Spec PyProof.Rows L2
open RZ (ItzT iZipA pi_zipA)
theorem op_catS {X : Cx} : OpR X (binaryOp .Add) (rCatS X.K) := by
  intro pins s σ H x y v u Q I rx ry h
  obtain ⟨l, b, xs, zs, rfl, rfl, hH, hB, hz, q⟩ := h
  cases rx
  cases ry
  obtain ⟨its, r, ⟨⟨cls, dd, data, sl⟩, n, ho, hc, hdn, hd⟩, hz1⟩ := I.list hH
  obtain ⟨its2, r2, ⟨⟨cls2, dd2, data2, sl2⟩, n2, ho2, hc2, hdn2, hd2⟩, hz2⟩ := I.list hB
  simp only at hc hd hc2 hd2
  subst hc hd hc2 hd2
  refine concat_meets ⟨_, ho, rfl⟩ ⟨_, ho2, rfl⟩ noFill_list_add seq_list_add PySem.F.slot_list_add PySem.F.entry_list_add (PySem.F.args_list_add_2 _ _) (list_addW l b its.toArray its2.toArray n n2 dd dd2 sl sl2 ?_) ⟨ho, ho2, ?_⟩
  · rw [List.size_toArray, List.size_toArray, ← r.length, ← r2.length]; exact hz
  · have ea : its.toArray ++ its2.toArray = (its ++ its2).toArray := by simp
    rw [ea]
    exact ⟨.ref _, _, I.lnew (t' := s.toks) (r.append r2) (by rw [List.length_append]; omega), rfl, q _ I.fresh⟩
/-! ### enumerate of a tuple -/
theorem meets_enumerate_newT (l : Addr) (items : Array Value) (n : Nat) (dct : Option Addr) (sl : Array (Option Value)) :
    Meets (Builtin.«enumerate.__new__» ⟨[.type "enumerate", .ref l], []⟩) (fun _ R s => s.heap.get? l = some { cls := .type "tuple", dict := dct, data := .seq items n, slots := sl } ∧
      R (.ok (.ret (.ref (s.heap.push { cls := .type "tuple_iterator", data := .fields #[.ref l, .int 0 0] }).objs.size)))
        { s with heap := (s.heap.push { cls := .type "tuple_iterator", data := .fields #[.ref l, .int 0 0] }).push { cls := .type "enumerate", data := .fields #[.none, .bool false, .ref s.heap.objs.size, rawInt 0, .none, .none] } }) :=
  .of_wp fun prog w A R s h => by
    obtain ⟨hp, g, d, tk, os⟩ := s; obtain ⟨hl, h⟩ := h
    have hsub := sub_enumerate
    have hL : Heap.IsTuple (Shared.heap ⟨hp, g, d, tk, os⟩) l items := ⟨_, hl, rfl, n, rfl⟩
    wp_walk using AutoSeq1.wpAny_loadPart' hl
    refine wpAny_stack_any fun st => wpAny_pure ?_
    split
    · rename_i c _ _ _ _ _
      cases (c == Value.type "enumerate")
      · wp_walk using AutoSeq1.wpAny_loadPart' hl, wpAny_pyIter_tuple hL
        exact ⟨_, rfl, h⟩
      · wp_walk using AutoSeq1.wpAny_loadPart' hl, wpAny_pyIter_tuple hL
        exact ⟨_, rfl, h⟩
    · wp_walk using AutoSeq1.wpAny_loadPart' hl, wpAny_pyIter_tuple hL
      exact ⟨_, rfl, h⟩
theorem call_enumerate_tup {prog : Program} {w : World} {A : Around} {E : Value → Shared → Prop} {s : Shared} {l : Addr} {items : Array Value} {Q : Value → Shared → Prop} (hL : s.heap.IsTuple l items)
    (h : ∀ h', IsEnum h' (s.heap.objs.size + 1) s.heap.objs.size 0 .none → h'.IsTupleIter s.heap.objs.size l 0 → h'.objs.size = s.heap.objs.size + 2 →
      (∀ b o, s.heap.get? b = some o → h'.get? b = some o) → Q (.ref (s.heap.objs.size + 1)) { s with heap := h' }) :
    wpAny (model prog w) A (call (.type "enumerate") [.ref l]) Q E s := by
  obtain ⟨⟨c, dct, dt, sl⟩, hl, hc, n, hd⟩ := hL
  replace hc : c = .type "tuple" := hc
  replace hd : dt = .seq items n := hd
  subst hc hd
  refine callType_new F.called_enumerate (by decide) (F.typeCall_enumerate_1 _) (F.newCall_enumerate_1 _) (fun obj => F.args_object_init_2 obj _) F.entry_enumerate_new
    (meets_enumerate_newT l items n dct sl) ⟨hl, ?_⟩
  have hz : (s.heap.push { cls := .type "tuple_iterator", data := .fields #[.ref l, .int 0 0] }).objs.size = s.heap.objs.size + 1 := Heap.size_push ..
  show _ ∧ _
  rw [hz]
  have he : IsEnum ((s.heap.push { cls := .type "tuple_iterator", data := .fields #[.ref l, .int 0 0] }).push
      { cls := .type "enumerate", data := .fields #[.none, .bool false, .ref s.heap.objs.size, rawInt 0, .none, .none] }) (s.heap.objs.size + 1) s.heap.objs.size 0 .none := by
    have := Heap.get?_push_size (s.heap.push { cls := .type "tuple_iterator", data := .fields #[.ref l, .int 0 0] })
      (o := { cls := .type "enumerate", data := .fields #[.none, .bool false, .ref s.heap.objs.size, rawInt 0, .none, .none] }) rfl
    rw [hz] at this; exact this
  refine ⟨⟨_, he, rfl⟩, h _ he ⟨_, Heap.get?_push_of_some _ (Heap.get?_push_size _ rfl), rfl, rfl⟩ (by rw [Heap.size_push, hz]) fun b o x => Heap.get?_push_of_some _ (Heap.get?_push_of_some _ x)⟩
def IteT (K : PySem.W.Frag) (a : Addr) : It :=
  ⟨fun i H => ∃ (xs : List V) (x : V), SqT K H a xs ∧ xs[i]? = some x, fun i H v H' => ∃ T x, v = .ref T ∧ H T = none ∧ H' = upd H T (.tup [.int (i : Nat), x]) ∧ ∀ xs, SqT K H a xs → xs[i]? = some x, fun i H => ∃ xs : List V, SqT K H a xs ∧ xs.length = i⟩
theorem turn_enumT {P : Program} {w : World} {K : PySem.W.Frag} {elts : List Expr} {kk : Nat} {tpos : Pos} (a e it : Addr) (hae : a ≠ it) (hae2 : e ≠ a) :
    Turn P w K (.Tuple elts kk tpos) (IteT K a) [e, it] e (fun i h => (∃ old, IsEnum h e it ((i : Nat) : Int) old) ∧ h.IsTupleIter it a i ∧ e ≠ it) where
  mem := by simp
  obj := fun i h st b hb => by
    obtain ⟨⟨old, he⟩, ⟨o, ho, hc, hd⟩, _⟩ := st
    have e' : b = e ∨ b = it := by simpa using hb
    rcases e' with z | z
    · rw [z]; exact ⟨_, he, fun v q => nomatch q⟩
    · rw [z]; exact ⟨o, ho, fun v q => by rw [hd] at q; cases q⟩
  keep := fun i h h' st k => let ⟨⟨old, he⟩, hi, hne⟩ := st; ⟨⟨old, k e (by simp) _ he⟩, hi.at fun o q => k it (by simp) o q, hne⟩
  item := by
    intro X hP hw hK hc i pins s σ H E I hf st hg
    subst hP hw hK
    obtain ⟨⟨old, he⟩, hit, hne⟩ := st
    obtain ⟨xs, x, hq, hx⟩ := hg
    obtain ⟨its, rv, p, hz⟩ := I.tuple hq
    obtain ⟨u, hu, ru⟩ := rv.get hx
    have hel : e < s.heap.objs.size := Heap.lt_size he
    have hil : it < s.heap.objs.size := by obtain ⟨_, q, _⟩ := hit; exact Heap.lt_size q
    have hlt : i < its.toArray.size := by
      have := (List.getElem?_eq_some_iff.mp hu).1
      simpa using this
    have pT : s.heap.IsTuple a its.toArray := let ⟨o, h1, h2, h3⟩ := p; ⟨o, h1, h2, h3⟩
    refine wpAny_pyNext_enum_itemD (Draws.tuple (A := X.A.in1) (show X.A.in1.handled = none from I.ok.hd hc) it a hae its.toArray) he ⟨hit, pT⟩ hlt hne (by simp [hne, hae2]) fun x' h' tk hPx ho hit' hT hsz hk => ?_
    have eu : x' = u := by
      have h1 : its.toArray[i]? = some x' := hPx
      have h2 : its.toArray[i]? = some u := by simpa using hu
      rw [h1] at h2; exact Option.some.inj h2
    subst eu
    refine ⟨_, rfl, wpAny_letOwnedTupleGo_enum (s := { s with heap := h', toks := tk + 1 }) ho fun h'' he' sb => ?_⟩
    have hT2 : h''.get? s.heap.objs.size = some { cls := .type "tuple", data := .seq #[.int i tk, x'] } := (sb.2 _ (Nat.ne_of_gt hel)).trans hT
    have new : ObjOk X.prog X.w (upd H s.heap.objs.size (.tup [.int (i : Nat), x])) h'' s.heap.objs.size (.tup [.int (i : Nat), x]) :=
      ⟨by show 2 ≤ sizeLine; decide, [.int i tk, x'], .cons ⟨_, rfl⟩ (.cons ru .nil), ⟨_, hT2, rfl, _, rfl⟩⟩
    have I1 : Inv X pins σ (upd H s.heap.objs.size (.tup [.int (i : Nat), x])) { s with heap := h'', toks := tk + 1 } :=
      I.turnedNew (ch := [e, it]) (fun b ob hb q => (sb.2 b (fun z => hb (by simp [z]))).trans (hk b ob (fun z => hb (by simp [z])) (fun z => hb (by simp [z])) q)) hf (Nat.le_refl _) new
    refine ⟨.ref s.heap.objs.size, _, I1, rfl, ⟨_, x, rfl, I.hok.fresh (Nat.le_refl _), rfl, fun ys hy => by rw [I.tuple_inj hy hq]; exact hx⟩, ⟨⟨x', ?_⟩, hit'.1.at fun o q => (sb.2 it (Ne.symm hne)).trans q, hne⟩, fun b hb => ?_⟩
    · have e1 : ((i + 1 : Nat) : Int) = (i : Int) + 1 := by omega
      rw [e1]; exact he'
    · have hb' : b < s.heap.objs.size := by
        have e' : b = e ∨ b = it := by simpa using hb
        rcases e' with z | z
        · rw [z]; exact hel
        · rw [z]; exact hil
      rw [upd_ne (Nat.ne_of_lt hb')]
      exact (hf b hb).1
  done := by
    intro X hP hw hK hc i pins s σ H E I hf st hg
    subst hP hw hK
    obtain ⟨⟨old, he⟩, hit, hne⟩ := st
    obtain ⟨xs, hq, hx⟩ := hg
    obtain ⟨its, rv, p, hz⟩ := I.tuple hq
    obtain ⟨f0, f1, f2, f3, f4, f5⟩ := hf it (by simp)
    have hl := rv.length
    have pT : s.heap.IsTuple a its.toArray := let ⟨o, h1, h2, h3⟩ := p; ⟨o, h1, h2, h3⟩
    have hi : i = its.toArray.size := by simp; omega
    subst hi
    exact wpAny_pyNext_enum_endD (Draws.tuple (A := X.A.in1) (show X.A.in1.handled = none from I.ok.hd hc) it a hae its.toArray) he ⟨hit, pT⟩ fun h' eb => ⟨rfl, I.turned (t' := s.toks) (fun b o hb q => eb b o hb q) f0 f1 f3 f4 f5⟩
  self := fun A i s Q E st h => let ⟨⟨_, he⟩, _⟩ := st; wpAny_pyIter_enum he h
def iEnumT (K : PySem.W.Frag) (ta : TA) : TI := fun σ H R => ta σ H fun vs H1 => ∃ a xs, vs = [.ref a] ∧ SqT K H1 a xs ∧ R (IteT K a) H1
theorem pi_enumT {X : Cx} {e : Expr} {ta : TA} {p pos tpos : Pos} {elts : List Expr} {kk : Nat} (hg : Gl X "enumerate") (hm : X.mg "enumerate" = none) (ha : PA X [e] ta) (hs : starEach [e] X.env = [(false, eval e X.env)] := by rfl) :
    PI X (.Tuple elts kk tpos) (.Call (.Name "enumerate" p) [e] [] pos) (iEnumT X.K ta) := by
  refine ⟨fun pins s σ H R I h => ?_⟩
  refine Call_ (ld_blt I hg hm boot_enumerate (PyProof.Rows.callWith_type1 (thn (ha.run pos pins s σ H _ I h) fun us s1 ⟨vs, H1, I1, r1, q1⟩ => ?_) hs rfl))
  obtain ⟨a, xs, ex, hq, q⟩ := q1
  subst ex
  cases r1 with
  | cons r rr =>
    cases rr
    cases r
    obtain ⟨its, rv, p', hz⟩ := I1.tuple hq
    have pT : s1.heap.IsTuple a its.toArray := let ⟨o, h1, h2, h3⟩ := p'; ⟨o, h1, h2, h3⟩
    have hal : a < s1.heap.objs.size := let ⟨o, h1, _⟩ := p'; Heap.lt_size h1
    refine call_enumerate_tup pT fun h' he hit hsz hk => wpAny_pyIter_enum he ?_
    have I2 : Inv X pins σ H1 { s1 with heap := h' } := I1.kept (t' := s1.toks) hk
    refine ⟨s1.heap.objs.size + 1, [s1.heap.objs.size + 1, s1.heap.objs.size], _, _, H1, rfl, I2, turn_enumT a (s1.heap.objs.size + 1) s1.heap.objs.size (Nat.ne_of_lt hal) (Nat.ne_of_gt (Nat.lt_succ_of_lt hal)), ⟨⟨.none, he⟩, hit, Nat.succ_ne_self _⟩, fun b hb => ?_, q⟩
    have e' : b = s1.heap.objs.size + 1 ∨ b = s1.heap.objs.size := by simpa using hb
    have hle : s1.heap.objs.size ≤ b := by
      rcases e' with z | z
      · rw [z]; exact Nat.le_add_right _ _
      · rw [z]; exact Nat.le_refl _
    exact I1.fpOk hle (I1.hok.fresh hle)
theorem walk_enumT {K : PySem.W.Frag} {a : Addr} {xs : List V} : Walk (IteT K a) xs.length (fun H => SqT K H a xs) (YPair (fun i => some (.int (i : Nat))) (fun i => xs[i]?)) := by
  refine ⟨fun i _ hi q => ⟨xs, xs[i], q, by simp [hi]⟩, fun _ q => ⟨xs, q, rfl⟩, fun i H v H' _ q y => ?_⟩
  obtain ⟨T, x, h1, h2, h3, h4⟩ := y
  exact ⟨T, .int (i : Nat), x, h1, h2, h3, rfl, h4 xs q⟩
/-! ### what gives pairs -/
theorem wk_pair {K : PySem.W.Frag} {C : Fc} {τ : List SV} {H1 : Hp} {J : It} {G : Hp → Prop} {f g : Nat → Option V} {ds : List PyData} {da db : Nat → PyData} (W : Walk J ds.length G (YPair f g)) (hG : ∀ H2, Gw (own τ) H1 H2 → G H2)
    (hf : ∀ i x, i < ds.length → f i = some x → Dp K (hide (C.L0 ++ own τ) H1) x (da i)) (hg : ∀ i x, i < ds.length → g i = some x → Dp K (hide (C.L0 ++ own τ) H1) x (db i)) (hd : ∀ i, i < ds.length → ds[i]? = some (.tuple [da i, db i])) : Wk K C τ H1 J ds := by
  refine ⟨G, YPair f g, W, hG, ?_⟩
  rintro i d H2 v H3 L hdi gw ⟨T, x, y, rfl, hT, rfl, hx, hy⟩ hL dm
  have hi : i < ds.length := (List.getElem?_eq_some_iff.mp hdi).1
  refine ⟨Ex.new hT, ?_⟩
  have ex : Ex (hide (C.L0 ++ own τ) H1) (hide L H2) := ex_part hL gw fun a z => List.mem_append_right _ z
  have e : d = .tuple [da i, db i] := Option.some.inj (hdi.symm.trans (hd i hi))
  rw [e]
  exact dp_newT hT dm (.cons (Dp.ex ex (hf i x hi hx)) (.cons (Dp.ex ex (hg i y hi hy)) .nil))
section
variable {X : Cx} {a b c e : Expr} {elts : List Expr} {kk : Nat} {pos p tpos : Pos} {τ τ1 τ2 τ3 : List SV} {d d1 d2 d3 : PyData} {ds es : List PyData}
def enumD (ds : List PyData) : List PyData := (List.range ds.length).map fun (i : Nat) => .tuple [.int (i : Int), ds.getD i .none]
def zipD (ds es : List PyData) : List PyData := (ds.zip es).map fun p => .tuple [p.1, p.2]
theorem EVI.enumT (hm : X.mg "enumerate" = none) (h : EV X e τ (.tuple ds) τ1) (hg : Gl X "enumerate" := by rfl) (hs : starEach [e] X.env = [(false, eval e X.env)] := by rfl) : EVI X (.Tuple elts kk tpos) (.Call (.Name "enumerate" p) [e] [] pos) τ (enumD ds) τ1 :=
  ⟨h.ow, _, pi_enumT hg hm (pa_cons pe_self pa_nil hs) hs, fun C σ H R S q => h.run C σ H _ S fun v H1 g1 S1 p1 => by
    cases p1 with
    | @tup a xs _ s1 s2 =>
      refine ⟨a, xs, rfl, st_ex (hide_ex _ _) s1, q _ H1 g1 S1 ?_⟩
      have hl : (enumD ds).length = xs.length := by unfold enumD; rw [List.length_map, List.length_range, DpAll.len s2]
      refine wk_pair (f := fun i => some (.int (i : Nat))) (g := fun i => xs[i]?) (da := fun i => .int (i : Int)) (db := fun i => ds.getD i .none) (by rw [hl]; exact walk_enumT) (fun H2 g => st_ex (fun b o z => g b o (fun y => (hide_some z).1 (List.mem_append_right _ y)) (hide_some z).2) s1) ?_ ?_ ?_
      · intro i x _ hx
        have e : V.int (i : Int) = x := Option.some.inj hx
        rw [← e]; exact .int _
      · intro i x hi hx
        have hi' : i < ds.length := by rw [hl, DpAll.len s2] at hi; exact hi
        obtain ⟨v, h1, h2⟩ := DpAll.get s2 (List.getElem?_eq_getElem hi')
        rw [hx] at h1
        have e : x = v := Option.some.inj h1
        rw [e, List.getD_eq_getElem?_getD, List.getElem?_eq_getElem hi']; exact h2
      · intro i hi
        unfold enumD at hi ⊢
        rw [List.length_map, List.length_range] at hi
        simp [hi]⟩
theorem walk_zipT {K : PySem.W.Frag} {a b : Addr} {xs ys : List V} {n : Nat} (hn : n = min xs.length ys.length) : Walk (ItzT K a b) n (fun H => SqT K H a xs ∧ SqT K H b ys) (YPair (fun i => xs[i]?) (fun i => ys[i]?)) := by
  subst hn
  refine ⟨fun i _ hi q => ?_, fun _ q => ⟨xs, ys, q.1, q.2, by omega⟩, fun i H v H' _ q y => ?_⟩
  · have h1 : i < xs.length := by omega
    have h2 : i < ys.length := by omega
    exact ⟨xs, ys, xs[i], ys[i], q.1, q.2, by simp [h1], by simp [h2]⟩
  · obtain ⟨T, x, z, h1, h2, h3, h4, h5⟩ := y
    exact ⟨T, x, z, h1, h2, h3, h4 xs q.1, h5 ys q.2⟩
theorem wk_zip {K : PySem.W.Frag} {C : Fc} {H1 : Hp} {J : It} {G : Hp → Prop} {xs ys : List V} (W : Walk J (min xs.length ys.length) G (YPair (fun i => xs[i]?) (fun i => ys[i]?))) (hG : ∀ H2, Gw (own τ) H1 H2 → G H2)
    (s2 : DpAll K (hide (C.L0 ++ own τ) H1) xs ds) (u2 : DpAll K (hide (C.L0 ++ own τ) H1) ys es) : Wk K C τ H1 J (zipD ds es) := by
  have hl : (zipD ds es).length = min xs.length ys.length := by unfold zipD; rw [List.length_map, List.length_zip, DpAll.len s2, DpAll.len u2]
  refine wk_pair (f := fun i => xs[i]?) (g := fun i => ys[i]?) (da := fun i => ds.getD i .none) (db := fun i => es.getD i .none) (by rw [hl]; exact W) hG ?_ ?_ ?_
  · intro i x hi hx
    have hi' : i < ds.length := by rw [hl, DpAll.len s2, DpAll.len u2] at hi; omega
    obtain ⟨v, h1, h2⟩ := DpAll.get s2 (List.getElem?_eq_getElem hi')
    rw [hx] at h1
    have e : x = v := Option.some.inj h1
    rw [e, List.getD_eq_getElem?_getD, List.getElem?_eq_getElem hi']; exact h2
  · intro i x hi hx
    have hi' : i < es.length := by rw [hl, DpAll.len s2, DpAll.len u2] at hi; omega
    obtain ⟨v, h1, h2⟩ := DpAll.get u2 (List.getElem?_eq_getElem hi')
    rw [hx] at h1
    have e : x = v := Option.some.inj h1
    rw [e, List.getD_eq_getElem?_getD, List.getElem?_eq_getElem hi']; exact h2
  · intro i hi
    rw [hl, DpAll.len s2, DpAll.len u2] at hi
    have h1 : i < ds.length := by omega
    have h2 : i < es.length := by omega
    unfold zipD
    rw [List.getElem?_map, (List.getElem?_zip_eq_some (z := (ds[i], es[i]))).mpr ⟨List.getElem?_eq_getElem h1, List.getElem?_eq_getElem h2⟩]
    simp [h1, h2]
theorem EVI.zipT (hm : X.mg "zip" = none) (h : EV X a τ (.tuple ds) τ1) (h' : EV X b τ1 (.tuple es) τ2) (hg : Gl X "zip" := by rfl) (hs : starEach [a, b] X.env = (false, eval a X.env) :: starEach [b] X.env := by rfl) (hs2 : starEach [b] X.env = (false, eval b X.env) :: starEach [] X.env := by rfl)
    (hpl : (backTo pos (starEach [b] X.env)).any (·.1) = false := by rfl) : EVI X (.Tuple elts kk tpos) (.Call (.Name "zip" p) [a, b] [] pos) τ (zipD ds es) τ2 :=
  ⟨h'.ow.trans h.ow, _, pi_zipA hg hm (pa_cons pe_self (pa_cons pe_self pa_nil hs2) hs) hs hpl, fun C σ H R S q => h.run C σ H _ S fun v H1 g1 S1 p1 => h'.run C σ H1 _ S1 fun v2 H2 g2 S2 p2 => by
    have p1' := keep_dp (L0 := C.L0) h'.ow g2 p1
    cases p1' with
    | @tup a xs _ s1 s2 =>
      cases p2 with
      | @tup b ys _ u1 u2 =>
        have st : ∀ H3, Gw (own τ2) H2 H3 → Ex (hide (C.L0 ++ own τ2) H2) H3 := fun H3 g b o z => g b o (fun y => (hide_some z).1 (List.mem_append_right _ y)) (hide_some z).2
        exact ⟨a, b, xs, ys, rfl, .inr ⟨st_ex (hide_ex _ _) s1, st_ex (hide_ex _ _) u1, q _ H2 (g1.trans (h.ow ▸ g2)) S2 (wk_zip (walk_zipT rfl) (fun H3 g => ⟨st_ex (st H3 g) s1, st_ex (st H3 g) u1⟩) s2 u2)⟩⟩⟩
theorem EVI.zipL (hm : X.mg "zip" = none) (h : EV X a τ (.list ds) τ1) (h' : EV X b τ1 (.list es) τ2) (hg : Gl X "zip" := by rfl) (hs : starEach [a, b] X.env = (false, eval a X.env) :: starEach [b] X.env := by rfl) (hs2 : starEach [b] X.env = (false, eval b X.env) :: starEach [] X.env := by rfl)
    (hpl : (backTo pos (starEach [b] X.env)).any (·.1) = false := by rfl) : EVI X (.Tuple elts kk tpos) (.Call (.Name "zip" p) [a, b] [] pos) τ (zipD ds es) τ2 :=
  ⟨h'.ow.trans h.ow, _, pi_zipA hg hm (pa_cons pe_self (pa_cons pe_self pa_nil hs2) hs) hs hpl, fun C σ H R S q => h.run C σ H _ S fun v H1 g1 S1 p1 => h'.run C σ H1 _ S1 fun v2 H2 g2 S2 p2 => by
    have p1' := keep_dp (L0 := C.L0) h'.ow g2 p1
    cases p1' with
    | @lst a xs _ s1 s2 =>
      cases p2 with
      | @lst b ys _ u1 u2 =>
        have st : ∀ H3, Gw (own τ2) H2 H3 → Ex (hide (C.L0 ++ own τ2) H2) H3 := fun H3 g b o z => g b o (fun y => (hide_some z).1 (List.mem_append_right _ y)) (hide_some z).2
        exact ⟨a, b, xs, ys, rfl, .inl ⟨sq_ex (hide_ex _ _) s1, sq_ex (hide_ex _ _) u1, q _ H2 (g1.trans (h.ow ▸ g2)) S2 (wk_zip (walk_zip rfl) (fun H3 g => ⟨sq_ex (st H3 g) s1, sq_ex (st H3 g) u1⟩) s2 u2)⟩⟩⟩
end
end DL

set_option maxRecDepth 100000
set_option maxHeartbeats 2000000
/-! DLl: sorted of lists and tuples of tuples of ints, of any number. -/
namespace DL
open PySem PySem.Spec PyProof.Rows L2
namespace Srt
open SrtO
section
variable {prog : Program} {w : World} {A : Around} {E : Value → Shared → Prop} {s : Shared}
theorem collect_tuple {l : Addr} {vs : List Value} {Q : List Value → Shared → Prop} (hl : s.heap.IsTuple l vs.toArray)
    (h : Q vs { s with heap := (s.heap.push (seqObj "list" #[] 0)).update s.heap.objs.size (Obj.mapSeq (· ++ vs.toArray)) }) (hsz : vs.length ≤ sizeLine := by size_fits) :
    wpAny (model prog w) A (collect (.ref l)) Q E s := by
  obtain ⟨o, ho, hc, n, hd⟩ := id hl
  unfold collect
  refine wpAny_bind (wpAny_runValue (codeAny_builtin entry_proto_collect' ?_))
  show wpAny _ _ (do again (.builtin "list.__iadd__" ⟨[← newList [], .ref l], []⟩)) _ _ s
  refine wpAny_bind (wpAny_newList (wpAny_pure ⟨Code.quiet_builtin _ (by decide +kernel), codeAny_builtin entry_list_iadd' ?_⟩))
  show wpAny _ _ (Builtin.List.listExtendWith (.ref s.heap.objs.size) (.ref l) (.ref s.heap.objs.size)) _ _ { s with heap := s.heap.push (seqObj "list" #[] 0) }
  unfold Builtin.List.listExtendWith
  have ho' : (s.heap.push (seqObj "list" #[] 0)).get? l = some o := Heap.get?_push_of_some _ ho
  refine wpAny_bind (wpAny_typeOf (T := "tuple") ⟨o, ho', hc⟩ ?_)
  have ht : (Value.type "tuple" == Value.type "tuple") = true := by rfl
  rw [if_pos (by rw [ht]; simp)]
  refine wpAny_bind (listItems_at ho' hd ?_)
  refine wpAny_bind (listItems_at (xs := #[]) (n := 0) (Heap.get?_push_size _ rfl) rfl ?_)
  rw [if_neg (by simp)]
  refine wpAny_bind (listUpdate_at (xs := #[]) (n := 0) (Heap.get?_push_size _ rfl) rfl ?_ (Nat.zero_le _) (by show (#[] ++ vs.toArray).size ≤ sizeLine + 1; simp only [Array.size_append, List.size_toArray, List.length_nil]; omega))
  refine wpAny_pure ?_
  show wpAny (model prog w) A (do
      let o ← load s.heap.objs.size
      match o.data with
      | .seq xs _ => pure xs.toList
      | _ => unsupported "internal:collect") Q E { s with heap := (s.heap.push (seqObj "list" #[] 0)).update s.heap.objs.size (Obj.mapSeq (· ++ vs.toArray)) }
  refine wpAny_bind (wpAny_load (get?_update_seq (Heap.get?_push_size _ rfl) _) ?_)
  show wpAny _ _ (pure ((#[] : Array Value) ++ vs.toArray).toList) Q E _
  rw [show ((#[] : Array Value) ++ vs.toArray).toList = vs by simp]
  exact wpAny_pure h
/-- sorted of what is collected -/
theorem sorted_ordC {l : Addr} {vs : List Value} {ltv : Value → Value → Bool} {Q : Value → Shared → Prop} (O : Swo ltv) (hl : s.heap.IsList l vs.toArray ∨ s.heap.IsTuple l vs.toArray) (hz : vs.length ≤ sizeLine)
    (hS : 2 ≤ vs.length → ∀ (h₁ : Heap) (a : Addr), h₁.get? a = some (seqObj "list" vs.toArray 0) → (∀ b o, s.heap.get? b = some o → b ≠ a ∧ h₁.get? b = some o) → SortableO prog w A.in1.in1 { s with heap := h₁ } a vs ltv)
    (h : ∀ out : List Value, Srtd ltv out → Stb ltv out vs → Q (.ref (s.heap.objs.size + 1)) { s with heap := sortedAll s.heap vs out.toArray }) :
    wpAny (model prog w) A (call (.builtin "sorted") [.ref l]) Q E s := by
  rcases hl with hl | hl
  · exact sorted_ord O hl hz hS h
  · refine Calls.call_function_entry kind_sorted plain_sorted entry_sorted (args_sorted1 _) ?_
    unfold Builtin.«sorted»
    refine wpAny_bind (m := checkCount "sorted" 1 1 _) (wpAny_pure ?_)
    refine wpAny_bind (collect_tuple hl ?_ hz)
    refine wpAny_bind (wpAny_newList ?_ hz)
    have hsz : ((s.heap.push (seqObj "list" #[] 0)).update s.heap.objs.size (Obj.mapSeq (· ++ vs.toArray))).objs.size = s.heap.objs.size + 1 := by
      rw [Heap.size_update, size_push']
    have hoL : (((s.heap.push (seqObj "list" #[] 0)).update s.heap.objs.size (Obj.mapSeq (· ++ vs.toArray))).push (seqObj "list" vs.toArray 0)).get? (s.heap.objs.size + 1) = some (seqObj "list" vs.toArray 0) := by
      rw [← hsz]; exact Heap.get?_push_size _ rfl
    have keep : ∀ b o, s.heap.get? b = some o → b ≠ s.heap.objs.size + 1 ∧ (((s.heap.push (seqObj "list" #[] 0)).update s.heap.objs.size (Obj.mapSeq (· ++ vs.toArray))).push (seqObj "list" vs.toArray 0)).get? b = some o := fun b o q => by
      have hlt : b < s.heap.objs.size := Heap.lt_size q
      refine ⟨Nat.ne_of_lt (Nat.lt_succ_of_lt hlt), Heap.get?_push_of_some _ ?_⟩
      rw [Heap.get?_update_ne _ _ _ _ (Nat.ne_of_lt hlt)]
      exact Heap.get?_push_of_some _ q
    show wpAny _ _ _ _ _ { s with heap := ((s.heap.push (seqObj "list" #[] 0)).update s.heap.objs.size (Obj.mapSeq (· ++ vs.toArray))).push (seqObj "list" vs.toArray 0) }
    rw [hsz]
    refine wpAny_bind (wpAny_holding (wpAny_call_entry slot_list_sort ⟨_, hoL, rfl⟩ entry_list_sort (list_sort_ord O hoL hz (fun h2 => hS h2 _ _ hoL keep) fun out hs hb => ⟨_, rfl, ?_⟩) (args_list_sort _)))
    exact wpAny_pure ⟨_, rfl, h out hs hb⟩
/-! ### tuples of ints, by lexLt -/
theorem lexLt_swo : Swo (α := List Int) HT.lexLt := by
  have asym : ∀ x y : List Int, HT.lexLt x y = true → HT.lexLt y x = false := by
    intro x
    induction x with
    | nil => intro y h; cases y with
      | nil => rfl
      | cons b ys => rfl
    | cons a xs ih => intro y h; cases y with
      | nil => cases h
      | cons b ys =>
        rw [HT.lexLt_cons] at h ⊢
        by_cases e : a = b
        · subst e
          rw [if_pos rfl] at h ⊢
          exact ih ys h
        · rw [if_neg e, decide_eq_true_eq] at h
          rw [if_neg (fun z => e z.symm), decide_eq_false_iff_not]
          omega
  refine ⟨asym, ?_⟩
  intro x
  induction x with
  | nil => intro y z h1 h2; cases z <;> rfl
  | cons a xs ih =>
    intro y z h1 h2
    cases y with
    | nil => exact absurd h1 (by rw [HT.lexLt_nil_cons]; exact Bool.noConfusion)
    | cons b ys =>
      cases z with
      | nil => exact absurd h2 (by rw [HT.lexLt_nil_cons]; exact Bool.noConfusion)
      | cons c zs =>
        rw [HT.lexLt_cons] at h1 h2 ⊢
        by_cases e1 : b = a
        · rw [if_pos e1] at h1
          by_cases e2 : c = b
          · rw [if_pos e2] at h2
            rw [if_pos (e2.trans e1)]
            exact ih ys zs h1 h2
          · rw [if_neg e2, decide_eq_false_iff_not] at h2
            rw [if_neg (by omega), decide_eq_false_iff_not]; omega
        · rw [if_neg e1, decide_eq_false_iff_not] at h1
          by_cases e2 : c = b
          · rw [if_neg (by omega), decide_eq_false_iff_not]; omega
          · rw [if_neg e2, decide_eq_false_iff_not] at h2
            rw [if_neg (by omega), decide_eq_false_iff_not]; omega
theorem swo_key (k : Value → List Int) : Swo fun v u => HT.lexLt (k v) (k u) := ⟨fun x y => lexLt_swo.asym (k x) (k y), fun x y z => lexLt_swo.tr (k x) (k y) (k z)⟩
/-- v is a tuple of these ints -/
def IsInts (h : Heap) (v : Value) (ns : List Int) : Prop := ∃ a o its n, v = .ref a ∧ h.get? a = some o ∧ o.cls = .type "tuple" ∧ o.data = .seq its n ∧ IntsAre its.toList ns
theorem IsInts.keeps {h h' : Heap} {v : Value} {ns : List Int} (x : IsInts h v ns) (k : ∀ b o, h.get? b = some o → o.cls = .type "tuple" → h'.get? b = some o) : IsInts h' v ns :=
  let ⟨a, o, its, n, e, ho, hc, hd, hi⟩ := x; ⟨a, o, its, n, e, k a o ho hc, hc, hd, hi⟩
theorem lex_kat {Q : Bool → Shared → Prop} : ∀ (us ws : List Value) (ns ms : List Int) (i : Nat), IntsAre us ns → IntsAre ws ms → (b : Bool) → Q (if ns.take ms.length = ms.take ns.length then b else HT.lexLt ns ms) s → PySem.W.KatLex prog w A true b Q (us.zip ws) i s
  | [], ws, ns, ms, i, h1, h2, b, q => by
    cases h1
    rw [List.zip_nil_left]
    refine PySem.W.kat_nil ?_
    simpa using q
  | u :: us, [], ns, ms, i, h1, h2, b, q => by
    cases h2
    rw [List.zip_nil_right]
    refine PySem.W.kat_nil ?_
    simpa using q
  | u :: us, w' :: ws, ns, ms, i, h1, h2, b, q => by
    cases h1 with
    | cons x t h1 =>
      cases h2 with
      | cons y t' h2 =>
        rename_i ns ms
        rw [List.zip_cons_cons]
        refine PySem.W.kat_cons (SeqAt.EqAt.int_int x t y t' prog w _ _ ?_)
        refine PySem.W.kat_go (fun e1 => ?_) (fun e1 => ?_)
        · have ex : x = y := by simpa using e1
          refine PySem.W.kat_yes (lex_kat us ws ns ms (i + 1) h1 h2 b ?_)
          subst ex
          have e2 : ((x :: ns).take (x :: ms).length = (x :: ms).take (x :: ns).length) ↔ (ns.take ms.length = ms.take ns.length) := by simp
          by_cases c : ns.take ms.length = ms.take ns.length
          · rw [if_pos (e2.mpr c)] at q
            rw [if_pos c]; exact q
          · rw [if_neg (fun z => c (e2.mp z)), HT.lexLt_cons, if_pos rfl] at q
            rw [if_neg c]; exact q
        · have ex : ¬ x = y := by simpa using e1
          refine PySem.W.kat_no (TS.oneLt_ints _ ?_)
          rw [if_neg (fun z => ex (by simpa using congrArg List.head? z)), HT.lexLt_cons, if_neg ex] at q
          exact q
theorem lexLt_pre : ∀ (ns ms : List Int), ns.take ms.length = ms.take ns.length → HT.lexLt ns ms = decide (ns.length < ms.length)
  | [], [], _ => rfl
  | [], _ :: _, _ => by rw [HT.lexLt_nil_cons]; simp
  | _ :: _, [], _ => rfl
  | x :: ns, y :: ms, h => by
    have h' : x = y ∧ ns.take ms.length = ms.take ns.length := by simpa using h
    rw [HT.lexLt_cons, if_pos h'.1, lexLt_pre ns ms h'.2]
    simp
theorem ints_cmp {vs : List Value} {k : Value → List Int} (hp : ∀ v ∈ vs, IsInts s.heap v (k v)) : Cmp prog w A s (tuples' true) (fun p => p.1 ∈ vs) (lt2 fun v u => HT.lexLt (k v) (k u)) := by
  intro p q hm hm'
  obtain ⟨a, o, its, n, e, ho, hc, hd, hi⟩ := hp _ hm
  obtain ⟨a', o', its', n', e', ho', hc', hd', hi'⟩ := hp _ hm'
  show wpAny (model prog w) A (keyLt' (tuples' true) p.1 q.1) (fun r s' => s' = s ∧ r = HT.lexLt (k p.1) (k q.1)) (fun _ _ => False) s
  have hl : its.size = (k p.1).length := by rw [← Array.length_toList]; exact hi.length
  have hl' : its'.size = (k q.1).length := by rw [← Array.length_toList]; exact hi'.length
  generalize k p.1 = ns at hi hl ⊢
  generalize k q.1 = ms at hi' hl' ⊢
  rw [e, e']
  refine PySem.W.kat_lt ho hd ho' hd' (lex_kat _ _ ns ms 0 hi hi' _ ⟨rfl, ?_⟩)
  by_cases c : ns.take ms.length = ms.take ns.length
  · rw [if_pos c, lexLt_pre ns ms c, hl, hl']
  · rw [if_neg c]
theorem firsts_ints {h : Heap} {k : Value → List Int} : ∀ {vs : List Value}, (∀ v ∈ vs, IsInts h v (k v) ∧ k v ≠ []) → ∃ fs : List Value, PySem.W.KatTups h vs fs ∧ fs.length = vs.length ∧ ∀ f ∈ fs, ∃ x t, f = Value.int x t
  | [], _ => ⟨[], PySem.W.KatTups.nil, rfl, fun _ hm => by simp at hm⟩
  | v :: vs, hp => by
    obtain ⟨fs, h1, h2, h3⟩ := firsts_ints (k := k) (vs := vs) fun v' hm => hp v' (List.mem_cons_of_mem _ hm)
    obtain ⟨⟨a, o, its, n, e, ho, hc, hd, hi⟩, hne⟩ := hp v (List.mem_cons_self ..)
    obtain ⟨l, el⟩ : ∃ l, its = List.toArray l := ⟨its.toList, by simp⟩
    subst el
    rw [List.toList_toArray] at hi
    cases hk : k v with
    | nil => exact absurd hk hne
    | cons x ns =>
      rw [hk] at hi
      cases hi with
      | cons _ t hi =>
        subst e
        refine ⟨.int x t :: fs, PySem.W.KatTups.cons ho hc hd rfl h1, by rw [List.length_cons, List.length_cons, h2], fun f hm => ?_⟩
        rcases List.mem_cons.mp hm with rfl | hm
        · exact ⟨x, t, rfl⟩
        · exact h3 f hm
theorem ints_sortableO {a : Addr} {vs : List Value} {k : Value → List Int} (h0 : 0 < vs.length) (hp : ∀ v ∈ vs, IsInts s.heap v (k v) ∧ k v ≠ []) (ha : ∀ o, s.heap.get? a = some o → o.cls ≠ .type "tuple") : SortableO prog w A s a vs fun v u => HT.lexLt (k v) (k u) := by
  intro h' keep
  have hp' : ∀ v ∈ vs, IsInts h' v (k v) ∧ k v ≠ [] := fun v hm => ⟨(hp v hm).1.keeps fun b o e c => keep b o (fun z => by subst z; exact ha o e c) e, (hp v hm).2⟩
  obtain ⟨fs, h1, h2, h3⟩ := firsts_ints hp'
  refine ⟨tuples' true, fun Q E hq => ?_, ints_cmp fun v hm => (hp' v hm).1⟩
  refine PySem.W.kat_kind (T := .type "int") h1 (by omega) (fun f hm => ?_) (by rfl) ?_
  · obtain ⟨x, t, rfl⟩ := h3 f hm
    exact PySem.W.Looks.now
  · have e : (Value.type "int" != Value.type "tuple") = true := by first | decide +kernel | rfl | decide
    rw [e]
    exact hq
theorem sorted_ints {l : Addr} {vs : List Value} {k : Value → List Int} {Q : Value → Shared → Prop} (hl : s.heap.IsList l vs.toArray ∨ s.heap.IsTuple l vs.toArray) (hz : vs.length ≤ sizeLine) (hp : ∀ v ∈ vs, IsInts s.heap v (k v) ∧ k v ≠ [])
    (h : ∀ (h' : Heap) (d : Addr) (out : List Value), Srtd (fun v u => HT.lexLt (k v) (k u)) out → Stb (fun v u => HT.lexLt (k v) (k u)) out vs → (∀ b o, s.heap.get? b = some o → h'.get? b = some o) → s.heap.objs.size ≤ d → (∃ n, h'.get? d = some (seqObj "list" out.toArray n)) → Q (.ref d) { s with heap := h' }) :
    wpAny (model prog w) A (call (.builtin "sorted") [.ref l]) Q E s := by
  refine sorted_ordC (swo_key k) hl hz (fun h2 h₁ a ha kk => ?_) fun out hs hb => ?_
  · refine ints_sortableO (s := { s with heap := h₁ }) (by omega) (fun v hm => ⟨(hp v hm).1.keeps fun b o e _ => (kk b o e).2, (hp v hm).2⟩) fun o e => ?_
    have e' : some o = some (seqObj "list" vs.toArray 0) := e.symm.trans ha
    cases e'
    intro c
    exact absurd (Value.type.inj c) (by decide)
  · exact h _ _ out hs hb (fun b o e => sortedAll_old e) (Nat.le_succ _) (sortedAll_at s.heap vs out.toArray)
end
end Srt
/-! ### over data -/
/-- the rising arrangement: sorted, and the same items -/
def Rise (xs ys : List (List Int)) : Prop := ys.Perm xs ∧ ys.Pairwise fun a b => HT.lexLt b a = false
theorem intsAre_dp {K : PySem.W.Frag} {H : Hp} {ns : List Int} {us : List V} {ws : List Value} (h : DpAll K H us (ns.map PyData.int)) (r : Vals us ws) : IntsAre ws ns := by
  rw [dp_ints h] at r
  exact intsAre_of r
/-- the ints of a tracked tuple -/
noncomputable def keyOf (K : PySem.W.Frag) (H : Hp) (v : V) : List Int := by
  classical
  exact if h : ∃ ns : List Int, Dp K H v (eT ns) then h.choose else []
theorem keyOf_eq {X : Cx} {pins : List (Addr × Obj)} {σ : L2.St} {H : Hp} {s : Shared} (I : Inv X pins σ H s) {v : V} {ns : List Int} (h : Dp X.K H v (eT ns)) : keyOf X.K H v = ns := by
  unfold keyOf
  have hx : ∃ ns : List Int, Dp X.K H v (eT ns) := ⟨ns, h⟩
  rw [dif_pos hx]
  have h2 := hx.choose_spec
  generalize hx.choose = ms at h2 ⊢
  cases h with
  | @tup a xs _ s1 d1 =>
    cases h2 with
    | @tup _ ys _ s2 d2 =>
      have e := I.tuple_inj s1 s2
      subst e
      have e1 := dp_ints d1
      have e2 := dp_ints d2
      rw [e1] at e2
      exact (List.map_inj_right (fun a b h => V.int.inj h)).mp e2.symm
def rSortT (K : PySem.W.Frag) : List V → Hp → VK → Prop := fun vs H Q => ∃ (L : List Addr) (a : Addr) (xs : List V) (nss : List (List Int)), vs = [V.ref a] ∧ (SqL K H a xs ∨ SqT K H a xs) ∧ DpAll K (hide L H) xs (nss.map eT) ∧ (∀ ns ∈ nss, ns ≠ []) ∧
  ∀ ys p mss, Rise nss mss → DpAll K (hide L H) ys (mss.map eT) → H p = none → Q (.ref p) (upd H p (.lst ys))
theorem dp_of_keys {K : PySem.W.Frag} {H : Hp} (k : V → List Int) : ∀ (ys : List V), (∀ y ∈ ys, Dp K H y (eT (k y))) → DpAll K H ys ((ys.map k).map eT)
  | [], _ => .nil
  | y :: ys, h => .cons (h y (by simp)) (dp_of_keys k ys fun z hz => h z (List.mem_cons_of_mem _ hz))
theorem keys_of_dp {K : PySem.W.Frag} {H : Hp} {k : V → List Int} : ∀ {xs : List V} {nss : List (List Int)}, DpAll K H xs (nss.map eT) → (∀ x ns, x ∈ xs → Dp K H x (eT ns) → k x = ns) → xs.map k = nss
  | [], [], _, _ => rfl
  | [], _ :: _, h, _ => by cases h
  | _ :: _, [], h, _ => by cases h
  | x :: xs, ns :: nss, h, hk => by
    cases h with
    | cons h1 h2 => rw [List.map_cons, hk x ns (by simp) h1, keys_of_dp h2 fun z ms hz => hk z ms (List.mem_cons_of_mem _ hz)]
theorem dpAll_mem {K : PySem.W.Frag} {H : Hp} : ∀ {xs : List V} {nss : List (List Int)} {x : V}, DpAll K H xs (nss.map eT) → x ∈ xs → ∃ ns, ns ∈ nss ∧ Dp K H x (eT ns)
  | [], _, _, _, hx => by cases hx
  | _ :: _, [], _, h, _ => by cases h
  | y :: xs, ns :: nss, x, h, hx => by
    cases h with
    | cons h1 h2 =>
      rcases List.mem_cons.mp hx with e | e
      · exact ⟨ns, by simp, e ▸ h1⟩
      · obtain ⟨ms, q1, q2⟩ := dpAll_mem h2 e
        exact ⟨ms, List.mem_cons_of_mem _ q1, q2⟩
theorem cr_sortT {X : Cx} : CallR X (.builtin "sorted") (rSortT X.K) := by
  intro pins s σ H vs us Q I r h
  obtain ⟨L, a, xs, nss, rfl, hs, hx', hne, q⟩ := h
  have hx := DpAll.ex (hide_ex L H) hx'
  obtain ⟨u, rfl, ru⟩ := vals1 r
  obtain rfl : u = Value.ref a := ru
  have hs' : ∃ its, Vals xs its ∧ (s.heap.IsList a its.toArray ∨ s.heap.IsTuple a its.toArray) ∧ xs.length ≤ sizeLine := by
    rcases hs with hs | hs
    · obtain ⟨its, rv, hl, hz⟩ := I.list hs
      exact ⟨its, rv, .inl hl.isList, hz⟩
    · obtain ⟨its, rv, ⟨o, h1, h2, h3⟩, hz⟩ := I.tuple hs
      exact ⟨its, rv, .inr ⟨o, h1, h2, h3⟩, hz⟩
  obtain ⟨its, rv, hl, hz⟩ := hs'
  have hk : ∀ x ns, x ∈ xs → Dp X.K H x (eT ns) → keyOf X.K H x = ns := fun x ns _ h => keyOf_eq I h
  have ekeys : xs.map (keyOf X.K H) = nss := keys_of_dp hx hk
  have hdp : ∀ x ∈ xs, Dp X.K H x (eT (keyOf X.K H x)) := fun x m => by
    obtain ⟨ns, _, h2⟩ := dpAll_mem hx m
    rw [hk x ns m h2]; exact h2
  have hdp' : ∀ x ∈ xs, Dp X.K (hide L H) x (eT (keyOf X.K H x)) := fun x m => by
    obtain ⟨ns, _, h2⟩ := dpAll_mem hx' m
    rw [hk x ns m (Dp.ex (hide_ex L H) h2)]; exact h2
  obtain ⟨e1, e2⟩ := refs_back rv fun x m => by
    have := hdp x m
    cases this with
    | tup s1 d1 => exact ⟨_, rfl⟩
  refine Srt.sorted_ints (k := fun u => keyOf X.K H (backV u)) hl (by rw [← rv.length]; exact hz) (fun v hv => ?_) fun h' d out h1 h2 kp hd hn => ?_
  · obtain ⟨t, rfl⟩ := e2 v hv
    have hm : V.ref t ∈ xs := by rw [e1]; exact List.mem_map.mpr ⟨_, hv, rfl⟩
    have hd := hdp _ hm
    show Srt.IsInts s.heap (Value.ref t) (keyOf X.K H (V.ref t)) ∧ keyOf X.K H (V.ref t) ≠ []
    obtain ⟨ns, hn1, hn2⟩ := dpAll_mem hx hm
    rw [hk _ ns hm hn2] at hd ⊢
    refine ⟨?_, hne ns hn1⟩
    cases hd with
    | tup s1 d1 =>
      obtain ⟨its2, r2, ⟨o, ho, hc, n, hd2⟩, _⟩ := I.tuple s1
      exact ⟨t, o, its2.toArray, n, rfl, ho, hc, hd2, by rw [List.toList_toArray]; exact intsAre_dp d1 r2⟩
  · have h3 : ∀ u ∈ out, ∃ a, u = Value.ref a := fun u hu => e2 u (h2.perm.mem_iff.mp hu)
    obtain ⟨n, hn⟩ := hn
    have hperm : (out.map backV).Perm xs := by rw [e1]; exact h2.perm.map backV
    have hmem : ∀ y, y ∈ out.map backV → y ∈ xs := fun y hy => hperm.mem_iff.mp hy
    refine ⟨.ref d, upd H d (.lst (out.map backV)), I.laid (t' := s.toks) kp hd ⟨?_, out, n, vals_back h3, hn⟩, rfl, q _ d ((out.map backV).map (keyOf X.K H)) ⟨?_, ?_⟩ (dp_of_keys _ _ fun y hy => hdp' y (hmem y hy)) (I.hok.fresh hd)⟩
    · rw [hperm.length_eq]; exact hz
    · rw [← ekeys]; exact hperm.map _
    · rw [List.map_map, List.pairwise_map]
      exact h1
section
variable {X : Cx} {a b c e : Expr} {pos p : Pos} {τ τ1 τ2 : List SV} {d : PyData} {nss mss : List (List Int)}
/-- two rising arrangements of the same are one -/
theorem lexLt_total : ∀ a b : List Int, HT.lexLt a b = false → HT.lexLt b a = false → a = b
  | [], [], _, _ => rfl
  | [], _ :: _, h, _ => by rw [HT.lexLt_nil_cons] at h; cases h
  | _ :: _, [], _, h => by rw [HT.lexLt_nil_cons] at h; cases h
  | x :: xs, y :: ys, h1, h2 => by
    rw [HT.lexLt_cons] at h1 h2
    by_cases e : x = y
    · subst e
      rw [if_pos rfl] at h1 h2
      rw [lexLt_total xs ys h1 h2]
    · rw [if_neg e, decide_eq_false_iff_not] at h1
      rw [if_neg (fun z => e z.symm), decide_eq_false_iff_not] at h2
      omega
theorem Rise.uniq {xs ys zs : List (List Int)} (h1 : Rise xs ys) (h2 : Rise xs zs) : ys = zs := by
  have hp : ys.Perm zs := h1.1.trans h2.1.symm
  exact hp.eq_of_pairwise (le := fun a b => HT.lexLt b a = false) (fun a b _ _ h h' => lexLt_total a b h' h) h1.2 h2.2
/-- sorted(xs), xs a list or a tuple of tuples of ints that are not empty -/
theorem EF.sortT (hm : X.mg "sorted" = none) (h : EV X a τ d τ1) (hd : d = .list (nss.map eT) ∨ d = .tuple (nss.map eT)) (hne : ∀ ns ∈ nss, ns ≠ []) (hr : Rise nss mss) (hg : Gl X "sorted" := by rfl) (he : starEach [a] X.env = (false, eval a X.env) :: starEach [] X.env := by rfl) : EF X (.Call (.Name "sorted" p) [a] [] pos) τ (mss.map eT) τ1 :=
  ⟨h.ow, fun C σ H Q S q => WE.of (pe_callB cr_sortT hg hm (by decide +kernel) (pa_cons pe_self pa_nil he) (by decide) (by decide) he rfl) (h.run C σ H _ S fun v H1 g1 S1 p1 => by
    have fin : ∀ (a : Addr) (xs : List V), (SqL X.K H1 a xs ∨ SqT X.K H1 a xs) → DpAll X.K (hide (C.L0 ++ own τ1) H1) xs (nss.map eT) → rSortT X.K [.ref a] H1 Q := fun a xs s1 s2 => by
      refine ⟨C.L0 ++ own τ1, a, xs, nss, rfl, s1, s2, hne, fun ys l mss' hr' hy hl => ?_⟩
      have e := hr'.uniq hr
      subst e
      exact q l _ ys (g1.trans (Gw.of (Ex.new hl))) (back_none S1 h.ow g1 hl) upd_same (fresh_hide hl hy) (S1.addHid hl)
    rcases hd with rfl | rfl
    · cases p1 with
      | @lst a xs _ s1 s2 => exact fin a xs (.inl (sq_ex (hide_ex _ _) s1)) s2
    · cases p1 with
      | @tup a xs _ s1 s2 => exact fin a xs (.inr (st_ex (hide_ex _ _) s1)) s2)⟩
end
end DL

set_option maxRecDepth 100000
set_option maxHeartbeats 2000000
/-! DLm: defs that hand back a fresh list, defs that change the list in their second place, the law itself. -/
namespace DL
open PySem L2
open PyProof.Rows (envOfC)
/-- the promise of a def that hands back a fresh list -/
def spF (K : PySem.W.Frag) (R : List PyData → List PyData → Prop) : Sp := fun vs H Q E => ∃ (L : List Addr) (ds es : List PyData), Dom L H ∧ DpAll K (hide L H) vs ds ∧ R ds es ∧
  ∀ p H' xs, Ex H H' → H p = none → H' p = some (.lst xs) → DpAll K (hide (p :: L) H') xs es → Q (.ref p) H'
/-- the promise of a def that changes the list of ints in its second place -/
def spT (K : PySem.W.Frag) (R : List Int → List Int → List PyData → PyData → List Int → Prop) : Sp := fun vs H Q E => ∃ (L : List Addr) (t : Addr) (sv : V) (rvs : List V) (script T : List Int) (ds : List PyData) (d : PyData) (T' : List Int),
  vs = sv :: .ref t :: rvs ∧ Dom L H ∧ t ∈ L ∧ Dp K (hide L H) sv (lst PyData.int script) ∧ H t = some (.lst (T.map V.int)) ∧ DpAll K (hide L H) rvs ds ∧ R script T ds d T' ∧
  ∀ v H', (∀ a o, a ≠ t → H a = some o → H' a = some o) → H' t = some (.lst (T'.map V.int)) → Dp K (hide L H') v d → Q v H'
section
variable {X : Cx} {a b c e : Expr} {es : List Expr} {pos p p1 p2 : Pos} {τ τ1 τ2 τ3 : List SV} {d d1 d2 d3 : PyData} {ds es' : List PyData} {x y z : Str} {k : Nat} {ps : List Str} {i j : Nat} {t : Addr} {script T T' : List Int}
theorem EF.call {R : List PyData → List PyData → Prop} (F : Cal X.prog X.w X.K X.mg X.base k x ps (spF X.K R)) (hr : Room k X.A) (h : EA X (e :: es) τ ds τ1) (hR : R ds es') (hg : Gl X x := by rfl)
    (hdb : (x == ("__debug__" : Str)) = false := by decide) (he : starEach (e :: es) X.env = (false, eval e X.env) :: starEach es X.env := by rfl) (hpl : (backTo pos (starEach es X.env)).any (·.1) = false := by rfl) :
    EF X (.Call (.Name x p) (e :: es) [] pos) τ es' τ1 := by
  obtain ⟨f, fd, hm, hk, hb, G⟩ := F.ex
  exact ⟨h.ow, fun C σ H Q S q => WE.of (pe_call G hr hg hm hk hb .nil passL pa_self hdb he hpl) (h.run C σ H _ S fun vs H1 g1 S1 p1 =>
    ⟨C.L0 ++ own τ1, ds, es', S1.dom, by rw [List.append_nil]; exact p1, hR, fun l H2 xs ex hl e1 e2 => q l H2 xs (g1.trans (Gw.of ex)) (back_none S1 h.ow g1 hl) e1 e2 (by
      have S2 := S1.addHid (o := .lst xs) hl
      -- the new object stands as S2 says
      have ex2 : Ex (upd H1 l (.lst xs)) H2 := fun a o z => by
        by_cases c : a = l
        · rw [c, upd_same] at z; rw [c, e1]; exact z
        · rw [upd_ne c] at z; exact ex a o z
      exact S2.ex ex2)⟩)⟩
theorem own_reset {l : Addr} {ds0 ds1 : List PyData} (h : τ[j]? = some (.ow l ds0)) : own (τ.set j (.ow l ds1)) = own τ := by
  induction τ generalizing j with
  | nil => rfl
  | cons t r ih =>
    cases j with
    | zero =>
      have e : t = .ow l ds0 := by simpa using h
      subst e
      rfl
    | succ n =>
      have h' : r[n]? = some (.ow l ds0) := by simpa using h
      have q : (r.set n (.ow l ds1)).flatMap ownA = r.flatMap ownA := ih h'
      show (t :: r.set n (.ow l ds1)).flatMap ownA = (t :: r).flatMap ownA
      rw [List.flatMap_cons, List.flatMap_cons, q]
/-- f(script, town, ..): script in slot i, town in slot j -/
theorem EV.callT {R : List Int → List Int → List PyData → PyData → List Int → Prop} (i j : Nat) (F : Cal X.prog X.w X.K X.mg X.base k x ps (spT X.K R)) (hr : Room k X.A) (h : EA X es τ ds τ1) (hR : R script T ds d T')
    (hi : τ[i]? = some (.pu (DL.lst PyData.int script)) := by rfl) (hj0 : ∃ ds0, τ[j]? = some (.ow t ds0) := by exact ⟨_, rfl⟩) (hj : τ1[j]? = some (.ow t (T.map PyData.int)) := by rfl) (hw : t ∉ own (τ1.set j .un) := by simp [own, ownA])
    (hN : X.N[i]? = some y := by rfl) (hv : Vis X.env.scope y := by first | exact Or.inl rfl | exact Or.inr (Or.inl rfl) | exact Or.inr (Or.inr rfl)) (hN2 : X.N[j]? = some z := by rfl) (hv2 : Vis X.env.scope z := by first | exact Or.inl rfl | exact Or.inr (Or.inl rfl) | exact Or.inr (Or.inr rfl))
    (hg : Gl X x := by rfl) (hdb : (x == ("__debug__" : Str)) = false := by decide) (hy1 : (y == ("__debug__" : Str)) = false := by decide) (hy2 : (y == ("__classdict__" : Str)) = false := by decide) (hz1 : (z == ("__debug__" : Str)) = false := by decide) (hz2 : (z == ("__classdict__" : Str)) = false := by decide)
    (he : starEach (.Name y p1 :: .Name z p2 :: es) X.env = (false, eval (.Name y p1) X.env) :: starEach (.Name z p2 :: es) X.env := by rfl) (he2 : starEach (.Name z p2 :: es) X.env = (false, eval (.Name z p2) X.env) :: starEach es X.env := by rfl) (hpl : (backTo pos (starEach (.Name z p2 :: es) X.env)).any (·.1) = false := by rfl) :
    EV X (.Call (.Name x p) (.Name y p1 :: .Name z p2 :: es) [] pos) τ d (τ1.set j (.ow t (T'.map PyData.int))) := by
  obtain ⟨f, fd, hm, hk, hb, G⟩ := F.ex
  have oo : own (τ1.set j (.ow t (T'.map PyData.int))) = own τ1 := own_reset hj
  refine ⟨oo.trans h.ow, fun C σ H Q S q => WE.of (pe_call G hr hg hm hk hb .nil passL (pa_cons pe_self (pa_cons pe_self pa_self he2) he) hdb he hpl) ?_⟩
  refine (EV.var (X := X) (τ := τ) (pos := p1) i hi hN hv hy1 hy2).run C σ H _ S fun sv H0 g0 S0 p0 => ?_
  obtain ⟨ds0, hj0⟩ := hj0
  refine own_run hj0 hN2 hv2 hz1 hz2 S0 fun xs0 _ _ => ?_
  refine h.run C σ H0 _ S0 fun rvs H1 g1 S1 q1 => ?_
  have p0' := keep_dp (L0 := C.L0) h.ow g1 p0
  obtain ⟨o, z1, z2, xs, z3, z4⟩ := S1.sl j _ hj
  have ex := dp_ints z4
  subst ex
  have tin : t ∈ C.L0 ++ own τ1 := List.mem_append_right _ (own_mem hj)
  show spT X.K R ((sv :: .ref t :: rvs) ++ []) H1 Q E0
  rw [List.append_nil]
  refine ⟨C.L0 ++ own τ1, t, sv, rvs, script, T, ds, d, T', rfl, S1.dom, tin, p0', z3, q1, hR, fun v H2 k1 k2 k3 => ?_⟩
  have S2 := put_back (es' := T'.map PyData.int) S1 hj hw (dpInts T')
  have ex2 : Ex (upd H1 t (.lst (T'.map V.int))) H2 := fun a o z => by
    by_cases c : a = t
    · rw [c, upd_same] at z; rw [c, k2]; exact z
    · rw [upd_ne c] at z; exact k1 a o c z
  refine q v H2 (fun a o n z => ?_) (S2.ex ex2) (by rw [oo]; exact k3)
  have na : a ≠ t := fun e => n (by rw [e, ← h.ow]; exact own_mem hj)
  refine k1 a o na (g1 a o (fun y => n y) (g0 a o n z))
end
section
variable {P : Program} {w : World} {K : PySem.W.Frag} {mg : Str → Option Value} {base : Heap}
theorem sl_startT {N : List Str} {sv : V} {rvs : List V} {t : Addr} {script T : List Int} {ds : List PyData} {L : List Addr} {H : Hp} (dm : Dom L H) (ht : t ∈ L) (h0 : Dp K (hide L H) sv (lst PyData.int script)) (h1 : H t = some (.lst (T.map V.int))) (h : DpAll K (hide L H) rvs ds) (hl : ds.length + 2 ≤ N.length) :
    Sl K ⟨L.filter (fun a => decide (a ≠ t)), [t], H⟩ H (L2.start N (sv :: .ref t :: rvs)) (.pu (lst PyData.int script) :: .ow t (T.map PyData.int) :: (ds.map SV.pu ++ List.replicate (N.length - 2 - ds.length) SV.un)) := by
  have no : own (.pu (lst PyData.int script) :: .ow t (T.map PyData.int) :: (ds.map SV.pu ++ List.replicate (N.length - 2 - ds.length) SV.un)) = [t] := by
    have e1 : (ds.map SV.pu).flatMap ownA = [] := List.flatMap_eq_nil_iff.mpr fun x hx => by
      obtain ⟨d, _, rfl⟩ := List.mem_map.mp hx; rfl
    have e2 : (List.replicate (N.length - 2 - ds.length) SV.un).flatMap ownA = [] := List.flatMap_eq_nil_iff.mpr fun x hx => by
      rw [(List.mem_replicate.mp hx).2]; rfl
    unfold own
    rw [List.flatMap_cons, List.flatMap_cons, List.flatMap_append, e1, e2]; rfl
  have hlen := DpAll.len h
  have ex : Ex (hide L H) (hide (L.filter (fun a => decide (a ≠ t)) ++ [t]) H) := hide_mono fun a ha => by
    rcases List.mem_append.mp ha with z | z
    · exact (List.mem_filter.mp z).1
    · rw [List.mem_singleton.mp z]; exact ht
  refine ⟨?_, fun i sv' e => ?_, fun a o _ q => q, fun l hl => ?_, fun a ha => dm a (List.mem_filter.mp ha).1, fun a ha => ?_, fun l hl z => ?_⟩
  · unfold L2.start
    simp [hlen]
    omega
  · rw [no]
    unfold L2.start
    match i, e with
    | 0, e =>
      have e2 : SV.pu (lst PyData.int script) = sv' := by simpa using e
      subst e2
      exact ⟨some sv, by simp, sv, rfl, Dp.ex ex h0⟩
    | 1, e =>
      have e2 : SV.ow t (T.map PyData.int) = sv' := by simpa using e
      subst e2
      exact ⟨some (.ref t), by simp, rfl, _, h1, dpInts T⟩
    | n + 2, e =>
      have e' : (ds.map SV.pu ++ List.replicate (N.length - 2 - ds.length) SV.un)[n]? = some sv' := by simpa using e
      by_cases hi : n < ds.length
      · rw [List.getElem?_append_left (by simpa using hi), List.getElem?_map, List.getElem?_eq_getElem hi] at e'
        have e2 : SV.pu ds[n] = sv' := Option.some.inj e'
        subst e2
        obtain ⟨v, h1, h2⟩ := DpAll.get h (List.getElem?_eq_getElem hi)
        refine ⟨some v, ?_, v, rfl, Dp.ex ex h2⟩
        show ((sv :: .ref t :: rvs).map some ++ _)[n + 2]? = _
        rw [List.getElem?_append_left (by simp; omega), List.getElem?_map]
        show Option.map some rvs[n]? = _
        rw [h1]; rfl
      · rw [List.getElem?_append_right (by simpa using hi), List.getElem?_replicate] at e'
        split at e'
        · rename_i h2
          have e2 : SV.un = sv' := Option.some.inj e'
          subst e2
          refine ⟨none, ?_, trivial⟩
          rw [List.length_map] at h2
          show ((sv :: .ref t :: rvs).map some ++ _)[n + 2]? = _
          rw [List.getElem?_append_right (by simp; omega), List.getElem?_replicate]
          rw [if_pos (by simp; omega)]
        · cases e'
  · rw [no] at hl; exact .inl hl
  · rw [List.mem_singleton.mp ha, h1]; exact fun z => nomatch z
  · rw [no] at hl
    have e := List.mem_singleton.mp hl
    rw [e] at z
    have := (List.mem_filter.mp z).2
    simp at this
/-- the end of such a def -/
def retT (t : Addr) (d : PyData) (T' : List Int) : Out → Prop
  | .rt d' τ' => d' = d ∧ τ'[1]? = some (.ow t (T'.map PyData.int))
  | _ => False
theorem Def.calT {x : Str} {st : Stmt} {N ps : List Str} {k : Nat} {R : List Int → List Int → List PyData → PyData → List Int → Prop} (D : Def K mg x st) (S : FnScope N ps (defScope st))
    (hbind : ∀ (dV kV doc pm : Value) (an : Option Addr) (cdv ct : Value) (us : List Value), us.length = ps.length → bindArgs (PySem.W.fnOf x x (defArgs st) (defBody st) (defScope st) .none kV doc pm an cdv ct) ⟨us, []⟩ = pure (ps.zip us))
    (len : ∀ script T ds d T', R script T ds d T' → ds.length + 2 = ps.length)
    (hb : ∀ (f : Addr) (cdv : Value) (A : Around) (outer : List Env) (s : Shared) (H : Hp) (E : XK) (t : Addr) (script T : List Int) (ds : List PyData) (d : PyData) (T' : List Int), Room k (A.deeper (envOfC x (defScope st) s.heap.objs.size f cdv)) → R script T ds d T' →
      SX (cxOf (L2.CX P w) P w K mg base N x (defScope st) f cdv A outer s H E) (defBody st) (.pu (lst PyData.int script) :: .ow t (T.map PyData.int) :: (ds.map SV.pu ++ List.replicate (N.length - 2 - ds.length) SV.un)) (retT t d T')) :
    Cal P w K mg base (k + 1) x ps (spT K R) := by
  obtain ⟨fd, F⟩ := D.fd
  have hpl : ps.length ≤ N.length := by have := congrArg List.length S.pre; rw [List.length_take] at this; omega
  refine ⟨_, fd, D.gl, F.kp, F.bindsN fun kV doc pm an cdv ct us hl => hbind .none kV doc pm an cdv ct us hl, F.ok S (fun vs H Q E h => ?_) (fun cdv A outer s H vs Q E hr h => ?_)⟩
  · obtain ⟨L, t, sv, rvs, script, T, ds, d, T', rfl, dm, ht, h0, h1, p, hR, _⟩ := h
    rw [List.length_cons, List.length_cons, DpAll.len p]; exact len _ _ _ _ _ hR
  · obtain ⟨L, t, sv, rvs, script, T, ds, d, T', rfl, dm, ht, h0, h1, p, hR, q⟩ := h
    have hl := len _ _ _ _ _ hR
    refine ⟨_, pss_self, (hb _ cdv A outer s H E t script T ds d T' hr hR).run ⟨L.filter (fun a => decide (a ≠ t)), [t], H⟩ _ H _ (fun cls d _ H => E cls d H) (takes_of rfl rfl rfl rfl) (sl_startT dm ht h0 h1 p (by omega)) fun o ho => ?_⟩
    cases o with
    | rt d' τ' =>
      obtain ⟨e1, e2⟩ := ho
      subst e1
      refine fun σ' v H' S' p' => ?_
      obtain ⟨o, z1, z2, xs, z3, z4⟩ := S'.sl 1 _ e2
      have ex := dp_ints z4
      subst ex
      refine q v H' (fun a o na z => S'.gr a o (by simp [na]) z) z3 (Dp.ex (hide_mono fun a ha => ?_) p')
      by_cases c : a = t
      · rw [c]; exact List.mem_append_right _ (own_mem e2)
      · exact List.mem_append_left _ (List.mem_filter.mpr ⟨ha, by simp [c]⟩)
    | nx τ' => exact False.elim ho
    | bk τ' => exact False.elim ho
    | ct τ' => exact False.elim ho
    | xc c' τ' => exact False.elim ho
    | rk d' τ' => exact False.elim ho
    | ro i' τ' => exact False.elim ho
/-- a def whose one statement returns a fresh list -/
theorem Def.calF {x : Str} {st : Stmt} {N ps : List Str} {k : Nat} {R : List PyData → List PyData → Prop} {e : Expr} {pos : Pos} (D : Def K mg x st) (S : FnScope N ps (defScope st))
    (hbind : ∀ (dV kV doc pm : Value) (an : Option Addr) (cdv ct : Value) (us : List Value), us.length = ps.length → bindArgs (PySem.W.fnOf x x (defArgs st) (defBody st) (defScope st) .none kV doc pm an cdv ct) ⟨us, []⟩ = pure (ps.zip us))
    (len : ∀ ds es, R ds es → ds.length = ps.length) (hbody : defBody st = [.Return (some e) pos])
    (hb : ∀ (f : Addr) (cdv : Value) (A : Around) (outer : List Env) (s : Shared) (H : Hp) (E : XK) (ds es : List PyData), Room k (A.deeper (envOfC x (defScope st) s.heap.objs.size f cdv)) → R ds es →
      ∃ τ', EF (cxOf (L2.CX P w) P w K mg base N x (defScope st) f cdv A outer s H E) e (ds.map SV.pu ++ List.replicate (N.length - ds.length) SV.un) es τ') :
    Cal P w K mg base (k + 1) x ps (spF K R) := by
  obtain ⟨fd, F⟩ := D.fd
  have hpl : ps.length ≤ N.length := by have := congrArg List.length S.pre; rw [List.length_take] at this; omega
  refine ⟨_, fd, D.gl, F.kp, F.bindsN fun kV doc pm an cdv ct us hl => hbind .none kV doc pm an cdv ct us hl, F.ok S (fun vs H Q E h => ?_) (fun cdv A outer s H vs Q E hr h => ?_)⟩
  · obtain ⟨L, ds, es, dm, p, hR, _⟩ := h
    rw [DpAll.len p]; exact len ds es hR
  · obtain ⟨L, ds, es, dm, p, hR, q⟩ := h
    have hl := len ds es hR
    obtain ⟨τ', hE⟩ := hb _ cdv A outer s H E ds es hr hR
    rw [hbody]
    have S0 := sl_start (ps := ps) (N := N) dm p (by omega)
    refine ⟨_, pss_one (ps_ret pe_self), hE.run ⟨L, [], H⟩ _ H _ S0 fun l H' xs g hl e1 e2 S' => ?_⟩
    have no : ∀ a, a ∉ own (ds.map SV.pu ++ List.replicate (N.length - ds.length) SV.un) := fun a ha => by
      rcases S0.ow a ha with z | z
      · cases z
      · exact S0.dom a (List.mem_append_right _ ha) z
    refine q l H' xs (fun a o z => g a o (no a) z) hl e1 (DpAll.ex (hide_mono fun a ha => ?_) e2)
    exact List.mem_append_left _ ha
/-- the law: its own head lets nothing out -/
theorem fn_law {x qual : Str} {params : Arguments} {body : List Stmt} {scope : Scope} {f : Addr} {fd : FuncData} {N ps : List Str} {k : Nat} {R : List PyData → Res → Prop} (F : FunD K x qual params body scope [] [] f fd) (S : FnScope N ps scope)
    (len : ∀ ds r, R ds r → ds.length = ps.length)
    (hb : ∀ (cdv : Value) (A : Around) (outer : List Env) (s : Shared) (H : Hp) (E : XK) (ds : List PyData) (d : PyData), Room k (A.deeper (envOfC qual scope s.heap.objs.size f cdv)) → R ds (.ok d) →
      SX (cxOf CX0 P w K mg base N qual scope f cdv A outer s H E).nox body (ds.map SV.pu ++ List.replicate (N.length - ds.length) SV.un) (ret d)) (hok : ∀ ds r, R ds r → ∃ d, r = .ok d) :
    FnOk P w K mg base CX0 (k + 1) f fd ps (spP K R) := by
  have hpl : ps.length ≤ N.length := by have := congrArg List.length S.pre; rw [List.length_take] at this; omega
  refine F.ok S (fun vs H Q E h => ?_) (fun cdv A outer s H vs Q E hr h => ?_)
  · obtain ⟨L, ds, r, dm, p, hR, _⟩ := h
    rw [DpAll.len p]; exact len ds r hR
  · obtain ⟨L, ds, r, dm, p, hR, q⟩ := h
    have hl := len ds r hR
    obtain ⟨d, rfl⟩ := hok ds r hR
    refine ⟨_, PSs.nox (pss_self (sts := body)), (hb cdv A outer s H E ds d hr hR).run ⟨L, [], H⟩ _ H _ (fun _ _ _ _ => False) takes0 (sl_start (ps := ps) dm p (by omega)) fun o ho => ?_⟩
    have hEx : ∀ {σ' : L2.St} {τ' : List SV} {H' : Hp}, Sl K ⟨L, [], H⟩ H' σ' τ' → Ex H H' := fun S' a u e => S'.gr a u (fun z => nomatch z) e
    cases o with
    | rt d' τ' =>
      have e : d' = d := ho
      subst e
      exact fun σ' v H' S' p' => q v H' (hEx S') (Dp.ex (hide_mono fun a z => List.mem_append_left _ z) p')
    | nx τ' =>
      have e : d = .none := ho
      subst e
      exact fun σ' H' S' => q .non H' (hEx S') .non
    | bk τ' => exact False.elim ho
    | ct τ' => exact False.elim ho
    | xc c' τ' => exact False.elim ho
    | rk d' τ' => exact False.elim ho
    | ro i' τ' => exact False.elim ho
end
end DL

set_option maxRecDepth 100000
set_option maxHeartbeats 2000000
/-! DLn: small rules. -/
namespace DL
open PySem L2
section
variable {X : Cx} {a b c e : Expr} {es : List Expr} {pos p p1 p2 : Pos} {τ τ1 τ2 τ3 : List SV} {d d1 d2 d3 : PyData} {ds es' : List PyData}
theorem EV.notT (h : EV X a τ (.bool true) τ1) : EV X (.UnaryOp .Not a pos) τ (.bool false) τ1 := EV.not h
theorem EV.notF (h : EV X a τ (.bool false) τ1) : EV X (.UnaryOp .Not a pos) τ (.bool true) τ1 := EV.not h
theorem ET.notT (h : ET X a τ true τ1) : ET X (.UnaryOp .Not a pos) τ false τ1 := ET.not h
theorem ET.notF (h : ET X a τ false τ1) : ET X (.UnaryOp .Not a pos) τ true τ1 := ET.not h
/-- pairs as targets of a comprehension -/
theorem LC.pair {elt tg iter : Expr} {ifs : List Expr} {scope : Scope} {α : Type} {xs : List α} {ea eb : α → PyData} {f : α → PyData} {p : α → Bool} (i j : Nat) (na nb : Str) (hij : i ≠ j) (hi : EVI X tg iter τ (xs.map fun x => .tuple [ea x, eb x]) τ1)
    (hT : ∀ x, x ∈ xs → TestsIs X scope ifs ((τ1.set i (.pu (ea x))).set j (.pu (eb x))) (p x) ((τ1.set i (.pu (ea x))).set j (.pu (eb x))))
    (hE : ∀ x, x ∈ xs → p x = true → InBlk X scope fun X' => EV X' elt ((τ1.set i (.pu (ea x))).set j (.pu (eb x))) (f x) ((τ1.set i (.pu (ea x))).set j (.pu (eb x)))) (hz : xs.length < sizeLine) (ok : BlkOk X.N X.env.scope scope [(na, i), (nb, j)] := by exact blkOk_by (by kernel_rfl))
    (hg : InBlk X scope fun X' => PG X' tg (gTup X.K 2 (gCons (gName i) (gCons (gName j) gNil))) := by exact fun _ _ _ _ _ => pg_tup rfl (pgs_cons (pg_name (by assumption) rfl (by first | exact Or.inl rfl | exact Or.inr rfl)) (pgs_cons (pg_name (by assumption) rfl (by first | exact Or.inl rfl | exact Or.inr rfl)) pgs_nil))) (no : nOw τ1[i]? = true := by rfl) (no2 : nOw τ1[j]? = true := by rfl) (hl : ifs.length ≤ 1 := by decide) :
    LC X elt tg iter ifs scope [(na, i), (nb, j)] τ ((xs.filter p).map f) τ1 := by
  have nw : wipeT τ1 [i, j] = (τ1.set j .un).set i .un := rfl
  have no' : noOw τ1 [i, j] = true := by show (nOw τ1[i]? && (nOw τ1[j]? && true)) = true; rw [no, no2]; rfl
  have es : ∀ x, ((wipeT τ1 [i, j]).set i (.pu (ea x))).set j (.pu (eb x)) = (τ1.set i (.pu (ea x))).set j (.pu (eb x)) := fun x => by
    rw [nw, List.set_set, List.set_comm _ _ hij, List.set_set, List.set_comm _ _ hij.symm]
  have ew : ∀ x, wipeT ((τ1.set i (.pu (ea x))).set j (.pu (eb x))) [i, j] = wipeT τ1 [i, j] := fun x => by
    show (((τ1.set i (.pu (ea x))).set j (.pu (eb x))).set j .un).set i .un = (τ1.set j .un).set i .un
    rw [List.set_set, List.set_comm _ _ hij, List.set_set]
  refine LC.pure (g := gTup X.K 2 (gCons (gName i) (gCons (gName j) gNil))) (fun x => (τ1.set i (.pu (ea x))).set j (.pu (eb x))) hi ok hg (fun x hx => ?_) (fun x hx => ew x) hT hE hz no' hl
  rw [← es x]
  have nun : ∀ (l : List SV) (k : Nat), nOw (l.set k .un)[k]? = true := fun l k => by
    by_cases h : k < l.length
    · rw [List.getElem?_set_self h]; rfl
    · rw [List.getElem?_eq_none (by simpa using h)]; rfl
  refine EG.pair i j (by simp) (by simp) (nun _ _) ?_
  show nOw (((τ1.set j .un).set i .un).set i (.pu (ea x)))[j]? = true
  rw [List.set_set, List.getElem?_set_ne hij]
  exact nun _ _
theorem LC.pairMap {elt tg iter : Expr} {scope : Scope} {α : Type} {xs : List α} {ea eb : α → PyData} {f : α → PyData} (i j : Nat) (na nb : Str) (hij : i ≠ j) (hi : EVI X tg iter τ (xs.map fun x => .tuple [ea x, eb x]) τ1)
    (hE : ∀ x, x ∈ xs → InBlk X scope fun X' => EV X' elt ((τ1.set i (.pu (ea x))).set j (.pu (eb x))) (f x) ((τ1.set i (.pu (ea x))).set j (.pu (eb x)))) (hz : xs.length < sizeLine) (ok : BlkOk X.N X.env.scope scope [(na, i), (nb, j)] := by exact blkOk_by (by kernel_rfl))
    (hg : InBlk X scope fun X' => PG X' tg (gTup X.K 2 (gCons (gName i) (gCons (gName j) gNil))) := by exact fun _ _ _ _ _ => pg_tup rfl (pgs_cons (pg_name (by assumption) rfl (by first | exact Or.inl rfl | exact Or.inr rfl)) (pgs_cons (pg_name (by assumption) rfl (by first | exact Or.inl rfl | exact Or.inr rfl)) pgs_nil))) (no : nOw τ1[i]? = true := by rfl) (no2 : nOw τ1[j]? = true := by rfl) :
    LC X elt tg iter [] scope [(na, i), (nb, j)] τ (xs.map f) τ1 := by
  have h := LC.pair (ifs := []) (p := fun _ => true) i j na nb hij hi (fun a ha => ⟨rfl, rfl⟩) (fun a ha _ => hE a ha) hz ok hg no no2 (by decide)
  rw [List.filter_eq_self.mpr (fun _ _ => rfl)] at h
  exact h
end
end DL

set_option maxRecDepth 100000
set_option maxHeartbeats 2000000
/-! DLo: sum, all, any of a comprehension's values. -/
namespace DL
open PySem L2
section
variable {X : Cx} {a b c e : Expr} {es : List Expr} {pos p p1 p2 : Pos} {τ τ1 τ2 τ3 : List SV} {d d1 d2 d3 : PyData} {ds es' : List PyData} {α : Type} {xs : List α}
theorem EV.sumM {f : α → Int} (hm : X.mg "sum" = none) (h : EV X a τ (.list (xs.map fun x => .int (f x))) τ1) (hc : X.calm = true := by rfl) (hg : Gl X "sum" := by rfl) (he : starEach [a] X.env = (false, eval a X.env) :: starEach [] X.env := by rfl) : EV X (.Call (.Name "sum" p) [a] [] pos) τ (.int (xs.map f).sum) τ1 :=
  EV.sum hm (ns := xs.map f) (by rw [show DL.lst PyData.int (xs.map f) = .list (xs.map fun x => .int (f x)) by show PyData.list _ = _; rw [List.map_map]; rfl]; exact h) hc hg he
theorem EV.allM {f : α → Bool} (hm : X.mg "all" = none) (h : EV X a τ (.list (xs.map fun x => .bool (f x))) τ1) (hc : X.calm = true := by rfl) (hg : Gl X "all" := by rfl) (he : starEach [a] X.env = (false, eval a X.env) :: starEach [] X.env := by rfl) : EV X (.Call (.Name "all" p) [a] [] pos) τ (.bool (xs.all f)) τ1 := by
  have h2 := EV.all (X := X) (pos := pos) (p := p) hm (ns := xs.map f) (by rw [show DL.lst PyData.bool (xs.map f) = .list (xs.map fun x => .bool (f x)) by show PyData.list _ = _; rw [List.map_map]; rfl]; exact h) hc hg he
  rw [List.all_map] at h2; exact h2
theorem EV.anyM {f : α → Bool} (hm : X.mg "any" = none) (h : EV X a τ (.list (xs.map fun x => .bool (f x))) τ1) (hc : X.calm = true := by rfl) (hg : Gl X "any" := by rfl) (he : starEach [a] X.env = (false, eval a X.env) :: starEach [] X.env := by rfl) : EV X (.Call (.Name "any" p) [a] [] pos) τ (.bool (xs.any f)) τ1 := by
  have h2 := EV.any (X := X) (pos := pos) (p := p) hm (ns := xs.map f) (by rw [show DL.lst PyData.bool (xs.map f) = .list (xs.map fun x => .bool (f x)) by show PyData.list _ = _; rw [List.map_map]; rfl]; exact h) hc hg he
  rw [List.any_map] at h2; exact h2
/-! chains of comparisons of ints -/
def OpI (X : Cx) (op : CmpOp) (p : Int → Int → Bool) : Prop := ∃ r : R2, OpR X (compareOp op) r ∧ ∀ (i j : Int) (H : Hp) (Q : VK), Q (.bl (p i j)) H → r (.int i) (.int j) H Q
theorem OpI.lt : OpI X .Lt fun i j => decide (i < j) := ⟨_, op_lt, fun i j H Q q => ⟨i, j, rfl, rfl, q⟩⟩
theorem OpI.le : OpI X .LtE fun i j => decide (i ≤ j) := ⟨_, op_le, fun i j H Q q => ⟨i, j, rfl, rfl, q⟩⟩
theorem OpI.gt : OpI X .Gt fun i j => decide (j < i) := ⟨_, op_gt, fun i j H Q q => ⟨i, j, rfl, rfl, q⟩⟩
theorem OpI.ge : OpI X .GtE fun i j => decide (j ≤ i) := ⟨_, op_ge, fun i j H Q q => ⟨i, j, rfl, rfl, q⟩⟩
theorem OpI.eq : OpI X .Eq fun i j => decide (i = j) := ⟨_, op_eq, fun i j H Q q => ⟨rfl, by rw [show decide (V.int i = V.int j) = decide (i = j) by rw [dec_int]; rfl]; exact q⟩⟩
theorem OpI.ne : OpI X .NotEq fun i j => !decide (i = j) := ⟨_, op_ne, fun i j H Q q => ⟨rfl, by rw [show decide (V.int i = V.int j) = decide (i = j) by rw [dec_int]; rfl]; exact q⟩⟩
theorem chain_run {r r' : R2} {p p' : Int → Int → Bool} {i j k : Int} (q1 : ∀ (i j : Int) (H : Hp) (Q : VK), Q (.bl (p i j)) H → r (.int i) (.int j) H Q) (q2 : ∀ (i j : Int) (H : Hp) (Q : VK), Q (.bl (p' i j)) H → r' (.int i) (.int j) H Q)
    (h1 : EV X a τ (.int i) τ) (h2 : EV X b τ (.int j) τ) (h3 : EV X c τ (.int k) τ) (C : Fc) (σ : L2.St) (H : Hp) (Q : VK) (S : Sl X.K C H σ τ) (q : ∀ H', Gw (own τ) H H' → Sl X.K C H' σ τ → Q (.bl (p i j && p' j k)) H') : tChain r r' (WE X a) (WE X b) (WE X c) σ H Q :=
  h1.run C σ H _ S fun x H1 g1 S1 p1 => h2.run C σ H1 _ S1 fun y H2 g2 S2 p2 => by
    cases p1; cases p2
    refine q1 i j H2 _ ⟨p i j, rfl, ?_⟩
    cases hb : p i j with
    | true =>
      show WE X c σ H2 _
      refine h3.run C σ H2 _ S2 fun z H3 g3 S3 p3 => ?_
      cases p3
      have q3 := q H3 ((g1.trans g2).trans g3) S3
      rw [hb, Bool.true_and] at q3
      exact q2 j k H3 _ q3
    | false =>
      show Q (.bl false) H2
      have q3 := q H2 (g1.trans g2) S2
      rw [hb, Bool.false_and] at q3
      exact q3
theorem EV.chainI {op op' : CmpOp} {i j k : Int} {p p' : Int → Int → Bool} (ho : OpI X op p) (ho' : OpI X op' p') (h1 : EV X a τ (.int i) τ) (h2 : EV X b τ (.int j) τ) (h3 : EV X c τ (.int k) τ) (hm : lastMarks [op, op'] [b, c] = false := by rfl) :
    EV X (.Compare a [op, op'] [b, c] pos) τ (.bool (p i j && p' j k)) τ := by
  obtain ⟨r, o1, q1⟩ := ho
  obtain ⟨r', o2, q2⟩ := ho'
  exact ⟨rfl, fun C σ H Q S q => WE.of (pe_chain o1 o2 pe_self pe_self pe_self hm) (chain_run q1 q2 h1 h2 h3 C σ H Q S fun H' g S' => q _ H' g S' (.bl _))⟩
theorem ET.chainI {op op' : CmpOp} {i j k : Int} {p p' : Int → Int → Bool} (ho : OpI X op p) (ho' : OpI X op' p') (h1 : EV X a τ (.int i) τ) (h2 : EV X b τ (.int j) τ) (h3 : EV X c τ (.int k) τ) (hm : lastMarks [op, op'] [b, c] = false := by rfl) :
    ET X (.Compare a [op, op'] [b, c] pos) τ (p i j && p' j k) τ := by
  obtain ⟨r, o1, q1⟩ := ho
  obtain ⟨r', o2, q2⟩ := ho'
  exact ⟨rfl, fun C σ H Q S q => WT.of (pt_chain o1 o2 pe_self pe_self pe_self hm) (chain_run q1 q2 h1 h2 h3 C σ H _ S fun H' g S' => ⟨_, rfl, q H' g S'⟩)⟩
end
end DL

set_option maxRecDepth 100000
set_option maxHeartbeats 2000000
/-! DLp: what the end of a law's proof needs. -/
namespace DL
open PySem L2
theorem excOk_of {K : PySem.W.Frag} {mg : Str → Option Value} {c : Str} (g : mg c = some (.ref (He.ga K c))) (h : PySem.W.excIn K (He.ga K c) He.veBase "ValueError.__new__" = true ∧ PySem.W.keepIn K (.ref (He.ga K c)) = true ∧ PySem.W.subIn K (.ref (He.ga K c)) (.type "BaseException") = some true ∧ PySem.W.typeIn K (.ref (He.ga K c)) = some (.type "type")) : ExcOk K mg c := ⟨g, h.1, h.2.1, h.2.2.1, h.2.2.2⟩
theorem dom_nil {H : Hp} : Dom [] H := fun _ h => nomatch h
theorem hide_nil (H : Hp) : hide [] H = H := by
  funext a
  simp [hide]
theorem script_dp {K : PySem.W.Frag} {H : Hp} {a : Addr} {ns : List Int} (h : SqL K H a (ns.map V.int)) : DpAll K (hide [] H) [V.ref a] [lst PyData.int ns] := by
  rw [hide_nil]
  exact .cons (.lst h (dpInts ns)) .nil
theorem dp_true {K : PySem.W.Frag} {H : Hp} {v : V} (h : Dp K H v (.bool true)) : v = .bl true := by
  cases h; rfl
end DL

set_option maxRecDepth 100000
set_option maxHeartbeats 2000000
/-! DLq: tuples compared, is of bools, sorted ints, sorted sets of tuples. -/
namespace DL
open PySem L2
section
variable {X : Cx} {a b c e : Expr} {es : List Expr} {pos p p1 p2 : Pos} {τ τ1 τ2 τ3 : List SV} {d d1 d2 d3 : PyData} {ds es' : List PyData} {nss mss : List (List Int)}
theorem dpT_sq {K : PySem.W.Frag} {H : Hp} {v : V} {ns : List Int} (h : Dp K H v (eT ns)) : ∃ a, v = .ref a ∧ SqT K H a (ns.map V.int) := by
  cases h with
  | @tup a xs _ s1 s2 => exact ⟨a, rfl, by rw [← dp_ints s2]; exact s1⟩
theorem EC.ltT {ns ms : List Int} (hu : X.A.units < cLine) (h1 : EV X a τ (eT ns) τ1) (h2 : EV X b τ1 (eT ms) τ2) : EC X .Lt a b τ (HT.lexLt ns ms) τ2 :=
  EC.mk' (op_ltT hu) h1 h2 fun L H x y Q _ q1 q2 q => by
    obtain ⟨l, rfl, s1⟩ := dpT_sq q1
    obtain ⟨k, rfl, s2⟩ := dpT_sq q2
    exact ⟨l, k, ns, ms, rfl, rfl, st_ex (hide_ex L H) s1, st_ex (hide_ex L H) s2, q _ H (Ex.refl _) (.bl _)⟩
theorem EC.isB {x y : Bool} (h1 : EV X a τ (.bool x) τ1) (h2 : EV X b τ1 (.bool y) τ2) : EC X .Is a b τ (decide (x = y)) τ2 :=
  EC.mk' op_is_bl h1 h2 fun L H u v Q _ q1 q2 q => by
    cases q1; cases q2; exact ⟨x, y, rfl, rfl, q _ H (Ex.refl _) (.bl _)⟩
theorem EC.notB {x y : Bool} (h1 : EV X a τ (.bool x) τ1) (h2 : EV X b τ1 (.bool y) τ2) : EC X .IsNot a b τ (!decide (x = y)) τ2 :=
  EC.mk' op_isnot_bl h1 h2 fun L H u v Q _ q1 q2 q => by
    cases q1; cases q2; exact ⟨x, y, rfl, rfl, q _ H (Ex.refl _) (.bl _)⟩
/-- sorted(xs), ints -/
theorem EF.sortI {ns ms : List Int} (hm : X.mg "sorted" = none) (h : EV X a τ (.list (ns.map PyData.int)) τ1) (hp : ms.Perm ns) (hs : ms.Pairwise (· ≤ ·)) (hg : Gl X "sorted" := by rfl) (he : starEach [a] X.env = (false, eval a X.env) :: starEach [] X.env := by rfl) : EF X (.Call (.Name "sorted" p) [a] [] pos) τ (ms.map PyData.int) τ1 :=
  ⟨h.ow, fun C σ H Q S q => WE.of (pe_callB cr_sortedI hg hm (by decide +kernel) (pa_cons pe_self pa_nil he) (by decide) (by decide) he rfl) (h.run C σ H _ S fun v H1 g1 S1 p1 => by
    cases p1 with
    | @lst l xs _ s1 s2 =>
      have e := dp_ints s2
      subst e
      refine ⟨l, ns, rfl, sq_ex (hide_ex _ _) s1, fun ns' k h1 h2 hk => ?_⟩
      have e : ns' = ms := (h1.trans hp.symm).eq_of_pairwise (le := (· ≤ ·)) (fun a b _ _ h h' => Int.le_antisymm h h') h2 hs
      subst e
      exact q k _ _ (g1.trans (Gw.of (Ex.new hk))) (back_none S1 h.ow g1 hk) upd_same (fresh_hide hk (dpInts ns')) (S1.addHid hk))⟩
/-- rising, each once, the same members -/
def SetRise (nss mss : List (List Int)) : Prop := mss.Pairwise (fun a b => HT.lexLt a b = true) ∧ ∀ x, x ∈ mss ↔ x ∈ nss
theorem lexLt_irr (x : List Int) : HT.lexLt x x = false := by
  cases h : HT.lexLt x x with
  | false => rfl
  | true => exact absurd h (by rw [Srt.lexLt_swo.asym x x h]; decide)
theorem SetRise.uniq {xs ys zs : List (List Int)} (h1 : SetRise xs ys) (h2 : SetRise xs zs) : ys = zs := by
  have nd : ∀ {l : List (List Int)}, l.Pairwise (fun a b => HT.lexLt a b = true) → l.Nodup := fun {l} h => h.imp fun {a b} h e => by
    rw [e, lexLt_irr] at h; cases h
  have hp : ys.Perm zs := (List.perm_ext_iff_of_nodup (nd h1.1) (nd h2.1)).mpr fun x => (h1.2 x).trans (h2.2 x).symm
  refine hp.eq_of_pairwise (le := fun a b => HT.lexLt b a = false) (fun a b _ _ h h' => lexLt_total a b h' h) ?_ ?_
  · exact h1.1.imp fun {a b} h => Srt.lexLt_swo.asym a b h
  · exact h2.1.imp fun {a b} h => Srt.lexLt_swo.asym a b h
theorem code_lex' {B : Int} : ∀ (ns ms : List Int), ns.length = ms.length → TS.Bd B ns → TS.Bd B ms → HT.lexLt ns ms = decide (TS.code B ns < TS.code B ms)
  | [], [], _, _, _ => by rw [lexLt_irr]; simp
  | [], _ :: _, h, _, _ => by cases h
  | _ :: _, [], h, _, _ => by cases h
  | x :: xs, y :: ys, h, h1, h2 => by
    have hl : xs.length = ys.length := by simpa using h
    rw [HT.lexLt_cons]
    by_cases e : x = y
    · subst e
      rw [if_pos rfl, code_lex' xs ys hl h1.tail h2.tail]
      exact decide_eq_decide.mpr (TS.code_same hl).symm
    · rw [if_neg e]
      by_cases c : x < y
      · rw [decide_eq_true c, decide_eq_true (TS.code_lt hl h1.tail h2.tail c)]
      · have := TS.code_lt (d := y) (e := x) hl.symm h2.tail h1.tail (by omega)
        rw [decide_eq_false c, decide_eq_false (by omega)]
theorem dpAll_refs {K : PySem.W.Frag} {H : Hp} : ∀ {xs : List V} {nss : List (List Int)}, DpAll K H xs (nss.map eT) → ∃ ks : List (Addr × List Int), xs = ks.map (fun p => V.ref p.1) ∧ nss = ks.map (·.2) ∧ ∀ p ∈ ks, SqT K H p.1 (p.2.map V.int)
  | [], [], _ => ⟨[], rfl, rfl, fun _ h => nomatch h⟩
  | [], _ :: _, h => by cases h
  | _ :: _, [], h => by cases h
  | x :: xs, ns :: nss, h => by
    cases h with
    | cons h1 h2 =>
      obtain ⟨l, rfl, s1⟩ := dpT_sq h1
      obtain ⟨ks, rfl, rfl, h3⟩ := dpAll_refs h2
      exact ⟨(l, ns) :: ks, rfl, rfl, fun p hp => by
        rcases List.mem_cons.mp hp with z | z
        · rw [z]; exact s1
        · exact h3 p z⟩
theorem refs_dpAll {K : PySem.W.Frag} {H : Hp} : ∀ {ks : List (Addr × List Int)}, (∀ p ∈ ks, SqT K H p.1 (p.2.map V.int)) → DpAll K H (ks.map fun p => V.ref p.1) ((ks.map (·.2)).map eT)
  | [], _ => .nil
  | p :: ks, h => .cons (.tup (h p (by simp)) (dpInts p.2)) (refs_dpAll fun q hq => h q (List.mem_cons_of_mem _ hq))
/-- sorted(set(xs)), tuples of d ints in [0, B) -/
theorem EF.sortSet {dd : Nat} {B : Int} (hu : X.A.units + 64 < cLine) (hm : X.mg "sorted" = none) (hm2 : X.mg "set" = none) (h : EV X a τ (.list (nss.map eT)) τ1) (hf : nss.length < 64) (hd : 1 ≤ dd) (hb : ∀ ns ∈ nss, ns.length = dd ∧ TS.Bd B ns) (hr : SetRise nss mss) (hc : X.calm = true := by rfl) (hg : Gl X "sorted" := by rfl) (hg2 : Gl X "set" := by rfl)
    (he : starEach [a] X.env = (false, eval a X.env) :: starEach [] X.env := by rfl) (he2 : starEach [.Call (.Name "set" p1) [a] [] p2] X.env = (false, eval (.Call (.Name "set" p1) [a] [] p2) X.env) :: starEach [] X.env := by rfl) : EF X (.Call (.Name "sorted" p) [.Call (.Name "set" p1) [a] [] p2] [] pos) τ (mss.map eT) τ1 :=
  ⟨h.ow, fun C σ H Q S q => WE.of (pe_callB (cr_sortedT hc) hg hm (by decide +kernel) (pa_cons (pe_callTy (cr_setOfT hc hu) hg2 hm2 (by decide +kernel) (pa_cons pe_self pa_nil he) (by decide) (by decide) he rfl) pa_nil he2) (by decide) (by decide) he2 rfl) (h.run C σ H _ S fun v H1 g1 S1 p1 => by
    cases p1 with
    | @lst l xs _ s1 s2 =>
      obtain ⟨ks, rfl, rfl, hk⟩ := dpAll_refs s2
      refine ⟨l, ks, rfl, sq_ex (hide_ex _ _) s1, fun z hz => st_ex (hide_ex _ _) (hk z hz), by simpa using hf, fun t L ht hL1 hL2 => ?_⟩
      have exT : Ex H1 (upd H1 t (SetTO X.prog X.w t L)) := Ex.new ht
      have hkT : ∀ z ∈ L, SqT X.K (upd H1 t (SetTO X.prog X.w t L)) z.1 (z.2.map V.int) := fun z hz => st_ex exT (st_ex (hide_ex _ _) (hk z (hL1 z hz)))
      refine ⟨t, L, dd, B, rfl, upd_same, hkT, hd, fun z hz => hb z.2 (List.mem_map.mpr ⟨z, hL1 z hz, rfl⟩), fun L' k hpm hnd hlt hpw hk0 => ?_⟩
      have hbL : ∀ z ∈ L', z.2.length = dd ∧ TS.Bd B z.2 := fun z hz => hb z.2 (List.mem_map.mpr ⟨z, hL1 z (hpm.mem_iff.mp hz), rfl⟩)
      have e : L'.map (·.2) = mss := by
        refine SetRise.uniq (xs := ks.map (·.2)) ⟨?_, fun x => ⟨fun hx => ?_, fun hx => ?_⟩⟩ hr
        · rw [List.pairwise_map]
          have hnd' : L'.Pairwise fun x y => x.2 ≠ y.2 := by
            have := hnd
            unfold List.Nodup at this
            rw [List.pairwise_map] at this
            exact this
          refine (hpw.and hnd').imp_of_mem fun {x y} hx hy h => ?_
          have hx' := hbL x hx
          have hy' := hbL y hy
          rw [code_lex' _ _ (hx'.1.trans hy'.1.symm) hx'.2 hy'.2]
          refine decide_eq_true ?_
          rcases Int.lt_or_eq_of_le h.1 with z | z
          · exact z
          · exfalso
            refine h.2 (lexLt_total _ _ ?_ ?_)
            · rw [code_lex' _ _ (hx'.1.trans hy'.1.symm) hx'.2 hy'.2]; exact decide_eq_false (by omega)
            · rw [code_lex' _ _ (hy'.1.trans hx'.1.symm) hy'.2 hx'.2]; exact decide_eq_false (by omega)
        · obtain ⟨z, hz, rfl⟩ := List.mem_map.mp hx
          exact List.mem_map.mpr ⟨z, hL1 z (hpm.mem_iff.mp hz), rfl⟩
        · obtain ⟨z, hz, rfl⟩ := List.mem_map.mp hx
          obtain ⟨y, hy, e⟩ := List.mem_map.mp (hL2 z hz)
          exact List.mem_map.mpr ⟨y, hpm.mem_iff.mpr hy, e⟩
      subst e
      have S2 := S1.ex exT
      have hy : DpAll X.K (hide (C.L0 ++ own τ1) (upd H1 t (SetTO X.prog X.w t L))) (L'.map fun q => V.ref q.1) ((L'.map (·.2)).map eT) :=
        refs_dpAll fun z hz => st_ex exT.hide (hk z (hL1 z (hpm.mem_iff.mp hz)))
      exact q k _ _ ((g1.trans (Gw.of exT)).trans (Gw.of (Ex.new hk0))) (back_none S2 h.ow (g1.trans (Gw.of exT)) hk0) upd_same (fresh_hide hk0 hy) (S2.addHid hk0))⟩
end
end DL

set_option maxRecDepth 100000
set_option maxHeartbeats 4000000
/-! DLr: try .. except C as e: caught = e; the caught object stays known behind it. -/
namespace DL
open PySem PySem.Spec PyProof.Rows L2
/-- a caught error's object at a -/
def ExI (cls : Value) (d : Option Addr) (a : Addr) : HO := .ext fun h => ∃ (oe : Obj) (vs : Array Value), h.get? a = some oe ∧ Zc cls d oe ∧ oe.data = .fields vs
section
variable {X : Cx} {pins : List (Addr × Obj)} {σ : L2.St} {H : Hp} {s : Shared}
/-- a pinned record that is new since the entry may be tracked -/
theorem Inv.track {a : Addr} {oe : Obj} {vs : Array Value} {cls : Value} {d : Option Addr} (J : Inv X ((a, oe) :: pins) σ H s) (hz : Zc cls d oe) (hd : oe.data = .fields vs) (n0 : X.s_0.heap.get? a = none) (np : ∀ p ∈ X.pn ++ pins, p.1 ≠ a) : Inv X pins σ (upd H a (ExI cls d a)) s := by
  obtain ⟨q1, q2, q3, q4, q5⟩ := J.pin (a, oe) (List.mem_append_right _ List.mem_cons_self)
  have ne : ∀ b, H b ≠ none → b ≠ a := fun b hb e => hb (e ▸ q2)
  have nc : ∀ x c, X.env.cells.lookup x = some c → c ≠ a := fun x c hx e => by
    obtain ⟨v, o, ho, hv⟩ := J.cell x c hx
    rw [e, q1] at ho
    cases ho
    exact q5 v hv
  have un : Un X.fs X.ex X.H_0 (upd H a (ExI cls d a)) X.s_0.heap s.heap := by
    refine ⟨J.base.keep, J.base.slot, fun b o e n hx => ?_, J.base.there, fun b xs e => ?_, fun b o u e => ?_, fun b ps e => ?_⟩
    · rw [upd_ne (fun z => by rw [z, n0] at e; cases e)]; exact J.base.free b o e n hx
    · have z := J.base.tups b xs e
      rw [upd_ne (ne b (by rw [z]; exact fun y => nomatch y))]; exact z
    · have z := J.base.frzs b o u e
      rw [upd_ne (ne b (by rw [z]; exact fun y => nomatch y))]; exact z
    · obtain ⟨m, z⟩ := J.base.tbls b ps e
      exact ⟨m, by rw [upd_ne (ne b (by rw [z]; exact fun y => nomatch y))]; exact z⟩
  have hk : HOk X.prog X.w (upd H a (ExI cls d a)) s.heap := fun b u e => by
    by_cases hb : b = a
    · subst hb
      rw [upd_same] at e
      cases e
      exact ⟨⟨oe, vs, q1, hz, hd⟩, ⟨oe, q1⟩, fun _ _ ⟨o, v, w1, w2⟩ k => ⟨o, v, k o w1, w2⟩⟩
    · rw [upd_ne hb] at e
      refine (J.hok b u e).stay (fun _ _ _ z => z) (fun c z => ?_) fun c xs z => ?_
      · rw [upd_ne (ne c (by rw [z]; exact fun y => nomatch y))]; exact z
      · rw [upd_ne (ne c (by rw [z]; exact fun y => nomatch y))]; exact z
  refine ⟨J.ok, J.os, J.bare, un, J.loc, J.cell, ?_, fun x c e => ?_, fun p hp => ?_, hk, J.len⟩
  · rw [upd_ne (Ne.symm q3)]; exact J.free
  · rw [upd_ne (nc x c e)]; exact J.freeC x c e
  · obtain ⟨w1, w2, w3, w4, w5⟩ := J.pin p (by
      rcases List.mem_append.mp hp with y | y
      · exact List.mem_append_left _ y
      · exact List.mem_append_right _ (List.mem_cons_of_mem _ y))
    exact ⟨w1, by rw [upd_ne (np p hp)]; exact w2, w3, w4, w5⟩
/-- what the clause wishes of an error of the body; behind the suite the object stands tracked -/
def wKeep (K : PySem.W.Frag) (c : Value) (i : Nat) (ts : Addr → Value → Option Addr → TS) (Wout : WX) (D : Ends) : WX := fun cls d σ H =>
  ∃ b, PySem.W.exmOne K cls c = some b ∧ (b = false → Wout cls d σ H) ∧
    (b = true → ∀ a, H a = none → ts a cls d { nx := fun σ' H' => H' a = none → D.nx (σ'.set i none) (upd H' a (ExI cls d a)), rt := fun _ _ => False, bk := fun _ _ => False, ct := fun _ _ => False } (σ.set i (some (.ref a))) H)
end
section
variable {X : Cx} {x n : Str} {c : Value} {i : Nat} {body suite : List Stmt} {b₀ : Stmt} {np pos pos' : Pos} {tb : WX → TS} {ts : Addr → Value → Option Addr → TS} {Wout : WX}
theorem ps_try_keep (hs : X.stack = X.env :: X.outer) (hf : X.env.frame = some X.env.locals) (hN : X.N.Nodup) (hi : X.N[i]? = some n) (hln : X.env.kindOf n = some .local) (hc : Names X x c) (tk : Takes X Wout) (hex : X.ex = [])
    (hb : ∀ (W : WX) (pn : List (Addr × Obj)) (xe : Value → Shared → Prop), Takes (X.tr pn xe) W → PassesOwn (model X.prog X.w) X.A X.env xe → PSs (X.tr pn xe) body (tb W))
    (hsu : ∀ (a : Addr) (oe : Obj) (cls : Value) (d : Option Addr) (pn : List (Addr × Obj)), Zc cls d oe → (∃ vs, oe.data = .fields vs) → PSs (X.suite a ((a, oe) :: pn)) (b₀ :: suite) (ts a cls d)) :
    PS X (.Try body [.ExceptHandler (some (.Name x np)) (some n) (b₀ :: suite) pos'] [] [] pos) (fun D σ H => tb (wKeep X.K c i ts Wout D) D σ H) := by
  constructor
  intro pins s σ H D I h
  have frOk : X.A.frames = some (X.env :: X.outer) := by rw [I.ok.frames, hs]
  apply wpAny_Try_except
  have run := (hb (wKeep X.K c i ts Wout D) (X.pn ++ pins) (fun e t1 => wpAny (model X.prog X.w) X.A (noteFrame e X.env) (fun _ t2 => wpAny (model X.prog X.w) X.A (setFlight e none) (fun _ t3 => wpAny (model X.prog X.w) X.A (handleBy e X.env [.ExceptHandler (some (.Name x np)) (some n) (b₀ :: suite) pos']) (SP X pins D) X.xe t3) X.xe t2) X.xe t1)
    (fun u t hx => by
      obtain ⟨a, B, sI, pins', σ1, H1, cls, d, rfl, Jt, nb, up, sky, na, os, ag, b, hm, hno, hyes⟩ := hx
      have J : Inv X pins σ1 H1 sI := Jt.ofTry I.ok
      rw [show (X.tr (X.pn ++ pins) _).stack = X.env :: X.outer from hs] at sky
      refine Sky.land Zc.steady frOk hf sky fun g fl upg => ?_
      have bn : B.get? a = none := fl.2.1
      have Jg : Inv X pins σ1 H1 { t with heap := g } := J.landed nb fl.1 (up.trans upg) os ag
      obtain ⟨oe, vs, he, hz, hd⟩ := fl.there
      have noFr : a ∉ frs (X.env :: X.outer) := fun hmem => by
        obtain ⟨_, o2, e2, hnf⟩ := fl.2.2.1.mem hmem
        rw [he] at e2
        cases e2
        exact hnf _ hd
      have noL : a ≠ X.env.locals := fun z => noFr (List.mem_filterMap.mpr ⟨X.env, List.mem_cons_self, by rw [hf, z]⟩)
      have noF : a ∉ X.fs := fun hmem => by
        obtain ⟨e, h1, h2⟩ := List.mem_filterMap.mp hmem
        exact noFr (List.mem_filterMap.mpr ⟨e, List.mem_cons_of_mem _ h1, h2⟩)
      -- new since the entry
      have nI : sI.heap.get? a = none := by
        cases q : sI.heap.get? a with
        | none => rfl
        | some o => exact absurd (nb a o q (by rw [show X.stack = X.env :: X.outer from hs]; exact noFr)) (by rw [bn]; exact fun z => nomatch z)
      have n0 : X.s_0.heap.get? a = none := by
        cases q : X.s_0.heap.get? a with
        | none => rfl
        | some o =>
          obtain ⟨o', z⟩ := J.base.there a o q (by rw [hex]; exact fun z => nomatch z)
          rw [nI] at z; cases z
      have nP : ∀ p ∈ X.pn ++ pins, p.1 ≠ a := fun p hp z => by
        have := (J.pin p hp).1
        rw [z, nI] at this; cases this
      have Sg := Jg.suite he hd na noL noF
      refine wpAny_handleBy_cons (codeAny_handlers_test ?_) (fun q => nomatch q)
      have look : PySem.W.Looks (model X.prog X.w) g (typeOf (.ref a)) cls := fun A Q E s k q => wpAny_typeOf_ref (k _ _ he) (by rw [hz.1]; exact q)
      have tst : ∀ {Q : Value → Shared → Prop} {E : Value → Shared → Prop}, Q c { t with heap := g } → wpAny (model X.prog X.w) (X.A.mark (some (.ref a))) (eval (.Name x np) X.env) Q E { t with heap := g } := fun {Q E} q => by
        obtain ⟨hg, hdb, hm | ⟨hm, hv, hnn⟩⟩ := hc
        · exact ld_glob (X := X.suite a ((a, oe) :: (X.pn ++ pins))) Sg hg hm q hdb
        · exact ld_blt (X := X.suite a ((a, oe) :: (X.pn ++ pins))) Sg hg hm hv q hnn hdb
      refine tst ((PySem.W.exm_one (M := model X.prog X.w) Jg.kIn look hm).here ?_)
      cases b with
      | true =>
        refine codeAny_handlers_suite_as (HandSPX.lands_againZ fl fun g4 fl4 up4 => ?_)
        have J4 : Inv X pins σ1 H1 { t with heap := g4 } := J.landed nb fl4.1 ((up.trans upg).trans up4) os ag
        obtain ⟨oe4, vs4, he4, hz4, hd4⟩ := fl4.there
        refine store_ok (X := X.suite a ((a, oe4) :: (X.pn ++ pins))) (v := .ref a) (J4.suite he4 hd4 na noL noF) hN hi (.inl hln) rfl (fun t5 S5 => ?_) (.inr hln)
        refine wpAny_mono ((hsu a oe4 cls d (X.pn ++ pins) hz4 ⟨_, hd4⟩).run [] t5 _ H1 _ S5 (hyes rfl a na)) (fun f t6 hsp => ?_) (fun _ _ z => z.elim)
        cases f with
        | next =>
          obtain ⟨σ6, H6, S6, q6⟩ := hsp
          have pinned : ∀ p ∈ X.pn ++ ((a, oe4) :: pins), p ∈ ((a, oe4) :: (X.pn ++ pins)) ++ [] := fun p hp => by
            rw [List.append_nil]
            rcases List.mem_append.mp hp with y | y
            · exact List.mem_cons_of_mem _ (List.mem_append_left _ y)
            · rcases List.mem_cons.mp y with w | w
              · rw [w]; exact List.mem_cons_self
              · exact List.mem_cons_of_mem _ (List.mem_append_right _ w)
          have J6 : Inv X ((a, oe4) :: pins) σ6 H6 t6 := ⟨I.ok, S6.os, S6.bare, S6.base, S6.loc, S6.cell, S6.free, S6.freeC, fun p hp => S6.pin p (pinned p hp), S6.hok, S6.len⟩
          refine gone_ok J6 hN hi hln fun t7 J7 => ?_
          have n6 : H6 a = none := (J7.pin (a, oe4) (List.mem_append_right _ List.mem_cons_self)).2.1
          exact ⟨_, _, Inv.track J7 hz4 hd4 n0 nP, q6 n6⟩
        | brk => obtain ⟨σ6, H6, S6, q6⟩ := hsp; exact q6.elim
        | cont => obtain ⟨σ6, H6, S6, q6⟩ := hsp; exact q6.elim
        | ret u => obtain ⟨v6, σ6, H6, S6, r6, q6⟩ := hsp; exact q6.elim
      | false =>
        show wpAny _ X.A (handleBy (.ref a) X.env []) _ _ _
        apply wpAny_handleBy_nil
        obtain ⟨k1, k2, k3, oe', vs', T, oT, ts', he', hz', hd', h1, hr⟩ := id fl
        unfold PySem.passOn
        refine wpAny_bind (wpAny_field he' hd' h1 ?_)
        have nn : ¬ ((Value.ref T == Value.none) = true) := by simp
        rw [if_neg nn]
        have fin : wpAny (model X.prog X.w) X.A (setFlight (.ref a) X.env.frame) (fun _ t4 => wpAny (model X.prog X.w) X.A (throw (.ref a) : Sem Flow) (SP X pins D) X.xe t4) X.xe { t with heap := g } := by
          rw [hf]
          refine HandSPX.setFlight_upZ fl fun g4 hh4 up4 => wpAny_throw (tk _ _ ?_)
          exact ⟨a, B, sI, pins, σ1, H1, cls, d, rfl, J, nb, (up.trans upg).trans up4, .inr (.inr (by rw [hs]; exact hh4)), na, os, ag, hno rfl⟩
        first
          | exact wpAny_bind (wpAny_pure (wpAny_bind fin))
          | exact wpAny_bind fin)
    PassesOwn.looking).run [] s σ H D (I.toTry _) h
  refine wpAny_mono run (fun f t hsp => ?_) (fun _ _ z => z)
  cases f with
  | next => obtain ⟨σ1, H1, J1, q⟩ := hsp; exact wpAny_execs_nil ⟨σ1, H1, J1.ofTry I.ok, q⟩
  | brk => obtain ⟨σ1, H1, J1, q⟩ := hsp; exact ⟨σ1, H1, J1.ofTry I.ok, q⟩
  | cont => obtain ⟨σ1, H1, J1, q⟩ := hsp; exact ⟨σ1, H1, J1.ofTry I.ok, q⟩
  | ret u => obtain ⟨v, σ1, H1, J1, r, q⟩ := hsp; exact ⟨v, σ1, H1, J1.ofTry I.ok, r, q⟩
end
end DL

set_option maxRecDepth 100000
set_option maxHeartbeats 4000000
/-! DLs: caught errors as slots; index and count of lists. -/
namespace DL
open PySem L2
open PyProof.Rows (envOfC)
/-- the value is a caught error of the class under the name c -/
def isEx (K : PySem.W.Frag) (c : Str) : Hp → V → Prop := fun H v => ∃ a, v = .ref a ∧ H a = some (ExI (.ref (He.ga K c)) none a)
section
variable {K : PySem.W.Frag} {C : Fc} {H : Hp} {σ : L2.St} {τ : List SV} {v : V} {f : Hp → V → Prop}
theorem own_kp_sub {i : Nat} {a : Addr} (h : a ∈ own (τ.set i (.kp f))) : a ∈ own τ := by
  rcases own_sub_set h with z | z
  · cases z
  · exact own_un_sub z
theorem Sl.setKp (S : Sl K C H σ τ) (h : ∀ H', Ex (hide (C.L0 ++ own τ) H) H' → f H' v) (i : Nat) : Sl K C H (σ.set i (some v)) (τ.set i (.kp f)) := by
  have S1 := S.set (v := .non) (d := .none) .non i
  have ex : Ex (hide (C.L0 ++ own τ) H) (hide (C.L0 ++ own (τ.set i (.kp f))) H) := hide_mono fun a ha => by
    rcases List.mem_append.mp ha with z | z
    · exact List.mem_append_left _ z
    · exact List.mem_append_right _ (own_kp_sub z)
  have eo : own (τ.set i (.kp f)) = own (τ.set i (.pu .none)) := by
    have e1 := own_set (τ := τ.set i (.pu .none)) (i := i) (sv := .kp f) (by
      by_cases hl : i < τ.length
      · rw [List.getElem?_set_self hl]; rfl
      · rw [List.getElem?_eq_none (by simpa using hl)]; rfl) rfl
    rw [List.set_set] at e1
    exact e1
  refine ⟨by rw [List.length_set, List.length_set, S.len], fun j sv e => ?_, S1.gr, fun l hl => S1.ow l (by rw [← eo]; exact hl), S1.dm, S1.mm, fun l hl => S1.nl l (by rw [← eo]; exact hl)⟩
  by_cases hj : i = j
  · subst hj
    by_cases hl : i < τ.length
    · rw [List.getElem?_set_self hl] at e
      have e2 : SV.kp f = sv := Option.some.inj e
      subst e2
      exact ⟨some v, by rw [List.getElem?_set_self (by rw [S.len]; exact hl)], v, rfl, fun H' z => h H' (ex.trans z)⟩
    · rw [List.getElem?_eq_none (by simpa using hl)] at e; cases e
  · have e' : (τ.set i (.pu .none))[j]? = some sv := by rw [List.getElem?_set_ne hj] at e ⊢; exact e
    obtain ⟨o, h1, h2⟩ := S1.sl j sv e'
    rw [List.getElem?_set_ne hj] at h1
    exact ⟨o, by rw [List.getElem?_set_ne hj]; exact h1, by rw [eo]; exact h2⟩
end
section
variable {X : Cx} {a b c e : Expr} {es : List Expr} {pos p p1 p2 p3 : Pos} {τ τ1 τ2 τ3 : List SV} {d d1 d2 d3 : PyData} {ds es' : List PyData} {x n : Str} {rest body : List Stmt} {R Rb : Out → Prop} {k : Nat} {ps : List Str}
/-- x = e, e raises -/
theorem SX.asgR {cn : Str} (i : Nat) {p' : Pos} (h1 : ER X e τ cn) (h : R (.xc cn τ)) (hN : X.N.Nodup := by assumption) (hi : X.N[i]? = some x := by rfl) (hx : Loc X.env.scope x := by first | exact Or.inl rfl | exact Or.inr rfl)
    (hs : swapsWith e (some (.Name x p')) pos.line X.env = pure false := by rfl) (hf : X.fn x = true ∨ X.env.scope.names.lookup x = some .local := by first | exact .inl rfl | exact .inr rfl) : SX X (.Assign [.Name x p'] e pos :: rest) τ R :=
  SX.seq (ps_set hN hi hx pe_self hs hf) fun C σ H D W tk S q => h1.run C σ H _ W tk S fun H' S' => q (.xc cn τ) h σ H' S'
/-- try: body / except c as n: m = n -/
theorem SX.tryKeep {cc : Str} {np pos' q1 q2 q3 : Pos} {m : Str} (i j : Nat) (hij : i ≠ j)
    (hb : ∀ (pn : List (Addr × Obj)) (xe : Value → Shared → Prop), PassesOwn (model X.prog X.w) X.A X.env xe → SX (X.tr pn xe) body τ Rb)
    (hnx : ∀ τ', Rb (.nx τ') → SX X rest τ' R) (hrt : ∀ d τ', Rb (.rt d τ') → R (.rt d τ')) (hbk : ∀ τ', ¬ Rb (.bk τ')) (hct : ∀ τ', ¬ Rb (.ct τ'))
    (hxc : ∀ cn τ', Rb (.xc cn τ') → PySem.W.exmOne X.K (.ref (He.ga X.K cn)) (.ref (He.ga X.K cc)) = some true ∧ i < τ'.length ∧ SX X rest ((τ'.set j (.kp (isEx X.K cn))).set i .un) R)
    (hmg : X.mg cc = some (.ref (He.ga X.K cc))) (hs : X.stack = X.env :: X.outer := by rfl) (hf : X.env.frame = some X.env.locals := by rfl) (hex : X.ex = [] := by rfl) (hN : X.N.Nodup := by assumption) (hi : X.N[i]? = some n := by rfl) (hj : X.N[j]? = some m := by rfl) (hln : X.env.kindOf n = some .local := by rfl) (hlm : Loc X.env.scope m := by first | exact Or.inl rfl | exact Or.inr rfl)
    (hg : Gl X cc := by rfl) (hdb : (cc == ("__debug__" : Str)) = false := by decide) (hd1 : (n == ("__debug__" : Str)) = false := by decide) (hd2 : (n == ("__classdict__" : Str)) = false := by decide)
    (hsw : ∀ a pn, swapsWith (.Name n q1) (some (.Name m q2)) q3.line (X.suite a pn).env = pure false := by intro _ _; rfl) (hfm : X.fn m = true ∨ X.env.scope.names.lookup m = some .local := by first | exact .inl rfl | exact .inr rfl) (hrk : ∀ ds τ', Rb (.rk ds τ') → R (.rk ds τ') := by intro _ _ z; first | exact False.elim z | cases z) (hro : ∀ i τ', Rb (.ro i τ') → R (.ro i τ') := by intro _ _ z; first | exact False.elim z | cases z) :
    SX X (.Try body [.ExceptHandler (some (.Name cc np)) (some n) [.Assign [.Name m q2] (.Name n q1) q3] pos'] [] [] pos :: rest) τ R := by
  refine SX.mk fun C σ H D W tk S kk => ?_
  refine WSs.of (pss_cons (ps_try_keep (i := i) (tb := fun W D σ H => ∀ (pn : List (Addr × Obj)) (xe : Value → Shared → Prop), Takes (X.tr pn xe) W → PassesOwn (model X.prog X.w) X.A X.env xe → WSs (X.tr pn xe) body D σ H)
    (ts := fun _ _ _ => tAsg (tVar i) (gName j)) hs hf hN hi hln ⟨hg, hdb, .inl hmg⟩ tk hex (fun W pn xe t po => ⟨fun pins s σ' H' D' I h => h pn xe t po pins s I⟩)
    (fun a oe cls d pn hz hfl => pss_one (ps_set (X := X.suite a ((a, oe) :: pn)) hN hj hlm (pe_var (X := X.suite a ((a, oe) :: pn)) hi (.inl hln) hd1 hd2) (hsw a _) hfm))) (pss_self (sts := rest))) ?_
  intro pn xe t po
  refine (hb pn xe po).run C σ H _ _ t S fun o ho => ?_
  cases o with
  | nx τ' => exact fun σ' H' S' => (hnx τ' ho).run C σ' H' D W tk S' kk
  | rt d τ' => exact fun σ' v H' S' pv => kk (.rt d τ') (hrt d τ' ho) σ' v H' S' pv
  | rk d τ' => exact fun σ' v H' S' pv => kk (.rk d τ') (hrk d τ' ho) σ' v H' S' pv
  | ro d τ' => exact fun σ' v H' S' pv => kk (.ro d τ') (hro d τ' ho) σ' v H' S' pv
  | bk τ' => exact absurd ho (hbk τ')
  | ct τ' => exact absurd ho (hct τ')
  | xc cn τ' =>
    intro σ' H' S'
    obtain ⟨hm, hil, hr⟩ := hxc cn τ' ho
    rw [← S'.len] at hil
    refine ⟨true, hm, (fun z => nomatch z), fun _ a na => ?_⟩
    refine ⟨.ref a, by rw [List.getElem?_set_self hil], fun n6 => ?_⟩
    have S2 := S'.ex (Ex.new (o := ExI (.ref (He.ga X.K cn)) none a) na)
    have fr : a ∉ C.L0 ++ own τ' := S'.dom.fresh na
    have S3 := S2.setKp (v := .ref a) (f := isEx X.K cn) (fun H2 z => ⟨a, rfl, z a _ (by rw [hide_out fr]; exact upd_same)⟩) j
    have S4 := S3.drop1 i
    have es : ((σ'.set i (some (V.ref a))).set j (some (.ref a))).set i none = (σ'.set j (some (.ref a))).set i none := by
      rw [List.set_comm _ _ hij, List.set_set]
    rw [es]
    exact hr.run C _ _ D W tk S4 kk
/-- x is None, of a caught error -/
theorem EC.isNE {cn : Str} (i : Nat) (hk : τ[i]? = some (.kp (isEx X.K cn)) := by rfl) (hN : X.N[i]? = some x := by rfl) (hv : Vis X.env.scope x := by first | exact Or.inl rfl | exact Or.inr (Or.inl rfl) | exact Or.inr (Or.inr rfl)) (hd : (x == ("__debug__" : Str)) = false := by decide) (hcd : (x == ("__classdict__" : Str)) = false := by decide)
    (h2 : EV X b τ .none τ1) (hm : behindInMarks .Is b = false := by first | exact nomark _ | rfl) : EC X .Is (.Name x p) b τ false τ1 :=
  ⟨h2.ow, hm, _, op_isN, fun C σ H Q S q => by
    obtain ⟨o, h3, v, h4, h5⟩ := S.sl i _ hk
    subst h4
    obtain ⟨a, ea, _⟩ := h5 _ (Ex.refl _)
    subst ea
    refine WE.of (pe_var hN hv hd hcd) ⟨.ref a, h3, ?_⟩
    refine h2.run C σ H _ S fun w H' g S' pw => ?_
    cases pw
    refine ⟨rfl, ?_⟩
    have : decide (V.ref a = V.non) = false := by simp
    rw [this]
    exact q H' g S'⟩
/-- the promise of a def that takes a caught error -/
def spE (K : PySem.W.Frag) (R : Str → PyData → Prop) : Sp := fun vs H Q E => ∃ (L : List Addr) (a : Addr) (c : Str) (d : PyData), Dom L H ∧ vs = [.ref a] ∧ hide L H a = some (ExI (.ref (He.ga K c)) none a) ∧ R c d ∧ ∀ v H', Ex H H' → Dp K (hide L H') v d → Q v H'
theorem EV.callE {R : Str → PyData → Prop} {cn y : Str} (i : Nat) (F : Cal X.prog X.w X.K X.mg X.base k x ps (spE X.K R)) (hr : Room k X.A) (hR : R cn d) (hk : τ[i]? = some (.kp (isEx X.K cn)) := by rfl) (hN : X.N[i]? = some y := by rfl) (hv : Vis X.env.scope y := by first | exact Or.inl rfl | exact Or.inr (Or.inl rfl) | exact Or.inr (Or.inr rfl)) (hd1 : (y == ("__debug__" : Str)) = false := by decide) (hd2 : (y == ("__classdict__" : Str)) = false := by decide)
    (hg : Gl X x := by rfl) (hdb : (x == ("__debug__" : Str)) = false := by decide) (he : starEach [.Name y p1] X.env = (false, eval (.Name y p1) X.env) :: starEach [] X.env := by rfl) (hpl : (backTo pos (starEach [] X.env)).any (·.1) = false := by rfl) :
    EV X (.Call (.Name x p) [.Name y p1] [] pos) τ d τ := by
  obtain ⟨f, fd, hm, hkp, hb, G⟩ := F.ex
  refine ⟨rfl, fun C σ H Q S q => WE.of (pe_call G hr hg hm hkp hb .nil passL (pa_cons (pe_var hN hv hd1 hd2) pa_nil he) hdb he hpl) ?_⟩
  obtain ⟨o, h3, v, h4, h5⟩ := S.sl i _ hk
  subst h4
  obtain ⟨a, ea, h6⟩ := h5 _ (Ex.refl _)
  subst ea
  exact ⟨.ref a, h3, C.L0 ++ own τ, a, cn, d, S.dom, rfl, h6, hR, fun w H' ex pw => q w H' (Gw.of ex) (S.ex ex) pw⟩
/-- isinstance(caught, own class or built-in type) -/
def rIsX (K : PySem.W.Frag) : List V → Hp → VK → Prop := fun xs H Q => ∃ (a D : Addr) (c : V) (cv : Value) (b : Bool), xs = [.ref a, c] ∧ (∀ u, RelV c u → u = cv) ∧ ExcC K D ∧ H a = some (ExI (.ref D) none a) ∧ PySem.W.kitOne K (.ref D) cv = some b ∧ Q (.bl b) H
theorem call_isX : CallR X (.builtin "isinstance") (rIsX X.K) := by
  intro pins s σ H xs us Q I r h
  obtain ⟨a, D, c, cv, b, rfl, hcv, C, ha, e, q⟩ := h
  obtain ⟨u1, u2, rfl, r1, r2⟩ := vals2 r
  cases (show u1 = Value.ref a from r1)
  have ec := hcv _ r2
  subst ec
  obtain ⟨⟨oe, vs, hget, hz, hv⟩, _, _⟩ := I.hok a _ ha
  have J : PySem.W.InstAt s.heap a oe D none := by
    obtain ⟨oc, od, oda, osl⟩ := oe
    obtain ⟨w1, w2⟩ := hz
    dsimp only at w1 w2 hv
    subst w1 w2 hv
    exact ⟨hget, rfl, rfl, trivial⟩
  exact PySem.W.kia_one (PySem.W.handS_kitx_exc C.hg C.hk C.hs C.hd C.ha C.hn C.ht C.hm) I.kIn J e (fun z => nomatch z) fun tk => ⟨.bl b, H, I.tok tk, rfl, q⟩
theorem EV.isiX {cn y T : Str} {cv : Value} {vv : V} {kb : Bool} (i : Nat) (hm : X.mg "isinstance" = none) (E : ExcC X.K (He.ga X.K cn)) (hkit : PySem.W.kitOne X.K (.ref (He.ga X.K cn)) cv = some kb) (hT : PE X (.Name T p2) (tC vv)) (hvv : ∀ u, RelV vv u → u = cv)
    (hk : τ[i]? = some (.kp (isEx X.K cn)) := by rfl) (hN : X.N[i]? = some y := by rfl) (hv : Vis X.env.scope y := by first | exact Or.inl rfl | exact Or.inr (Or.inl rfl) | exact Or.inr (Or.inr rfl)) (hd1 : (y == ("__debug__" : Str)) = false := by decide) (hd2 : (y == ("__classdict__" : Str)) = false := by decide)
    (hg : Gl X "isinstance" := by rfl) (he : starEach [.Name y p1, .Name T p2] X.env = (false, eval (.Name y p1) X.env) :: starEach [.Name T p2] X.env := by rfl) (he2 : starEach [.Name T p2] X.env = (false, eval (.Name T p2) X.env) :: starEach [] X.env := by rfl) (hpl : (backTo pos (starEach [.Name T p2] X.env)).any (·.1) = false := by rfl) :
    EV X (.Call (.Name "isinstance" p) [.Name y p1, .Name T p2] [] pos) τ (.bool kb) τ := by
  refine ⟨rfl, fun C σ H Q S q => WE.of (pe_callB call_isX hg hm (by decide +kernel) (pa_cons (pe_var hN hv hd1 hd2) (pa_cons hT pa_nil he2) he) (by decide) (by decide) he hpl) ?_⟩
  obtain ⟨o, h3, v, h4, h5⟩ := S.sl i _ hk
  subst h4
  obtain ⟨a, ea, h6⟩ := h5 H (hide_ex _ _)
  subst ea
  exact ⟨.ref a, h3, a, He.ga X.K cn, vv, cv, kb, rfl, hvv, E, h6, hkit, q _ H (Gw.refl _ _) S (.bl _)⟩
theorem EV.isiC {cn y T : Str} {kb : Bool} (i : Nat) (hm : X.mg "isinstance" = none) (E : ExcC X.K (He.ga X.K cn)) (hkit : PySem.W.kitOne X.K (.ref (He.ga X.K cn)) (.ref (He.ga X.K T)) = some kb) (hT : X.mg T = some (.ref (He.ga X.K T)))
    (hk : τ[i]? = some (.kp (isEx X.K cn)) := by rfl) (hN : X.N[i]? = some y := by rfl) (hv : Vis X.env.scope y := by first | exact Or.inl rfl | exact Or.inr (Or.inl rfl) | exact Or.inr (Or.inr rfl)) (hd1 : (y == ("__debug__" : Str)) = false := by decide) (hd2 : (y == ("__classdict__" : Str)) = false := by decide)
    (hg : Gl X "isinstance" := by rfl) (hg2 : Gl X T := by rfl) (hd3 : (T == ("__debug__" : Str)) = false := by decide) (he : starEach [.Name y p1, .Name T p2] X.env = (false, eval (.Name y p1) X.env) :: starEach [.Name T p2] X.env := by rfl) (he2 : starEach [.Name T p2] X.env = (false, eval (.Name T p2) X.env) :: starEach [] X.env := by rfl) (hpl : (backTo pos (starEach [.Name T p2] X.env)).any (·.1) = false := by rfl) :
    EV X (.Call (.Name "isinstance" p) [.Name y p1, .Name T p2] [] pos) τ (.bool kb) τ :=
  EV.isiX i hm E hkit (pe_glob (v := .ref (He.ga X.K T)) hg2 hT rfl hd3) (fun u r => r) hk hN hv hd1 hd2 hg he he2 hpl
theorem Sh.str {x : Str} (h : PyData.strOk x = true) : Sh 0 (.str x) := ⟨by simp only [PyData.canLay0]; exact h, Nat.le_refl _⟩
theorem eqv_str (x y : Str) : PyData.eqv (.str x) (.str y) = decide (x = y) := by
  rw [Bool.eq_iff_iff]; simp [PyData.eqv]
/-- xs.index(y), data -/
theorem EV.ixD {ds : List PyData} {y z : PyData} {j : Nat} {ap : Pos} (hu : X.A.units + 65 < cLine) (h1 : EV X a τ (.list ds) τ1) (h2 : EV X b τ1 y τ2) (s1 : SeqAt.shaped (.list ds) = true) (s2 : SeqAt.shaped y = true) (hj : ds[j]? = some z) (hz : PyData.eqv z y = true) (hno : ∀ (m : Nat) (z' : PyData), m < j → ds[m]? = some z' → PyData.eqv z' y = false)
    (hbase : attributeBase a "index" X.env (eval a X.env) = eval a X.env := by rfl)
    (hfew : ((backTo pos (starEach [b] X.env)).all (fun x => !x.1) && (backToKw pos (keywordEach [] X.env)).all (fun x => x.1.isSome) && decide ([b].length + ([] : List Keyword).length + (if ([] : List Keyword).isEmpty then 0 else 1) < 30)) = true := by rfl)
    (hline : (ap.endLine == pos.line) = true := by rfl) (hst : starEach [b] X.env = (false, eval b X.env) :: starEach [] X.env := by rfl) :
    EV X (.Call (.Attribute a "index" ap) [b] [] pos) τ (.int (j : Nat)) τ2 :=
  ⟨h2.ow.trans h1.ow, fun C σ H Q S q => WE.of (pe_bm PySem.F.plainAttrs_list PySem.F.slot_list_index PySem.F.type_list_index (mt_indexD hu) pe_self (pa_cons pe_self pa_nil hst) hbase hfew hline hst rfl) (h1.run C σ H _ S fun v H1 g1 S1 q1 => by
    cases q1 with
    | @lst l xs _ w1 w2 =>
      refine ⟨.inl ⟨rfl, xs, sq_ex (hide_ex _ _) w1⟩, ?_⟩
      refine h2.run C σ H1 _ S1 fun u H2 g2 S2 q2 => ?_
      have d1 : Dp X.K H2 (.ref l) (.list ds) := Dp.ex (hide_ex _ _) (keep_dp (L0 := C.L0) h2.ow g2 (Dp.lst w1 w2))
      exact ⟨l, u, y, ds, j, z, rfl, rfl, d1, Dp.ex (hide_ex _ _) q2, s1, s2, hj, hz, hno, q _ H2 (g1.trans (h1.ow ▸ g2)) S2 (.int _)⟩)⟩
/-- xs.count(b), bools -/
def rCntB (K : PySem.W.Frag) : V → List V → Hp → VK → Prop := fun x xs H Q => ∃ (p : Addr) (bs : List Bool) (k : Bool), x = .ref p ∧ xs = [.bl k] ∧ SqL K H p (bs.map V.bl) ∧ Q (.int (bs.count k : Nat)) H
theorem vals_bl : ∀ {bs : List Bool} {us : List Value}, Vals (bs.map V.bl) us → us = bs.map Value.bool
  | [], _, .nil => rfl
  | b :: bs, _, .cons r t => by
    cases r
    rw [vals_bl t] <;> rfl
theorem cnt_bl (k : Bool) : ∀ bs : List Bool, (bs.map Value.bool).countP (PyProof.Rows.isBoolOf k) = bs.count k
  | [] => rfl
  | b :: bs => by
    rw [List.map_cons, List.countP_cons, List.count_cons, cnt_bl k bs]
    rfl
theorem mt_cntB : MtR X "list.count" (rCntB X.K) := by
  intro pins s σ H x xs v us Q I rx rxs h
  obtain ⟨p, bs, k, rfl, rfl, hs, q⟩ := h
  cases rx
  obtain ⟨u, rfl, ru⟩ := rxs.one
  cases ru
  obtain ⟨its, rv, ⟨⟨cls, dd, data, sl⟩, n, ho, hc, hdn, hd⟩, hlen⟩ := I.list hs
  simp only at hc hd
  subst hc hd
  have e := vals_bl rv
  subst e
  refine PySem.call_meets PySem.F.slot_list_count ⟨_, ho, rfl⟩ PySem.F.entry_list_count (PySem.F.args_list_count_2 _ _)
    (SeqAt.list_countAt p (bs.map Value.bool).toArray n dd sl (.bool k) (PyProof.Rows.isBoolOf k)) ⟨ho, fun y hy => ?_, ?_⟩
  · obtain ⟨b, _, rfl⟩ := List.mem_map.mp (by simpa using hy : y ∈ bs.map Value.bool)
    exact SeqAt.EqAt.bool_bool b k
  · rw [show (bs.map Value.bool).toArray.toList = bs.map Value.bool from rfl, cnt_bl]
    exact ⟨.int _, H, I.tok _, ⟨_, rfl⟩, q⟩
theorem EV.cntB {bs : List Bool} {k : Bool} {ap : Pos} (h1 : EV X a τ (.list (bs.map PyData.bool)) τ1) (h2 : EV X b τ1 (.bool k) τ2)
    (hbase : attributeBase a "count" X.env (eval a X.env) = eval a X.env := by rfl)
    (hfew : ((backTo pos (starEach [b] X.env)).all (fun x => !x.1) && (backToKw pos (keywordEach [] X.env)).all (fun x => x.1.isSome) && decide ([b].length + ([] : List Keyword).length + (if ([] : List Keyword).isEmpty then 0 else 1) < 30)) = true := by rfl)
    (hline : (ap.endLine == pos.line) = true := by rfl) (hst : starEach [b] X.env = (false, eval b X.env) :: starEach [] X.env := by rfl) :
    EV X (.Call (.Attribute a "count" ap) [b] [] pos) τ (.int (bs.count k : Nat)) τ2 :=
  ⟨h2.ow.trans h1.ow, fun C σ H Q S q => WE.of (pe_bm PySem.F.plainAttrs_list PySem.F.slot_list_count PySem.F.type_list_count mt_cntB pe_self (pa_cons pe_self pa_nil hst) hbase hfew hline hst rfl) (h1.run C σ H _ S fun v H1 g1 S1 q1 => by
    cases q1 with
    | @lst l xs _ w1 w2 =>
      have e := dp_bools w2
      subst e
      refine ⟨.inl ⟨rfl, _, sq_ex (hide_ex _ _) w1⟩, ?_⟩
      refine h2.run C σ H1 _ S1 fun u H2 g2 S2 q2 => ?_
      cases q2
      have d1 : Dp X.K H2 (.ref l) (.list (bs.map PyData.bool)) := Dp.ex (hide_ex _ _) (keep_dp (L0 := C.L0) h2.ow g2 (Dp.lst w1 w2))
      cases d1 with
      | lst w3 w4 =>
        have e := dp_bools w4
        subst e
        exact ⟨l, bs, k, rfl, rfl, w3, q _ H2 (g1.trans (h1.ow ▸ g2)) S2 (.int _)⟩)⟩
end
end DL

set_option maxRecDepth 100000
set_option maxHeartbeats 4000000
/-! DLt: defs that take a caught error; the head's facts about error classes. -/
namespace DL
open PySem L2
open PyProof.Rows (envOfC)
section
variable {P : Program} {w : World} {K : PySem.W.Frag} {mg : Str → Option Value} {base : Heap}
theorem Def.calE {x : Str} {st : Stmt} {N ps : List Str} {k : Nat} {R : Str → PyData → Prop} (D : Def K mg x st) (S : FnScope N ps (defScope st))
    (hbind : ∀ (dV kV doc pm : Value) (an : Option Addr) (cdv ct : Value) (us : List Value), us.length = ps.length → bindArgs (PySem.W.fnOf x x (defArgs st) (defBody st) (defScope st) .none kV doc pm an cdv ct) ⟨us, []⟩ = pure (ps.zip us)) (h1 : ps.length = 1)
    (hb : ∀ (f : Addr) (cdv : Value) (A : Around) (outer : List Env) (s : Shared) (H : Hp) (E : XK) (c : Str) (d : PyData), Room k (A.deeper (envOfC x (defScope st) s.heap.objs.size f cdv)) → R c d →
      SX (cxOf (L2.CX P w) P w K mg base N x (defScope st) f cdv A outer s H E) (defBody st) (.kp (isEx K c) :: List.replicate (N.length - 1) SV.un) (ret d)) :
    Cal P w K mg base (k + 1) x ps (spE K R) := by
  obtain ⟨fd, F⟩ := D.fd
  have hpl : ps.length ≤ N.length := by have := congrArg List.length S.pre; rw [List.length_take] at this; omega
  refine ⟨_, fd, D.gl, F.kp, F.bindsN fun kV doc pm an cdv ct us hl => hbind .none kV doc pm an cdv ct us hl, F.ok S (fun vs H Q E h => ?_) (fun cdv A outer s H vs Q E hr h => ?_)⟩
  · obtain ⟨L, a, c, d, dm, rfl, ha, hR, _⟩ := h
    exact h1.symm
  · obtain ⟨L, a, c, d, dm, rfl, ha, hR, q⟩ := h
    have S0 := sl_start (K := K) (ps := ps) (N := N) (vs := [.non]) (ds := [.none]) dm (.cons .non .nil) (by show 1 ≤ N.length; omega)
    have no : own (([PyData.none].map SV.pu) ++ List.replicate (N.length - 1) SV.un) = [] := by
      unfold own
      rw [List.flatMap_eq_nil_iff]
      intro sv hsv
      rcases List.mem_append.mp hsv with z | z
      · have : sv = .pu .none := by simpa using z
        rw [this]; rfl
      · rw [(List.mem_replicate.mp z).2]; rfl
    have S1 := S0.setKp (v := .ref a) (f := isEx K c) (fun H' z => ⟨a, rfl, z a _ (by
      show hide (L ++ own _) H a = _
      rw [show own (([PyData.none].map SV.pu) ++ List.replicate (N.length - [PyData.none].length) SV.un) = [] from no, List.append_nil]; exact ha)⟩) 0
    have es : (L2.start N [V.non]).set 0 (some (.ref a)) = L2.start N [V.ref a] := rfl
    rw [es] at S1
    refine ⟨_, pss_self, (hb _ cdv A outer s H E c d hr hR).run ⟨L, [], H⟩ _ H _ (fun cls d _ H => E cls d H) (takes_of rfl rfl rfl rfl) S1 fun o ho => ?_⟩
    have hEx : ∀ {σ' : L2.St} {τ' : List SV} {H' : Hp}, Sl K ⟨L, [], H⟩ H' σ' τ' → Ex H H' := fun S' a u e => S'.gr a u (fun z => nomatch z) e
    cases o with
    | rt d' τ' =>
      have e : d' = d := ho
      subst e
      exact fun σ' v H' S' p' => q v H' (hEx S') (Dp.ex (hide_mono fun a z => List.mem_append_left _ z) p')
    | nx τ' =>
      have e : d = .none := ho
      subst e
      exact fun σ' H' S' => q .non H' (hEx S') .non
    | bk τ' => exact False.elim ho
    | ct τ' => exact False.elim ho
    | xc c' τ' => exact False.elim ho
    | rk d' τ' => exact False.elim ho
    | ro i' τ' => exact False.elim ho
end
/-! ### error classes, as the head finds them -/
def excB (K : PySem.W.Frag) (c : Str) : Bool :=
  decide (PySem.W.findIn K (.ref (He.ga K c)) "__getattribute__" = some (some (.builtin "BaseException.__getattribute__"))) &&
  (decide (PySem.W.findIn K (.ref (He.ga K c)) "__getattr__" = some none) &&
  (decide (PySem.W.subIn K (.ref (He.ga K c)) (.type "BaseException") = some true) &&
  (PySem.W.hasDictIn K (He.ga K c) &&
  (decide (PySem.W.findIn K (.ref (He.ga K c)) "__class__" = some (some (.builtin "object.__class__"))) &&
  (decide (PySem.W.specialIn K (.builtin "object.__class__") "__get__" = some (some (.builtin "getset_descriptor.__get__"))) &&
  (decide (PySem.W.takesIn K (.builtin "object.__class__") = some true) &&
  decide (PySem.W.mroIn K (He.ga K c) (.type "object") = some true)))))))
theorem excB_ok {K : PySem.W.Frag} {c : Str} (h : excB K c = true) : ExcC K (He.ga K c) := by
  simp only [excB, Bool.and_eq_true, decide_eq_true_eq] at h
  obtain ⟨h1, h2, h3, h4, h5, h6, h7, h8⟩ := h
  exact ⟨h1, h2, h3, h4, h5, h6, h7, h8⟩
/-- all of these classes: each is just itself, a ValueError, caught by the root -/
def excsB (root : Str) (cs : List Str) (K : PySem.W.Frag) : Bool := cs.all fun c => excB K c && (decide (PySem.W.exmOne K (.ref (He.ga K c)) (.ref (He.ga K root)) = some true) && (decide (PySem.W.kitOne K (.ref (He.ga K c)) (.type "ValueError") = some true) && cs.all fun c' => decide (PySem.W.kitOne K (.ref (He.ga K c)) (.ref (He.ga K c')) = some (decide (c = c')))))
structure Excs (K : PySem.W.Frag) (root : Str) (cs : List Str) : Prop where
  c : ∀ c, c ∈ cs → ExcC K (He.ga K c)
  m : ∀ c, c ∈ cs → PySem.W.exmOne K (.ref (He.ga K c)) (.ref (He.ga K root)) = some true
  v : ∀ c, c ∈ cs → PySem.W.kitOne K (.ref (He.ga K c)) (.type "ValueError") = some true
  k : ∀ c c', c ∈ cs → c' ∈ cs → PySem.W.kitOne K (.ref (He.ga K c)) (.ref (He.ga K c')) = some (decide (c = c'))
theorem excsB_ok {K : PySem.W.Frag} {root : Str} {cs : List Str} (h : excsB root cs K = true) : Excs K root cs := by
  have g : ∀ c, c ∈ cs → excB K c = true ∧ PySem.W.exmOne K (.ref (He.ga K c)) (.ref (He.ga K root)) = some true ∧ PySem.W.kitOne K (.ref (He.ga K c)) (.type "ValueError") = some true ∧ ∀ c', c' ∈ cs → PySem.W.kitOne K (.ref (He.ga K c)) (.ref (He.ga K c')) = some (decide (c = c')) := fun c hc => by
    have := List.all_eq_true.mp h c hc
    simp only [Bool.and_eq_true, decide_eq_true_eq, List.all_eq_true] at this
    exact ⟨this.1, this.2.1, this.2.2.1, this.2.2.2⟩
  exact ⟨fun c hc => excB_ok (g c hc).1, fun c hc => (g c hc).2.1, fun c hc => (g c hc).2.2.1, fun c c' hc hc' => (g c hc).2.2.2 c' hc'⟩
/-- the head's hook, with a further look at the fragment -/
def hookE (n : Nat) (fa : List He.Fa) (fn : List He.DefD) (ex : PySem.W.Frag → Bool) : PySem.W.Hook where
  α := He.AlD × Bool
  obs := fun s => (He.obsDG n fa fn s.heap.get?, ex (He.frG s.heap.get? (He.asD s.heap.get? n)))
  val := fun _ => (He.valD fn, true)
  says := fun _ h => ∃ K : PySem.W.Frag, K.In h ∧ (He.SaysD fa fn K ∧ ex K = true)
  of := fun _ _ e => ⟨_, He.frG_in, congrArg Prod.fst e, congrArg Prod.snd e⟩
  keeps := fun _ _ _ ⟨K, hK, c⟩ k => ⟨K, PySem.W.Frag.In.keeps hK k, c⟩
theorem hookE_eq {n : Nat} {fa : List He.Fa} {fn : List He.DefD} {ex : PySem.W.Frag → Bool} {g : Addr → Option Obj} {s : Shared} (h : ∀ a, g a = s.heap.get? a) : (He.obsDG n fa fn g, ex (He.frG g (He.asD g n))) = (hookE n fa fn ex).obs s := by
  have e : g = s.heap.get? := funext h
  rw [e] <;> rfl
end DL

set_option maxRecDepth 100000
set_option maxHeartbeats 2000000
/-! DLu: range downwards, pairs that are tested. -/
namespace DL
open PySem L2
def rngD (lo : Int) (n : Nat) : List Int := (List.range n).map fun (i : Nat) => lo + (i : Int) * (-1)
theorem rngD_len (lo : Int) (n : Nat) : (rngD lo n).length = n := by unfold rngD; simp
theorem rngD_get {lo : Int} {n i : Nat} (h : i < n) : (rngD lo n)[i]? = some (lo + (i : Int) * (-1)) := by unfold rngD; simp [h]
theorem wk_rangeD {K : PySem.W.Frag} {C : Fc} {τ : List SV} {H1 : Hp} {lo : Int} {n : Nat} : Wk K C τ H1 (Itc lo (-1) n) ((rngD lo n).map PyData.int) := by
  refine ⟨fun _ => True, YFn fun i => .int (lo + (i : Nat) * (-1)), by rw [List.length_map, rngD_len]; exact walk_rangeC, fun _ _ => trivial, ?_⟩
  rintro i d H2 x H3 L hd g ⟨rfl, rfl⟩ hL dm
  refine ⟨Ex.refl _, ?_⟩
  have hi : i < n := by
    have := (List.getElem?_eq_some_iff.mp hd).1
    rw [List.length_map, rngD_len] at this; exact this
  rw [List.getElem?_map, rngD_get hi] at hd
  have e : PyData.int (lo + i * (-1)) = d := Option.some.inj hd
  rw [← e]; exact .int _
section
variable {X : Cx} {a b c e tg : Expr} {es : List Expr} {pos p p1 p2 : Pos} {τ τ1 τ2 τ3 : List SV} {d d1 d2 d3 : PyData} {ds es' : List PyData}
/-- range(a, b, -1) -/
theorem EVI.rangeD {i j : Int} (hm : X.mg "range" = none) (h : EV X a τ (.int i) τ1) (h' : EV X b τ1 (.int j) τ2) (h3 : EV X c τ2 (.int (-1)) τ3) (hb : -(2 ^ 62) ≤ i ∧ i < 2 ^ 62 ∧ -(2 ^ 62) ≤ j ∧ j < 2 ^ 62) (hg : Gl X "range" := by rfl)
    (hs : starEach [a, b, c] X.env = (false, eval a X.env) :: starEach [b, c] X.env := by rfl) (hs2 : starEach [b, c] X.env = (false, eval b X.env) :: starEach [c] X.env := by rfl) (hs3 : starEach [c] X.env = (false, eval c X.env) :: starEach [] X.env := by rfl) (hpl : (backTo pos (starEach [b, c] X.env)).any (·.1) = false := by rfl) :
    EVI X tg (.Call (.Name "range" p) [a, b, c] [] pos) τ ((rngD i (i - j).toNat).map PyData.int) τ3 := ⟨h3.ow.trans (h'.ow.trans h.ow), _, pi_range3 hg hm (pa_cons pe_self (pa_cons pe_self (pa_cons pe_self pa_nil hs3) hs2) hs) hs hpl, fun C σ H R S q => h.run C σ H _ S fun v H1 g1 S1 p1 => h'.run C σ H1 _ S1 fun v2 H2 g2 S2 p2 => h3.run C σ H2 _ S2 fun v3 H3 g3 S3 p3 => by
  cases p1; cases p2; cases p3; exact ⟨i, j, -1, _, rfl, RgC.neg hb.1 hb.2.1 hb.2.2.1 hb.2.2.2, q _ H3 (g1.trans (h.ow ▸ g2.trans (h'.ow ▸ g3))) S3 wk_rangeD⟩⟩
theorem LC.pairFlt {elt : Expr} {tg iter : Expr} {scope : Scope} {α : Type} {xs : List α} {ea eb : α → PyData} {f : α → PyData} {p : α → Bool} (i j : Nat) (na nb : Str) (hij : i ≠ j) (hi : EVI X tg iter τ (xs.map fun x => .tuple [ea x, eb x]) τ1)
    (hT : ∀ x, x ∈ xs → InBlk X scope fun X' => ET X' c ((τ1.set i (.pu (ea x))).set j (.pu (eb x))) (p x) ((τ1.set i (.pu (ea x))).set j (.pu (eb x))))
    (hE : ∀ x, x ∈ xs → p x = true → InBlk X scope fun X' => EV X' elt ((τ1.set i (.pu (ea x))).set j (.pu (eb x))) (f x) ((τ1.set i (.pu (ea x))).set j (.pu (eb x)))) (hz : xs.length < sizeLine) (ok : BlkOk X.N X.env.scope scope [(na, i), (nb, j)] := by exact blkOk_by (by kernel_rfl))
    (hg : InBlk X scope fun X' => PG X' tg (gTup X.K 2 (gCons (gName i) (gCons (gName j) gNil))) := by exact fun _ _ _ _ _ => pg_tup rfl (pgs_cons (pg_name (by assumption) rfl (by first | exact Or.inl rfl | exact Or.inr rfl)) (pgs_cons (pg_name (by assumption) rfl (by first | exact Or.inl rfl | exact Or.inr rfl)) pgs_nil))) (no : nOw τ1[i]? = true := by rfl) (no2 : nOw τ1[j]? = true := by rfl) :
    LC X elt tg iter [c] scope [(na, i), (nb, j)] τ ((xs.filter p).map f) τ1 := LC.pair (ifs := [c]) i j na nb hij hi hT hE hz ok hg no no2 (Nat.le_refl 1)
theorem ER.ifT {cn : Str} (h : ET X c τ true τ) (h1 : ER X a τ cn) : ER X (.IfExp c a b pos) τ cn := ⟨fun C σ H Q W tk S q => WE.of (pe_ifExp pt_self pe_self (tb := WE X b) pe_self) (h.run C σ H _ S fun H1 g S1 => iteT (h1.run C σ H1 Q W tk S1 q))⟩
theorem ER.ifF {cn : Str} (h : ET X c τ false τ) (h1 : ER X b τ cn) : ER X (.IfExp c a b pos) τ cn := ⟨fun C σ H Q W tk S q => WE.of (pe_ifExp pt_self (ta := WE X a) pe_self pe_self) (h.run C σ H _ S fun H1 g S1 => iteF (h1.run C σ H1 Q W tk S1 q))⟩
section
variable {α : Type} {f : α → PyData} {xs ys : List α} {y : α}
theorem EV.lenLE (hm : X.mg "len" = none) (h : EV X a τ (DL.lst f xs) τ1) (hg : Gl X "len" := by rfl) (he : starEach [a] X.env = (false, eval a X.env) :: starEach [] X.env := by rfl) : EV X (.Call (.Name "len" p) [a] [] pos) τ (.int xs.length) τ1 := (EV.lenL hm h hg he).is (by rw [List.length_map])
theorem EV.lenTE (hm : X.mg "len" = none) (h : EV X a τ (DL.tup f xs) τ1) (hg : Gl X "len" := by rfl) (he : starEach [a] X.env = (false, eval a X.env) :: starEach [] X.env := by rfl) : EV X (.Call (.Name "len" p) [a] [] pos) τ (.int xs.length) τ1 := (EV.lenT hm h hg he).is (by rw [List.length_map])
theorem EV.catTE (h1 : EV X a τ (DL.tup f xs) τ1) (h2 : EV X b τ1 (DL.tup f ys) τ2) (hz : xs.length + ys.length ≤ sizeLine) : EV X (.BinOp a .Add b pos) τ (DL.tup f (xs ++ ys)) τ2 := (EV.catT h1 h2 (by rw [List.length_map, List.length_map]; exact hz)).is (by rw [← List.map_append])
/-- xs + (y,) -/
theorem EV.snocT {kt : Nat} (h1 : EV X a τ (DL.tup f xs) τ1) (h2 : EV X b τ1 (f y) τ2) (hz : xs.length + 1 ≤ sizeLine) (hs : starEach [b] X.env = (false, eval b X.env) :: starEach [] X.env := by rfl) : EV X (.BinOp a .Add (.Tuple [b] kt p1) pos) τ (DL.tup f (xs ++ [y])) τ2 :=
  (EV.catT h1 (EV.tup (EA.cons h2 EA.nil hs)) (by rw [List.length_map]; exact hz)).is (by show _ = PyData.tuple (List.map f (xs ++ [y])); rw [List.map_append]; rfl)
/-- (y,) + xs -/
theorem EV.consT {kt : Nat} (h1 : EV X a τ (f y) τ1) (h2 : EV X b τ1 (DL.tup f xs) τ2) (hz : 1 + xs.length ≤ sizeLine) (hs : starEach [a] X.env = (false, eval a X.env) :: starEach [] X.env := by rfl) : EV X (.BinOp (.Tuple [a] kt p1) .Add b pos) τ (DL.tup f (y :: xs)) τ2 :=
  (EV.catT (EV.tup (EA.cons h1 EA.nil hs)) h2 (by rw [List.length_map]; exact hz)).is rfl
theorem EF.catE (h1 : EV X a τ (DL.lst f xs) τ1) (h2 : EV X b τ1 (DL.lst f ys) τ2) (hz : xs.length + ys.length ≤ sizeLine) (ho : OpR X (binaryOp .Add) (rCatS X.K)) : EF X (.BinOp a .Add b pos) τ ((xs ++ ys).map f) τ2 := by
  rw [List.map_append]; exact EF.cat ho h1 h2 (by rw [List.length_map, List.length_map]; exact hz)
end
theorem eLT_app (xs ys : List (List Int)) : eLT (xs ++ ys) = .list (xs.map eT ++ ys.map eT) := by show PyData.list (List.map eT (xs ++ ys)) = _; rw [List.map_append]
theorem eTT_app (xs ys : List (List Int)) : eTT (xs ++ ys) = .tuple (xs.map eT ++ ys.map eT) := by show PyData.tuple (List.map eT (xs ++ ys)) = _; rw [List.map_append]
theorem eT_app (xs ys : List Int) : eT (xs ++ ys) = .tuple (xs.map PyData.int ++ ys.map PyData.int) := by show PyData.tuple (List.map PyData.int (xs ++ ys)) = _; rw [List.map_append]
theorem lt_size {n : Nat} (h : n ≤ 10000000) : n < sizeLine := Nat.lt_of_le_of_lt h (by decide)
theorem le_size {n : Nat} (h : n ≤ 10000000) : n ≤ sizeLine := Nat.le_of_lt (lt_size h)
end
end DL

set_option maxRecDepth 100000
set_option maxHeartbeats 2000000
/-! SpA: what the defs compute, over plain lists; their promises. -/
namespace K
open PySem L2 DL
/-! ### draws of the law -/
def drawM (script T : List Int) (many : Int) : Int × List Int :=
  let c := T.headD 0 + 1
  let T1 := T.set 0 c
  if script = [] then (c * c * 7 / 3 % many, T1)
  else
    let at_ := (c % (script.length : Int)).toNat
    let left := T1.getD (1 + at_) 0
    if script.getD at_ 0 ≥ 10 ^ 18 ∧ left > 0 then (left % many, T1.set (1 + at_) (left / many))
    else
      let n1 := (script.getD at_ 0 + 104729 * c) % 4294967291
      let n2 := n1 ^ 5 % 4294967279
      ((n2 / 64 * 69621 + n2) % 4294967231 / 8 % many, T1)
/-- the town is in order, and f more draws may come -/
structure TOk (script T : List Int) (f : Nat) : Prop where
  len : T.length = script.length + 1
  lo : 0 ≤ T.headD 0
  hi : T.headD 0 + f ≤ 2 ^ 40
theorem TOk.mono {script T : List Int} {f g : Nat} (h : TOk script T f) (l : g ≤ f) : TOk script T g := ⟨h.len, h.lo, by have := h.hi; omega⟩
theorem drawM_range (script T : List Int) {many : Int} (h : 0 < many) : 0 ≤ (drawM script T many).1 ∧ (drawM script T many).1 < many := by
  unfold drawM
  dsimp only
  split
  · exact ⟨Int.emod_nonneg _ (by omega), Int.emod_lt_of_pos _ h⟩
  · split
    · exact ⟨Int.emod_nonneg _ (by omega), Int.emod_lt_of_pos _ h⟩
    · exact ⟨Int.emod_nonneg _ (by omega), Int.emod_lt_of_pos _ h⟩
theorem drawM_ok {script T : List Int} {many : Int} {f : Nat} (h : TOk script T (f + 1)) : TOk script (drawM script T many).2 f := by
  obtain ⟨h1, h2, h3⟩ := h
  obtain ⟨c, r, rfl⟩ : ∃ c r, T = c :: r := by
    cases T with
    | nil => simp at h1
    | cons c r => exact ⟨c, r, rfl⟩
  simp only [List.headD_cons] at h2 h3
  have base : TOk script ((c :: r).set 0 (c + 1)) f := ⟨by simpa using h1, by simp; omega, by simp; omega⟩
  unfold drawM
  dsimp only [List.headD_cons]
  split
  · exact base
  · split
    · refine ⟨by simpa using h1, ?_, ?_⟩
      · rw [Nat.add_comm]; simp; omega
      · rw [Nat.add_comm]; simp; omega
    · exact base
def R_draw (script T : List Int) (ds : List PyData) (d : PyData) (T' : List Int) : Prop := ∃ many : Int, (0 < many ∧ many < 1073741824) ∧ TOk script T 1 ∧ script.length ≤ 63 ∧ ds = [.int many] ∧ d = .int (drawM script T many).1 ∧ T' = (drawM script T many).2
def R_town (ds es : List PyData) : Prop := ∃ script : List Int, script.length ≤ 63 ∧ ds = [lst PyData.int script] ∧ es = (0 :: script).map PyData.int
theorem TOk.start (script : List Int) : TOk script (0 :: script) (2 ^ 40) := ⟨rfl, by simp, by simp⟩
/-- the game that is drawn: n, k, p, m, the town behind it -/
def gameM (script T : List Int) (most : Int) : (Int × Int × Int × Int) × List Int :=
  let a := drawM script T (most - 1)
  let n := 2 + a.1
  let b := drawM script a.2 (min 5 n)
  let c := drawM script b.2 (min 5 n)
  let k := 1 + b.1
  let p := 1 + c.1
  let d := drawM script c.2 (min k p)
  ((n, k, p, 1 + d.1), d.2)
def Valid (n k p m : Int) : Prop := (2 ≤ n ∧ n ≤ 9) ∧ (1 ≤ k ∧ k ≤ min 5 n) ∧ (1 ≤ p ∧ p ≤ min 5 n) ∧ (1 ≤ m ∧ m ≤ min k p)
instance (n k p m : Int) : Decidable (Valid n k p m) := by unfold Valid; infer_instance
theorem gameM_ok {script T : List Int} {most : Int} {f : Nat} (h : TOk script T (f + 4)) : TOk script (gameM script T most).2 f := by
  unfold gameM
  exact drawM_ok (drawM_ok (drawM_ok (drawM_ok h)))
theorem gameM_valid (script T : List Int) {most : Int} (hm : 2 ≤ most ∧ most ≤ 9) : Valid (gameM script T most).1.1 (gameM script T most).1.2.1 (gameM script T most).1.2.2.1 (gameM script T most).1.2.2.2 ∧ (gameM script T most).1.1 ≤ most := by
  unfold gameM
  dsimp only
  have h1 := drawM_range script T (many := most - 1) (by omega)
  generalize drawM script T (most - 1) = a at h1 ⊢
  have h2 := drawM_range script a.2 (many := min 5 (2 + a.1)) (by omega)
  generalize drawM script a.2 (min 5 (2 + a.1)) = b at h2 ⊢
  have h3 := drawM_range script b.2 (many := min 5 (2 + a.1)) (by omega)
  generalize drawM script b.2 (min 5 (2 + a.1)) = c at h3 ⊢
  have h4 := drawM_range script c.2 (many := min (1 + b.1) (1 + c.1)) (by omega)
  generalize drawM script c.2 (min (1 + b.1) (1 + c.1)) = d at h4 ⊢
  unfold Valid
  omega
def R_lgame (script T : List Int) (ds : List PyData) (d : PyData) (T' : List Int) : Prop := ∃ most : Int, (2 ≤ most ∧ most ≤ 9) ∧ TOk script T 4 ∧ script.length ≤ 63 ∧ ds = [.int most] ∧
  d = eT [(gameM script T most).1.1, (gameM script T most).1.2.1, (gameM script T most).1.2.2.1, (gameM script T most).1.2.2.2] ∧ T' = (gameM script T most).2
/-! ### games -/
def isWholeD (d : PyData) (lo hi : Int) : Bool := match d with
  | .int i => decide (lo ≤ i) && decide (i ≤ hi)
  | _ => false
def R_is_whole (ds : List PyData) (r : Res) : Prop := ∃ d lo hi, ds = [d, .int lo, .int hi] ∧ r = .ok (.bool (isWholeD d lo hi))
def isGameD : PyData → Bool
  | .tuple [.int n, .int k, .int p, .int m] => decide (Valid n k p m)
  | _ => false
def R_is_game (ds : List PyData) (r : Res) : Prop := ∃ d, ds = [d] ∧ r = .ok (.bool (isGameD d))
def R_look_game (ds : List PyData) (r : Res) : Prop := ∃ d, ds = [d] ∧ r = if isGameD d = true then .ok .none else .ex "BadGame"
def nums (n : Int) : List Int := rng 1 n.toNat
def R_numbers_of (ds : List PyData) (r : Res) : Prop := ∃ n k p m : Int, (0 ≤ n ∧ n ≤ 1000) ∧ ds = [eT [n, k, p, m]] ∧ r = .ok (eT (nums n))
/-- all rising tuples of so many -/
def comb : List Int → Nat → List (List Int)
  | _, 0 => [[]]
  | [], _ + 1 => []
  | x :: xs, j + 1 => (comb xs j).map (x :: ·) ++ comb xs (j + 1)
theorem comb_nil_of_lt : ∀ (xs : List Int) (j : Nat), xs.length < j → comb xs j = []
  | _, 0, h => by omega
  | [], _ + 1, _ => rfl
  | x :: xs, j + 1, h => by
    simp only [List.length_cons] at h
    rw [comb, comb_nil_of_lt xs j (by omega), comb_nil_of_lt xs (j + 1) (by omega)]; rfl
def combStep (xs : List Int) (j i : Nat) : List (List Int) := (comb (xs.drop (i + 1)) j).map (xs.getD i 0 :: ·)
theorem comb_flat : ∀ (xs : List Int) (j : Nat), comb xs (j + 1) = (List.range (xs.length - j)).flatMap (combStep xs j)
  | [], j => by simp [comb]
  | x :: xs, j => by
    rw [comb, comb_flat xs j]
    by_cases h : xs.length < j
    · rw [comb_nil_of_lt xs j h, show xs.length - j = 0 by omega, show (x :: xs).length - j = 0 by simp; omega]; rfl
    · rw [show (x :: xs).length - j = (xs.length - j) + 1 by simp; omega, List.range_succ_eq_map, List.flatMap_cons, List.flatMap_map]
      rfl
theorem comb_len : ∀ (xs : List Int) (j : Nat) (c : List Int), c ∈ comb xs j → c.length = j
  | _, 0, c, h => by
    have : c = [] := by simpa [comb] using h
    rw [this]; rfl
  | [], _ + 1, _, h => by simp [comb] at h
  | x :: xs, j + 1, c, h => by
    rw [comb, List.mem_append] at h
    rcases h with h | h
    · obtain ⟨d, hd, rfl⟩ := List.mem_map.mp h
      rw [List.length_cons, comb_len xs j d hd]
    · exact comb_len xs (j + 1) c h
theorem comb_size : ∀ (xs : List Int) (j : Nat), (comb xs j).length ≤ 2 ^ xs.length
  | xs, 0 => by
    rw [comb]; show 1 ≤ _
    exact Nat.one_le_two_pow
  | [], _ + 1 => by simp [comb]
  | x :: xs, j + 1 => by
    rw [comb, List.length_append, List.length_map, List.length_cons, Nat.pow_succ]
    have h1 := comb_size xs j
    have h2 := comb_size xs (j + 1)
    omega
def R_chosen (ds : List PyData) (r : Res) : Prop := ∃ (xs : List Int) (j : Nat), j ≤ xs.length ∧ xs.length ≤ 12 ∧ ds = [eT xs, .int j] ∧ r = .ok (eLT (comb xs j))
def R_ch (J : Nat) (ds : List PyData) (r : Res) : Prop := ∃ (xs : List Int) (j : Nat), j ≤ J ∧ xs.length ≤ 12 ∧ j ≤ xs.length ∧ ds = [eT xs, .int j] ∧ r = .ok (eLT (comb xs j))
theorem nums_len (n : Int) : (nums n).length = n.toNat := rng_len _ _
def ticketsM (n k : Int) : List (List Int) := comb (nums n) k.toNat
def R_all_tickets (ds : List PyData) (r : Res) : Prop := ∃ n k p m : Int, Valid n k p m ∧ ds = [eT [n, k, p, m]] ∧ r = .ok (eLT (ticketsM n k))
def R_all_draws (ds : List PyData) (r : Res) : Prop := ∃ n k p m : Int, Valid n k p m ∧ ds = [eT [n, k, p, m]] ∧ r = .ok (eLT (ticketsM n p))
def R_tickets (ds : List PyData) (r : Res) : Prop := ∃ d, ds = [d] ∧ ((∃ n k p m : Int, Valid n k p m ∧ d = eT [n, k, p, m] ∧ r = .ok (eLT (ticketsM n k))) ∨ (isGameD d = false ∧ r = .ex "BadGame"))
def R_draws (ds : List PyData) (r : Res) : Prop := ∃ d, ds = [d] ∧ ((∃ n k p m : Int, Valid n k p m ∧ d = eT [n, k, p, m] ∧ r = .ok (eLT (ticketsM n p))) ∨ (isGameD d = false ∧ r = .ex "BadGame"))
theorem isGameD_valid {n k p m : Int} (h : Valid n k p m) : isGameD (eT [n, k, p, m]) = true := decide_eq_true h
/-! ### tickets -/
def getI : PyData → Int
  | .int i => i
  | _ => 0
def riseB : List Int → Bool
  | x :: y :: r => decide (x < y) && riseB (y :: r)
  | _ => true
def areNumsD (n : Int) (d : PyData) (many : Int) : Bool := match d with
  | .tuple ds => decide ((ds.length : Int) = many) && (ds.all (fun x => isWholeD x 1 n) && riseB (ds.map getI))
  | _ => false
def R_are_numbers (ds : List PyData) (r : Res) : Prop := ∃ (n k p m : Int) (d : PyData) (many : Int), (∀ es, d = .tuple es → es.length ≤ 1000) ∧ ds = [eT [n, k, p, m], d, .int many] ∧ r = .ok (.bool (areNumsD n d many))
def sharedM (t dr : List Int) : Nat := (t.filter fun x => memD x dr).length
def R_shared (ds : List PyData) (r : Res) : Prop := ∃ t dr : List Int, t.length ≤ 1000 ∧ ds = [eT t, eT dr] ∧ r = .ok (.int (sharedM t dr))
def holdsM (m : Int) (t dr : List Int) : Bool := decide (m ≤ (sharedM t dr : Int))
def R_does_hold (ds : List PyData) (r : Res) : Prop := ∃ (n k p m : Int) (t dr : List Int), t.length ≤ 1000 ∧ ds = [eT [n, k, p, m], eT t, eT dr] ∧ r = .ok (.bool (holdsM m t dr))
def chStep (a f k : Int) : Int := f * (a - k) / (k + 1)
def choicesM (a b : Int) : Int := if b < 0 ∨ a < b then 0 else (rng 0 b.toNat).foldl (chStep a) 1
def R_choices (ds : List PyData) (r : Res) : Prop := ∃ a b : Int, (-1000 ≤ a ∧ a ≤ 1000 ∧ -1000 ≤ b ∧ b ≤ 1000) ∧ ds = [.int a, .int b] ∧ r = .ok (.int (choicesM a b))
def heldM (n k p m : Int) : Int := ((rng m (min k p + 1 - m).toNat).map fun j => choicesM k j * choicesM (n - k) (p - j)).sum
def R_many_held (ds : List PyData) (r : Res) : Prop := ∃ n k p m : Int, Valid n k p m ∧ ds = [eT [n, k, p, m]] ∧ r = .ok (.int (heldM n k p m))
theorem choices_small : ∀ a : Fin 10, ∀ b : Fin 10, -(2 ^ 64) < choicesM a.val b.val ∧ choicesM a.val b.val < 2 ^ 64 := by decide +kernel
theorem choices_bd {a b : Int} (h : 0 ≤ a ∧ a ≤ 9 ∧ b ≤ 9) : -(2 ^ 64) < choicesM a b ∧ choicesM a b < 2 ^ 64 := by
  by_cases hb : b < 0
  · unfold choicesM; rw [if_pos (.inl hb)]; decide
  · have := choices_small ⟨a.toNat, by omega⟩ ⟨b.toNat, by omega⟩
    simp only [Int.toNat_of_nonneg h.1, Int.toNat_of_nonneg (by omega : 0 ≤ b)] at this
    exact this
end K

set_option maxRecDepth 100000
set_option maxHeartbeats 2000000
/-! SpB: lemmas about what the defs compute. -/
namespace K
open PySem L2 DL
theorem isWholeD_true {d : PyData} {lo hi : Int} (h : isWholeD d lo hi = true) : ∃ i, d = .int i ∧ lo ≤ i ∧ i ≤ hi := by
  cases d with
  | int i =>
    have h2 : (decide (lo ≤ i) && decide (i ≤ hi)) = true := h
    rw [Bool.and_eq_true, decide_eq_true_eq, decide_eq_true_eq] at h2
    exact ⟨i, rfl, h2.1, h2.2⟩
  | _ => cases h
theorem isGameD_not4 {ds : List PyData} (h : ds.length ≠ 4) : isGameD (.tuple ds) = false := by
  unfold isGameD
  split
  · rename_i e
    have e2 := PyData.tuple.inj e
    subst e2
    exact absurd rfl h
  · rfl
theorem isGameD_eq (a b c e : PyData) : isGameD (.tuple [a, b, c, e]) = (isWholeD a 2 9 && (isWholeD b 1 (min 5 (getI a)) && (isWholeD c 1 (min 5 (getI a)) && isWholeD e 1 (min (getI b) (getI c))))) := by
  cases a with
  | int n =>
    cases b with
    | int k =>
      cases c with
      | int p =>
        cases e with
        | int m =>
          show decide (Valid n k p m) = ((decide (2 ≤ n) && decide (n ≤ 9)) && ((decide (1 ≤ k) && decide (k ≤ min 5 n)) && ((decide (1 ≤ p) && decide (p ≤ min 5 n)) && (decide (1 ≤ m) && decide (m ≤ min k p)))))
          rw [Bool.eq_iff_iff]
          simp only [decide_eq_true_eq, Bool.and_eq_true]
          exact Iff.rfl
        | _ => simp [isGameD, isWholeD]
      | _ => simp [isGameD, isWholeD]
    | _ => simp [isGameD, isWholeD]
  | _ => simp [isGameD, isWholeD]
theorem ofValid {n k p m : Int} (h : Valid n k p m) : (2 ≤ n ∧ n ≤ 9) ∧ (1 ≤ k ∧ k ≤ 5 ∧ k ≤ n) ∧ (1 ≤ p ∧ p ≤ 5 ∧ p ≤ n) ∧ (1 ≤ m ∧ m ≤ k ∧ m ≤ p) := by
  unfold Valid at h; omega
theorem tickets_size {n k p m : Int} (h : Valid n k p m) (j : Int) : (ticketsM n j).length ≤ 512 := by
  unfold ticketsM
  have h1 := comb_size (nums n) j.toNat
  rw [nums_len] at h1
  have h2 : 2 ^ n.toNat ≤ 2 ^ 9 := Nat.pow_le_pow_right (by decide) (by have := ofValid h; omega)
  omega
theorem tickets_len {n j : Int} {t : List Int} (h : t ∈ ticketsM n j) : t.length = j.toNat := comb_len _ _ _ h
/-! slices -/
theorem sIx_nn {n dflt : Nat} {i : Int} (h : 0 ≤ i) : HT.sIx n dflt (some i) = min i.toNat n := by
  obtain ⟨k, rfl⟩ : ∃ k : Nat, i = k := ⟨i.toNat, by omega⟩
  rw [HT.sIx_nat]; rfl
theorem cutD_to {α : Type} (xs : List α) {i : Int} (h : 0 ≤ i) : cutD xs none (some i) = xs.take i.toNat := by
  unfold cutD
  rw [HT.sIx_none, sIx_nn h, List.drop_zero, Nat.sub_zero]
  by_cases c : i.toNat ≤ xs.length
  · rw [Nat.min_eq_left c]
  · rw [Nat.min_eq_right (by omega), List.take_length, List.take_of_length_le (by omega)]
theorem cutD_from {α : Type} (xs : List α) {i : Int} (h : 0 ≤ i) : cutD xs (some i) none = xs.drop i.toNat := by
  unfold cutD
  rw [HT.sIx_none, sIx_nn h]
  by_cases c : i.toNat ≤ xs.length
  · rw [Nat.min_eq_left c, List.take_of_length_le (by simp)]
  · rw [Nat.min_eq_right (by omega), List.drop_of_length_le (by omega : xs.length ≤ i.toNat)]
    simp
theorem cutD_map {α β : Type} (f : α → β) (xs : List α) (lo hi : Option Int) : cutD (xs.map f) lo hi = (cutD xs lo hi).map f := by
  unfold cutD
  rw [List.length_map, List.map_take, List.map_drop]
/-! enumerate of ints -/
theorem enumD_ints (xs : List Int) : enumD (xs.map PyData.int) = ((List.range xs.length).map fun (i : Nat) => PyData.tuple [.int (i : Int), .int (xs.getD i 0)]) := by
  unfold enumD
  rw [List.length_map]
  apply List.map_congr_left
  intro i hi
  have h : i < xs.length := List.mem_range.mp hi
  simp [h]
/-! zip of a list with its rest -/
theorem zip_rise : ∀ (xs : List Int), ((xs.zip (xs.drop 1)).all fun p => decide (p.1 < p.2)) = riseB xs
  | [] => rfl
  | [_] => rfl
  | x :: y :: r => by
    show (((x, y) :: ((y :: r).zip ((y :: r).drop 1))).all fun p => decide (p.1 < p.2)) = (decide (x < y) && riseB (y :: r))
    rw [List.all_cons, zip_rise (y :: r)]
theorem zipD_ints (xs ys : List Int) : zipD (xs.map PyData.int) (ys.map PyData.int) = (xs.zip ys).map fun p => PyData.tuple [.int p.1, .int p.2] := by
  unfold zipD
  rw [List.zip_map, List.map_map]; rfl
theorem all_id_map {α : Type} (f : α → Bool) (xs : List α) : (xs.map f).all id = xs.all f := by
  rw [List.all_map]; rfl
theorem any_id_map {α : Type} (f : α → Bool) (xs : List α) : (xs.map f).any id = xs.any f := by
  rw [List.any_map]; rfl
/-- data all of which are whole numbers are ints -/
theorem all_whole {n : Int} : ∀ {ds : List PyData}, (ds.all fun x => isWholeD x 1 n) = true → ds = (ds.map getI).map PyData.int
  | [], _ => rfl
  | d :: ds, h => by
    rw [List.all_cons, Bool.and_eq_true] at h
    obtain ⟨i, rfl, _⟩ := isWholeD_true h.1
    rw [List.map_cons, List.map_cons, ← all_whole h.2]; rfl
theorem foldl_take_succ {α β : Type} (f : β → α → β) (b : β) (xs : List α) {i : Nat} {x : α} (h : xs[i]? = some x) : (xs.take (i + 1)).foldl f b = f ((xs.take i).foldl f b) x := by
  rw [List.take_succ, h, List.foldl_append]; rfl
theorem flatMap_range_succ {β : Type} (f : Nat → List β) (i : Nat) : (List.range (i + 1)).flatMap f = (List.range i).flatMap f ++ f i := by
  rw [List.range_succ, List.flatMap_append]; simp
theorem atI_head {α : Type} (x : α) (xs : List α) : atI (x :: xs) 0 = some x := atI_nn (i := 0) rfl
theorem ixN_nn {n j : Nat} (hj : j < n) : ixN n (j : Int) = some j := by
  unfold ixN
  split <;> simp_all <;> omega
theorem comb_zero (xs : List Int) : comb xs 0 = [[]] := by cases xs <;> rfl
/-- a slot that is unset, or holds data -/
def sv : Option PyData → SV
  | none => .un
  | some d => .pu d
theorem ownA_pu (d : PyData) : ownA (.pu d) = [] := rfl
theorem ownA_un : ownA .un = [] := rfl
theorem ownA_sv (o : Option PyData) : ownA (sv o) = [] := by cases o <;> rfl
theorem nOw_sv (o : Option PyData) : nOw (some (sv o)) = true := by cases o <;> rfl
end K

set_option maxRecDepth 100000
set_option maxHeartbeats 2000000
/-! SpC: the fewest tickets, over plain lists. -/
namespace K
open PySem L2 DL
def R_look_ticket (ds : List PyData) (r : Res) : Prop := ∃ (n k p m : Int) (d : PyData), (∀ es, d = .tuple es → es.length ≤ 1000) ∧ ds = [eT [n, k, p, m], d] ∧ r = if areNumsD n d k = true then .ok .none else .ex "BadTicket"
def R_held_by (ds : List PyData) (r : Res) : Prop := ∃ (n k p m : Int) (d : PyData), Valid n k p m ∧ (∀ es, d = .tuple es → es.length ≤ 1000) ∧ ds = [eT [n, k, p, m], d] ∧ r = if areNumsD n d k = true then .ok (.int (heldM n k p m)) else .ex "BadTicket"
def R_look_small (ds : List PyData) (r : Res) : Prop := ∃ d, ds = [d] ∧ ((isGameD d = false ∧ r = .ex "BadGame") ∨ (∃ n k p m : Int, Valid n k p m ∧ d = eT [n, k, p, m] ∧ r = if 6 < n then .ex "Full" else .ok .none))
def R_least_times (ds : List PyData) (r : Res) : Prop := ∃ a b : Int, (0 < b ∧ b < 1073741824) ∧ ds = [.int a, .int b] ∧ r = .ok (.int ((a + b - 1) / b))
abbrev Tab := List (List Int × List (List Int))
abbrev eRow : List Int × List (List Int) → PyData := fun p => .tuple [eT p.1, eLT p.2]
abbrev eTab : Tab → PyData := lst eRow
def ledStep (F : List (List Int) → Option (List (List Int))) (left : List (List Int)) (row : List Int × List (List Int)) : Option (List (List Int)) :=
  if memD (left.headD []) row.2 = true then (F (left.filter fun d => !memD d row.2)).map (row.1 :: ·) else none
def ledM (tab : Tab) (held : Int) : Nat → List (List Int) → Option (List (List Int))
  | 0, left => if left = [] then some [] else none
  | j + 1, left => if left = [] then some [] else if ((j : Int) + 1) * held < (left.length : Int) then none else tab.findSome? (ledStep (ledM tab held j) left)
def optD {α : Type} (f : α → PyData) : Option α → PyData
  | none => .none
  | some a => f a
/-- sizes of a table -/
structure TabOk (tab : Tab) : Prop where
  len : tab.length ≤ 1000
  rows : ∀ r, r ∈ tab → r.2.length ≤ 1000
def R_led_on (many : Nat) (ds : List PyData) (r : Res) : Prop := ∃ (tab : Tab) (left : List (List Int)) (held : Int) (j : Nat), j ≤ many ∧ many ≤ 60 ∧ TabOk tab ∧ left.length ≤ 1000 ∧ ds = [eTab tab, eLT left, .int j, .int held] ∧ r = .ok (optD eTT (ledM tab held j left))
theorem ledM_len (tab : Tab) (held : Int) : ∀ (j : Nat) (left b : List (List Int)), ledM tab held j left = some b → b.length ≤ j
  | 0, left, b, h => by
    unfold ledM at h
    split at h
    · cases h; exact Nat.le_refl _
    · cases h
  | j + 1, left, b, h => by
    unfold ledM at h
    split at h
    · cases h; exact Nat.zero_le _
    · split at h
      · cases h
      · obtain ⟨r, hr, e⟩ := List.exists_of_findSome?_eq_some h
        unfold ledStep at e
        split at e
        · cases q : ledM tab held j (left.filter fun d => !memD d r.2) with
          | none => rw [q] at e; cases e
          | some b' =>
            rw [q] at e; cases e
            have := ledM_len tab held j _ _ q
            simp; omega
        · cases e
theorem ledM_ne {tab : Tab} {held : Int} : ∀ {j : Nat} {left b : List (List Int)}, ledM tab held j left = some b → (∀ r, r ∈ tab → r.1 ≠ []) → ∀ ns, ns ∈ b → ns ≠ []
  | 0, left, b, h, ht => by
    unfold ledM at h
    split at h
    · cases h; exact fun _ z => nomatch z
    · cases h
  | j + 1, left, b, h, ht => by
    unfold ledM at h
    split at h
    · cases h; exact fun _ z => nomatch z
    · split at h
      · cases h
      · obtain ⟨r, hr, e⟩ := List.exists_of_findSome?_eq_some h
        unfold ledStep at e
        split at e
        · cases q : ledM tab held j (left.filter fun d => !memD d r.2) with
          | none => rw [q] at e; cases e
          | some b' =>
            rw [q] at e; cases e
            intro ns hns
            rcases List.mem_cons.mp hns with z | z
            · rw [z]; exact ht r hr
            · exact ledM_ne q ht ns z
        · cases e
theorem fs_none {α β : Type} {xs : List α} {f : α → Option β} {i : Nat} {x : α} (h : xs[i]? = some x) (n : (xs.take i).findSome? f = none) (e : f x = none) : (xs.take (i + 1)).findSome? f = none := by
  rw [List.take_succ, h, List.findSome?_append, n]
  simp [e]
theorem fs_some {α β : Type} {xs : List α} {f : α → Option β} {i : Nat} {x : α} {b : β} (h : xs[i]? = some x) (n : (xs.take i).findSome? f = none) (e : f x = some b) : xs.findSome? f = some b := by
  have : xs = xs.take i ++ (x :: xs.drop (i + 1)) := by
    obtain ⟨hl, rfl⟩ := List.getElem?_eq_some_iff.mp h
    rw [← List.drop_eq_getElem_cons hl, List.take_append_drop]
  rw [this, List.findSome?_append, n, List.findSome?_cons, e]; rfl
/-- insertion -/
def insM (x : List Int) : List (List Int) → List (List Int)
  | [] => [x]
  | y :: ys => if HT.lexLt y x = true then y :: insM x ys else x :: y :: ys
def sortM : List (List Int) → List (List Int)
  | [] => []
  | x :: xs => insM x (sortM xs)
theorem insM_perm (x : List Int) : ∀ ys, (insM x ys).Perm (x :: ys)
  | [] => List.Perm.refl _
  | y :: ys => by
    unfold insM
    split
    · exact ((insM_perm x ys).cons y).trans (List.Perm.swap x y ys)
    · exact List.Perm.refl _
theorem sortM_perm : ∀ xs, (sortM xs).Perm xs
  | [] => List.Perm.refl _
  | x :: xs => (insM_perm x (sortM xs)).trans ((sortM_perm xs).cons x)
theorem insM_rise (x : List Int) : ∀ {ys : List (List Int)}, ys.Pairwise (fun a b => HT.lexLt b a = false) → (insM x ys).Pairwise fun a b => HT.lexLt b a = false
  | [], _ => by simp [insM]
  | y :: ys, h => by
    unfold insM
    rw [List.pairwise_cons] at h
    split
    · rename_i c
      rw [List.pairwise_cons]
      refine ⟨fun z hz => ?_, insM_rise x h.2⟩
      have := (insM_perm x ys).mem_iff.mp hz
      rcases List.mem_cons.mp this with e | e
      · rw [e]; exact Srt.lexLt_swo.asym _ _ c
      · exact h.1 z e
    · rename_i c
      have c' : HT.lexLt y x = false := by simpa using c
      rw [List.pairwise_cons, List.pairwise_cons]
      refine ⟨fun z hz => ?_, h⟩
      rcases List.mem_cons.mp hz with e | e
      · rw [e]; exact c'
      · have h1 := h.1 z e
        exact Srt.lexLt_swo.tr x y z c' h1
theorem sortM_rise : ∀ xs, (sortM xs).Pairwise fun a b => HT.lexLt b a = false
  | [] => List.Pairwise.nil
  | x :: xs => insM_rise x (sortM_rise xs)
theorem sortM_ok (xs : List (List Int)) : Rise xs (sortM xs) := ⟨sortM_perm xs, sortM_rise xs⟩
def tableM (n k p m : Int) : Tab := (ticketsM n k).map fun t => (t, (ticketsM n p).filter (holdsM m t))
def lbFind {β : Type} (f : Nat → Option β) : Nat → Nat → Option β
  | 0, _ => none
  | fuel + 1, i => match f i with
    | some b => some b
    | none => lbFind f fuel (i + 1)
def fromM (n k p m : Int) : Nat := ((((ticketsM n p).length : Int) + heldM n k p m - 1) / heldM n k p m).toNat
def foundM (n k p m : Int) : Option (List (List Int)) := lbFind (fun j => ledM (tableM n k p m) (heldM n k p m) j (ticketsM n p)) 30 (fromM n k p m)
def bookM (n k p m : Int) : List (List Int) := sortM ((foundM n k p m).getD [])
def fewM (n k p m : Int) : Int := ((bookM n k p m).length : Int)
def R_least_book (ds : List PyData) (r : Res) : Prop := ∃ n k p m : Int, Valid n k p m ∧ n ≤ 6 ∧ ds = [eT [n, k, p, m]] ∧ r = .ok (eTT (bookM n k p m))
def R_fewest (ds : List PyData) (r : Res) : Prop := ∃ d, ds = [d] ∧ ((isGameD d = false ∧ r = .ex "BadGame") ∨ (∃ n k p m : Int, Valid n k p m ∧ d = eT [n, k, p, m] ∧ r = if 6 < n then .ex "Full" else .ok (.int (fewM n k p m))))
/-- all games of up to six numbers -/
def games (most : Nat) : List (Int × Int × Int × Int) := (List.range 10).flatMap fun (n : Nat) => (List.range 6).flatMap fun (k : Nat) => (List.range 6).flatMap fun (p : Nat) => (List.range 6).filterMap fun (m : Nat) =>
  if (n : Int) ≤ most ∧ Valid n k p m then some ((n : Int), (k : Int), (p : Int), (m : Int)) else none
theorem mem_games {most : Nat} {n k p m : Int} (h : Valid n k p m) (l : n ≤ most) : (n, k, p, m) ∈ games most := by
  have h' := ofValid h
  refine List.mem_flatMap.mpr ⟨n.toNat, List.mem_range.mpr (by omega), List.mem_flatMap.mpr ⟨k.toNat, List.mem_range.mpr (by omega), List.mem_flatMap.mpr ⟨p.toNat, List.mem_range.mpr (by omega), List.mem_filterMap.mpr ⟨m.toNat, List.mem_range.mpr (by omega), ?_⟩⟩⟩⟩
  have e1 := Int.toNat_of_nonneg (show 0 ≤ n by omega)
  have e2 := Int.toNat_of_nonneg (show 0 ≤ k by omega)
  have e3 := Int.toNat_of_nonneg (show 0 ≤ p by omega)
  have e4 := Int.toNat_of_nonneg (show 0 ≤ m by omega)
  rw [e1, e2, e3, e4, if_pos ⟨l, h⟩]
def gameOkB (n k p m : Int) : Bool := (foundM n k p m).isSome && decide (0 < heldM n k p m) && decide (heldM n k p m < 1000) && decide (fromM n k p m ≤ 25) && decide (0 < fromM n k p m)
theorem found_all : ((games 6).all fun g => gameOkB g.1 g.2.1 g.2.2.1 g.2.2.2) = true := by decide +kernel
theorem found_ok {n k p m : Int} (h : Valid n k p m) (l : n ≤ 6) : (∃ b, foundM n k p m = some b) ∧ 0 < heldM n k p m ∧ heldM n k p m < 1000 ∧ fromM n k p m ≤ 25 ∧ 0 < fromM n k p m := by
  have := List.all_eq_true.mp found_all _ (mem_games (most := 6) h l)
  simp only [gameOkB, Bool.and_eq_true, decide_eq_true_eq, Option.isSome_iff_exists] at this
  exact ⟨this.1.1.1.1, this.1.1.1.2, this.1.1.2, this.1.2, this.2⟩
end K

set_option maxRecDepth 100000
set_option maxHeartbeats 2000000
/-! SpD: what a refused or found call is told as. -/
namespace K
open PySem L2 DL
def clsL : List Str := ["BadGame", "BadTicket", "BadDraw", "BadBook", "BadWeights", "BadNames", "BadHits", "BadPrizes", "BadNumber", "Unlike", "Full", "Nothing", "Taken", "NoBack", "BadText"]
def wrdL : List Str := ["game", "ticket", "draw", "book", "weights", "names", "hits", "prizes", "number", "unlike", "full", "nothing", "taken", "back", "text"]
def wordB (c : Str) : List Bool := clsL.map fun c' => decide (c = c')
def wordM (c : Str) : Nat := (wordB c).findIdx id
theorem wordM_all : (clsL.all fun c => decide ((wordB c).count true = 1 ∧ (wordB c)[wordM c]? = some true ∧ wordM c < 15) && (List.range (wordM c)).all fun m => decide ((wordB c)[m]? = some false)) = true := by decide +kernel
theorem wordM_ok {c : Str} (h : c ∈ clsL) : (wordB c).count true = 1 ∧ (wordB c)[wordM c]? = some true ∧ wordM c < 15 ∧ ∀ m, m < wordM c → (wordB c)[m]? = some false := by
  have := List.all_eq_true.mp wordM_all c h
  simp only [Bool.and_eq_true, decide_eq_true_eq, List.all_eq_true, List.mem_range] at this
  exact ⟨this.1.1, this.1.2.1, this.1.2.2, this.2⟩
def R_word (c : Str) (d : PyData) : Prop := c ∈ clsL ∧ d = .int (wordM c)
def R_refused (ds : List PyData) (r : Res) : Prop := ∃ (j : Nat) (x : Str), wrdL[j]? = some x ∧ ds = [.str x] ∧ r = .ok (.tuple [.str "refused", .int j])
theorem wrd_strs : (wrdL.all PyData.strOk) = true := by decide +kernel
theorem wrd_sh1 {x : Str} (h : x ∈ wrdL) : Sh 0 (.str x) := Sh.str (List.all_eq_true.mp wrd_strs x h)
theorem wrd_sh : SeqAt.shaped (.list (wrdL.map PyData.str)) = true := (Sh.lst (n := 0) fun d hd => by
  obtain ⟨x, hx, rfl⟩ := List.mem_map.mp hd
  exact wrd_sh1 hx).ok
theorem sh_refused (j : Int) : Sh 1 (.tuple [.str "refused", .int j]) := Sh.tup (n := 0) fun d hd => by
  rcases List.mem_cons.mp hd with e | e
  · rw [e]; exact Sh.str (by decide +kernel)
  · rw [List.mem_singleton.mp e]; exact Sh.int j
theorem sh_found {n : Nat} {d : PyData} (h : Sh n d) : Sh (n + 1) (.tuple [.str "found", d]) := Sh.tup fun e he => by
  rcases List.mem_cons.mp he with q | q
  · rw [q]; exact (Sh.str (by decide +kernel)).mono (Nat.zero_le _)
  · rw [List.mem_singleton.mp q]; exact h
theorem wrd_nd : wrdL.Nodup := by decide +kernel
theorem wrd_ne {j m : Nat} {x y : Str} (h : wrdL[j]? = some x) (h2 : wrdL[m]? = some y) (l : m < j) : y ≠ x := fun e => by
  subst e
  have := (List.getElem?_inj (List.getElem?_eq_some_iff.mp h2).1 wrd_nd).mp (h2.trans h.symm)
  omega
def toldD : Res → PyData
  | .ok d => .tuple [.str "found", d]
  | .ex c => .tuple [.str "refused", .int (wordM c)]
def R_told (R1 : List PyData → Res → Prop) (ds : List PyData) (r : Res) : Prop := ∃ (a b : PyData) (r1 : Res), ds = [a, b] ∧ R1 [a, b] r1 ∧ (∀ c, r1 = .ex c → c ∈ clsL) ∧ r = .ok (toldD r1)
end K

set_option maxRecDepth 100000
set_option maxHeartbeats 2000000
/-! SpE: books, escapes, the best next ticket, over plain lists. -/
namespace K
open PySem L2 DL
def getT : PyData → List Int
  | .tuple es => es.map getI
  | _ => []
def riseT : List (List Int) → Bool
  | x :: y :: r => HT.lexLt x y && riseT (y :: r)
  | _ => true
def isGoodD (n k : Int) (d : PyData) : Bool := match d with
  | .tuple es => decide ((es.length : Int) ≤ 20) && (es.all (fun x => areNumsD n x k) && riseT (es.map getT))
  | _ => false
/-- sizes of what is looked at -/
def DSz (d : PyData) : Prop := ∀ es, d = .tuple es → es.length ≤ 1000 ∧ ∀ e, e ∈ es → ∀ fs, e = .tuple fs → fs.length ≤ 1000
def R_is_good (ds : List PyData) (r : Res) : Prop := ∃ (n k p m : Int) (d : PyData), DSz d ∧ ds = [eT [n, k, p, m], d] ∧ r = .ok (.bool (isGoodD n k d))
def R_is_book (ds : List PyData) (r : Res) : Prop := ∃ g d, ds = [g, d] ∧ ((isGameD g = false ∧ r = .ex "BadGame") ∨ (∃ n k p m : Int, Valid n k p m ∧ g = eT [n, k, p, m] ∧ DSz d ∧ r = .ok (.bool (isGoodD n k d))))
def R_look_book (ds : List PyData) (r : Res) : Prop := ∃ g d, ds = [g, d] ∧ ((isGameD g = false ∧ r = .ex "BadGame") ∨ (∃ n k p m : Int, Valid n k p m ∧ g = eT [n, k, p, m] ∧ DSz d ∧ r = if isGoodD n k d = true then .ok .none else .ex "BadBook"))
def BSz (book : List (List Int)) : Prop := book.length ≤ 1000 ∧ ∀ t, t ∈ book → t.length ≤ 1000
def escM (n p m : Int) (book : List (List Int)) : List (List Int) := (ticketsM n p).filter fun d => !(book.any fun t => holdsM m t d)
def R_all_escapes (ds : List PyData) (r : Res) : Prop := ∃ (n k p m : Int) (book : List (List Int)), Valid n k p m ∧ BSz book ∧ ds = [eT [n, k, p, m], eTT book] ∧ r = .ok (eLT (escM n p m book))
/-- a game and a book that are looked at ahead of what is told -/
def looked (f : Int → Int → Int → Int → List (List Int) → PyData) (ds : List PyData) (r : Res) : Prop := ∃ g d, ds = [g, d] ∧ ((isGameD g = false ∧ r = .ex "BadGame") ∨ (∃ n k p m : Int, Valid n k p m ∧ g = eT [n, k, p, m] ∧ DSz d ∧ ((isGoodD n k d = false ∧ r = .ex "BadBook") ∨ (∃ book, d = eTT book ∧ isGoodD n k d = true ∧ r = .ok (f n k p m book)))))
def R_escapes : List PyData → Res → Prop := looked fun n k p m book => eLT (escM n p m book)
def R_is_sure : List PyData → Res → Prop := looked fun n k p m book => .bool (decide (escM n p m book = []))
theorem areNumsD_eT {n k : Int} {d : PyData} (h : areNumsD n d k = true) : d = eT (getT d) := by
  cases d with
  | tuple es =>
    have h2 : (decide ((es.length : Int) = k) && (es.all (fun x => isWholeD x 1 n) && riseB (es.map getI))) = true := h
    rw [Bool.and_eq_true, Bool.and_eq_true] at h2
    show PyData.tuple es = PyData.tuple ((es.map getI).map PyData.int)
    rw [← all_whole h2.2.1]
  | _ => cases h
theorem all_nums {n k : Int} : ∀ {es : List PyData}, (es.all fun x => areNumsD n x k) = true → es = (es.map getT).map eT
  | [], _ => rfl
  | d :: ds, h => by
    rw [List.all_cons, Bool.and_eq_true] at h
    rw [List.map_cons, List.map_cons, ← all_nums h.2, ← areNumsD_eT h.1]
/-- a good book as lists -/
theorem good_book {n k : Int} {d : PyData} (h : isGoodD n k d = true) : ∃ book : List (List Int), d = eTT book ∧ book.length ≤ 20 ∧ (∀ t, t ∈ book → areNumsD n (eT t) k = true) ∧ riseT book = true := by
  cases d with
  | tuple es =>
    have h2 : (decide ((es.length : Int) ≤ 20) && (es.all (fun x => areNumsD n x k) && riseT (es.map getT))) = true := h
    rw [Bool.and_eq_true, Bool.and_eq_true, decide_eq_true_eq] at h2
    refine ⟨es.map getT, ?_, by rw [List.length_map]; omega, fun t ht => ?_, h2.2.2⟩
    · show PyData.tuple es = PyData.tuple ((es.map getT).map eT)
      rw [← all_nums h2.2.1]
    · obtain ⟨e, he, rfl⟩ := List.mem_map.mp ht
      have := List.all_eq_true.mp h2.2.1 e he
      rw [← areNumsD_eT this]; exact this
  | _ => cases h
theorem getT_eT (t : List Int) : getT (eT t) = t := by
  show (t.map PyData.int).map getI = t
  rw [List.map_map]
  exact List.map_id'' (fun _ => rfl) t
theorem good_eTT {n k : Int} {book : List (List Int)} : isGoodD n k (eTT book) = (decide ((book.length : Int) ≤ 20) && (book.all (fun t => areNumsD n (eT t) k) && riseT book)) := by
  show (decide (((book.map eT).length : Int) ≤ 20) && ((book.map eT).all (fun x => areNumsD n x k) && riseT ((book.map eT).map getT))) = _
  rw [List.length_map, List.all_map, List.map_map, show (getT ∘ eT) = id from funext getT_eT, List.map_id]
  rfl
theorem areNums_len {n k : Int} {t : List Int} (h : areNumsD n (eT t) k = true) : (t.length : Int) = k := by
  have h2 : (decide (((t.map PyData.int).length : Int) = k) && ((t.map PyData.int).all (fun x => isWholeD x 1 n) && riseB ((t.map PyData.int).map getI))) = true := h
  rw [Bool.and_eq_true, decide_eq_true_eq, List.length_map] at h2
  exact h2.1
theorem zipT_rise : ∀ (xs : List (List Int)), ((xs.zip (xs.drop 1)).all fun p => HT.lexLt p.1 p.2) = riseT xs
  | [] => rfl
  | [_] => rfl
  | x :: y :: r => by
    show (((x, y) :: ((y :: r).zip ((y :: r).drop 1))).all fun p => HT.lexLt p.1 p.2) = (HT.lexLt x y && riseT (y :: r))
    rw [List.all_cons, zipT_rise (y :: r)]
theorem zipD_map {α : Type} (f : α → PyData) (xs ys : List α) : zipD (xs.map f) (ys.map f) = (xs.zip ys).map fun p => PyData.tuple [f p.1, f p.2] := by
  unfold zipD
  rw [List.zip_map, List.map_map]; rfl
/-! ### bounds -/
def evenM (n k p m : Int) : Int := (choicesM n p + heldM n k p m - 1) / heldM n k p m
def roundM : Nat → Int → Int → Int
  | 0, _, _ => 0
  | 1, n, k => (n * 1 + k - 1) / k
  | m + 2, n, k => (n * roundM (m + 1) (n - 1) (k - 1) + k - 1) / k
def R_even_bound (ds : List PyData) (r : Res) : Prop := ∃ n k p m : Int, Valid n k p m ∧ ds = [eT [n, k, p, m]] ∧ r = .ok (.int (evenM n k p m))
def R_round (J : Nat) (ds : List PyData) (r : Res) : Prop := ∃ (n k : Int) (m : Nat), 1 ≤ m ∧ m ≤ J ∧ (m : Int) ≤ k ∧ k ≤ n ∧ n ≤ 1000 ∧ ds = [.int n, .int k, .int m] ∧ r = .ok (.int (roundM m n k))
def R_rounded_bound (ds : List PyData) (r : Res) : Prop := ∃ d, ds = [d] ∧ ((isGameD d = false ∧ r = .ex "BadGame") ∨ (∃ n k p m : Int, Valid n k p m ∧ d = eT [n, k, p, m] ∧ r = if p = m then .ok (.int (roundM m.toNat n k)) else .ex "Unlike"))
def pairsM (n p : Int) : List (List Int) := (ticketsM n 2).filter fun t => decide (t.getD 0 0 % (p - 1) = t.getD 1 0 % (p - 1))
def R_pairs_within (ds : List PyData) (r : Res) : Prop := ∃ d, ds = [d] ∧ ((isGameD d = false ∧ r = .ex "BadGame") ∨ (∃ n k p m : Int, Valid n k p m ∧ d = eT [n, k, p, m] ∧ r = if k = 2 ∧ m = 2 then .ok (eLT (pairsM n p)) else .ex "Unlike"))
/-! ### the best next ticket -/
def bestStep (m : Int) (left : List (List Int)) (best : Option (Int × List Int)) (t : List Int) : Option (Int × List Int) :=
  let many : Int := ((left.filter (holdsM m t)).length : Int)
  if decide (0 < many) && (match best with | none => true | some b => decide (b.1 < many)) then some (many, t) else best
def bestM (n k m : Int) (left : List (List Int)) : Option (Int × List Int) := (ticketsM n k).foldl (bestStep m left) none
abbrev eBest : Int × List Int → PyData := fun b => .tuple [.int b.1, eT b.2]
def R_best_of (ds : List PyData) (r : Res) : Prop := ∃ (n k p m : Int) (left : List (List Int)), Valid n k p m ∧ left.length ≤ 1000 ∧ ds = [eT [n, k, p, m], eLT left] ∧ r = .ok (optD (fun b : Int × List Int => eT b.2) (bestM n k m left))
/-- bought one by one -/
def buyM (n k m : Int) : Nat → List (List Int) → Option (List (List Int × Int))
  | 0, left => if left = [] then some [] else none
  | f + 1, left => if left = [] then some [] else match bestM n k m left with
    | none => none
    | some b => (buyM n k m f (left.filter fun d => !holdsM m b.2 d)).map ((b.2, (((left.filter fun d => !holdsM m b.2 d).length : Nat) : Int)) :: ·)
abbrev eBuy : List Int × Int → PyData := fun b => .tuple [eT b.1, .int b.2]
end K

set_option maxRecDepth 100000
set_option maxHeartbeats 2000000
/-! SpF: what is in a choice; tickets bought one by one. -/
namespace K
open PySem L2 DL
theorem mem_comb : ∀ {xs : List Int} {j : Nat} {c : List Int}, c ∈ comb xs j ↔ c.Sublist xs ∧ c.length = j
  | xs, 0, c => by
    rw [comb_zero, List.mem_singleton]
    exact ⟨fun e => by subst e; exact ⟨List.nil_sublist _, rfl⟩, fun h => List.eq_nil_of_length_eq_zero h.2⟩
  | [], j + 1, c => by
    rw [comb]
    constructor
    · intro h; cases h
    · intro h
      have := List.sublist_nil.mp h.1
      rw [this] at h; simp at h
  | x :: xs, j + 1, c => by
    rw [comb, List.mem_append, List.mem_map]
    constructor
    · rintro (⟨d, hd, rfl⟩ | h)
      · have := mem_comb.mp hd
        exact ⟨this.1.cons_cons x, by simp [this.2]⟩
      · have := mem_comb.mp h
        exact ⟨this.1.cons x, this.2⟩
    · rintro ⟨h, hl⟩
      cases h with
      | cons _ h => exact .inr (mem_comb.mpr ⟨h, hl⟩)
      | cons_cons _ h => exact .inl ⟨_, mem_comb.mpr ⟨h, by simpa using hl⟩, rfl⟩
theorem sub_grow : ∀ {xs c : List Int} {k : Nat}, c.Sublist xs → c.length ≤ k → k ≤ xs.length → ∃ t, c.Sublist t ∧ t.Sublist xs ∧ t.length = k
  | _, _, k, .slnil, h1, h2 => ⟨[], .slnil, .slnil, by simp at h2; simp [h2]⟩
  | x :: xs, c, k, .cons _ h, h1, h2 => by
    by_cases e : k ≤ xs.length
    · obtain ⟨t, a, b, d⟩ := sub_grow h h1 e
      exact ⟨t, a, b.cons x, d⟩
    · obtain ⟨k', rfl⟩ : ∃ k', k = k' + 1 := ⟨k - 1, by simp at h2; omega⟩
      have hk : k' = xs.length := by simp at h2; omega
      have hc := h.length_le
      obtain ⟨t, a, b, d⟩ := sub_grow h (k := k') (by omega) (by omega)
      exact ⟨x :: t, a.cons x, b.cons_cons x, by simp [d]⟩
  | x :: xs, _ :: c, k, .cons_cons _ h, h1, h2 => by
    obtain ⟨k', rfl⟩ : ∃ k', k = k' + 1 := ⟨k - 1, by simp at h1; omega⟩
    obtain ⟨t, a, b, d⟩ := sub_grow h (k := k') (by simpa using h1) (by simpa using h2)
    exact ⟨x :: t, a.cons_cons x, b.cons_cons x, by simp [d]⟩
theorem shared_ge {c t d : List Int} (h : c.Sublist t) (hd : ∀ x, x ∈ c → x ∈ d) : c.length ≤ sharedM t d := by
  unfold sharedM
  have := (h.filter fun x => memD x d).length_le
  rwa [List.filter_eq_self.mpr fun x hx => memD_iff.mpr (hd x hx)] at this
/-- some ticket holds a draw -/
theorem some_holds {n k p m : Int} (hv : Valid n k p m) {d : List Int} (hd : d ∈ ticketsM n p) : ∃ t, t ∈ ticketsM n k ∧ holdsM m t d = true := by
  have hv' := ofValid hv
  obtain ⟨h1, h2⟩ := mem_comb.mp hd
  have hs : (d.take m.toNat).Sublist (nums n) := (List.take_sublist _ _).trans h1
  have hl : (d.take m.toNat).length = m.toNat := by rw [List.length_take]; omega
  obtain ⟨t, a, b, e⟩ := sub_grow hs (k := k.toNat) (by omega) (by rw [nums_len]; omega)
  refine ⟨t, mem_comb.mpr ⟨b, e⟩, decide_eq_true ?_⟩
  have := shared_ge (d := d) a fun x hx => List.mem_of_mem_take hx
  omega
theorem held_all : ((games 9).all fun g => decide (0 < heldM g.1 g.2.1 g.2.2.1 g.2.2.2 ∧ heldM g.1 g.2.1 g.2.2.1 g.2.2.2 < 1000)) = true := by decide +kernel
theorem held_ok {n k p m : Int} (h : Valid n k p m) : 0 < heldM n k p m ∧ heldM n k p m < 1000 := by
  have := List.all_eq_true.mp held_all _ (mem_games (most := 9) h (ofValid h).1.2)
  simpa only [decide_eq_true_eq] using this
theorem dsz_book {book : List (List Int)} (h : DSz (eTT book)) : BSz book := by
  obtain ⟨h1, h2⟩ := h _ rfl
  rw [List.length_map] at h1
  refine ⟨h1, fun t ht => ?_⟩
  have := h2 (eT t) (List.mem_map.mpr ⟨t, ht, rfl⟩) _ rfl
  rwa [List.length_map] at this
theorem bsz_dsz {book : List (List Int)} (h : BSz book) : DSz (eTT book) := by
  intro es e
  cases e
  refine ⟨by rw [List.length_map]; exact h.1, fun e he fs hf => ?_⟩
  obtain ⟨t, ht, rfl⟩ := List.mem_map.mp he
  cases hf
  rw [List.length_map]; exact h.2 t ht
theorem good_bsz {n k : Int} {book : List (List Int)} (hk : k ≤ 1000) (h : isGoodD n k (eTT book) = true) : BSz book := by
  rw [good_eTT, Bool.and_eq_true, Bool.and_eq_true, decide_eq_true_eq] at h
  refine ⟨by omega, fun t ht => ?_⟩
  have := areNums_len (List.all_eq_true.mp h.2.1 t ht)
  omega
/-! ### the best ticket -/
def cnt (m : Int) (left : List (List Int)) (t : List Int) : Int := ((left.filter (holdsM m t)).length : Int)
theorem bestStep_eq (m : Int) (left : List (List Int)) (best : Option (Int × List Int)) (t : List Int) : bestStep m left best t = if decide (0 < cnt m left t) && (match best with | none => true | some b => decide (b.1 < cnt m left t)) then some (cnt m left t, t) else best := rfl
/-- the first of those with most -/
structure IsBest (m : Int) (left ts : List (List Int)) (b : Int × List Int) : Prop where
  mem : b.2 ∈ ts
  eq : b.1 = cnt m left b.2
  pos : 0 < b.1
  most : ∀ t, t ∈ ts → cnt m left t ≤ b.1
theorem best_fold (m : Int) (left : List (List Int)) (ts : List (List Int)) :
    match ts.foldl (bestStep m left) none with
    | none => ∀ t, t ∈ ts → cnt m left t = 0
    | some b => IsBest m left ts b := by
  suffices H : ∀ (pre ts : List (List Int)) (o : Option (Int × List Int)), (match o with | none => ∀ t, t ∈ pre → cnt m left t = 0 | some b => IsBest m left pre b) →
      (match ts.foldl (bestStep m left) o with | none => ∀ t, t ∈ pre ++ ts → cnt m left t = 0 | some b => IsBest m left (pre ++ ts) b) by
    exact H [] ts none (fun _ h => nomatch h)
  intro pre ts
  induction ts generalizing pre with
  | nil => intro o h; rw [List.append_nil]; exact h
  | cons t ts ih =>
    intro o h
    rw [show pre ++ t :: ts = (pre ++ [t]) ++ ts by simp]
    refine ih (pre ++ [t]) _ ?_
    rw [bestStep_eq]
    have h0 : 0 ≤ cnt m left t := by unfold cnt; omega
    cases o with
    | none =>
      by_cases c : 0 < cnt m left t
      · rw [decide_eq_true c]
        refine ⟨by simp, rfl, c, fun t' ht' => ?_⟩
        rcases List.mem_append.mp ht' with z | z
        · rw [h t' z]; exact h0
        · rw [List.mem_singleton.mp z]; exact Int.le_refl _
      · rw [decide_eq_false c]
        intro t' ht'
        rcases List.mem_append.mp ht' with z | z
        · exact h t' z
        · rw [List.mem_singleton.mp z]; omega
    | some b =>
      by_cases c : 0 < cnt m left t ∧ b.1 < cnt m left t
      · show match (if (decide (0 < cnt m left t) && decide (b.1 < cnt m left t)) = true then some (cnt m left t, t) else some b) with | none => _ | some b => _
        rw [decide_eq_true c.1, decide_eq_true c.2]
        refine ⟨by simp, rfl, c.1, fun t' ht' => ?_⟩
        rcases List.mem_append.mp ht' with z | z
        · have := h.most t' z; show _ ≤ cnt m left t; omega
        · rw [List.mem_singleton.mp z]; exact Int.le_refl _
      · have e : (decide (0 < cnt m left t) && decide (b.1 < cnt m left t)) = false := by
          rw [Bool.and_eq_false_iff, decide_eq_false_iff_not, decide_eq_false_iff_not]
          by_cases q : 0 < cnt m left t
          · exact .inr fun z => c ⟨q, z⟩
          · exact .inl q
        show match (if (decide (0 < cnt m left t) && decide (b.1 < cnt m left t)) = true then some (cnt m left t, t) else some b) with | none => _ | some b => _
        rw [e]
        refine ⟨List.mem_append_left _ h.mem, h.eq, h.pos, fun t' ht' => ?_⟩
        rcases List.mem_append.mp ht' with z | z
        · exact h.most t' z
        · rw [List.mem_singleton.mp z]
          have := h.pos
          show _ ≤ b.1
          omega
theorem cnt_pos {m : Int} {left : List (List Int)} {t d : List Int} (hd : d ∈ left) (h : holdsM m t d = true) : 0 < cnt m left t := by
  unfold cnt
  have : d ∈ left.filter (holdsM m t) := List.mem_filter.mpr ⟨hd, h⟩
  have := List.length_pos_of_mem this
  omega
theorem best_some {n k p m : Int} (hv : Valid n k p m) {left : List (List Int)} (hs : ∀ d, d ∈ left → d ∈ ticketsM n p) (hne : left ≠ []) : ∃ b, bestM n k m left = some b ∧ IsBest m left (ticketsM n k) b := by
  have h := best_fold m left (ticketsM n k)
  change (match bestM n k m left with | none => _ | some b => _) at h
  cases e : bestM n k m left with
  | none =>
    rw [e] at h
    obtain ⟨d, hd⟩ := List.exists_mem_of_ne_nil left hne
    obtain ⟨t, ht, ho⟩ := some_holds hv (hs d hd)
    have := cnt_pos hd ho
    have := h t ht
    omega
  | some b => rw [e] at h; exact ⟨b, rfl, h⟩
theorem best_none (n k m : Int) : bestM n k m [] = none := by
  have h := best_fold m [] (ticketsM n k)
  change (match bestM n k m [] with | none => _ | some b => _) at h
  cases e : bestM n k m [] with
  | none => rfl
  | some b =>
    rw [e] at h
    have h1 := h.pos
    have h2 := h.eq
    unfold cnt at h2
    simp at h2; omega
abbrev restM (m : Int) (t : List Int) (left : List (List Int)) : List (List Int) := left.filter fun d => !holdsM m t d
theorem rest_len (m : Int) (t : List Int) (left : List (List Int)) : ((restM m t left).length : Int) = left.length - cnt m left t := by
  unfold cnt
  induction left with
  | nil => rfl
  | cons d ds ih =>
    simp only [restM, List.filter_cons] at ih ⊢
    cases holdsM m t d <;> simp <;> omega
inductive Buys (n k m : Int) : List (List Int) → List (List Int × Int) → Prop
  | nil : Buys n k m [] []
  | cons {left : List (List Int)} {b : Int × List Int} {r : List (List Int × Int)} (h : left ≠ []) (e : bestM n k m left = some b) (q : Buys n k m (restM m b.2 left) r) : Buys n k m left ((b.2, ((restM m b.2 left).length : Int)) :: r)
theorem buys_ex {n k p m : Int} (hv : Valid n k p m) : ∀ (f : Nat) {left : List (List Int)}, left.length ≤ f → (∀ d, d ∈ left → d ∈ ticketsM n p) → ∃ r, Buys n k m left r
  | 0, left, hl, _ => by
    have : left = [] := List.eq_nil_of_length_eq_zero (by omega)
    subst this; exact ⟨[], .nil⟩
  | f + 1, left, hl, hs => by
    by_cases hne : left = []
    · subst hne; exact ⟨[], .nil⟩
    · obtain ⟨b, e, hb⟩ := best_some hv hs hne
      have h1 := rest_len m b.2 left
      have h2 := hb.pos
      have h3 := hb.eq
      obtain ⟨r, hr⟩ := buys_ex hv f (left := restM m b.2 left) (by omega) (fun d hd => hs d (List.mem_filter.mp hd).1)
      exact ⟨_, .cons hne e hr⟩
theorem Buys.uniq {n k m : Int} {left : List (List Int)} {r r' : List (List Int × Int)} (h : Buys n k m left r) (h' : Buys n k m left r') : r = r' := by
  induction h generalizing r' with
  | nil => cases h' with
    | nil => rfl
    | cons h _ _ => exact absurd rfl h
  | cons hne e q ih =>
    cases h' with
    | nil => exact absurd rfl hne
    | cons _ e' q' =>
      rw [e] at e'; cases e'
      rw [ih q']
theorem buyM_ok {n k m : Int} : ∀ {f : Nat} {left : List (List Int)} {r : List (List Int × Int)}, buyM n k m f left = some r → Buys n k m left r
  | 0, left, r, h => by
    unfold buyM at h
    split at h
    · rename_i e; cases h; subst e; exact .nil
    · cases h
  | f + 1, left, r, h => by
    unfold buyM at h
    split at h
    · rename_i e; cases h; subst e; exact .nil
    · rename_i hne
      split at h
      · cases h
      · rename_i b e
        cases q : buyM n k m f (left.filter fun d => !holdsM m b.2 d) with
        | none => rw [q] at h; cases h
        | some r' =>
          rw [q] at h; cases h
          exact .cons hne e (buyM_ok q)
theorem Buys.len {n k p m : Int} (hv : Valid n k p m) {left : List (List Int)} {r : List (List Int × Int)} (h : Buys n k m left r) (hs : ∀ d, d ∈ left → d ∈ ticketsM n p) : r.length ≤ left.length := by
  induction h with
  | nil => exact Nat.le_refl _
  | cons hne e q ih =>
    obtain ⟨b', e', hb⟩ := best_some hv hs hne
    rw [e] at e'; cases e'
    have h2 := hb.pos
    have h4 := hb.eq
    have h5 := ih (fun d hd => hs d (List.mem_filter.mp hd).1)
    rename_i left b r
    have h3 := rest_len m b.2 left
    rw [List.length_cons]
    omega
theorem esc_sub {n p m : Int} {book : List (List Int)} : ∀ d, d ∈ escM n p m book → d ∈ ticketsM n p := fun d hd => (List.mem_filter.mp hd).1
def R_bought (ds : List PyData) (r : Res) : Prop := ∃ (n k p m : Int) (book : List (List Int)) (bs : List (List Int × Int)), Valid n k p m ∧ BSz book ∧ Buys n k m (escM n p m book) bs ∧ ds = [eT [n, k, p, m], eTT book] ∧ r = .ok (DL.lst eBuy bs)
/-- as looked, with what is told by a relation -/
def lookedR (F : Int → Int → Int → Int → List (List Int) → PyData → Prop) (ds : List PyData) (r : Res) : Prop := ∃ g d, ds = [g, d] ∧ ((isGameD g = false ∧ r = .ex "BadGame") ∨ (∃ n k p m : Int, Valid n k p m ∧ g = eT [n, k, p, m] ∧ DSz d ∧ ((isGoodD n k d = false ∧ r = .ex "BadBook") ∨ (∃ book e, d = eTT book ∧ isGoodD n k d = true ∧ F n k p m book e ∧ r = .ok e))))
def R_grown : List PyData → Res → Prop := lookedR fun n k p m book e => ∃ bs, Buys n k m (escM n p m book) bs ∧ e = eLT (bs.map (·.1))
def R_left_after : List PyData → Res → Prop := lookedR fun n k p m book e => ∃ bs, Buys n k m (escM n p m book) bs ∧ e = DL.lst PyData.int (bs.map (·.2))
def R_best_next : List PyData → Res → Prop := looked fun n k p m book => optD (fun b : Int × List Int => eT b.2) (bestM n k m (escM n p m book))
end K

set_option maxRecDepth 100000
set_option maxHeartbeats 2000000
/-! SpG: refusals as data; slices of books. -/
namespace K
open PySem L2 DL
abbrev refD (j : Int) : PyData := .tuple [.str "refused", .int j]
theorem encRef : Enc refD 1 := ⟨fun j => sh_refused j, fun a b => by
  show (PyData.eqv (.str "refused") (.str "refused") && (PyData.eqv (.int a) (.int b) && PyData.eqvAll [] [])) = true ↔ a = b
  rw [eqv_str, Enc.int.eqv]
  simp [PyData.eqvAll]⟩
abbrev fndD {α : Type} (f : α → PyData) (a : α) : PyData := .tuple [.str "found", f a]
theorem encFnd {α : Type} {f : α → PyData} {n : Nat} (E : Enc f n) : Enc (fndD f) (n + 1) := ⟨fun a => sh_found (E.sh a), fun a b => by
  show (PyData.eqv (.str "found") (.str "found") && (PyData.eqv (f a) (f b) && PyData.eqvAll [] [])) = true ↔ a = b
  rw [eqv_str, Bool.and_eq_true, Bool.and_eq_true, E.eq]
  simp [PyData.eqvAll]⟩
theorem fnd_ne_ref (d : PyData) (j : Int) : PyData.eqv (.tuple [.str "found", d]) (refD j) = false := by
  show (PyData.eqv (.str "found") (.str "refused") && PyData.eqvAll [d] [.int j]) = false
  rw [eqv_str, decide_eq_false (by decide)]; rfl
theorem ref_ne_fnd (d : PyData) (j : Int) : PyData.eqv (refD j) (.tuple [.str "found", d]) = false := by
  show (PyData.eqv (.str "refused") (.str "found") && PyData.eqvAll [.int j] [d]) = false
  rw [eqv_str, decide_eq_false (by decide)]; rfl
theorem told_ex {R1 : List PyData → Res → Prop} {a b : PyData} {c : Str} (j : Nat) (h : R1 [a, b] (.ex c)) (hc : c ∈ clsL := by decide +kernel) (hj : wordM c = j := by decide +kernel) : R_told R1 [a, b] (.ok (refD j)) :=
  ⟨a, b, .ex c, rfl, h, fun _ e => by cases e; exact hc, by rw [← hj]; rfl⟩
theorem told_ok {R1 : List PyData → Res → Prop} {a b d : PyData} (h : R1 [a, b] (.ok d)) : R_told R1 [a, b] (.ok (.tuple [.str "found", d])) :=
  ⟨a, b, .ok d, rfl, h, (fun _ e => nomatch e), rfl⟩
theorem cut_to {xs : List (List Int)} {j : Int} (h : 0 ≤ j) : PyData.tuple (cutD (xs.map eT) none (some j)) = eTT (xs.take j.toNat) := by
  rw [cutD_map, cutD_to xs h]
theorem cut_from {xs : List (List Int)} {j : Int} (h : 0 ≤ j) : PyData.tuple (cutD (xs.map eT) (some j) none) = eTT (xs.drop j.toNat) := by
  rw [cutD_map, cutD_from xs h]
theorem sort_ne {xs : List (List Int)} (h : ∀ x, x ∈ xs → x ≠ []) : ∀ x, x ∈ sortM xs → x ≠ [] := fun x hx => h x ((sortM_perm xs).mem_iff.mp hx)
end K

set_option maxRecDepth 100000
set_option maxHeartbeats 2000000
/-! SpH: what the laws draw: numbers, books; all rows. -/
namespace K
open PySem L2 DL
/-! ### rising lists -/
theorem riseB_iff : ∀ {xs : List Int}, riseB xs = true ↔ xs.Pairwise (· < ·)
  | [] => by simp [riseB]
  | [x] => by simp [riseB]
  | x :: y :: r => by
    have ih := riseB_iff (xs := y :: r)
    rw [riseB, Bool.and_eq_true, decide_eq_true_eq, ih, List.pairwise_cons (l := y :: r)]
    constructor
    · rintro ⟨h, hp⟩
      refine ⟨fun z hz => ?_, hp⟩
      rcases List.mem_cons.mp hz with e | e
      · rw [e]; exact h
      · have := (List.pairwise_cons.mp hp).1 z e
        omega
    · rintro ⟨h, hp⟩
      exact ⟨h y (by simp), hp⟩
theorem rng_rise (lo : Int) (n : Nat) : (rng lo n).Pairwise (· < ·) := by
  unfold rng
  rw [List.pairwise_map]
  exact List.pairwise_lt_range.imp fun h => by omega
theorem mem_rng {lo : Int} {n : Nat} {x : Int} : x ∈ rng lo n ↔ lo ≤ x ∧ x < lo + n := by
  unfold rng
  rw [List.mem_map]
  constructor
  · rintro ⟨i, hi, rfl⟩
    have := List.mem_range.mp hi
    omega
  · rintro ⟨h1, h2⟩
    exact ⟨(x - lo).toNat, List.mem_range.mpr (by omega), by omega⟩
theorem mem_nums {n x : Int} : x ∈ nums n ↔ 1 ≤ x ∧ x ≤ n := by
  unfold nums
  rw [mem_rng]; omega
theorem nums_rise (n : Int) : (nums n).Pairwise (· < ·) := rng_rise _ _
theorem sub_of_rise : ∀ {xs t : List Int}, xs.Pairwise (· < ·) → t.Pairwise (· < ·) → (∀ x, x ∈ t → x ∈ xs) → t.Sublist xs
  | _, [], _, _, _ => List.nil_sublist _
  | [], a :: t, _, _, h => nomatch h a (by simp)
  | x :: xs, a :: t, h1, h2, h3 => by
    rw [List.pairwise_cons] at h1
    have h2' := List.pairwise_cons.mp h2
    rcases List.mem_cons.mp (h3 a (by simp)) with e | e
    · subst e
      refine (sub_of_rise h1.2 h2'.2 fun y hy => ?_).cons_cons a
      rcases List.mem_cons.mp (h3 y (List.mem_cons_of_mem _ hy)) with q | q
      · have := h2'.1 y hy; omega
      · exact q
    · refine (sub_of_rise h1.2 h2 fun y hy => ?_).cons x
      rcases List.mem_cons.mp (h3 y hy) with q | q
      · have h4 := h1.1 a e
        rcases List.mem_cons.mp hy with z | z
        · omega
        · have := h2'.1 y z; omega
      · exact q
theorem areNums_iff {n k : Int} {t : List Int} : areNumsD n (eT t) k = true ↔ (t.length : Int) = k ∧ (∀ x, x ∈ t → 1 ≤ x ∧ x ≤ n) ∧ t.Pairwise (· < ·) := by
  show (decide (((t.map PyData.int).length : Int) = k) && ((t.map PyData.int).all (fun x => isWholeD x 1 n) && riseB ((t.map PyData.int).map getI))) = true ↔ _
  rw [Bool.and_eq_true, Bool.and_eq_true, decide_eq_true_eq, List.length_map, List.all_map, List.map_map, show (getI ∘ PyData.int) = id from rfl, List.map_id, riseB_iff, List.all_eq_true]
  refine and_congr_right fun _ => and_congr_left fun _ => forall_congr' fun x => imp_congr_right fun _ => ?_
  show (decide (1 ≤ x) && decide (x ≤ n)) = true ↔ _
  rw [Bool.and_eq_true, decide_eq_true_eq, decide_eq_true_eq]
theorem areNums_mem {n k : Int} {t : List Int} (hk : 0 ≤ k) : areNumsD n (eT t) k = true ↔ t ∈ ticketsM n k := by
  rw [areNums_iff]
  unfold ticketsM
  rw [mem_comb]
  constructor
  · rintro ⟨h1, h2, h3⟩
    exact ⟨sub_of_rise (nums_rise n) h3 fun x hx => mem_nums.mpr (h2 x hx), by omega⟩
  · rintro ⟨h1, h2⟩
    exact ⟨by omega, fun x hx => mem_nums.mp (h1.subset hx), (nums_rise n).sublist h1⟩
theorem ticket_mem {n k : Int} {t : List Int} (h : t ∈ ticketsM n k) : ∀ x, x ∈ t → 1 ≤ x ∧ x ≤ n := fun x hx => mem_nums.mp ((mem_comb.mp h).1.subset hx)
theorem ticket_rise {n k : Int} {t : List Int} (h : t ∈ ticketsM n k) : t.Pairwise (· < ·) := (nums_rise n).sublist (mem_comb.mp h).1
theorem ticket_bd {n k : Int} {t : List Int} (hn : n ≤ 9) (h : t ∈ ticketsM n k) : TS.Bd 10 t := fun x hx => by
  have := ticket_mem h x hx
  omega
theorem ticket_ne {n k : Int} {t : List Int} (hk : 1 ≤ k) (h : t ∈ ticketsM n k) : t ≠ [] := fun e => by
  have := tickets_len h
  rw [e] at this; simp at this; omega
/-! ### insertion of ints -/
def insI (x : Int) : List Int → List Int
  | [] => [x]
  | y :: ys => if y < x then y :: insI x ys else x :: y :: ys
def sortI : List Int → List Int
  | [] => []
  | x :: xs => insI x (sortI xs)
theorem insI_perm (x : Int) : ∀ ys, (insI x ys).Perm (x :: ys)
  | [] => List.Perm.refl _
  | y :: ys => by
    unfold insI
    split
    · exact ((insI_perm x ys).cons y).trans (List.Perm.swap x y ys)
    · exact List.Perm.refl _
theorem sortI_perm : ∀ xs, (sortI xs).Perm xs
  | [] => List.Perm.refl _
  | x :: xs => (insI_perm x (sortI xs)).trans ((sortI_perm xs).cons x)
theorem insI_rise (x : Int) : ∀ {ys : List Int}, ys.Pairwise (· ≤ ·) → (insI x ys).Pairwise (· ≤ ·)
  | [], _ => by simp [insI]
  | y :: ys, h => by
    unfold insI
    have h' := List.pairwise_cons.mp h
    split
    · rename_i c
      rw [List.pairwise_cons]
      refine ⟨fun z hz => ?_, insI_rise x h'.2⟩
      rcases List.mem_cons.mp ((insI_perm x ys).mem_iff.mp hz) with e | e
      · omega
      · exact h'.1 z e
    · rename_i c
      rw [List.pairwise_cons]
      refine ⟨fun z hz => ?_, h⟩
      rcases List.mem_cons.mp hz with e | e
      · omega
      · have := h'.1 z e; omega
theorem sortI_rise : ∀ xs, (sortI xs).Pairwise (· ≤ ·)
  | [] => List.Pairwise.nil
  | x :: xs => insI_rise x (sortI_rise xs)
theorem lt_of_le_nodup {xs : List Int} (h : xs.Pairwise (· ≤ ·)) (hn : xs.Nodup) : xs.Pairwise (· < ·) := (h.and hn).imp fun ⟨a, b⟩ => by omega
/-! ### what is drawn -/
def R_pick (script T : List Int) (ds : List PyData) (d : PyData) (T' : List Int) : Prop := ∃ es : List PyData, (0 < es.length ∧ es.length < 1073741824) ∧ TOk script T 1 ∧ script.length ≤ 63 ∧ ds = [.list es] ∧ es[(drawM script T (es.length : Int)).1.toNat]? = some d ∧ T' = (drawM script T (es.length : Int)).2
def nmM (script : List Int) : Nat → List Int → List Int → List Int → List Int × List Int
  | 0, _, sm, T => (sm, T)
  | j + 1, left, sm, T => nmM script j (left.filter fun x => !decide (x = left.getD (drawM script T (left.length : Int)).1.toNat 0)) (sm ++ [left.getD (drawM script T (left.length : Int)).1.toNat 0]) (drawM script T (left.length : Int)).2
def numbersM (script T : List Int) (n many : Int) : List Int × List Int := (sortI (nmM script many.toNat (nums n) [] T).1, (nmM script many.toNat (nums n) [] T).2)
theorem draw_get {script T left : List Int} (h : left ≠ []) : left[(drawM script T (left.length : Int)).1.toNat]? = some (left.getD (drawM script T (left.length : Int)).1.toNat 0) ∧ left.getD (drawM script T (left.length : Int)).1.toNat 0 ∈ left := by
  have hp := List.length_pos_iff.mpr h
  have hr := drawM_range script T (many := (left.length : Int)) (by omega)
  have hl : (drawM script T (left.length : Int)).1.toNat < left.length := by omega
  rw [List.getD_eq_getElem?_getD, List.getElem?_eq_getElem hl]
  exact ⟨rfl, List.getElem_mem hl⟩
theorem filter_perm {left : List Int} {x : Int} (hn : left.Nodup) (hx : x ∈ left) : left.Perm (x :: left.filter fun y => !decide (y = x)) := by
  have := List.perm_cons_erase hx
  rw [hn.erase_eq_filter] at this
  refine this.trans (List.Perm.cons x ?_)
  rw [show (fun y : Int => y != x) = (fun y => !decide (y = x)) from funext fun y => by cases h : decide (y = x) <;> simp_all [bne]]
/-- what holds in the course of drawing -/
structure NmOk (script : List Int) (n : Int) (f i : Nat) (left sm T : List Int) : Prop where
  perm : (sm ++ left).Perm (nums n)
  len : sm.length = i
  ok : TOk script T f
theorem NmOk.start {script T : List Int} {n : Int} {f : Nat} (h : TOk script T f) : NmOk script n f 0 (nums n) [] T := ⟨List.Perm.refl _, rfl, h⟩
theorem NmOk.nd {script : List Int} {n : Int} {f i : Nat} {left sm T : List Int} (h : NmOk script n f i left sm T) : (sm ++ left).Nodup := h.perm.nodup_iff.mpr ((nums_rise n).imp fun h => by omega)
theorem NmOk.ll {script : List Int} {n : Int} {f i : Nat} {left sm T : List Int} (h : NmOk script n f i left sm T) : i + left.length = n.toNat := by
  have := h.perm.length_eq
  rw [List.length_append, nums_len, h.len] at this; exact this
theorem NmOk.ne {script : List Int} {n : Int} {f i : Nat} {left sm T : List Int} (h : NmOk script n f i left sm T) (hi : (i : Int) < n) : left ≠ [] := fun e => by
  have := h.ll
  rw [e] at this; simp at this; omega
theorem NmOk.step {script : List Int} {n : Int} {f i : Nat} {left sm T : List Int} (h : NmOk script n (f + 1) i left sm T) (hi : (i : Int) < n) :
    NmOk script n f (i + 1) (left.filter fun x => !decide (x = left.getD (drawM script T (left.length : Int)).1.toNat 0)) (sm ++ [left.getD (drawM script T (left.length : Int)).1.toNat 0]) (drawM script T (left.length : Int)).2 := by
  have g := (draw_get (script := script) (T := T) (h.ne hi)).2
  have hn := (List.nodup_append.mp h.nd).2.1
  refine ⟨?_, by rw [List.length_append, h.len]; rfl, drawM_ok h.ok⟩
  rw [List.append_assoc]
  exact ((filter_perm hn g).symm.append_left sm).trans h.perm
theorem nmM_ok {script : List Int} {n : Int} : ∀ (j : Nat) {f i : Nat} {left sm T : List Int}, NmOk script n (f + j) i left sm T → ((i + j : Nat) : Int) ≤ n → ∃ left', NmOk script n f (i + j) left' (nmM script j left sm T).1 (nmM script j left sm T).2
  | 0, f, i, left, sm, T, h, _ => ⟨left, h⟩
  | j + 1, f, i, left, sm, T, h, hl => by
    have := nmM_ok j (f := f) (NmOk.step (f := f + j) h (by omega)) (by omega)
    rw [show i + (j + 1) = i + 1 + j by omega]
    exact this
theorem numbersM_ok {script T : List Int} {n many : Int} {f : Nat} (h : TOk script T (f + many.toNat)) (h0 : 0 ≤ many) (hl : many ≤ n) : (numbersM script T n many).1 ∈ ticketsM n many ∧ TOk script (numbersM script T n many).2 f := by
  obtain ⟨left', q⟩ := nmM_ok many.toNat (f := f) (NmOk.start (n := n) h) (by omega)
  unfold numbersM
  refine ⟨(areNums_mem h0).mp (areNums_iff.mpr ⟨?_, fun x hx => ?_, ?_⟩), q.ok⟩
  · have := (sortI_perm (nmM script many.toNat (nums n) [] T).1).length_eq
    rw [q.len] at this
    show ((sortI (nmM script many.toNat (nums n) [] T).1).length : Int) = many
    omega
  · have := (sortI_perm _).mem_iff.mp hx
    exact mem_nums.mp (q.perm.mem_iff.mp (List.mem_append_left _ this))
  · exact lt_of_le_nodup (sortI_rise _) ((sortI_perm _).nodup_iff.mpr (List.nodup_append.mp q.nd).1)
def R_numbers (script T : List Int) (ds : List PyData) (d : PyData) (T' : List Int) : Prop := ∃ n many : Int, (0 ≤ many ∧ many ≤ n ∧ n ≤ 9) ∧ TOk script T many.toNat ∧ script.length ≤ 63 ∧ ds = [.int n, .int many] ∧ d = eT (numbersM script T n many).1 ∧ T' = (numbersM script T n many).2
/-! ### sets of rows -/
def insU (x : List Int) : List (List Int) → List (List Int)
  | [] => [x]
  | y :: ys => if x = y then y :: ys else if HT.lexLt y x = true then y :: insU x ys else x :: y :: ys
def setM : List (List Int) → List (List Int)
  | [] => []
  | x :: xs => insU x (setM xs)
theorem insU_mem (x : List Int) : ∀ (ys : List (List Int)) (z : List Int), z ∈ insU x ys ↔ z = x ∨ z ∈ ys
  | [], z => by simp [insU]
  | y :: ys, z => by
    unfold insU
    split
    · rename_i e
      subst e
      simp
    · split
      · rw [List.mem_cons, insU_mem x ys z, List.mem_cons]
        constructor
        · rintro (a | a | a)
          · exact .inr (.inl a)
          · exact .inl a
          · exact .inr (.inr a)
        · rintro (a | a | a)
          · exact .inr (.inl a)
          · exact .inl a
          · exact .inr (.inr a)
      · simp
theorem lex_tr {a b c : List Int} (h1 : HT.lexLt a b = true) (h2 : HT.lexLt b c = true) : HT.lexLt a c = true := by
  cases h : HT.lexLt a c with
  | true => rfl
  | false =>
    have h3 := Srt.lexLt_swo.asym _ _ h1
    have := Srt.lexLt_swo.tr c a b h h3
    rw [h2] at this; cases this
theorem lex_lt {a b : List Int} (h : a ≠ b) (h2 : HT.lexLt b a = false) : HT.lexLt a b = true := by
  cases q : HT.lexLt a b with
  | true => rfl
  | false => exact absurd (lexLt_total a b q h2) h
theorem insU_rise (x : List Int) : ∀ {ys : List (List Int)}, ys.Pairwise (fun a b => HT.lexLt a b = true) → (insU x ys).Pairwise fun a b => HT.lexLt a b = true
  | [], _ => by simp [insU]
  | y :: ys, h => by
    unfold insU
    have h' := List.pairwise_cons.mp h
    split
    · exact h
    · rename_i ne
      split
      · rename_i c
        rw [List.pairwise_cons]
        refine ⟨fun z hz => ?_, insU_rise x h'.2⟩
        rcases (insU_mem x ys z).mp hz with e | e
        · rw [e]; exact c
        · exact h'.1 z e
      · rename_i c
        have c' : HT.lexLt x y = true := lex_lt ne (by simpa using c)
        rw [List.pairwise_cons]
        refine ⟨fun z hz => ?_, h⟩
        rcases List.mem_cons.mp hz with e | e
        · rw [e]; exact c'
        · exact lex_tr c' (h'.1 z e)
theorem setM_mem : ∀ (xs : List (List Int)) (z : List Int), z ∈ setM xs ↔ z ∈ xs
  | [], z => by simp [setM]
  | x :: xs, z => by rw [setM, insU_mem, setM_mem xs z, List.mem_cons]
theorem setM_rise : ∀ (xs : List (List Int)), (setM xs).Pairwise fun a b => HT.lexLt a b = true
  | [] => List.Pairwise.nil
  | x :: xs => insU_rise x (setM_rise xs)
theorem setM_ok (xs : List (List Int)) : SetRise xs (setM xs) := ⟨setM_rise xs, setM_mem xs⟩
theorem insU_len (x : List Int) : ∀ ys : List (List Int), (insU x ys).length ≤ ys.length + 1
  | [] => by simp [insU]
  | y :: ys => by
    unfold insU
    split
    · omega
    · split
      · have := insU_len x ys; simp; omega
      · simp
theorem setM_len : ∀ xs : List (List Int), (setM xs).length ≤ xs.length
  | [] => Nat.le_refl _
  | x :: xs => by
    have := insU_len x (setM xs)
    have := setM_len xs
    rw [setM, List.length_cons]; omega
theorem riseT_iff : ∀ {xs : List (List Int)}, riseT xs = true ↔ xs.Pairwise (fun a b => HT.lexLt a b = true)
  | [] => by simp [riseT]
  | [x] => by simp [riseT]
  | x :: y :: r => by
    have ih := riseT_iff (xs := y :: r)
    rw [riseT, Bool.and_eq_true, ih, List.pairwise_cons (l := y :: r)]
    constructor
    · rintro ⟨h, hp⟩
      refine ⟨fun z hz => ?_, hp⟩
      rcases List.mem_cons.mp hz with e | e
      · rw [e]; exact h
      · exact lex_tr h ((List.pairwise_cons.mp hp).1 z e)
    · rintro ⟨h, hp⟩
      exact ⟨h y (by simp), hp⟩
/-- what a book is -/
structure IsBook (n k : Int) (book : List (List Int)) : Prop where
  mem : ∀ t, t ∈ book → t ∈ ticketsM n k
  rise : book.Pairwise fun a b => HT.lexLt a b = true
theorem IsBook.good {n k : Int} {book : List (List Int)} (h : IsBook n k book) (hk : 0 ≤ k) (hl : book.length ≤ 20) : isGoodD n k (eTT book) = true := by
  rw [good_eTT, Bool.and_eq_true, Bool.and_eq_true, decide_eq_true_eq, List.all_eq_true]
  exact ⟨by omega, fun t ht => (areNums_mem hk).mpr (h.mem t ht), riseT_iff.mpr h.rise⟩
theorem IsBook.of_good {n k : Int} {book : List (List Int)} (hk : 0 ≤ k) (h : isGoodD n k (eTT book) = true) : IsBook n k book ∧ book.length ≤ 20 := by
  rw [good_eTT, Bool.and_eq_true, Bool.and_eq_true, decide_eq_true_eq, List.all_eq_true] at h
  exact ⟨⟨fun t ht => (areNums_mem hk).mp (h.2.1 t ht), riseT_iff.mp h.2.2⟩, by omega⟩
theorem IsBook.set {n k : Int} {xs : List (List Int)} (h : ∀ t, t ∈ xs → t ∈ ticketsM n k) : IsBook n k (setM xs) := ⟨fun t ht => h t ((setM_mem xs t).mp ht), setM_rise xs⟩
theorem IsBook.sub {n k : Int} {book b : List (List Int)} (h : IsBook n k book) (s : b.Sublist book) : IsBook n k b := ⟨fun t ht => h.mem t (s.subset ht), h.rise.sublist s⟩
theorem IsBook.bsz {n k : Int} {book : List (List Int)} (h : IsBook n k book) (hk : k ≤ 1000) (hl : book.length ≤ 1000) : BSz book := ⟨hl, fun t ht => by have := tickets_len (h.mem t ht); omega⟩
theorem IsBook.nodup {n k : Int} {book : List (List Int)} (h : IsBook n k book) : book.Nodup := h.rise.imp fun {a b} hab e => by
  subst e
  rw [lexLt_irr] at hab; cases hab
def bkM (script : List Int) (n k : Int) : Nat → List Int → List (List Int) × List Int
  | 0, T => ([], T)
  | j + 1, T => ((bkM script n k j T).1 ++ [(numbersM script (bkM script n k j T).2 n k).1], (numbersM script (bkM script n k j T).2 n k).2)
theorem bkM_ok {script : List Int} {n k : Int} (h0 : 0 ≤ k) (hl : k ≤ n) : ∀ (j : Nat) {f : Nat} {T : List Int}, TOk script T (f + j * k.toNat) → (bkM script n k j T).1.length = j ∧ (∀ t, t ∈ (bkM script n k j T).1 → t ∈ ticketsM n k) ∧ TOk script (bkM script n k j T).2 f
  | 0, f, T, h => ⟨rfl, (fun _ z => nomatch z), h.mono (by omega)⟩
  | j + 1, f, T, h => by
    rw [Nat.succ_mul] at h
    obtain ⟨h1, h2, h3⟩ := bkM_ok h0 hl j (f := f + k.toNat) (h.mono (by omega))
    obtain ⟨h4, h5⟩ := numbersM_ok h3 h0 hl
    refine ⟨by rw [bkM, List.length_append, h1]; rfl, fun t ht => ?_, h5⟩
    rcases List.mem_append.mp ht with e | e
    · exact h2 t e
    · rw [List.mem_singleton.mp e]; exact h4
def lbookM (script T : List Int) (n k most : Int) : List (List Int) × List Int :=
  let a := drawM script T (most + 1)
  let b := bkM script n k a.1.toNat a.2
  (setM b.1, b.2)
theorem lbookM_ok {script T : List Int} {n k most : Int} {f : Nat} (h : TOk script T (f + 100)) (h0 : 0 ≤ k) (hl : k ≤ n) (h5 : k ≤ 5) (hm : 0 ≤ most ∧ most ≤ 9) : IsBook n k (lbookM script T n k most).1 ∧ ((lbookM script T n k most).1.length : Int) ≤ most ∧ TOk script (lbookM script T n k most).2 f := by
  unfold lbookM
  dsimp only
  have hr := drawM_range script T (many := most + 1) (by omega)
  have ho := drawM_ok (many := most + 1) (f := f + 99) h
  generalize drawM script T (most + 1) = a at hr ho ⊢
  have hjk : a.1.toNat * k.toNat ≤ 9 * 5 := Nat.mul_le_mul (by omega) (by omega)
  obtain ⟨h1, h2, h3⟩ := bkM_ok h0 hl a.1.toNat (f := f) (ho.mono (by omega))
  exact ⟨IsBook.set h2, by have := setM_len (bkM script n k a.1.toNat a.2).1; omega, h3⟩
def R_lbook (script T : List Int) (ds : List PyData) (d : PyData) (T' : List Int) : Prop := ∃ n k p m most : Int, Valid n k p m ∧ (0 ≤ most ∧ most ≤ 9) ∧ TOk script T 100 ∧ script.length ≤ 63 ∧ ds = [eT [n, k, p, m], .int most] ∧ d = eTT (lbookM script T n k most).1 ∧ T' = (lbookM script T n k most).2
/-! ### all rows -/
def chStepM (many : Int) (rows : List (List Int)) (one : Int) : List (List Int) := rows ++ ((rows.filter fun r => decide ((r.length : Int) < many)).map (· ++ [one]))
def chRowsM (n many : Int) : List (List Int) := (nums n).foldl (chStepM many) [[]]
theorem chSteps_len (many : Int) : ∀ (os : List Int) (rows : List (List Int)), (os.foldl (chStepM many) rows).length ≤ rows.length * 2 ^ os.length
  | [], rows => by simp
  | o :: os, rows => by
    rw [List.foldl_cons]
    refine Nat.le_trans (chSteps_len many os _) ?_
    rw [List.length_cons, Nat.pow_succ, Nat.mul_comm (2 ^ os.length) 2, ← Nat.mul_assoc]
    refine Nat.mul_le_mul_right _ ?_
    unfold chStepM
    rw [List.length_append, List.length_map]
    have := List.length_filter_le (fun r : List Int => decide ((r.length : Int) < many)) rows
    omega
def chB (n many : Int) : Bool := decide (sortM ((chRowsM n many).filter fun r => decide ((r.length : Int) = many)) = ticketsM n many)
theorem chosen_all : ((List.range 10).all fun (n : Nat) => (List.range 6).all fun (k : Nat) => decide (k = 0) || chB (n : Int) (k : Int)) = true := by decide +kernel
theorem chosen_ok {n many : Int} (h : 0 ≤ n ∧ n ≤ 9 ∧ 1 ≤ many ∧ many ≤ 5) : Rise ((chRowsM n many).filter fun r => decide ((r.length : Int) = many)) (ticketsM n many) := by
  have h1 := List.all_eq_true.mp (List.all_eq_true.mp chosen_all n.toNat (List.mem_range.mpr (by omega))) many.toNat (List.mem_range.mpr (by omega))
  rw [Int.toNat_of_nonneg h.1, Int.toNat_of_nonneg (by omega), decide_eq_false (by omega), Bool.false_or] at h1
  have h2 := of_decide_eq_true h1
  rw [← h2]
  exact sortM_ok _
def R__law_chosen (ds : List PyData) (r : Res) : Prop := ∃ n many : Int, (1 ≤ n ∧ n ≤ 9 ∧ 1 ≤ many ∧ many ≤ 5) ∧ ds = [.int n, .int many] ∧ r = .ok (eLT (ticketsM n many))
def R__law_met (ds : List PyData) (r : Res) : Prop := ∃ t dr : List Int, t.length ≤ 1000 ∧ ds = [eT t, eT dr] ∧ r = .ok (.int (sharedM t dr))
def R__law_missed (ds : List PyData) (r : Res) : Prop := ∃ (n k p m : Int) (book : List (List Int)) (d : PyData), Valid n k p m ∧ BSz book ∧ (d = eTT book ∨ d = eLT book) ∧ ds = [eT [n, k, p, m], d] ∧ r = .ok (eLT (escM n p m book))
end K

set_option maxRecDepth 100000
set_option maxHeartbeats 2000000
/-! DLv: comprehensions whose element changes slots. -/
namespace DL
open PySem L2
theorem outs_all (y : Nat → PyData) : ∀ n, outs (fun _ => true) y n = (List.range n).map y
  | 0 => rfl
  | n + 1 => by rw [outs_succ, if_pos rfl, outs_all y n, List.range_succ, List.map_append]; rfl
theorem LC.thr {X : Cx} {elt tg iter : Expr} {scope : Scope} {τ τ1 : List SV} {α : Type} {xs : List α} {enc : α → PyData} (i : Nat) (nm : Str) (hi : EVI X tg iter τ (xs.map enc) τ1) (τf : Nat → List SV) (y : Nat → PyData) (h0 : τf 0 = τ1) (hown : ∀ j, own (τf j) = own τ1) (hvs : ∀ j, (τf j)[i]? = τ1[i]?)
    (turn : ∀ j a, xs[j]? = some a → InBlk X scope fun X' => EV X' elt ((τf j).set i (.pu (enc a))) (y j) ((τf (j + 1)).set i (.pu (enc a)))) (hz : xs.length < sizeLine) (ok : BlkOk X.N X.env.scope scope [(nm, i)] := by exact blkOk_by (by kernel_rfl)) (hg : InBlk X scope fun X' => PG X' tg (gName i) := by exact fun _ _ _ _ _ => pg_name (by assumption) rfl (by first | exact Or.inl rfl | exact Or.inr rfl)) (no : nOw τ1[i]? = true := by rfl) :
    LC X elt tg iter [] scope [(nm, i)] τ ((List.range xs.length).map y) (τf xs.length) := by
  have key := LC.mk' (X := X) (elt := elt) (ifs := []) (g := gName i) (ow_ := [(nm, i)]) hi τf (fun _ => true) y h0 hown (fun j k hk => by
      have : k = i := by simpa using hk
      subst this; exact hvs j) (by simp [noOw, no]) (by decide) (by rw [List.length_map]; exact hz) ok hg (fun j d hd => by
      rw [List.getElem?_map] at hd
      obtain ⟨a, ha, rfl⟩ := Option.map_eq_some_iff.mp hd
      refine ⟨_, _, EG.name i (by simp) (show nOw ((τf j).set i .un)[i]? = true from ?_), ⟨rfl, rfl⟩, fun _ => ⟨(τf (j + 1)).set i (.pu (enc a)), ?_, ?_⟩, fun z => nomatch z⟩
      · by_cases hl : i < (τf j).length
        · rw [List.getElem?_set_self hl]; rfl
        · rw [List.getElem?_eq_none (by simpa using Nat.le_of_not_lt hl)]; rfl
      · have := turn j a ha
        show InBlk X scope fun X' => EV X' elt (((τf j).set i .un).set i (.pu (enc a))) (y j) _
        rw [List.set_set]; exact this
      · show ((τf (j + 1)).set i (.pu (enc a))).set i .un = (τf (j + 1)).set i .un
        rw [List.set_set])
  rw [List.length_map, outs_all] at key
  exact key
end DL

set_option maxRecDepth 100000
set_option maxHeartbeats 2000000
/-! DLy: min and max over data, with a default or none. -/
namespace DL
open PySem PySem.Spec PyProof.Rows L2
open PySem.W (dataLt alike alikeAll)
/-- what two of a kind are compared by -/
structure Alk {α : Type} (f : α → PyData) (n : Nat) (lt : α → α → Bool) : Prop where
  al : ∀ a b, alike (f a) (f b) = true
  nn : ∀ a, f a ≠ .none
  sh : ∀ a, Sh n (f a)
  lt : ∀ a b, dataLt (f a) (f b) = lt a b
theorem Alk.int : Alk PyData.int 0 fun a b => decide (a < b) := ⟨fun a b => by simp [alike], (fun a e => by cases e), fun a => Sh.int a, PySem.W.dataLt_int⟩
theorem alikeInts : ∀ xs ys : List Int, alikeAll (xs.map PyData.int) (ys.map PyData.int) = true
  | [], _ => by simp [alikeAll]
  | _ :: _, [] => by simp [alikeAll]
  | x :: xs, y :: ys => by simp only [List.map_cons, alikeAll, alike, Bool.true_and]; exact alikeInts xs ys
theorem lexLt_dec : ∀ xs ys : List Int, HT.lexLt xs ys = decide (xs < ys)
  | [], [] => by simp [HT.lexLt]
  | [], _ :: _ => by simp [HT.lexLt]
  | _ :: _, [] => by simp [HT.lexLt]
  | x :: xs, y :: ys => by
    rw [HT.lexLt_cons, lexLt_dec xs ys]
    by_cases e : x = y
    · subst e; rw [if_pos rfl]; simp
    · rw [if_neg e]
      by_cases c : x < y
      · rw [decide_eq_true c, decide_eq_true (List.cons_lt_cons_iff.mpr (.inl c))]
      · rw [decide_eq_false c, decide_eq_false fun z => (List.cons_lt_cons_iff.mp z).elim c fun q => e q.1]
theorem dataLt_eT (xs ys : List Int) : dataLt (eT xs) (eT ys) = HT.lexLt xs ys := by
  rw [PySem.W.dataLt_tuple, lexLt_dec]
  exact PySem.W.dataLt_ints xs ys
theorem Alk.tup : Alk eT 1 HT.lexLt := ⟨fun a b => by show alikeAll _ _ = true; exact alikeInts a b, (fun a e => by cases e), fun a => encT.sh a, dataLt_eT⟩
/-- pairs: a number, a row -/
def lt2 (a b : Int × List Int) : Bool := if a.1 = b.1 then HT.lexLt a.2 b.2 else decide (a.1 < b.1)
abbrev eIT : Int × List Int → PyData := fun p => .tuple [.int p.1, eT p.2]
theorem Alk.pair : Alk eIT 2 lt2 := ⟨fun a b => by
  show alikeAll _ _ = true
  simp only [alikeAll, alike, Bool.true_and, Bool.and_true]
  exact alikeInts a.2 b.2, (fun a e => by cases e), fun a => (Enc.pair Enc.int encT).sh a, fun a b => by
  have h1 : alike (.int a.1) (.int b.1) = true := by simp [alike]
  have h2 : alike (eT a.2) (eT b.2) = true := by show alikeAll _ _ = true; exact alikeInts a.2 b.2
  rw [PySem.W.dataLt_pair h1 h2, PySem.W.dataLt_int, dataLt_eT, Enc.int.eqv, encT.eqv]
  unfold lt2
  by_cases e : a.1 = b.1
  · rw [if_pos e, decide_eq_true e, if_pos rfl]
    by_cases q : a.2 = b.2
    · rw [decide_eq_true q, if_pos rfl, q, lexLt_irr]
    · rw [decide_eq_false q, if_neg Bool.false_ne_true]
  · rw [if_neg e, decide_eq_false e, if_neg Bool.false_ne_true]⟩
def minF {α : Type} (lt : α → α → Bool) (x : α) (xs : List α) : α := xs.foldl (fun a y => if lt y a then y else a) x
def maxF {α : Type} (lt : α → α → Bool) (x : α) (xs : List α) : α := xs.foldl (fun a y => if lt a y then y else a) x
section
variable {α : Type} {f : α → PyData} {n : Nat} {lt : α → α → Bool}
theorem Alk.minD (E : Alk f n lt) (x : α) (xs : List α) : PySem.W.minD (f x) (xs.map f) = f (minF lt x xs) := by
  unfold PySem.W.minD minF
  induction xs generalizing x with
  | nil => rfl
  | cons y ys ih =>
    rw [List.map_cons, List.foldl_cons, List.foldl_cons, E.lt, ← ih]
    congr 1
    cases lt y x <;> rfl
theorem Alk.maxD (E : Alk f n lt) (x : α) (xs : List α) : PySem.W.maxD (f x) (xs.map f) = f (maxF lt x xs) := by
  unfold PySem.W.maxD maxF
  induction xs generalizing x with
  | nil => rfl
  | cons y ys ih =>
    rw [List.map_cons, List.foldl_cons, List.foldl_cons, E.lt, ← ih]
    congr 1
    cases lt x y <;> rfl
theorem Alk.all (E : Alk f n lt) (xs : List α) : PySem.W.AlikeAll (xs.map f) := ⟨fun x hx y hy => by
  obtain ⟨a, _, rfl⟩ := List.mem_map.mp hx
  obtain ⟨b, _, rfl⟩ := List.mem_map.mp hy
  exact E.al a b, fun x hx => by
  obtain ⟨a, _, rfl⟩ := List.mem_map.mp hx
  exact E.nn a⟩
theorem Alk.depth (E : Alk f n lt) (xs : List α) : PyData.depthAll (xs.map f) ≤ n := (Sh.all fun d hd => by
  obtain ⟨a, _, rfl⟩ := List.mem_map.mp hd
  exact E.sh a).2
end
section
variable {X : Cx}
/-- the i-th item of what is read, by its data -/
theorem item_dp {pins : List (Addr × Obj)} {σ : L2.St} {H H0 : Hp} {s : Shared} {h' : Heap} (I : Inv X pins σ H s) {xs : List V} {its : List Value} {ds : List PyData} {i : Nat} {v : Value} {d : PyData} {bs : List Addr} (hx : Ex H0 H) (hd : DpAll X.K H0 xs ds) (rv : Vals xs its) (hv : its.toArray[i]? = some v) (hs : ∀ e, e ∈ ds → e.canLay0 = true)
    (rd : Reads h' v d bs) (hk : ∀ b o, s.heap.get? b = some o → h'.get? b = some o) : ∃ x, RelV x v ∧ Dp X.K H0 x d := by
  have hv' : its[i]? = some v := by simpa using hv
  have hl : i < ds.length := by
    have h1 := (List.getElem?_eq_some_iff.mp hv').1
    rw [← Vals.length rv, DpAll.len hd] at h1; exact h1
  obtain ⟨x, hxi, hp⟩ := DpAll.get hd (List.getElem?_eq_getElem hl)
  obtain ⟨u, hu, r⟩ := Vals.get rv hxi
  rw [hv'] at hu; cases hu
  obtain ⟨as, ra⟩ := Dp.reads I _ _ _ (Dp.ex hx hp) r
  have := (Reads.unique (PySem.W.reads_keeps hk ra) _ _ rd).1
  subst this
  exact ⟨x, r, hp⟩
/-- min or max of a list, by what it gives -/
def rMM (K : PySem.W.Frag) (g : PyData → List PyData → PyData) : List V → Hp → VK → Prop := fun vs H Q => ∃ (L : List Addr) (a : Addr) (xs : List V) (d : PyData) (ds : List PyData), vs = [V.ref a] ∧ (SqL K H a xs ∨ SqT K H a xs) ∧ DpAll K (hide L H) xs (d :: ds) ∧ PySem.W.AlikeAll (d :: ds) ∧ (∀ e, e ∈ d :: ds → Sh 60 e) ∧
  ∀ x, Dp K (hide L H) x (g d ds) → Q x H
theorem sh_depth {ds : List PyData} {n : Nat} (h : ∀ e, e ∈ ds → Sh n e) : PyData.depthAll ds ≤ n := (Sh.all h).2
theorem cr_minD (hc : X.calm = true) (hu : X.A.units + 64 < cLine) : CallR X (.builtin "min") (rMM X.K PySem.W.minD) := by
  intro pins s σ H vs us Q I r h
  obtain ⟨L, a, xs, d, ds, rfl, hs, hd, ha, hsh, q⟩ := h
  rw [Vals.ref1 r]
  have hz := sh_depth hsh
  rcases hs with hs | hs
  · obtain ⟨its, rv, pl, _⟩ := I.list hs
    obtain ⟨as, hr⟩ := Dp.readsAll I _ _ _ (DpAll.ex (hide_ex L H) hd) rv
    refine PySem.W.min_list_data (I.ok.hd hc) pl.isList (by simpa using hr) ha (by omega) fun i v h' tk bs hv rd hk => ?_
    obtain ⟨x, rx, px⟩ := item_dp I (hide_ex L H) hd rv hv (fun e he => (hsh e he).1) rd hk
    exact ⟨x, H, I.kept hk, rx, q x px⟩
  · obtain ⟨its, rv, pl, _⟩ := I.tuple hs
    obtain ⟨as, hr⟩ := Dp.readsAll I _ _ _ (DpAll.ex (hide_ex L H) hd) rv
    refine PySem.W.min_tuple_data (I.ok.hd hc) (show s.heap.IsTuple a its.toArray from pl) (by simpa using hr) ha (by omega) fun i v h' tk bs hv rd hk => ?_
    obtain ⟨x, rx, px⟩ := item_dp I (hide_ex L H) hd rv hv (fun e he => (hsh e he).1) rd hk
    exact ⟨x, H, I.kept hk, rx, q x px⟩
theorem cr_maxD2 (hc : X.calm = true) (hu : X.A.units + 64 < cLine) : CallR X (.builtin "max") (rMM X.K PySem.W.maxD) := by
  intro pins s σ H vs us Q I r h
  obtain ⟨L, a, xs, d, ds, rfl, hs, hd, ha, hsh, q⟩ := h
  rw [Vals.ref1 r]
  have hz := sh_depth hsh
  rcases hs with hs | hs
  · obtain ⟨its, rv, pl, _⟩ := I.list hs
    obtain ⟨as, hr⟩ := Dp.readsAll I _ _ _ (DpAll.ex (hide_ex L H) hd) rv
    refine PySem.W.max_list_data (I.ok.hd hc) pl.isList (by simpa using hr) ha (by omega) fun i v h' tk bs hv rd hk => ?_
    obtain ⟨x, rx, px⟩ := item_dp I (hide_ex L H) hd rv hv (fun e he => (hsh e he).1) rd hk
    exact ⟨x, H, I.kept hk, rx, q x px⟩
  · obtain ⟨its, rv, pl, _⟩ := I.tuple hs
    obtain ⟨as, hr⟩ := Dp.readsAll I _ _ _ (DpAll.ex (hide_ex L H) hd) rv
    refine PySem.W.max_tuple_data (I.ok.hd hc) (show s.heap.IsTuple a its.toArray from pl) (by simpa using hr) ha (by omega) fun i v h' tk bs hv rd hk => ?_
    obtain ⟨x, rx, px⟩ := item_dp I (hide_ex L H) hd rv hv (fun e he => (hsh e he).1) rd hk
    exact ⟨x, H, I.kept hk, rx, q x px⟩
/-- .. with default= -/
def dfD (g : PyData → List PyData → PyData) (d0 : PyData) : List PyData → PyData
  | [] => d0
  | d :: ds => g d ds
def rMMd (K : PySem.W.Frag) (g : PyData → List PyData → PyData) : List V → List V → Hp → VK → Prop := fun vs zs H Q => ∃ (L : List Addr) (a : Addr) (xs : List V) (z : V) (d0 : PyData) (ds : List PyData), vs = [V.ref a] ∧ zs = [z] ∧ SqL K H a xs ∧ DpAll K (hide L H) xs ds ∧ Dp K (hide L H) z d0 ∧ PySem.W.AlikeAll ds ∧ (∀ e, e ∈ ds → Sh 60 e) ∧
  ∀ x, Dp K (hide L H) x (dfD g d0 ds) → Q x H
theorem cr_minDf (hc : X.calm = true) (hu : X.A.units + 64 < cLine) : CallRK X (.builtin "min") ["default"] (rMMd X.K PySem.W.minD) := by
  intro pins s σ H vs zs us ws Q I r rz h
  obtain ⟨L, a, xs, z, d0, ds, rfl, rfl, hs, hd, hz0, ha, hsh, q⟩ := h
  rw [Vals.ref1 r]
  obtain ⟨w0, hw0, rw0⟩ : ∃ w0, ws = [w0] ∧ RelV z w0 := by
    cases rz with
    | cons r1 rr => cases rr; exact ⟨_, rfl, r1⟩
  subst hw0
  have hz := sh_depth hsh
  obtain ⟨its, rv, pl, _⟩ := I.list hs
  obtain ⟨as, hr⟩ := Dp.readsAll I _ _ _ (DpAll.ex (hide_ex L H) hd) rv
  refine PySem.W.min_list_default (I.ok.hd hc) pl.isList (by simpa using hr) ha (by omega) (fun e h' tk hk => ?_) fun y ys i v h' tk bs e hv rd hk => ?_
  · subst e
    exact ⟨z, H, I.kept hk, rw0, q z hz0⟩
  · subst e
    obtain ⟨x, rx, px⟩ := item_dp I (hide_ex L H) hd rv hv (fun e he => (hsh e he).1) rd hk
    exact ⟨x, H, I.kept hk, rx, q x px⟩
theorem cr_maxDf (hc : X.calm = true) (hu : X.A.units + 64 < cLine) : CallRK X (.builtin "max") ["default"] (rMMd X.K PySem.W.maxD) := by
  intro pins s σ H vs zs us ws Q I r rz h
  obtain ⟨L, a, xs, z, d0, ds, rfl, rfl, hs, hd, hz0, ha, hsh, q⟩ := h
  rw [Vals.ref1 r]
  obtain ⟨w0, hw0, rw0⟩ : ∃ w0, ws = [w0] ∧ RelV z w0 := by
    cases rz with
    | cons r1 rr => cases rr; exact ⟨_, rfl, r1⟩
  subst hw0
  have hz := sh_depth hsh
  obtain ⟨its, rv, pl, _⟩ := I.list hs
  obtain ⟨as, hr⟩ := Dp.readsAll I _ _ _ (DpAll.ex (hide_ex L H) hd) rv
  refine PySem.W.max_list_default (I.ok.hd hc) pl.isList (by simpa using hr) ha (by omega) (fun e h' tk hk => ?_) fun y ys i v h' tk bs e hv rd hk => ?_
  · subst e
    exact ⟨z, H, I.kept hk, rw0, q z hz0⟩
  · subst e
    obtain ⟨x, rx, px⟩ := item_dp I (hide_ex L H) hd rv hv (fun e he => (hsh e he).1) rd hk
    exact ⟨x, H, I.kept hk, rx, q x px⟩
end
section
variable {X : Cx} {a b c e : Expr} {es : List Expr} {pos p p1 p2 : Pos} {τ τ1 τ2 τ3 : List SV} {d d1 d2 d3 : PyData} {α : Type} {f : α → PyData} {n : Nat} {lt : α → α → Bool} {x : α} {xs : List α}
theorem map_sh {E : Alk f n lt} (hn : n ≤ 60) : ∀ e, e ∈ xs.map f → Sh 60 e := fun e he => by
  obtain ⟨a, _, rfl⟩ := List.mem_map.mp he
  exact (E.sh a).mono hn
/-- min(xs) -/
theorem EV.minE (E : Alk f n lt) (hu : X.A.units + 64 < cLine) (hm : X.mg "min" = none) (h : EV X a τ d τ1) (hd : d = .list ((x :: xs).map f) ∨ d = .tuple ((x :: xs).map f)) (hn : n ≤ 60 := by decide) (hc : X.calm = true := by rfl) (hg : Gl X "min" := by rfl) (he : starEach [a] X.env = (false, eval a X.env) :: starEach [] X.env := by rfl) :
    EV X (.Call (.Name "min" p) [a] [] pos) τ (f (minF lt x xs)) τ1 := by
  refine EV.callB (cr_minD hc hu) hm (EA.cons h EA.nil he) ?_ hg (by decide +kernel) (by decide) (by decide) he rfl
  rw [← E.minD]
  intro L H vs Q dm hp q
  cases hp with
  | cons h1 h2 =>
    cases h2
    rcases hd with rfl | rfl
    · cases h1 with
      | @lst l ys _ s1 s2 => exact ⟨L, l, ys, f x, xs.map f, rfl, .inl (sq_ex (hide_ex L H) s1), s2, E.all (x :: xs), map_sh (E := E) (xs := x :: xs) hn, fun v hv => q v H (Ex.refl _) hv⟩
    · cases h1 with
      | @tup l ys _ s1 s2 => exact ⟨L, l, ys, f x, xs.map f, rfl, .inr (st_ex (hide_ex L H) s1), s2, E.all (x :: xs), map_sh (E := E) (xs := x :: xs) hn, fun v hv => q v H (Ex.refl _) hv⟩
/-- max(xs) -/
theorem EV.maxE (E : Alk f n lt) (hu : X.A.units + 64 < cLine) (hm : X.mg "max" = none) (h : EV X a τ d τ1) (hd : d = .list ((x :: xs).map f) ∨ d = .tuple ((x :: xs).map f)) (hn : n ≤ 60 := by decide) (hc : X.calm = true := by rfl) (hg : Gl X "max" := by rfl) (he : starEach [a] X.env = (false, eval a X.env) :: starEach [] X.env := by rfl) :
    EV X (.Call (.Name "max" p) [a] [] pos) τ (f (maxF lt x xs)) τ1 := by
  refine EV.callB (cr_maxD2 hc hu) hm (EA.cons h EA.nil he) ?_ hg (by decide +kernel) (by decide) (by decide) he rfl
  rw [← E.maxD]
  intro L H vs Q dm hp q
  cases hp with
  | cons h1 h2 =>
    cases h2
    rcases hd with rfl | rfl
    · cases h1 with
      | @lst l ys _ s1 s2 => exact ⟨L, l, ys, f x, xs.map f, rfl, .inl (sq_ex (hide_ex L H) s1), s2, E.all (x :: xs), map_sh (E := E) (xs := x :: xs) hn, fun v hv => q v H (Ex.refl _) hv⟩
    · cases h1 with
      | @tup l ys _ s1 s2 => exact ⟨L, l, ys, f x, xs.map f, rfl, .inr (st_ex (hide_ex L H) s1), s2, E.all (x :: xs), map_sh (E := E) (xs := x :: xs) hn, fun v hv => q v H (Ex.refl _) hv⟩
theorem mmd_run {g : PyData → List PyData → PyData} {ds : List PyData} (h : EV X a τ (.list ds) τ1) (h' : EV X b τ1 d2 τ2) (ha : PySem.W.AlikeAll ds) (hsh : ∀ e, e ∈ ds → Sh 60 e) (C : Fc) (σ : L2.St) (H : Hp) (Q : VK) (S : Sl X.K C H σ τ)
    (q : ∀ v H', Gw (own τ) H H' → Sl X.K C H' σ τ2 → Dp X.K (hide (C.L0 ++ own τ2) H') v (dfD g d2 ds) → Q v H') : tCKw (rMMd X.K g) (tCons (WE X a) tNil) (tCons (WE X b) tNil) σ H Q := by
  refine h.run C σ H _ S fun v H1 g1 S1 p1 => h'.run C σ H1 _ S1 fun v2 H2 g2 S2 p2 => ?_
  have p1' := keep_dp (L0 := C.L0) h'.ow g2 p1
  cases p1' with
  | @lst l ys _ s1 s2 => exact ⟨C.L0 ++ own τ2, l, ys, v2, d2, ds, rfl, rfl, sq_ex (hide_ex _ _) s1, s2, p2, ha, hsh, fun x hx => q x H2 (g1.trans (h.ow ▸ g2)) S2 hx⟩
/-- min(xs, default=e) -/
theorem EV.minDf {ds : List PyData} {kp : Pos} (hu : X.A.units + 64 < cLine) (hm : X.mg "min" = none) (h : EV X a τ (.list ds) τ1) (h' : EV X b τ1 d2 τ2) (ha : PySem.W.AlikeAll ds) (hsh : ∀ e, e ∈ ds → Sh 60 e) (hc : X.calm = true := by rfl) (hg : Gl X "min" := by rfl) (he : starEach [a] X.env = (false, eval a X.env) :: starEach [] X.env := by rfl) :
    EV X (.Call (.Name "min" p) [a] [⟨some "default", b, kp⟩] pos) τ (dfD PySem.W.minD d2 ds) τ2 :=
  ⟨h'.ow.trans h.ow, fun C σ H Q S q => WE.of (pe_callBK (cr_minDf hc hu) hg hm (by decide +kernel) (pa_cons pe_self pa_nil he) (pk_cons pe_self pk_nil) (by decide) (by decide) (by rw [he]; rfl) (by rw [he]; rfl)) (mmd_run h h' ha hsh C σ H Q S q)⟩
theorem EV.maxDf {ds : List PyData} {kp : Pos} (hu : X.A.units + 64 < cLine) (hm : X.mg "max" = none) (h : EV X a τ (.list ds) τ1) (h' : EV X b τ1 d2 τ2) (ha : PySem.W.AlikeAll ds) (hsh : ∀ e, e ∈ ds → Sh 60 e) (hc : X.calm = true := by rfl) (hg : Gl X "max" := by rfl) (he : starEach [a] X.env = (false, eval a X.env) :: starEach [] X.env := by rfl) :
    EV X (.Call (.Name "max" p) [a] [⟨some "default", b, kp⟩] pos) τ (dfD PySem.W.maxD d2 ds) τ2 :=
  ⟨h'.ow.trans h.ow, fun C σ H Q S q => WE.of (pe_callBK (cr_maxDf hc hu) hg hm (by decide +kernel) (pa_cons pe_self pa_nil he) (pk_cons pe_self pk_nil) (by decide) (by decide) (by rw [he]; rfl) (by rw [he]; rfl)) (mmd_run h h' ha hsh C σ H Q S q)⟩
def minO {α : Type} (lt : α → α → Bool) : List α → Option α
  | [] => none
  | x :: xs => some (minF lt x xs)
def maxO {α : Type} (lt : α → α → Bool) : List α → Option α
  | [] => none
  | x :: xs => some (maxF lt x xs)
theorem EV.minDfE {kp : Pos} (E : Alk f n lt) (hu : X.A.units + 64 < cLine) (hm : X.mg "min" = none) (h : EV X a τ (DL.lst f xs) τ1) (h' : EV X b τ1 d2 τ2) (hn : n ≤ 60 := by decide) (hc : X.calm = true := by rfl) (hg : Gl X "min" := by rfl) (he : starEach [a] X.env = (false, eval a X.env) :: starEach [] X.env := by rfl) :
    EV X (.Call (.Name "min" p) [a] [⟨some "default", b, kp⟩] pos) τ (match minO lt xs with | none => d2 | some y => f y) τ2 :=
  (EV.minDf hu hm h h' (E.all xs) (map_sh (E := E) hn) hc hg he).is (by
    cases xs with
    | nil => rfl
    | cons y ys => exact E.minD y ys)
theorem EV.maxDfE {kp : Pos} (E : Alk f n lt) (hu : X.A.units + 64 < cLine) (hm : X.mg "max" = none) (h : EV X a τ (DL.lst f xs) τ1) (h' : EV X b τ1 d2 τ2) (hn : n ≤ 60 := by decide) (hc : X.calm = true := by rfl) (hg : Gl X "max" := by rfl) (he : starEach [a] X.env = (false, eval a X.env) :: starEach [] X.env := by rfl) :
    EV X (.Call (.Name "max" p) [a] [⟨some "default", b, kp⟩] pos) τ (match maxO lt xs with | none => d2 | some y => f y) τ2 :=
  (EV.maxDf hu hm h h' (E.all xs) (map_sh (E := E) hn) hc hg he).is (by
    cases xs with
    | nil => rfl
    | cons y ys => exact E.maxD y ys)
end
end DL

set_option maxRecDepth 100000
set_option maxHeartbeats 2000000
/-! DLz: tests that change slots, if by what both ways reach. -/
namespace DL
open PySem L2
section
variable {X : Cx} {a b c e : Expr} {es rest0 : List Expr} {pos p p1 p2 : Pos} {τ τ1 τ2 τ3 : List SV} {d d1 d2 d3 : PyData} {rest A B : List Stmt} {R : Out → Prop}
theorem EW.andS {x y : Bool} (h1 : ET X a τ x τ1) (h2 : x = true → EW X (.BoolOp .And (b :: rest0) pos) τ1 y τ1) : EW X (.BoolOp .And (a :: b :: rest0) pos) τ (x && y) τ1 := by
  cases x with
  | true => exact EW.andT h1 (h2 rfl)
  | false => exact EW.andF h1
theorem EW.orS {x y : Bool} (h1 : ET X a τ x τ1) (h2 : x = false → EW X (.BoolOp .Or (b :: rest0) pos) τ1 y τ1) : EW X (.BoolOp .Or (a :: b :: rest0) pos) τ (x || y) τ1 := by
  cases x with
  | false => exact EW.orF h1 (h2 rfl)
  | true => exact EW.orT h1
/-- both ways reach P -/
theorem SX.iteP {k : Bool} (P : List SV → Prop) (h1 : ET X c τ k τ1) (hT : k = true → SX X A τ1 fun o => ∃ τ', o = .nx τ' ∧ P τ') (hF : k = false → SX X B τ1 fun o => ∃ τ', o = .nx τ' ∧ P τ') (hr : ∀ τ', P τ' → SX X rest τ' R) : SX X (.If c A B pos :: rest) τ R :=
  SX.ite h1 (fun h => (hT h).imp fun o ⟨τ', e, q⟩ => by subst e; exact hr τ' q) (fun h => (hF h).imp fun o ⟨τ', e, q⟩ => by subst e; exact hr τ' q)
theorem Alk.on {α β : Type} {f : α → PyData} {n : Nat} {lt : α → α → Bool} (E : Alk f n lt) (g : β → α) : Alk (fun b => f (g b)) n (fun a b => lt (g a) (g b)) := ⟨fun a b => E.al _ _, fun a => E.nn _, fun a => E.sh _, fun a b => E.lt _ _⟩
end
end DL

set_option maxRecDepth 100000
set_option maxHeartbeats 2000000
/-! SpI: what several laws lean on: escapes of more and less, books bought, first draws. -/
namespace K
open PySem L2 DL
theorem zip_buys (bs : List (List Int × Int)) : zipD ((bs.map (·.1)).map eT) ((bs.map (·.2)).map PyData.int) = bs.map eBuy := by
  unfold zipD
  induction bs with
  | nil => rfl
  | cons b bs ih => simp only [List.map_cons, List.zip_cons_cons]; rw [ih]
theorem encOT : Enc (optD eT) 1 := ⟨fun a => by
  cases a with
  | none => exact Sh.none.mono (by decide)
  | some t => exact encT.sh t, fun a b => by
  cases a with
  | none => cases b with
    | none => exact ⟨fun _ => rfl, fun _ => rfl⟩
    | some u => exact ⟨fun z => (by cases z), fun z => (by cases z)⟩
  | some t => cases b with
    | none => exact ⟨fun z => (by cases z), fun z => (by cases z)⟩
    | some u => exact (encT.eq t u).trans ⟨fun e => by rw [e], fun e => Option.some.inj e⟩⟩
theorem optD_snd (o : Option (Int × List Int)) : optD (fun b : Int × List Int => eT b.2) o = optD eT (o.map (·.2)) := by cases o <;> rfl
theorem Buys.hd {n k m : Int} {left : List (List Int)} {bs : List (List Int × Int)} (h : Buys n k m left bs) : (bestM n k m left).map (·.2) = (bs.map (·.1)).head? := by
  cases h with
  | nil => rw [best_none]; rfl
  | cons hne e q => rw [e]; rfl
theorem Buys.nil_iff {n k m : Int} {left : List (List Int)} {bs : List (List Int × Int)} (h : Buys n k m left bs) : bs = [] ↔ left = [] := by
  cases h with
  | nil => exact ⟨fun _ => rfl, fun _ => rfl⟩
  | cons hne e q => exact ⟨fun z => (by cases z), fun z => absurd z hne⟩
theorem Buys.last0 {n k m : Int} {left : List (List Int)} {bs : List (List Int × Int)} (h : Buys n k m left bs) : ∀ hne : bs.map (·.2) ≠ [], (bs.map (·.2)).getLast hne = 0 := by
  induction h with
  | nil => exact fun z => absurd rfl z
  | @cons left b r hne e q ih =>
    intro z
    cases r with
    | nil =>
      have := q.nil_iff.mp rfl
      simp [this]
    | cons c r =>
      have := ih (by simp)
      exact (List.getLast_cons (a := ((restM m b.2 left).length : Int)) (l := (c :: r).map (·.2)) (by simp)).trans this
theorem Buys.cover {n k m : Int} {left : List (List Int)} {bs : List (List Int × Int)} (h : Buys n k m left bs) : ∀ d, d ∈ left → ∃ t, t ∈ bs.map (·.1) ∧ holdsM m t d = true := by
  induction h with
  | nil => exact fun _ z => nomatch z
  | @cons left b r hne e q ih =>
    intro d hd
    cases hh : holdsM m b.2 d with
    | true => exact ⟨b.2, by simp, hh⟩
    | false =>
      obtain ⟨t, ht, h2⟩ := ih d (List.mem_filter.mpr ⟨hd, by rw [hh]; rfl⟩)
      exact ⟨t, by simp at ht ⊢; exact .inr ht, h2⟩
theorem Buys.mem {n k p m : Int} (hv : Valid n k p m) {left : List (List Int)} {bs : List (List Int × Int)} (h : Buys n k m left bs) (hs : ∀ d, d ∈ left → d ∈ ticketsM n p) : ∀ t, t ∈ bs.map (·.1) → t ∈ ticketsM n k := by
  induction h with
  | nil => exact fun _ z => nomatch z
  | @cons left b r hne e q ih =>
    intro t ht
    obtain ⟨b', e', hb⟩ := best_some hv hs hne
    rw [e] at e'; cases e'
    rw [List.map_cons, List.mem_cons] at ht
    rcases ht with z | z
    · rw [z]; exact hb.mem
    · exact ih (fun d hd => hs d (List.mem_filter.mp hd).1) t z
theorem esc_nil_of {n p m : Int} {book : List (List Int)} (h : ∀ d, d ∈ ticketsM n p → ∃ t, t ∈ book ∧ holdsM m t d = true) : escM n p m book = [] := by
  unfold escM
  rw [List.filter_eq_nil_iff]
  intro d hd
  obtain ⟨t, ht, e⟩ := h d hd
  rw [List.any_eq_true.mpr ⟨t, ht, e⟩]; decide
theorem whole_sure {n k p m : Int} {book : List (List Int)} {bs : List (List Int × Int)} (h : Buys n k m (escM n p m book) bs) : escM n p m (setM (book ++ bs.map (·.1))) = [] := by
  refine esc_nil_of fun d hd => ?_
  cases hh : book.any fun t => holdsM m t d with
  | true =>
    obtain ⟨t, ht, e⟩ := List.any_eq_true.mp hh
    exact ⟨t, (setM_mem _ _).mpr (List.mem_append_left _ ht), e⟩
  | false =>
    obtain ⟨t, ht, e⟩ := h.cover d (List.mem_filter.mpr ⟨hd, by rw [hh]; rfl⟩)
    exact ⟨t, (setM_mem _ _).mpr (List.mem_append_right _ ht), e⟩
theorem few35_all : ((List.range 8).all fun (n : Nat) => (List.range 6).all fun (k : Nat) => decide ((ticketsM n k).length ≤ 35)) = true := by decide +kernel
theorem few35 {n k : Int} (h : 0 ≤ n ∧ n ≤ 7 ∧ 0 ≤ k ∧ k ≤ 5) : (ticketsM n k).length ≤ 35 := by
  have h1 := List.all_eq_true.mp (List.all_eq_true.mp few35_all n.toNat (List.mem_range.mpr (by omega))) k.toNat (List.mem_range.mpr (by omega))
  rw [Int.toNat_of_nonneg h.1, Int.toNat_of_nonneg (by omega)] at h1
  exact of_decide_eq_true h1
theorem atI_last {α : Type} (f : α → PyData) {xs : List α} (h : xs ≠ []) : atI (xs.map f) (-1) = some (f (xs.getLast h)) := by
  have hl := List.length_pos_iff.mpr h
  unfold atI ixN
  rw [if_neg (by decide), if_pos (by rw [List.length_map]; omega)]
  show (xs.map f)[_]? = _
  rw [List.getElem?_map, List.getLast_eq_getElem, List.getElem?_eq_getElem (by rw [List.length_map]; omega)]
  simp only [Option.map_some, List.length_map]
  congr 2; congr 1; omega
def R_law (ds : List PyData) (r : Res) : Prop := ∃ script : List Int, script.length ≤ 63 ∧ ds = [DL.lst PyData.int script] ∧ r = .ok (.bool true)
theorem not_holds (m : Int) (t d : List Int) : decide ((sharedM t d : Int) < m) = !holdsM m t d := by
  unfold holdsM
  by_cases c : m ≤ (sharedM t d : Int)
  · rw [decide_eq_true c, decide_eq_false (by omega)]; rfl
  · rw [decide_eq_false c, decide_eq_true (by omega)]; rfl
def R_first_escape : List PyData → Res → Prop := looked fun n k p m book => optD eT (minO HT.lexLt (escM n p m book))
theorem mem_esc {n p m : Int} {book : List (List Int)} {d : List Int} : d ∈ escM n p m book ↔ d ∈ ticketsM n p ∧ ∀ t, t ∈ book → holdsM m t d = false := by
  unfold escM
  rw [List.mem_filter]
  refine and_congr_right fun _ => ?_
  rw [Bool.not_eq_true', List.any_eq_false]
  exact forall_congr' fun t => imp_congr_right fun _ => by rw [Bool.not_eq_true]
theorem flt_none {xs ys : List (List Int)} (h : ∀ d, d ∈ xs → d ∈ ys) : (xs.filter fun d => !memD d ys) = [] := by
  rw [List.filter_eq_nil_iff]
  intro d hd
  rw [memD_iff.mpr (h d hd)]; decide
theorem esc_mono {n p m : Int} {b b' : List (List Int)} (h : ∀ t, t ∈ b → t ∈ b') : ∀ d, d ∈ escM n p m b' → d ∈ escM n p m b := fun d hd => by
  rw [mem_esc] at hd ⊢
  exact ⟨hd.1, fun t ht => hd.2 t (h t ht)⟩
theorem esc_easier {n p m m' : Int} {b : List (List Int)} (h : m' ≤ m) : ∀ d, d ∈ escM n p m' b → d ∈ escM n p m b := fun d hd => by
  rw [mem_esc] at hd ⊢
  refine ⟨hd.1, fun t ht => ?_⟩
  have := of_decide_eq_false (hd.2 t ht)
  exact decide_eq_false (by omega)
theorem shared_le {t d d' : List Int} (h : ∀ x, x ∈ d' → x ∈ d) : sharedM t d' ≤ sharedM t d := by
  unfold sharedM
  rw [← List.countP_eq_length_filter, ← List.countP_eq_length_filter]
  exact List.countP_mono_left fun x _ hx => memD_iff.mpr (h x (memD_iff.mp hx))
theorem shared_comm {t d : List Int} (ht : t.Pairwise (· < ·)) (hd : d.Pairwise (· < ·)) : sharedM t d = sharedM d t := by
  unfold sharedM
  have n1 : (t.filter fun x => memD x d).Nodup := (ht.imp fun h => (by omega)).filter _
  have n2 : (d.filter fun x => memD x t).Nodup := (hd.imp fun h => (by omega)).filter _
  refine ((List.perm_ext_iff_of_nodup n1 n2).mpr fun x => ?_).length_eq
  rw [List.mem_filter, List.mem_filter, memD_iff, memD_iff]
  exact And.comm
theorem cut_sub (d : List Int) (i : Nat) : (d.take i ++ d.drop (i + 1)).Sublist d := by
  have := List.eraseIdx_sublist d i
  rwa [List.eraseIdx_eq_take_drop_succ] at this
theorem esc_wide {n p m : Int} {b : List (List Int)} (hp : 0 ≤ p) {d : List Int} (h : d ∈ escM n (p + 1) m b) {i : Nat} (hi : (i : Int) < p + 1) : d.take i ++ d.drop (i + 1) ∈ escM n p m b := by
  rw [mem_esc] at h ⊢
  obtain ⟨h1, h2⟩ := mem_comb.mp h.1
  refine ⟨mem_comb.mpr ⟨(cut_sub d i).trans h1, ?_⟩, fun t ht => ?_⟩
  · rw [List.length_append, List.length_take, List.length_drop]; omega
  · have h3 := of_decide_eq_false (h.2 t ht)
    have h4 := shared_le (t := t) fun x hx => (cut_sub d i).subset hx
    exact decide_eq_false (by omega)
theorem less_parts {n k p m : Int} {book : List (List Int)} (hB : IsBook n k book) {t : List Int} (ht : t ∈ book) : ∀ d, d ∈ escM n p m (book.filter fun o => !decide (o = t)) → d ∉ escM n p m book → m ≤ (sharedM d t : Int) := fun d hd hn => by
  rw [mem_esc] at hd hn
  by_cases c : m ≤ (sharedM t d : Int)
  · rw [shared_comm (ticket_rise hd.1) (ticket_rise (hB.mem t ht))]; exact c
  · exfalso
    refine hn ⟨hd.1, fun u hu => ?_⟩
    by_cases e : u = t
    · rw [e]; exact decide_eq_false c
    · exact hd.2 u (List.mem_filter.mpr ⟨hu, by rw [decide_eq_false e]; rfl⟩)
theorem cutT_to {xs : List Int} {j : Int} (h : 0 ≤ j) : PyData.tuple (cutD (xs.map PyData.int) none (some j)) = eT (xs.take j.toNat) := by
  rw [cutD_map, cutD_to xs h]
theorem cutT_from {xs : List Int} {j : Int} (h : 0 ≤ j) : PyData.tuple (cutD (xs.map PyData.int) (some j) none) = eT (xs.drop j.toNat) := by
  rw [cutD_map, cutD_from xs h]
theorem rise_all : ((List.range 10).all fun (n : Nat) => (List.range 6).all fun (k : Nat) => riseT (ticketsM n k)) = true := by decide +kernel
theorem tickets_rise {n k : Int} (h : 0 ≤ n ∧ n ≤ 9 ∧ 0 ≤ k ∧ k ≤ 5) : IsBook n k (ticketsM n k) := by
  have h1 := List.all_eq_true.mp (List.all_eq_true.mp rise_all n.toNat (List.mem_range.mpr (by omega))) k.toNat (List.mem_range.mpr (by omega))
  rw [Int.toNat_of_nonneg h.1, Int.toNat_of_nonneg (by omega)] at h1
  exact ⟨fun t ht => ht, riseT_iff.mp h1⟩
theorem esc_none (n p m : Int) : escM n p m [] = ticketsM n p := List.filter_eq_self.mpr fun _ _ => rfl
theorem esc_all {n k p m : Int} (hv : Valid n k p m) : escM n p m (ticketsM n k) = [] := by
  rw [List.eq_nil_iff_forall_not_mem]
  intro d hd
  rw [mem_esc] at hd
  obtain ⟨t, ht, e⟩ := some_holds hv hd.1
  rw [hd.2 t ht] at e; cases e
theorem first_all : ((List.range 10).all fun (n : Nat) => (List.range 6).all fun (p : Nat) => decide (n < p) || decide (minO HT.lexLt (ticketsM n p) = some (rng 1 p))) = true := by decide +kernel
theorem first_ok {n p : Int} (h : 0 ≤ p ∧ p ≤ 5 ∧ p ≤ n ∧ n ≤ 9) : minO HT.lexLt (ticketsM n p) = some (rng 1 p.toNat) := by
  have h1 := List.all_eq_true.mp (List.all_eq_true.mp first_all n.toNat (List.mem_range.mpr (by omega))) p.toNat (List.mem_range.mpr (by omega))
  rw [Int.toNat_of_nonneg (by omega : 0 ≤ n), Int.toNat_of_nonneg h.1, decide_eq_false (by omega), Bool.false_or] at h1
  exact of_decide_eq_true h1
theorem ticks_ne {n p : Int} (h : 0 ≤ p ∧ p ≤ 5 ∧ p ≤ n ∧ n ≤ 9) : ticketsM n p ≠ [] := fun e => by
  have := first_ok h
  rw [e] at this; cases this
end K

set_option maxRecDepth 100000
set_option maxHeartbeats 2000000
/-! DMa: enumerate of a list; len(set(rows)). -/
namespace DL
open PySem PySem.Spec PyProof.Rows L2
section
variable {X : Cx} {a b c e : Expr} {elts : List Expr} {kk : Nat} {pos p p1 p2 tpos : Pos} {τ τ1 τ2 τ3 : List SV} {d d1 d2 d3 : PyData} {ds es : List PyData} {nss : List (List Int)}
theorem EVI.enumL (hm : X.mg "enumerate" = none) (h : EV X e τ (.list ds) τ1) (hg : Gl X "enumerate" := by rfl) (hs : starEach [e] X.env = [(false, eval e X.env)] := by rfl) : EVI X (.Tuple elts kk tpos) (.Call (.Name "enumerate" p) [e] [] pos) τ (enumD ds) τ1 :=
  ⟨h.ow, _, pi_enum hg hm (pa_cons pe_self pa_nil hs) hs, fun C σ H R S q => h.run C σ H _ S fun v H1 g1 S1 p1 => by
    cases p1 with
    | @lst a xs _ s1 s2 =>
      refine ⟨a, xs, rfl, sq_ex (hide_ex _ _) s1, q _ H1 g1 S1 ?_⟩
      have hl : (enumD ds).length = xs.length := by unfold enumD; rw [List.length_map, List.length_range, DpAll.len s2]
      refine wk_pair (f := fun i => some (.int (i : Nat))) (g := fun i => xs[i]?) (da := fun i => .int (i : Int)) (db := fun i => ds.getD i .none) (by rw [hl]; exact walk_enum) (fun H2 g => sq_ex (fun b o z => g b o (fun y => (hide_some z).1 (List.mem_append_right _ y)) (hide_some z).2) s1) ?_ ?_ ?_
      · intro i x _ hx
        have e : V.int (i : Int) = x := Option.some.inj hx
        rw [← e]; exact .int _
      · intro i x hi hx
        have hi' : i < ds.length := by rw [← DpAll.len s2, ← hl]; exact hi
        have hd : ds[i]? = some (ds.getD i .none) := by rw [List.getD_eq_getElem?_getD, List.getElem?_eq_getElem hi']; rfl
        obtain ⟨v, hv, pv⟩ := DpAll.get s2 hd
        rw [hx] at hv; cases hv; exact pv
      · intro i hi
        unfold enumD at hi ⊢
        rw [List.length_map, List.length_range] at hi
        rw [List.getElem?_map, List.getElem?_range hi]; rfl⟩
/-- len(s), s a set of rows -/
def rLenST (K : PySem.W.Frag) (P : Program) (w : World) : List V → Hp → VK → Prop := fun vs H Q => ∃ (a : Addr) (L : List (Addr × List Int)), vs = [V.ref a] ∧ H a = some (SetTO P w a L) ∧ (∀ p ∈ L, SqT K H p.1 (p.2.map V.int)) ∧ ((L.map (·.2)).Nodup → Q (.int L.length) H)
theorem cr_lenST : CallR X (.builtin "len") (rLenST X.K X.prog X.w) := by
  intro pins s σ H vs us Q I r h
  obtain ⟨a, L, rfl, ha, hk, q⟩ := h
  have R0 : SetT0 X.prog X.w s.heap a L := (I.hok a _ ha).1
  obtain ⟨es, ep, t, R⟩ := R0.full fun p hp => I.isT (hk p hp)
  rw [Vals.ref1 r]
  obtain ⟨o, ho, hex, hd⟩ := R.ob
  have hz := R.size
  have hf := R.few
  exact call_len_set ho hex hd R.fits (by omega) ⟨.int L.length, H, I.tok _, ⟨_, by rw [hz]⟩, q R.nd⟩
/-- how many there are, each counted once -/
def many1 (nss : List (List Int)) : Nat := (K.setM nss).length
theorem EV.lenSet (hu : X.A.units + 64 < cLine) (hm : X.mg "len" = none) (hm2 : X.mg "set" = none) (h : EV X a τ (.list (nss.map eT)) τ1) (hf : nss.length < 64) (hc : X.calm = true := by rfl) (hg : Gl X "len" := by rfl) (hg2 : Gl X "set" := by rfl)
    (he : starEach [a] X.env = (false, eval a X.env) :: starEach [] X.env := by rfl) (he2 : starEach [.Call (.Name "set" p1) [a] [] p2] X.env = (false, eval (.Call (.Name "set" p1) [a] [] p2) X.env) :: starEach [] X.env := by rfl) : EV X (.Call (.Name "len" p) [.Call (.Name "set" p1) [a] [] p2] [] pos) τ (.int (many1 nss)) τ1 :=
  ⟨h.ow, fun C σ H Q S q => WE.of (pe_callB cr_lenST hg hm (by decide +kernel) (pa_cons (pe_callTy (cr_setOfT hc hu) hg2 hm2 (by decide +kernel) (pa_cons pe_self pa_nil he) (by decide) (by decide) he rfl) pa_nil he2) (by decide) (by decide) he2 rfl) (h.run C σ H _ S fun v H1 g1 S1 p1 => by
    cases p1 with
    | @lst l xs _ s1 s2 =>
      obtain ⟨ks, rfl, rfl, hk⟩ := dpAll_refs s2
      refine ⟨l, ks, rfl, sq_ex (hide_ex _ _) s1, fun z hz => st_ex (hide_ex _ _) (hk z hz), by simpa using hf, fun t L ht hL1 hL2 => ?_⟩
      have exT : Ex H1 (upd H1 t (SetTO X.prog X.w t L)) := Ex.new ht
      refine ⟨t, L, rfl, upd_same, fun z hz => st_ex exT (st_ex (hide_ex _ _) (hk z (hL1 z hz))), fun hnd => ?_⟩
      have e : many1 (ks.map (·.2)) = L.length := by
        unfold many1
        rw [← List.length_map (f := (·.2)) (as := L)]
        refine ((List.perm_ext_iff_of_nodup ?_ hnd).mpr fun x => ?_).length_eq
        · exact (K.setM_rise _).imp fun {a b} hab e => by subst e; rw [lexLt_irr] at hab; cases hab
        · rw [K.setM_mem]
          constructor
          · intro hx
            obtain ⟨z, hz, rfl⟩ := List.mem_map.mp hx
            exact hL2 z hz
          · intro hx
            obtain ⟨z, hz, rfl⟩ := List.mem_map.mp hx
            exact List.mem_map.mpr ⟨z, hL1 z hz, rfl⟩
      rw [← e]
      exact q _ _ (g1.trans (Gw.of exT)) (S1.ex exT) (.int _))⟩
end
end DL

set_option maxRecDepth 100000
set_option maxHeartbeats 2000000
/-! DMb: max of three ints. -/
namespace DL
open PySem L2
theorem nuMax3_int (i j l : Int) : nuMax3 (.int i) (.int j) (.int l) = some (.int (max (max i j) l)) := by
  have h2 : ∀ i j : Int, nuMax2 (.int i) (.int j) = some (.int (max i j)) := fun i j => by
    show (some (if decide (i < j) = true then V.int j else V.int i)) = _
    by_cases c : i < j
    · rw [decide_eq_true c, if_pos rfl, show max i j = j by omega]
    · rw [decide_eq_false c, if_neg Bool.false_ne_true, show max i j = i by omega]
  show (nuMax2 (.int i) (.int j)).bind _ = _
  rw [h2]
  exact h2 _ _
section
variable {X : Cx} {a b c e : Expr} {pos p : Pos} {τ τ1 τ2 τ3 : List SV}
theorem EV.max3 {i j l : Int} (hm : X.mg "max" = none) (h : EV X a τ (.int i) τ1) (h' : EV X b τ1 (.int j) τ2) (h3 : EV X c τ2 (.int l) τ3) (hc : X.calm = true := by rfl) (hg : Gl X "max" := by rfl) (he : starEach [a, b, c] X.env = (false, eval a X.env) :: starEach [b, c] X.env := by rfl) (he2 : starEach [b, c] X.env = (false, eval b X.env) :: starEach [c] X.env := by rfl) (he3 : starEach [c] X.env = (false, eval c X.env) :: starEach [] X.env := by rfl) (hpl : (backTo pos (starEach [b, c] X.env)).any (·.1) = false := by rfl) :
    EV X (.Call (.Name "max" p) [a, b, c] [] pos) τ (.int (max (max i j) l)) τ3 :=
  EV.callB (call_max3Nu hc) hm (EA.cons h (EA.cons h' (EA.cons h3 EA.nil he3) he2) he) (fun L H vs Q dm hp q => by
    cases hp with
    | cons p1 hp => cases hp with
      | cons p2 hp => cases hp with
        | cons p3 hp =>
          cases hp; cases p1; cases p2; cases p3
          exact ⟨_, _, _, _, rfl, nuMax3_int i j l, q _ H (Ex.refl _) (.int _)⟩) hg (by decide +kernel) (by decide) (by decide) he hpl
end
end DL

set_option maxRecDepth 100000
set_option maxHeartbeats 2000000
/-! DMc: a def picked out of a tuple of defs, called by a local name. -/
namespace DL
open PySem PySem.Spec PyProof.Rows L2
/-- the value is the def under the name x -/
def isFn (K : PySem.W.Frag) (x : Str) : Hp → V → Prop := fun _ v => v = .ref (He.ga K x)
section
variable {X : Cx} {a b c e : Expr} {es : List Expr} {pos p p1 p2 p3 p4 : Pos} {τ τ1 τ2 : List SV} {d : PyData} {ds : List PyData} {x y : Str} {rest : List Stmt} {R : Out → Prop} {k : Nat} {ps : List Str}
theorem SX.asgFn4 {kt : Nat} {pt ps' p' : Pos} {f0 f1 f2 f3 : Str} (i : Nat) {j : Int} (h : EV X b τ (.int j) τ) (hf : atI [f0, f1, f2, f3] j = some x) (hr : SX X rest (τ.set i (.kp (isFn X.K x))) R)
    (m0 : X.mg f0 = some (.ref (He.ga X.K f0))) (m1 : X.mg f1 = some (.ref (He.ga X.K f1))) (m2 : X.mg f2 = some (.ref (He.ga X.K f2))) (m3 : X.mg f3 = some (.ref (He.ga X.K f3)))
    (g0 : Gl X f0 := by rfl) (g1 : Gl X f1 := by rfl) (g2 : Gl X f2 := by rfl) (g3 : Gl X f3 := by rfl) (d0 : (f0 == ("__debug__" : Str)) = false := by decide) (d1 : (f1 == ("__debug__" : Str)) = false := by decide) (d2 : (f2 == ("__debug__" : Str)) = false := by decide) (d3 : (f3 == ("__debug__" : Str)) = false := by decide)
    (s0 : starEach [.Name f0 p1, .Name f1 p2, .Name f2 p3, .Name f3 p4] X.env = (false, eval (.Name f0 p1) X.env) :: starEach [.Name f1 p2, .Name f2 p3, .Name f3 p4] X.env := by rfl) (s1 : starEach [.Name f1 p2, .Name f2 p3, .Name f3 p4] X.env = (false, eval (.Name f1 p2) X.env) :: starEach [.Name f2 p3, .Name f3 p4] X.env := by rfl) (s2 : starEach [.Name f2 p3, .Name f3 p4] X.env = (false, eval (.Name f2 p3) X.env) :: starEach [.Name f3 p4] X.env := by rfl) (s3 : starEach [.Name f3 p4] X.env = (false, eval (.Name f3 p4) X.env) :: starEach [] X.env := by rfl)
    (hs : PlainIx b := by exact fun _ _ => rfl) (hN : X.N.Nodup := by assumption) (hi : X.N[i]? = some y := by rfl) (hx : Loc X.env.scope y := by first | exact Or.inl rfl | exact Or.inr rfl)
    (hsw : swapsWith (.Subscript (.Tuple [.Name f0 p1, .Name f1 p2, .Name f2 p3, .Name f3 p4] kt pt) b ps') (some (.Name y p')) pos.line X.env = pure false := by rfl) (hff : X.fn y = true ∨ X.env.scope.names.lookup y = some .local := by first | exact .inl rfl | exact .inr rfl) :
    SX X (.Assign [.Name y p'] (.Subscript (.Tuple [.Name f0 p1, .Name f1 p2, .Name f2 p3, .Name f3 p4] kt pt) b ps') pos :: rest) τ R := by
  refine SX.seq (ps_set hN hi hx (pe_ix (r := rIxT X.K) ix_tup (pe_tup (pa_cons (pe_glob (v := .ref (He.ga X.K f0)) g0 m0 rfl d0) (pa_cons (pe_glob (v := .ref (He.ga X.K f1)) g1 m1 rfl d1) (pa_cons (pe_glob (v := .ref (He.ga X.K f2)) g2 m2 rfl d2) (pa_cons (pe_glob (v := .ref (He.ga X.K f3)) g3 m3 rfl d3) pa_nil s3) s2) s1) s0)) pe_self hs) hsw hff) fun C σ H D W tk S q => ?_
  refine ⟨Nat.le_of_ble_eq_true rfl, fun pA hp => ?_⟩
  have ex : Ex H (upd H pA (.tup [.ref (He.ga X.K f0), .ref (He.ga X.K f1), .ref (He.ga X.K f2), .ref (He.ga X.K f3)])) := Ex.new hp
  refine h.run C σ _ _ (S.ex ex) fun v H1 gw S1 p1 => ?_
  cases p1
  have nO : pA ∉ own τ := fun z => (S.dom pA (List.mem_append_right _ z)) hp
  refine ⟨pA, _, j, .ref (He.ga X.K x), rfl, rfl, .inl (.inl (gw _ _ nO upd_same)), ?_, ?_⟩
  · have : atI ([f0, f1, f2, f3].map fun f => V.ref (He.ga X.K f)) j = some (V.ref (He.ga X.K x)) := by
      unfold atI at hf ⊢
      rw [List.length_map]
      obtain ⟨n, hn, e⟩ := Option.bind_eq_some_iff.mp hf
      rw [hn]
      show (List.map _ _)[n]? = _
      rw [List.getElem?_map, e]; rfl
    exact this
  · exact q (.nx _) hr _ _ (S1.setKp (f := isFn X.K x) (v := .ref (He.ga X.K x)) (fun _ _ => rfl) i)
/-- f(..), f a local name that holds the def under the name x -/
theorem pe_callLS {f : Addr} {fd : FuncData} {sp : Sp} {E : L2.St → XK} {i : Nat} {t : TA} (F : FnOk X.prog X.w X.K X.mg X.base (L2.CX X.prog X.w) k f fd ps sp) (hr : Room k X.A) (hN : X.N[i]? = some y) (hv : Vis X.env.scope y) (hk : PySem.W.keepIn X.K (.ref f) = true) (hb : Binds X.K fd ps []) (hx : ∀ σ, PassesAt (L2.CX X.prog X.w) X σ (E σ)) (ha : PA X (e :: es) t)
    (hdb : (y == ("__debug__" : Str)) = false := by decide) (hcd : (y == ("__classdict__" : Str)) = false := by decide)
    (he : starEach (e :: es) X.env = (false, eval e X.env) :: starEach es X.env := by rfl) (hpl : (backTo pos (starEach es X.env)).any (·.1) = false := by rfl) :
    PE X (.Call (.Name y p) (e :: es) [] pos) (fun σ H Q => σ[i]? = some (some (.ref f)) ∧ t σ H fun vs H1 => sp vs H1 Q (E σ)) := by
  refine ⟨fun pins s σ H Q I h => ?_⟩
  obtain ⟨hs, ht⟩ := h
  refine wpAny_Call_Name_kw (thn ((pe_var (pos := p) hN hv hdb hcd).run pins s σ H (fun v H1 => v = .ref f ∧ H1 = H) I ⟨.ref f, hs, rfl, rfl⟩) fun u s1 ⟨v, H1, I1, r1, q1⟩ => ?_)
  obtain ⟨rfl, rfl⟩ := q1
  cases r1
  exact PySem.W.callWith_K (h₀ := X.base) I.ok.mod.kin hk (thn (ha.run pos pins s1 σ _ _ I1 ht) fun us s2 ⟨vs, H2, I2, r, q⟩ => ⟨I2.kIn, run_fnS F hr hb (hx σ) I2 r q⟩) he hpl
theorem EV.callV {R : List PyData → Res → Prop} (i : Nat) (F : Cal X.prog X.w X.K X.mg X.base k x ps (spP X.K R)) (hg : X.mg x = some (.ref (He.ga X.K x))) (hr : Room k X.A) (h : EA X (e :: es) τ ds τ) (hR : R ds (.ok d)) (hs : τ[i]? = some (.kp (isFn X.K x)) := by rfl) (hN : X.N[i]? = some y := by rfl) (hv : Vis X.env.scope y := by first | exact Or.inl rfl | exact Or.inr (Or.inl rfl) | exact Or.inr (Or.inr rfl))
    (hdb : (y == ("__debug__" : Str)) = false := by decide) (hcd : (y == ("__classdict__" : Str)) = false := by decide) (he : starEach (e :: es) X.env = (false, eval e X.env) :: starEach es X.env := by rfl) (hpl : (backTo pos (starEach es X.env)).any (·.1) = false := by rfl) :
    EV X (.Call (.Name y p) (e :: es) [] pos) τ d τ := by
  obtain ⟨f, fd, hm, hk, hb, G⟩ := F.ex
  have ef : f = He.ga X.K x := by rw [hg] at hm; cases hm; rfl
  subst ef
  exact ⟨rfl, fun C σ H Q S q => WE.of (pe_callL G hr hN hv hk hb .nil passL pa_self hdb hcd he hpl) (by
    obtain ⟨o, h3, v, h4, h5⟩ := S.sl i _ hs
    subst h4
    have := h5 _ (Ex.refl _)
    subst this
    exact ⟨h3, h.run C σ H _ S fun vs H1 g1 S1 p1 => ⟨C.L0 ++ own τ, ds, .ok d, S1.dom, by rw [List.append_nil]; exact p1, hR, fun v H2 ex pv => q v H2 (g1.trans (Gw.of ex)) (S1.ex ex) pv⟩⟩)⟩
theorem ER.callV {R : List PyData → Res → Prop} {cn : Str} (i : Nat) (F : Cal X.prog X.w X.K X.mg X.base k x ps (spP X.K R)) (hg : X.mg x = some (.ref (He.ga X.K x))) (hr : Room k X.A) (h : EA X (e :: es) τ ds τ) (hR : R ds (.ex cn)) (hs : τ[i]? = some (.kp (isFn X.K x)) := by rfl) (hN : X.N[i]? = some y := by rfl) (hv : Vis X.env.scope y := by first | exact Or.inl rfl | exact Or.inr (Or.inl rfl) | exact Or.inr (Or.inr rfl))
    (hdb : (y == ("__debug__" : Str)) = false := by decide) (hcd : (y == ("__classdict__" : Str)) = false := by decide) (he : starEach (e :: es) X.env = (false, eval e X.env) :: starEach es X.env := by rfl) (hpl : (backTo pos (starEach es X.env)).any (·.1) = false := by rfl) :
    ER X (.Call (.Name y p) (e :: es) [] pos) τ cn := by
  obtain ⟨f, fd, hm, hk, hb, G⟩ := F.ex
  have ef : f = He.ga X.K x := by rw [hg] at hm; cases hm; rfl
  subst ef
  exact ⟨fun C σ H Q W tk S q => WE.of (pe_callLS G hr hN hv hk hb (fun σ => passAt tk σ) pa_self hdb hcd he hpl) (by
    obtain ⟨o, h3, v, h4, h5⟩ := S.sl i _ hs
    subst h4
    have := h5 _ (Ex.refl _)
    subst this
    exact ⟨h3, h.run C σ H _ S fun vs H1 g1 S1 p1 => ⟨C.L0 ++ own τ, ds, .ex cn, S1.dom, p1, hR, fun H2 ex => q H2 (S1.ex ex)⟩⟩)⟩
end
end DL

set_option maxRecDepth 100000
set_option maxHeartbeats 4000000
/-! DMd: tuple * n; a statement from whose end several ways go on. -/
namespace DL
open PySem PySem.Spec PyProof.Rows L2
theorem tuple_mul1 (l : Addr) (items : Array Value) (n : Nat) (dd : Option Addr) (sl : Array (Option Value)) (u : Tok) :
    Meets (Builtin.«tuple.__mul__» ⟨[.ref l, .int 1 u], []⟩) (fun _ R s => s.heap.get? l = some { cls := .type "tuple", dict := dd, data := .seq items n, slots := sl } ∧ R (.ok (.ret (Value.ref l))) s) :=
  .of_wp fun prog w A R s h => by
    obtain ⟨hp, g, d, tk, os⟩ := s
    obtain ⟨hl, h⟩ := h
    have f1 := AutoSeq1.idx_int
    have c1 : (items.isEmpty || (1 : Int) == 1) = true := by simp
    wp_walk using wpAny_loadPart' hl
    repeat (first
      | (refine wpAny_ite_true (decide_eq_true c1) ?_; wp_walk using wpAny_loadPart' hl)
      | (refine wpAny_ite_false (decide_eq_false (by decide)) ?_; wp_walk using wpAny_loadPart' hl)
      | (refine wpAny_ite_true (decide_eq_true (by decide)) ?_; wp_walk using wpAny_loadPart' hl))
    exact ⟨_, rfl, h⟩
theorem tuple_mul0 (l : Addr) (items : Array Value) (n : Nat) (dd : Option Addr) (sl : Array (Option Value)) (u : Tok) (hi : items.isEmpty = false) :
    Meets (Builtin.«tuple.__mul__» ⟨[.ref l, .int 0 u], []⟩) (fun _ R s => s.heap.get? l = some { cls := .type "tuple", dict := dd, data := .seq items n, slots := sl } ∧ R (.ok (.ret (Value.ref s.heap.objs.size))) { s with heap := s.heap.push { cls := Value.type "tuple", data := Data.seq #[] }, toks := s.toks }) :=
  .of_wp fun prog w A R s h => by
    obtain ⟨hp, g, d, tk, os⟩ := s
    obtain ⟨hl, h⟩ := h
    have f1 := AutoSeq1.idx_int
    have c1 : (items.isEmpty || (0 : Int) == 1) = false := by rw [hi]; rfl
    wp_walk using wpAny_loadPart' hl
    repeat (first
      | (refine wpAny_ite_false (decide_eq_false (by rw [c1]; exact Bool.false_ne_true)) ?_; wp_walk using wpAny_loadPart' hl)
      | (refine wpAny_ite_true (decide_eq_true (by decide)) ?_; wp_walk using wpAny_loadPart' hl)
      | (refine wpAny_ite_false (decide_eq_false (by decide)) ?_; wp_walk using wpAny_loadPart' hl))
    exact ⟨_, rfl, h⟩
def rRepA (K : PySem.W.Frag) : R2 := fun x y H Q => ∃ l k xs, x = .ref l ∧ y = .int k ∧ SqT K H l xs ∧ xs ≠ [] ∧ 0 ≤ k ∧ k ≤ 1000 ∧ xs.length ≤ 1000 ∧ (k = 1 → Q (.ref l) H) ∧ (k ≠ 1 → ∀ p, H p = none → Q (.ref p) (upd H p (.tup (List.replicate k.toNat xs).flatten)))
section
variable {X : Cx}
theorem op_repA : OpR X (binaryOp .Mult) (rRepA X.K) := by
  intro pins s σ H x y v u Q I rx ry h
  obtain ⟨l, k, xs, rfl, rfl, hT, hne, h0, h2, hz, q1, q2⟩ := h
  by_cases hk : 2 ≤ k
  · exact op_repT pins s σ H _ _ v u Q I rx ry ⟨l, k, xs, rfl, rfl, hT, hne, hk, h2, hz, q2 (by omega)⟩
  cases rx
  obtain ⟨t, rfl⟩ := ry
  obtain ⟨its, r, ⟨⟨cls, dd, data, sl⟩, ho, hc, n, hd⟩, hs⟩ := I.tuple hT
  simp only at hc hd
  subst hc hd
  by_cases h1 : k = 1
  · subst h1
    refine wpAny_binaryOp_repeat_ref (T := "tuple") (U := "int") (by decide) ⟨_, ho, rfl⟩ (fun s' => typeIs_int s' 1 t) noFill_tuple_mul F.fills_int_mul F.slot_int_rmul repeat_tuple F.slot_int_index.lookup
      (call_meets F.slot_int_rmul (typeIs_int s 1 t) F.entry_int_rmul (F.args_int_rmul_2 _ _) (int_rmul_tuple 1 t l its.toArray n dd sl)
        ⟨ho, rfl, ⟨_, ho, rfl⟩, call_meets F.slot_tuple_mul ⟨_, ho, rfl⟩ F.entry_tuple_mul (F.args_tuple_mul_2 _ _) (tuple_mul1 l its.toArray n dd sl t) ⟨ho, ?_⟩⟩)
    exact ⟨.ref l, H, I, rfl, q1 rfl⟩
  · obtain rfl : k = 0 := by omega
    have hi : its.toArray.isEmpty = false := by
      have hle : its.length = xs.length := r.length.symm
      cases its with
      | nil => exact absurd (List.eq_nil_of_length_eq_zero hle.symm) hne
      | cons a b => rfl
    refine wpAny_binaryOp_repeat_ref (T := "tuple") (U := "int") (by decide) ⟨_, ho, rfl⟩ (fun s' => typeIs_int s' 0 t) noFill_tuple_mul F.fills_int_mul F.slot_int_rmul repeat_tuple F.slot_int_index.lookup
      (call_meets F.slot_int_rmul (typeIs_int s 0 t) F.entry_int_rmul (F.args_int_rmul_2 _ _) (int_rmul_tuple 0 t l its.toArray n dd sl)
        ⟨ho, rfl, ⟨_, ho, rfl⟩, call_meets F.slot_tuple_mul ⟨_, ho, rfl⟩ F.entry_tuple_mul (F.args_tuple_mul_2 _ _) (tuple_mul0 l its.toArray n dd sl t hi) ⟨ho, ?_⟩⟩)
    refine ⟨.ref s.heap.objs.size, _, I.laid (t' := s.toks) (o := .tup []) (fun b ob q => Heap.get?_push_of_some _ q) (Nat.le_refl _) ?_, rfl, q2 h1 _ (I.hok.fresh (Nat.le_refl _))⟩
    exact ⟨Nat.zero_le _, [], .nil, IsTup.new _ _⟩
end
section
variable {X : Cx} {a b c e : Expr} {pos p : Pos} {τ τ1 τ2 : List SV} {ds : List PyData} {st : Stmt} {rest : List Stmt} {R : Out → Prop}
theorem EV.repT {k : Int} (h1 : EV X a τ (.tuple ds) τ1) (h2 : EV X b τ1 (.int k) τ2) (hne : ds ≠ []) (hb : 0 ≤ k ∧ k ≤ 1000) (hz : ds.length ≤ 1000) : EV X (.BinOp a .Mult b pos) τ (.tuple (List.replicate k.toNat ds).flatten) τ2 :=
  EV.bin op_repA h1 h2 fun L H x y Q dm p1 p2 q => by
    cases p2
    cases p1 with
    | @tup l xs _ s1 s2 =>
      have hl := DpAll.len s2
      refine ⟨l, k, xs, rfl, rfl, st_ex (hide_ex L H) s1, fun e => hne (by rw [e] at hl; exact List.eq_nil_of_length_eq_zero hl.symm), hb.1, hb.2, by omega, fun e => ?_, fun _ p hp => q _ _ (Ex.new hp) (dp_newT hp dm (DpAll.rep s2 _))⟩
      subst e
      refine q _ H (Ex.refl _) ?_
      have : (List.replicate (1 : Int).toNat ds).flatten = ds := by simp
      rw [this]
      exact .tup s1 s2
/-- behind st all ways meet at P -/
theorem SX.join (P : List SV → Prop) (hr : ∀ τ', P τ' → SX X rest τ' R) (h : (∀ τ', P τ' → SX X rest τ' R) → SX X (st :: rest) τ R) : SX X (st :: rest) τ R := h hr
end
end DL

set_option maxRecDepth 100000
set_option maxHeartbeats 2000000
/-! DMe: a dict of ints of one's own: made, read, written, its values. -/
namespace DL
open PySem PySem.Spec PyProof.Rows L2
section
variable {K : PySem.W.Frag} {C : Fc} {H : Hp} {σ : L2.St} {τ : List SV} {p l : Addr} {i : Nat} {ho : HO} {f : Hp → HO → Prop}
/-- slot i now holds the object at p: a new one, or the one that it held, changed; all else stands -/
theorem Sl.putO (S : Sl K C H σ τ) (hi : i < τ.length) (hw : p ∉ own (τ.set i .un)) (hx : p ∈ own τ ∨ H p = none) (h : ∀ H', Ex (hide (C.L0 ++ own τ) H) H' → f H' ho) :
    Sl K C (upd H p ho) (σ.set i (some (.ref p))) (τ.set i (.od p f)) := by
  have hq : p ∈ C.M ∨ C.H0 p = none := by
    rcases hx with z | z
    · exact S.ow p z
    · exact .inr (S.no0 z).2.2
  have hsub : ∀ a, a ∈ own (τ.set i (.od p f)) → a = p ∨ a ∈ own τ := fun a ha => by
    rcases own_sub_set ha with z | z
    · exact .inl (by simpa [ownA] using z)
    · exact .inr (own_un_sub z)
  have np : ∀ a o, hide (C.L0 ++ own τ) H a = some o → a ≠ p := fun a o q e => by
    obtain ⟨z1, z2⟩ := hide_some q
    rcases hx with z | z
    · exact z1 (by rw [e]; exact List.mem_append_right _ z)
    · rw [e, z] at z2; cases z2
  have ex : Ex (hide (C.L0 ++ own τ) H) (hide (C.L0 ++ own (τ.set i (.od p f))) (upd H p ho)) := fun a o q => by
    have na := np a o q
    obtain ⟨z1, z2⟩ := hide_some q
    rw [hide_out (fun z => ?_), upd_ne na]
    · exact z2
    · rcases List.mem_append.mp z with y | y
      · exact z1 (List.mem_append_left _ y)
      · rcases hsub a y with w | w
        · exact na w
        · exact z1 (List.mem_append_right _ w)
  refine ⟨by simp [S.len], fun j sv e => ?_, fun a o n q => ?_, fun a ha => ?_, fun a ha z => ?_, fun a ha z => ?_, fun a ha z => ?_⟩
  · by_cases hj : i = j
    · subst hj
      rw [List.getElem?_set_self hi] at e
      have e2 : SV.od p f = sv := Option.some.inj e
      subst e2
      exact ⟨some (.ref p), by rw [List.getElem?_set_self (by rw [S.len]; exact hi)], rfl, ho, upd_same, fun H'' z => h H'' (ex.trans z)⟩
    · have e' := e
      rw [List.getElem?_set_ne hj] at e
      obtain ⟨o, h1, h2⟩ := S.sl j sv e
      refine ⟨o, by rw [List.getElem?_set_ne hj]; exact h1, ?_⟩
      cases sv with
      | un => trivial
      | pu d => obtain ⟨v, z1, z2⟩ := h2; exact ⟨v, z1, Dp.ex ex z2⟩
      | ow l es =>
        obtain ⟨z1, ys, z2, z3⟩ := h2
        have nl : l ≠ p := fun q => hw (by rw [← q]; exact own_mem (i := j) (by rw [List.getElem?_set_ne hj]; exact e))
        exact ⟨z1, ys, by rw [upd_ne nl]; exact z2, DpAll.ex ex z3⟩
      | kp f => obtain ⟨v, z1, z2⟩ := h2; exact ⟨v, z1, fun H'' z => z2 H'' (ex.trans z)⟩
      | od l f =>
        obtain ⟨z1, ys, z2, z3⟩ := h2
        have nl : l ≠ p := fun q => hw (by rw [← q]; exact own_mem' (i := j) (sv := .od l f) (by rw [List.getElem?_set_ne hj]; exact e) (List.mem_singleton.mpr rfl))
        exact ⟨z1, ys, by rw [upd_ne nl]; exact z2, fun H'' z => z3 H'' (ex.trans z)⟩
      | ob w cs f =>
        obtain ⟨z1, ys, z2, z3⟩ := h2
        exact ⟨z1, ys, by rw [cells_upd (cs := cs) (fun z => hw (own_mem' (i := j) (sv := .ob w cs f) (by rw [List.getElem?_set_ne hj]; exact e) z))]; exact z2, fun H'' z => z3 H'' (ex.trans z)⟩
  · have na : a ≠ p := fun e => by
      rcases hq with z | z
      · exact n (e ▸ z)
      · rw [e, z] at q; cases q
    rw [upd_ne na]; exact S.gr a o n q
  · rcases hsub a ha with w | w
    · rw [w]; exact hq
    · exact S.ow a w
  · by_cases c : a = p
    · rw [c, upd_same] at z; cases z
    · rw [upd_ne c] at z; exact S.dm a ha z
  · by_cases c : a = p
    · rw [c, upd_same] at z; cases z
    · rw [upd_ne c] at z; exact S.mm a ha z
  · rcases hsub a ha with w | w
    · rcases hx with y | y
      · exact S.nl p y (w ▸ z)
      · exact S.dm p (w ▸ z) y
    · exact S.nl a w z
theorem put_backO {g : Hp → HO → Prop} (S : Sl K C H σ τ) (hs : τ[i]? = some (.od l g)) (hw : l ∉ own (τ.set i .un)) (h : ∀ H', Ex (hide (C.L0 ++ own τ) H) H' → f H' ho) : Sl K C (upd H l ho) σ (τ.set i (.od l f)) := by
  have hl : i < τ.length := (List.getElem?_eq_some_iff.mp hs).1
  have S2 := S.putO (p := l) hl hw (.inl (own_mem' hs (List.mem_singleton.mpr rfl))) h
  obtain ⟨o, h1, h2, _⟩ := S.sl i _ hs
  have e : σ.set i (some (.ref l)) = σ := by
    apply List.ext_getElem?
    intro j
    by_cases hj : i = j
    · subst hj
      rw [List.getElem?_set_self (by rw [S.len]; exact hl), h1, h2]
    · rw [List.getElem?_set_ne hj]
  rw [e] at S2
  exact S2
end
/-! ### ints to ints -/
def kvI (cs : List (Int × Int)) : List (L2.Key × V) := cs.map fun c => (.inl c.1, .int c.2)
def isDI (cs : List (Int × Int)) : Hp → HO → Prop := fun _ ho => ho = .dK (kvI cs)
def getC (cs : List (Int × Int)) (k : Int) : Option Int := (cs.find? fun c => decide (c.1 = k)).map (·.2)
def putC (cs : List (Int × Int)) (k v : Int) : List (Int × Int) := if (cs.any fun c => decide (c.1 = k)) = true then cs.map fun c => if c.1 = k then (c.1, v) else c else cs ++ [(k, v)]
section
variable {X : Cx} {a b c e e1 e2 : Expr} {es : List Expr} {pos p p1 p2 p3 : Pos} {τ τ1 τ2 : List SV} {d : PyData} {x : Str} {rest : List Stmt} {R : Out → Prop} {l : Addr} {cs : List (Int × Int)}
/-- x = {} -/
theorem SX.newD (i : Nat) {p' : Pos} (h : ∀ p, p ∉ own τ → SX X rest (τ.set i (.od p (isDI []))) R) (hl : i < τ.length := by simp) (hN : X.N.Nodup := by assumption) (hi : X.N[i]? = some x := by rfl) (hx : Loc X.env.scope x := by first | exact Or.inl rfl | exact Or.inr rfl)
    (hs : swapsWith (.Dict [] [] p1) (some (.Name x p')) pos.line X.env = pure false := by rfl) (hf : X.fn x = true ∨ X.env.scope.names.lookup x = some .local := by first | exact .inl rfl | exact .inr rfl) : SX X (.Assign [.Name x p'] (.Dict [] [] p1) pos :: rest) τ R :=
  SX.seq (ps_set hN hi hx pe_dnewK hs hf) fun C σ H D W tk S k => fun p hp => by
    have no := S.no0 hp
    exact k (.nx _) (h p no.1) _ _ (S.putO (p := p) hl (fun z => no.1 (own_un_sub z)) (.inr hp) (f := isDI []) fun _ _ => rfl)
theorem od_run {σ : L2.St} {H : Hp} {C : Fc} {Q : VK} {i : Nat} (hs : τ[i]? = some (.od l (isDI cs))) (hN : X.N[i]? = some x) (hv : Vis X.env.scope x) (hd : (x == ("__debug__" : Str)) = false) (hcd : (x == ("__classdict__" : Str)) = false) (S : Sl X.K C H σ τ)
    (q : H l = some (.dK (kvI cs)) → Q (.ref l) H) : WE X (.Name x pos) σ H Q := by
  obtain ⟨o, h1, h2, ho, h3, h4⟩ := S.sl i _ hs
  have e := h4 _ (Ex.refl _)
  rw [e] at h3
  exact WE.of (pe_var hN hv hd hcd) ⟨.ref l, by rw [h1, h2], q h3⟩
theorem valV_kvI (k : Int) (cs : List (Int × Int)) : valV (kvI cs) (.inl k) = (getC cs k).map V.int := by
  unfold valV kvI getC
  rw [List.find?_map, Option.map_map, Option.map_map]
  have e : ((fun kv : L2.Key × V => decide (kv.1 = Sum.inl k)) ∘ fun c : Int × Int => ((Sum.inl c.1 : L2.Key), V.int c.2)) = fun c => decide (c.1 = k) := funext fun c => by
    show decide ((Sum.inl c.1 : L2.Key) = Sum.inl k) = decide (c.1 = k)
    exact decide_eq_decide.mpr ⟨fun z => Sum.inl.inj z, fun z => by rw [z]⟩
  rw [e]; rfl
theorem putK_kvI (k v : Int) (cs : List (Int × Int)) : putK (kvI cs) (.inl k) (.int v) = kvI (putC cs k v) := by
  unfold putK putC kvI
  rw [List.any_map]
  have e : ((fun kv : L2.Key × V => decide (kv.1 = Sum.inl k)) ∘ fun c : Int × Int => ((Sum.inl c.1 : L2.Key), V.int c.2)) = fun c => decide (c.1 = k) := funext fun c => by
    show decide ((Sum.inl c.1 : L2.Key) = Sum.inl k) = decide (c.1 = k)
    exact decide_eq_decide.mpr ⟨fun z => Sum.inl.inj z, fun z => by rw [z]⟩
  rw [e]
  split
  · rw [List.map_map, List.map_map]
    refine List.map_congr_left fun c _ => ?_
    show (if (Sum.inl c.1 : L2.Key) = Sum.inl k then ((Sum.inl c.1 : L2.Key), V.int v) else (Sum.inl c.1, V.int c.2)) = (Sum.inl (if c.1 = k then (c.1, v) else c).1, V.int (if c.1 = k then (c.1, v) else c).2)
    by_cases q : c.1 = k
    · rw [if_pos (by rw [q]), if_pos q]
    · rw [if_neg (fun z => q (Sum.inl.inj z)), if_neg q]
  · rw [List.map_append]; rfl
/-- d.get(k, z) -/
theorem EV.dgetI {k z : Int} {ap : Pos} (i : Nat) (hu : X.A.units + 1 < cLine) (h1 : EV X a τ (.int k) τ) (h2 : EV X b τ (.int z) τ) (hs : τ[i]? = some (.od l (isDI cs)) := by rfl) (hN : X.N[i]? = some x := by rfl) (hv : Vis X.env.scope x := by first | exact Or.inl rfl | exact Or.inr (Or.inl rfl) | exact Or.inr (Or.inr rfl)) (hd : (x == ("__debug__" : Str)) = false := by decide)
    (hcd : (x == ("__classdict__" : Str)) = false := by decide) (hm : M2 X (.Name x p1) "get" ap a b pos := by exact ⟨rfl, rfl, rfl, rfl⟩) : EV X (.Call (.Attribute (.Name x p1) "get" ap) [a, b] [] pos) τ (.int ((getC cs k).getD z)) τ :=
  ⟨rfl, fun C σ H Q S q => WE.of (pe_dget2 hu pe_self pe_self pe_self hm) (by
    refine od_run hs hN hv hd hcd S fun e0 => ⟨l, rfl, .inl ⟨_, .inl e0⟩, ?_⟩
    refine h1.run C σ H _ S fun v1 H1 g1 S1 q1 => h2.run C σ H1 _ S1 fun v2 H2 g2 S2 q2 => ?_
    cases q1; cases q2
    obtain ⟨o, z1, z2, ho, z3, z4⟩ := S2.sl i _ hs
    have e := z4 _ (Ex.refl _)
    rw [e] at z3
    refine ⟨_, DGet.k (k := .inl k) z3, ?_⟩
    rw [valV_kvI]
    have : ((getC cs k).map V.int).getD (V.int z) = V.int ((getC cs k).getD z) := by cases getC cs k <;> rfl
    rw [this]
    exact q _ H2 (g1.trans g2) S2 (.int _))⟩
/-- d[k] = e -/
theorem SX.dsetI {k v : Int} (i : Nat) (hu : X.A.units + 1 < cLine) (h1 : EV X e τ (.int v) τ) (h2 : EV X b τ (.int k) τ) (hz : cs.length < sizeLine) (h : SX X rest (τ.set i (.od l (isDI (putC cs k v)))) R) (hs : τ[i]? = some (.od l (isDI cs)) := by rfl) (hw : l ∉ own (τ.set i .un) := by simp [own, ownA]) (hN : X.N[i]? = some x := by rfl) (hv : Vis X.env.scope x := by first | exact Or.inl rfl | exact Or.inr (Or.inl rfl) | exact Or.inr (Or.inr rfl)) (hd : (x == ("__debug__" : Str)) = false := by decide)
    (hcd : (x == ("__classdict__" : Str)) = false := by decide) (hg : PG X (.Subscript (.Name x p1) b p2) (gSub (WE X (.Name x p1)) (WE X b) rSetD) := by exact pg_sub pe_self pe_self (set_dict (by assumption)))
    (hsw : swapsWithSole [.Subscript (.Name x p1) b p2] e pos.line X.env = pure false := by rfl) (hst : swappedStores [.Subscript (.Name x p1) b p2] e X.env = pure none := by rfl) :
    SX X (.Assign [.Subscript (.Name x p1) b p2] e pos :: rest) τ R :=
  SX.seq (ps_asg pe_self hg hsw hst) fun C σ H D W tk S q => h1.run C σ H _ S fun v1 H1 g1 S1 q1 => by
    refine od_run hs hN hv hd hcd S1 fun e0 => ?_
    refine h2.run C σ H1 _ S1 fun v2 H2 g2 S2 q2 => ?_
    cases q1; cases q2
    obtain ⟨o, z1, z2, ho, z3, z4⟩ := S2.sl i _ hs
    have e := z4 _ (Ex.refl _)
    rw [e] at z3
    refine ⟨l, _, rfl, DPut.k (k := .inl k) (v := .int v) z3 (by unfold kvI; rw [List.length_map]; exact hz), ?_⟩
    rw [putK_kvI]
    exact q (.nx _) h _ _ (put_backO S2 hs hw fun _ _ => rfl)
/-- list(o.values()) -/
def tListVals (td : TE) : TE := fun σ H Q => td σ H fun x H1 => ∃ a kvs, x = V.ref a ∧ H1 a = some (.dK kvs) ∧ ∀ p, H1 p = none → Q (.ref p) (upd H1 p (.lst (kvs.map (·.2))))
theorem pe_listVals {o : Expr} {td : TE} {apos mpos : Pos} (hc : X.calm = true) (hg : Gl X "list") (hm : X.mg "list" = none) (hd : PE X o td) (hbase : attributeBase o "values" X.env (eval o X.env) = eval o X.env := by rfl) (hline : (apos.endLine == mpos.line) = true := by rfl)
    (hse : starEach [Expr.Call (.Attribute o "values" apos) [] [] mpos] X.env = [(false, eval (Expr.Call (.Attribute o "values" apos) [] [] mpos) X.env)] := by rfl) :
    PE X (.Call (.Name "list" p) [.Call (.Attribute o "values" apos) [] [] mpos] [] pos) (tListVals td) := by
  refine ⟨fun pins s σ H Q I h => ?_⟩
  refine wpAny_Call_Name_kw (ld_blt I hg hm (u := .type "list") (by first | rfl | decide +kernel) ?_ (by first | decide +kernel | decide) (by first | decide +kernel | decide))
  rw [hse]
  refine PySem.callWith_type1 (wpAny_Call_method0_late hbase hline (thn (hd.run pins s σ H _ I h) fun v s1 ⟨x, H1, I1, r1, a, kvs, ex, ha, q⟩ => ?_))
  subst ex
  obtain rfl : v = Value.ref a := r1
  obtain ⟨hz, hsys, vs, rel, dof⟩ := dk_of I1.hok ha
  obtain ⟨ep, dat⟩ := dof.dictAt
  have dat' := dat
  obtain ⟨ob, es, ho, ex, hdat, hko, hpr, hnd⟩ := dat'
  refine ⟨"dict", "dict.values", F.plainAttrs_dict, F.slot_dict_values, F.type_dict_values, ⟨ob, ho, ex.1⟩, fun b e => ?_, Calls.callWith_builtin rfl (PySem.evalArgs_none ?_)⟩
  · cases e
    exact ⟨ob, ho, ex.2.1⟩
  refine call_meetsIn F.slot_dict_values ⟨ob, ho, ex.1⟩ F.entry_dict_values (F.args_dict_values_1 _) (meets_dict_values (mixKind X.prog X.w) a hsys) ⟨⟨vs, dof⟩, ?_⟩
  have k1 : ∀ b u, s1.heap.get? b = some u → (s1.heap.push { cls := .type "dict_values", data := .fields #[.ref a] }).get? b = some u := fun b u e => Heap.get?_push_of_some _ e
  have I2 : Inv X pins σ H1 { s1 with heap := s1.heap.push { cls := .type "dict_values", data := .fields #[.ref a] } } := I1.kept (t' := s1.toks) k1
  have hl : kvs.length = vs.length := KV.length rel
  refine PySem.W.kdl_call (PySem.W.kdl_values (knd := mixKind X.prog X.w) (r := s1.heap.objs.size) (d := a) (kvs := vs) (ep := ep)) (I.ok.hd hc) ⟨⟨_, Heap.get?_push_size _ rfl, rfl, rfl⟩, dat.keep k1⟩ (by rw [← hl]; exact hz) fun h' tk acc' c' hkeep hS hacc => ?_
  refine ⟨.ref _, _, I2.laid (t' := tk) hkeep (Nat.le_refl _) (show ObjOk X.prog X.w _ _ _ (.lst (kvs.map (·.2))) from ⟨?_, acc'.toList, c', ?_, ?_⟩), rfl, q _ (I2.hok.fresh (Nat.le_refl _))⟩
  · rw [List.length_map]; exact hz
  · have el : acc'.toList.length = acc'.size := by simp
    refine vals_of_at (by rw [List.length_map, el, hacc.1, hl]) fun j x w h1 h2 => ?_
    obtain ⟨k, hky⟩ := hacc.2 j w (by rw [← Array.getElem?_toList]; exact h2)
    obtain ⟨y, hy, ry⟩ := KV.at' rel hky
    rw [List.getElem?_map, hy] at h1
    cases h1
    exact ry
  · rw [Array.toArray_toList]; exact hS
theorem EF.listVals {ap mp : Pos} (i : Nat) (hm : X.mg "list" = none) (hs : τ[i]? = some (.od l (isDI cs)) := by rfl) (hc : X.calm = true := by rfl) (hg : Gl X "list" := by rfl) (hN : X.N[i]? = some x := by rfl) (hv : Vis X.env.scope x := by first | exact Or.inl rfl | exact Or.inr (Or.inl rfl) | exact Or.inr (Or.inr rfl)) (hd : (x == ("__debug__" : Str)) = false := by decide)
    (hcd : (x == ("__classdict__" : Str)) = false := by decide) (hbase : attributeBase (.Name x p1) "values" X.env (eval (.Name x p1) X.env) = eval (.Name x p1) X.env := by rfl) (hline : (ap.endLine == mp.line) = true := by rfl)
    (hse : starEach [Expr.Call (.Attribute (.Name x p1) "values" ap) [] [] mp] X.env = [(false, eval (Expr.Call (.Attribute (.Name x p1) "values" ap) [] [] mp) X.env)] := by rfl) :
    EF X (.Call (.Name "list" p) [.Call (.Attribute (.Name x p1) "values" ap) [] [] mp] [] pos) τ (cs.map fun c => .int c.2) τ :=
  ⟨rfl, fun C σ H Q S q => WE.of (pe_listVals hc hg hm pe_self hbase hline hse) (by
    refine od_run hs hN hv hd hcd S fun e0 => ⟨l, _, rfl, e0, fun pA hp => ?_⟩
    refine q pA _ _ (Gw.of (Ex.new hp)) hp upd_same ?_ (S.addHid hp)
    have : (kvI cs).map (·.2) = (cs.map (·.2)).map V.int := by unfold kvI; rw [List.map_map, List.map_map]; rfl
    rw [this, show (cs.map fun c => PyData.int c.2) = (cs.map (·.2)).map PyData.int by rw [List.map_map]; rfl]
    exact dpInts _)⟩
end
end DL

set_option maxRecDepth 100000
set_option maxHeartbeats 2000000
/-! SpJ: hits, draws that fit. -/
namespace K
open PySem L2 DL
def hitsM (book : List (List Int)) (d : List Int) : List Int := book.map fun t => (sharedM t d : Int)
theorem hits_map (book : List (List Int)) (d : List Int) : PyData.tuple (book.map fun t => PyData.int (sharedM t d)) = eT (hitsM book d) := by
  show _ = PyData.tuple ((book.map fun t => (sharedM t d : Int)).map PyData.int)
  rw [List.map_map]; rfl
def R_hits_of (ds : List PyData) (r : Res) : Prop := ∃ (book : List (List Int)) (d : List Int), BSz book ∧ ds = [eTT book, eT d] ∧ r = .ok (eT (hitsM book d))
def areHitsD (k : Int) (many : Nat) (d : PyData) : Bool := match d with
  | .tuple es => decide (es.length = many) && es.all (fun x => isWholeD x 0 k)
  | _ => false
def HSz (d : PyData) : Prop := ∀ es, d = .tuple es → es.length ≤ 1000
/-- a valid game; the book and the hits are looked at -/
def hitsLooked (f : Int → Int → Int → Int → List (List Int) → List Int → Res → Prop) (ds : List PyData) (r : Res) : Prop := ∃ g b h, ds = [g, b, h] ∧ ∃ n k p m : Int, Valid n k p m ∧ g = eT [n, k, p, m] ∧ DSz b ∧ HSz h ∧ ((isGoodD n k b = false ∧ r = .ex "BadBook") ∨
  ∃ book, b = eTT book ∧ isGoodD n k b = true ∧ ((areHitsD k book.length h = false ∧ r = .ex "BadHits") ∨ ∃ hs, h = eT hs ∧ areHitsD k book.length h = true ∧ f n k p m book hs r))
theorem whole_ints {lo k : Int} : ∀ {ds : List PyData}, (ds.all fun x => isWholeD x lo k) = true → ds = (ds.map getI).map PyData.int
  | [], _ => rfl
  | d :: ds, h => by
    rw [List.all_cons, Bool.and_eq_true] at h
    obtain ⟨i, rfl, _⟩ := isWholeD_true h.1
    rw [List.map_cons, List.map_cons, ← whole_ints h.2]; rfl
theorem hits_eT {k : Int} {many : Nat} {d : PyData} (h : areHitsD k many d = true) : ∃ hs, d = eT hs := by
  cases d with
  | tuple es =>
    have h2 : (decide (es.length = many) && es.all (fun x => isWholeD x 0 k)) = true := h
    rw [Bool.and_eq_true] at h2
    exact ⟨es.map getI, by show PyData.tuple es = PyData.tuple ((es.map getI).map PyData.int); rw [← whole_ints h2.2]⟩
  | _ => cases h
def fitM (n p : Int) (book : List (List Int)) (hs : List Int) : List (List Int) := (ticketsM n p).filter fun d => decide (hitsM book d = hs)
def R_look_hits : List PyData → Res → Prop := hitsLooked fun n k p m book hs r => r = .ok .none
def R_all_fitting (ds : List PyData) (r : Res) : Prop := ∃ (n k p m : Int) (book : List (List Int)) (hs : List Int), Valid n k p m ∧ BSz book ∧ ds = [eT [n, k, p, m], eTT book, eT hs] ∧ r = .ok (eLT (fitM n p book hs))
def R_fitting : List PyData → Res → Prop := hitsLooked fun n k p m book hs r => r = .ok (eLT (fitM n p book hs))
def R_some_fitting : List PyData → Res → Prop := hitsLooked fun n k p m book hs r => r = if fitM n p book hs = [] then .ex "Nothing" else .ok (eLT (fitM n p book hs))
def inM (n p : Int) (book : List (List Int)) (hs : List Int) : List Int := (nums n).filter fun x => (fitM n p book hs).all fun d => memD x d
def outM (n p : Int) (book : List (List Int)) (hs : List Int) : List Int := (nums n).filter fun x => !((fitM n p book hs).any fun d => memD x d)
def R_surely_in : List PyData → Res → Prop := hitsLooked fun n k p m book hs r => r = if fitM n p book hs = [] then .ex "Nothing" else .ok (eT (inM n p book hs))
def R_surely_out : List PyData → Res → Prop := hitsLooked fun n k p m book hs r => r = if fitM n p book hs = [] then .ex "Nothing" else .ok (eT (outM n p book hs))
/-! ### sizes -/
theorem hits_ok {n k : Int} {book : List (List Int)} (hk : 0 ≤ k) (hB : IsBook n k book) (d : List Int) : areHitsD k book.length (eT (hitsM book d)) = true := by
  show (decide (((hitsM book d).map PyData.int).length = book.length) && ((hitsM book d).map PyData.int).all (fun x => isWholeD x 0 k)) = true
  rw [List.length_map, Bool.and_eq_true, decide_eq_true_eq, List.all_map, List.all_eq_true]
  refine ⟨by unfold hitsM; rw [List.length_map], fun x hx => ?_⟩
  obtain ⟨t, ht, rfl⟩ := List.mem_map.mp hx
  have h1 : sharedM t d ≤ t.length := List.length_filter_le _ _
  have h2 := tickets_len (hB.mem t ht)
  show (decide (0 ≤ (sharedM t d : Int)) && decide ((sharedM t d : Int) ≤ k)) = true
  rw [decide_eq_true (by omega), decide_eq_true (by omega)]; rfl
theorem hits_set {k : Int} {many : Nat} {hs : List Int} (h : areHitsD k many (eT hs) = true) {i : Nat} {v : Int} (hi : i < many) (hv : 0 ≤ v ∧ v ≤ k) : areHitsD k many (eT (hs.take i ++ [v] ++ hs.drop (i + 1))) = true := by
  have h2 : (decide ((hs.map PyData.int).length = many) && (hs.map PyData.int).all (fun x => isWholeD x 0 k)) = true := h
  rw [List.length_map, Bool.and_eq_true, decide_eq_true_eq, List.all_map, List.all_eq_true] at h2
  show (decide (((hs.take i ++ [v] ++ hs.drop (i + 1)).map PyData.int).length = many) && ((hs.take i ++ [v] ++ hs.drop (i + 1)).map PyData.int).all (fun x => isWholeD x 0 k)) = true
  rw [List.length_map, Bool.and_eq_true, decide_eq_true_eq, List.all_map, List.all_eq_true]
  refine ⟨by simp; omega, fun x hx => ?_⟩
  rcases List.mem_append.mp hx with z | z
  · rcases List.mem_append.mp z with y | y
    · exact h2.2 x (List.mem_of_mem_take y)
    · rw [List.mem_singleton.mp y]
      show (decide (0 ≤ v) && decide (v ≤ k)) = true
      rw [decide_eq_true hv.1, decide_eq_true hv.2]; rfl
  · exact h2.2 x (List.mem_of_mem_drop z)
theorem hits_len {k : Int} {many : Nat} {hs : List Int} (h : areHitsD k many (eT hs) = true) : hs.length = many := by
  have h2 : (decide ((hs.map PyData.int).length = many) && (hs.map PyData.int).all (fun x => isWholeD x 0 k)) = true := h
  rw [List.length_map, Bool.and_eq_true, decide_eq_true_eq] at h2
  exact h2.1
theorem bad_len {k : Int} {many : Nat} {es : List PyData} (h : es.length ≠ many) : areHitsD k many (.tuple es) = false := by
  show (decide (es.length = many) && _) = false
  rw [decide_eq_false h]; rfl
theorem bad_head {k : Int} {many : Nat} {e : PyData} {es : List PyData} (h : isWholeD e 0 k = false) : areHitsD k many (.tuple (e :: es)) = false := by
  show (_ && (isWholeD e 0 k && _)) = false
  rw [h, Bool.false_and, Bool.and_false]
theorem all_none (x : Int) (rows : List (List Int)) : decide ((rows.filter fun r => !memD x r) = []) = rows.all fun d => memD x d := by
  rw [Bool.eq_iff_iff, decide_eq_true_eq, List.filter_eq_nil_iff, List.all_eq_true]
  exact forall_congr' fun d => imp_congr_right fun _ => by cases memD x d <;> simp
theorem any_none (x : Int) (rows : List (List Int)) : decide ((rows.filter fun r => memD x r) = []) = !(rows.any fun d => memD x d) := by
  rw [Bool.eq_iff_iff, decide_eq_true_eq, List.filter_eq_nil_iff, Bool.not_eq_true', List.any_eq_false]
end K

set_option maxRecDepth 100000
set_option maxHeartbeats 2000000
/-! DMf: a dict of one's own with rows as keys, ints as values. -/
namespace DL
open PySem PySem.Spec PyProof.Rows L2
abbrev RowK := Addr × List Int × Int
def kyI (ns : List Int) : List L2.Key := ns.map Sum.inl
/-- the dict at a: each key's tuple, its numbers, its value -/
structure DT0 (P : Program) (w : World) (h : Heap) (a : Addr) (ks : List RowK) : Prop where
  z : ks.length ≤ sizeLine
  y : (a == sysModules) = false
  ex : ∃ xs : List (List L2.Key × Addr × Value), Paired (fun (p : RowK) (q : List L2.Key × Addr × Value) => kyI p.2.1 = q.1 ∧ p.1 = q.2.1 ∧ RelV (.int p.2.2) q.2.2) ks xs ∧
    ∃ o es ep, h.get? a = some o ∧ o.ExactDict ∧ o.data = .dict es ep ∧ es.toList = xs.map (entryOfKey (tupleKind (mixKind P w))) ∧ (xs.map (·.1)).Nodup
def DTO (P : Program) (w : World) (a : Addr) (ks : List RowK) : HO := .ext fun h => DT0 P w h a ks
theorem dto_new {P : Program} {w : World} {H : Hp} {h : Heap} {a : Addr} {ks : List RowK} (R : DT0 P w h a ks) : ObjOk P w H h a (DTO P w a ks) := by
  obtain ⟨xs, r, o, es, ep, h1, q⟩ := R.ex
  refine ⟨R, ⟨o, h1⟩, fun h1 h2 p k => ?_⟩
  obtain ⟨z, y, xs', r', o', es', ep', h1', q'⟩ := (show DT0 P w _ a ks from p)
  exact ⟨z, y, xs', r', o', es', ep', k o' h1', q'⟩
theorem dt0_empty {P : Program} {w : World} (h : Heap) (hb : sysModules < h.objs.size) : DT0 P w (h.push { cls := .type "dict", data := .dict #[] }) h.objs.size [] :=
  ⟨Nat.zero_le _, beq_eq_false_iff_ne.mpr (Ne.symm (Nat.ne_of_lt hb)), [], .nil, _, #[], 0, Heap.get?_push_size _ rfl, ⟨rfl, rfl, rfl⟩, rfl, rfl, List.nodup_nil⟩
section
variable {X : Cx} {pins : List (Addr × Obj)} {σ : L2.St} {H : Hp} {s : Shared} {A : Around} {E : Value → Shared → Prop} {a b : Addr} {ks : List RowK} {ns : List Int}
/-- a row is a key -/
theorem Inv.key (I : Inv X pins σ H s) (h : SqT X.K H b (ns.map V.int)) : (tupleKind (mixKind X.prog X.w)).is s.heap (kyI ns) b := by
  obtain ⟨its, r, ⟨o, h1, h2, n, h3⟩, _⟩ := I.tuple h
  refine ⟨o, its.toArray, n, h1, h2, h3, ?_⟩
  have e : ns.map V.int = (kyI ns).map kV := by unfold kyI; rw [List.map_map]; rfl
  rw [e] at r
  simpa using items_are r
/-- the dict as the library reads it -/
theorem Inv.dto (I : Inv X pins σ H s) (hd : H a = some (DTO X.prog X.w a ks)) (hk : ∀ p, p ∈ ks → SqT X.K H p.1 (p.2.1.map V.int)) :
    ks.length ≤ sizeLine ∧ (a == sysModules) = false ∧ ∃ xs, Paired (fun (p : RowK) (q : List L2.Key × Addr × Value) => kyI p.2.1 = q.1 ∧ p.1 = q.2.1 ∧ RelV (.int p.2.2) q.2.2) ks xs ∧ s.heap.DictOfH (tupleKind (mixKind X.prog X.w)) a xs := by
  obtain ⟨z, y, xs, r, o, es, ep, h1, h2, h3, h4, h5⟩ := (show DT0 X.prog X.w s.heap a ks from (I.hok a _ hd).1)
  refine ⟨z, y, xs, r, o, es, ep, h1, h2, h3, h4, ?_, h5⟩
  have all : ∀ {l : List RowK} {m : List (List L2.Key × Addr × Value)}, Paired (fun (p : RowK) (q : List L2.Key × Addr × Value) => kyI p.2.1 = q.1 ∧ p.1 = q.2.1 ∧ RelV (.int p.2.2) q.2.2) l m → (∀ p, p ∈ l → SqT X.K H p.1 (p.2.1.map V.int)) → ∀ x ∈ m, (tupleKind (mixKind X.prog X.w)).is s.heap x.1 x.2.1 := by
    intro l m q
    induction q with
    | nil => intro _ x hx; exact nomatch hx
    | @cons p q ps qs hq t ih =>
      intro hl x hx
      rcases List.mem_cons.mp hx with e | hx
      · subst e
        rw [← hq.1, ← hq.2.1]
        exact Inv.key I (hl p (by simp))
      · exact ih (fun p hp => hl p (List.mem_cons_of_mem _ hp)) x hx
  exact all r hk
/-- the value at a row -/
def getR (ks : List RowK) (ns : List Int) : Option Int := (ks.find? fun p => decide (p.2.1 = ns)).map (·.2.2)
def putR (ks : List RowK) (ns : List Int) (v : Int) : List RowK := ks.map fun p => if p.2.1 = ns then (p.1, p.2.1, v) else p
theorem kyI_inj {a b : List Int} (h : kyI a = kyI b) : a = b := List.map_inj_right (fun _ _ e => Sum.inl.inj e) |>.mp h
abbrev PR (ks : List RowK) (xs : List (List L2.Key × Addr × Value)) : Prop := Paired (fun (p : RowK) (q : List L2.Key × Addr × Value) => kyI p.2.1 = q.1 ∧ p.1 = q.2.1 ∧ RelV (.int p.2.2) q.2.2) ks xs
theorem pr_get {xs : List (List L2.Key × Addr × Value)} {v : Int} (r : PR ks xs) (h : getR ks ns = some v) : ∃ q, atKey xs (kyI ns) = some q ∧ RelV (.int v) q.2 := by
  induction r with
  | nil => cases h
  | @cons p q ps qs hq t ih =>
    unfold getR at h
    rw [List.find?_cons] at h
    by_cases e : p.2.1 = ns
    · rw [decide_eq_true e] at h
      cases h
      refine ⟨q.2, ?_, hq.2.2⟩
      have : q.1 = kyI ns := by rw [← hq.1, e]
      simp [atKey, List.find?_cons, this]
    · rw [decide_eq_false e] at h
      obtain ⟨q', h1, h2⟩ := ih h
      have : ¬ q.1 = kyI ns := fun z => e (kyI_inj (hq.1.trans z))
      exact ⟨q', by simp [atKey, List.find?_cons, this] at h1 ⊢; exact h1, h2⟩
theorem pr_none {xs : List (List L2.Key × Addr × Value)} (r : PR ks xs) (h : ns ∉ ks.map (·.2.1)) : atKey xs (kyI ns) = none := by
  induction r with
  | nil => rfl
  | @cons p q ps qs hq t ih =>
    rw [List.map_cons, List.mem_cons, not_or] at h
    have : ¬ q.1 = kyI ns := fun z => h.1 (kyI_inj (hq.1.trans z)).symm
    have k := ih h.2
    unfold atKey at k ⊢
    rw [List.find?_cons, decide_eq_false this]
    exact k
theorem pr_put {xs : List (List L2.Key × Addr × Value)} {v : Int} {u : Value} (r : PR ks xs) (ru : RelV (.int v) u) : PR (putR ks ns v) (xs.map (putAt (kyI ns) u)) := by
  unfold putR
  induction r with
  | nil => exact .nil
  | @cons p q ps qs hq t ih =>
    rw [List.map_cons, List.map_cons]
    refine .cons ?_ ih
    unfold putAt
    by_cases e : p.2.1 = ns
    · rw [if_pos e, if_pos (by rw [← hq.1, e])]; exact ⟨hq.1, hq.2.1, ru⟩
    · rw [if_neg e, if_neg (fun z => e (kyI_inj (hq.1.trans z)))]; exact hq
/-- d[row] -/
theorem dr_get {v : Int} {Q : Value → Shared → Prop} (hu : A.units + 1 < cLine) (I : Inv X pins σ H s) (hd : H a = some (DTO X.prog X.w a ks)) (hk : ∀ p, p ∈ ks → SqT X.K H p.1 (p.2.1.map V.int)) (hb : SqT X.K H b (ns.map V.int)) (hg : getR ks ns = some v) (h : ∀ w' s', Inv X pins σ H s' → RelV (.int v) w' → Q w' s') :
    wpAny (model X.prog X.w) A (getItem (.ref a) (.ref b)) Q E s := by
  obtain ⟨_, _, xs, r, dd⟩ := Inv.dto I hd hk
  obtain ⟨q, h1, h2⟩ := pr_get r hg
  exact wpAny_getItem_heap (tupleKind_room_in1 hu) (Inv.key I hb) dd h1 (h q.2 _ (I.tok _) h2)
/-- d[row] = v, the row is there -/
theorem dr_set {v v0 : Int} {u : Value} {Q : Unit → Shared → Prop} (hu : A.units + 1 < cLine) (I : Inv X pins σ H s) (hd : H a = some (DTO X.prog X.w a ks)) (hk : ∀ p, p ∈ ks → SqT X.K H p.1 (p.2.1.map V.int)) (hb : SqT X.K H b (ns.map V.int)) (hg : getR ks ns = some v0) (ru : RelV (.int v) u) (h : ∀ s', Inv X pins σ (upd H a (DTO X.prog X.w a (putR ks ns v))) s' → Q () s') :
    wpAny (model X.prog X.w) A (setItem (.ref a) (.ref b) u) Q E s := by
  obtain ⟨z, y, xs, r, dd⟩ := Inv.dto I hd hk
  obtain ⟨q, h1, _⟩ := pr_get r hg
  have hz : xs.length ≤ sizeLine := by rw [← Paired.length r]; exact z
  refine wpAny_setItem_heap (hsz := hz) (tupleKind_room_in1 hu) (Inv.key I hb) dd fun h' dd' hs => h _ ?_
  rw [storedH_old h1] at dd'
  obtain ⟨o, es, ep, hq, h2, h3, h4, _, h5⟩ := dd'
  exact d_write I (by rw [hd]; exact True.intro) hs ⟨o, hq⟩ (dto_new ⟨by unfold putR; rw [List.length_map]; exact z, y, _, pr_put r ru, o, es, ep, hq, h2, h3, h4, h5⟩)
/-- a comprehension's step, the row is new -/
theorem dr_new {v : Int} {u : Value} {Q : Unit → Shared → Prop} (hu : A.units + 1 < cLine) (I : Inv X pins σ H s) (hd : H a = some (DTO X.prog X.w a ks)) (hk : ∀ p, p ∈ ks → SqT X.K H p.1 (p.2.1.map V.int)) (hb : SqT X.K H b (ns.map V.int)) (hn : ns ∉ ks.map (·.2.1)) (hl : ks.length < sizeLine) (ru : RelV (.int v) u) (h : ∀ s', Inv X pins σ (upd H a (DTO X.prog X.w a (ks ++ [(b, ns, v)]))) s' → Q () s') :
    wpAny (model X.prog X.w) A (dictSet a (.ref b) u) Q E s := by
  obtain ⟨z, y, xs, r, dd⟩ := Inv.dto I hd hk
  have h1 := pr_none r hn
  have hz : xs.length ≤ sizeLine := by rw [← Paired.length r]; exact z
  refine wpAny_dictSet_heap (hsz := hz) (show (tupleKind (mixKind X.prog X.w)).room A from Nat.lt_of_succ_lt hu) (Inv.key I hb) dd fun h' dd' hs => h _ ?_
  rw [storedH_new h1] at dd'
  obtain ⟨o, es, ep, hq, h2, h3, h4, _, h5⟩ := dd'
  exact d_write I (by rw [hd]; exact True.intro) hs ⟨o, hq⟩ (dto_new ⟨by rw [List.length_append]; simp; omega, y, _, Paired.snoc r ⟨rfl, rfl, ru⟩, o, es, ep, hq, h2, h3, h4, h5⟩)
end
end DL

set_option maxRecDepth 100000
set_option maxHeartbeats 2000000
/-! DMg: {row: n for ..}, d[row], d[row] += n. The core of the comprehension follows HandS.DictComp's (dc_core), with rows as keys. -/
namespace DL
open PySem PySem.Spec PyProof.Rows L2
section
variable {X : Cx}
/-- {k: v for target in iter}, keys rows of ints: D the new dict -/
def tDr (X : Cx) (wi : TI) (g : TG) (tk tv : TE) (vs : List Nat) : TE := fun σ H Q => wi σ H fun J H1 => ∀ D, H1 D = none → ∃ W : Nat → Nat → Hp → Prop, (∃ m, W 0 m (upd H1 D (DTO X.prog X.w D []))) ∧ ∀ i m H, W i m H →
  (J.stop i H ∧ Q (.ref D) H) ∨ (J.go i H ∧ ∃ Nx : Hp → Prop, (∀ H', Nx H' → ∃ m', m' < m ∧ W (i + 1) m' H') ∧ ∀ x H', J.yld i H x H' → g x (wipe σ vs) H' fun σ2 H2 => wipe σ2 vs = wipe σ vs ∧
    tk σ2 H2 fun y H4 => tv σ2 H4 fun z H5 => ∃ (ks : List RowK) (b : Addr) (ns : List Int) (v : Int), y = .ref b ∧ z = .int v ∧ H5 D = some (DTO X.prog X.w D ks) ∧ (∀ p, p ∈ ks → SqT X.K H5 p.1 (p.2.1.map V.int)) ∧ SqT X.K H5 b (ns.map V.int) ∧ ns ∉ ks.map (·.2.1) ∧ ks.length < sizeLine ∧ Nx (upd H5 D (DTO X.prog X.w D (ks ++ [(b, ns, v)]))))
theorem dr_core {pins : List (Addr × Obj)} {s : Shared} {σ : L2.St} {H : Hp} {Q : VK} {kx vx tg iter : Expr} {scope : Scope} {own : List (Str × Nat)} {pos pos' : Pos} {wi : TI} {g : TG} {tk tv : TE} {use : Option (Value → Sem Unit)} {Qf : Value → Shared → Prop}
    (hu : X.A.units + 1 < cLine) (hc : X.calm = true) (hN : X.N.Nodup) (I : Inv X pins σ H s) (hi : PI X tg iter wi) (ok : BlkOk X.N X.env.scope scope own)
    (hg : ∀ (s : Shared) (H : Hp) (C : Addr) (cl : List (Str × Addr)) (fp : List Addr), PG (X.blk s H scope (compEnvC scope cl C X.env) fp) tg g)
    (hk : ∀ (s : Shared) (H : Hp) (C : Addr) (cl : List (Str × Addr)) (fp : List Addr), PE (X.blk s H scope (compEnvC scope cl C X.env) fp) kx tk)
    (he : ∀ (s : Shared) (H : Hp) (C : Addr) (cl : List (Str × Addr)) (fp : List Addr), PE (X.blk s H scope (compEnvC scope cl C X.env) fp) vx tv) (hs : ∀ x, foldedSetIterable iter X.env x = pure x)
    (h : tDr X wi g tk tv (own.map (·.2)) σ H Q)
    (hRR : ∀ D C s' m H', Inv X pins σ H' s' → Q (.ref D) H' → s'.heap.Ns C m → FpOk X pins H' C → compPost (model X.prog X.w) X.A X.xe use Qf (.ref D) C (.ok .next) s') :
    wpAny (model X.prog X.w) X.A (comprehension (.DictComp kx vx [⟨tg, iter, [], 0⟩] scope pos) scope X.env pos' newDict false (eval iter X.env) use) Qf X.xe s := by
  have hfree : ∀ y ∈ scope.names, y.2 = .free → ∃ c, X.env.cells.lookup y.1 = some c := fun y hy e => by
    rcases ok.free y hy e with k | k
    · exact I.ok.has _ (.inl k)
    · exact I.ok.has _ (.inr k)
  refine wpAny_comprehension_free (use := use) rfl hs (closure_ok hfree) ok.kind (fun y hy e => by rw [ok.uniq y hy, e])
    (thn (hi.run pins s σ H _ I h) fun xv s1 hx => thn hx fun itv s2 h2 => ?_)
  obtain ⟨it, fp, tn, J, H2, e, I2, T, st2, f2, q⟩ := h2
  subst e
  refine wpAny_newObj_type (newEnv_comp ?_)
  generalize hD : s2.heap.objs.size = D
  have hDn : H2 D = none := I2.hok.fresh (Nat.le_of_eq hD)
  obtain ⟨W, ⟨m0, w0⟩, turn⟩ := q D hDn
  -- the new list
  generalize hs3 : ({ s2 with heap := s2.heap.push { cls := .type "dict", data := .dict #[] } } : Shared) = s3
  have I3 : Inv X pins σ (upd H2 D (DTO X.prog X.w D [])) s3 := by
    rw [← hs3]
    refine I2.laid (t' := s2.toks) (fun b o e => Heap.get?_push_of_some _ e) (Nat.le_of_eq hD) ?_
    rw [← hD]
    exact dto_new (dt0_empty s2.heap I2.big)
  have h3 : s3.heap = s2.heap.push { cls := .type "dict", data := .dict #[] } := by rw [← hs3]
  have sz : ∀ b ∈ fp, b < s2.heap.objs.size := fun b hb => by
    obtain ⟨o, e, _⟩ := T.obj _ _ st2 b hb
    exact Heap.lt_size e
  have f3 : ∀ b ∈ fp, FpOk X pins (upd H2 D (DTO X.prog X.w D [])) b ∧ b < s3.heap.objs.size := fun b hb => by
    have hlt := sz b hb
    refine ⟨⟨?_, (f2 b hb).2⟩, by rw [h3, Heap.size_push]; exact Nat.lt_succ_of_lt hlt⟩
    rw [upd_ne (by rw [← hD]; exact Nat.ne_of_lt hlt)]
    exact (f2 b hb).1
  have st3 : tn 0 s3.heap := T.keep _ _ _ st2 fun b _ o e => by rw [h3]; exact Heap.get?_push_of_some _ e
  have I4 := block_start I3 ok hN f3
  have pg := hg s3 (upd H2 D (DTO X.prog X.w D [])) s3.heap.objs.size (cellsFrom (s3.heap.objs.size + 1) scope.names (cloFrom X.env.cells scope.names [])) fp
  have pk := hk s3 (upd H2 D (DTO X.prog X.w D [])) s3.heap.objs.size (cellsFrom (s3.heap.objs.size + 1) scope.names (cloFrom X.env.cells scope.names [])) fp
  have pe := he s3 (upd H2 D (DTO X.prog X.w D [])) s3.heap.objs.size (cellsFrom (s3.heap.objs.size + 1) scope.names (cloFrom X.env.cells scope.names [])) fp
  show codeAny _ _ (.compStart (.DictComp kx vx [⟨tg, iter, [], 0⟩] scope pos) 0 (.ref it) (.ref D) (compEnvC scope (cellsFrom (s3.heap.objs.size + 1) scope.names (cloFrom X.env.cells scope.names [])) s3.heap.objs.size X.env)) (compPost (model X.prog X.w) X.A X.xe use Qf (.ref D) s3.heap.objs.size) { s3 with heap := pushCells (s3.heap.push { cls := .type "dict", data := .dict #[] }) scope.names }
  have nfp : ∀ b ∈ fp, (upd H2 D (DTO X.prog X.w D [])) b = none := fun b hb => (f3 b hb).1.1
  generalize hce : compEnvC scope (cellsFrom (s3.heap.objs.size + 1) scope.names (cloFrom X.env.cells scope.names [])) s3.heap.objs.size X.env = ce at I4 pg pk pe ⊢
  have cL : ce.locals = s3.heap.objs.size := by subst hce; rfl
  generalize hH3 : upd H2 D (DTO X.prog X.w D []) = H3 at I3 I4 pg pk pe w0 nfp f3
  generalize hs4 : ({ s3 with heap := pushCells (s3.heap.push { cls := .type "dict", data := .dict #[] }) scope.names } : Shared) = s4 at I4 ⊢
  have st4 : tn 0 s4.heap := T.keep _ _ _ st3 fun b _ o e => by rw [← hs4]; exact pushCells_keeps _ _ _ _ (Heap.get?_push_of_some _ e)
  have stat : ∀ {σ' : L2.St} {H' : Hp} {s' : Shared}, Inv (X.blk s3 H3 scope ce fp) [] σ' H' s' → (∀ b ∈ fp, H' b = none) → ∀ b ∈ fp, FpOk (X.blk s3 H3 scope ce fp) [] H' b := fun {σ' H' s'} I' hn b hb =>
    ⟨hn b hb, (I'.ok.exf b hb).1, I'.ok.exfs b hb, .inl hb, fun x c e => (I'.ok.exf b hb).2 x c e, fun p hp => absurd (show p ∈ ([] : List (Addr × Obj)) ++ [] from hp) (by simp)⟩
  have loop : codeAny (model X.prog X.w) X.A (.compLoop (.DictComp kx vx [⟨tg, iter, [], 0⟩] scope pos) 0 (.ref it) (.ref D) ce) (compPost (model X.prog X.w) X.A X.xe use Qf (.ref D) s3.heap.objs.size) s4 := by
    refine compLoop_anyD (fun n s' => ∃ i H', Inv (X.blk s3 H3 scope ce fp) [] (wipe σ (own.map (·.2))) H' s' ∧ tn i s'.heap ∧ (∀ b ∈ fp, H' b = none) ∧ W i n H') ?_ m0 ⟨0, H3, I4, st4, nfp, w0⟩
    rintro n s5 ⟨i, H5, I5, st5, n5, w5⟩
    rcases turn i n H5 w5 with ⟨stop, qq⟩ | ⟨go, Nx, hNx, step⟩
    · have td := T.done (X.blk s3 H3 scope ce fp) rfl rfl rfl hc i [] s5 _ H5 (fun _ _ => False) I5 (stat I5 n5) st5 stop
      refine thnF td fun r s6 ⟨hr, I6⟩ => ?_
      subst hr
      -- back in the def's context
      have I7 : Inv X pins σ H5 s6 := I3.call' (ch := fp) I6.os I6.base I6.hok I6.bare fun b hb => ⟨(f3 b hb).1.2.2.2.1, (f3 b hb).1.2.1, (f3 b hb).1.2.2.2.2.1, (f3 b hb).1.2.2.2.2.2⟩
      have nC : H5 s3.heap.objs.size = none := by
        have z : H5 ce.locals = none := I6.free
        rw [cL] at z
        exact z
      obtain ⟨m, hn, _⟩ := I6.loc
      have hn : s6.heap.Ns ce.locals m := hn
      rw [cL] at hn
      exact hRR D s3.heap.objs.size s6 m H5 I7 qq hn (I3.fpOk (Nat.le_refl _) nC)
    · have ti := T.item (X.blk s3 H3 scope ce fp) rfl rfl rfl hc i [] s5 _ H5 (fun _ _ => False) I5 (stat I5 n5) st5 go
      refine thnF ti fun r s6 ⟨u, hr, h6⟩ => ?_
      subst hr
      refine thnF h6 fun _ s7 ⟨x, H7, I7, r7, y7, st7, n7⟩ => ?_
      have I7' := I7.pinned (stat I7 n7) (T.obj _ _ st7)
      refine thnF (pg.run _ s7 _ H7 x u _ I7' r7 (step x H7 y7)) fun _ s8 ⟨σ8, H8, I8, hw8, q8⟩ => ?_
      -- the turn's end
      have fin : ∀ {s' : Shared} {H' : Hp}, Inv (X.blk s3 H3 scope ce fp) ([] ++ pinsAt fp s7.heap) σ8 H' s' → Nx H' → ∃ m, m < n ∧ ∃ i H', Inv (X.blk s3 H3 scope ce fp) [] (wipe σ (own.map (·.2))) H' s' ∧ tn i s'.heap ∧ (∀ b ∈ fp, H' b = none) ∧ W i m H' := fun {s' H'} I' nx => by
        obtain ⟨m', hm, w'⟩ := hNx H' nx
        have pin' : ∀ b ∈ fp, ∀ o, s7.heap.get? b = some o → s'.heap.get? b = some o ∧ H' b = none := fun b hb o e =>
          let z := I'.pin (b, o) (List.mem_append_right _ (List.mem_append_right _ (mem_pinsAt hb e)))
          ⟨z.1, z.2.1⟩
        have hl : (wipe σ (own.map (·.2))).length = σ8.length := by rw [← hw8, wipe_length]
        refine ⟨m', hm, i + 1, H', (I'.unpinned (pins := [])).weak hl (fun j v e => ?_), T.keep _ _ _ st7 fun b hb o e => (pin' b hb o e).1, fun b hb => ?_, w'⟩
        · rw [← hw8] at e
          exact (wipe_some e).1
        · obtain ⟨o, e, _⟩ := T.obj _ _ st7 b hb
          exact (pin' b hb o e).2
      refine wpAny_tests_nil ?_
      refine (if_pos rfl).mpr ?_
      refine thnF (pk.run _ s8 σ8 H8 _ I8 q8) fun z s10 ⟨yk, H10, I10, r10, q10⟩ => ?_
      refine thnF (pe.run _ s10 σ8 H10 _ I10 q10) fun z2 s11 ⟨yv, H11, I11, r11, ks, b, ns, v, e1, e2, hD11, hk11, hb11, hn11, hz11, nx⟩ => ?_
      subst e1 e2
      obtain rfl : z = Value.ref b := r10
      exact dr_new (X := X.blk s3 H3 scope ce fp) hu I11 hD11 hk11 hb11 hn11 hz11 r11 fun s12 I12 => fin I12 nx
  exact codeAny_compStart_dict loop (T.self X.A 0 _ _ _ st4 loop)
theorem pe_dr {kx vx tg iter : Expr} {scope : Scope} {own : List (Str × Nat)} {pos : Pos} {wi : TI} {g : TG} {tk tv : TE} (hu : X.A.units + 1 < cLine) (hc : X.calm = true) (hN : X.N.Nodup) (hi : PI X tg iter wi) (ok : BlkOk X.N X.env.scope scope own)
    (hg : InBlk X scope fun X' => PG X' tg g) (hk : InBlk X scope fun X' => PE X' kx tk) (he : InBlk X scope fun X' => PE X' vx tv) (hs : ∀ x, foldedSetIterable iter X.env x = pure x := by intro _; rfl) :
    PE X (.DictComp kx vx [⟨tg, iter, [], 0⟩] scope pos) (tDr X wi g tk tv (own.map (·.2))) := by
  refine ⟨fun pins s σ H Q I h => ?_⟩
  rw [arm_eval_DictComp]
  refine dr_core hu hc hN I hi ok hg hk he hs h fun D C s' m H' I' q hn f => ⟨m, hn, fun h'' sb => ?_⟩
  obtain ⟨f0, f1, f2, f3, f4, f5⟩ := f
  exact ⟨.ref D, H', I'.turned (t' := s'.toks) (fun b o hb e => (sb.2 b hb).trans e) f0 f1 f3 f4 f5, rfl, q⟩
/-- d[row] -/
def tRGet (X : Cx) (td ty : TE) : TE := fun σ H Q => td σ H fun x H1 => ty σ H1 fun y H2 => ∃ (a b : Addr) (ks : List RowK) (ns : List Int) (v : Int), x = .ref a ∧ y = .ref b ∧ H2 a = some (DTO X.prog X.w a ks) ∧ (∀ p, p ∈ ks → SqT X.K H2 p.1 (p.2.1.map V.int)) ∧ SqT X.K H2 b (ns.map V.int) ∧ getR ks ns = some v ∧ Q (.int v) H2
theorem dto_type {pins : List (Addr × Obj)} {σ : L2.St} {H : Hp} {s : Shared} {a : Addr} {ks : List RowK} (I : Inv X pins σ H s) (h : H a = some (DTO X.prog X.w a ks)) (hk : ∀ p, p ∈ ks → SqT X.K H p.1 (p.2.1.map V.int)) : s.TypeIs (.ref a) "dict" := by
  obtain ⟨_, _, xs, _, dd⟩ := Inv.dto I h hk
  exact dd.typeIs
theorem pe_rget {o i : Expr} {pos : Pos} {td ty : TE} (hu : X.A.units + 1 < cLine) (ho : PE X o td) (hi : PE X i ty) (hs : NoSl i) : PE X (.Subscript o i pos) (tRGet X td ty) := by
  refine ⟨fun pins s σ H Q I h => ?_⟩
  refine subD_of PySem.F.slot_dict_getitem.lookup hs (thn (ho.run pins s σ H _ I h) fun u s1 ⟨x, H1, I1, rx, q1⟩ => thn (hi.run pins s1 σ H1 _ I1 q1) fun iv s2 ⟨y, H2, I2, ry, a, b, ks, ns, v, ex, ey, e1, e2, e3, e4, q2⟩ => ?_)
  subst ex ey
  obtain rfl : u = Value.ref a := rx
  obtain rfl : iv = Value.ref b := ry
  exact ⟨dto_type I2 e1 e2, dr_get hu I2 e1 e2 e3 e4 fun w' s3 I3 rw' => ⟨.int v, H2, I3, rw', q2⟩⟩
/-- d[row] += e -/
def sRAug (X : Cx) (td ty tv : TE) : TS := fun D σ H => td σ H fun x H1 => ty σ H1 fun y H2 => ∃ (a b : Addr) (ks : List RowK) (ns : List Int) (v : Int), x = .ref a ∧ y = .ref b ∧ H2 a = some (DTO X.prog X.w a ks) ∧ (∀ p, p ∈ ks → SqT X.K H2 p.1 (p.2.1.map V.int)) ∧ SqT X.K H2 b (ns.map V.int) ∧ getR ks ns = some v ∧
  tv σ H2 fun y2 H3 => ∃ (n : Int) (ks' : List RowK), y2 = .int n ∧ H3 a = some (DTO X.prog X.w a ks') ∧ (∀ p, p ∈ ks' → SqT X.K H3 p.1 (p.2.1.map V.int)) ∧ SqT X.K H3 b (ns.map V.int) ∧ getR ks' ns = some v ∧ D.nx σ (upd H3 a (DTO X.prog X.w a (putR ks' ns (v + n))))
theorem ps_raug {o i value : Expr} {pos tpos : Pos} {td ty tv : TE} (hu : X.A.units + 1 < cLine) (ho : PE X o td) (hi : PE X i ty) (hv : PE X value tv)
    (ha : ∀ ov iv new, augStore i ov iv new = (do holding [new, ov, iv] (setItem ov iv new); release [new, ov, iv] []; pure .next)) : PS X (.AugAssign (.Subscript o i tpos) .Add value pos) (sRAug X td ty tv) := by
  refine ⟨fun pins s σ H D I h => ?_⟩
  refine wpAny_AugAssign_SubscriptAny (thn (ho.run pins s σ H _ I h) fun u s1 ⟨x, H1, I1, rx, q1⟩ => thn (hi.run pins s1 σ H1 _ I1 q1) fun iv s2 ⟨y, H2, I2, ry, a, b, ks, ns, v, ex, ey, e1, e2, e3, e4, q2⟩ => ?_) ha
  subst ex ey
  obtain rfl : u = Value.ref a := rx
  obtain rfl : iv = Value.ref b := ry
  refine dr_get hu I2 e1 e2 e3 e4 fun w' s3 I3 rw' => thn (hv.run pins s3 σ H2 _ I3 q2) fun w2 s4 ⟨y2, H3, I4, ry2, n, ks', ey2, f1, f2, f3, f4, q3⟩ => ?_
  subst ey2
  refine thn (in_add (X := X) pins s4 σ H3 (.int v) (.int n) w' w2 (fun z H4 => z = .int (v + n) ∧ H4 = H3) I4 rw' ry2 ⟨v, n, rfl, rfl, rfl, rfl⟩) fun w3 s5 ⟨z, H4, I5, rz, ez, eH⟩ => ?_
  subst ez eH
  exact dr_set hu I5 f1 f2 f3 f4 rz fun s6 I6 => ⟨σ, _, I6, q3⟩
end
end DL

set_option maxRecDepth 100000
set_option maxHeartbeats 2000000
/-! DMh: a dict from rows to ints in a slot: made by a comprehension, read, counted up. -/
namespace DL
open PySem PySem.Spec PyProof.Rows L2
/-- the dict at p, its rows and values -/
def isDR (P : Program) (w : World) (K : PySem.W.Frag) (p : Addr) (cs : List (List Int × Int)) : Hp → HO → Prop := fun H ho => ∃ ks : List RowK, ho = DTO P w p ks ∧ ks.map (·.2) = cs ∧ ∀ q, q ∈ ks → SqT K H q.1 (q.2.1.map V.int)
def getL (cs : List (List Int × Int)) (ns : List Int) : Option Int := (cs.find? fun c => decide (c.1 = ns)).map (·.2)
def putL (cs : List (List Int × Int)) (ns : List Int) (v : Int) : List (List Int × Int) := cs.map fun c => if c.1 = ns then (c.1, v) else c
theorem getR_map (ks : List RowK) (ns : List Int) : getR ks ns = getL (ks.map (·.2)) ns := by
  unfold getR getL
  rw [List.find?_map, Option.map_map]; rfl
theorem putR_map (ks : List RowK) (ns : List Int) (v : Int) : (putR ks ns v).map (·.2) = putL (ks.map (·.2)) ns v := by
  unfold putR putL
  rw [List.map_map, List.map_map]
  refine List.map_congr_left fun q _ => ?_
  show (if q.2.1 = ns then (q.1, q.2.1, v) else q).2 = if q.2.1 = ns then (q.2.1, v) else q.2
  split <;> rfl
theorem putR_fst {ks : List RowK} {ns : List Int} {v : Int} {q : RowK} (h : q ∈ putR ks ns v) : ∃ q', q' ∈ ks ∧ q'.1 = q.1 ∧ q'.2.1 = q.2.1 := by
  unfold putR at h
  obtain ⟨q', h1, h2⟩ := List.mem_map.mp h
  refine ⟨q', h1, ?_⟩
  split at h2 <;> (rw [← h2]; exact ⟨rfl, rfl⟩)
theorem dp_row {K : PySem.W.Frag} {H : Hp} {v : V} {ns : List Int} (h : Dp K H v (eT ns)) : ∃ b, v = .ref b ∧ SqT K H b (ns.map V.int) := by
  cases h with
  | @tup a xs _ hs ha => exact ⟨a, rfl, by rw [← dp_ints ha]; exact hs⟩
section
variable {K : PySem.W.Frag} {C : Fc} {H : Hp} {σ : L2.St} {τ : List SV} {p l : Addr} {i : Nat} {ho : HO} {f : Hp → HO → Prop}
/-- a fresh object comes into slot i -/
theorem Sl.takeO (S : Sl K { C with L0 := p :: C.L0 } H σ τ) (hi : i < τ.length) (h1 : H p = some ho) (h : ∀ H', Ex (hide ((p :: C.L0) ++ own τ) H) H' → f H' ho) (hw : p ∉ own τ) (hq : p ∈ C.M ∨ C.H0 p = none) (hL : p ∉ C.L0) :
    Sl K C H (σ.set i (some (.ref p))) (τ.set i (.od p f)) := by
  have hsub : ∀ a, a ∈ own (τ.set i (.od p f)) → a = p ∨ a ∈ own τ := fun a ha => by
    rcases own_sub_set ha with z | z
    · exact .inl (by simpa [ownA] using z)
    · exact .inr (own_un_sub z)
  have ex : Ex (hide ((p :: C.L0) ++ own τ) H) (hide (C.L0 ++ own (τ.set i (.od p f))) H) := hide_mono fun a ha => by
    rcases List.mem_append.mp ha with y | y
    · exact List.mem_append_left _ (List.mem_cons_of_mem _ y)
    · rcases hsub a y with w | w
      · rw [w]; exact List.mem_append_left _ List.mem_cons_self
      · exact List.mem_append_right _ w
  refine ⟨by simp [S.len], fun j sv e => ?_, S.gr, fun a ha => ?_, fun a ha => S.dm a (List.mem_cons_of_mem _ ha), S.mm, fun a ha z => ?_⟩
  · by_cases hj : i = j
    · subst hj
      rw [List.getElem?_set_self hi] at e
      have e2 : SV.od p f = sv := Option.some.inj e
      subst e2
      exact ⟨some (.ref p), by rw [List.getElem?_set_self (by rw [S.len]; exact hi)], rfl, ho, h1, fun H'' z => h H'' (ex.trans z)⟩
    · rw [List.getElem?_set_ne hj] at e
      obtain ⟨o, h1, h2⟩ := S.sl j sv e
      refine ⟨o, by rw [List.getElem?_set_ne hj]; exact h1, ?_⟩
      cases sv with
      | un => trivial
      | pu d => obtain ⟨v, z1, z2⟩ := h2; exact ⟨v, z1, Dp.ex ex z2⟩
      | ow l es => obtain ⟨z1, ys, z2, z3⟩ := h2; exact ⟨z1, ys, z2, DpAll.ex ex z3⟩
      | kp f => obtain ⟨v, z1, z2⟩ := h2; exact ⟨v, z1, fun H'' z => z2 H'' (ex.trans z)⟩
      | od l f => obtain ⟨z1, ys, z2, z3⟩ := h2; exact ⟨z1, ys, z2, fun H'' z => z3 H'' (ex.trans z)⟩
      | ob w cs f => obtain ⟨z1, ys, z2, z3⟩ := h2; exact ⟨z1, ys, z2, fun H'' z => z3 H'' (ex.trans z)⟩
  · rcases hsub a ha with w | w
    · rw [w]; exact hq
    · exact S.ow a w
  · rcases hsub a ha with w | w
    · exact hL (w ▸ z)
    · exact S.nl a w (List.mem_cons_of_mem _ z)
end
section
variable {X : Cx} {a b c e kx vx tg iter : Expr} {pos p1 p2 p3 : Pos} {τ τ1 : List SV} {x : Str} {rest : List Stmt} {R : Out → Prop} {l : Addr} {cs : List (List Int × Int)} {ns : List Int} {scope : Scope}
/-- the dict as it lies -/
theorem odR {σ : L2.St} {H : Hp} {C : Fc} {i : Nat} (hs : τ[i]? = some (.od l (isDR X.prog X.w X.K l cs))) (S : Sl X.K C H σ τ) :
    σ[i]? = some (some (.ref l)) ∧ ∃ ks : List RowK, H l = some (DTO X.prog X.w l ks) ∧ ks.map (·.2) = cs ∧ (∀ q, q ∈ ks → SqT X.K (hide (C.L0 ++ own τ) H) q.1 (q.2.1.map V.int)) ∧ ∀ q, q ∈ ks → SqT X.K H q.1 (q.2.1.map V.int) := by
  obtain ⟨o, h1, h2, ho, h3, h4⟩ := S.sl i _ hs
  obtain ⟨ks, e1, e2, e3⟩ := h4 _ (Ex.refl _)
  exact ⟨by rw [h1, h2], ks, by rw [h3, e1], e2, e3, fun q hq => st_ex (hide_ex _ _) (e3 q hq)⟩
/-- d[row] -/
theorem EV.drGet {v : Int} (i : Nat) (hu : X.A.units + 1 < cLine) (h1 : EV X b τ (eT ns) τ) (hg : getL cs ns = some v) (hs : τ[i]? = some (.od l (isDR X.prog X.w X.K l cs)) := by rfl) (hN : X.N[i]? = some x := by rfl) (hv : Vis X.env.scope x := by first | exact Or.inl rfl | exact Or.inr (Or.inl rfl) | exact Or.inr (Or.inr rfl)) (hd : (x == ("__debug__" : Str)) = false := by decide)
    (hcd : (x == ("__classdict__" : Str)) = false := by decide) (hn : NoSl b := by intro _ _; rfl) : EV X (.Subscript (.Name x p1) b p2) τ (.int v) τ :=
  ⟨rfl, fun C σ H Q S q => WE.of (pe_rget hu pe_self pe_self hn) (by
    refine WE.of (pe_var hN hv hd hcd) ⟨.ref l, (odR hs S).1, ?_⟩
    refine h1.run C σ H _ S fun v1 H1 g1 S1 q1 => ?_
    obtain ⟨bb, rfl, hb⟩ := dp_row q1
    obtain ⟨_, ks, e1, e2, e3, e4⟩ := odR hs S1
    exact ⟨l, bb, ks, ns, v, rfl, rfl, e1, e4, st_ex (hide_ex _ _) hb, by rw [getR_map, e2]; exact hg, q _ H1 g1 S1 (.int _)⟩)⟩
/-- d[row] += e -/
theorem SX.drAug {v n : Int} (i : Nat) (hu : X.A.units + 1 < cLine) (h1 : EV X b τ (eT ns) τ) (h2 : EV X e τ (.int n) τ) (hg : getL cs ns = some v) (h : SX X rest (τ.set i (.od l (isDR X.prog X.w X.K l (putL cs ns (v + n))))) R) (hs : τ[i]? = some (.od l (isDR X.prog X.w X.K l cs)) := by rfl) (hw : l ∉ own (τ.set i .un) := by simp [own, ownA]) (hN : X.N[i]? = some x := by rfl)
    (hv : Vis X.env.scope x := by first | exact Or.inl rfl | exact Or.inr (Or.inl rfl) | exact Or.inr (Or.inr rfl)) (hd : (x == ("__debug__" : Str)) = false := by decide) (hcd : (x == ("__classdict__" : Str)) = false := by decide)
    (ha : ∀ ov iv new, augStore b ov iv new = (do holding [new, ov, iv] (setItem ov iv new); release [new, ov, iv] []; pure .next) := by intro _ _ _; rfl) : SX X (.AugAssign (.Subscript (.Name x p1) b p2) .Add e pos :: rest) τ R :=
  SX.seq (ps_raug hu pe_self pe_self pe_self ha) fun C σ H D W tk S q => by
    refine WE.of (pe_var hN hv hd hcd) ⟨.ref l, (odR hs S).1, ?_⟩
    refine h1.run C σ H _ S fun v1 H1 g1 S1 q1 => ?_
    obtain ⟨bb, rfl, hb⟩ := dp_row q1
    obtain ⟨_, ks, e1, e2, e3, e4⟩ := odR hs S1
    refine ⟨l, bb, ks, ns, v, rfl, rfl, e1, e4, st_ex (hide_ex _ _) hb, by rw [getR_map, e2]; exact hg, ?_⟩
    refine h2.run C σ H1 _ S1 fun v2 H2 g2 S2 q2 => ?_
    cases q2
    obtain ⟨_, ks', f1, f2, f3, f4⟩ := odR hs S2
    refine ⟨n, ks', rfl, f1, f4, st_ex (Ex.trans (Gw.hide g2 fun a z => List.mem_append_right _ z) (hide_ex _ _)) hb, by rw [getR_map, f2]; exact hg, ?_⟩
    refine q (.nx _) h _ _ (put_backO S2 hs hw fun H' ex => ⟨_, rfl, by rw [putR_map, f2], fun q hq => ?_⟩)
    obtain ⟨q', z1, z2, z3⟩ := putR_fst hq
    rw [← z2, ← z3]
    exact st_ex ex (f3 q' z1)
/-- x = {row: n for name in rows} -/
theorem SX.drNew {py : Pos} {z : Int} {xs : List (List Int)} (i j : Nat) (nm : Str) (hu : X.A.units + 1 < cLine) (hi : EVI X tg iter τ (xs.map eT) τ1) (hnd : xs.Nodup) (hz : xs.length < sizeLine)
    (hk : ∀ r, r ∈ xs → InBlk X scope fun X' => EV X' kx (τ1.set j (.pu (eT r))) (eT r) (τ1.set j (.pu (eT r)))) (hv : ∀ r, r ∈ xs → InBlk X scope fun X' => EV X' vx (τ1.set j (.pu (eT r))) (.int z) (τ1.set j (.pu (eT r))))
    (h : ∀ p, p ∉ own τ1 → SX X rest (τ1.set i (.od p (isDR X.prog X.w X.K p (xs.map fun r => (r, z))))) R) (hl : i < τ1.length := by simp) (hc : X.calm = true := by rfl) (hN : X.N.Nodup := by assumption) (hiN : X.N[i]? = some x := by rfl) (hx : Loc X.env.scope x := by first | exact Or.inl rfl | exact Or.inr rfl)
    (hs : ∀ x, foldedSetIterable iter X.env x = pure x := by intro _; rfl) (ok : BlkOk X.N X.env.scope scope [(nm, j)] := by exact blkOk_by (by kernel_rfl)) (hg : InBlk X scope fun X' => PG X' tg (gName j) := by exact fun _ _ _ _ _ => pg_name (by assumption) rfl (by first | exact Or.inl rfl | exact Or.inr rfl)) (no : nOw τ1[j]? = true := by rfl)
    (hsw : swapsWith (.DictComp kx vx [⟨tg, iter, [], 0⟩] scope p1) (some (.Name x py)) pos.line X.env = pure false := by rfl) (hf : X.fn x = true ∨ X.env.scope.names.lookup x = some .local := by first | exact .inl rfl | exact .inr rfl) :
    SX X (.Assign [.Name x py] (.DictComp kx vx [⟨tg, iter, [], 0⟩] scope p1) pos :: rest) τ R := by
  obtain ⟨wi, hpi, hrun⟩ := hi.ex
  have no' : noOw τ1 [j] = true := by show (nOw τ1[j]? && true) = true; rw [no]; rfl
  refine SX.seq (ps_set hN hiN hx (pe_dr (own := [(nm, j)]) hu hc hN hpi ok hg (fun s H C cl fp => ⟨fun pins s' σ H' Q I q => q s H C cl fp pins s' I⟩) (fun s H C cl fp => ⟨fun pins s' σ H' Q I q => q s H C cl fp pins s' I⟩) (tk := teB X scope kx) (tv := teB X scope vx) hs) hsw hf) fun C σ H D' W' tk S k => ?_
  refine hrun C σ H _ S fun J H1 g1 S1 wk => ?_
  intro D hD
  obtain ⟨G, Y, W, hG, hY⟩ := wk
  obtain ⟨nD1, nD2, nD3⟩ := S1.no0 hD
  have wown : own (wipeT τ1 [j]) = own τ1 := wipeT_own no'
  rw [List.length_map] at W
  refine ⟨fun i m H => m = xs.length - i ∧ i ≤ xs.length ∧ ∃ ks : List RowK, H D = some (DTO X.prog X.w D ks) ∧ ks.map (·.2) = (xs.take i).map (fun r => (r, z)) ∧ (∀ q, q ∈ ks → SqT X.K (hide ((D :: C.L0) ++ own τ1) H) q.1 (q.2.1.map V.int)) ∧ Sl X.K { C with L0 := D :: C.L0 } H (wipe σ [j]) (wipeT τ1 [j]) ∧ Gw (own τ1) H1 H, ⟨xs.length, by simp, Nat.zero_le _, [], upd_same, by simp, (fun q hq => nomatch hq), (S1.addHid hD).wipe _, Gw.of (Ex.new hD)⟩, ?_⟩
  rintro t m H2 ⟨rfl, ht, ks, e1, e2, e3, e4, gw⟩
  by_cases hlt : t < xs.length
  · refine .inr ⟨W.goes t H2 hlt (hG H2 gw), fun H' => ∃ ks : List RowK, H' D = some (DTO X.prog X.w D ks) ∧ ks.map (·.2) = (xs.take (t + 1)).map (fun r => (r, z)) ∧ (∀ q, q ∈ ks → SqT X.K (hide ((D :: C.L0) ++ own τ1) H') q.1 (q.2.1.map V.int)) ∧ Sl X.K { C with L0 := D :: C.L0 } H' (wipe σ [j]) (wipeT τ1 [j]) ∧ Gw (own τ1) H1 H', fun H' p' => ⟨_, Nat.sub_lt_sub_left hlt (Nat.lt_succ_self t), rfl, hlt, p'⟩, fun xv H2' yy => ?_⟩
    have hd : (xs.map eT)[t]? = some (eT xs[t]) := by rw [List.getElem?_map, List.getElem?_eq_getElem hlt]; rfl
    have hm : xs[t] ∈ xs := List.getElem_mem hlt
    obtain ⟨ex, dx⟩ := hY t (eT xs[t]) H2 xv H2' ((D :: C.L0) ++ own τ1) hd gw (W.yields t H2 xv H2' hlt (hG H2 gw) yy) (fun a ha => by
      rcases List.mem_cons.mp (show a ∈ D :: (C.L0 ++ own τ1) from ha) with z | z
      · exact .inr (z ▸ hD)
      · exact .inl z) (by have := e4.dom; rw [wown] at this; exact this)
    have es : (wipeT τ1 [j]).set j (.pu (eT xs[t])) = τ1.set j (.pu (eT xs[t])) := by
      show (τ1.set j .un).set j (.pu (eT xs[t])) = _
      rw [List.set_set]
    have eg : EG X.K (gName j) [j] (wipeT τ1 [j]) (eT xs[t]) (τ1.set j (.pu (eT xs[t]))) := by
      rw [← es]
      refine EG.name j (by simp) ?_
      show nOw (τ1.set j .un)[j]? = true
      by_cases hj : j < τ1.length
      · rw [List.getElem?_set_self hj]; rfl
      · rw [List.getElem?_eq_none (by simpa using hj)]; rfl
    have S2 := e4.ex ex
    have ot : own (τ1.set j (.pu (eT xs[t]))) = own τ1 := eg.ow.trans wown
    refine eg.run _ _ H2' xv _ S2 (by rw [wown]; exact dx) fun σ2 hw S3 => ⟨hw.trans (wipe_wipe _ _), ?_⟩
    intro s0 H0 C0 cl fp
    refine (hk xs[t] hm s0 H0 C0 cl fp).run _ σ2 H2' _ S3 fun v3 H3 g3 S4 q3 => ?_
    obtain ⟨bb, rfl, hb⟩ := dp_row q3
    intro s0 H0 C0 cl fp
    refine (hv xs[t] hm s0 H0 C0 cl fp).run _ σ2 H3 _ S4 fun v4 H4 g4 S5 q4 => ?_
    cases q4
    rw [ot] at g3 g4 hb
    have x1 : Ex (hide ((D :: C.L0) ++ own τ1) H2') (hide ((D :: C.L0) ++ own τ1) H3) := Gw.hide g3 fun a z => List.mem_append_right _ z
    have x2 : Ex (hide ((D :: C.L0) ++ own τ1) H3) (hide ((D :: C.L0) ++ own τ1) H4) := Gw.hide g4 fun a z => List.mem_append_right _ z
    have k4 : ∀ q, q ∈ ks → SqT X.K (hide ((D :: C.L0) ++ own τ1) H4) q.1 (q.2.1.map V.int) := fun q hq => st_ex x2 (st_ex x1 (st_ex ex.hide (e3 q hq)))
    have b4 : SqT X.K (hide ((D :: C.L0) ++ own τ1) H4) bb (xs[t].map V.int) := st_ex x2 hb
    have len : ks.length = t := by have := congrArg List.length e2; rw [List.length_map, List.length_map, List.length_take] at this; omega
    have fst : ks.map (·.2.1) = xs.take t := by
      have := congrArg (List.map (·.1)) e2
      rw [List.map_map, List.map_map] at this
      have e : ((fun x : List Int × Int => x.1) ∘ fun r : List Int => (r, z)) = id := rfl
      rw [e, List.map_id] at this
      exact this
    refine ⟨ks, bb, xs[t], z, rfl, rfl, g4 _ _ nD1 (g3 _ _ nD1 (ex _ _ e1)), fun q hq => st_ex (hide_ex _ _) (k4 q hq), st_ex (hide_ex _ _) b4, ?_, by rw [len]; exact Nat.lt_trans hlt hz, ks ++ [(bb, xs[t], z)], upd_same, ?_, ?_, ?_, ?_⟩
    · rw [fst]
      intro hin
      obtain ⟨u, hu1, hu2⟩ := List.getElem_of_mem hin
      rw [List.getElem_take] at hu2
      have hu3 : u < t := by rw [List.length_take] at hu1; omega
      exact absurd ((List.getElem_inj hnd).mp hu2) (Nat.ne_of_lt hu3)
    · rw [List.map_append, e2, List.take_succ, List.getElem?_eq_getElem hlt, List.map_append]; rfl
    · rw [hide_upd (by simp)]
      intro q hq
      rcases List.mem_append.mp hq with w | w
      · exact k4 q w
      · rw [List.mem_singleton.mp w]; exact b4
    · have S6 := S5.wipe [j]
      rw [hw.trans (wipe_wipe _ _), show wipeT (τ1.set j (.pu (eT xs[t]))) [j] = wipeT τ1 [j] from by show (τ1.set j (.pu (eT xs[t]))).set j .un = τ1.set j .un; rw [List.set_set]] at S6
      exact S6.updHid (by simp) (by rw [wown]; exact nD1) nD2 nD3
    · intro a o na ha
      rw [upd_ne (fun z => by rw [z, hD] at ha; cases ha)]
      exact g4 a o na (g3 a o na (ex _ _ (gw a o na ha)))
  · have et : t = xs.length := by omega
    subst et
    refine .inl ⟨W.stops H2 (hG H2 gw), ?_⟩
    rw [List.take_length] at e2
    have S5 : Sl X.K { C with L0 := D :: C.L0 } H2 σ τ1 := (S1.addHid (o := DTO X.prog X.w D []) hD).restore no' (by
      show Ex (hide ((D :: C.L0) ++ own τ1) (upd H1 D (DTO X.prog X.w D []))) (hide ((D :: C.L0) ++ own τ1) H2)
      rw [hide_upd (by simp)]
      exact Gw.hide gw fun a z => List.mem_append_right _ z) e4 rfl (fun _ _ => rfl)
    have nL : D ∉ C.L0 := S1.dm.fresh hD
    exact k (.nx _) (h D nD1) _ _ (Sl.takeO S5 hl e1 (fun H' ex => ⟨ks, rfl, e2, fun q hq => st_ex ex (e3 q hq)⟩) nD1 (.inr nD3) nL)
end
end DL

set_option maxRecDepth 100000
set_option maxHeartbeats 2000000
/-! SpK: who holds a draw, what a ticket holds alone. -/
namespace K
open PySem L2 DL
def holdersM (m : Int) (book : List (List Int)) (d : List Int) : List (List Int) := book.filter fun t => holdsM m t d
def R_holders (ds : List PyData) (r : Res) : Prop := ∃ (n k p m : Int) (book : List (List Int)) (d : List Int), BSz book ∧ ds = [eT [n, k, p, m], eTT book, eT d] ∧ r = .ok (eLT (holdersM m book d))
def soleM (m : Int) (book : List (List Int)) (t d : List Int) : Bool := decide (holdersM m book d = [t])
def cntM (m : Int) (book : List (List Int)) (ds : List (List Int)) (t : List Int) : Int := ((ds.countP (soleM m book t) : Nat) : Int)
def aloneM (n p m : Int) (book : List (List Int)) (t : List Int) : Int := cntM m book (ticketsM n p) t
def R_all_alone (ds : List PyData) (r : Res) : Prop := ∃ (n k p m : Int) (book : List (List Int)), Valid n k p m ∧ BSz book ∧ book.Nodup ∧ ds = [eT [n, k, p, m], eTT book] ∧ r = .ok (lst eI (book.map (aloneM n p m book)))
theorem getL_map {book : List (List Int)} {f : List Int → Int} {t : List Int} (h : t ∈ book) : getL (book.map fun r => (r, f r)) t = some (f t) := by
  unfold getL
  rw [List.find?_map, Option.map_map]
  have e : book.find? ((fun c : List Int × Int => decide (c.1 = t)) ∘ fun r => (r, f r)) = some t := by
    have e' : ((fun c : List Int × Int => decide (c.1 = t)) ∘ fun r => (r, f r)) = fun r => decide (r = t) := rfl
    rw [e']
    induction book with
    | nil => cases h
    | cons b bs ih =>
      rw [List.find?_cons]
      by_cases q : b = t
      · rw [decide_eq_true q, q]
      · rw [decide_eq_false q]
        rcases List.mem_cons.mp h with z | z
        · exact absurd z.symm q
        · exact ih z
  rw [e]; rfl
theorem cntM_nil (m : Int) (book : List (List Int)) (t : List Int) : cntM m book [] t = 0 := rfl
theorem cntM_snoc (m : Int) (book ds : List (List Int)) (d t : List Int) : cntM m book (ds ++ [d]) t = cntM m book ds t + if holdersM m book d = [t] then 1 else 0 := by
  unfold cntM
  rw [List.countP_append, List.countP_cons, List.countP_nil]
  unfold soleM
  by_cases h : holdersM m book d = [t]
  · rw [if_pos h, decide_eq_true h]; simp
  · rw [if_neg h, decide_eq_false h]; simp
theorem put_one {m : Int} {book ds : List (List Int)} {d t : List Int} (h : holdersM m book d = [t]) : putL (book.map fun r => (r, cntM m book ds r)) t (cntM m book ds t + 1) = book.map fun r => (r, cntM m book (ds ++ [d]) r) := by
  unfold putL
  rw [List.map_map]
  refine List.map_congr_left fun r _ => ?_
  show (if r = t then (r, cntM m book ds t + 1) else (r, cntM m book ds r)) = _
  rw [cntM_snoc, h]
  by_cases q : r = t
  · rw [if_pos q, if_pos (by rw [q]), q]
  · rw [if_neg q, if_neg (fun z => q (List.cons.inj z).1.symm)]; simp
theorem put_none {m : Int} {book ds : List (List Int)} {d : List Int} (h : (holdersM m book d).length ≠ 1) : (book.map fun r => (r, cntM m book (ds ++ [d]) r)) = book.map fun r => (r, cntM m book ds r) := by
  refine List.map_congr_left fun r _ => ?_
  rw [cntM_snoc, if_neg (fun z => h (by rw [z]; rfl))]; simp
end K

set_option maxRecDepth 100000
set_option maxHeartbeats 2000000
/-! DMj: zip of a tuple and a list (turn and rule follow HandS.Zip's for two tuples, over the library's Draws). -/
namespace DL
open PySem PySem.Spec PyProof.Rows L2
def ItzM (K : PySem.W.Frag) (a b : Addr) : It :=
  ⟨fun i H => ∃ (xs ys : List V) (x y : V), SqT K H a xs ∧ SqL K H b ys ∧ xs[i]? = some x ∧ ys[i]? = some y,
    fun i H v H' => ∃ T x y, v = .ref T ∧ H T = none ∧ H' = upd H T (.tup [x, y]) ∧ (∀ xs, SqT K H a xs → xs[i]? = some x) ∧ ∀ ys, SqL K H b ys → ys[i]? = some y,
    fun i H => ∃ xs ys : List V, SqT K H a xs ∧ SqL K H b ys ∧ i ≤ xs.length ∧ i ≤ ys.length ∧ (i = xs.length ∨ i = ys.length)⟩
theorem turn_zipM {P : Program} {w : World} {K : PySem.W.Frag} {elts : List Expr} {kk : Nat} {tpos : Pos} {a b z TI TO i1 i2 : Addr} (D : ZipSep2 z TI TO i1 i2 [i1, a] [i2, b]) (na : a ≠ i1) (nb : b ≠ i2) :
    Turn P w K (.Tuple elts kk tpos) (ItzM K a b) [z, TI, TO, i1, i2] z (fun i h => IsZip h z TI TO .none ∧ IsPair h TI (.ref i1) (.ref i2) ∧ (∃ x y, IsPair h TO x y) ∧ h.IsTupleIter i1 a i ∧ h.IsListIter i2 b i) where
  mem := by simp
  obj := fun i h st c hc => by
    obtain ⟨hz, hTI, ⟨x, y, hTO⟩, ⟨o1, e1, _, d1⟩, ⟨o2, e2, _, d2⟩⟩ := st
    have e' : c = z ∨ c = TI ∨ c = TO ∨ c = i1 ∨ c = i2 := by simpa using hc
    rcases e' with q | q | q | q | q
    · rw [q]; exact ⟨_, hz, fun v q => nomatch q⟩
    · rw [q]; exact ⟨_, hTI, fun v q => nomatch q⟩
    · rw [q]; exact ⟨_, hTO, fun v q => nomatch q⟩
    · rw [q]; exact ⟨o1, e1, fun v q => by rw [d1] at q; cases q⟩
    · rw [q]; exact ⟨o2, e2, fun v q => by rw [d2] at q; cases q⟩
  keep := fun i h h' st k => by
    obtain ⟨hz, hTI, ⟨x, y, hTO⟩, h1, h2⟩ := st
    exact ⟨k z (by simp) _ hz, k TI (by simp) _ hTI, ⟨x, y, k TO (by simp) _ hTO⟩, h1.at fun o q => k i1 (by simp) o q, h2.at fun o q => k i2 (by simp) o q⟩
  item := by
    intro X hP hw hK hc i pins s σ H E I hf st hg
    subst hP hw hK
    obtain ⟨hz, hTI, ⟨x0, y0, hTO⟩, h1, h2⟩ := st
    obtain ⟨xs, ys, x, y, hqx, hqy, hx, hy⟩ := hg
    obtain ⟨its, rv, p, _⟩ := I.tuple hqx
    obtain ⟨its2, rv2, p2, _⟩ := I.list hqy
    obtain ⟨u, hu, ru⟩ := rv.get hx
    obtain ⟨u2, hu2, ru2⟩ := rv2.get hy
    have hzl : z < s.heap.objs.size := Heap.lt_size hz
    have hd := I.ok.hd hc
    have l1 : i < its.toArray.size := by have := (List.getElem?_eq_some_iff.mp hu).1; simpa using this
    have l2 : i < its2.toArray.size := by have := (List.getElem?_eq_some_iff.mp hu2).1; simpa using this
    refine wpAny_pyNext_zipD2_item D (Draws.tuple (A := X.A.in1) hd i1 a na its.toArray) (Draws.list (A := X.A.in1) hd i2 b nb its2.toArray) hz hTI hTO ⟨h1, p⟩ ⟨h2, p2.isList⟩ l1 l2 fun x1 x2 h' tk e1 e2 z' TO' s1 s2 hT hsz hk => ?_
    have eu : x1 = u := by rw [List.getElem?_toArray, hu] at e1; exact (Option.some.inj e1).symm
    have eu2 : x2 = u2 := by rw [List.getElem?_toArray, hu2] at e2; exact (Option.some.inj e2).symm
    subst eu eu2
    refine ⟨_, rfl, wpAny_letOwnedTupleGo_zip (s := { s with heap := h', toks := tk }) z' fun h'' z'' sb => ?_⟩
    have hT2 : h''.get? s.heap.objs.size = some { cls := .type "tuple", data := .seq #[x1, x2] } := (sb.2 _ (Nat.ne_of_gt hzl)).trans hT
    have new : ObjOk X.prog X.w (upd H s.heap.objs.size (.tup [x, y])) h'' s.heap.objs.size (.tup [x, y]) :=
      ⟨by show 2 ≤ sizeLine; decide, [x1, x2], .cons ru (.cons ru2 .nil), ⟨_, hT2, rfl, _, rfl⟩⟩
    have I1 : Inv X pins σ (upd H s.heap.objs.size (.tup [x, y])) { s with heap := h'', toks := tk } :=
      I.turnedNew (t' := tk) (ch := [z, TI, TO, i1, i2]) (fun c o hb q => (sb.2 c (fun q' => hb (by simp [q']))).trans (hk c o (fun q' => hb (by simp [q'])) (fun q' => hb (by simp [q'])) (fun q' => hb (by simp [q'])) (fun q' => hb (by simp [q'])) q)) hf (Nat.le_refl _) new
    refine ⟨.ref s.heap.objs.size, _, I1, rfl, ⟨_, x, y, rfl, I.hok.fresh (Nat.le_refl _), rfl, fun l hl => by rw [I.tuple_inj hl hqx]; exact hx, fun l hl => by rw [I.list_inj hl hqy]; exact hy⟩, ⟨z'', ?_, ⟨x1, x2, ?_⟩, ?_, ?_⟩, fun c hcm => ?_⟩
    · exact (sb.2 _ D.TIz).trans (hk _ _ D.TIz D.TITO D.TIi1 D.TIi2 hTI)
    · exact (sb.2 _ D.TOz).trans TO'
    · exact s1.1.at fun o q => (sb.2 _ (Ne.symm D.zi1)).trans q
    · exact s2.1.at fun o q => (sb.2 _ (Ne.symm D.zi2)).trans q
    · have hlt : c < s.heap.objs.size := by
        have e' : c = z ∨ c = TI ∨ c = TO ∨ c = i1 ∨ c = i2 := by simpa using hcm
        rcases e' with q | q | q | q | q
        · rw [q]; exact hzl
        · rw [q]; exact Heap.lt_size hTI
        · rw [q]; exact Heap.lt_size hTO
        · rw [q]; obtain ⟨_, e1, _⟩ := h1; exact Heap.lt_size e1
        · rw [q]; obtain ⟨_, e2, _⟩ := h2; exact Heap.lt_size e2
      rw [upd_ne (Nat.ne_of_lt hlt)]
      exact (hf c hcm).1
  done := by
    intro X hP hw hK hc i pins s σ H E I hf st hg
    subst hP hw hK
    obtain ⟨hz, hTI, ⟨x0, y0, hTO⟩, h1, h2⟩ := st
    obtain ⟨xs, ys, hqx, hqy, g1, g2, hend⟩ := hg
    obtain ⟨its, rv, p, _⟩ := I.tuple hqx
    obtain ⟨its2, rv2, p2, _⟩ := I.list hqy
    have l1 := rv.length
    have l2 := rv2.length
    have hd := I.ok.hd hc
    refine wpAny_pyNext_zipD2_end D (Draws.tuple (A := X.A.in1) hd i1 a na its.toArray) (Draws.list (A := X.A.in1) hd i2 b nb its2.toArray) hz hTI hTO ⟨h1, p⟩ ⟨h2, p2.isList⟩ (by simp; omega) (by simp; omega) (by simp; omega) fun h' tk hk => ⟨rfl, I.turnedL (t' := tk) (ch := [z, TI, TO, i1, i2]) (fun c o hb q =>
      hk c o (fun q' => hb (by simp [q'])) (fun q' => hb (by simp [q'])) (fun q' => hb (by simp [q'])) (fun q' => hb (by simp [q'])) q) hf⟩
  self := fun A i s Q E st h => wpAny_pyIter_zip st.1 h
theorem walk_zipM {K : PySem.W.Frag} {a b : Addr} {xs ys : List V} {n : Nat} (hn : n = min xs.length ys.length) : Walk (ItzM K a b) n (fun H => SqT K H a xs ∧ SqL K H b ys) (YPair (fun i => xs[i]?) (fun i => ys[i]?)) := by
  refine ⟨fun i H hi q => ⟨xs, ys, xs[i]'(by omega), ys[i]'(by omega), q.1, q.2, by simp [show i < xs.length by omega], by simp [show i < ys.length by omega]⟩, fun H q => ⟨xs, ys, q.1, q.2, by omega, by omega, by omega⟩, fun i H x H' hi q y => ?_⟩
  obtain ⟨T, u, v, e1, e2, e3, e4, e5⟩ := y
  exact ⟨T, u, v, e1, e2, e3, e4 xs q.1, e5 ys q.2⟩
def iZipM (K : PySem.W.Frag) (ta : TA) : TI := fun σ H R => ta σ H fun vs H1 => ∃ a b xs ys, vs = [.ref a, .ref b] ∧ SqT K H1 a xs ∧ SqL K H1 b ys ∧ R (ItzM K a b) H1
theorem pi_zipM {X : Cx} {e e2 : Expr} {ta : TA} {p pos tpos : Pos} {elts : List Expr} {kk : Nat} (hg : Gl X "zip") (hm : X.mg "zip" = none) (ha : PA X [e, e2] ta)
    (hs : starEach [e, e2] X.env = (false, eval e X.env) :: starEach [e2] X.env := by rfl) (hpl : (backTo pos (starEach [e2] X.env)).any (·.1) = false := by rfl) :
    PI X (.Tuple elts kk tpos) (.Call (.Name "zip" p) [e, e2] [] pos) (iZipM X.K ta) := by
  refine ⟨fun pins s σ H R I h => ?_⟩
  refine Call_ (ld_blt I hg hm PyProof.Rows.boot_zip (PyProof.Rows.callWith_type1 (thn (ha.run pos pins s σ H _ I h) fun us s1 ⟨vs, H1, I1, r1, q1⟩ => ?_) hs hpl))
  obtain ⟨a, b, xs, ys, ex, hqx, hqy, q⟩ := q1
  subst ex
  cases r1 with
  | cons r rr =>
    cases rr with
    | cons r' rr =>
      cases rr
      cases r
      cases r'
      have fresh5 : ∀ c, c ∈ [s1.heap.objs.size + 4, s1.heap.objs.size + 2, s1.heap.objs.size + 3, s1.heap.objs.size, s1.heap.objs.size + 1] → FpOk X pins H1 c := fun c hcm => by
        have hle : s1.heap.objs.size ≤ c := by
          simp only [List.mem_cons, List.not_mem_nil, or_false] at hcm
          rcases hcm with z | z | z | z | z <;> rw [z] <;> first | exact Nat.le_refl _ | exact Nat.le_add_right _ _
        exact I1.fpOk hle (I1.hok.fresh hle)
      obtain ⟨its, rv, p1, _⟩ := I1.tuple hqx
      obtain ⟨its2, rv2, p2, _⟩ := I1.list hqy
      obtain ⟨o1, ho1, _⟩ := id p1
      have la : a < s1.heap.objs.size := Heap.lt_size ho1
      have lb : b < s1.heap.objs.size := p2.lt
      refine zip_begins2 (begins_tuple a its.toArray) (begins_list b its2.toArray) p1 p2.isList fun h' hz hTI hTO h1 h2 hsz hk => wpAny_pyIter_zip hz ?_
      have I2 : Inv X pins σ H1 { s1 with heap := h' } := I1.kept (t' := s1.toks) hk
      exact ⟨s1.heap.objs.size + 4, [s1.heap.objs.size + 4, s1.heap.objs.size + 2, s1.heap.objs.size + 3, s1.heap.objs.size, s1.heap.objs.size + 1], _, _, H1, rfl, I2, turn_zipM (zip_sep2 (fp1 := [a]) (fp2 := [b]) (by simpa using la) (by simpa using lb)) (Nat.ne_of_lt la) (Nat.ne_of_lt (Nat.lt_succ_of_lt lb)), ⟨hz, hTI, ⟨_, _, hTO⟩, ⟨_, h1, rfl, rfl⟩, ⟨_, h2, rfl, rfl⟩⟩, fresh5, q⟩
section
variable {X : Cx} {a b : Expr} {elts : List Expr} {kk : Nat} {pos p tpos : Pos} {τ τ1 τ2 : List SV} {ds es : List PyData}
theorem EVI.zipTL (hm : X.mg "zip" = none) (h : EV X a τ (.tuple ds) τ1) (h' : EV X b τ1 (.list es) τ2) (hg : Gl X "zip" := by rfl) (hs : starEach [a, b] X.env = (false, eval a X.env) :: starEach [b] X.env := by rfl) (hs2 : starEach [b] X.env = (false, eval b X.env) :: starEach [] X.env := by rfl)
    (hpl : (backTo pos (starEach [b] X.env)).any (·.1) = false := by rfl) : EVI X (.Tuple elts kk tpos) (.Call (.Name "zip" p) [a, b] [] pos) τ (zipD ds es) τ2 :=
  ⟨h'.ow.trans h.ow, _, pi_zipM hg hm (pa_cons pe_self (pa_cons pe_self pa_nil hs2) hs) hs hpl, fun C σ H R S q => h.run C σ H _ S fun v H1 g1 S1 p1 => h'.run C σ H1 _ S1 fun v2 H2 g2 S2 p2 => by
    have p1' := keep_dp (L0 := C.L0) h'.ow g2 p1
    cases p1' with
    | @tup a xs _ s1 s2 =>
      cases p2 with
      | @lst b ys _ u1 u2 =>
        have st : ∀ H3, Gw (own τ2) H2 H3 → Ex (hide (C.L0 ++ own τ2) H2) H3 := fun H3 g b o z => g b o (fun y => (hide_some z).1 (List.mem_append_right _ y)) (hide_some z).2
        exact ⟨a, b, xs, ys, rfl, st_ex (hide_ex _ _) s1, sq_ex (hide_ex _ _) u1, q _ H2 (g1.trans (h.ow ▸ g2)) S2 (wk_zip (walk_zipM rfl) (fun H3 g => ⟨st_ex (st H3 g) s1, sq_ex (st H3 g) u1⟩) s2 u2)⟩⟩
end
end DL

set_option maxRecDepth 100000
set_option maxHeartbeats 2000000
/-! SpL: needless, alone, how often. -/
namespace K
open PySem L2 DL
def needlessM (n p m : Int) (book : List (List Int)) : List (List Int) := book.filter fun t => decide (aloneM n p m book t = 0)
def R_needless : List PyData → Res → Prop := looked fun n k p m book => eLT (needlessM n p m book)
def R_alone : List PyData → Res → Prop := looked fun n k p m book => eT (book.map (aloneM n p m book))
theorem zip_alone (book : List (List Int)) (f : List Int → Int) : zipD (book.map eT) ((book.map f).map eI) = book.map fun t => PyData.tuple [eT t, .int (f t)] := by
  unfold zipD
  induction book with
  | nil => rfl
  | cons b bs ih => simp only [List.map_cons, List.zip_cons_cons]; rw [ih]
theorem good_nodup {n k p m : Int} {book : List (List Int)} (hv : Valid n k p m) (h : isGoodD n k (eTT book) = true) : book.Nodup := (IsBook.of_good (by have := ofValid hv; omega) h).1.nodup
end K

set_option maxRecDepth 100000
set_option maxHeartbeats 2000000
/-! DMk: tuples whose object is known (FT): tuple(list), slots that keep them, index, defs that hand them on; tuple[::-1]. -/
namespace DL
open PySem PySem.Spec PyProof.Rows L2
open PyProof.Rows (envOfC)
theorem FT.ex {K : PySem.W.Frag} {ds : List PyData} {H H' : Hp} {v : V} (e : Ex H H') (h : FT K ds H v) : FT K ds H' v := by
  obtain ⟨l, o, xs, h1, h2, h3, h4, h5⟩ := h
  exact ⟨l, o, xs, h1, e _ _ h2, h3, h4, DpAll.ex e h5⟩
theorem FT.dp {K : PySem.W.Frag} {ds : List PyData} {H : Hp} {v : V} (h : FT K ds H v) : Dp K H v (.tuple ds) := by
  obtain ⟨l, o, xs, rfl, h2, h3, h4, h5⟩ := h
  exact .tup (.inl (.inr ⟨o, h2⟩)) h5
/-- e gives a tuple whose object is known -/
structure EK (X : Cx) (e : Expr) (τ : List SV) (ds : List PyData) (τ' : List SV) : Prop where
  ow : own τ' = own τ
  run : ∀ (C : Fc) (σ : L2.St) (H : Hp) (Q : VK), Sl X.K C H σ τ → (∀ v H', Gw (own τ) H H' → Sl X.K C H' σ τ' → FT X.K ds (hide (C.L0 ++ own τ') H') v → Q v H') → WE X e σ H Q
section
variable {X : Cx} {a b c e : Expr} {es : List Expr} {pos p p1 p2 p3 : Pos} {τ τ1 τ2 τ3 : List SV} {d d1 d2 d3 : PyData} {ds es' bs : List PyData} {x y z : Str} {k : Nat} {ps : List Str} {i j : Nat} {t : Addr} {script T T' : List Int} {rest : List Stmt} {R : Out → Prop}
theorem EV.ofK (h : EK X e τ ds τ1) : EV X e τ (.tuple ds) τ1 := ⟨h.ow, fun C σ H Q S q => h.run C σ H Q S fun v H' g S' p => q v H' g S' p.dp⟩
theorem EK.is (h : EK X e τ ds τ1) (q : ds = es') : EK X e τ es' τ1 := q ▸ h
theorem EK.var (i : Nat) {x : Str} (hs : τ[i]? = some (.kp (FT X.K ds)) := by rfl) (hN : X.N[i]? = some x := by rfl) (hv : Vis X.env.scope x := by first | exact Or.inl rfl | exact Or.inr (Or.inl rfl) | exact Or.inr (Or.inr rfl)) (hd : (x == ("__debug__" : Str)) = false := by decide)
    (hcd : (x == ("__classdict__" : Str)) = false := by decide) : EK X (.Name x pos) τ ds τ :=
  ⟨rfl, fun C σ H Q S q => WE.of (pe_var hN hv hd hcd) (by
    obtain ⟨o, h1, v, h2, h3⟩ := S.sl i _ hs
    exact ⟨v, by rw [h1, h2], q v H (Gw.refl _ _) S (h3 _ (Ex.refl _))⟩)⟩
theorem EV.varK (i : Nat) {x : Str} (hs : τ[i]? = some (.kp (FT X.K ds)) := by rfl) (hN : X.N[i]? = some x := by rfl) (hv : Vis X.env.scope x := by first | exact Or.inl rfl | exact Or.inr (Or.inl rfl) | exact Or.inr (Or.inr rfl)) (hd : (x == ("__debug__" : Str)) = false := by decide)
    (hcd : (x == ("__classdict__" : Str)) = false := by decide) : EV X (.Name x pos) τ (.tuple ds) τ := EV.ofK (EK.var i hs hN hv hd hcd)
theorem SX.asgK (i : Nat) {p' : Pos} (h1 : EK X e τ ds τ1) (h : SX X rest (τ1.set i (.kp (FT X.K ds))) R) (hN : X.N.Nodup := by assumption) (hi : X.N[i]? = some x := by rfl) (hx : Loc X.env.scope x := by first | exact Or.inl rfl | exact Or.inr rfl)
    (hs : swapsWith e (some (.Name x p')) pos.line X.env = pure false := by rfl) (hf : X.fn x = true ∨ X.env.scope.names.lookup x = some .local := by first | exact .inl rfl | exact .inr rfl) : SX X (.Assign [.Name x p'] e pos :: rest) τ R :=
  SX.seq (ps_set hN hi hx pe_self hs hf) fun C σ H D W tk S k => h1.run C σ H _ S fun v H' g S' p1 => k (.nx (τ1.set i (.kp (FT X.K ds)))) h _ _ (S'.setKp (fun H'' z => p1.ex z) i)
theorem SX.retK (h1 : EK X e τ ds τ1) (h : R (.rk ds τ1)) : SX X (.Return (some e) pos :: rest) τ R :=
  SX.seq (ps_ret pe_self) fun C σ H D W tk S k => h1.run C σ H _ S fun v H' g S' p1 => k (.rk ds τ1) h σ v H' S' p1
/-! ### tuple(list), its object known -/
def kTupF (K : PySem.W.Frag) (x : V) (H : Hp) (Q : VK) : Prop := ∃ p xs, x = .ref p ∧ SqL K H p xs ∧ ∀ q o, H q = none → o.cls = .type "tuple" → o.dict = none → Q (.ref q) (upd H q (.frz o (.tup xs)))
theorem pe_tupF {p pos : Pos} {ta : TE} (hg : Gl X "tuple") (hm : X.mg "tuple" = none) (ha : PE X a ta) (na : starEach [a] X.env = (false, eval a X.env) :: starEach [] X.env) : PE X (.Call (.Name "tuple" p) [a] [] pos) (tThen ta (kTupF X.K)) := by
  refine ⟨fun pins s σ H Q I h => ?_⟩
  refine Call_ (ld_blt I hg hm boot_tuple (PyProof.Rows.callWith_type1 (one_arg ha I h (fun v s2 x H2 I2 r q => ?_) na) na))
  obtain ⟨p, xs, rfl, hs, q⟩ := q
  obtain rfl : v = .ref p := r
  obtain ⟨its, rv, pl, hz⟩ := I2.list hs
  refine call_tuple_list pl.isList (fun h' hk => ?_) (by rw [List.size_toArray, ← rv.length]; exact hz)
  have I1 : Inv X pins σ H2 { s2 with heap := h' } := I2.kept (t' := s2.toks) hk
  have I3 : Inv X pins σ (upd H2 h'.objs.size (.frz { cls := .type "tuple", data := .seq its.toArray } (.tup xs))) { s2 with heap := h'.push { cls := .type "tuple", data := .seq its.toArray } } :=
    I1.laid (t' := s2.toks) (fun b o e => Heap.get?_push_of_some _ e) (Nat.le_refl _) (show ObjOk X.prog X.w _ _ _ (.frz _ (.tup xs)) from ⟨Heap.get?_push_size _ rfl, hz, its, rv, IsTup.new _ _⟩)
  exact ⟨.ref h'.objs.size, _, I3, rfl, q _ _ (I1.hok.fresh (Nat.le_refl _)) rfl rfl⟩
theorem EK.tupL (hm : X.mg "tuple" = none) (h : EV X a τ (.list ds) τ1) (hg : Gl X "tuple" := by rfl) (he : starEach [a] X.env = (false, eval a X.env) :: starEach [] X.env := by rfl) : EK X (.Call (.Name "tuple" p) [a] [] pos) τ ds τ1 :=
  ⟨h.ow, fun C σ H Q S q => WE.of (pe_tupF hg hm pe_self he) (h.run C σ H _ S fun v H1 g1 S1 q1 => by
    cases q1 with
    | @lst l xs _ s1 s2 =>
      refine ⟨l, xs, rfl, sq_ex (hide_ex _ _) s1, fun r o hr hc hd => ?_⟩
      have fr : r ∉ C.L0 ++ own τ1 := S1.dom.fresh hr
      refine q _ _ (g1.trans (Gw.of (Ex.new hr))) (S1.ex (Ex.new hr)) ⟨r, o, xs, rfl, by rw [hide_out fr]; exact upd_same, hc, hd, DpAll.ex (Ex.new hr).hide s2⟩)⟩
/-! ### t.index(x) -/
def rIdxF (K : PySem.W.Frag) {α : Type} [DecidableEq α] (f : α → PyData) : V → List V → Hp → VK → Prop := fun x xs H Q => ∃ (y : V) (k : α) (ks : List α), xs = [y] ∧ FT K (ks.map f) H x ∧ Dp K H y (f k) ∧ k ∈ ks ∧ Q (.int (ks.idxOf k : Nat)) H
theorem mt_idxF {α : Type} [DecidableEq α] {f : α → PyData} {n : Nat} (ef : Enc f n) (hn : n ≤ 60) (hu : X.A.units + 65 < cLine) : MtR X "tuple.index" (rIdxF X.K f) := by
  intro pins s σ H x xs v us Q I rx rxs h
  obtain ⟨y, k, ks, rfl, hl, hy, hk, q⟩ := h
  have hl := hl.dp
  cases rxs with
  | cons ry rt =>
    rename_i uy ut
    cases rt
    obtain ⟨bs, r1⟩ := Dp.reads I (f k) y uy hy ry
    cases hl with
    | tup hs ha =>
      cases rx
      obtain ⟨its, rv, ht, hlen⟩ := I.tuple hs
      obtain ⟨as, h4⟩ := Dp.readsAll I _ _ its ha rv
      have hnn : its.length = (ks.map f).length := SeqAt.ReadsAll.length _ its as h4
      rw [List.length_map] at hnn
      refine SeqAt.call_tuple_index (ks := ks) (k := k) ht ⟨hnn, fun j h1 h2 => ?_⟩ hk ⟨.int _, H, I.tok _, ⟨_, rfl⟩, q⟩
      have hd : (ks.map f)[j]? = some (f ks[j]) := by rw [List.getElem?_map, List.getElem?_eq_getElem h2]; rfl
      obtain ⟨v, hv1, hv2⟩ := DpAll.get ha hd
      obtain ⟨u, hu1, ru⟩ := rv.get hv1
      rw [List.getElem?_eq_getElem h1] at hu1
      have eu : its[j] = u := Option.some.inj hu1
      rw [eu, ← ef.eqv]
      obtain ⟨cs, r2⟩ := Dp.reads I (f ks[j]) v u hv2 ru
      refine SeqAt.eqAt_reads _ _ _ s _ _ _ _ r2 r1 (ef.sh _).1 (ef.sh _).1 ?_
      have h3 := (ef.sh k).2
      have h4 : min (f ks[j]).depth (f k).depth ≤ (f k).depth := Nat.min_le_right _ _
      show X.A.units + 1 + _ < cLine
      omega
def tBMF (K : PySem.W.Frag) (r : V → List V → Hp → VK → Prop) (to : TE) (t : TA) : TE := fun σ H Q => to σ H fun x H1 => (∃ ds, FT K ds H1 x) ∧ t σ H1 fun xs H2 => r x xs H2 Q
theorem pe_bmF {T id : String} {name : Str} {apos cpos : Pos} {o : Expr} {to : TE} {t : TA} {r : V → List V → Hp → VK → Prop} (pa : PlainAttrs "tuple") (slot : Slot "tuple" name id) (hty : typeOf (.builtin id) = pure (.type "method_descriptor")) (hm : MtR X id r) (ho : PE X o to) (ha : PA X (e :: es) t)
    (hbase : attributeBase o name X.env (eval o X.env) = eval o X.env)
    (hfew : ((backTo cpos (starEach (e :: es) X.env)).all (fun x => !x.1) && (backToKw cpos (keywordEach [] X.env)).all (fun x => x.1.isSome)
      && decide ((e :: es).length + ([] : List Keyword).length + (if ([] : List Keyword).isEmpty then 0 else 1) < 30)) = true)
    (hline : (apos.endLine == cpos.line) = true) (hs : starEach (e :: es) X.env = (false, eval e X.env) :: starEach es X.env) (hplain : (backTo cpos (starEach es X.env)).any (·.1) = false) :
    PE X (.Call (.Attribute o name apos) (e :: es) [] cpos) (tBMF X.K r to t) := by
  refine ⟨fun pins s σ H Q I h => ?_⟩
  refine wpAny_Call_method_late hbase hfew hline rfl (thn (ho.run pins s σ H _ I h) fun v s1 ⟨x, H1, I1, r1, ty, q1⟩ => ?_)
  obtain ⟨ds, l, ob, xs, rfl, hk, hc, hd, _⟩ := ty
  have hg := (I1.hok l _ hk).1
  obtain rfl : v = .ref l := r1
  refine ⟨"tuple", id, pa, slot, hty, ⟨ob, hg, hc⟩, fun a e => ?_, ?_⟩
  · cases e
    exact ⟨ob, hg, hd⟩
  have hA := ha.run cpos pins s1 σ H1 _ I1 q1
  rw [hs] at hA ⊢
  refine Calls.callWith_builtin (by show (false || (backTo cpos (starEach es X.env)).any (·.1)) = false; rw [hplain] <;> rfl) (Calls.evalArgs_plain ?_)
  exact thn hA fun us s2 ⟨vs, H2, I2, r2, q2⟩ => hm pins s2 σ H2 (.ref l) vs (.ref l) us Q I2 rfl r2 q2
/-- rows.index(row) -/
theorem EV.idxF {α : Type} [DecidableEq α] {f : α → PyData} {n : Nat} {ks : List α} {k : α} {ap : Pos} (ef : Enc f n) (hu : X.A.units + 65 < cLine) (h1 : EK X a τ (ks.map f) τ1) (h2 : EV X b τ1 (f k) τ2) (hk : k ∈ ks) (hn : n ≤ 60 := by decide)
    (hbase : attributeBase a "index" X.env (eval a X.env) = eval a X.env := by rfl)
    (hfew : ((backTo pos (starEach [b] X.env)).all (fun x => !x.1) && (backToKw pos (keywordEach [] X.env)).all (fun x => x.1.isSome) && decide ([b].length + ([] : List Keyword).length + (if ([] : List Keyword).isEmpty then 0 else 1) < 30)) = true := by rfl)
    (hline : (ap.endLine == pos.line) = true := by rfl) (hst : starEach [b] X.env = (false, eval b X.env) :: starEach [] X.env := by rfl) :
    EV X (.Call (.Attribute a "index" ap) [b] [] pos) τ (.int (ks.idxOf k : Nat)) τ2 :=
  ⟨h2.ow.trans h1.ow, fun C σ H Q S q => WE.of (pe_bmF (T := "tuple") PySem.F.plainAttrs_tuple PySem.F.slot_tuple_index PySem.F.type_tuple_index (mt_idxF ef hn hu) pe_self (pa_cons pe_self pa_nil hst) hbase hfew hline hst rfl) (h1.run C σ H _ S fun v H1 g1 S1 q1 =>
    ⟨⟨_, q1.ex (hide_ex _ _)⟩, h2.run C σ H1 _ S1 fun u H2 g2 S2 q2 => ⟨u, k, ks, rfl, (FT.ex (Gw.hide g2 fun a z => List.mem_append_right _ z) q1).ex (hide_ex _ _), Dp.ex (hide_ex _ _) q2, hk, q _ H2 (g1.trans (h1.ow ▸ g2)) S2 (.int _)⟩⟩)⟩
/-! ### t[::-1] -/
def tRevT (K : PySem.W.Frag) (te : TE) : TE := fun σ H Q => te σ H fun x H1 => ∃ a xs, x = .ref a ∧ SqT K H1 a xs ∧ ∀ p, H1 p = none → Q (.ref p) (upd H1 p (.tup xs.reverse))
end
end DL
namespace HT
open PySem PySem.Spec PyProof.Rows L2
section
variable {prog : Program} {w : World} {A : Around} {E : Value → Shared → Prop} {s : Shared}
theorem sliceApplied_rev {sl : Addr} {vs : Value} {n : Nat} {Q : Int × Int × Nat → Shared → Prop} (hs : s.heap.IsSliceOf sl .none .none vs) (ps : IsPart vs (some (-1)))
    (h : Q ((n : Int) - 1, -1, n) s) : wpAny (model prog w) A (Builtin.Slice.sliceApplied (.ref sl) (pure (n : Int))) Q E s := by
  obtain ⟨os, hos, hcs, hds⟩ := id hs
  unfold Builtin.Slice.sliceApplied Builtin.Slice.sliceFields
  refine wpAny_bind (wpAny_bind (wpAny_field hos hds (x := .none) rfl (wpAny_bind (wpAny_field hos hds (x := .none) rfl (wpAny_bind (wpAny_field hos hds (x := vs) rfl (wpAny_pure ?_)))))))
  refine wpAny_bind (slicePart_ ps ?_)
  show wpAny _ _ (if ((-1 : Int) == 0) = true then _ else _) _ _ s
  rw [if_neg (by decide)]
  refine wpAny_bind (slicePart_none (wpAny_bind (slicePart_none (wpAny_bind (wpAny_pure ?_)))))
  show wpAny _ _ (match Builtin.Slice.sliceAdjust none none (-1) (n : Int) with | (lo, hi) => pure (lo, (-1 : Int), Builtin.Slice.slicePlaces lo hi (-1))) _ _ s
  have e1 : Builtin.Slice.sliceAdjust none none (-1) (n : Int) = ((n : Int) - 1, -1) := by unfold Builtin.Slice.sliceAdjust; simp
  have e2 : Builtin.Slice.slicePlaces ((n : Int) - 1) (-1) (-1) = n := by
    unfold Builtin.Slice.slicePlaces
    rw [if_neg (by decide : ¬ ((-1 : Int) > 0))]
    split
    · rw [show (- -1 : Int) = 1 by decide, Int.ediv_one]; omega
    · omega
  rw [e1]
  show wpAny _ _ (pure ((n : Int) - 1, (-1 : Int), Builtin.Slice.slicePlaces ((n : Int) - 1) (-1) (-1))) _ _ s
  rw [e2]
  exact wpAny_pure h
theorem pick_rev (xs : Array Value) : ((List.range xs.size).filterMap fun (m : Nat) => xs[((xs.size : Int) - 1 + (m : Int) * (-1)).toNat]?).toArray = xs.toList.reverse.toArray := by
  have e : ((List.range xs.size).filterMap fun (m : Nat) => xs[((xs.size : Int) - 1 + (m : Int) * (-1)).toNat]?) = ((List.range xs.size).map fun k => xs.size - 1 - k).filterMap (xs[·]?) := by
    rw [List.filterMap_map]
    refine congrArg (fun f => List.filterMap f _) (funext fun m => ?_)
    show _ = xs[xs.size - 1 - m]?
    rw [show ((xs.size : Int) - 1 + (m : Int) * (-1)).toNat = xs.size - 1 - m by omega]
  rw [e, PySem.W.krv_range, List.filterMap_reverse, PySem.W.krv_all]
theorem getItem_tuple_rev {t sl : Addr} {items : Array Value} {vs : Value} {Q : Value → Shared → Prop} (ht : IsTup s.heap t items) (hs : s.heap.IsSliceOf sl .none .none vs) (ps : IsPart vs (some (-1)))
    (h : Q (.ref s.heap.objs.size) { s with heap := s.heap.push { cls := .type "tuple", data := .seq items.toList.reverse.toArray } })
    (hsz : items.size ≤ sizeLine) : wpAny (model prog w) A (getItem (.ref t) (.ref sl)) Q E s := by
  have htake : sizeOk (.seq items.toList.reverse.toArray) := by
    show items.toList.reverse.toArray.size ≤ sizeLine
    rw [List.size_toArray, List.length_reverse, Array.length_toList]
    exact hsz
  obtain ⟨os, hos, hcs, hds⟩ := id hs
  have hTs : s.TypeIs (.ref sl) "slice" := ⟨os, hos, hcs⟩
  unfold getItem
  try with_reducible refine wpAny_holding ?_
  first | refine wpAny_bind (wpAny_pure ?_) | skip
  refine wpAny_bind (wpAny_sequenceKey ht.typeIs (by decide) ?_)
  refine wpAny_bind (wpAny_callSpecial?_slot (name := Str.ofString "__getitem__") ht.typeIs PyProof.Rows.slot_tuple_getitem
    (wpAny_call_entry PyProof.Rows.slot_tuple_getitem ht.typeIs entry_tuple_getitem ?_ (args_tuple_getitem _ _)))
  show wpAny _ _ (Builtin.Tuple.tupleItemsOf (.ref t) >>= _) _ _ s
  refine wpAny_bind (tupleItemsOf_ ht ?_)
  refine wpAny_bind (wpAny_typeOf hTs ?_)
  rw [if_pos (by decide)]
  refine wpAny_bind (sliceApplied_rev hs ps ?_)
  have hno : ¬ (((((items.size : Int) - 1) == 0) && ((-1 : Int) == 1) && (items.size == items.size)) = true) := by
    intro q
    rw [Bool.and_eq_true, Bool.and_eq_true] at q
    exact absurd q.1.2 (by decide)
  show wpAny _ _ (if ((((items.size : Int) - 1) == 0) && ((-1 : Int) == 1) && (items.size == items.size)) = true then _ else _) _ _ s
  rw [if_neg hno, pick_rev]
  first
    | exact wpAny_bind (m := Builtin.Tuple.tupleExact _) (wpAny_newObj_type (wpAny_pure ⟨_, rfl, wpAny_pure h⟩) htake)
    | exact wpAny_bind (m := Builtin.Tuple.tupleExact _) (wpAny_newObj_type (wpAny_bind (wpAny_pure (wpAny_pure ⟨_, rfl, wpAny_pure h⟩))) htake)
    | exact wpAny_bind (wpAny_bind (m := Builtin.Tuple.tupleExact _) (wpAny_newObj_type (wpAny_pure (wpAny_pure ⟨_, rfl, wpAny_pure h⟩)) htake))
    | exact wpAny_bind (wpAny_bind (m := Builtin.Tuple.tupleExact _) (wpAny_newObj_type (wpAny_pure ⟨_, rfl, wpAny_pure h⟩) htake))
end
end HT
namespace DL
open PySem PySem.Spec PyProof.Rows L2
open PyProof.Rows (envOfC)
section
variable {X : Cx} {a b c e : Expr} {es : List Expr} {pos p p1 p2 p3 : Pos} {τ τ1 τ2 τ3 : List SV} {d d1 d2 d3 : PyData} {ds es' bs : List PyData} {x y z : Str} {k : Nat} {ps : List Str} {i j : Nat} {t : Addr} {script T T' : List Int} {rest : List Stmt} {R : Out → Prop}
theorem pe_revT {te : TE} {k : Nat} (he : PE X e te) : PE X (.Subscript e (.Slice none none (some (.UnaryOp .USub (.Constant (.int 1) k p1) p2)) p3) pos) (tRevT X.K te) := by
  refine ⟨fun pins s σ H Q I h => ?_⟩
  refine Subscript_ (thn (he.run pins s σ H _ I h) fun v s1 ⟨x, H1, I1, r1, q1⟩ => ?_)
  obtain ⟨a, xs, ex, hx, q⟩ := q1
  subst ex
  cases r1
  have hst : PO X (some (.UnaryOp .USub (.Constant (.int 1) k p1) p2)) (tPart (tUn (rU fun i => .int (-i)) (tC (.int 1)))) := po_some (pe_un un_neg pe_int)
  refine wpAny_Slice (thn (po_none.run pins s1 σ H1 (fun o H2 => o = none ∧ H2 = H1) I1 ⟨rfl, rfl⟩) fun vl s2 ⟨l, H2, I2, pl, el, e2⟩ => ?_)
  subst el e2
  refine thn (po_none.run pins s2 σ H2 (fun o H3 => o = none ∧ H3 = H2) I2 ⟨rfl, rfl⟩) fun vu s3 ⟨u, H3, I3, pu, eu, e3⟩ => ?_
  subst eu e3
  refine thn (hst.run pins s3 σ H3 (fun o H4 => o = some (-1) ∧ H4 = H3) I3 ⟨1, rfl, -1, rfl, rfl, rfl⟩) fun vs s4 ⟨o, H4, I4, ps, eo, e4⟩ => ?_
  subst eo e4
  have I5 : Inv X pins σ H4 { s4 with heap := s4.heap.push { cls := .type "slice", data := .fields #[vl, vu, vs] } } := I4.kept (t' := s4.toks) fun b ob q => Heap.get?_push_of_some _ q
  obtain ⟨its, r, ht, hz⟩ := I5.tuple hx
  have hlen := r.length
  cases pl
  cases pu
  show wpAny (model X.prog X.w) X.A (subscriptTail e (.Slice none none (some (.UnaryOp .USub (.Constant (.int 1) k p1) p2)) p3) (.ref a) (.ref s4.heap.objs.size)) (EP X pins σ Q) X.xe { s4 with heap := s4.heap.push { cls := .type "slice", data := .fields #[Value.none, Value.none, vs] } }
  refine tail_any (ops := [.ref a, .ref s4.heap.objs.size]) ht.typeIs (PyProof.Rows.slot_tuple_getitem.lookup) ?_ (by with_unfolding_all rfl)
  refine HT.getItem_tuple_rev ht (Heap.IsSliceOf.new _ .none .none vs) ps ?_ (by rw [List.size_toArray]; omega)
  refine ⟨.ref _, _, I5.laid (t' := s4.toks) (o := .tup xs.reverse) (fun b ob q => Heap.get?_push_of_some _ q) (Nat.le_refl _) ?_, rfl, q _ (I5.hok.fresh (Nat.le_refl _))⟩
  exact ⟨by rw [List.length_reverse]; exact hz, _, r.reverse, IsTup.new _ _⟩
theorem EV.revT {k : Nat} (h : EV X e τ (.tuple ds) τ1) : EV X (.Subscript e (.Slice none none (some (.UnaryOp .USub (.Constant (.int 1) k p1) p2)) p3) pos) τ (.tuple ds.reverse) τ1 :=
  ⟨h.ow, fun C σ H Q S q => WE.of (pe_revT pe_self) (h.run C σ H _ S fun v H1 g1 S1 q1 => by
    cases q1 with
    | @tup l xs _ s1 s2 =>
      refine ⟨l, xs, rfl, st_ex (hide_ex _ _) s1, fun r hr => q _ _ (g1.trans (Gw.of (Ex.new hr))) (S1.ex (Ex.new hr)) (dp_newT hr S1.dom (DpAll.rev s2))⟩)⟩
/-! ### defs that hand such tuples on -/
/-- hands back a tuple whose object is known -/
def spPK (K : PySem.W.Frag) (R : List PyData → List PyData → Prop) : Sp := fun vs H Q E => ∃ (L : List Addr) (ds es : List PyData), Dom L H ∧ DpAll K (hide L H) vs ds ∧ R ds es ∧ ∀ v H', Ex H H' → FT K es (hide L H') v → Q v H'
/-- the same, of a def that changes the list of ints in its second place -/
def spTK (K : PySem.W.Frag) (R : List Int → List Int → List PyData → List PyData → List Int → Prop) : Sp := fun vs H Q E => ∃ (L : List Addr) (t : Addr) (sv : V) (rvs : List V) (script T : List Int) (ds es : List PyData) (T' : List Int),
  vs = sv :: .ref t :: rvs ∧ Dom L H ∧ t ∈ L ∧ Dp K (hide L H) sv (lst PyData.int script) ∧ H t = some (.lst (T.map V.int)) ∧ DpAll K (hide L H) rvs ds ∧ R script T ds es T' ∧
  ∀ v H', (∀ a o, a ≠ t → H a = some o → H' a = some o) → H' t = some (.lst (T'.map V.int)) → FT K es (hide L H') v → Q v H'
/-- takes one in its second place -/
def spA (K : PySem.W.Frag) (R : PyData → List PyData → List PyData → PyData → Prop) : Sp := fun vs H Q E => ∃ (L : List Addr) (v0 v1 : V) (rvs : List V) (g : PyData) (bs ds : List PyData) (d : PyData),
  vs = v0 :: v1 :: rvs ∧ Dom L H ∧ Dp K (hide L H) v0 g ∧ FT K bs (hide L H) v1 ∧ DpAll K (hide L H) rvs ds ∧ R g bs ds d ∧ ∀ v H', Ex H H' → Dp K (hide L H') v d → Q v H'
theorem EK.call {R : List PyData → List PyData → Prop} (F : Cal X.prog X.w X.K X.mg X.base k x ps (spPK X.K R)) (hr : Room k X.A) (h : EA X (e :: es) τ ds τ1) (hR : R ds es') (hg : Gl X x := by rfl)
    (hdb : (x == ("__debug__" : Str)) = false := by decide) (he : starEach (e :: es) X.env = (false, eval e X.env) :: starEach es X.env := by rfl) (hpl : (backTo pos (starEach es X.env)).any (·.1) = false := by rfl) :
    EK X (.Call (.Name x p) (e :: es) [] pos) τ es' τ1 := by
  obtain ⟨f, fd, hm, hk, hb, G⟩ := F.ex
  exact ⟨h.ow, fun C σ H Q S q => WE.of (pe_call G hr hg hm hk hb .nil passL pa_self hdb he hpl) (h.run C σ H _ S fun vs H1 g1 S1 p1 =>
    ⟨C.L0 ++ own τ1, ds, es', S1.dom, by rw [List.append_nil]; exact p1, hR, fun v H2 ex p2 => q v H2 (g1.trans (Gw.of ex)) (S1.ex ex) p2⟩)⟩
theorem EK.callT {R : List Int → List Int → List PyData → List PyData → List Int → Prop} (i j : Nat) (F : Cal X.prog X.w X.K X.mg X.base k x ps (spTK X.K R)) (hr : Room k X.A) (h : EA X es τ ds τ1) (hR : R script T ds es' T')
    (hi : τ[i]? = some (.pu (DL.lst PyData.int script)) := by rfl) (hj0 : ∃ ds0, τ[j]? = some (.ow t ds0) := by exact ⟨_, rfl⟩) (hj : τ1[j]? = some (.ow t (T.map PyData.int)) := by rfl) (hw : t ∉ own (τ1.set j .un) := by simp [own, ownA])
    (hN : X.N[i]? = some y := by rfl) (hv : Vis X.env.scope y := by first | exact Or.inl rfl | exact Or.inr (Or.inl rfl) | exact Or.inr (Or.inr rfl)) (hN2 : X.N[j]? = some z := by rfl) (hv2 : Vis X.env.scope z := by first | exact Or.inl rfl | exact Or.inr (Or.inl rfl) | exact Or.inr (Or.inr rfl))
    (hg : Gl X x := by rfl) (hdb : (x == ("__debug__" : Str)) = false := by decide) (hy1 : (y == ("__debug__" : Str)) = false := by decide) (hy2 : (y == ("__classdict__" : Str)) = false := by decide) (hz1 : (z == ("__debug__" : Str)) = false := by decide) (hz2 : (z == ("__classdict__" : Str)) = false := by decide)
    (he : starEach (.Name y p1 :: .Name z p2 :: es) X.env = (false, eval (.Name y p1) X.env) :: starEach (.Name z p2 :: es) X.env := by rfl) (he2 : starEach (.Name z p2 :: es) X.env = (false, eval (.Name z p2) X.env) :: starEach es X.env := by rfl) (hpl : (backTo pos (starEach (.Name z p2 :: es) X.env)).any (·.1) = false := by rfl) :
    EK X (.Call (.Name x p) (.Name y p1 :: .Name z p2 :: es) [] pos) τ es' (τ1.set j (.ow t (T'.map PyData.int))) := by
  obtain ⟨f, fd, hm, hk, hb, G⟩ := F.ex
  have oo : own (τ1.set j (.ow t (T'.map PyData.int))) = own τ1 := own_reset hj
  refine ⟨oo.trans h.ow, fun C σ H Q S q => WE.of (pe_call G hr hg hm hk hb .nil passL (pa_cons pe_self (pa_cons pe_self pa_self he2) he) hdb he hpl) ?_⟩
  refine (EV.var (X := X) (τ := τ) (pos := p1) i hi hN hv hy1 hy2).run C σ H _ S fun sv H0 g0 S0 p0 => ?_
  obtain ⟨ds0, hj0⟩ := hj0
  refine own_run hj0 hN2 hv2 hz1 hz2 S0 fun xs0 _ _ => ?_
  refine h.run C σ H0 _ S0 fun rvs H1 g1 S1 q1 => ?_
  have p0' := keep_dp (L0 := C.L0) h.ow g1 p0
  obtain ⟨o, z1, z2, xs, z3, z4⟩ := S1.sl j _ hj
  have ex := dp_ints z4
  subst ex
  have tin : t ∈ C.L0 ++ own τ1 := List.mem_append_right _ (own_mem hj)
  show spTK X.K R ((sv :: .ref t :: rvs) ++ []) H1 Q E0
  rw [List.append_nil]
  refine ⟨C.L0 ++ own τ1, t, sv, rvs, script, T, ds, es', T', rfl, S1.dom, tin, p0', z3, q1, hR, fun v H2 k1 k2 k3 => ?_⟩
  have S2 := put_back (es' := T'.map PyData.int) S1 hj hw (dpInts T')
  have ex2 : Ex (upd H1 t (.lst (T'.map V.int))) H2 := fun a o z => by
    by_cases c : a = t
    · rw [c, upd_same] at z; rw [c, k2]; exact z
    · rw [upd_ne c] at z; exact k1 a o c z
  refine q v H2 (fun a o n z => ?_) (S2.ex ex2) (by rw [oo]; exact k3)
  have na : a ≠ t := fun e => n (by rw [e, ← h.ow]; exact own_mem hj)
  refine k1 a o na (g1 a o (fun y => n y) (g0 a o n z))
/-- f(a, book, ..) -/
theorem EV.callA {R : PyData → List PyData → List PyData → PyData → Prop} {g : PyData} (F : Cal X.prog X.w X.K X.mg X.base k x ps (spA X.K R)) (hr : Room k X.A) (h0 : EV X a τ g τ) (h1 : EK X b τ bs τ) (h : EA X es τ ds τ) (hR : R g bs ds d)
    (hg : Gl X x := by rfl) (hdb : (x == ("__debug__" : Str)) = false := by decide)
    (he : starEach (a :: b :: es) X.env = (false, eval a X.env) :: starEach (b :: es) X.env := by rfl) (he2 : starEach (b :: es) X.env = (false, eval b X.env) :: starEach es X.env := by rfl) (hpl : (backTo pos (starEach (b :: es) X.env)).any (·.1) = false := by rfl) :
    EV X (.Call (.Name x p) (a :: b :: es) [] pos) τ d τ := by
  obtain ⟨f, fd, hm, hk, hb, G⟩ := F.ex
  refine ⟨rfl, fun C σ H Q S q => WE.of (pe_call G hr hg hm hk hb .nil passL (pa_cons pe_self (pa_cons pe_self pa_self he2) he) hdb he hpl) ?_⟩
  refine h0.run C σ H _ S fun v0 H0 g0 S0 p0 => h1.run C σ H0 _ S0 fun v1 H1 g1 S1 p1 => h.run C σ H1 _ S1 fun rvs H2 g2 S2 p2 => ?_
  have p0' := keep_dp (L0 := C.L0) h.ow g2 (keep_dp (L0 := C.L0) h1.ow g1 p0)
  have p1' := FT.ex (Gw.hide (L := C.L0 ++ own τ) g2 fun a z => List.mem_append_right _ z) p1
  show spA X.K R ((v0 :: v1 :: rvs) ++ []) H2 Q E0
  rw [List.append_nil]
  exact ⟨C.L0 ++ own τ, v0, v1, rvs, g, bs, ds, d, rfl, S2.dom, p0', p1', p2, hR, fun v H3 ex p3 => q v H3 ((g0.trans (g1.trans g2)).trans (Gw.of ex)) (S2.ex ex) p3⟩
end
/-- the ends of such defs -/
def retK (ds : List PyData) : Out → Prop
  | .rk es _ => es = ds
  | _ => False
def retTK (t : Addr) (ds : List PyData) (T' : List Int) : Out → Prop
  | .rk es τ' => es = ds ∧ τ'[1]? = some (.ow t (T'.map PyData.int))
  | _ => False
section
variable {P : Program} {w : World} {K : PySem.W.Frag} {mg : Str → Option Value} {base : Heap}
theorem Def.calPK {x : Str} {st : Stmt} {N ps : List Str} {k : Nat} {R : List PyData → List PyData → Prop} (D : Def K mg x st) (S : FnScope N ps (defScope st))
    (hbind : ∀ (dV kV doc pm : Value) (an : Option Addr) (cdv ct : Value) (us : List Value), us.length = ps.length → bindArgs (PySem.W.fnOf x x (defArgs st) (defBody st) (defScope st) .none kV doc pm an cdv ct) ⟨us, []⟩ = pure (ps.zip us))
    (len : ∀ ds es, R ds es → ds.length = ps.length)
    (hb : ∀ (f : Addr) (cdv : Value) (A : Around) (outer : List Env) (s : Shared) (H : Hp) (E : XK) (ds es : List PyData), Room k (A.deeper (envOfC x (defScope st) s.heap.objs.size f cdv)) → R ds es →
      SX (cxOf (L2.CX P w) P w K mg base N x (defScope st) f cdv A outer s H E) (defBody st) (ds.map SV.pu ++ List.replicate (N.length - ds.length) SV.un) (retK es)) :
    Cal P w K mg base (k + 1) x ps (spPK K R) := by
  obtain ⟨fd, F⟩ := D.fd
  have hpl : ps.length ≤ N.length := by have := congrArg List.length S.pre; rw [List.length_take] at this; omega
  refine ⟨_, fd, D.gl, F.kp, F.bindsN fun kV doc pm an cdv ct us hl => hbind .none kV doc pm an cdv ct us hl, F.ok S (fun vs H Q E h => ?_) (fun cdv A outer s H vs Q E hr h => ?_)⟩
  · obtain ⟨L, ds, es, dm, p, hR, _⟩ := h
    rw [DpAll.len p]; exact len ds es hR
  · obtain ⟨L, ds, es, dm, p, hR, q⟩ := h
    have hl := len ds es hR
    refine ⟨_, pss_self, (hb _ cdv A outer s H E ds es hr hR).run ⟨L, [], H⟩ _ H _ (fun cls d _ H => E cls d H) (takes_of rfl rfl rfl rfl) (sl_start (ps := ps) dm p (by omega)) fun o ho => ?_⟩
    have hEx : ∀ {σ' : L2.St} {τ' : List SV} {H' : Hp}, Sl K ⟨L, [], H⟩ H' σ' τ' → Ex H H' := fun S' a u e => S'.gr a u (fun z => nomatch z) e
    cases o with
    | ro i' τ' => exact False.elim ho
    | rk d' τ' =>
      have e : d' = es := ho
      subst e
      exact fun σ' v H' S' p' => q v H' (hEx S') (FT.ex (hide_mono fun a z => List.mem_append_left _ z) p')
    | rt d' τ' => exact False.elim ho
    | nx τ' => exact False.elim ho
    | bk τ' => exact False.elim ho
    | ct τ' => exact False.elim ho
    | xc c' τ' => exact False.elim ho
theorem Def.calTK {x : Str} {st : Stmt} {N ps : List Str} {k : Nat} {R : List Int → List Int → List PyData → List PyData → List Int → Prop} (D : Def K mg x st) (S : FnScope N ps (defScope st))
    (hbind : ∀ (dV kV doc pm : Value) (an : Option Addr) (cdv ct : Value) (us : List Value), us.length = ps.length → bindArgs (PySem.W.fnOf x x (defArgs st) (defBody st) (defScope st) .none kV doc pm an cdv ct) ⟨us, []⟩ = pure (ps.zip us))
    (len : ∀ script T ds d T', R script T ds d T' → ds.length + 2 = ps.length)
    (hb : ∀ (f : Addr) (cdv : Value) (A : Around) (outer : List Env) (s : Shared) (H : Hp) (E : XK) (t : Addr) (script T : List Int) (ds es : List PyData) (T' : List Int), Room k (A.deeper (envOfC x (defScope st) s.heap.objs.size f cdv)) → R script T ds es T' →
      SX (cxOf (L2.CX P w) P w K mg base N x (defScope st) f cdv A outer s H E) (defBody st) (.pu (lst PyData.int script) :: .ow t (T.map PyData.int) :: (ds.map SV.pu ++ List.replicate (N.length - 2 - ds.length) SV.un)) (retTK t es T')) :
    Cal P w K mg base (k + 1) x ps (spTK K R) := by
  obtain ⟨fd, F⟩ := D.fd
  have hpl : ps.length ≤ N.length := by have := congrArg List.length S.pre; rw [List.length_take] at this; omega
  refine ⟨_, fd, D.gl, F.kp, F.bindsN fun kV doc pm an cdv ct us hl => hbind .none kV doc pm an cdv ct us hl, F.ok S (fun vs H Q E h => ?_) (fun cdv A outer s H vs Q E hr h => ?_)⟩
  · obtain ⟨L, t, sv, rvs, script, T, ds, d, T', rfl, dm, ht, h0, h1, p, hR, _⟩ := h
    rw [List.length_cons, List.length_cons, DpAll.len p]; exact len _ _ _ _ _ hR
  · obtain ⟨L, t, sv, rvs, script, T, ds, d, T', rfl, dm, ht, h0, h1, p, hR, q⟩ := h
    have hl := len _ _ _ _ _ hR
    refine ⟨_, pss_self, (hb _ cdv A outer s H E t script T ds d T' hr hR).run ⟨L.filter (fun a => decide (a ≠ t)), [t], H⟩ _ H _ (fun cls d _ H => E cls d H) (takes_of rfl rfl rfl rfl) (sl_startT dm ht h0 h1 p (by omega)) fun o ho => ?_⟩
    cases o with
    | ro i' τ' => exact False.elim ho
    | rk d' τ' =>
      obtain ⟨e1, e2⟩ := ho
      subst e1
      refine fun σ' v H' S' p' => ?_
      obtain ⟨o, z1, z2, xs, z3, z4⟩ := S'.sl 1 _ e2
      have ex := dp_ints z4
      subst ex
      refine q v H' (fun a o na z => S'.gr a o (by simp [na]) z) z3 (FT.ex (hide_mono fun a ha => ?_) p')
      by_cases c : a = t
      · rw [c]; exact List.mem_append_right _ (own_mem e2)
      · exact List.mem_append_left _ (List.mem_filter.mpr ⟨ha, by simp [c]⟩)
    | rt d' τ' => exact False.elim ho
    | nx τ' => exact False.elim ho
    | bk τ' => exact False.elim ho
    | ct τ' => exact False.elim ho
    | xc c' τ' => exact False.elim ho
theorem Def.calA {x : Str} {st : Stmt} {N ps : List Str} {k : Nat} {R : PyData → List PyData → List PyData → PyData → Prop} (D : Def K mg x st) (S : FnScope N ps (defScope st))
    (hbind : ∀ (dV kV doc pm : Value) (an : Option Addr) (cdv ct : Value) (us : List Value), us.length = ps.length → bindArgs (PySem.W.fnOf x x (defArgs st) (defBody st) (defScope st) .none kV doc pm an cdv ct) ⟨us, []⟩ = pure (ps.zip us))
    (len : ∀ g bs ds d, R g bs ds d → ds.length + 2 = ps.length)
    (hb : ∀ (f : Addr) (cdv : Value) (A : Around) (outer : List Env) (s : Shared) (H : Hp) (E : XK) (g : PyData) (bs ds : List PyData) (d : PyData), Room k (A.deeper (envOfC x (defScope st) s.heap.objs.size f cdv)) → R g bs ds d →
      SX (cxOf (L2.CX P w) P w K mg base N x (defScope st) f cdv A outer s H E) (defBody st) (.pu g :: .kp (FT K bs) :: (ds.map SV.pu ++ List.replicate (N.length - 2 - ds.length) SV.un)) (ret d)) :
    Cal P w K mg base (k + 1) x ps (spA K R) := by
  obtain ⟨fd, F⟩ := D.fd
  have hpl : ps.length ≤ N.length := by have := congrArg List.length S.pre; rw [List.length_take] at this; omega
  refine ⟨_, fd, D.gl, F.kp, F.bindsN fun kV doc pm an cdv ct us hl => hbind .none kV doc pm an cdv ct us hl, F.ok S (fun vs H Q E h => ?_) (fun cdv A outer s H vs Q E hr h => ?_)⟩
  · obtain ⟨L, v0, v1, rvs, g, bs, ds, d, rfl, dm, h0, h1, p, hR, _⟩ := h
    rw [List.length_cons, List.length_cons, DpAll.len p]; exact len _ _ _ _ hR
  · obtain ⟨L, v0, v1, rvs, g, bs, ds, d, rfl, dm, h0, h1, p, hR, q⟩ := h
    have hl := len _ _ _ _ hR
    have S0 := sl_start (K := K) (ps := ps) (N := N) (vs := v0 :: v1 :: rvs) (ds := g :: .tuple bs :: ds) dm (.cons h0 (.cons h1.dp p)) (by rw [List.length_cons, List.length_cons]; omega)
    have no : own ((g :: PyData.tuple bs :: ds).map SV.pu ++ List.replicate (N.length - (g :: PyData.tuple bs :: ds).length) SV.un) = [] := by
      unfold own
      rw [List.flatMap_eq_nil_iff]
      intro sv hsv
      rcases List.mem_append.mp hsv with z | z
      · obtain ⟨d, _, rfl⟩ := List.mem_map.mp z; rfl
      · rw [(List.mem_replicate.mp z).2]; rfl
    have S1 := S0.setKp (v := v1) (f := FT K bs) (fun H' z => FT.ex z (by
      show FT K bs (hide (L ++ own _) H) v1
      rw [no, List.append_nil]; exact h1)) 1
    have es : (L2.start N (v0 :: v1 :: rvs)).set 1 (some v1) = L2.start N (v0 :: v1 :: rvs) := rfl
    rw [es] at S1
    have et : ((g :: PyData.tuple bs :: ds).map SV.pu ++ List.replicate (N.length - (g :: PyData.tuple bs :: ds).length) SV.un).set 1 (.kp (FT K bs)) = .pu g :: .kp (FT K bs) :: (ds.map SV.pu ++ List.replicate (N.length - 2 - ds.length) SV.un) := by
      rw [show N.length - (g :: PyData.tuple bs :: ds).length = N.length - 2 - ds.length by rw [List.length_cons, List.length_cons]; omega]
      rfl
    rw [et] at S1
    refine ⟨_, pss_self, (hb _ cdv A outer s H E g bs ds d hr hR).run ⟨L, [], H⟩ _ H _ (fun cls d _ H => E cls d H) (takes_of rfl rfl rfl rfl) S1 fun o ho => ?_⟩
    have hEx : ∀ {σ' : L2.St} {τ' : List SV} {H' : Hp}, Sl K ⟨L, [], H⟩ H' σ' τ' → Ex H H' := fun S' a u e => S'.gr a u (fun z => nomatch z) e
    cases o with
    | rt d' τ' =>
      have e : d' = d := ho
      subst e
      exact fun σ' v H' S' p' => q v H' (hEx S') (Dp.ex (hide_mono fun a z => List.mem_append_left _ z) p')
    | nx τ' =>
      have e : d = .none := ho
      subst e
      exact fun σ' H' S' => q .non H' (hEx S') .non
    | bk τ' => exact False.elim ho
    | ct τ' => exact False.elim ho
    | xc c' τ' => exact False.elim ho
    | rk d' τ' => exact False.elim ho
    | ro i' τ' => exact False.elim ho
end
end DL

set_option maxRecDepth 100000
set_option maxHeartbeats 2000000
/-! DMl: xs[i] += n of an own list. -/
namespace DL
open PySem PySem.Spec PyProof.Rows L2
section
variable {X : Cx} {a b e : Expr} {pos p1 p2 p3 p4 : Pos} {τ τ1 τ2 : List SV} {ds : List PyData} {x : Str} {rest : List Stmt} {R : Out → Prop} {l : Addr}
def rGetN (K : PySem.W.Frag) : V → V → Hp → VK → Prop := fun x y H Q => ∃ p xs i v, x = .ref p ∧ y = .int i ∧ 0 ≤ i ∧ SqL K H p xs ∧ atI xs i = some v ∧ Q v H
theorem get_listN : PGet X (rGetN X.K) := by
  intro pins s σ H o i ov iv Q I ro ri h
  obtain ⟨p, xs, i, z, rfl, rfl, h0, hq, he, q⟩ := h
  cases ro
  obtain ⟨t, rfl⟩ := ri
  obtain ⟨its, r, pl, hz⟩ := I.list hq
  obtain ⟨j, h1, h2, h3, h4, h5⟩ := atI_get he
  obtain ⟨w, ew, rw'⟩ := r.get h2
  have hl := r.length
  have hn := line63
  have hj : i.toNat = j := by
    rw [seqIndex_of h0 h5] at h1
    exact Option.some.inj h1
  exact wpAny_getItem_list pl.isList h0 (by omega) (by rw [hj]; simpa using ew) ⟨z, H, I, rw', q⟩
/-- xs[j] += e -/
theorem SX.augIx (i : Nat) {j : Nat} {v n : Int} (h1 : EV X b τ (.int (j : Int)) τ) (h2 : EV X e τ (.int n) τ) (hj : ds[j]? = some (.int v)) (h : SX X rest (τ.set i (.ow l (ds.set j (.int (v + n))))) R) (hs : τ[i]? = some (.ow l ds) := by rfl) (hw : l ∉ own (τ.set i .un) := by simp [own, ownA]) (hN : X.N[i]? = some x := by rfl)
    (hv : Vis X.env.scope x := by first | exact Or.inl rfl | exact Or.inr (Or.inl rfl) | exact Or.inr (Or.inr rfl)) (hd : (x == ("__debug__" : Str)) = false := by decide) (hcd : (x == ("__classdict__" : Str)) = false := by decide)
    (ha : ∀ ov iv new, augStore b ov iv new = (do holding [new, ov, iv] (setItem ov iv new); release [new, ov, iv] []; pure .next) := by intro _ _ _; rfl) : SX X (.AugAssign (.Subscript (.Name x p1) b p2) .Add e pos :: rest) τ R :=
  SX.seq (ps_augS pe_self pe_self get_listN pe_self ip_add set_list ha) fun C σ H D W tk S k => by
    refine own_run hs hN hv hd hcd S fun xs e1 e2 => ?_
    refine h1.run C σ H _ S fun w H1 g1 S1 q1 => ?_
    cases q1
    obtain ⟨o, z1, z2, ys, z3, z4⟩ := S1.sl i _ hs
    obtain ⟨v1, w1, w2⟩ := DpAll.get z4 hj
    cases w2
    refine ⟨l, ys, (j : Int), .int v, rfl, rfl, by omega, SqL.of z3, atI_nat w1, ?_⟩
    refine h2.run C σ H1 _ S1 fun u H2 g2 S2 q2 => ?_
    cases q2
    obtain ⟨o', y1, y2, ys', y3, y4⟩ := S2.sl i _ hs
    refine ⟨v, n, rfl, rfl, l, ys', (j : Int), j, rfl, rfl, y3, ?_, ?_⟩
    · have hlt := (List.getElem?_eq_some_iff.mp hj).1
      have hlen := DpAll.len y4
      unfold ixN
      rw [if_pos (by omega), if_pos (by omega)]; rfl
    · exact k (.nx _) h _ _ (put_back S2 hs hw (DpAll.set (.int _) j y4))
end
end DL

set_option maxRecDepth 100000
set_option maxHeartbeats 2000000
/-! DMm: a def out of a tuple of any number of defs. -/
namespace DL
open PySem PySem.Spec PyProof.Rows L2
section
variable {X : Cx} {a b c e : Expr} {es : List Expr} {pos p p1 p2 p3 p4 : Pos} {τ τ1 τ2 : List SV} {d : PyData} {ds : List PyData} {x y : Str} {rest : List Stmt} {R : Out → Prop} {k : Nat} {ps : List Str}
theorem EF.is {es' : List PyData} (h : EF X e τ ds τ1) (q : ds = es') : EF X e τ es' τ1 := q ▸ h
theorem EVI.idm {tg : Expr} (h : EVI X tg e τ ds τ1) : EVI X tg e τ (ds.map fun d => d) τ1 := by rw [List.map_id']; exact h
/-- names of defs -/
structure PAF (X : Cx) (es : List Expr) (fs : List Str) : Prop where
  pa : PA X es (fun _ H Q => Q (fs.map fun f => V.ref (He.ga X.K f)) H)
theorem PAF.nil : PAF X [] [] := ⟨pa_nil⟩
theorem PAF.cons {f : Str} {fs : List Str} (m : X.mg f = some (.ref (He.ga X.K f))) (h : PAF X es fs) (g : Gl X f := by rfl) (db : (f == ("__debug__" : Str)) = false := by decide) (s : starEach (.Name f p :: es) X.env = (false, eval (.Name f p) X.env) :: starEach es X.env := by rfl) : PAF X (.Name f p :: es) (f :: fs) :=
  ⟨pa_cons (pe_glob (v := .ref (He.ga X.K f)) g m rfl db) h.pa s⟩
theorem SX.asgFn {kt : Nat} {pt ps' p' : Pos} {fs : List Str} (i : Nat) {j : Int} (ha : PAF X es fs) (h : EV X b τ (.int j) τ) (hf : atI fs j = some x) (hr : SX X rest (τ.set i (.kp (isFn X.K x))) R) (hl : fs.length ≤ sizeLine := by exact Nat.le_of_ble_eq_true rfl)
    (hs : PlainIx b := by exact fun _ _ => rfl) (hN : X.N.Nodup := by assumption) (hi : X.N[i]? = some y := by rfl) (hx : Loc X.env.scope y := by first | exact Or.inl rfl | exact Or.inr rfl)
    (hsw : swapsWith (.Subscript (.Tuple es kt pt) b ps') (some (.Name y p')) pos.line X.env = pure false := by rfl) (hff : X.fn y = true ∨ X.env.scope.names.lookup y = some .local := by first | exact .inl rfl | exact .inr rfl) :
    SX X (.Assign [.Name y p'] (.Subscript (.Tuple es kt pt) b ps') pos :: rest) τ R := by
  refine SX.seq (ps_set hN hi hx (pe_ix (r := rIxT X.K) ix_tup (pe_tup ha.pa) pe_self hs) hsw hff) fun C σ H D W tk S q => ?_
  refine ⟨by rw [List.length_map]; exact hl, fun pA hp => ?_⟩
  have ex : Ex H (upd H pA (.tup (fs.map fun f => V.ref (He.ga X.K f)))) := Ex.new hp
  refine h.run C σ _ _ (S.ex ex) fun v H1 gw S1 p1 => ?_
  cases p1
  have nO : pA ∉ own τ := fun z => (S.dom pA (List.mem_append_right _ z)) hp
  refine ⟨pA, _, j, .ref (He.ga X.K x), rfl, rfl, .inl (.inl (gw _ _ nO upd_same)), ?_, ?_⟩
  · unfold atI at hf ⊢
    rw [List.length_map]
    obtain ⟨n, hn, e⟩ := Option.bind_eq_some_iff.mp hf
    rw [hn]
    show (List.map _ _)[n]? = _
    rw [List.getElem?_map, e]; rfl
  · exact q (.nx _) hr _ _ (S1.setKp (f := isFn X.K x) (v := .ref (He.ga X.K x)) (fun _ _ => rfl) i)
end
end DL

set_option maxRecDepth 100000
set_option maxHeartbeats 2000000
/-! DMn: texts. -/
namespace DL
open PySem PySem.Spec PyProof.Rows L2
section
variable {X : Cx} {a b c e : Expr} {es : List Expr} {pos p p1 p2 p3 ap : Pos} {τ τ1 τ2 τ3 : List SV} {d d1 d2 d3 : PyData} {ds : List PyData} {x y : Str} {rest : List Stmt} {R : Out → Prop} {z z1 z2 : Str} {k : Nat} {ps : List Str}
theorem EV.gstr {i : Str} (hg : Gl X x) (hm : ∃ t, X.mg x = some (.str i t)) (hd : (x == ("__debug__" : Str)) = false := by decide) : EV X (.Name x pos) τ (.str i) τ := by
  obtain ⟨t, ht⟩ := hm
  exact EV.scal (pe_glob (v := .str i) hg ht ⟨t, rfl⟩ hd) fun _ _ => .str i
theorem EV.lenS (hm : X.mg "len" = none) (h : EV X a τ (.str z) τ1) (hz : z.length ≤ sizeLine) (hg : Gl X "len" := by rfl) (he : starEach [a] X.env = (false, eval a X.env) :: starEach [] X.env := by rfl) : EV X (.Call (.Name "len" p) [a] [] pos) τ (.int z.length) τ1 :=
  EV.callB call_len_str hm (EA.cons h EA.nil he) (fun L H vs Q _ hd q => by
    cases hd with
    | cons q1 hd =>
      cases hd
      cases q1
      exact ⟨z, rfl, hz, q _ H (Ex.refl _) (.int _)⟩) hg (he := he) (hpl := rfl)
theorem EV.intS {n : Int} (hm : X.mg "int" = none) (h : EV X a τ (.str z) τ1) (hn : PySem.intText? z = some n) (hz : z.length ≤ 640) (hg : Gl X "int" := by rfl) (he : starEach [a] X.env = (false, eval a X.env) :: starEach [] X.env := by rfl) : EV X (.Call (.Name "int" p) [a] [] pos) τ (.int n) τ1 :=
  EV.callTy call_int_str hm (EA.cons h EA.nil he) (fun L H vs Q _ hd q => by
    cases hd with
    | cons q1 hd =>
      cases hd
      cases q1
      exact ⟨z, n, rfl, hn, hz, q _ H (Ex.refl _) (.int _)⟩) hg (he := he) (hpl := rfl)
theorem EV.strI {n : Int} (hm : X.mg "str" = none) (h : EV X a τ (.int n) τ1) (hz : n.natAbs.log2 < 1920) (hg : Gl X "str" := by rfl) (he : starEach [a] X.env = (false, eval a X.env) :: starEach [] X.env := by rfl) : EV X (.Call (.Name "str" p) [a] [] pos) τ (.str (toString n)) τ1 :=
  EV.callTy call_str_int hm (EA.cons h EA.nil he) (fun L H vs Q _ hd q => by
    cases hd with
    | cons q1 hd =>
      cases hd
      cases q1
      exact ⟨n, rfl, hz, q _ H (Ex.refl _) (.str _)⟩) hg (he := he) (hpl := rfl)
/-- one sign in a text -/
theorem EC.inS {s : Nat} (h1 : EV X a τ (.str ⟨#[s]⟩) τ1) (h2 : EV X b τ1 (.str z) τ2) (hm : behindInMarks .In b = false := by rfl) : EC X .In a b τ (decide (s ∈ z.cps.toList)) τ2 :=
  EC.mk' op_in_sign h1 h2 (fun L H x y Q _ p1 p2 q => by
    cases p1
    cases p2
    exact ⟨s, z, rfl, rfl, q _ H (Ex.refl _) (.bl _)⟩) hm
theorem EC.eqS (hu : X.A.units + 64 < cLine) (h1 : EV X a τ (.str z1) τ1) (h2 : EV X b τ1 (.str z2) τ2) (o1 : PyData.strOk z1 = true) (o2 : PyData.strOk z2 = true) : EC X .Eq a b τ (decide (z1 = z2)) τ2 :=
  EC.is (EC.eq hu h1 h2 (Sh.str o1).ok (Sh.str o2).ok) (eqv_str _ _)
theorem EC.neS (hu : X.A.units + 64 < cLine) (h1 : EV X a τ (.str z1) τ1) (h2 : EV X b τ1 (.str z2) τ2) (o1 : PyData.strOk z1 = true) (o2 : PyData.strOk z2 = true) : EC X .NotEq a b τ (!decide (z1 = z2)) τ2 :=
  EC.is (EC.ne hu h1 h2 (Sh.str o1).ok (Sh.str o2).ok) (by rw [eqv_str])
theorem EV.catS (h1 : EV X a τ (.str z1) τ1) (h2 : EV X b τ1 (.str z2) τ2) (hz : z1.length + z2.length ≤ sizeLine) : EV X (.BinOp a .Add b pos) τ (.str (z1 ++ z2)) τ2 :=
  EV.bin op_add_str h1 h2 fun L H x y Q _ p1 p2 q => by
    cases p1
    cases p2
    exact ⟨z1, z2, rfl, rfl, hz, q _ H (Ex.refl _) (.str _)⟩
theorem EV.slS {lo hi : Option Expr} {l h : Option Int} (h1 : EV X a τ (.str z) τ1) (h2 : EO X lo τ1 l τ2) (h3 : EO X hi τ2 h τ3) (hz : z.length ≤ sizeLine) : EV X (.Subscript a (.Slice lo hi none p2) pos) τ (.str (cutS z l h)) τ3 := by
  obtain ⟨t2, q2, r2⟩ := h2.ex
  obtain ⟨t3, q3, r3⟩ := h3.ex
  exact ⟨(h3.ow.trans h2.ow).trans h1.ow, fun C σ H Q S q => WE.of (pe_slice sl_str pe_self q2 q3) (h1.run C σ H _ S fun v H1 g1 S1 p1 => r2 C σ H1 _ S1 fun H2 g2 S2 => r3 C σ H2 _ S2 fun H3 g3 S3 => by
    cases p1
    have gg : Gw (own τ) H H3 := (g1.trans (h1.ow ▸ g2)).trans ((h2.ow.trans h1.ow) ▸ g3)
    exact ⟨z, rfl, hz, q _ H3 gg S3 (.str _)⟩)⟩
theorem dp_strs {K : PySem.W.Frag} {H : Hp} : ∀ ys : List Str, DpAll K H (ys.map V.str) (ys.map PyData.str)
  | [] => .nil
  | y :: ys => .cons (.str y) (dp_strs ys)
theorem strs_dp {K : PySem.W.Frag} {H : Hp} : ∀ {ys : List Str} {vs : List V}, DpAll K H vs (ys.map PyData.str) → vs = ys.map V.str
  | [], _, h => by cases h; rfl
  | y :: ys, _, h => by
    cases h with
    | cons h1 h2 => cases h1; rw [strs_dp h2]; rfl
theorem EV.split (h1 : EV X a τ (.str z1) τ1) (h2 : EV X b τ1 (.str z2) τ2) (hb : (z2.length == 0) = false) (hz : z1.length + 2 ≤ sizeLine) (hs : starEach [b] X.env = [(false, eval b X.env)] := by rfl) (hbase : attributeBase a "split" X.env (eval a X.env) = eval a X.env := by rfl) (hline : (ap.endLine == pos.line) = true := by rfl) :
    EV X (.Call (.Attribute a "split" ap) [b] [] pos) τ (.list ((Txt.split z1 z2).map PyData.str)) τ2 :=
  ⟨h2.ow.trans h1.ow, fun C σ H Q S q => WE.of (pe_split pe_self pe_self hs hbase hline) (h1.run C σ H _ S fun v H1 g1 S1 q1 => by
    cases q1
    refine ⟨⟨z1, rfl⟩, h2.run C σ H1 _ S1 fun u H2 g2 S2 q2 => ?_⟩
    cases q2
    exact ⟨z1, z2, rfl, rfl, hb, hz, fun r hr => q _ _ ((g1.trans (h1.ow ▸ g2)).trans (Gw.of (Ex.new hr))) (S2.ex (Ex.new hr)) (dp_new hr S2.dom (dp_strs _))⟩)⟩
theorem EV.part (h1 : EV X a τ (.str z1) τ1) (h2 : EV X b τ1 (.str z2) τ2) (hb : (z2.length == 0) = false) (hz : z1.length ≤ sizeLine) (hs : starEach [b] X.env = [(false, eval b X.env)] := by rfl) (hbase : attributeBase a "partition" X.env (eval a X.env) = eval a X.env := by rfl) (hline : (ap.endLine == pos.line) = true := by rfl) :
    EV X (.Call (.Attribute a "partition" ap) [b] [] pos) τ (.tuple [.str (Txt.partition z1 z2).1, .str (Txt.partition z1 z2).2.1, .str (Txt.partition z1 z2).2.2]) τ2 :=
  ⟨h2.ow.trans h1.ow, fun C σ H Q S q => WE.of (pe_partition pe_self pe_self hs hbase hline) (h1.run C σ H _ S fun v H1 g1 S1 q1 => by
    cases q1
    refine ⟨⟨z1, rfl⟩, h2.run C σ H1 _ S1 fun u H2 g2 S2 q2 => ?_⟩
    cases q2
    exact ⟨z1, z2, rfl, rfl, hb, hz, fun r hr => q _ _ ((g1.trans (h1.ow ▸ g2)).trans (Gw.of (Ex.new hr))) (S2.ex (Ex.new hr)) (dp_newT hr S2.dom (.cons (.str _) (.cons (.str _) (.cons (.str _) .nil))))⟩)⟩
theorem EV.join {ys : List Str} (h1 : EV X a τ (.str z1) τ1) (h2 : EV X b τ1 (.list (ys.map PyData.str)) τ2) (hz : (ys.map (·.length)).sum + ys.length * z1.length ≤ 16777216) (hs : starEach [b] X.env = [(false, eval b X.env)] := by rfl) (hbase : attributeBase a "join" X.env (eval a X.env) = eval a X.env := by rfl) (hline : (ap.endLine == pos.line) = true := by rfl) :
    EV X (.Call (.Attribute a "join" ap) [b] [] pos) τ (.str (Txt.join z1 ys)) τ2 :=
  ⟨h2.ow.trans h1.ow, fun C σ H Q S q => WE.of (pe_join pe_self pe_self hs hbase hline) (h1.run C σ H _ S fun v H1 g1 S1 q1 => by
    cases q1
    refine ⟨⟨z1, rfl⟩, h2.run C σ H1 _ S1 fun u H2 g2 S2 q2 => ?_⟩
    cases q2 with
    | @lst l xs _ s1 s2 =>
      rw [strs_dp s2] at s1
      exact ⟨z1, l, ys, rfl, rfl, .inl (sq_ex (hide_ex _ _) s1), hz, q _ H2 (g1.trans (h1.ow ▸ g2)) S2 (.str _)⟩)⟩
/-! ### f-strings -/
inductive EJ (X : Cx) (τ : List SV) : List Expr → List Str → Prop where
  | nil : EJ X τ [] []
  | str {e : Expr} {es : List Expr} {y : Str} {ys : List Str} (h : EV X e τ (.str y) τ) (r : EJ X τ es ys) : EJ X τ (e :: es) (y :: ys)
  | int {e : Expr} {pos : Pos} {es : List Expr} {i : Int} {ys : List Str} (h : EV X e τ (.int i) τ) (hz : i.natAbs.log2 < 1920) (r : EJ X τ es ys) : EJ X τ (.FormattedValue e (-1) none pos :: es) ((toString i : String) :: ys)
def tJ0 (X : Cx) : Expr → TE
  | .FormattedValue e _ _ _ => tFmt (WE X e)
  | e => WE X e
theorem EJ.run (hj : EJ X τ es ys') : ∃ ts, PJ X es ts ∧ ∀ (C : Fc) (σ : L2.St) (acc : Str) (H : Hp) (Q : Str → Hp → Prop), Sl X.K C H σ τ → acc.length + (ys'.map (·.length)).sum ≤ sizeLine → (∀ H', Gw (own τ) H H' → Sl X.K C H' σ τ → Q (ys'.foldl (· ++ ·) acc) H') → tJs ts acc σ H Q := by
  induction hj with
  | nil => exact ⟨[], .nil, fun C σ acc H Q S hz q => q H (Gw.refl _ _) S⟩
  | @str e es y ys h r ih =>
    obtain ⟨ts, pj, run⟩ := ih
    refine ⟨_ :: ts, .cons pe_self pj, fun C σ acc H Q S hz q => h.run C σ H _ S fun v H1 g1 S1 q1 => ?_⟩
    cases q1
    rw [List.map_cons, List.sum_cons] at hz
    have hl : (acc ++ y).length = acc.length + y.length := Str.length_append _ _
    exact ⟨y, rfl, by omega, run C σ (acc ++ y) H1 Q S1 (by omega) fun H' g S' => q H' (g1.trans g) S'⟩
  | @int e pos es i ys h hlog r ih =>
    obtain ⟨ts, pj, run⟩ := ih
    refine ⟨_ :: ts, .cons (pe_fmt pe_self) pj, fun C σ acc H Q S hz q => h.run C σ H _ S fun v H1 g1 S1 q1 => ?_⟩
    cases q1
    rw [List.map_cons, List.sum_cons] at hz
    have hl : (acc ++ Str.ofString (toString i)).length = acc.length + (Str.ofString (toString i)).length := Str.length_append _ _
    exact .inr ⟨i, rfl, hlog, _, rfl, by omega, run C σ _ H1 Q S1 (by omega) fun H' g S' => q H' (g1.trans g) S'⟩
theorem EV.fstr {v1 v2 : Expr} {es : List Expr} {ys : List Str} (h : EJ X τ (v1 :: v2 :: es) ys) (hz : (ys.map (·.length)).sum ≤ sizeLine) : EV X (.JoinedStr (v1 :: v2 :: es) pos) τ (.str (ys.foldl (· ++ ·) Str.empty)) τ := by
  obtain ⟨ts, pj, run⟩ := h.run
  refine ⟨rfl, fun C σ H Q S q => WE.of (pe_joined pj) (run C σ Str.empty H _ S (by show 0 + _ ≤ _; omega) fun H' g S' => q _ H' g S' (.str _))⟩
/-! ### an argument that raises -/
theorem ER.arg1 {R' : List PyData → Res → Prop} {cn : Str} (F : Cal X.prog X.w X.K X.mg X.base k x ps (spP X.K R')) (hr : Room k X.A) (h : ER X a τ cn) (hg : Gl X x := by rfl)
    (hdb : (x == ("__debug__" : Str)) = false := by decide) (he : starEach [a] X.env = (false, eval a X.env) :: starEach [] X.env := by rfl) : ER X (.Call (.Name x p) [a] [] pos) τ cn := by
  obtain ⟨f, fd, hm, hk, hb, G⟩ := F.ex
  exact ⟨fun C σ H Q W tk S q => WE.of (pe_callS G hr hg hm hk hb (fun σ => passAt tk σ) (pa_cons pe_self pa_nil he) hdb he rfl) (h.run C σ H _ W tk S q)⟩
theorem ER.arg2 {R' : List PyData → Res → Prop} {cn : Str} (F : Cal X.prog X.w X.K X.mg X.base k x ps (spP X.K R')) (hr : Room k X.A) (h0 : EV X a τ d τ) (h : ER X b τ cn) (hg : Gl X x := by rfl)
    (hdb : (x == ("__debug__" : Str)) = false := by decide) (he : starEach [a, b] X.env = (false, eval a X.env) :: starEach [b] X.env := by rfl) (he2 : starEach [b] X.env = (false, eval b X.env) :: starEach [] X.env := by rfl) (hpl : (backTo pos (starEach [b] X.env)).any (·.1) = false := by rfl) : ER X (.Call (.Name x p) [a, b] [] pos) τ cn := by
  obtain ⟨f, fd, hm, hk, hb, G⟩ := F.ex
  exact ⟨fun C σ H Q W tk S q => WE.of (pe_callS G hr hg hm hk hb (fun σ => passAt tk σ) (pa_cons pe_self (pa_cons pe_self pa_nil he2) he) hdb he hpl) (h0.run C σ H _ S fun v H1 g1 S1 p1 => h.run C σ H1 _ W tk S1 q)⟩
/-- xs[::-1] of a list -/
theorem EV.revL {k : Nat} (h : EV X e τ (.list ds) τ1) : EV X (.Subscript e (.Slice none none (some (.UnaryOp .USub (.Constant (.int 1) k p1) p2)) p3) pos) τ (.list ds.reverse) τ1 :=
  ⟨h.ow, fun C σ H Q S q => WE.of (pe_revL pe_self) (h.run C σ H _ S fun v H1 g1 S1 q1 => by
    cases q1 with
    | @lst l xs _ s1 s2 =>
      refine ⟨l, xs, rfl, sq_ex (hide_ex _ _) s1, fun r hr => q _ _ (g1.trans (Gw.of (Ex.new hr))) (S1.ex (Ex.new hr)) (dp_new hr S1.dom (DpAll.rev s2))⟩)⟩
end
end DL

set_option maxRecDepth 100000
set_option maxHeartbeats 2000000
/-! SpM: trimmed; counts by places. -/
namespace K
open PySem L2 DL
def lessM (bk : List (List Int)) (t : List Int) : List (List Int) := bk.filter fun u => !decide (u = t)
def trimStep (n p m : Int) (bk : List (List Int)) (t : List Int) : List (List Int) := if aloneM n p m bk t = 0 then lessM bk t else bk
def trimM (n p m : Int) (book : List (List Int)) : List (List Int) := book.reverse.foldl (trimStep n p m) book
def R_trimmed (g : PyData) (bs ds : List PyData) (d : PyData) : Prop := ∃ (n k p m : Int) (book : List (List Int)), Valid n k p m ∧ isGoodD n k (eTT book) = true ∧ g = eT [n, k, p, m] ∧ bs = book.map eT ∧ ds = [] ∧ d = eTT (trimM n p m book)
theorem less_mem {bk : List (List Int)} {t u : List Int} : u ∈ lessM bk t ↔ u ∈ bk ∧ u ≠ t := by
  unfold lessM
  rw [List.mem_filter]
  simp
theorem trimStep_sub (n p m : Int) (bk : List (List Int)) (t : List Int) : (trimStep n p m bk t).Sublist bk := by
  unfold trimStep
  split
  · exact List.filter_sublist
  · exact List.Sublist.refl _
theorem trim_sub (n p m : Int) : ∀ (L bk : List (List Int)), (L.foldl (trimStep n p m) bk).Sublist bk
  | [], bk => List.Sublist.refl _
  | t :: L, bk => (trim_sub n p m L (trimStep n p m bk t)).trans (trimStep_sub n p m bk t)
theorem trim_keep {n p m : Int} {t : List Int} : ∀ (L bk : List (List Int)), t ∉ L → t ∈ bk → t ∈ L.foldl (trimStep n p m) bk
  | [], bk, _, h => h
  | u :: L, bk, hL, h => by
    refine trim_keep L _ (fun z => hL (List.mem_cons_of_mem _ z)) ?_
    unfold trimStep
    split
    · exact less_mem.mpr ⟨h, fun e => hL (e ▸ List.mem_cons_self)⟩
    · exact h
theorem take_not {xs : List (List Int)} {i : Nat} {t : List Int} (h : xs.Nodup) (ht : xs[i]? = some t) : t ∉ xs.take i := fun z => by
  obtain ⟨j, hj, e⟩ := List.mem_iff_getElem.mp z
  rw [List.length_take] at hj
  obtain ⟨hi, ei⟩ := List.getElem?_eq_some_iff.mp ht
  rw [List.getElem_take] at e
  have := (List.getElem_inj h).mp (e.trans ei.symm)
  omega
theorem nodup_rev {xs : List (List Int)} (h : xs.Nodup) : xs.reverse.Nodup := by
  unfold List.Nodup at *
  rw [List.pairwise_reverse]
  exact h.imp fun e => Ne.symm e
theorem trim_at {n p m : Int} {book : List (List Int)} {i : Nat} {t : List Int} (h : book.Nodup) (ht : book.reverse[i]? = some t) : t ∈ (book.reverse.take i).foldl (trimStep n p m) book :=
  trim_keep _ _ (take_not (nodup_rev h) ht) (List.mem_reverse.mp (List.mem_of_getElem? ht))
theorem idx_at {α : Type} [DecidableEq α] {bk : List α} {t : α} (f : α → Int) (h : t ∈ bk) : atI ((bk.map f).map PyData.int) ((bk.idxOf t : Nat) : Int) = some (.int (f t)) := by
  refine atI_nn ?_
  rw [List.getElem?_map, List.getElem?_map, List.getElem?_eq_getElem (List.idxOf_lt_length_iff.mpr h), List.getElem_idxOf]; rfl
/-! ### what a ticket holds alone, and what escapes without it -/
theorem alone_zero {n p m : Int} {bk : List (List Int)} {t : List Int} : aloneM n p m bk t = 0 ↔ ∀ d, d ∈ ticketsM n p → holdersM m bk d ≠ [t] := by
  unfold aloneM cntM
  rw [show (((ticketsM n p).countP (soleM m bk t) : Nat) : Int) = 0 ↔ (ticketsM n p).countP (soleM m bk t) = 0 by omega, List.countP_eq_zero]
  refine forall_congr' fun d => imp_congr_right fun _ => ?_
  unfold soleM
  rw [decide_eq_true_eq]
theorem only_one {xs : List (List Int)} {t : List Int} (h : xs.Nodup) (ht : t ∈ xs) (ha : ∀ u, u ∈ xs → u = t) : xs = [t] := by
  match xs, h, ht, ha with
  | [x], _, _, ha => rw [ha x List.mem_cons_self]
  | x :: y :: r, h, _, ha =>
    rw [List.nodup_cons] at h
    exact absurd (by rw [ha x List.mem_cons_self, ← ha y (List.mem_cons_of_mem _ List.mem_cons_self)]; exact List.mem_cons_self) h.1
theorem hold_other {m : Int} {bk : List (List Int)} {t d : List Int} (h : bk.Nodup) (ht : t ∈ bk) (hh : holdsM m t d = true) (hne : holdersM m bk d ≠ [t]) : ∃ u, u ∈ bk ∧ u ≠ t ∧ holdsM m u d = true := by
  refine Classical.byContradiction fun z => hne (only_one (h.sublist List.filter_sublist) (List.mem_filter.mpr ⟨ht, hh⟩) fun u hu => Classical.byContradiction fun e => z ⟨u, (List.mem_filter.mp hu).1, e, (List.mem_filter.mp hu).2⟩)
theorem less_esc {n p m : Int} {bk : List (List Int)} {t : List Int} (h : bk.Nodup) (ht : t ∈ bk) : aloneM n p m bk t = 0 ↔ escM n p m (lessM bk t) = escM n p m bk := by
  rw [alone_zero]
  constructor
  · intro q
    unfold escM
    refine List.filter_congr fun d hd => ?_
    congr 1
    rw [Bool.eq_iff_iff, List.any_eq_true, List.any_eq_true]
    constructor
    · rintro ⟨u, hu, e⟩
      exact ⟨u, (less_mem.mp hu).1, e⟩
    · rintro ⟨u, hu, e⟩
      by_cases eq : u = t
      · subst eq
        obtain ⟨v, h1, h2, h3⟩ := hold_other h ht e (q d hd)
        exact ⟨v, less_mem.mpr ⟨h1, h2⟩, h3⟩
      · exact ⟨u, less_mem.mpr ⟨hu, eq⟩, e⟩
  · intro q d hd e
    have h1 : d ∈ escM n p m (lessM bk t) := mem_esc.mpr ⟨hd, fun u hu => by
      obtain ⟨hu1, hu2⟩ := less_mem.mp hu
      cases hh : holdsM m u d with
      | false => rfl
      | true =>
        have : u ∈ holdersM m bk d := List.mem_filter.mpr ⟨hu1, hh⟩
        rw [e, List.mem_singleton] at this
        exact absurd this hu2⟩
    rw [q] at h1
    have h2 := (mem_esc.mp h1).2 t ht
    have h3 : t ∈ holdersM m bk d := by rw [e]; exact List.mem_singleton.mpr rfl
    rw [(List.mem_filter.mp h3).2] at h2
    cases h2
theorem step_esc {n p m : Int} {bk : List (List Int)} {t : List Int} (h : bk.Nodup) (ht : t ∈ bk) : escM n p m (trimStep n p m bk t) = escM n p m bk := by
  unfold trimStep
  split
  · rename_i e
    exact (less_esc h ht).mp e
  · rfl
/-- the rows still to come stand in the book -/
theorem trim_esc {n p m : Int} : ∀ (L bk : List (List Int)), bk.Nodup → L.Nodup → (∀ t, t ∈ L → t ∈ bk) → escM n p m (L.foldl (trimStep n p m) bk) = escM n p m bk
  | [], _, _, _, _ => rfl
  | t :: L, bk, h, hL, hs => by
    rw [List.nodup_cons] at hL
    have h1 := step_esc (n := n) (p := p) (m := m) h (hs t List.mem_cons_self)
    have := trim_esc (n := n) (p := p) (m := m) L (trimStep n p m bk t) (h.sublist (trimStep_sub n p m bk t)) hL.2 (fun u hu => trim_keep (n := n) (p := p) (m := m) [t] bk (fun z => by rw [List.mem_singleton.mp z] at hu; exact hL.1 hu) (hs u (List.mem_cons_of_mem _ hu)))
    exact this.trans h1
theorem trimM_esc {n p m : Int} {book : List (List Int)} (h : book.Nodup) : escM n p m (trimM n p m book) = escM n p m book := trim_esc _ _ h (nodup_rev h) fun _ ht => List.mem_reverse.mp ht
theorem trim_esc_take {n p m : Int} {book : List (List Int)} (h : book.Nodup) (i : Nat) : escM n p m ((book.reverse.take i).foldl (trimStep n p m) book) = escM n p m book :=
  trim_esc _ _ h ((nodup_rev h).sublist (List.take_sublist _ _)) fun _ ht => List.mem_reverse.mp (List.take_subset _ _ ht)
/-- alone in a book, alone in a lesser one -/
theorem alone_sub {n p m : Int} {bk b2 : List (List Int)} {t : List Int} (hs : b2.Sublist bk) (hn : bk.Nodup) (ht : t ∈ b2) (h : aloneM n p m bk t ≠ 0) : aloneM n p m b2 t ≠ 0 := fun z => h (alone_zero.mpr fun d hd e => by
  refine alone_zero.mp z d hd ?_
  have h3 : t ∈ holdersM m bk d := by rw [e]; exact List.mem_singleton.mpr rfl
  refine only_one ((hn.sublist hs).sublist List.filter_sublist) (List.mem_filter.mpr ⟨ht, (List.mem_filter.mp h3).2⟩) fun u hu => ?_
  have : u ∈ holdersM m bk d := List.mem_filter.mpr ⟨hs.subset (List.mem_filter.mp hu).1, (List.mem_filter.mp hu).2⟩
  rw [e] at this
  exact List.mem_singleton.mp this)
theorem trim_alone {n p m : Int} {t : List Int} : ∀ (L bk : List (List Int)), bk.Nodup → L.Nodup → t ∈ L → t ∈ L.foldl (trimStep n p m) bk → aloneM n p m (L.foldl (trimStep n p m) bk) t ≠ 0
  | [], _, _, _, h, _ => nomatch h
  | u :: L, bk, h, hL, hm, ht => by
    rw [List.nodup_cons] at hL
    have hn := h.sublist (trimStep_sub n p m bk u)
    rcases List.mem_cons.mp hm with e | hm
    · subst e
      refine alone_sub (trim_sub n p m L _) hn ht ?_
      have h1 : t ∈ trimStep n p m bk t := (trim_sub n p m L _).subset ht
      unfold trimStep at h1 ⊢
      split at h1
      · exact absurd rfl (less_mem.mp h1).2
      · rename_i e
        rw [if_neg e]; exact e
    · exact trim_alone L _ hn hL.2 hm ht
theorem trim_needless {n p m : Int} {book : List (List Int)} (h : book.Nodup) : needlessM n p m (trimM n p m book) = [] := by
  unfold needlessM
  rw [List.filter_eq_nil_iff]
  intro t ht e
  exact trim_alone _ _ h (nodup_rev h) (List.mem_reverse.mpr ((trim_sub n p m _ _).subset ht)) ht (of_decide_eq_true e)
/-! ### counts by places -/
def cntsM {α : Type} (N : Nat) (g : α → Option Nat) (xs : List α) : List Int := (List.range N).map fun j => ((xs.countP fun x => decide (g x = some j) : Nat) : Int)
theorem cnts_len {α : Type} (N : Nat) (g : α → Option Nat) (xs : List α) : (cntsM N g xs).length = N := by simp [cntsM]
theorem cnts_get {α : Type} {N : Nat} {g : α → Option Nat} {xs : List α} {j : Nat} (h : j < N) : (cntsM N g xs)[j]? = some ((xs.countP fun x => decide (g x = some j) : Nat) : Int) := by
  unfold cntsM
  rw [List.getElem?_map, List.getElem?_range h]; rfl
theorem cnts_nil {α : Type} (N : Nat) (g : α → Option Nat) : cntsM N g ([] : List α) = List.replicate N 0 := by
  unfold cntsM
  rw [List.eq_replicate_iff]
  refine ⟨by simp, fun b hb => ?_⟩
  obtain ⟨j, _, rfl⟩ := List.mem_map.mp hb
  rfl
theorem cnts_some {α : Type} {N : Nat} {g : α → Option Nat} {xs : List α} {x : α} {j : Nat} (h : g x = some j) (hj : j < N) : cntsM N g (xs ++ [x]) = (cntsM N g xs).set j (((xs.countP fun x => decide (g x = some j) : Nat) : Int) + 1) := by
  refine List.ext_getElem? fun i => ?_
  by_cases hi : i < N
  · rw [cnts_get hi, List.countP_append, List.countP_cons, List.countP_nil, h]
    by_cases e : j = i
    · subst e
      rw [List.getElem?_set_self (by rw [cnts_len]; exact hj)]
      simp
    · rw [List.getElem?_set_ne e, cnts_get hi]
      simp [e]
  · rw [List.getElem?_eq_none (by rw [cnts_len]; omega), List.getElem?_eq_none (by rw [List.length_set, cnts_len]; omega)]
theorem cnts_none {α : Type} {N : Nat} {g : α → Option Nat} {xs : List α} {x : α} (h : ∀ j, g x ≠ some j) : cntsM N g (xs ++ [x]) = cntsM N g xs := by
  unfold cntsM
  refine List.map_congr_left fun j _ => ?_
  rw [List.countP_append, List.countP_cons, List.countP_nil, decide_eq_false (h j)]
  simp
/-- how many draws just so many tickets hold -/
def oftM (n p m : Int) (book : List (List Int)) : List Int := cntsM (book.length + 1) (fun d => some (holdersM m book d).length) (ticketsM n p)
def R_how_often : List PyData → Res → Prop := looked fun n k p m book => eT (oftM n p m book)
theorem flatten_one {α : Type} (x : α) : ∀ n : Nat, (List.replicate n [x]).flatten = List.replicate n x
  | 0 => rfl
  | n + 1 => by rw [List.replicate_succ, List.flatten_cons, flatten_one x n, List.replicate_succ]; rfl
def R_lbookK (script T : List Int) (ds es : List PyData) (T' : List Int) : Prop := ∃ n k p m most : Int, Valid n k p m ∧ (0 ≤ most ∧ most ≤ 9) ∧ TOk script T 100 ∧ script.length ≤ 63 ∧ ds = [eT [n, k, p, m], .int most] ∧ es = (lbookM script T n k most).1.map eT ∧ T' = (lbookM script T n k most).2
def R__law_held (ds : List PyData) (r : Res) : Prop := ∃ (n k p m : Int) (t : List Int), Valid n k p m ∧ t.length ≤ 1000 ∧ ds = [eT [n, k, p, m], eT t] ∧ r = .ok (eLT ((ticketsM n p).filter (holdsM m t)))
def R__law_trimmed (g : PyData) (bs ds : List PyData) (d : PyData) : Prop := ∃ (n k p m : Int) (book : List (List Int)), Valid n k p m ∧ IsBook n k book ∧ book.length ≤ 20 ∧ g = eT [n, k, p, m] ∧ bs = book.map eT ∧ ds = [eLT (escM n p m book)] ∧ d = .bool true
end K
namespace K
open PySem L2 DL
def R_least_bookK (ds es : List PyData) : Prop := ∃ n k p m : Int, Valid n k p m ∧ n ≤ 6 ∧ ds = [eT [n, k, p, m]] ∧ es = (bookM n k p m).map eT
def canStep (m : Int) (can : List (List Int) → Bool) (left : List (List Int)) (t : List Int) : Bool := holdsM m t (left.headD []) && can (left.filter fun d => !holdsM m t d)
def canM (m : Int) (ts : List (List Int)) : Nat → List (List Int) → Bool
  | 0, left => decide (left = [])
  | j + 1, left => if left = [] then true else ts.any (canStep m (canM m ts j) left)
def R__law_can (J : Nat) (ds : List PyData) (r : Res) : Prop := ∃ (n k p m : Int) (left : List (List Int)) (j : Nat), Valid n k p m ∧ j ≤ J ∧ left.length ≤ 512 ∧ ds = [eT [n, k, p, m], eLT left, .int (j : Int)] ∧ r = .ok (.bool (canM m (ticketsM n k) j left))
end K

set_option maxRecDepth 100000
set_option maxHeartbeats 4000000
/-! DOa: dicts as data (their object is known): walked by keys, by items. -/
namespace DL
open PySem PySem.Spec PyProof.Rows L2
section
variable {a : Addr} {o : Obj} {es : Array DictEntry} {ep : Nat} {ks vs : List V} {kds : List PyData}
theorem DcO.lk (hc : DcO a o es ep ks vs kds) : ks.length = es.size := by have := hc.rk.length; rw [List.length_map, Array.length_toList] at this; exact this
theorem DcO.lv (hc : DcO a o es ep ks vs kds) : vs.length = es.size := by have := hc.rv.length; rw [List.length_map, Array.length_toList] at this; exact this
theorem DcO.key (hc : DcO a o es ep ks vs kds) {i : Nat} (hi : i < es.size) : ∃ k, ks[i]? = some k ∧ RelV k es[i].key := by
  have h1 : i < ks.length := by rw [hc.lk]; exact hi
  obtain ⟨u, hu, ru⟩ := hc.rk.get (List.getElem?_eq_getElem h1)
  refine ⟨ks[i], List.getElem?_eq_getElem h1, ?_⟩
  rw [List.getElem?_map, Array.getElem?_toList, Array.getElem?_eq_getElem hi] at hu
  have e : es[i].key = u := Option.some.inj hu
  rw [e]; exact ru
theorem DcO.val (hc : DcO a o es ep ks vs kds) {i : Nat} (hi : i < es.size) : ∃ k, vs[i]? = some k ∧ RelV k es[i].val := by
  have h1 : i < vs.length := by rw [hc.lv]; exact hi
  obtain ⟨u, hu, ru⟩ := hc.rv.get (List.getElem?_eq_getElem h1)
  refine ⟨vs[i], List.getElem?_eq_getElem h1, ?_⟩
  rw [List.getElem?_map, Array.getElem?_toList, Array.getElem?_eq_getElem hi] at hu
  have e : es[i].val = u := Option.some.inj hu
  rw [e]; exact ru
theorem inv_raw {X : Cx} {pins : List (Addr × Obj)} {σ : L2.St} {H : Hp} {s : Shared} (I : Inv X pins σ H s) (hf : H a = some (.frz o anyO)) (hc : DcO a o es ep ks vs kds) : s.heap.DictRaw a es ep := ⟨o, (I.hok _ _ hf).1, hc.ex, hc.dt⟩
end
/-! ### the walks -/
def ItK (a : Addr) (o : Obj) (ks : List V) : It :=
  ⟨fun i H => H a = some (.frz o anyO) ∧ i < ks.length, fun i H x H' => H' = H ∧ ks[i]? = some x, fun i H => H a = some (.frz o anyO) ∧ ks.length ≤ i⟩
def ItP (a : Addr) (o : Obj) (ks vs : List V) : It :=
  ⟨fun i H => H a = some (.frz o anyO) ∧ i < ks.length, fun i H x H' => ∃ T k v, x = .ref T ∧ H T = none ∧ H' = upd H T (.tup [k, v]) ∧ ks[i]? = some k ∧ vs[i]? = some v, fun i H => H a = some (.frz o anyO) ∧ ks.length ≤ i⟩
section
variable {P : Program} {w : World} {K : PySem.W.Frag} {tg : Expr} {a : Addr} {o : Obj} {es : Array DictEntry} {ep : Nat} {ks vs : List V} {kds : List PyData}
theorem turn_keysR (it : Addr) (hc : DcO a o es ep ks vs kds) : Turn P w K tg (ItK a o ks) [it] it (fun i h => h.IsKeyIter it a i es.size ep) where
  mem := by simp
  obj := fun i h st b hb => by
    have e : b = it := by simpa using hb
    subst e
    obtain ⟨oi, e, c, dd⟩ := st
    exact ⟨oi, e, fun v z => by rw [dd] at z; cases z⟩
  keep := fun i h h' st k => st.at fun oi e => k it (by simp) oi e
  item := by
    intro X hP hw hK hcm i pins s σ H E I hf st hg
    subst hP hw hK
    obtain ⟨hd, hi⟩ := hg
    obtain ⟨f0, f1, f2, f3, f4, f5⟩ := hf it (by simp)
    have hi' : i < es.size := by rw [← hc.lk]; exact hi
    refine wpAny_pyNext_keys_item_raw st (inv_raw I hd hc) hi' fun h' st' sb => ?_
    have I1 : Inv X pins σ H { s with heap := h' } := I.turned (t' := s.toks) (fun b ob hb e => (sb.2 b hb).trans e) f0 f1 f3 f4 f5
    obtain ⟨oi, e, c, dd⟩ := id st'
    obtain ⟨k, hk, rk⟩ := hc.key hi'
    exact ⟨es[i].key, rfl, go_of (s := { s with heap := h' }) e c dd (by decide) ⟨k, H, I1, rk, ⟨rfl, hk⟩, st', fun b hb => (hf b hb).1⟩⟩
  done := by
    intro X hP hw hK hcm i pins s σ H E I hf st hg
    subst hP hw hK
    obtain ⟨hd, hi⟩ := hg
    obtain ⟨f0, f1, f2, f3, f4, f5⟩ := hf it (by simp)
    exact wpAny_pyNext_keys_end_raw (I.ok.hd hcm) st (inv_raw I hd hc) (by rw [← hc.lk]; exact hi) fun h' eb => ⟨rfl, I.turned (t' := s.toks) (fun b ob hb e => eb b ob hb e) f0 f1 f3 f4 f5⟩
  self := fun A i s Q E st h => by
    refine wpAny_pyIter_slot st.typeIs F.slot_dict_keyiterator_iter (wpAny_call_entry F.slot_dict_keyiterator_iter st.typeIs F.entry_dict_keyiterator_iter ?_ (F.args_dict_keyiterator_iter_1 _))
    show wpAny _ _ (PySem.ret (.ref it)) _ _ s
    exact wpAny_pure ⟨_, rfl, "dict_keyiterator", _, st.typeIs, F.slot_dict_keyiterator_next.lookup, h⟩
theorem turn_itemsR {elts : List Expr} {kk : Nat} {tpos : Pos} (it : Addr) (hc : DcO a o es ep ks vs kds) :
    Turn P w K (.Tuple elts kk tpos) (ItP a o ks vs) [it] it (fun i h => ∃ ok ov, IsItemIter h it a i es.size ep ok ov) where
  mem := by simp
  obj := fun i h st b hb => by
    have e : b = it := by simpa using hb
    subst e
    obtain ⟨ok, ov, e⟩ := st
    exact ⟨_, e, fun v z => nomatch z⟩
  keep := fun i h h' st k => let ⟨ok, ov, e⟩ := st; ⟨ok, ov, k it (by simp) _ e⟩
  item := by
    intro X hP hw hK hcm i pins s σ H E I hf st hg
    subst hP hw hK
    obtain ⟨hd, hi⟩ := hg
    have hi' : i < es.size := by rw [← hc.lk]; exact hi
    obtain ⟨k, hk, rk⟩ := hc.key hi'
    obtain ⟨v, hv, rv⟩ := hc.val hi'
    obtain ⟨ok, ov, he⟩ := st
    have hlt : it < s.heap.objs.size := Heap.lt_size he
    refine wpAny_pyNext_items_item_raw he (inv_raw I hd hc) hi' fun h' ho hT hz hkp => ?_
    refine ⟨_, rfl, wpAny_letOwnedTupleGo_items (s := { s with heap := h' }) ho fun h'' he' sb => ?_⟩
    have hT2 : h''.get? s.heap.objs.size = some { cls := .type "tuple", data := .seq #[es[i].key, es[i].val] } := (sb.2 _ (Nat.ne_of_gt hlt)).trans hT
    have new : ObjOk X.prog X.w (upd H s.heap.objs.size (.tup [k, v])) h'' s.heap.objs.size (.tup [k, v]) :=
      ⟨by show 2 ≤ sizeLine; decide, [es[i].key, es[i].val], .cons rk (.cons rv .nil), ⟨_, hT2, rfl, _, rfl⟩⟩
    have I1 : Inv X pins σ (upd H s.heap.objs.size (.tup [k, v])) { s with heap := h'' } :=
      I.turnedNew (t' := s.toks) (ch := [it]) (fun b ob hb e => (sb.2 b (by simpa using hb)).trans (hkp b ob (by simpa using hb) e)) hf (Nat.le_refl _) new
    refine ⟨.ref s.heap.objs.size, _, I1, rfl, ⟨_, k, v, rfl, I.hok.fresh (Nat.le_refl _), rfl, hk, hv⟩, ⟨es[i].key, es[i].val, he'⟩, fun b hb => ?_⟩
    have e : b = it := by simpa using hb
    rw [e, upd_ne (Nat.ne_of_lt hlt)]
    exact (hf it (by simp)).1
  done := by
    intro X hP hw hK hcm i pins s σ H E I hf st hg
    subst hP hw hK
    obtain ⟨hd, hi⟩ := hg
    obtain ⟨f0, f1, f2, f3, f4, f5⟩ := hf it (by simp)
    obtain ⟨ok, ov, he⟩ := st
    exact wpAny_pyNext_items_end_raw (I.ok.hd hcm) he (inv_raw I hd hc) (by rw [← hc.lk]; exact hi) fun h' eb => ⟨rfl, I.turned (t' := s.toks) (fun b ob hb e => eb b ob hb e) f0 f1 f3 f4 f5⟩
  self := fun A i s Q E st h => let ⟨_, _, e⟩ := st; PySem.W.kcp_self e h
end
def iKeysR (td : TE) : TI := fun σ H R => td σ H fun x H1 => ∃ (a : Addr) (o : Obj) (es : Array DictEntry) (ep : Nat) (ks vs : List V) (kds : List PyData), x = .ref a ∧ H1 a = some (.frz o anyO) ∧ DcO a o es ep ks vs kds ∧ R (ItK a o ks) H1
def iItemsR (td : TE) : TI := fun σ H R => td σ H fun x H1 => ∃ (a : Addr) (o : Obj) (es : Array DictEntry) (ep : Nat) (ks vs : List V) (kds : List PyData), x = .ref a ∧ H1 a = some (.frz o anyO) ∧ DcO a o es ep ks vs kds ∧ R (ItP a o ks vs) H1
section
variable {X : Cx} {tg e : Expr} {td : TE} {apos cpos : Pos}
theorem pi_keysR (he : PE X e td) : PI X tg e (iKeysR td) := by
  refine ⟨fun pins s σ H R I h => ?_⟩
  refine thn (he.run pins s σ H _ I h) fun u s1 ⟨x, H1, I1, rx, a, o, es, ep, ks, vs, kds, ex, hd, hc, q⟩ => ?_
  subst ex
  obtain rfl : u = Value.ref a := rx
  exact wpAny_pyIter_dict_raw hc.sm (inv_raw I1 hd hc) (pi_one (tk := s1.toks) I1 _ (turn_keysR _ hc) ⟨_, Heap.get?_push_size _ rfl, rfl, rfl⟩ q)
theorem pi_itemsR {elts : List Expr} {kk : Nat} {tpos : Pos} (he : PE X e td) (hbase : attributeBase e "items" X.env (eval e X.env) = eval e X.env := by rfl) (hline : (apos.endLine == cpos.line) = true := by rfl) :
    PI X (.Tuple elts kk tpos) (.Call (.Attribute e "items" apos) [] [] cpos) (iItemsR td) := by
  refine ⟨fun pins s σ H R I h => ?_⟩
  refine wpAny_Call_method (T := "dict") (id := "dict.items") hbase rfl hline F.plainAttrs_dict F.slot_dict_items F.type_dict_items (thn (he.run pins s σ H _ I h) fun u s1 ⟨x, H1, I1, rx, a, o, es, ep, ks, vs, kds, ex, hd, hc, q⟩ => ?_)
  subst ex
  obtain rfl : u = Value.ref a := rx
  have hr := inv_raw I1 hd hc
  refine ⟨hr.typeIs, fun b e => ?_, ?_⟩
  · cases e
    obtain ⟨ob, h1, h2, _⟩ := hr
    exact ⟨ob, h1, h2.2.1⟩
  have I2 : Inv X pins σ H1 { s1 with heap := s1.heap.push { cls := .type "dict_items", data := .fields #[.ref a] } } := I1.kept (t' := s1.toks) fun b ob q => Heap.get?_push_of_some _ q
  have fin : wpAny (model X.prog X.w) X.A (pyIter (.ref s1.heap.objs.size)) (PIE X pins σ (.Tuple elts kk tpos) R) X.xe { s1 with heap := s1.heap.push { cls := .type "dict_items", data := .fields #[.ref a] } } :=
    wpAny_pyIter_items_raw (d := a) ⟨_, Heap.get?_push_size _ rfl, rfl, rfl⟩ (hr.at fun o e => Heap.get?_push_of_some _ e) (pi_one (tk := s1.toks) I2 _ (turn_itemsR _ hc) ⟨.none, .none, Heap.get?_push_size _ rfl⟩ q)
  show wpAny _ _ (callWith cpos (.builtin "dict.items") [.ref a] [] []) _ X.xe s1
  exact method_meetsIn F.slot_dict_items F.entry_dict_items rfl (PySem.evalArgs_none ⟨rfl, hr.typeIs, F.args_dict_items_1 _, _, meets_dict_items_raw a hc.sm, ⟨es, ep, hr⟩, fin⟩)
end
section
variable {X : Cx} {e tg : Expr} {elts : List Expr} {kk : Nat} {tpos apos cpos : Pos} {τ τ1 : List SV} {kvs : List (PyData × PyData)}
/-- for k in d -/
theorem EVI.keysD (h : EV X e τ (.dict kvs) τ1) : EVI X tg e τ (kvs.map (·.1)) τ1 := ⟨h.ow, _, pi_keysR pe_self, fun C σ H R S q => h.run C σ H _ S fun v H1 g1 S1 p1 => by
  cases p1 with
  | @dic a o es ep ks vs _ hf hc ha hb =>
    refine ⟨a, o, es, ep, ks, vs, _, rfl, hide_ex _ _ _ _ hf, hc, q _ H1 g1 S1 ⟨fun H => H a = some (.frz o anyO), YAt ks, ?_, fun H2 g => ?_, ?_⟩⟩
    · rw [← DpAll.len ha]
      exact ⟨fun i H hi hg => ⟨hg, hi⟩, fun H hg => ⟨hg, Nat.le_refl _⟩, fun i H x H' _ _ y => y⟩
    · exact g a _ (fun y => (hide_some hf).1 (List.mem_append_right _ y)) (hide_some hf).2
    · rintro i d H2 x H3 L hd g ⟨rfl, hx⟩ hL dm
      refine ⟨Ex.refl _, ?_⟩
      obtain ⟨v, h1, h2⟩ := DpAll.get ha hd
      rw [hx] at h1
      have e : x = v := Option.some.inj h1
      rw [e]
      exact Dp.ex (ex_part hL g fun a z => List.mem_append_right _ z) h2⟩
/-- for k, v in d.items() -/
theorem EVI.itemsD (h : EV X e τ (.dict kvs) τ1) (hbase : attributeBase e "items" X.env (eval e X.env) = eval e X.env := by rfl) (hline : (apos.endLine == cpos.line) = true := by rfl) :
    EVI X (.Tuple elts kk tpos) (.Call (.Attribute e "items" apos) [] [] cpos) τ (zipD (kvs.map (·.1)) (kvs.map (·.2))) τ1 := ⟨h.ow, _, pi_itemsR pe_self hbase hline, fun C σ H R S q => h.run C σ H _ S fun v H1 g1 S1 p1 => by
  cases p1 with
  | @dic a o es ep ks vs _ hf hc ha hb =>
    refine ⟨a, o, es, ep, ks, vs, _, rfl, hide_ex _ _ _ _ hf, hc, q _ H1 g1 S1 (wk_zip (G := fun H => H a = some (.frz o anyO)) ?_ (fun H2 g => ?_) ha hb)⟩
    · have : min ks.length vs.length = ks.length := by rw [hc.lk, hc.lv]; exact Nat.min_self _
      rw [this]
      exact ⟨fun i H hi hg => ⟨hg, hi⟩, fun H hg => ⟨hg, Nat.le_refl _⟩, fun i H x H' _ _ y => y⟩
    · exact g a _ (fun y => (hide_some hf).1 (List.mem_append_right _ y)) (hide_some hf).2⟩
theorem zipD_kv {α : Type} (f g : α → PyData) : ∀ l : List α, zipD ((l.map fun x => (f x, g x)).map (·.1)) ((l.map fun x => (f x, g x)).map (·.2)) = l.map fun x => .tuple [f x, g x]
  | [] => rfl
  | x :: l => by
    have := zipD_kv f g l
    unfold zipD at this ⊢
    simp only [List.map_cons, List.zip_cons_cons]
    rw [this]
end
end DL

set_option maxRecDepth 100000
set_option maxHeartbeats 4000000
/-! DOb: dicts as data: made of a list of pairs, written, looked up. -/
namespace DL
open PySem PySem.Spec PyProof.Rows L2
/-! ### keys: tuples of ints -/
def nkT (ns : List Int) : NestedKey := .tup (ns.map .num)
theorem nk_hashes (w : World) : ∀ ns : List Int, NestedKey.hashes w (ns.map .num) = ns.map hashInt
  | [] => rfl
  | n :: ns => by rw [List.map_cons, NestedKey.hashes, nk_hashes w ns, NestedKey.hash]; rfl
theorem nk_hash (w : World) (ns : List Int) : NestedKey.hash w (nkT ns) = hashT ns := by
  unfold nkT hashT
  rw [NestedKey.hash, nk_hashes]
theorem nk_depthAll : ∀ ns : List Int, NestedKey.depthAll (ns.map .num) = 0
  | [] => rfl
  | n :: ns => by rw [List.map_cons, NestedKey.depthAll, nk_depthAll ns]; rfl
theorem nk_depth (ns : List Int) : (nkT ns).depth ≤ 8 := by
  unfold nkT
  rw [NestedKey.depth, nk_depthAll]; omega
theorem nkT_inj {a b : List Int} (h : nkT a = nkT b) : a = b := by
  unfold nkT at h
  have h' : a.map NestedKey.num = b.map NestedKey.num := by injection h
  exact (List.map_inj_right (fun x y e => by injection e)).mp h'
theorem nest_all {h : Heap} : ∀ {ns : List Int} {its : List Value}, Vals (ns.map V.int) its → NestedAll h (ns.map .num) its
  | [], _, r => by cases r; exact .nil
  | n :: ns, _, r => by
    cases r with
    | cons r1 r2 =>
      obtain ⟨t, rfl⟩ := (show ∃ t, _ = Value.int n t from r1)
      exact .cons (.int n t) (nest_all r2)
theorem nest_of {X : Cx} {pins : List (Addr × Obj)} {σ : L2.St} {H : Hp} {s : Shared} (I : Inv X pins σ H s) {v : V} {u : Value} {ns : List Int} (h : Dp X.K H v (eT ns)) (r : RelV v u) : ∃ b, v = .ref b ∧ u = .ref b ∧ (nestedKind X.prog X.w).is s.heap (nkT ns) b := by
  cases h with
  | @tup b xs _ hs ha =>
    have e := dp_ints ha
    subst e
    obtain ⟨its, rv, ⟨o, ho, hc, n, hd⟩, _⟩ := I.tuple hs
    exact ⟨b, rfl, r, .tup ho hc hd (by simpa using nest_all rv), nk_depth ns⟩
/-! ### a dict that stands -/
theorem vals_kref {K : Type} : ∀ xs : List (K × Addr × Value), Vals (xs.map fun x => V.ref x.2.1) (xs.map fun x => Value.ref x.2.1)
  | [] => .nil
  | x :: xs => .cons rfl (vals_kref xs)
theorem dco_of {P : Program} {w : World} {h : Heap} {d : Addr} {xs : List (NestedKey × Addr × Value)} (hm : h.DictOfH (nestedKind P w) d xs) (hsys : (d == sysModules) = false) (hz : xs.length ≤ sizeLine) {vs : List V} {kds : List PyData} (hv : Vals vs (xs.map (·.2.2)))
    (hh : ∀ (i : Nat) (x : NestedKey × Addr × Value) (ns : List Int), xs[i]? = some x → kds[i]? = some (.tuple (ns.map PyData.int)) → x.1 = nkT ns) : ∃ o es ep, h.get? d = some o ∧ DcO d o es ep (xs.map fun x => V.ref x.2.1) vs kds := by
  obtain ⟨o, es, ep, ho, hc, hd, he, his, hn⟩ := hm
  refine ⟨o, es, ep, ho, ⟨hsys, hc, hd, ?_, ?_, ?_, ?_⟩⟩
  · rw [he, List.map_map]; exact vals_kref xs
  · rw [he, List.map_map]; exact hv
  · have := congrArg List.length he
    rw [List.length_map, Array.length_toList] at this
    omega
  · intro i e ns h1 h2
    rw [he, List.getElem?_map] at h1
    cases hx : xs[i]? with
    | none => rw [hx] at h1; cases h1
    | some x =>
      rw [hx] at h1
      have e1 : entryOfKey (nestedKind P w) x = e := Option.some.inj h1
      rw [← e1]
      show (nestedKind P w).hash x.1 = _
      rw [hh i x ns hx h2]
      exact nk_hash w ns
/-- .. by its data -/
theorem keyed_of {X : Cx} {pins : List (Addr × Obj)} {σ : L2.St} {H : Hp} {s : Shared} (I : Inv X pins σ H s) {P : Program} {w : World} (hP : X.prog = P) (hw : X.w = w) : ∀ (es : List DictEntry) (ts : List (List Int)) (ks : List V), DpAll X.K H ks (ts.map eT) → Vals ks (es.map (·.key)) →
    (∀ (i : Nat) (e : DictEntry) (ns : List Int), es[i]? = some e → (ts.map eT)[i]? = some (.tuple (ns.map PyData.int)) → e.hash = hashT ns) →
    ∃ xs : List (NestedKey × Addr × Value), es = xs.map (entryOfKey (nestedKind P w)) ∧ (∀ x ∈ xs, (nestedKind P w).is s.heap x.1 x.2.1) ∧ xs.map (·.1) = ts.map nkT ∧ xs.map (·.2.2) = es.map (·.val)
  | [], [], _, _, _, _ => ⟨[], rfl, fun _ h => (nomatch h), rfl, rfl⟩
  | [], t :: ts, _, h, r, _ => by
    cases h with
    | cons h1 h2 => cases r
  | e :: es, [], _, h, r, _ => by
    cases h
    cases r
  | e :: es, t :: ts, _, h, r, hh => by
    cases h with
    | cons h1 h2 =>
      cases r with
      | cons r1 r2 =>
        obtain ⟨xs, e1, e2, e3, e4⟩ := keyed_of I hP hw es ts _ h2 r2 fun i e' ns a b => hh (i + 1) e' ns (by simpa using a) (by simpa using b)
        obtain ⟨b, _, eb, hk⟩ := nest_of I h1 r1
        subst hP hw
        have eh : e.hash = hashT t := hh 0 e t rfl rfl
        refine ⟨(nkT t, b, e.val) :: xs, ?_, ?_, ?_, ?_⟩
        · rw [List.map_cons, ← e1]
          congr 1
          show e = ⟨_, _, _⟩
          cases e with
          | mk hsh key val =>
            simp only at eh eb
            rw [eh, eb]
            show DictEntry.mk _ _ _ = DictEntry.mk ((nkT t).hash X.w) _ _
            rw [nk_hash]
        · intro x hx
          rcases List.mem_cons.mp hx with e0 | e0
          · rw [e0]; exact hk
          · exact e2 x e0
        · rw [List.map_cons, e3]; rfl
        · rw [List.map_cons, e4]; rfl
theorem valueAt_nd {α : Type} {K : Type} [DecidableEq K] {k : K} {v : α} : ∀ {l : List (K × α)}, (l.map (·.1)).Nodup → (k, v) ∈ l → (l.find? fun p => decide (p.1 = k)).map (·.2) = some v
  | [], _, h => (nomatch h)
  | p :: l, nd, h => by
    rw [List.map_cons, List.nodup_cons] at nd
    rw [List.find?_cons]
    rcases List.mem_cons.mp h with e | e
    · rw [← e]; simp
    · have : ¬ p.1 = k := fun z => nd.1 (by rw [z]; exact List.mem_map.mpr ⟨(k, v), e, rfl⟩)
      simp only [this, decide_false]
      exact valueAt_nd nd.2 e
end DL

set_option maxRecDepth 100000
set_option maxHeartbeats 4000000
/-! DOg: comprehensions of two clauses. -/
namespace DL
open PySem PySem.Spec PyProof.Rows L2
/-- a walk by what holds ahead of each turn -/
theorem it_go {J : It} {n : Nat} {G : Hp → Prop} {Y : Nat → Hp → V → Hp → Prop} (W : Walk J n G Y) (P : Nat → Hp → Prop) {Fin : Hp → Prop} {B : V → Hp → (Hp → Prop) → Prop} {H0 : Hp} (h0 : P 0 H0) (hG : ∀ i H, i ≤ n → P i H → G H)
    (hB : ∀ i x H H', i < n → P i H → Y i H x H' → B x H' (P (i + 1))) (hF : ∀ H, P n H → Fin H) :
    ∃ W1 : Nat → Nat → Hp → Prop, (∃ m, W1 0 m H0) ∧ ∀ i m H, W1 i m H → (J.stop i H ∧ Fin H) ∨ (J.go i H ∧ ∃ Nx : Hp → Prop, (∀ H', Nx H' → ∃ m', m' < m ∧ W1 (i + 1) m' H') ∧ ∀ x H', J.yld i H x H' → B x H' Nx) := by
  refine ⟨fun i m H => i ≤ n ∧ m = n - i ∧ P i H, ⟨n, Nat.zero_le _, rfl, h0⟩, ?_⟩
  rintro i m H ⟨hi, rfl, p⟩
  have g := hG i H hi p
  by_cases hn : i = n
  · subst hn
    exact .inl ⟨W.stops H g, hF H p⟩
  · have hi' : i < n := by omega
    exact .inr ⟨W.goes i H hi' g, P (i + 1), fun H' p' => ⟨n - (i + 1), by omega, by omega, rfl, p'⟩, fun x H' y => hB i x H H' hi' p (W.yields i H x H' hi' g y)⟩
structure LC2 (X : Cx) (elt tg iter tg1 iter1 : Expr) (ifs1 : List Expr) (scope : Scope) (ow_ : List (Str × Nat)) (τ : List SV) (ds : List PyData) (τ' : List SV) : Prop where
  ow : own τ' = own τ
  ex : ∃ wi g wi1 g1 tt1 te vs1, PI X tg iter wi ∧ BlkOk X.N X.env.scope scope ow_ ∧ (∀ i ∈ vs1, i ∈ ow_.map (·.2)) ∧ (InBlk X scope fun X' => PG X' tg g) ∧ (InBlk X scope fun X' => PI X' tg1 iter1 wi1) ∧ (InBlk X scope fun X' => PG X' tg1 g1) ∧ (InBlk X scope fun X' => PTs X' ifs1 tt1) ∧ (InBlk X scope fun X' => PE X' elt te) ∧
    ∀ (C : Fc) (σ : L2.St) (H : Hp) (Q : VK), Sl X.K C H σ τ → (∀ p H' xs, Gw (own τ) H H' → H p = none → H' p = some (.lst xs) → DpAll X.K (hide ((p :: C.L0) ++ own τ') H') xs ds → Sl X.K { C with L0 := p :: C.L0 } H' σ τ' → Q (.ref p) H') → tLc2 wi g tYes wi1 g1 tt1 te (ow_.map (·.2)) vs1 σ H Q
theorem wipe_in2 {σ : L2.St} {i j : Nat} : wipe (wipe σ [j]) [i, j] = wipe σ [i, j] := by
  show ((σ.set j none).set j none).set i none = (σ.set j none).set i none
  rw [List.set_set]
theorem LC2.mk' {X : Cx} {elt tg iter tg1 iter1 c : Expr} {scope : Scope} {τ τ1 : List SV} {α β : Type} {xs : List α} {enc : α → PyData} {ys : α → List β} {enc2 : β → PyData} {f : α → β → PyData} {p : α → β → Bool} (i0 i1 : Nat) (n0 n1 : Str) (hne : i0 ≠ i1)
    (hi : EVI X tg iter τ (xs.map enc) τ1)
    (hi1 : ∀ a, a ∈ xs → InBlk X scope fun X' => EV X' iter1 ((τ1.set i1 .un).set i0 (.pu (enc a))) (.tuple ((ys a).map enc2)) ((τ1.set i1 .un).set i0 (.pu (enc a))))
    (hT : ∀ a, a ∈ xs → ∀ b, b ∈ ys a → InBlk X scope fun X' => ET X' c (((τ1.set i1 .un).set i0 (.pu (enc a))).set i1 (.pu (enc2 b))) (p a b) (((τ1.set i1 .un).set i0 (.pu (enc a))).set i1 (.pu (enc2 b))))
    (hE : ∀ a, a ∈ xs → ∀ b, b ∈ ys a → p a b = true → InBlk X scope fun X' => EV X' elt (((τ1.set i1 .un).set i0 (.pu (enc a))).set i1 (.pu (enc2 b))) (f a b) (((τ1.set i1 .un).set i0 (.pu (enc a))).set i1 (.pu (enc2 b))))
    (hz : (xs.flatMap fun a => ((ys a).filter (p a)).map (f a)).length < sizeLine) (ok : BlkOk X.N X.env.scope scope [(n0, i0), (n1, i1)] := by exact blkOk_by (by kernel_rfl))
    (hg : InBlk X scope fun X' => PG X' tg (gName i0) := by exact fun _ _ _ _ _ => pg_name (by assumption) rfl (by first | exact Or.inl rfl | exact Or.inr rfl)) (hg1 : InBlk X scope fun X' => PG X' tg1 (gName i1) := by exact fun _ _ _ _ _ => pg_name (by assumption) rfl (by first | exact Or.inl rfl | exact Or.inr rfl))
    (no0 : nOw τ1[i0]? = true := by rfl) (no1 : nOw τ1[i1]? = true := by rfl) :
    LC2 X elt tg iter tg1 iter1 [c] scope [(n0, i0), (n1, i1)] τ (xs.flatMap fun a => ((ys a).filter (p a)).map (f a)) τ1 := by
  refine ⟨hi.ow, ?_⟩
  obtain ⟨wi, hpi, hrun⟩ := hi.ex
  refine ⟨wi, gName i0, iTup X.K (teB X scope iter1), gName i1, ttB X scope c, teB X scope elt, [i1], hpi, ok, by simp, hg, fun s H C cl fp => pi_tup (show PE _ iter1 (teB X scope iter1) from ⟨fun pins s' σ H' Q I q => q s H C cl fp pins s' I⟩), hg1, fun s H C cl fp => pts_one (t := ttB X scope c) ⟨fun pins s' σ H' Q I q => q s H C cl fp pins s' I⟩, fun s H C cl fp => ⟨fun pins s' σ H' Q I q => q s H C cl fp pins s' I⟩, fun C σ H Q S q => ?_⟩
  refine hrun C σ H _ S fun J H1 g1 S1 wk => ?_
  intro D hD
  obtain ⟨G, Y, W, hG, hY⟩ := wk
  obtain ⟨nD1, nD2, nD3⟩ := S1.no0 hD
  have no : noOw τ1 [i0, i1] = true := by simp [noOw, no0, no1]
  have wown : own (wipeT τ1 [i0, i1]) = own τ1 := wipeT_own no
  have wo1 : own (τ1.set i1 .un) = own τ1 := own_set no1 rfl
  have nset : ∀ (l : List SV) (k : Nat) (sv : SV), ownA sv = [] → (∀ a b, sv ≠ .ow a b) → (∀ a b, sv ≠ .od a b) → (∀ a b d, sv ≠ .ob a b d) → nOw (l.set k sv)[k]? = true := fun l k sv _ h1 h2 h3 => by
    by_cases hl : k < l.length
    · rw [List.getElem?_set_self hl]
      cases sv <;> first | rfl | exact absurd rfl (h1 _ _) | exact absurd rfl (h2 _ _) | exact absurd rfl (h3 _ _ _)
    · rw [List.getElem?_eq_none (by simpa using Nat.le_of_not_lt hl)]; rfl
  have nun : ∀ (l : List SV) (k : Nat), nOw (l.set k .un)[k]? = true := fun l k => nset l k .un rfl (fun _ _ z => nomatch z) (fun _ _ z => nomatch z) (fun _ _ _ z => nomatch z)
  have npu : ∀ (l : List SV) (k : Nat) (d : PyData), nOw (l.set k (.pu d))[k]? = true := fun l k d => nset l k (.pu d) rfl (fun _ _ z => nomatch z) (fun _ _ z => nomatch z) (fun _ _ _ z => nomatch z)
  have hn0 : nOw (τ1.set i1 .un)[i0]? = true := by rw [List.getElem?_set_ne (Ne.symm hne)]; exact no0
  have oa : ∀ a, own ((τ1.set i1 .un).set i0 (.pu (enc a))) = own τ1 := fun a => (own_set hn0 rfl).trans wo1
  have hn1 : ∀ a, nOw ((τ1.set i1 .un).set i0 (.pu (enc a)))[i1]? = true := fun a => by rw [List.getElem?_set_ne hne]; exact nun _ _
  have oab : ∀ a b, own (((τ1.set i1 .un).set i0 (.pu (enc a))).set i1 (.pu (enc2 b))) = own τ1 := fun a b => (own_set (hn1 a) rfl).trans (oa a)
  have hlen : (xs.map enc).length = xs.length := List.length_map _
  refine it_go W (fun i H => ∃ acc, H D = some (.lst acc) ∧ DpAll X.K (hide ((D :: C.L0) ++ own τ1) H) acc ((xs.take i).flatMap fun a => ((ys a).filter (p a)).map (f a)) ∧ Sl X.K { C with L0 := D :: C.L0 } H (wipe σ [i0, i1]) (wipeT τ1 [i0, i1]) ∧ Gw (own τ1) H1 H) ?_ ?_ ?_ ?_
  · exact ⟨[], upd_same, .nil, (S1.addHid hD).wipe _, Gw.of (Ex.new hD)⟩
  · rintro i H2 _ ⟨acc, _, _, _, gw⟩
    exact hG H2 gw
  · rintro i x H2 H2' hi' ⟨acc, e1, e2, e3, gw⟩ yy
    rw [hlen] at hi'
    have hxi : xs[i]? = some xs[i] := List.getElem?_eq_getElem hi'
    have ham : xs[i] ∈ xs := List.getElem_mem hi'
    have hd : (xs.map enc)[i]? = some (enc xs[i]) := by rw [List.getElem?_map, hxi]; rfl
    generalize xs[i] = a at hxi ham hd
    obtain ⟨ex, dx⟩ := hY i _ H2 x H2' ((D :: C.L0) ++ own τ1) hd gw yy (fun a ha => by
      rcases List.mem_cons.mp (show a ∈ D :: (C.L0 ++ own τ1) from ha) with z | z
      · exact .inr (z ▸ hD)
      · exact .inl z) (by have := e3.dom; rw [wown] at this; exact this)
    have S2 := e3.ex ex
    have ew : wipeT τ1 [i0, i1] = (τ1.set i1 .un).set i0 .un := rfl
    have EG0 : EG X.K (gName i0) [i0, i1] (wipeT τ1 [i0, i1]) (enc a) ((τ1.set i1 .un).set i0 (.pu (enc a))) := by
      have := EG.name (K := X.K) (vs := [i0, i1]) (τ := (τ1.set i1 .un).set i0 .un) (d := enc a) i0 (by simp) (nun _ _)
      rw [List.set_set] at this
      exact this
    refine EG0.run _ _ H2' x _ S2 (by rw [wown]; exact dx) fun σ2 hw S3 => ⟨hw.trans (wipe_wipe _ _), ?_⟩
    have e1' : H2' D = some (.lst acc) := ex _ _ e1
    have e2' := DpAll.ex (K := X.K) ex.hide e2
    have gw' : Gw (own τ1) H1 H2' := gw.trans (Gw.of ex)
    have hw2 : wipe σ2 [i0, i1] = wipe σ [i0, i1] := hw.trans (wipe_wipe _ _)
    unfold tYes
    dsimp only
    rw [if_pos rfl]
    intro s0 H0 C0 cl fp
    refine (hi1 a ham s0 H0 C0 cl fp).run _ σ2 H2' _ S3 fun vv H4 g4 S4 p4 => ?_
    rw [oa] at g4 p4
    have n4 : H4 D = some (.lst acc) := g4 _ _ nD1 e1'
    cases p4 with
    | @tup a0 vs0 _ q1 q2 =>
    refine ⟨a0, rfl, ⟨vs0, st_ex (hide_ex _ _) q1⟩, ?_⟩
    have gw4 : Gw (own τ1) H1 H4 := gw'.trans g4
    have hl1 : ((ys a).map enc2).length = (ys a).length := List.length_map _
    have htake : (xs.take (i + 1)).flatMap (fun a => ((ys a).filter (p a)).map (f a)) = (xs.take i).flatMap (fun a => ((ys a).filter (p a)).map (f a)) ++ ((ys a).filter (p a)).map (f a) := by
      rw [List.take_succ, hxi, List.flatMap_append]
      show _ ++ List.flatMap _ [a] = _
      rw [List.flatMap_cons, List.flatMap_nil, List.append_nil]
    have hzi : ((xs.take (i + 1)).flatMap fun a => ((ys a).filter (p a)).map (f a)).length < sizeLine := by
      refine Nat.lt_of_le_of_lt ?_ hz
      have : xs = xs.take (i + 1) ++ xs.drop (i + 1) := (List.take_append_drop _ _).symm
      conv => rhs; rw [this]
      rw [List.flatMap_append, List.length_append]
      exact Nat.le_add_right _ _
    rw [htake, List.length_append] at hzi
    refine it_go (n := (ys a).length) (G := fun H => SqT X.K H a0 vs0) (Y := YAt vs0) (by rw [← hl1, ← DpAll.len q2]; exact walk_tup) (fun j H => ∃ acc, H D = some (.lst acc) ∧ DpAll X.K (hide ((D :: C.L0) ++ own τ1) H) acc ((xs.take i).flatMap (fun a => ((ys a).filter (p a)).map (f a)) ++ (((ys a).take j).filter (p a)).map (f a)) ∧ Sl X.K { C with L0 := D :: C.L0 } H (wipe σ2 [i1]) ((τ1.set i1 .un).set i0 (.pu (enc a))) ∧ Gw (own τ1) H1 H ∧ Ex (hide ((D :: C.L0) ++ own τ1) H4) (hide ((D :: C.L0) ++ own τ1) H)) ?_ ?_ ?_ ?_
    · refine ⟨acc, n4, ?_, ?_, gw4, Ex.refl _⟩
      · rw [List.take_zero]
        show DpAll _ _ _ (_ ++ [])
        rw [List.append_nil]
        exact DpAll.ex (Gw.hide g4 fun a z => List.mem_append_right _ z) e2'
      · have := S4.wipe [i1]
        have e : wipeT ((τ1.set i1 .un).set i0 (.pu (enc a))) [i1] = (τ1.set i1 .un).set i0 (.pu (enc a)) := by
          show ((τ1.set i1 .un).set i0 (.pu (enc a))).set i1 .un = _
          rw [List.set_comm _ _ hne, List.set_set]
        rw [e] at this
        exact this
    · rintro j H5 _ ⟨acc', _, _, _, _, ex5⟩
      exact st_ex (hide_ex _ _) (st_ex ex5 q1)
    · rintro j x2 H5 H5' hj ⟨acc', e5, e6, e7, gw5, ex5⟩ ⟨rfl, hx2⟩
      have hyj : (ys a)[j]? = some (ys a)[j] := List.getElem?_eq_getElem hj
      have hbm : (ys a)[j] ∈ ys a := List.getElem_mem hj
      have hd1 : ((ys a).map enc2)[j]? = some (enc2 (ys a)[j]) := by rw [List.getElem?_map, hyj]; rfl
      generalize (ys a)[j] = b at hyj hbm hd1
      obtain ⟨v0, hv0, dv0⟩ := DpAll.get q2 hd1
      rw [hx2] at hv0
      have ev0 : x2 = v0 := Option.some.inj hv0
      have dx1 : Dp X.K (hide ((D :: C.L0) ++ own τ1) H5') x2 (enc2 b) := by rw [ev0]; exact Dp.ex ex5 dv0
      refine (EG.name (vs := [i1]) (d := enc2 b) i1 (by simp) (hn1 a)).run _ _ H5' x2 _ e7 (by rw [oa]; exact dx1) fun σ3 hw3 S6 => ⟨hw3.trans (wipe_wipe _ _), ?_⟩
      have f5 := e5
      have f6 := e6
      have gw5' := gw5
      have hw3' : wipe σ3 [i1] = wipe σ2 [i1] := hw3.trans (wipe_wipe _ _)
      intro s1 H10 C1 cl1 fp1
      refine (hT a ham b hbm s1 H10 C1 cl1 fp1).run _ σ3 H5' _ S6 fun H6 g6 S7 => ?_
      rw [oab] at g6
      have f7 : H6 D = some (.lst acc') := g6 _ _ nD1 f5
      have f8 := DpAll.ex (K := X.K) (Gw.hide g6 fun a z => List.mem_append_right (D :: C.L0) z) f6
      have back : ∀ {H' : Hp}, Sl X.K { C with L0 := D :: C.L0 } H' σ3 (((τ1.set i1 .un).set i0 (.pu (enc a))).set i1 (.pu (enc2 b))) → Sl X.K { C with L0 := D :: C.L0 } H' (wipe σ2 [i1]) ((τ1.set i1 .un).set i0 (.pu (enc a))) := fun S8 => by
        have := S8.wipe [i1]
        rw [hw3'] at this
        have e : wipeT (((τ1.set i1 .un).set i0 (.pu (enc a))).set i1 (.pu (enc2 b))) [i1] = (τ1.set i1 .un).set i0 (.pu (enc a)) := by
          show (((τ1.set i1 .un).set i0 (.pu (enc a))).set i1 (.pu (enc2 b))).set i1 .un = _
          rw [List.set_set, List.set_comm _ _ hne, List.set_set]
        rw [e] at this
        exact this
      cases hp : p a b with
      | false =>
        rw [if_neg Bool.false_ne_true]
        refine ⟨acc', f7, ?_, back S7, gw5'.trans g6, ex5.trans (Gw.hide g6 fun a z => List.mem_append_right _ z)⟩
        rw [List.take_succ, hyj, List.filter_append]
        show DpAll _ _ _ (_ ++ List.map _ (_ ++ [b].filter (p a)))
        rw [List.filter_cons, hp, if_neg Bool.false_ne_true, List.filter_nil, List.append_nil]
        exact f8
      | true =>
        rw [if_pos rfl]
        intro s2 H20 C2 cl2 fp2
        refine (hE a ham b hbm hp s2 H20 C2 cl2 fp2).run _ σ3 H6 _ S7 fun v H7 g7 S8 p8 => ?_
        rw [oab] at g7 p8
        have f9 := DpAll.ex (K := X.K) (Gw.hide g7 fun a z => List.mem_append_right (D :: C.L0) z) f8
        refine ⟨acc', g7 _ _ nD1 f7, ?_, acc' ++ [v], upd_same, ?_, ?_, ?_, ?_⟩
        · rw [DpAll.len f9, List.length_append]
          refine Nat.lt_of_le_of_lt (Nat.add_le_add_left ?_ _) hzi
          rw [List.length_map, List.length_map]
          exact (((List.take_sublist j (ys a)).filter (p a)).length_le)
        · rw [hide_upd (by simp), List.take_succ, hyj, List.filter_append, List.map_append, ← List.append_assoc]
          show DpAll _ _ _ (_ ++ List.map _ ([b].filter (p a)))
          rw [List.filter_cons, hp, if_pos rfl, List.filter_nil]
          exact DpAll.snoc f9 p8
        · exact (back S8).updHid (by simp) (by rw [oa]; exact nD1) nD2 nD3
        · intro u o na ha
          rw [upd_ne (fun z => by rw [z, hD] at ha; cases ha)]
          exact g7 u o na (g6 u o na (gw5' u o na ha))
        · rw [hide_upd (by simp)]
          exact (ex5.trans (Gw.hide g6 fun a z => List.mem_append_right _ z)).trans (Gw.hide g7 fun a z => List.mem_append_right _ z)
    · rintro H5 ⟨acc', e5, e6, e7, gw5, _⟩
      rw [List.take_length] at e6
      refine ⟨acc', e5, ?_, ?_, gw5⟩
      · rw [htake]; exact e6
      · have := e7.wipe [i0, i1]
        rw [wipe_in2, hw2] at this
        have e : wipeT ((τ1.set i1 .un).set i0 (.pu (enc a))) [i0, i1] = wipeT τ1 [i0, i1] := by
          show (((τ1.set i1 .un).set i0 (.pu (enc a))).set i1 .un).set i0 .un = (τ1.set i1 .un).set i0 .un
          rw [List.set_comm _ _ hne, List.set_set, List.set_set]
        rw [e] at this
        exact this
  · rintro H2 ⟨acc, e1, e2, e3, gw⟩
    rw [hlen, List.take_length] at e2
    have S5 : Sl X.K { C with L0 := D :: C.L0 } H2 σ τ1 := (S1.addHid (o := .lst []) hD).restore no (by
      show Ex (hide ((D :: C.L0) ++ own τ1) (upd H1 D (.lst []))) (hide ((D :: C.L0) ++ own τ1) H2)
      rw [hide_upd (by simp)]
      exact Gw.hide gw fun a z => List.mem_append_right _ z) e3 rfl (fun j hj => rfl)
    refine q D H2 acc (g1.trans (hi.ow ▸ gw)) ?_ e1 e2 S5
    cases hq : H D with
    | none => rfl
    | some o =>
      have := g1 D o (fun z => nD1 (hi.ow ▸ z)) hq
      rw [hD] at this; cases this
end DL
namespace DL
open PySem PySem.Spec PyProof.Rows L2
section
variable {X : Cx} {elt tg iter tg1 iter1 : Expr} {ifs1 : List Expr} {scope : Scope} {ow_ : List (Str × Nat)} {τ τ1 : List SV} {ds : List PyData} {pos spos py : Pos}
theorem EF.lc2 (h : LC2 X elt tg iter tg1 iter1 ifs1 scope ow_ τ ds τ1) (hc : X.calm = true := by rfl) (hN : X.N.Nodup := by assumption) (hs : ∀ x, foldedSetIterable iter X.env x = pure x := by intro _; rfl) (hs1 : ∀ env x, foldedSetIterable iter1 env x = pure x := by intro _ _; rfl) : EF X (.ListComp elt [⟨tg, iter, [], 0⟩, ⟨tg1, iter1, ifs1, 0⟩] scope pos) τ ds τ1 := by
  obtain ⟨wi, g, wi1, g1, tt1, te, vs1, h1, h2, h3, h4, h5, h6, h7, h8, h9⟩ := h.ex
  exact ⟨h.ow, fun C σ H Q S q => WE.of (pe_lc2 hc hN h1 h2 h3 h4 (fun _ _ _ _ _ => pts_nil) h5 h6 h7 h8 hs hs1) (h9 C σ H Q S q)⟩
theorem SX.asgLc2 {rest : List Stmt} {R : Out → Prop} {y : Str} (i : Nat) (h : LC2 X elt tg iter tg1 iter1 ifs1 scope ow_ τ ds τ1) (hr : SX X rest (τ1.set i (.pu (.list ds))) R) (hc : X.calm = true := by rfl) (hN : X.N.Nodup := by assumption) (hy : X.N[i]? = some y := by rfl)
    (hyl : X.env.scope.names.lookup y = some .local := by rfl) (hsw : swapsWith (.ListComp elt [⟨tg, iter, [], 0⟩, ⟨tg1, iter1, ifs1, 0⟩] scope pos) (some (.Name y py)) spos.line X.env = pure true := by exact sw_true rfl rfl rfl (by decide +kernel)) (hs : ∀ x, foldedSetIterable iter X.env x = pure x := by intro _; rfl) (hs1 : ∀ env x, foldedSetIterable iter1 env x = pure x := by intro _ _; rfl) :
    SX X (.Assign [.Name y py] (.ListComp elt [⟨tg, iter, [], 0⟩, ⟨tg1, iter1, ifs1, 0⟩] scope pos) spos :: rest) τ R := by
  obtain ⟨wi, g, wi1, g1, tt1, te, vs1, h1, h2, h3, h4, h5, h6, h7, h8, h9⟩ := h.ex
  exact SX.seq (ps_setLc2 hc hN hy hyl hsw h1 h2 h3 h4 (fun _ _ _ _ _ => pts_nil) h5 h6 h7 h8 hs hs1) fun C σ H D W tk S k => h9 C σ H _ S fun p H' xs g hp e1 e2 S' => k (.nx (τ1.set i (.pu (.list ds)))) hr _ _ (S'.unHid.set (fresh_dp S h.ow hp e1 e2) i)
end
end DL

set_option maxRecDepth 100000
set_option maxHeartbeats 4000000
/-! DOh: the order of tuples of rows. -/
namespace DL
open PySem L2
open PySem.W PyProof.Rows
def lexT : List (List Int) → List (List Int) → Bool
  | [], [] => false
  | [], _ :: _ => true
  | _ :: _, [] => false
  | x :: xs, y :: ys => if x = y then lexT xs ys else HT.lexLt x y
theorem alikeT (x y : List Int) : alike (eT x) (eT y) = true := by show alikeAll _ _ = true; exact alikeInts x y
theorem alikeTs : ∀ xs ys : List (List Int), alikeAll (xs.map eT) (ys.map eT) = true
  | [], _ => by simp [alikeAll]
  | _ :: _, [] => by simp [alikeAll]
  | x :: xs, y :: ys => by
    rw [List.map_cons, List.map_cons, alikeAll, alikeT x y, Bool.true_and]
    exact alikeTs xs ys
theorem lexAll : ∀ xs ys : List (List Int), PyProof.Rows.lexLt itemOrd (keyToksAll (xs.map eT)) (keyToksAll (ys.map eT)) = lexT xs ys
  | [], [] => rfl
  | [], y :: ys => rfl
  | x :: xs, [] => rfl
  | x :: xs, y :: ys => by
    rw [List.map_cons, List.map_cons]
    unfold lexT
    by_cases e : x = y
    · rw [if_pos e, PySem.W.dataLt_all_yes (alikeT x y) (by rw [encT.eqv]; exact decide_eq_true e)]
      exact lexAll xs ys
    · rw [if_neg e, PySem.W.dataLt_all_no (alikeT x y) (by rw [encT.eqv]; exact decide_eq_false e)]
      exact dataLt_eT x y
theorem dataLt_eTT (xs ys : List (List Int)) : dataLt (eTT xs) (eTT ys) = lexT xs ys := by
  rw [PySem.W.dataLt_tuple]
  exact lexAll xs ys
theorem Alk.tupT : Alk eTT 2 lexT := ⟨fun a b => by show alikeAll _ _ = true; exact alikeTs a b, (fun a e => by cases e), fun a => encTT.sh a, dataLt_eTT⟩
end DL

set_option maxRecDepth 100000
set_option maxHeartbeats 4000000
/-! SpQ: books by other names. -/
namespace K
open PySem L2 DL
def callM (names t : List Int) : List Int := sortI (t.map fun x => names.getD (x - 1).toNat 0)
def calledM (book : List (List Int)) (names : List Int) : List (List Int) := sortM (book.map (callM names))
theorem callM_len (names t : List Int) : (callM names t).length = t.length := by
  unfold callM
  rw [(sortI_perm _).length_eq, List.length_map]
def R_called (ds : List PyData) (r : Res) : Prop := ∃ (n k : Int) (book : List (List Int)) (names : List Int), (1 ≤ k ∧ k ≤ 1000) ∧ (∀ t, t ∈ book → t ∈ ticketsM n k) ∧ book.length ≤ 1000 ∧ (n ≤ (names.length : Int) ∧ names.length ≤ 1000) ∧ ds = [eTT book, eT names] ∧ r = .ok (eTT (calledM book names))
theorem at_names {names : List Int} {y : Int} (h : 1 ≤ y ∧ y ≤ (names.length : Int)) : atI (names.map PyData.int) (y - 1) = some (.int (names.getD (y - 1).toNat 0)) := by
  obtain ⟨j, hj⟩ := Int.eq_ofNat_of_zero_le (show 0 ≤ y - 1 by omega)
  rw [hj]
  refine atI_nn ?_
  have : j < names.length := by omega
  rw [List.getElem?_map, List.getElem?_eq_getElem this, Int.toNat_natCast, List.getD_eq_getElem?_getD, List.getElem?_eq_getElem this]; rfl
theorem call_ints (names t : List Int) : PyData.list (t.map fun y => PyData.int (names.getD (y - 1).toNat 0)) = .list ((t.map fun x => names.getD (x - 1).toNat 0).map PyData.int) := by rw [List.map_map]; rfl
theorem call_rows (names : List Int) (book : List (List Int)) : PyData.list (book.map fun t => eT (callM names t)) = .list ((book.map (callM names)).map eT) := by rw [List.map_map]; rfl
theorem call_ne {names : List Int} {n k : Int} {book : List (List Int)} (hk : 1 ≤ k) (h : ∀ t, t ∈ book → t ∈ ticketsM n k) : ∀ ns, ns ∈ book.map (callM names) → ns ≠ [] := fun ns hns e => by
  obtain ⟨t, ht, rfl⟩ := List.mem_map.mp hns
  have h1 := callM_len names t
  rw [e, tickets_len (h t ht), List.length_nil] at h1
  omega
/-! all names -/
def nmStepN (n : Int) (rows : List (List Int)) : List (List Int) := rows.flatMap fun row => ((nums n).filter fun x => !memD x row).map fun x => row ++ [x]
def nmIt (n : Int) : Nat → List (List Int)
  | 0 => [[]]
  | j + 1 => nmStepN n (nmIt n j)
def namesM (n : Int) : List (List Int) := nmIt n n.toNat
def nmSizeB (n : Nat) : Bool := (List.range (n + 1)).all fun j => decide ((nmIt (n : Int) j).length ≤ 720)
theorem nmSize_all : ((List.range 7).all nmSizeB) = true := by decide +kernel
theorem nm_size {n : Int} (hn : 0 ≤ n ∧ n ≤ 6) {j : Nat} (hj : (j : Int) ≤ n) : (nmIt n j).length ≤ 720 := by
  have h := List.all_eq_true.mp nmSize_all n.toNat (List.mem_range.mpr (by omega))
  have h2 := List.all_eq_true.mp h j (List.mem_range.mpr (by omega))
  rw [Int.toNat_of_nonneg hn.1] at h2
  exact of_decide_eq_true h2
theorem nmIt_row {n : Int} : ∀ {j : Nat} {r : List Int}, r ∈ nmIt n j → r.length = j ∧ r.Nodup ∧ ∀ x, x ∈ r → x ∈ nums n
  | 0, r, h => by
    have : r = [] := by simpa [nmIt] using h
    subst this
    exact ⟨rfl, List.nodup_nil, fun _ z => nomatch z⟩
  | j + 1, r, h => by
    obtain ⟨row, hrow, hr⟩ := List.mem_flatMap.mp (show r ∈ nmStepN n (nmIt n j) from h)
    obtain ⟨x, hx, rfl⟩ := List.mem_map.mp hr
    obtain ⟨hx1, hx2⟩ := List.mem_filter.mp hx
    obtain ⟨h1, h2, h3⟩ := nmIt_row hrow
    have hxn : x ∉ row := fun z => by rw [memD_iff.mpr z] at hx2; cases hx2
    refine ⟨by rw [List.length_append, h1]; rfl, ?_, fun y hy => ?_⟩
    · rw [List.nodup_append]
      refine ⟨h2, by simp, fun a ha b hb e => ?_⟩
      rw [List.mem_singleton] at hb
      rw [e, hb] at ha
      exact hxn ha
    · rcases List.mem_append.mp hy with z | z
      · exact h3 y z
      · rw [List.mem_singleton.mp z]; exact hx1
theorem names_row {n : Int} (hn : 0 ≤ n) {r : List Int} (h : r ∈ namesM n) : (r.length : Int) = n ∧ r.Nodup ∧ ∀ x, x ∈ r → x ∈ nums n := by
  obtain ⟨h1, h2, h3⟩ := nmIt_row (show r ∈ nmIt n n.toNat from h)
  exact ⟨by omega, h2, h3⟩
theorem flat_map (n : Int) (rows : List (List Int)) : PyData.list (rows.flatMap fun a => ((nums n).filter fun b => !memD b a).map fun b => eT (a ++ [b])) = eLT (nmStepN n rows) := by
  show PyData.list _ = PyData.list _
  unfold nmStepN
  rw [List.map_flatMap]
  congr 1
  congr 1
  funext a
  rw [List.map_map]; rfl
def R_all_names (ds : List PyData) (r : Res) : Prop := ∃ n k p m : Int, (0 ≤ n ∧ n ≤ 6) ∧ ds = [eT [n, k, p, m]] ∧ r = .ok (eLT (namesM n))
theorem names_ne {n : Int} (hn : 0 ≤ n ∧ n ≤ 6) : namesM n ≠ [] := by
  have h : ((List.range 7).all fun (n : Nat) => !decide (namesM (n : Int) = [])) = true := by decide +kernel
  have h2 := List.all_eq_true.mp h n.toNat (List.mem_range.mpr (by omega))
  rw [Int.toNat_of_nonneg hn.1] at h2
  simpa using h2
/-! the first of all books -/
def firstM (n : Int) (book : List (List Int)) : List (List Int) := match (namesM n).map (calledM book) with
  | [] => []
  | q :: qs => minF lexT q qs
def R_first_form (ds : List PyData) (r : Res) : Prop := ∃ (n k p m : Int) (book : List (List Int)), Valid n k p m ∧ n ≤ 6 ∧ (∀ t, t ∈ book → t ∈ ticketsM n k) ∧ book.length ≤ 20 ∧ ds = [eT [n, k, p, m], eTT book] ∧ r = .ok (eTT (firstM n book))
def R_look_few (ds : List PyData) (r : Res) : Prop := ∃ (n k p m : Int) (d : PyData), Valid n k p m ∧ ds = [eT [n, k, p, m], d] ∧ ((6 < n ∧ r = .ex "Full") ∨ (n ≤ 6 ∧ DSz d ∧ r = if isGoodD n k d = true then .ok .none else .ex "BadBook"))
def fewLooked (F : Int → Int → Int → Int → List (List Int) → PyData → Prop) (ds : List PyData) (r : Res) : Prop := ∃ (n k p m : Int) (d : PyData), Valid n k p m ∧ ds = [eT [n, k, p, m], d] ∧ ((6 < n ∧ r = .ex "Full") ∨ (n ≤ 6 ∧ DSz d ∧ ((isGoodD n k d = false ∧ r = .ex "BadBook") ∨ ∃ book e, d = eTT book ∧ isGoodD n k d = true ∧ F n k p m book e ∧ r = .ok e)))
def R_form_of : List PyData → Res → Prop := fewLooked fun n _ _ _ book e => e = eTT (firstM n book)
end K

set_option maxRecDepth 100000
set_option maxHeartbeats 4000000
/-! DPa: sets of tuples of rows: the search, the adding. -/
namespace DL
open PySem PySem.Spec PyProof.Rows L2
/-- a tuple of rows as the library's key -/
def nkR (k : List (List Int)) : NestedKey := .tup (k.map nkT)
theorem nkR_inj {a b : List (List Int)} (e : nkR a = nkR b) : a = b := by
  unfold nkR at e
  have e' : a.map nkT = b.map nkT := by injection e
  exact (List.map_inj_right (fun x y z => nkT_inj z)).mp e'
theorem nkR_depth (k : List (List Int)) : (nkR k).depth ≤ 8 := by
  have h : ∀ k : List (List Int), NestedKey.depthAll (k.map nkT) ≤ 1 := by
    intro k
    induction k with
    | nil => exact Nat.zero_le _
    | cons t k ih =>
      rw [List.map_cons, NestedKey.depthAll]
      have : (nkT t).depth = 1 := by unfold nkT; rw [NestedKey.depth, nk_depthAll]
      omega
  unfold nkR
  rw [NestedKey.depth]
  have := h k
  omega
abbrev IsR (h : Heap) (k : List (List Int)) (b : Addr) : Prop := NestedIs h (nkR k) (.ref b)
def rhash (w : World) (k : List (List Int)) : Int := (nkR k).hash w
section
variable {P : Program} {w : World} {A : Around} {E : Value → Shared → Prop} {s : Shared}
theorem IsR.kd {h : Heap} {k : List (List Int)} {b : Addr} (x : IsR h k b) : (nestedKind P w).is h (nkR k) b := ⟨x, nkR_depth k⟩
theorem isR_at {h h' : Heap} {k : List (List Int)} {b : Addr} (x : IsR h k b) (hk : ∀ c o vs n, h.get? c = some o → o.data = .seq vs n → h'.get? c = some o) : IsR h' k b := NestedIs.at hk _ _ x
theorem isR_type {k : List (List Int)} {b : Addr} (x : IsR s.heap k b) : s.TypeIs (.ref b) "tuple" := by
  cases x with
  | tup h1 h2 _ _ => exact ⟨_, h1, h2⟩
/-! small questions -/
theorem nest_int {h : Heap} : ∀ {ns : List Int} {vs : List Value}, NestedAll h (ns.map .num) vs → ∀ v ∈ vs, (∃ i t, v = Value.int i t) ∨ ∃ b, v = Value.bool b
  | [], _, x => by cases x; intro v hv; cases hv
  | n :: ns, _, x => by
    cases x with
    | cons x1 x2 =>
      intro v hv
      rcases List.mem_cons.mp hv with e | e
      · subst e
        cases x1 with
        | bool _ => exact .inr ⟨_, rfl⟩
        | int _ t => exact .inl ⟨_, _, rfl⟩
      · exact nest_int x2 v e
theorem nest_rows {h : Heap} : ∀ {k : List (List Int)} {vs : List Value}, NestedAll h (k.map nkT) vs → ∀ v ∈ vs, ∃ ns, NestedIs h (nkT ns) v
  | [], _, x => by cases x; intro v hv; cases hv
  | t :: k, _, x => by
    cases x with
    | cons x1 x2 =>
      intro v hv
      rcases List.mem_cons.mp hv with e | e
      · subst e; exact ⟨t, x1⟩
      · exact nest_rows x2 v e
theorem ofA_bool (n : Nat) (b : Bool) : ofAClassStatement n (.bool b) = pure false := by cases n <;> rfl
theorem byV_bool (n : Nat) (b : Bool) : hashByValue n (.bool b) = pure true := by cases n <;> rfl
theorem ofA_loop {n : Nat} {vs : List Value} {b : Addr} {o : Obj} {items : Array Value} {c : Nat} {Q : Bool → Shared → Prop} (ob0 : s.heap.get? b = some o) (hc : o.cls = .type "tuple") (dt0 : o.data = .seq items c)
    (hin : ∀ v ∈ items.toList, ∀ (Q' : Bool → Shared → Prop), Q' false s → wpAny (model P w) A (ofAClassStatement n v) Q' E s) (h : Q false s) : wpAny (model P w) A (ofAClassStatement (n + 1) (.ref b)) Q E s := by
  have ty0 : s.TypeIs (.ref b) "tuple" := ⟨_, ob0, hc⟩
  unfold ofAClassStatement
  refine wpAny_bind (wpAny_typeOf ty0 ?_)
  dsimp only
  have e : (("tuple" : String) == "tuple") = true := by decide
  simp only [e, if_true, Bool.not_true, Bool.false_eq_true, if_false]
  try refine wpAny_bind (wpAny_pure ?_)
  try simp only [Bool.not_true, Bool.false_eq_true, if_false]
  show wpAny _ _ (seqItems? (.ref b) >>= _) _ _ s
  refine wpAny_bind (wpAny_seqItems ob0 dt0 ?_)
  dsimp only
  refine wpAny_bind ?_
  show wpAny _ _ (forIn items _ _) _ _ s
  rw [← Array.forIn_toList]
  refine wpAny_forIn_list _ (fun tail0 r s0 => r.1 = none ∧ s0 = s ∧ ∀ v ∈ tail0, v ∈ items.toList) _ ?_ ?_ _ _ ⟨rfl, rfl, fun v hv => hv⟩
  · rintro v tail0 r s0 ⟨hz0, rfl, alln⟩
    refine wpAny_bind (hin v (alln v List.mem_cons_self) _ ?_)
    simp only [Bool.false_eq_true, if_false]
    exact wpAny_pure ⟨rfl, rfl, fun u hu' => alln u (List.mem_cons_of_mem _ hu')⟩
  · rintro ⟨r1, r2⟩ s0 ⟨hz0, rfl, _⟩
    simp only at hz0
    subst hz0
    exact wpAny_pure h
theorem ofA_row {n : Nat} {ns : List Int} {v : Value} {Q : Bool → Shared → Prop} (x : NestedIs s.heap (nkT ns) v) (h : Q false s) : wpAny (model P w) A (ofAClassStatement (n + 1) v) Q E s := by
  cases x with
  | tup h1 h2 h3 h4 =>
    refine ofA_loop (vs := []) h1 h2 h3 (fun v hv Q' hq => ?_) h
    rcases nest_int h4 v hv with ⟨i, t, rfl⟩ | ⟨b, rfl⟩
    · rw [ofAClass_int]; exact wpAny_pure hq
    · rw [ofA_bool]; exact wpAny_pure hq
theorem ofA_key {k : List (List Int)} {b : Addr} {Q : Bool → Shared → Prop} (x : IsR s.heap k b) (h : Q false s) : wpAny (model P w) A (ofAClassStatement 8 (.ref b)) Q E s := by
  cases x with
  | tup h1 h2 h3 h4 =>
    refine ofA_loop (n := 7) (vs := []) h1 h2 h3 (fun v hv Q' hq => ?_) h
    obtain ⟨ns, hns⟩ := nest_rows h4 v hv
    exact ofA_row (n := 6) hns hq
theorem byV_loop {n : Nat} {b : Addr} {o : Obj} {items : Array Value} {c : Nat} {Q : Bool → Shared → Prop} (ob0 : s.heap.get? b = some o) (hc : o.cls = .type "tuple") (dt0 : o.data = .seq items c)
    (hin : ∀ v ∈ items.toList, ∀ (Q' : Bool → Shared → Prop), Q' true s → wpAny (model P w) A (hashByValue n v) Q' E s) (h : Q true s) : wpAny (model P w) A (hashByValue (n + 1) (.ref b)) Q E s := by
  have ty0 : s.TypeIs (.ref b) "tuple" := ⟨_, ob0, hc⟩
  unfold hashByValue
  refine wpAny_bind (wpAny_specialOf ty0 F.slot_tuple_hash.lookup ?_)
  show wpAny _ _ (seqItems? (.ref b) >>= _) _ _ s
  refine wpAny_bind (wpAny_seqItems ob0 dt0 ?_)
  refine wpAny_bind ?_
  show wpAny _ _ (forIn items _ _) _ _ s
  rw [← Array.forIn_toList]
  refine wpAny_forIn_list _ (fun tail0 r s0 => r.1 = none ∧ s0 = s ∧ ∀ v ∈ tail0, v ∈ items.toList) _ ?_ ?_ _ _ ⟨rfl, rfl, fun v hv => hv⟩
  · rintro v tail0 r s0 ⟨hz0, rfl, alln⟩
    refine wpAny_bind (hin v (alln v List.mem_cons_self) _ ?_)
    simp only [Bool.not_true, Bool.false_eq_true, if_false]
    exact wpAny_pure ⟨rfl, rfl, fun u hu' => alln u (List.mem_cons_of_mem _ hu')⟩
  · rintro ⟨r1, r2⟩ s0 ⟨hz0, rfl, _⟩
    simp only at hz0
    subst hz0
    exact wpAny_pure h
theorem byV_key {k : List (List Int)} {b : Addr} {Q : Bool → Shared → Prop} (x : IsR s.heap k b) (h : Q true s) : wpAny (model P w) A (hashByValue 8 (.ref b)) Q E s := by
  cases x with
  | tup h1 h2 h3 h4 =>
    refine byV_loop (n := 7) h1 h2 h3 (fun v hv Q' hq => ?_) h
    obtain ⟨ns, hns⟩ := nest_rows h4 v hv
    cases hns with
    | tup g1 g2 g3 g4 =>
      refine byV_loop (n := 6) g1 g2 g3 (fun u hu Q2 hq2 => ?_) hq
      rcases nest_int g4 u hu with ⟨i, t, rfl⟩ | ⟨b, rfl⟩
      · rw [hashBy_int]; exact wpAny_pure hq2
      · rw [byV_bool]; exact wpAny_pure hq2
/-- a search among such keys shows nothing -/
theorem seen_key {k : List (List Int)} {b : Addr} {Q : Bool → Shared → Prop} (x : IsR s.heap k b) {ys : List Value} (hy : ∀ y ∈ ys, ∃ k' c, y = Value.ref c ∧ IsR s.heap k' c) (h : Q false s) : wpAny (model P w) A (searchCouldBeSeen (.ref b) ys) Q E s := by
  unfold searchCouldBeSeen
  refine wpAny_bind ?_
  refine wpAny_forIn_list _ (fun tail0 r s0 => r.1 = none ∧ s0 = s ∧ ∀ y ∈ tail0, ∃ k' c, y = Value.ref c ∧ IsR s.heap k' c) _ ?_ ?_ _ _ ⟨rfl, rfl, hy⟩
  · rintro v tail0 r s0 ⟨hz0, rfl, alln⟩
    obtain ⟨k', c, rfl, hc⟩ := alln v List.mem_cons_self
    have more : ∀ y ∈ tail0, ∃ k' c, y = Value.ref c ∧ IsR s0.heap k' c := fun u hu' => alln u (List.mem_cons_of_mem _ hu')
    dsimp only
    by_cases hv : (b == c || (carriedByValue (.ref b) && carriedByValue (.ref c))) = true
    · exact wp_if_pos hv (wpAny_pure ⟨rfl, rfl, more⟩)
    · refine wp_if_neg hv (wpAny_bind ((nestedKind P w).quiet x.kd ?_))
      simp only [Bool.not_true, Bool.false_eq_true, if_false]
      refine wpAny_bind ((nestedKind P w).quiet hc.kd ?_)
      simp only [Bool.not_true, Bool.false_eq_true, if_false]
      refine wpAny_bind (ofA_key x ?_)
      simp only [Bool.false_eq_true, if_false]
      refine wpAny_bind (ofA_key hc ?_)
      simp only [Bool.false_eq_true, if_false]
      exact wpAny_pure ⟨rfl, rfl, more⟩
  · rintro ⟨r1, r2⟩ s0 ⟨hz0, rfl, _⟩
    simp only at hz0
    subst hz0
    exact wpAny_pure h
end
end DL

set_option maxRecDepth 100000
set_option maxHeartbeats 4000000
/-! DPb: a set of tuples of rows: what stands in it, the search. -/
namespace DL
open PySem PySem.Spec PyProof.Rows L2
abbrev RK := Addr × List (List Int)
def entR (w : World) (L : List RK) : List (Int × Value) := L.map fun q => (rhash w q.2, Value.ref q.1)
def hasR (w : World) (L : List RK) : List Int := L.map fun q => rhash w q.2
/-- the set at a has the keys of L -/
structure SetRR (w : World) (h : Heap) (a : Addr) (L : List RK) (es : Array (Int × Value)) (ep : Nat) (t : SetTable) : Prop where
  obj : ∃ o, h.get? a = some o ∧ o.ExactSet ∧ o.data = .set es ep t
  ent : es.toList = entR w L
  tab : TabOk t (hasR w L)
  one : (L.map (·.2)).Nodup
  key : ∀ q ∈ L, IsR h q.2 q.1
  pln : t.plain = true
  led : w.params.followText "set-order" = true ∨ t.led = true
  roo : L.length * 5 < t.mask * 3
section
variable {P : Program} {w : World} {A : Around} {E : Value → Shared → Prop} {s : Shared} {a : Addr} {L : List RK} {es : Array (Int × Value)} {ep : Nat} {t : SetTable}
theorem ent_size (e : es.toList = entR w L) : es.size = L.length := by
  have q := congrArg List.length e
  unfold entR at q
  rwa [Array.length_toList, List.length_map] at q
theorem ent_at (e : es.toList = entR w L) {i : Nat} {q : RK} (h : L[i]? = some q) : es[i]? = some (rhash w q.2, Value.ref q.1) := by
  rw [← Array.getElem?_toList, e]
  unfold entR
  rw [List.getElem?_map, h]; rfl
theorem fits_of (e : es.toList = entR w L) (hs : t.place.size = es.size) (hd : t.dummies = #[]) (hm : es.size ≤ t.mask) : t.fits es.size = true := by
  unfold SetTable.fits SetTable.fill
  rw [hd, Bool.and_eq_true, beq_iff_eq, decide_eq_true_eq]
  exact ⟨hs, by show t.place.size + 0 ≤ t.mask; omega⟩
theorem SetRR.psz (R : SetRR w s.heap a L es ep t) : t.place.size = L.length := by
  have q := R.tab.sz
  unfold hasR at q
  rwa [List.length_map] at q
theorem SetRR.fit (R : SetRR w s.heap a L es ep t) : t.fits es.size = true := by
  have q1 := R.psz
  have q2 := ent_size R.ent
  have q3 := R.roo
  exact fits_of R.ent (by omega) R.tab.dm (by omega)
theorem SetRR.sound (R : SetRR w s.heap a L es ep t) : ¬ t.gaveWay = true := by
  unfold SetTable.gaveWay
  rw [mask_odd R.tab.mok]
  decide
/-- where the k-th look goes -/
abbrev wayR (w : World) (t : SetTable) (k : List (List Int)) (c : Nat) : Nat := way t.mask (rhash w k) c
abbrev prb (w : World) (t : SetTable) (k : List (List Int)) : SetTable.Probe := runAt t.mask (SetTable.bits (rhash w k) % (t.mask + 1)) (SetTable.bits (rhash w k))
theorem dummy_none (m : Nat) : ∀ (n : Nat) (q : SetTable.Probe), q.dummy = none → (nth m q n).dummy = none
  | 0, _, e => e
  | n + 1, q, e => dummy_none m n (adv m q) (by unfold adv; split <;> exact e)
/-- the search from the c-th look on -/
theorem look_from (R : SetRR w s.heap a L es ep t) {x : Addr} {k : List (List Int)} (hx : IsR s.heap k x) (hu : A.units + 8 < cLine) {K : Nat} (kf : K < 10 * SetTable.turns t.mask) (k0 : wayR w t k K ∉ t.place.toList) (k1 : ∀ c, c < K → wayR w t k c ∈ t.place.toList)
    {Q : SetFound → Shared → Prop} (yes : k ∈ L.map (·.2) → Q (.there none) s) (no : k ∉ L.map (·.2) → Q (.free (wayR w t k K) false) s) :
    ∀ (f c : Nat) (st : Option SetTable.Probe), st.getD (t.probeStart (rhash w k)) = nth t.mask (prb w t k) c → c ≤ K → K - c < f → (∀ (i : Nat) (q : RK), L[i]? = some q → q.2 = k → ∃ c1, c ≤ c1 ∧ c1 < K ∧ t.place.toList[i]? = some (wayR w t k c1)) →
      wpAny (model P w) A (setSearchFrom a (.ref x) (rhash w k) true f st) Q E s
  | 0, _, _, _, _, hf, _ => absurd hf (Nat.not_lt_zero _)
  | f + 1, c, st, hst, hc, hf, later => by
    obtain ⟨o, o1, o2, o3⟩ := R.obj
    rw [setSearchFrom_succ]
    refine wpAny_bind (wpAny_setState_of o1 o3 R.fit ?_)
    dsimp only
    refine wp_if_neg R.sound ?_
    try refine wpAny_bind (wpAny_pure ?_)
    have sh : ∀ q, nth t.mask (nth t.mask (prb w t k) c) q = nth t.mask (prb w t k) (c + q) := fun q => (nth_add t.mask c _ q).symm
    have shj : ∀ q, (nth t.mask (nth t.mask (prb w t k) c) q).j = wayR w t k (c + q) := fun q => congrArg SetTable.Probe.j (sh q)
    have spec := go_spec t R.tab.ris R.tab.dm (fun i => (es[i]?.map (·.1)).getD 0) (rhash w k) (10 * SetTable.turns t.mask) (K - c) _ (dummy_none t.mask c (prb w t k) rfl) (by omega) (fun q hq => by rw [shj]; exact k1 (c + q) (by omega)) (by rw [shj, show c + (K - c) = K by omega]; exact k0)
    have hsh : ∀ (i : Nat) (q : RK), L[i]? = some q → (fun i => (es[i]?.map (·.1)).getD 0) i = rhash w q.2 := fun i q hq => by
      show (es[i]?.map (·.1)).getD 0 = _
      rw [ent_at R.ent hq]; rfl
    rcases spec with ⟨q, i, hq, hi, hh, hno, hpr⟩ | ⟨hno, hpr⟩
    · have met : t.probe (fun i => (es[i]?.map (·.1)).getD 0) (rhash w k) (st.getD (t.probeStart (rhash w k))) = some (.candidate (wayR w t k (c + q)) i (nth t.mask (prb w t k) (c + (q + 1)))) := by
        rw [hst, ← shj, ← sh]
        exact hpr
      rw [met]
      dsimp only
      rw [shj] at hi
      have il : i < L.length := by
        have z := (List.getElem?_eq_some_iff.mp hi).1
        rw [Array.length_toList, R.psz] at z
        exact z
      have hL : L[i]? = some L[i] := List.getElem?_eq_getElem il
      generalize L[i] = e at hL
      have hem : e ∈ L := List.mem_of_getElem? hL
      have go : wpAny (model P w) A (searchRest a (.ref x) (rhash w k) true f es t (wayR w t k (c + q)) i (nth t.mask (prb w t k) (c + (q + 1)))) Q E s := by
        unfold searchRest
        rw [ent_at R.ent hL]
        dsimp only
        refine wpAny_bind (wpAny_holding ((nestedKind P w).eqBool (x := nkR e.2) (y := nkR k) hu (R.key e hem).kd hx.kd ?_))
        have dk : decide (nkR e.2 = nkR k) = decide (e.2 = k) := decide_eq_decide.mpr ⟨nkR_inj, fun z => by rw [z]⟩
        rw [dk]
        refine wpAny_bind (wpAny_setState_of o1 o3 R.fit ?_)
        dsimp only
        by_cases same : e.2 = k
        · exact wp_if_pos (by simp [same]) (wpAny_pure (yes (List.mem_map.mpr ⟨e, hem, same⟩)))
        · refine wp_if_neg (by simp [same]) ?_
          try refine wpAny_bind (wpAny_pure ?_)
          rw [sameMem]
          dsimp only
          have live : t.slot (wayR w t k (c + q)) = .live i := slot_live R.tab.ris hi
          simp only [if_true, live, ent_at R.ent hL]
          refine wpAny_bind (wpAny_isSame_ref_self (wpAny_bind (wpAny_pure ?_)))
          simp only [if_true]
          refine wp_if_neg (by simp [same]) ?_
          refine look_from R hx hu kf k0 k1 yes no f (c + (q + 1)) _ rfl (by omega) (by omega) fun i0 q0 h0 hk0 => ?_
          obtain ⟨c1, a1, a2, a3⟩ := later i0 q0 h0 hk0
          refine ⟨c1, ?_, a2, a3⟩
          by_cases hlt : c1 < c + q
          · exact absurd ((hsh i0 q0 h0).trans (congrArg (rhash w) hk0)) (hno (c1 - c) i0 (by omega) (by rw [shj, show c + (c1 - c) = c1 by omega]; exact a3))
          · by_cases heq : c1 = c + q
            · rw [heq] at a3
              have l2 := slot_live R.tab.ris a3
              rw [live] at l2
              injection l2 with l2
              rw [← l2, hL] at h0
              exact absurd ((congrArg Prod.snd (Option.some.inj h0)).trans hk0) same
            · omega
      by_cases hl : t.led = true
      · refine wp_if_neg (by simp [hl]) ?_
        try refine wpAny_bind (wpAny_pure ?_)
        exact go
      · refine wp_if_pos (by simp [hl]) (wpAny_bind (seen_key hx (fun y hy => ?_) ?_))
        · obtain ⟨u, hu1, hu2⟩ := List.mem_map.mp hy
          have hu3 : u ∈ es.toList := by
            have : u ∈ es ∧ u.1 = rhash w k := by simpa using hu1
            simpa using this.1
          rw [R.ent] at hu3
          obtain ⟨q2, hq2, eq2⟩ := List.mem_map.mp hu3
          exact ⟨q2.2, q2.1, by rw [← hu2, ← eq2], R.key q2 hq2⟩
        · refine wp_if_neg (by decide) ?_
          try refine wpAny_bind (wpAny_pure ?_)
          exact go
    · have met : t.probe (fun i => (es[i]?.map (·.1)).getD 0) (rhash w k) (st.getD (t.probeStart (rhash w k))) = some (.empty (wayR w t k K) none) := by
        rw [hst, show wayR w t k K = (nth t.mask (nth t.mask (prb w t k) c) (K - c)).j by rw [shj, show c + (K - c) = K by omega]]
        exact hpr
      rw [met]
      dsimp only
      refine wpAny_pure (no fun hm => ?_)
      obtain ⟨q0, h0, hk0⟩ := List.mem_map.mp hm
      obtain ⟨i0, hi0, e0⟩ := List.getElem_of_mem h0
      have h00 : L[i0]? = some q0 := by rw [List.getElem?_eq_getElem hi0, e0]
      obtain ⟨c1, a1, a2, a3⟩ := later i0 q0 h00 hk0
      exact hno (c1 - c) i0 (by omega) (by rw [shj, show c + (c1 - c) = c1 by omega]; exact a3) ((hsh i0 q0 h00).trans (congrArg (rhash w) hk0))
/-- the search as the adding asks for it -/
theorem look_at (R : SetRR w s.heap a L es ep t) {x : Addr} {k : List (List Int)} (hx : IsR s.heap k x) (hu : A.units + 8 < cLine) {Q : SetFound → Shared → Prop} (yes : k ∈ L.map (·.2) → Q (.there none) s)
    (no : ∀ K, k ∉ L.map (·.2) → wayR w t k K ∉ t.place.toList → (∀ c, c < K → wayR w t k c ∈ t.place.toList) → Q (.free (wayR w t k K) false) s) : wpAny (model P w) A (setSearch a (.ref x) (rhash w k) true) Q E s := by
  have room := R.roo
  obtain ⟨K, kf, k0, k1⟩ := R.tab.first (by unfold hasR; rw [List.length_map]; omega) (rhash w k)
  have small : K < 100000 := by
    have : 10 * SetTable.turns t.mask ≤ 1420 := by
      unfold SetTable.turns
      rcases R.tab.mok with e | e | e <;> omega
    omega
  unfold setSearch
  refine look_from R hx hu kf k0 k1 yes (fun hn => no K hn k0 k1) 100000 0 none rfl (Nat.zero_le _) (by omega) fun i q hq hk => ?_
  have hi : (hasR w L)[i]? = some (rhash w k) := by unfold hasR; rw [List.getElem?_map, hq, ← hk]; rfl
  have il : i < t.place.toList.length := by
    have z := (List.getElem?_eq_some_iff.mp hq).1
    rw [Array.length_toList, R.psz]
    exact z
  obtain ⟨c, hc, e⟩ := R.tab.before k0 hi (List.getElem?_eq_getElem il)
  exact ⟨c, Nat.zero_le _, hc, by rw [List.getElem?_eq_getElem il]; exact congrArg some e.symm⟩
end
end DL

set_option maxRecDepth 100000
set_option maxHeartbeats 4000000
/-! DPc: a set of tuples of rows: one more key, the table laid anew. -/
namespace DL
open PySem PySem.Spec PyProof.Rows L2
section
variable {P : Program} {w : World} {A : Around} {E : Value → Shared → Prop} {s : Shared} {a : Addr} {L : List RK} {es : Array (Int × Value)} {ep : Nat} {t : SetTable}
/-- a key stays one where the set alone changes -/
theorem isR_same {h h' : Heap} {k : List (List Int)} {b : Addr} {o : Obj} (x : IsR h k b) (ho : h.get? a = some o) (hd : o.data = .set es ep t) (hs : Heap.SameBut a h h') : IsR h' k b :=
  isR_at x fun c u vs n hc hu => by
    refine (hs.2 c fun e => ?_).trans hc
    rw [e, ho] at hc
    cases hc
    rw [hd] at hu
    cases hu
theorem ent_put (L : List RK) (j : Nat) (x : Addr) (k : List (List Int)) : entR w (L.take j ++ (x, k) :: L.drop j) = (entR w L).take j ++ (rhash w k, Value.ref x) :: (entR w L).drop j := by
  unfold entR
  rw [List.map_append, List.map_cons, List.map_take, List.map_drop]
theorem has_put (L : List RK) (j : Nat) (x : Addr) (k : List (List Int)) : hasR w (L.take j ++ (x, k) :: L.drop j) = (hasR w L).take j ++ rhash w k :: (hasR w L).drop j := by
  unfold hasR
  rw [List.map_append, List.map_cons, List.map_take, List.map_drop]
theorem pick_all {α : Type} (L : List α) : (List.range L.length).filterMap (fun i => L[i]?) = L := by
  have h : ∀ n, n ≤ L.length → (List.range n).filterMap (fun i => L[i]?) = L.take n := by
    intro n
    induction n with
    | zero => intro _; rfl
    | succ n ih =>
      intro hn
      rw [List.range_succ, List.filterMap_append, ih (by omega), List.take_succ, List.filterMap_cons_some (List.getElem?_eq_getElem (show n < L.length by omega)), List.getElem?_eq_getElem (show n < L.length by omega)]
      rfl
  rw [h _ (Nat.le_refl _), List.take_length]
/-- the entries in another turn -/
theorem ent_order (e : es.toList = entR w L) (order : Array Nat) (hp : order.toList.Perm (List.range L.length)) : ∃ L2 : List RK, (order.filterMap (es[·]?)).toList = entR w L2 ∧ L2.Perm L ∧ hasR w L2 = order.toList.map fun i => (es.map (·.1)).getD i 0 := by
  have key : ∀ l : List Nat, (∀ i ∈ l, i < L.length) → l.filterMap (fun i => es[i]?) = entR w (l.filterMap fun i => L[i]?) ∧ hasR w (l.filterMap fun i => L[i]?) = l.map fun i => (es.map (·.1)).getD i 0 := by
    intro l
    induction l with
    | nil => intro _; exact ⟨rfl, rfl⟩
    | cons i l ih =>
      intro hl
      have hi := hl i List.mem_cons_self
      obtain ⟨e1, e2⟩ := ih fun j hj => hl j (List.mem_cons_of_mem _ hj)
      have hL : L[i]? = some L[i] := List.getElem?_eq_getElem hi
      have hE := ent_at e hL
      have e3 : (es.map (·.1)).getD i 0 = rhash w L[i].2 := by
        have : (es.map (·.1))[i]? = some (rhash w L[i].2) := by rw [Array.getElem?_map, hE]; rfl
        simp [Array.getD_eq_getD_getElem?, this]
      rw [List.filterMap_cons_some hE, List.filterMap_cons_some hL, List.map_cons, e3, ← e2, e1]
      exact ⟨rfl, rfl⟩
  obtain ⟨e1, e2⟩ := key order.toList fun i hi => List.mem_range.mp (hp.mem_iff.mp hi)
  refine ⟨order.toList.filterMap fun i => L[i]?, by first | (rw [Array.toList_filterMap]; exact e1) | simpa using e1, ?_, e2⟩
  have := hp.filterMap fun i => L[i]?
  rwa [pick_all] at this
/-- a greater table -/
theorem relay_key {o : Obj} (o1 : s.heap.get? a = some o) (o2 : o.ExactSet) (o3 : o.data = .set es ep t) (e : es.toList = entR w L) (ps : t.place.size = es.size) (pd : t.dummies = #[]) (pm : es.size ≤ t.mask) (one : (L.map (·.2)).Nodup) (key : ∀ q ∈ L, IsR s.heap q.2 q.1) (pl : t.plain = true)
    (ld : w.params.followText "set-order" = true ∨ t.led = true) {wanted M : Nat} (hw : SetTable.sizeAbove wanted - 1 = M) (hM : MaskOk M) (hw2 : SetTable.sizeAbove wanted ≤ 128) (hn : L.length * 5 < M * 3) {Q : Unit → Shared → Prop}
    (fin : ∀ h' L' es' ep' t', Heap.SameBut a s.heap h' → SetRR w h' a L' es' ep' t' → L'.Perm L → Q () { s with heap := h' }) : wpAny (model P w) A (setRelay a wanted) Q E s := by
  have sz := ent_size e
  obtain ⟨t', order, e1, hp, T, em, el, epl, ed⟩ := relaid_ok t (hs := es.map (·.1)) (wanted := wanted) hw hM (by rw [Array.size_map, sz]; omega)
  rw [Array.size_map, sz] at hp
  obtain ⟨L2, r1, r2, r3⟩ := ent_order e order hp
  rw [← r3] at T
  have sz2 : (order.filterMap (es[·]?)).size = es.size := by rw [ent_size r1, r2.length_eq, sz]
  rw [setRelay_eq]
  refine wpAny_bind (wpAny_setState_of o1 o3 (fits_of e ps pd pm) ?_)
  dsimp only
  refine wp_if_neg (by rw [sizeLine_eq]; omega) ?_
  try refine wpAny_bind (wpAny_pure ?_)
  rw [e1]
  dsimp only
  refine wpAny_bind (wp_if_neg (by rw [sz2]; simp) ?_)
  try refine wpAny_bind (wpAny_pure ?_)
  refine wpAny_pure ?_
  dsimp only
  refine wpAny_storeSet_of o1 o3 ?_ (by rw [sz2, sz, sizeLine_eq]; omega)
  have sb : Heap.SameBut a s.heap (s.heap.update a (Obj.putSet (order.filterMap (es[·]?)) t')) := Heap.SameBut.update ..
  exact fin _ L2 (order.filterMap (es[·]?)) (ep + 1) t' sb ⟨⟨_, store_at o1 o3, ⟨o2.1, o2.2.1, o2.2.2⟩, rfl⟩, r1, T, (r2.map (·.2)).nodup_iff.mpr one, fun q hq => isR_same (key q (r2.mem_iff.mp hq)) o1 o3 sb, by rw [epl]; exact pl, by rw [el]; exact ld, by rw [r2.length_eq, em]; exact hn⟩ r2
theorem put_in {α : Type} (L : List α) (j : Nat) (x : α) : (L.take j ++ x :: L.drop j).Perm (x :: L) := by
  have h : (L.take j ++ x :: L.drop j).Perm (x :: (L.take j ++ L.drop j)) := List.perm_middle
  rwa [List.take_append_drop] at h
/-- one more -/
theorem add_key (R : SetRR w s.heap a L es ep t) {x : Addr} {k : List (List Int)} (hx : IsR s.heap k x) (hu : A.units + 8 < cLine) (few : k ∉ L.map (·.2) → L.length + 1 < 64) {Q : Bool → Shared → Prop}
    (fin : ∀ b h' L' es' ep' t', Heap.SameBut a s.heap h' → SetRR w h' a L' es' ep' t' → (k ∈ L.map (·.2) → L' = L) → (k ∉ L.map (·.2) → L'.Perm ((x, k) :: L)) → Q b { s with heap := h' }) : wpAny (model P w) A (setAddHashed a (.ref x) (rhash w k)) Q E s := by
  obtain ⟨o, o1, o2, o3⟩ := R.obj
  have sz := ent_size R.ent
  have room := R.roo
  unfold setAddHashed
  refine wpAny_holding ?_
  rw [show (100000 : Nat) = 99999 + 1 from rfl, setAddHashedIn_succ]
  refine wpAny_bind (wpAny_setState_of o1 o3 R.fit ?_)
  dsimp only
  refine wp_if_neg (by simp [byScan, Value.scannable]) ?_
  try refine wpAny_bind (wpAny_pure ?_)
  refine wpAny_bind (look_at R hx hu (fun hm => ?_) fun K hm hK hb => ?_)
  · dsimp only
    exact wpAny_pure (fin false s.heap L es ep t (Heap.SameBut.refl a s.heap) R (fun _ => rfl) fun z => absurd hm z)
  · have hfew := few hm
    dsimp only
    refine wpAny_bind (wpAny_setState_of o1 o3 R.fit ?_)
    dsimp only
    obtain ⟨q1, q2, q3, q4, q5, q6, q7, q8, q9⟩ := R.tab.put hK hb
    have hp1 : (t.put (wayR w t k K)).1.plain = true := by rw [q6]; exact R.pln
    generalize t.put (wayR w t k K) = pt at q1 q3 q4 q5 q6 q7 q8 q9 hp1 ⊢
    obtain ⟨t1, pj⟩ := pt
    dsimp only at q1 q3 q4 q5 q6 q7 q8 q9 hp1 ⊢
    subst q1
    first
      | (refine wpAny_bind ?_; refine wp_if_pos hp1 ?_; refine byV_key hx ?_)
      | refine wp_if_pos hp1 (wpAny_bind (byV_key hx ?_))
    simp only [if_true]
    have ein : (SetTable.insertAt es (SetTable.below t.place (wayR w t k K)) (rhash w k, Value.ref x)).toList = entR w (L.take (SetTable.below t.place (wayR w t k K)) ++ (x, k) :: L.drop (SetTable.below t.place (wayR w t k K))) := by
      rw [SetTable.toList_insertAt, ent_put, R.ent]
    generalize SetTable.below t.place (wayR w t k K) = j at q2 q3 ein ⊢
    rw [← has_put L j x k] at q3
    have pm := put_in L j (x, k)
    have len1 : (L.take j ++ (x, k) :: L.drop j).length = L.length + 1 := pm.length_eq
    have one1 : ((L.take j ++ (x, k) :: L.drop j).map (·.2)).Nodup := by
      refine (pm.map (·.2)).nodup_iff.mpr ?_
      rw [List.map_cons]
      exact List.nodup_cons.mpr ⟨hm, R.one⟩
    have es1z := ent_size ein
    rw [len1] at es1z
    have hl9 : t1.fill = L.length + 1 := by rw [q9]; unfold hasR; rw [List.length_map]
    generalize SetTable.insertAt es j (rhash w k, Value.ref x) = es1 at ein es1z ⊢
    generalize L.take j ++ (x, k) :: L.drop j = L1 at pm len1 q3 one1 ein
    refine wpAny_bind (wpAny_storeSet_of o1 o3 ?_ (by rw [es1z, sizeLine_eq]; omega))
    have sb : Heap.SameBut a s.heap (s.heap.update a (Obj.putSet es1 t1)) := Heap.SameBut.update ..
    have o11 := store_at (es' := es1) (t' := t1) o1 o3
    generalize s.heap.update a (Obj.putSet es1 t1) = h1 at sb o11 ⊢
    have key1 : ∀ q ∈ L1, IsR h1 q.2 q.1 := fun q hq => by
      rcases List.mem_cons.mp (pm.mem_iff.mp hq) with z | z
      · rw [z]; exact isR_same hx o1 o3 sb
      · exact isR_same (R.key q z) o1 o3 sb
    have led1 : w.params.followText "set-order" = true ∨ t1.led = true := by rw [q5]; exact R.led
    by_cases full : t1.tooFull = true
    · first
        | (refine wpAny_bind ?_; refine wp_if_pos (by simp [full]) ?_)
        | (refine wp_if_pos (by simp [full]) ?_; refine wpAny_bind ?_)
      have hfull : (L.length + 1) * 5 ≥ t1.mask * 3 := by
        have z := full
        unfold SetTable.tooFull at z
        rwa [decide_eq_true_eq, hl9] at z
      rw [sz]
      have psz1 : t1.place.size = es1.size := by
        have z := q3.sz
        unfold hasR at z
        rw [List.length_map, len1] at z
        rw [z, es1z]
      have two : (t.mask = 7 ∧ L.length = 4) ∨ (t.mask = 31 ∧ L.length = 18) := by
        rcases R.tab.mok with e | e | e
        · rw [q4, e] at hfull
          rw [e] at room
          exact .inl ⟨e, by omega⟩
        · rw [q4, e] at hfull
          rw [e] at room
          exact .inr ⟨e, by omega⟩
        · rw [q4, e] at hfull
          omega
      have go : ∀ M, SetTable.sizeAbove (SetTable.grown (L.length + 1)) - 1 = M → MaskOk M → SetTable.sizeAbove (SetTable.grown (L.length + 1)) ≤ 128 → (L.length + 1) * 5 < M * 3 →
          wpAny (model P w) A (setRelay a (SetTable.grown (L.length + 1))) (fun _ s1 => wpAny (model P w) A (pure true) Q E s1) E { s with heap := h1 } := fun M m1 m2 m3 m4 =>
        relay_key (s := { s with heap := h1 }) o11 ⟨o2.1, o2.2.1, o2.2.2⟩ rfl ein psz1 q3.dm (by rw [es1z, q4]; rcases two with ⟨e, e2⟩ | ⟨e, e2⟩ <;> omega) one1 key1 hp1 led1 m1 m2 m3 (by rw [len1]; exact m4) fun h2 L2 es2 ep2 t2 sb2 R2 pm2 =>
          wpAny_pure (fin true h2 L2 es2 ep2 t2 (sb.trans sb2) R2 (fun z => absurd z hm) fun _ => pm2.trans pm)
      rcases two with ⟨_, e2⟩ | ⟨_, e2⟩
      · exact go 31 (by rw [e2, size_20]) (.inr (.inl rfl)) (by rw [e2, size_20]; decide) (by omega)
      · exact go 127 (by rw [e2, size_76]) (.inr (.inr rfl)) (by rw [e2, size_76]; decide) (by omega)
    · first
        | refine wp_if_neg (by simp [full]) ?_
        | (refine wpAny_bind ?_; refine wp_if_neg (by simp [full]) ?_; refine wpAny_pure ?_)
      refine wpAny_pure (fin true h1 L1 es1 (ep + 1) t1 sb ⟨⟨_, o11, ⟨o2.1, o2.2.1, o2.2.2⟩, rfl⟩, ein, q3, one1, key1, hp1, led1, ?_⟩ (fun z => absurd z hm) fun _ => pm)
      have z := full
      unfold SetTable.tooFull at z
      rw [decide_eq_true_eq, hl9] at z
      rw [len1]
      omega
end
end DL

set_option maxRecDepth 100000
set_option maxHeartbeats 4000000
/-! DPd: set(..) of a list of tuples of rows, how many it has. -/
namespace DL
open PySem PySem.Spec PyProof.Rows L2
/-- each once -/
def ddM {α : Type} [DecidableEq α] : List α → List α
  | [] => []
  | x :: xs => if x ∈ xs then ddM xs else x :: ddM xs
theorem ddM_mem {α : Type} [DecidableEq α] {y : α} : ∀ {xs : List α}, y ∈ ddM xs ↔ y ∈ xs
  | [] => Iff.rfl
  | x :: xs => by
    unfold ddM
    split
    · rename_i h
      rw [ddM_mem, List.mem_cons]
      exact ⟨.inr, fun z => z.elim (fun e => e ▸ h) id⟩
    · rw [List.mem_cons, List.mem_cons, ddM_mem]
theorem ddM_nodup {α : Type} [DecidableEq α] : ∀ xs : List α, (ddM xs).Nodup
  | [] => List.nodup_nil
  | x :: xs => by
    unfold ddM
    split
    · exact ddM_nodup xs
    · rename_i h
      exact List.nodup_cons.mpr ⟨fun z => h (ddM_mem.mp z), ddM_nodup xs⟩
theorem nd_len {α : Type} [DecidableEq α] : ∀ (l D : List α), l.Nodup → (∀ x ∈ l, x ∈ D) → l.length ≤ D.length
  | [], _, _, _ => Nat.zero_le _
  | x :: l, D, hn, h => by
    rw [List.nodup_cons] at hn
    have hx := h x List.mem_cons_self
    have ih := nd_len l (D.erase x) hn.2 fun y hy => by
      have : y ≠ x := fun e => hn.1 (e ▸ hy)
      exact (List.mem_erase_of_ne this).mpr (h y (List.mem_cons_of_mem _ hy))
    rw [List.length_erase_of_mem hx] at ih
    have : 0 < D.length := List.length_pos_of_mem hx
    rw [List.length_cons]; omega
theorem ddM_le {α : Type} [DecidableEq α] {xs ys : List α} (hn : ys.Nodup) (h : ∀ y, y ∈ ys → y ∈ xs) : ys.length ≤ (ddM xs).length := nd_len _ _ hn fun y hy => ddM_mem.mpr (h y hy)
/-- what came from the first i -/
structure GotR (ks : List RK) (i : Nat) (L : List RK) : Prop where
  sub : ∀ q ∈ L, q ∈ ks.take i
  all : ∀ q ∈ ks.take i, q.2 ∈ L.map (·.2)
theorem next_take {α : Type} {l : List α} {i : Nat} {x : α} (h : l[i]? = some x) : l.take (i + 1) = l.take i ++ [x] := by
  rw [List.take_succ, h]; rfl
theorem GotR.old {ks L : List RK} {i : Nat} {x : RK} (g : GotR ks i L) (h : ks[i]? = some x) (hm : x.2 ∈ L.map (·.2)) : GotR ks (i + 1) L := by
  refine ⟨fun q hq => ?_, fun q hq => ?_⟩
  · rw [next_take h]; exact List.mem_append_left _ (g.sub q hq)
  · rw [next_take h] at hq
    exact (List.mem_append.mp hq).elim (g.all q) fun z => by rw [List.mem_singleton.mp z]; exact hm
theorem GotR.new {ks L L' : List RK} {i : Nat} {x : RK} (g : GotR ks i L) (h : ks[i]? = some x) (pm : L'.Perm (x :: L)) : GotR ks (i + 1) L' := by
  refine ⟨fun q hq => ?_, fun q hq => ?_⟩
  · rw [next_take h]
    exact (List.mem_cons.mp (pm.mem_iff.mp hq)).elim (fun e => by rw [e]; exact List.mem_append_right _ (List.mem_singleton.mpr rfl)) fun z => List.mem_append_left _ (g.sub q z)
  · rw [(pm.map (·.2)).mem_iff, List.map_cons]
    rw [next_take h] at hq
    exact (List.mem_append.mp hq).elim (fun z => List.mem_cons_of_mem _ (g.all q z)) fun z => by rw [List.mem_singleton.mp z]; exact List.mem_cons_self
section
variable {P : Program} {w : World} {A : Around} {E : Value → Shared → Prop} {s : Shared}
theorem isR_keep {h h' : Heap} {k : List (List Int)} {b : Addr} (x : IsR h k b) (hk : ∀ c o, h.get? c = some o → h'.get? c = some o) : IsR h' k b := isR_at x fun c o _ _ e _ => hk c o e
theorem SetRR.keep {h h' : Heap} {a : Addr} {L : List RK} {es : Array (Int × Value)} {ep : Nat} {t : SetTable} (R : SetRR w h a L es ep t) (ha : ∀ o, h.get? a = some o → h'.get? a = some o) (hk : ∀ q ∈ L, IsR h' q.2 q.1) : SetRR w h' a L es ep t := by
  obtain ⟨o, o1, o2⟩ := R.obj
  exact ⟨⟨o, ha o o1, o2⟩, R.ent, R.tab, R.one, hk, R.pln, R.led, R.roo⟩
abbrev newSet (w : World) : Obj := { cls := .type "set", dict := none, data := .set #[] 0 (.fresh 0 0 (!w.params.followText "set-order")) }
theorem setRR_new {h : Heap} {a : Addr} (e : h.get? a = some (newSet w)) : SetRR w h a [] #[] 0 (.fresh 0 0 (!w.params.followText "set-order")) where
  obj := ⟨_, e, ⟨rfl, rfl, rfl⟩, rfl⟩
  ent := rfl
  tab := ⟨List.Pairwise.nil, rfl, rfl, .inl rfl, (fun x hx => by cases hx), (fun i h j hi => by simp [hasR] at hi)⟩
  one := List.nodup_nil
  key := fun q hq => by cases hq
  pln := rfl
  led := by
    show _ ∨ (!w.params.followText "set-order") = true
    cases w.params.followText "set-order"
    · exact .inr rfl
    · exact .inl rfl
  roo := by show 0 * 5 < 7 * 3; decide
/-- the keys of the list go in, one by one -/
theorem set_loop {I : Addr} {fp wr : List Addr} {G : Array GenState → Array GenState → Prop} {n : Nat} {Pv : Nat → Value → Prop} {St : Nat → Shared → Prop} {R : Result → Shared → Prop} (W : WalksS P w A.in1 I fp wr G n Pv St) (S : Addr) (nSf : S ∉ fp) (ks : List RK) (hn : n = ks.length)
    (few : (ddM (ks.map (·.2))).length < 64) (val : ∀ i v, Pv i v → ∃ q, ks[i]? = some q ∧ v = .ref q.1) (h0 : Heap) (key : ∀ q ∈ ks, IsR h0 q.2 q.1) (nS0 : h0.get? S = none) (nw0 : ∀ b ∈ wr, h0.get? b = none) (hu : A.in1.units + 8 < cLine) :
    ∀ (m i : Nat) (s : Shared), n - i = m → i ≤ n → St i s → (∀ b o, h0.get? b = some o → s.heap.get? b = some o) → (∃ L es ep t, SetRR w s.heap S L es ep t ∧ GotR ks i L) →
      (∀ s1 L es ep t, Moved (S :: wr) G s s1 → SetRR w s1.heap S L es ep t → GotR ks n L → (∀ b o, h0.get? b = some o → s1.heap.get? b = some o) → R (.ok (.ret .none)) s1) → codeAny (model P w) A (.builtin "set.update.loop" ⟨[.ref S, .ref I], []⟩) R s := by
  have nSw : S ∉ wr := fun h => nSf (W.sub _ h)
  have sub : ∀ b ∈ wr, b ∈ S :: wr := fun b hb => List.mem_cons_of_mem _ hb
  have kp : ∀ {s s1 : Shared}, Moved wr G s s1 → (∀ b o, h0.get? b = some o → s.heap.get? b = some o) → ∀ b o, h0.get? b = some o → s1.heap.get? b = some o := fun mv hk b o e => mv.heap b o (fun hb => by rw [nw0 b hb] at e; cases e) (hk b o e)
  intro m
  induction m with
  | zero =>
    intro i s hm hi hst hk ⟨L, es, ep, t, hS, g⟩ fin
    obtain rfl : i = n := by omega
    refine codeAny_builtin F.entry_set_update_loop ?_
    rw [Around.under_plainId F.plain_set_update_loop _]
    show wpAny _ A.in1 (pyNext (.ref I) >>= _) _ _ s
    refine wpAny_bind (W.done s _ _ hst fun s1 mv => ?_)
    show wpAny _ A.in1 (PySem.ret Value.none) _ _ s1
    have hk1 := kp mv hk
    exact wpAny_pure (fin s1 L es ep t (mv.mono sub) (hS.keep (fun o e => mv.heap S o nSw e) fun q hq => isR_keep (key q (List.mem_of_mem_take (g.sub q hq))) hk1) g hk1)
  | succ m ih =>
    intro i s hm hi hst hk ⟨L, es, ep, t, hS, g⟩ fin
    have hlt : i < n := by omega
    refine codeAny_builtin F.entry_set_update_loop ?_
    rw [Around.under_plainId F.plain_set_update_loop _]
    show wpAny _ A.in1 (pyNext (.ref I) >>= _) _ _ s
    refine wpAny_bind (W.item i s _ _ hlt hst fun v s1 hP hst1 mv => ?_)
    obtain ⟨q, hq, rfl⟩ := val i v hP
    have hk1 := kp mv hk
    have hS1 : SetRR w s1.heap S L es ep t := hS.keep (fun o e => mv.heap S o nSw e) fun p hp => isR_keep (key p (List.mem_of_mem_take (g.sub p hp))) hk1
    have hx : IsR s1.heap q.2 q.1 := isR_keep (key q (List.mem_of_getElem? hq)) hk1
    show wpAny _ A.in1 (holding [Value.ref q.1] (setAdd S (.ref q.1)) >>= _) _ _ s1
    refine wpAny_bind (wpAny_holding ?_)
    unfold setAdd
    refine wpAny_holding (wpAny_bind ((nestedKind P w).pyHash hu hx.kd ?_))
    refine add_key (s := { s1 with toks := s1.toks + (nestedKind P w).draws (nkR q.2) }) hS1 hx hu (fun hno => ?_) fun b h1 L1 es1 ep1 t1 sb R1 c1 c2 => ?_
    · refine Nat.lt_of_le_of_lt (ddM_le (ys := q.2 :: L.map (·.2)) (List.nodup_cons.mpr ⟨hno, hS1.one⟩) fun y hy => ?_) few |> fun z => by simpa using z
      rcases List.mem_cons.mp hy with e | e
      · rw [e]; exact List.mem_map.mpr ⟨q, List.mem_of_getElem? hq, rfl⟩
      · obtain ⟨p, hp, rfl⟩ := List.mem_map.mp e
        exact List.mem_map.mpr ⟨p, List.mem_of_mem_take (g.sub p hp), rfl⟩
    have g1 : GotR ks (i + 1) L1 := by
      by_cases c : q.2 ∈ L.map (·.2)
      · rw [c1 c]; exact g.old hq c
      · exact g.new hq (c2 c)
    have hk2 : ∀ b o, h0.get? b = some o → h1.get? b = some o := fun b o e => (sb.2 b (fun z => by rw [z, nS0] at e; cases e)).trans (hk1 b o e)
    refine wpAny_pure ⟨plainId_quiet F.plain_set_update_loop _, ih (i + 1) _ (by omega) hlt (W.frame _ s1 _ _ hst1 (Nat.le_add_right _ _) fun b hb o e => ?_) hk2 ⟨L1, es1, ep1, t1, R1, g1⟩ fun s2 L2 es2 ep2 t2 mv2 R2 g2 hk3 => ?_⟩
    · rw [sb.2 b (fun h : b = S => nSf (by rw [← h]; exact hb))]; exact e
    · refine fin s2 L2 es2 ep2 t2 (Moved.trans W.gtrans ((mv.mono sub).then_heap (Nat.le_add_right _ _) fun b o hb e => ?_) mv2) R2 g2 hk3
      rw [sb.2 b (fun h : b = S => hb (by rw [h]; exact List.mem_cons_self))]; exact e
theorem none_at {h : Heap} {b : Addr} (hb : h.objs.size ≤ b) : h.get? b = none := by
  cases q : h.get? b with
  | none => rfl
  | some o => exact absurd (Nat.lt_of_lt_of_le (Heap.lt_size q) hb) (Nat.lt_irrefl _)
theorem call_set_rr {l : Addr} {items : Array Value} (ks : List RK) {Q : Value → Shared → Prop} (hh : A.handled = none) (hl : s.heap.IsList l items) (hit : items.toList = ks.map fun q => Value.ref q.1) (key : ∀ q ∈ ks, IsR s.heap q.2 q.1) (few : (ddM (ks.map (·.2))).length < 64) (hu : A.units + 16 < cLine)
    (fin : ∀ (h' : Heap) (tk : Nat) L es ep t, SetRR w h' s.heap.objs.size L es ep t → GotR ks ks.length L → (∀ b o, s.heap.get? b = some o → h'.get? b = some o) → Q (.ref s.heap.objs.size) { s with heap := h', toks := tk }) :
    wpAny (model P w) A (call (.type "set") [.ref l]) Q E s := by
  have isz : items.size = ks.length := by rw [← Array.length_toList, hit, List.length_map]
  obtain ⟨c, tl, hmro⟩ := F.called_set.mro
  have hmade := F.called_set.made
  have hsub := F.called_set.sub
  refine wpAny_call (codeAny_of_tree ?_)
  show wpAny _ _ (callAny (.type "set") _) _ _ _
  refine wpAny_pure ⟨Code.quiet_builtin _ (by decide +kernel), codeAny_builtin F.entry_type_call ?_⟩
  rw [Around.under_plain (weight_type_call_type "set" [.ref l] []) rfl]
  have h1 := F.called_set.notType
  have h2 := F.called_set.canCreate
  have hct := F.typeCall_set_1 (.ref l)
  repeat (any_goals (first | assumption | wp_step))
  have e0 := code_set_led1 (P := P) (w := w) (A := A.in1) (s := s) (.ref l) (E := E) (Q₁ := fun obj s1 => obj = .ref s.heap.objs.size ∧ s1 = { s with heap := s.heap.push (newSet w) }) ⟨rfl, rfl⟩
  refine codeAny_mono e0 fun r s1 hr => ?_
  cases r with
  | error e => exact hr
  | ok fl =>
    cases fl with
    | ret obj =>
      obtain ⟨rfl, rfl⟩ := hr
      have hS : (s.heap.push (newSet w)).get? s.heap.objs.size = some (newSet w) := Heap.get?_push_size _ rfl
      have hT : Shared.TypeIs { s with heap := s.heap.push (newSet w) } (.ref s.heap.objs.size) "set" := ⟨_, hS, rfl⟩
      have hli := F.called_set.init.lookup
      have hbi := F.called_set.init.bind (.ref s.heap.objs.size)
      repeat (any_goals (first | assumption | wp_step))
      refine codeAny_mono (codeAny_call_builtin (R := wants (fun r s2 => r = .none ∧ ∃ h' tk L es ep t, s2 = { s with heap := h', toks := tk } ∧ SetRR w h' s.heap.objs.size L es ep t ∧ GotR ks ks.length L ∧ (∀ b o, s.heap.get? b = some o → h'.get? b = some o)) E)
        F.called_set.init.plain F.entry_set_init (check_set_init_1 hT ?_)) fun r2 s2 hr2 => ?_
      · have hlS : l < s.heap.objs.size := by obtain ⟨ol, hol, _⟩ := hl; exact Heap.lt_size hol
        have hlp : (s.heap.push (newSet w)).IsList l items := hl.push _
        obtain ⟨ol, hol, hcl, nl, hdl⟩ := hlp
        obtain ⟨ocls, odict, odata, oslots⟩ := ol
        simp only at hcl hdl
        subst hcl; subst hdl
        have f1 := F.sub_list_set
        have f2 := F.sub_list_frozenset
        have f3 : (Value.type "list" == Value.type "dict") = false := by decide
        unfold Builtin.«set.__init__» noKeywords Builtin.Frozenset.updateFrom
        generalize hPI : pyIter = PI
        wp_walk
        subst hPI
        have hlp : (s.heap.push (newSet w)).IsList l items := hl.push _
        refine wpAny_pyIter_list hlp (wpAny_bind (wpAny_runValue ?_))
        have hh3 : A.in1.in1.in1.handled = none := by simp [hh]
        have z1 : (s.heap.push (newSet w)).objs.size = s.heap.objs.size + 1 := Heap.size_push ..
        have nI : l ≠ (s.heap.push (newSet w)).objs.size := by rw [z1]; exact Nat.ne_of_lt (Nat.lt_succ_of_lt hlS)
        have nS : s.heap.objs.size ∉ [(s.heap.push (newSet w)).objs.size, l] := by
          rw [z1]
          intro z
          rcases List.mem_cons.mp z with q | q
          · omega
          · rw [← List.mem_singleton.mp q] at hlS; exact Nat.lt_irrefl _ hlS
        refine set_loop ((Walks.list hh3 _ l nI items).toS) s.heap.objs.size nS ks isz few (fun i v hv => ?_) s.heap key (none_at (Nat.le_refl _)) (fun b hb => none_at ?_) (show A.units + 1 + 1 + 1 + 8 < cLine by omega) (items.size - 0) 0 _ (by omega) (Nat.zero_le _)
          ⟨⟨_, Heap.get?_push_size _ rfl, rfl, rfl⟩, hlp.push _⟩ (fun b o e => Heap.get?_push_of_some _ (Heap.get?_push_of_some _ e)) ⟨[], #[], 0, _, setRR_new (Heap.get?_push_of_some _ hS), ⟨(fun q h => by cases h), (fun q h => by simp at h)⟩⟩ fun s3 L es ep t mv hS3 g3 hk3 => ?_
        · have q : items.toList[i]? = some v := by rw [Array.getElem?_toList]; exact hv
          rw [hit, List.getElem?_map] at q
          obtain ⟨p, hp, e⟩ := Option.map_eq_some_iff.mp q
          exact ⟨p, hp, e.symm⟩
        · rw [List.mem_singleton.mp hb, z1]; omega
        · obtain ⟨h', g2, d', tk', os'⟩ := s3
          obtain rfl : g2 = s.gens := mv.gens
          obtain rfl : d' = s.drawn := mv.drawn
          obtain rfl : os' = s.os := mv.os
          show wpAny _ _ _ _ _ _
          refine wpAny_pure ?_
          show wpAny _ _ (PySem.ret Value.none) _ _ _
          rw [isz] at g3
          exact wpAny_pure ⟨rfl, h', tk', L, es, ep, t, rfl, hS3, g3, hk3⟩
      · cases r2 with
        | error e => exact hr2
        | ok fl2 =>
          cases fl2 with
          | ret r =>
            obtain ⟨rfl, h', tk, L, es, ep, t, rfl, hS3, g3, hk3⟩ := hr2
            repeat (any_goals (first | assumption | wp_step))
            exact fin _ _ _ _ _ _ hS3 g3 hk3
          | _ => exact hr2.elim
    | _ => exact hr.elim
end
end DL

set_option maxRecDepth 100000
set_option maxHeartbeats 4000000
/-! DPe: len(set(..)) of tuples of rows, as data. -/
namespace DL
open PySem PySem.Spec PyProof.Rows L2
theorem ddM_len {α : Type} [DecidableEq α] {xs ys : List α} (hn : ys.Nodup) (h : ∀ y, y ∈ ys ↔ y ∈ xs) : ys.length = (ddM xs).length :=
  ((List.perm_ext_iff_of_nodup hn (ddM_nodup xs)).mpr fun y => (h y).trans ddM_mem.symm).length_eq
/-- what is true of the set's own object -/
def SetR0 (w : World) (h : Heap) (a : Addr) (L : List RK) : Prop := ∃ es ep t, (∃ o, h.get? a = some o ∧ o.ExactSet ∧ o.data = .set es ep t) ∧ es.toList = entR w L ∧ t.place.size = L.length ∧ t.dummies = #[] ∧ L.length ≤ t.mask ∧ (L.map (·.2)).Nodup ∧ L.length < 1000
def SetRO (w : World) (a : Addr) (L : List RK) : HO := .ext fun h => SetR0 w h a L
section
variable {X : Cx} {a : Expr} {pos p p1 p2 : Pos} {τ τ1 : List SV} {nss : List (List (List Int))}
theorem nestA_of {pins : List (Addr × Obj)} {σ : L2.St} {H : Hp} {s : Shared} (I : Inv X pins σ H s) : ∀ {k : List (List Int)} {xs : List V} {its : List Value}, DpAll X.K H xs (k.map eT) → Vals xs its → NestedAll s.heap (k.map nkT) its
  | [], _, _, h, r => by cases h; cases r; exact .nil
  | t :: k, _, _, h, r => by
    cases h with
    | cons h1 h2 =>
      cases r with
      | cons r1 r2 =>
        obtain ⟨b, _, e, hk⟩ := nest_of I h1 r1
        rw [e]
        exact .cons hk.1 (nestA_of I h2 r2)
theorem nestR_of {pins : List (Addr × Obj)} {σ : L2.St} {H : Hp} {s : Shared} (I : Inv X pins σ H s) {b : Addr} {k : List (List Int)} (h : Dp X.K H (.ref b) (eTT k)) : IsR s.heap k b := by
  cases h with
  | @tup _ xs _ hs ha =>
    obtain ⟨its, rv, ⟨o, ho, hc, n, hd⟩, _⟩ := I.tuple hs
    exact .tup ho hc hd (by simpa using nestA_of I ha rv)
theorem dpAll_rk {K : PySem.W.Frag} {H : Hp} : ∀ {nss : List (List (List Int))} {xs : List V}, DpAll K H xs (nss.map eTT) → ∃ ks : List RK, xs = ks.map (fun q => V.ref q.1) ∧ nss = ks.map (·.2) ∧ ∀ q ∈ ks, Dp K H (.ref q.1) (eTT q.2)
  | [], _, h => by cases h; exact ⟨[], rfl, rfl, fun _ z => (nomatch z)⟩
  | ns :: nss, _, h => by
    cases h with
    | cons h1 h2 =>
      obtain ⟨ks, e1, e2, e3⟩ := dpAll_rk h2
      cases h1 with
      | @tup b xs _ hs ha =>
        refine ⟨(b, ns) :: ks, by rw [e1]; rfl, by rw [e2]; rfl, fun q hq => ?_⟩
        rcases List.mem_cons.mp hq with e | e
        · rw [e]; exact .tup hs ha
        · exact e3 q e
theorem refs_rk : ∀ {ks : List RK} {us : List Value}, Vals (ks.map fun q => V.ref q.1) us → us = ks.map fun q => Value.ref q.1
  | [], _, r => by cases r; rfl
  | q :: ks, _, r => by
    cases r with
    | cons r1 r2 =>
      rw [List.map_cons, refs_rk r2]
      exact congrArg (· :: _) r1
def rSetR (K : PySem.W.Frag) (w : World) : List V → Hp → VK → Prop := fun vs H Q => ∃ (l : Addr) (ks : List RK), vs = [V.ref l] ∧ SqL K H l (ks.map fun q => V.ref q.1) ∧ (∀ q ∈ ks, Dp K H (.ref q.1) (eTT q.2)) ∧ (ddM (ks.map (·.2))).length < 64 ∧
  ∀ a L, H a = none → L.length = (ddM (ks.map (·.2))).length → Q (.ref a) (upd H a (SetRO w a L))
theorem cr_setR (hc : X.calm = true) (hu : X.A.units + 64 < cLine) : CallR X (.type "set") (rSetR X.K X.w) := by
  intro pins s σ H vs us Q I r h
  obtain ⟨l, ks, rfl, hl, hk, hf, q⟩ := h
  rw [Vals.ref1 r]
  obtain ⟨its, rv, pl, hz⟩ := I.list hl
  have hn : H s.heap.objs.size = none := I.hok.fresh (Nat.le_refl _)
  refine call_set_rr (P := X.prog) (w := X.w) ks (I.ok.hd hc) pl.isList (by simpa using refs_rk rv) (fun q hq => nestR_of I (hk q hq)) hf (by omega) fun h' tk L es ep t R g k => ?_
  have hL : L.length = (ddM (ks.map (·.2))).length := by
    rw [← List.length_map (f := (·.2)) (as := L)]
    refine ddM_len R.one fun y => ⟨fun hy => ?_, fun hy => ?_⟩
    · obtain ⟨q, hq, rfl⟩ := List.mem_map.mp hy
      exact List.mem_map.mpr ⟨q, List.mem_of_mem_take (g.sub q hq), rfl⟩
    · obtain ⟨q, hq, rfl⟩ := List.mem_map.mp hy
      exact g.all q (by rw [List.take_length]; exact hq)
  have room := R.roo
  have psz : t.place.size = L.length := by
    have q := R.tab.sz
    unfold hasR at q
    rwa [List.length_map] at q
  have R0 : SetR0 X.w h' s.heap.objs.size L := ⟨es, ep, t, R.obj, R.ent, psz, R.tab.dm, by omega, R.one, by omega⟩
  refine ⟨.ref s.heap.objs.size, _, I.laid (t' := tk) k (Nat.le_refl _) (show ObjOk X.prog X.w _ _ _ (SetRO X.w s.heap.objs.size L) from ⟨R0, ?_, fun h1 h2 z kk => ?_⟩), rfl, q _ L hn hL⟩
  · obtain ⟨o, ho, _⟩ := R.obj
    exact ⟨o, ho⟩
  · obtain ⟨es', ep', t', ⟨o', o1, o2⟩, z2⟩ := z
    exact ⟨es', ep', t', ⟨o', kk o' o1, o2⟩, z2⟩
def rLenR (w : World) : List V → Hp → VK → Prop := fun vs H Q => ∃ (a : Addr) (L : List RK), vs = [V.ref a] ∧ H a = some (SetRO w a L) ∧ Q (.int L.length) H
theorem cr_lenR : CallR X (.builtin "len") (rLenR X.w) := by
  intro pins s σ H vs us Q I r h
  obtain ⟨a, L, rfl, ha, q⟩ := h
  obtain ⟨es, ep, t, ⟨o, o1, o2, o3⟩, e, ps, pd, pm, _, lt⟩ := (I.hok a _ ha).1
  rw [Vals.ref1 r]
  have sz := ent_size e
  exact call_len_set o1 o2 o3 (fits_of e (by omega) pd (by omega)) (by omega) ⟨.int L.length, H, I.tok _, ⟨_, by rw [sz]⟩, q⟩
/-- len(set(xs)) -/
theorem EV.lenSetR (hu : X.A.units + 64 < cLine) (hm : X.mg "len" = none) (hm2 : X.mg "set" = none) (h : EV X a τ (.list (nss.map eTT)) τ1) (hf : (ddM nss).length < 64) (hc : X.calm = true := by rfl) (hg : Gl X "len" := by rfl) (hg2 : Gl X "set" := by rfl)
    (he : starEach [a] X.env = (false, eval a X.env) :: starEach [] X.env := by rfl) (he2 : starEach [.Call (.Name "set" p1) [a] [] p2] X.env = (false, eval (.Call (.Name "set" p1) [a] [] p2) X.env) :: starEach [] X.env := by rfl) : EV X (.Call (.Name "len" p) [.Call (.Name "set" p1) [a] [] p2] [] pos) τ (.int ((ddM nss).length : Nat)) τ1 :=
  ⟨h.ow, fun C σ H Q S q => WE.of (pe_callB cr_lenR hg hm (by decide +kernel) (pa_cons (pe_callTy (cr_setR hc hu) hg2 hm2 (by decide +kernel) (pa_cons pe_self pa_nil he) (by decide) (by decide) he rfl) pa_nil he2) (by decide) (by decide) he2 rfl) (h.run C σ H _ S fun v H1 g1 S1 p1 => by
    cases p1 with
    | @lst l xs _ s1 s2 =>
      obtain ⟨ks, rfl, rfl, hk⟩ := dpAll_rk s2
      refine ⟨l, ks, rfl, sq_ex (hide_ex _ _) s1, fun z hz => Dp.ex (hide_ex _ _) (hk z hz), hf, fun t L ht hL => ?_⟩
      have exT : Ex H1 (upd H1 t (SetRO X.w t L)) := Ex.new ht
      refine ⟨t, L, rfl, upd_same, ?_⟩
      rw [hL]
      exact q _ _ (g1.trans (Gw.of exT)) (S1.ex exT) (.int _))⟩
end
end DL

set_option maxRecDepth 100000
set_option maxHeartbeats 4000000
/-! DPf: sorted(t), a tuple of ints. -/
namespace DL
open PySem PySem.Spec PyProof.Rows L2
def rSortIT (K : PySem.W.Frag) : List V → Hp → VK → Prop := fun vs H Q => ∃ (a : Addr) (ns : List Int), vs = [V.ref a] ∧ SqT K H a (ns.map V.int) ∧ ∀ (ms : List Int) (q : Addr), ms.Perm ns → ms.Pairwise (· ≤ ·) → H q = none → Q (.ref q) (upd H q (.lst (ms.map V.int)))
section
variable {X : Cx} {a : Expr} {pos p : Pos} {τ τ1 : List SV}
theorem cr_sortIT : CallR X (.builtin "sorted") (rSortIT X.K) := by
  intro pins s σ H vs us Q I r h
  obtain ⟨a, ns, rfl, hs, q⟩ := h
  obtain ⟨its, rv, ht, hz⟩ := I.tuple hs
  rw [Vals.ref1 r]
  have hi := rv.ints
  refine Srt.sorted_ordC SrtO.swo_int (.inr ht) (by rw [← rv.length]; exact hz) (fun h2 h1 b _ _ => SrtO.ints_sortable hi h2) fun out h1 h2 => ?_
  obtain ⟨k1, k2, k3⟩ := SrtO.ints_out hi h1 h2
  obtain ⟨ep, he⟩ := sortedAll_at s.heap its out.toArray
  have hlen : ((out.map SrtO.iv).map V.int).length ≤ sizeLine := by
    rw [List.length_map, k2.length_eq]
    rwa [List.length_map] at hz
  exact ⟨.ref _, upd H (s.heap.objs.size + 1) (.lst ((out.map SrtO.iv).map V.int)), I.laid (t' := s.toks) (fun _ _ => sortedAll_old) (Nat.le_succ _) ⟨hlen, out, ep, vals_of_ints k1, he⟩, rfl, q _ _ k2 k3 (I.hok.fresh (Nat.le_succ _))⟩
theorem EF.sortIT {ns ms : List Int} (hm : X.mg "sorted" = none) (h : EV X a τ (.tuple (ns.map PyData.int)) τ1) (hp : ms.Perm ns) (hs : ms.Pairwise (· ≤ ·)) (hg : Gl X "sorted" := by rfl) (he : starEach [a] X.env = (false, eval a X.env) :: starEach [] X.env := by rfl) : EF X (.Call (.Name "sorted" p) [a] [] pos) τ (ms.map PyData.int) τ1 :=
  ⟨h.ow, fun C σ H Q S q => WE.of (pe_callB cr_sortIT hg hm (by decide +kernel) (pa_cons pe_self pa_nil he) (by decide) (by decide) he rfl) (h.run C σ H _ S fun v H1 g1 S1 p1 => by
    cases p1 with
    | @tup b xs _ s1 s2 =>
      have e := dp_ints s2
      subst e
      refine ⟨b, ns, rfl, st_ex (hide_ex _ _) s1, fun ms' l hp' hs' hl => ?_⟩
      have e2 : ms' = ms := (hp'.trans hp.symm).eq_of_pairwise (fun a b _ _ h1 h2 => by omega) hs' hs
      subst e2
      exact q l _ _ (g1.trans (Gw.of (Ex.new hl))) (back_none S1 h.ow g1 hl) upd_same (dpInts _) (S1.addHid hl))⟩
end
end DL

set_option maxRecDepth 100000
set_option maxHeartbeats 4000000
namespace K
open PySem L2 DL
def top (i : Nat) : Stmt := PySem.Challenge.pw_drawbooks_k20_whole_names.main.body.getD i (.Pass ⟨0, 0, 0, 0⟩)
abbrev s_is_whole : Stmt := top 19
theorem sc_is_whole : FnScope ["thing", "least", "most"] ["thing", "least", "most"] (defScope s_is_whole) := ⟨rfl, rfl, rfl, by decide +kernel, rfl, by decide +kernel, by decide +kernel⟩
abbrev s_is_game : Stmt := top 20
theorem sc_is_game : FnScope ["thing", "n", "k", "p", "m", "most"] ["thing"] (defScope s_is_game) := ⟨rfl, rfl, rfl, by decide +kernel, rfl, by decide +kernel, by decide +kernel⟩
abbrev s_look_game : Stmt := top 21
theorem sc_look_game : FnScope ["game"] ["game"] (defScope s_look_game) := ⟨rfl, rfl, rfl, by decide +kernel, rfl, by decide +kernel, by decide +kernel⟩
abbrev s_chosen : Stmt := top 22
theorem sc_chosen : FnScope ["some", "many", "found", "at", "one", "rest"] ["some", "many"] (defScope s_chosen) := ⟨rfl, rfl, rfl, by decide +kernel, rfl, by decide +kernel, by decide +kernel⟩
abbrev s_numbers_of : Stmt := top 23
theorem sc_numbers_of : FnScope ["game"] ["game"] (defScope s_numbers_of) := ⟨rfl, rfl, rfl, by decide +kernel, rfl, by decide +kernel, by decide +kernel⟩
abbrev s_all_draws : Stmt := top 24
theorem sc_all_draws : FnScope ["game"] ["game"] (defScope s_all_draws) := ⟨rfl, rfl, rfl, by decide +kernel, rfl, by decide +kernel, by decide +kernel⟩
abbrev s_are_numbers : Stmt := top 25
theorem sc_are_numbers : FnScope ["game", "thing", "many", "one", "other"] ["game", "thing", "many"] (defScope s_are_numbers) := ⟨rfl, rfl, rfl, by decide +kernel, rfl, by decide +kernel, by decide +kernel⟩
abbrev s_is_good : Stmt := top 26
theorem sc_is_good : FnScope ["game", "thing", "one", "other"] ["game", "thing"] (defScope s_is_good) := ⟨rfl, rfl, rfl, by decide +kernel, rfl, by decide +kernel, by decide +kernel⟩
abbrev s_look_book : Stmt := top 27
theorem sc_look_book : FnScope ["game", "book"] ["game", "book"] (defScope s_look_book) := ⟨rfl, rfl, rfl, by decide +kernel, rfl, by decide +kernel, by decide +kernel⟩
abbrev s_shared : Stmt := top 28
theorem sc_shared : FnScope ["ticket", "draw", "one"] ["ticket", "draw"] (defScope s_shared) := ⟨rfl, rfl, rfl, by decide +kernel, rfl, by decide +kernel, by decide +kernel⟩
abbrev s_does_hold : Stmt := top 29
theorem sc_does_hold : FnScope ["game", "ticket", "draw"] ["game", "ticket", "draw"] (defScope s_does_hold) := ⟨rfl, rfl, rfl, by decide +kernel, rfl, by decide +kernel, by decide +kernel⟩
abbrev s_are_names : Stmt := top 32
theorem sc_are_names : FnScope ["game", "thing", "one"] ["game", "thing"] (defScope s_are_names) := ⟨rfl, rfl, rfl, by decide +kernel, rfl, by decide +kernel, by decide +kernel⟩
abbrev s_called : Stmt := top 33
theorem sc_called : FnScope ["book", "names", "one", "ticket"] ["book", "names"] (defScope s_called) := ⟨rfl, rfl, rfl, by decide +kernel, rfl, by decide +kernel, by decide +kernel⟩
abbrev s_renamed : Stmt := top 34
theorem sc_renamed : FnScope ["game", "book", "names"] ["game", "book", "names"] (defScope s_renamed) := ⟨rfl, rfl, rfl, by decide +kernel, rfl, by decide +kernel, by decide +kernel⟩
abbrev s_all_names : Stmt := top 35
theorem sc_all_names : FnScope ["game", "rows", "turn", "row", "one"] ["game"] (defScope s_all_names) := ⟨rfl, rfl, rfl, by decide +kernel, rfl, by decide +kernel, by decide +kernel⟩
abbrev s_look_few : Stmt := top 36
theorem sc_look_few : FnScope ["game", "book"] ["game", "book"] (defScope s_look_few) := ⟨rfl, rfl, rfl, by decide +kernel, rfl, by decide +kernel, by decide +kernel⟩
abbrev s_first_form : Stmt := top 37
theorem sc_first_form : FnScope ["game", "book", "names"] ["game", "book"] (defScope s_first_form) := ⟨rfl, rfl, rfl, by decide +kernel, rfl, by decide +kernel, by decide +kernel⟩
abbrev s_form_of : Stmt := top 38
theorem sc_form_of : FnScope ["game", "book"] ["game", "book"] (defScope s_form_of) := ⟨rfl, rfl, rfl, by decide +kernel, rfl, by decide +kernel, by decide +kernel⟩
abbrev s_are_alike : Stmt := top 39
theorem sc_are_alike : FnScope ["game", "one", "other"] ["game", "one", "other"] (defScope s_are_alike) := ⟨rfl, rfl, rfl, by decide +kernel, rfl, by decide +kernel, by decide +kernel⟩
abbrev s_keepers : Stmt := top 40
theorem sc_keepers : FnScope ["game", "book", "names"] ["game", "book"] (defScope s_keepers) := ⟨rfl, rfl, rfl, by decide +kernel, rfl, by decide +kernel, by decide +kernel⟩
abbrev s_how_many_alike : Stmt := top 41
theorem sc_how_many_alike : FnScope ["game", "book", "names"] ["game", "book"] (defScope s_how_many_alike) := ⟨rfl, rfl, rfl, by decide +kernel, rfl, by decide +kernel, by decide +kernel⟩
abbrev s_all_escapes : Stmt := top 43
theorem sc_all_escapes : FnScope ["game", "book", "draw", "ticket"] ["game", "book"] (defScope s_all_escapes) := ⟨rfl, rfl, rfl, by decide +kernel, rfl, by decide +kernel, by decide +kernel⟩
abbrev s_escapes : Stmt := top 44
theorem sc_escapes : FnScope ["game", "book"] ["game", "book"] (defScope s_escapes) := ⟨rfl, rfl, rfl, by decide +kernel, rfl, by decide +kernel, by decide +kernel⟩
abbrev s__law_town : Stmt := top 46
theorem sc__law_town : FnScope ["script"] ["script"] (defScope s__law_town) := ⟨rfl, rfl, rfl, by decide +kernel, rfl, by decide +kernel, by decide +kernel⟩
abbrev s__law_draw : Stmt := top 47
theorem sc__law_draw : FnScope ["script", "town", "many", "at", "left", "number"] ["script", "town", "many"] (defScope s__law_draw) := ⟨rfl, rfl, rfl, by decide +kernel, rfl, by decide +kernel, by decide +kernel⟩
abbrev s__law_pick : Stmt := top 48
theorem sc__law_pick : FnScope ["script", "town", "some"] ["script", "town", "some"] (defScope s__law_pick) := ⟨rfl, rfl, rfl, by decide +kernel, rfl, by decide +kernel, by decide +kernel⟩
abbrev s__law_told : Stmt := top 49
theorem sc__law_told : FnScope ["way", "some", "caught", "found", "e"] ["way", "some"] (defScope s__law_told) := ⟨rfl, rfl, rfl, by decide +kernel, rfl, by decide +kernel, by decide +kernel⟩
abbrev s__law_word : Stmt := top 50
theorem sc__law_word : FnScope ["caught", "some"] ["caught"] (defScope s__law_word) := ⟨rfl, rfl, rfl, by decide +kernel, rfl, by decide +kernel, by decide +kernel⟩
abbrev s__law_refused : Stmt := top 51
theorem sc__law_refused : FnScope ["word", "words"] ["word"] (defScope s__law_refused) := ⟨rfl, rfl, rfl, by decide +kernel, rfl, by decide +kernel, by decide +kernel⟩
abbrev s__law_game : Stmt := top 52
theorem sc__law_game : FnScope ["script", "town", "most_numbers", "n", "k", "p"] ["script", "town", "most_numbers"] (defScope s__law_game) := ⟨rfl, rfl, rfl, by decide +kernel, rfl, by decide +kernel, by decide +kernel⟩
abbrev s__law_numbers : Stmt := top 53
theorem sc__law_numbers : FnScope ["script", "town", "n", "many", "left", "some", "k", "one", "other"] ["script", "town", "n", "many"] (defScope s__law_numbers) := ⟨rfl, rfl, rfl, by decide +kernel, rfl, by decide +kernel, by decide +kernel⟩
abbrev s__law_book : Stmt := top 54
theorem sc__law_book : FnScope ["script", "town", "game", "most_tickets", "some", "k"] ["script", "town", "game", "most_tickets"] (defScope s__law_book) := ⟨rfl, rfl, rfl, by decide +kernel, rfl, by decide +kernel, by decide +kernel⟩
abbrev s__law_one : Stmt := top 55
theorem sc__law_one : FnScope ["how", "some", "game", "book", "other", "asked"] ["how", "some"] (defScope s__law_one) := ⟨rfl, rfl, rfl, by decide +kernel, rfl, by decide +kernel, by decide +kernel⟩
abbrev s__law_called : Stmt := top 56
theorem sc__law_called : FnScope ["book", "names", "rows", "ticket", "one"] ["book", "names"] (defScope s__law_called) := ⟨rfl, rfl, rfl, by decide +kernel, rfl, by decide +kernel, by decide +kernel⟩
abbrev s__law_turns : Stmt := top 57
theorem sc__law_turns : FnScope ["n", "rows", "k", "longer", "row", "one"] ["n"] (defScope s__law_turns) := ⟨rfl, rfl, rfl, by decide +kernel, rfl, by decide +kernel, by decide +kernel⟩
abbrev s__law_none : Stmt := top 58
theorem sc__law_none : FnScope ["game", "book", "n", "names", "bads", "bad", "great", "how"] ["game", "book"] (defScope s__law_none) := ⟨rfl, rfl, rfl, by decide +kernel, rfl, by decide +kernel, by decide +kernel⟩
abbrev s_law : Stmt := top 59
theorem sc_law : FnScope ["script", "town", "game", "n", "book", "other", "turns_now", "every", "names", "k", "told_now", "many", "one"] ["script"] (defScope s_law) := ⟨rfl, rfl, rfl, by decide +kernel, rfl, by decide +kernel, by decide +kernel⟩
structure Txt (K : PySem.W.Frag) (mg : Str → Option Value) : Prop where
  d_is_whole : Def K mg "is_whole" s_is_whole
  d_is_game : Def K mg "is_game" s_is_game
  d_look_game : Def K mg "look_game" s_look_game
  d_chosen : Def K mg "chosen" s_chosen
  d_numbers_of : Def K mg "numbers_of" s_numbers_of
  d_all_draws : Def K mg "all_draws" s_all_draws
  d_are_numbers : Def K mg "are_numbers" s_are_numbers
  d_is_good : Def K mg "is_good" s_is_good
  d_look_book : Def K mg "look_book" s_look_book
  d_shared : Def K mg "shared" s_shared
  d_does_hold : Def K mg "does_hold" s_does_hold
  d_are_names : Def K mg "are_names" s_are_names
  d_called : Def K mg "called" s_called
  d_renamed : Def K mg "renamed" s_renamed
  d_all_names : Def K mg "all_names" s_all_names
  d_look_few : Def K mg "look_few" s_look_few
  d_first_form : Def K mg "first_form" s_first_form
  d_form_of : Def K mg "form_of" s_form_of
  d_are_alike : Def K mg "are_alike" s_are_alike
  d_keepers : Def K mg "keepers" s_keepers
  d_how_many_alike : Def K mg "how_many_alike" s_how_many_alike
  d_all_escapes : Def K mg "all_escapes" s_all_escapes
  d_escapes : Def K mg "escapes" s_escapes
  d__law_town : Def K mg "_law_town" s__law_town
  d__law_draw : Def K mg "_law_draw" s__law_draw
  d__law_pick : Def K mg "_law_pick" s__law_pick
  d__law_told : Def K mg "_law_told" s__law_told
  d__law_word : Def K mg "_law_word" s__law_word
  d__law_refused : Def K mg "_law_refused" s__law_refused
  d__law_game : Def K mg "_law_game" s__law_game
  d__law_numbers : Def K mg "_law_numbers" s__law_numbers
  d__law_book : Def K mg "_law_book" s__law_book
  d__law_one : Def K mg "_law_one" s__law_one
  d__law_called : Def K mg "_law_called" s__law_called
  d__law_turns : Def K mg "_law_turns" s__law_turns
  d__law_none : Def K mg "_law_none" s__law_none
  d_law : Def K mg "law" s_law
  b_ValueError : mg "ValueError" = none
  b_all : mg "all" = none
  b_any : mg "any" = none
  b_bool : mg "bool" = none
  b_enumerate : mg "enumerate" = none
  b_int : mg "int" = none
  b_isinstance : mg "isinstance" = none
  b_len : mg "len" = none
  b_list : mg "list" = none
  b_min : mg "min" = none
  b_range : mg "range" = none
  b_set : mg "set" = none
  b_sorted : mg "sorted" = none
  b_tuple : mg "tuple" = none
  b_zip : mg "zip" = none
  i_MOST : ∃ t, mg "MOST" = some (.int 20 t)
  i_GREATEST : ∃ t, mg "GREATEST" = some (.int 6 t)
  e_BadBook : ExcOk K mg "BadBook"
  e_BadGame : ExcOk K mg "BadGame"
  e_BadNames : ExcOk K mg "BadNames"
  e_Full : ExcOk K mg "Full"
  g_DrawError : mg "DrawError" = some (.ref (He.ga K "DrawError"))
  g_BadGame : mg "BadGame" = some (.ref (He.ga K "BadGame"))
  g_BadTicket : mg "BadTicket" = some (.ref (He.ga K "BadTicket"))
  g_BadDraw : mg "BadDraw" = some (.ref (He.ga K "BadDraw"))
  g_BadBook : mg "BadBook" = some (.ref (He.ga K "BadBook"))
  g_BadWeights : mg "BadWeights" = some (.ref (He.ga K "BadWeights"))
  g_BadNames : mg "BadNames" = some (.ref (He.ga K "BadNames"))
  g_BadHits : mg "BadHits" = some (.ref (He.ga K "BadHits"))
  g_BadPrizes : mg "BadPrizes" = some (.ref (He.ga K "BadPrizes"))
  g_BadNumber : mg "BadNumber" = some (.ref (He.ga K "BadNumber"))
  g_Unlike : mg "Unlike" = some (.ref (He.ga K "Unlike"))
  g_Full : mg "Full" = some (.ref (He.ga K "Full"))
  g_Nothing : mg "Nothing" = some (.ref (He.ga K "Nothing"))
  g_Taken : mg "Taken" = some (.ref (He.ga K "Taken"))
  g_NoBack : mg "NoBack" = some (.ref (He.ga K "NoBack"))
  g_BadText : mg "BadText" = some (.ref (He.ga K "BadText"))
  x_all : Excs K "DrawError" clsL
section
variable {P : Program} {w : World} {K : PySem.W.Frag} {mg : Str → Option Value} {base : Heap}
local macro_rules | `(tactic| trivial) => `(tactic| omega)
local macro_rules | `(tactic| trivial) => `(tactic| (refine lt_size ?_; (try simp only [List.length_map, List.length_append, List.length_cons, List.length_nil]); omega))
local macro_rules | `(tactic| trivial) => `(tactic| (refine le_size ?_; (try simp only [List.length_map, List.length_append, List.length_cons, List.length_nil]); omega))
local macro_rules | `(tactic| trivial) => `(tactic| exact bsz_dsz (by assumption))
local macro_rules | `(tactic| trivial) => `(tactic| exact dsz_book (by assumption))
local macro_rules | `(tactic| trivial) => `(tactic| assumption)
/-! ### names as turns of the numbers -/
def ap (b : List Int) (x : Int) : Int := b.getD (x - 1).toNat 0
def comp (a b : List Int) : List Int := a.map (ap b)
def IsNm (n : Int) (a : List Int) : Prop := (a.length : Int) = n ∧ a.Nodup ∧ ∀ x, x ∈ a → x ∈ nums n
theorem mem_nmIt {n : Int} : ∀ {j : Nat} {r : List Int}, r.length = j → r.Nodup → (∀ x, x ∈ r → x ∈ nums n) → r ∈ nmIt n j
  | 0, r, h, _, _ => by
    have : r = [] := List.length_eq_zero_iff.mp h
    subst this
    exact List.mem_cons_self
  | j + 1, r, h, hn, hm => by
    obtain ⟨r', x, rfl⟩ : ∃ r' x, r = r' ++ [x] := by
      have hne : r ≠ [] := fun e => by rw [e] at h; cases h
      exact ⟨_, _, (List.dropLast_concat_getLast hne).symm⟩
    rw [List.length_append] at h
    rw [List.nodup_append] at hn
    have hx : x ∉ r' := fun z => hn.2.2 x z x List.mem_cons_self rfl
    have ih := mem_nmIt (j := j) (r := r') (by simpa using h) hn.1 fun y hy => hm y (List.mem_append_left _ hy)
    refine List.mem_flatMap.mpr ⟨r', ih, List.mem_map.mpr ⟨x, List.mem_filter.mpr ⟨hm x (List.mem_append_right _ List.mem_cons_self), ?_⟩, rfl⟩⟩
    have : memD x r' = false := by
      cases e : memD x r' with
      | false => rfl
      | true => exact absurd (memD_iff.mp e) hx
    rw [this]; rfl
theorem mem_names {n : Int} (hn : 0 ≤ n) {a : List Int} : a ∈ namesM n ↔ IsNm n a :=
  ⟨fun h => names_row hn h, fun ⟨h1, h2, h3⟩ => mem_nmIt (by omega) h2 h3⟩
theorem nums_nd (n : Int) : (nums n).Nodup := (nums_rise n).imp fun {a b} h e => by omega
theorem IsNm.perm {n : Int} (hn : 0 ≤ n) {a : List Int} (h : IsNm n a) : a.Perm (nums n) := by
  refine (List.perm_ext_iff_of_nodup h.2.1 (nums_nd n)).mpr fun x => ⟨h.2.2 x, fun hx => ?_⟩
  refine Classical.byContradiction fun hno => ?_
  have h1 : (x :: a).length ≤ (nums n).length := nd_len _ _ (List.nodup_cons.mpr ⟨hno, h.2.1⟩) fun y hy => (List.mem_cons.mp hy).elim (fun e => e ▸ hx) (h.2.2 y)
  rw [nums_len, List.length_cons] at h1
  have := h.1
  omega
theorem ap_get {b : List Int} {x : Int} (h : 1 ≤ x ∧ x ≤ (b.length : Int)) : ∃ hlt : (x - 1).toNat < b.length, ap b x = b[(x - 1).toNat] := by
  have hlt : (x - 1).toNat < b.length := by omega
  refine ⟨hlt, ?_⟩
  unfold ap
  rw [List.getD_eq_getElem?_getD, List.getElem?_eq_getElem hlt]; rfl
theorem ap_mem {n : Int} {b : List Int} (h : IsNm n b) {x : Int} (hx : x ∈ nums n) : ap b x ∈ nums n := by
  have hx' := mem_nums.mp hx
  obtain ⟨hlt, e⟩ := ap_get (b := b) (x := x) (by have := h.1; omega)
  rw [e]
  exact h.2.2 _ (List.getElem_mem hlt)
theorem ap_inj {n : Int} {b : List Int} (h : IsNm n b) {x y : Int} (hx : x ∈ nums n) (hy : y ∈ nums n) (e : ap b x = ap b y) : x = y := by
  have hx' := mem_nums.mp hx
  have hy' := mem_nums.mp hy
  have hl := h.1
  obtain ⟨h1, e1⟩ := ap_get (b := b) (x := x) (by omega)
  obtain ⟨h2, e2⟩ := ap_get (b := b) (x := y) (by omega)
  rw [e1, e2] at e
  have := (List.getElem_inj h.2.1).mp e
  omega
/-- names from what they call each number -/
theorem nm_ext {n : Int} (hn : 0 ≤ n) {b : List Int} (h : (b.length : Int) = n) : (nums n).map (ap b) = b := by
  refine List.ext_getElem? fun i => ?_
  rw [List.getElem?_map]
  by_cases hi : i < b.length
  · unfold nums
    rw [rng_get (by omega), List.getElem?_eq_getElem hi]
    show some (ap b (1 + (i : Int))) = _
    obtain ⟨hlt, e⟩ := ap_get (b := b) (x := 1 + (i : Int)) (by omega)
    rw [e]
    have : (1 + (i : Int) - 1).toNat = i := by omega
    simp only [this]
  · rw [List.getElem?_eq_none (by rw [nums_len]; omega), List.getElem?_eq_none (by omega)]; rfl
theorem ap_id {n x : Int} (hx : x ∈ nums n) : ap (nums n) x = x := by
  have hx' := mem_nums.mp hx
  obtain ⟨hlt, e⟩ := ap_get (b := nums n) (x := x) (by rw [nums_len]; omega)
  rw [e]
  have : (nums n)[(x - 1).toNat]? = some (1 + ((x - 1).toNat : Int)) := by unfold nums; exact rng_get (by omega)
  rw [List.getElem?_eq_getElem hlt] at this
  rw [Option.some.inj this]; omega
theorem isNm_id {n : Int} (hn : 0 ≤ n) : IsNm n (nums n) := ⟨by rw [nums_len]; omega, nums_nd n, fun _ h => h⟩
theorem nd_map {α β : Type} {f : α → β} : ∀ {l : List α}, (∀ x, x ∈ l → ∀ y, y ∈ l → f x = f y → x = y) → l.Nodup → (l.map f).Nodup
  | [], _, _ => List.nodup_nil
  | x :: l, h, hn => by
    rw [List.nodup_cons] at hn
    rw [List.map_cons, List.nodup_cons]
    refine ⟨fun z => ?_, nd_map (fun a ha b hb => h a (List.mem_cons_of_mem _ ha) b (List.mem_cons_of_mem _ hb)) hn.2⟩
    obtain ⟨y, hy, e⟩ := List.mem_map.mp z
    exact hn.1 (h y (List.mem_cons_of_mem _ hy) x List.mem_cons_self e ▸ hy)
theorem comp_nm {n : Int} {a b : List Int} (ha : IsNm n a) (hb : IsNm n b) : IsNm n (comp a b) := by
  refine ⟨by unfold comp; rw [List.length_map]; exact ha.1, nd_map (fun x hx y hy e => ap_inj hb (ha.2.2 x hx) (ha.2.2 y hy) e) ha.2.1, fun x hx => ?_⟩
  obtain ⟨y, hy, rfl⟩ := List.mem_map.mp hx
  exact ap_mem hb (ha.2.2 y hy)
theorem ap_comp {n : Int} {a b : List Int} (ha : IsNm n a) {x : Int} (hx : x ∈ nums n) : ap (comp a b) x = ap b (ap a x) := by
  have hx' := mem_nums.mp hx
  have hl := ha.1
  obtain ⟨h1, e1⟩ := ap_get (b := a) (x := x) (by omega)
  obtain ⟨h2, e2⟩ := ap_get (b := comp a b) (x := x) (by unfold comp; rw [List.length_map]; omega)
  rw [e1, e2]
  exact List.getElem_map ..
/-! a map of a finite list into itself -/
theorem perm_of_inj {α : Type} [DecidableEq α] {f : α → α} {l : List α} (hn : l.Nodup) (hm : ∀ x, x ∈ l → f x ∈ l) (hi : ∀ x, x ∈ l → ∀ y, y ∈ l → f x = f y → x = y) : (l.map f).Perm l := by
  have n1 := nd_map hi hn
  refine (List.perm_ext_iff_of_nodup n1 hn).mpr fun x => ⟨fun hx => ?_, fun hx => ?_⟩
  · obtain ⟨y, hy, rfl⟩ := List.mem_map.mp hx
    exact hm y hy
  · refine Classical.byContradiction fun hno => ?_
    have h1 : (x :: l.map f).length ≤ l.length := nd_len _ _ (List.nodup_cons.mpr ⟨hno, n1⟩) fun y hy => (List.mem_cons.mp hy).elim (fun e => e ▸ hx) fun z => by
      obtain ⟨u, hu, rfl⟩ := List.mem_map.mp z
      exact hm u hu
    rw [List.length_cons, List.length_map] at h1
    omega
def nmNdB (n : Nat) : Bool := decide ((namesM (n : Int)).Nodup)
theorem nmNd_all : ((List.range 6).all nmNdB) = true := by decide +kernel
theorem names_nd {n : Int} (hn : 0 ≤ n ∧ n ≤ 5) : (namesM n).Nodup := by
  have h := List.all_eq_true.mp nmNd_all n.toNat (List.mem_range.mpr (by omega))
  unfold nmNdB at h
  rw [Int.toNat_of_nonneg hn.1] at h
  exact of_decide_eq_true h
theorem left_perm {n : Int} (hn : 0 ≤ n ∧ n ≤ 5) {a : List Int} (ha : IsNm n a) : ((namesM n).map (comp a)).Perm (namesM n) := by
  refine perm_of_inj (names_nd hn) (fun b hb => (mem_names hn.1).mpr (comp_nm ha ((mem_names hn.1).mp hb))) fun b hb c hc e => ?_
  have hb' := (mem_names hn.1).mp hb
  have hc' := (mem_names hn.1).mp hc
  rw [← nm_ext hn.1 hb'.1, ← nm_ext hn.1 hc'.1]
  refine List.map_congr_left fun x hx => ?_
  have hxa : x ∈ a := (ha.perm hn.1).mem_iff.mpr hx
  unfold comp at e
  exact List.map_inj_left.mp e x hxa
theorem right_perm {n : Int} (hn : 0 ≤ n ∧ n ≤ 5) {a : List Int} (ha : IsNm n a) : ((namesM n).map fun c => comp c a).Perm (namesM n) := by
  refine perm_of_inj (names_nd hn) (fun b hb => (mem_names hn.1).mpr (comp_nm ((mem_names hn.1).mp hb) ha)) fun b hb c hc e => ?_
  have hb' := (mem_names hn.1).mp hb
  have hc' := (mem_names hn.1).mp hc
  have hl : b.length = c.length := by have h1 := hb'.1; have h2 := hc'.1; omega
  refine List.ext_getElem hl fun i h1 h2 => ?_
  have : (comp b a)[i]? = (comp c a)[i]? := by rw [e]
  unfold comp at this
  rw [List.getElem?_map, List.getElem?_map, List.getElem?_eq_getElem h1, List.getElem?_eq_getElem h2] at this
  exact ap_inj ha (hb'.2.2 _ (List.getElem_mem h1)) (hc'.2.2 _ (List.getElem_mem h2)) (Option.some.inj this)
theorem inv_ex {n : Int} (hn : 0 ≤ n ∧ n ≤ 5) {a : List Int} (ha : IsNm n a) : ∃ b, IsNm n b ∧ comp a b = nums n := by
  have : nums n ∈ (namesM n).map (comp a) := (left_perm hn ha).mem_iff.mpr ((mem_names hn.1).mpr (isNm_id hn.1))
  obtain ⟨b, hb, e⟩ := List.mem_map.mp this
  exact ⟨b, (mem_names hn.1).mp hb, e⟩
/-! ### sorting forgets the turn -/
theorem sortI_uniq {xs ys : List Int} (h : xs.Perm ys) : sortI xs = sortI ys := by
  have p : (sortI xs).Perm (sortI ys) := (sortI_perm xs).trans (h.trans (sortI_perm ys).symm)
  exact p.eq_of_pairwise (fun a b _ _ h1 h2 => by omega) (sortI_rise xs) (sortI_rise ys)
theorem sortI_id {xs : List Int} (h : xs.Pairwise (· < ·)) : sortI xs = xs :=
  (sortI_perm xs).eq_of_pairwise (fun a b _ _ h1 h2 => by omega) (sortI_rise xs) (h.imp fun {a b} z => by omega)
theorem lex_anti {a b : List Int} (h1 : HT.lexLt b a = false) (h2 : HT.lexLt a b = false) : a = b := by
  refine Classical.byContradiction fun hne => ?_
  rw [lex_lt hne h1] at h2
  cases h2
theorem sortM_uniq {xs ys : List (List Int)} (h : xs.Perm ys) : sortM xs = sortM ys := by
  have p : (sortM xs).Perm (sortM ys) := (sortM_perm xs).trans (h.trans (sortM_perm ys).symm)
  exact p.eq_of_pairwise (fun a b _ _ h1 h2 => lex_anti h1 h2) (sortM_rise xs) (sortM_rise ys)
theorem sortM_id {xs : List (List Int)} (h : xs.Pairwise fun a b => HT.lexLt a b = true) : sortM xs = xs :=
  (sortM_perm xs).eq_of_pairwise (fun a b _ _ h1 h2 => lex_anti h1 h2) (sortM_rise xs) (h.imp fun {a b} z => Srt.lexLt_swo.asym _ _ z)
/-! ### tickets and books by other names -/
theorem callM_perm (b t : List Int) : (callM b t).Perm (t.map (ap b)) := sortI_perm _
theorem call_mem {n k : Int} (hk : 0 ≤ k) {b t : List Int} (hb : IsNm n b) (ht : t ∈ ticketsM n k) : callM b t ∈ ticketsM n k := by
  have h1 := (areNums_iff (n := n) (k := k)).mp ((areNums_mem hk).mpr ht)
  refine (areNums_mem hk).mp (areNums_iff.mpr ⟨by rw [callM_len]; exact h1.1, fun x hx => ?_, ?_⟩)
  · obtain ⟨y, hy, rfl⟩ := List.mem_map.mp ((callM_perm b t).mem_iff.mp hx)
    exact mem_nums.mp (ap_mem hb (mem_nums.mpr (h1.2.1 y hy)))
  · refine lt_of_le_nodup (sortI_rise _) ((sortI_perm _).nodup_iff.mpr (nd_map (fun x hx y hy e => ap_inj hb (mem_nums.mpr (h1.2.1 x hx)) (mem_nums.mpr (h1.2.1 y hy)) e) ?_))
    exact h1.2.2.imp fun {a b} z e => by omega
theorem tk_nums {n k : Int} {t : List Int} (ht : t ∈ ticketsM n k) : ∀ x, x ∈ t → x ∈ nums n := fun x hx => mem_nums.mpr (ticket_mem ht x hx)
theorem call_comp {n k : Int} {a b t : List Int} (ha : IsNm n a) (ht : t ∈ ticketsM n k) : callM b (callM a t) = callM (comp a b) t := by
  have e1 : callM b (callM a t) = sortI ((callM a t).map (ap b)) := rfl
  have e2 : callM (comp a b) t = sortI (t.map (ap (comp a b))) := rfl
  rw [e1, e2]
  refine sortI_uniq (((callM_perm a t).map (ap b)).trans ?_)
  rw [List.map_map]
  refine List.Perm.of_eq (List.map_congr_left fun x hx => ?_)
  exact (ap_comp ha (tk_nums ht x hx)).symm
theorem call_id {n k : Int} {t : List Int} (ht : t ∈ ticketsM n k) : callM (nums n) t = t := by
  have e : callM (nums n) t = sortI (t.map (ap (nums n))) := rfl
  rw [e, show t.map (ap (nums n)) = t from (List.map_congr_left fun x hx => ap_id (tk_nums ht x hx)).trans (List.map_id t), sortI_id (ticket_rise ht)]
theorem call_inj {n k : Int} (hn : 0 ≤ n ∧ n ≤ 5) {a t u : List Int} (ha : IsNm n a) (ht : t ∈ ticketsM n k) (hu : u ∈ ticketsM n k) (e : callM a t = callM a u) : t = u := by
  obtain ⟨b, hb, hab⟩ := inv_ex hn ha
  rw [← call_id ht, ← call_id hu, ← hab, ← call_comp ha ht, ← call_comp ha hu, e]
theorem called_perm (book : List (List Int)) (b : List Int) : (calledM book b).Perm (book.map (callM b)) := sortM_perm _
theorem called_book {n k : Int} (hn : 0 ≤ n ∧ n ≤ 5) (hk : 0 ≤ k) {book : List (List Int)} {b : List Int} (hb : IsNm n b) (hB : IsBook n k book) : IsBook n k (calledM book b) := by
  refine ⟨fun t ht => ?_, ?_⟩
  · obtain ⟨u, hu, rfl⟩ := List.mem_map.mp ((called_perm book b).mem_iff.mp ht)
    exact call_mem hk hb (hB.mem u hu)
  · have nd : (calledM book b).Nodup := (called_perm book b).nodup_iff.mpr (nd_map (fun x hx y hy e => call_inj hn hb (hB.mem x hx) (hB.mem y hy) e) hB.nodup)
    exact ((sortM_rise (book.map (callM b))).and nd).imp fun {x y} z => lex_lt z.2 z.1
theorem called_len (book : List (List Int)) (b : List Int) : (calledM book b).length = book.length := by rw [(called_perm book b).length_eq, List.length_map]
theorem called_comp {n k : Int} {book : List (List Int)} {a b : List Int} (ha : IsNm n a) (hB : ∀ t, t ∈ book → t ∈ ticketsM n k) : calledM (calledM book a) b = calledM book (comp a b) := by
  have e1 : calledM (calledM book a) b = sortM ((calledM book a).map (callM b)) := rfl
  have e2 : calledM book (comp a b) = sortM (book.map (callM (comp a b))) := rfl
  rw [e1, e2]
  refine sortM_uniq (((called_perm book a).map (callM b)).trans ?_)
  rw [List.map_map]
  exact List.Perm.of_eq (List.map_congr_left fun t ht => call_comp ha (hB t ht))
theorem called_id {n k : Int} {book : List (List Int)} (hB : IsBook n k book) : calledM book (nums n) = book := by
  have e : calledM book (nums n) = sortM (book.map (callM (nums n))) := rfl
  rw [e, show book.map (callM (nums n)) = book from (List.map_congr_left fun t ht => call_id (hB.mem t ht)).trans (List.map_id book), sortM_id hB.rise]
theorem called_inj {n k : Int} (hn : 0 ≤ n ∧ n ≤ 5) {a : List Int} {x y : List (List Int)} (ha : IsNm n a) (hx : IsBook n k x) (hy : IsBook n k y) (e : calledM x a = calledM y a) : x = y := by
  obtain ⟨b, hb, hab⟩ := inv_ex hn ha
  rw [← called_id hx, ← called_id hy, ← hab, ← called_comp ha hx.mem, ← called_comp ha hy.mem, e]
/-! ### all of them -/
def allM (n : Int) (book : List (List Int)) : List (List (List Int)) := (namesM n).map (calledM book)
theorem all_perm {n k : Int} (hn : 0 ≤ n ∧ n ≤ 5) {book : List (List Int)} {a : List Int} (ha : IsNm n a) (hB : IsBook n k book) : (allM n (calledM book a)).Perm (allM n book) := by
  have e : allM n (calledM book a) = ((namesM n).map (comp a)).map (calledM book) := by
    unfold allM
    rw [List.map_map]
    exact List.map_congr_left fun c _ => called_comp ha hB.mem
  rw [e]
  exact (left_perm hn ha).map _
theorem self_mem {n k : Int} (hn : 0 ≤ n) {book : List (List Int)} (hB : IsBook n k book) : book ∈ allM n book := List.mem_map.mpr ⟨nums n, (mem_names hn).mpr (isNm_id hn), called_id hB⟩
/-! the least -/
theorem lexT_irr : ∀ x : List (List Int), lexT x x = false
  | [] => rfl
  | x :: xs => by unfold lexT; rw [if_pos rfl]; exact lexT_irr xs
theorem lexT_tot : ∀ x y : List (List Int), lexT x y = false → lexT y x = false → x = y
  | [], [], _, _ => rfl
  | [], _ :: _, h, _ => by cases h
  | _ :: _, [], _, h => by cases h
  | x :: xs, y :: ys, h1, h2 => by
    unfold lexT at h1 h2
    by_cases e : x = y
    · rw [if_pos e] at h1
      rw [if_pos e.symm] at h2
      rw [e, lexT_tot xs ys h1 h2]
    · rw [if_neg e] at h1
      rw [if_neg (Ne.symm e)] at h2
      exact absurd (lex_anti h2 h1) e
theorem lexT_tr : ∀ x y z : List (List Int), lexT x y = false → lexT y z = false → lexT x z = false
  | [], y, [], _, _ => rfl
  | [], [], _ :: _, _, h => by cases h
  | [], _ :: _, _ :: _, h, _ => by cases h
  | _ :: _, _, [], _, _ => rfl
  | _ :: _, [], _ :: _, _, h => by cases h
  | x :: xs, y :: ys, z :: zs, h1, h2 => by
    unfold lexT at h1 h2 ⊢
    by_cases e1 : x = y
    · subst e1
      rw [if_pos rfl] at h1
      by_cases e2 : x = z
      · rw [if_pos e2] at h2 ⊢
        exact lexT_tr xs ys zs h1 h2
      · rw [if_neg e2] at h2 ⊢
        exact h2
    · rw [if_neg e1] at h1
      have hxy : HT.lexLt y x = true := lex_lt (Ne.symm e1) h1
      by_cases e2 : y = z
      · subst e2
        rw [if_neg e1]; exact h1
      · rw [if_neg e2] at h2
        have hyz : HT.lexLt z y = true := lex_lt (Ne.symm e2) h2
        have hzx := lex_tr hyz hxy
        have hne : x ≠ z := fun e => by rw [e, lexLt_irr] at hzx; cases hzx
        rw [if_neg hne]
        exact Srt.lexLt_swo.asym _ _ hzx
theorem minT_spec : ∀ (xs : List (List (List Int))) (q : List (List Int)), minF lexT q xs ∈ q :: xs ∧ ∀ y, y ∈ q :: xs → lexT y (minF lexT q xs) = false
  | [], q => ⟨List.mem_cons_self, fun y hy => by rw [List.mem_singleton.mp hy]; exact lexT_irr q⟩
  | x :: xs, q => by
    have e : minF lexT q (x :: xs) = minF lexT (if lexT x q = true then x else q) xs := rfl
    rw [e]
    by_cases h : lexT x q = true
    · rw [if_pos h]
      obtain ⟨h1, h2⟩ := minT_spec xs x
      refine ⟨List.mem_cons_of_mem _ h1, fun y hy => ?_⟩
      rcases List.mem_cons.mp hy with z | z
      · have hxm := h2 x List.mem_cons_self
        rw [z]
        refine lexT_tr _ _ _ ?_ hxm
        cases hq : lexT q x with
        | false => rfl
        | true =>
          exfalso
          have : ∀ a b : List (List Int), lexT a b = true → lexT b a = true → False := fun a b => by
            induction a generalizing b with
            | nil =>
              cases b with
              | nil => intro h1; cases h1
              | cons b bs => intro _ h2; exact absurd h2 (by simp [lexT])
            | cons a as ih =>
              cases b with
              | nil => intro h1; cases h1
              | cons b bs =>
                intro h1 h2
                unfold lexT at h1 h2
                by_cases e : a = b
                · rw [if_pos e] at h1
                  rw [if_pos e.symm] at h2
                  exact ih bs h1 h2
                · rw [if_neg e] at h1
                  rw [if_neg (Ne.symm e)] at h2
                  rw [Srt.lexLt_swo.asym _ _ h1] at h2
                  cases h2
          exact this _ _ h hq
      · exact h2 y z
    · rw [if_neg h]
      have h' : lexT x q = false := by
        cases z : lexT x q with
        | false => rfl
        | true => exact absurd z h
      obtain ⟨h1, h2⟩ := minT_spec xs q
      refine ⟨?_, fun y hy => ?_⟩
      · rcases List.mem_cons.mp h1 with z | z
        · rw [z]; exact List.mem_cons_self
        · exact List.mem_cons_of_mem _ (List.mem_cons_of_mem _ z)
      · rcases List.mem_cons.mp hy with z | z
        · exact h2 y (by rw [z]; exact List.mem_cons_self)
        · rcases List.mem_cons.mp z with u | u
          · rw [u]
            exact lexT_tr _ _ _ h' (h2 q List.mem_cons_self)
          · exact h2 y (List.mem_cons_of_mem _ u)
theorem first_spec {n : Int} (hn : 0 ≤ n ∧ n ≤ 6) (book : List (List Int)) : firstM n book ∈ allM n book ∧ ∀ y, y ∈ allM n book → lexT y (firstM n book) = false := by
  unfold firstM allM
  cases e : (namesM n).map (calledM book) with
  | nil => exact absurd (List.map_eq_nil_iff.mp e) (names_ne hn)
  | cons q qs => exact minT_spec qs q
theorem first_eq {n : Int} (hn : 0 ≤ n ∧ n ≤ 6) {x y : List (List Int)} (h : ∀ z, z ∈ allM n x ↔ z ∈ allM n y) : firstM n x = firstM n y := by
  obtain ⟨a1, a2⟩ := first_spec hn x
  obtain ⟨b1, b2⟩ := first_spec hn y
  exact lexT_tot _ _ (b2 _ ((h _).mp a1)) (a2 _ ((h _).mpr b1))
theorem first_called {n k : Int} (hn : 0 ≤ n ∧ n ≤ 5) {book : List (List Int)} {a : List Int} (ha : IsNm n a) (hB : IsBook n k book) : firstM n (calledM book a) = firstM n book :=
  first_eq (by omega) fun z => (all_perm hn ha hB).mem_iff
theorem alike_iff {n k : Int} (hn : 0 ≤ n ∧ n ≤ 5) (hk : 0 ≤ k) {book other : List (List Int)} (hB : IsBook n k book) (hO : IsBook n k other) : firstM n book = firstM n other ↔ other ∈ allM n book := by
  constructor
  · intro e
    obtain ⟨h1, _⟩ := first_spec (n := n) (by omega) book
    obtain ⟨h2, _⟩ := first_spec (n := n) (by omega) other
    rw [← e] at h2
    obtain ⟨a, ha, ea⟩ := List.mem_map.mp h1
    obtain ⟨c, hc, ec⟩ := List.mem_map.mp h2
    have h3 : other ∈ allM n (calledM other c) := (all_perm hn ((mem_names hn.1).mp hc) hO).mem_iff.mpr (self_mem hn.1 hO)
    rw [ec, ← ea] at h3
    exact (all_perm hn ((mem_names hn.1).mp ha) hB).mem_iff.mp h3
  · intro h
    obtain ⟨a, ha, rfl⟩ := List.mem_map.mp h
    exact (first_called hn ((mem_names hn.1).mp ha) hB).symm
/-! ### how often each comes -/
def cntD {α : Type} [DecidableEq α] (xs : List α) (y : α) : Nat := (xs.filter fun x => decide (x = y)).length
theorem cntD_perm {α : Type} [DecidableEq α] {xs ys : List α} (h : xs.Perm ys) (y : α) : cntD xs y = cntD ys y := (h.filter _).length_eq
theorem cntD_map {α β : Type} [DecidableEq β] {f : α → β} {y : β} (l : List α) : cntD (l.map f) y = (l.filter fun x => decide (f x = y)).length := by
  unfold cntD
  rw [List.filter_map, List.length_map]; rfl
theorem cntD_cons {α : Type} [DecidableEq α] (x : α) (xs : List α) (y : α) : cntD (x :: xs) y = cntD xs y + if x = y then 1 else 0 := by
  unfold cntD
  rw [List.filter_cons]
  by_cases e : x = y
  · simp [e]
  · simp [e]
theorem all_count {n k : Int} (hn : 0 ≤ n ∧ n ≤ 5) (hk : 0 ≤ k) {book y : List (List Int)} (hB : IsBook n k book) (hy : y ∈ allM n book) : cntD (allM n book) y = cntD (allM n book) book := by
  obtain ⟨a, ha, rfl⟩ := List.mem_map.mp hy
  have ha' := (mem_names hn.1).mp ha
  have e1 : cntD (allM n book) (calledM book a) = cntD (((namesM n).map fun c => comp c a).map (calledM book)) (calledM book a) := cntD_perm ((right_perm hn ha').map _).symm _
  rw [e1, List.map_map]
  unfold allM
  rw [cntD_map, cntD_map]
  congr 1
  refine List.filter_congr fun c hc => ?_
  have hc' := (mem_names hn.1).mp hc
  show decide (calledM book (comp c a) = calledM book a) = decide (calledM book c = book)
  rw [← called_comp hc' hB.mem]
  refine decide_eq_decide.mpr ⟨fun e => called_inj hn ha' (called_book hn hk hc' hB) hB e, fun e => by rw [e]⟩
theorem sum_ind {α : Type} [DecidableEq α] {x : α} : ∀ {ds : List α}, ds.Nodup → x ∈ ds → (ds.map fun y => if x = y then 1 else 0).sum = 1
  | [], _, h => (nomatch h)
  | d :: ds, hn, h => by
    rw [List.nodup_cons] at hn
    rw [List.map_cons, List.sum_cons]
    by_cases e : x = d
    · rw [if_pos e]
      have : ∀ l : List α, x ∉ l → (l.map fun y => if x = y then 1 else 0).sum = 0 := fun l => by
        induction l with
        | nil => intro _; rfl
        | cons y l ih =>
          intro hl
          rw [List.map_cons, List.sum_cons, ih fun z => hl (List.mem_cons_of_mem _ z), if_neg fun z => hl (by rw [z]; exact List.mem_cons_self)]
      rw [this ds (by rw [e]; exact hn.1)]
    · rw [if_neg e, sum_ind hn.2 ((List.mem_cons.mp h).resolve_left e)]
theorem sum_add {α : Type} (f g : α → Nat) : ∀ l : List α, (l.map fun y => f y + g y).sum = (l.map f).sum + (l.map g).sum
  | [] => rfl
  | x :: l => by
    have := sum_add f g l
    rw [List.map_cons, List.map_cons, List.map_cons, List.sum_cons, List.sum_cons, List.sum_cons, this]; omega
theorem len_counts {α : Type} [DecidableEq α] {ds : List α} (hn : ds.Nodup) : ∀ {xs : List α}, (∀ x, x ∈ xs → x ∈ ds) → xs.length = (ds.map fun y => cntD xs y).sum
  | [], _ => by
    have : ∀ l : List α, (l.map fun y => cntD ([] : List α) y).sum = 0 := fun l => by
      induction l with
      | nil => rfl
      | cons y l ih => rw [List.map_cons, List.sum_cons, ih]; rfl
    rw [this]; rfl
  | x :: xs, h => by
    have ih := len_counts hn (xs := xs) fun y hy => h y (List.mem_cons_of_mem _ hy)
    have e : (ds.map fun y => cntD (x :: xs) y) = ds.map fun y => cntD xs y + if x = y then 1 else 0 := List.map_congr_left fun y _ => cntD_cons x xs y
    rw [e, sum_add, sum_ind hn (h x List.mem_cons_self), ← ih, List.length_cons]
theorem sum_same {α : Type} {f : α → Nat} {m : Nat} : ∀ {l : List α}, (∀ x, x ∈ l → f x = m) → (l.map f).sum = m * l.length
  | [], _ => rfl
  | x :: l, h => by
    rw [List.map_cons, List.sum_cons, sum_same (fun y hy => h y (List.mem_cons_of_mem _ hy)), h x List.mem_cons_self, List.length_cons, Nat.mul_succ]; omega
theorem all_times {n k : Int} (hn : 0 ≤ n ∧ n ≤ 5) (hk : 0 ≤ k) {book : List (List Int)} (hB : IsBook n k book) : cntD (allM n book) book * (ddM (allM n book)).length = (namesM n).length := by
  have h1 := len_counts (ddM_nodup (allM n book)) (xs := allM n book) fun x hx => ddM_mem.mpr hx
  rw [sum_same fun y hy => all_count hn hk hB (ddM_mem.mp hy)] at h1
  rw [← h1]
  unfold allM
  rw [List.length_map]
/-! ### what escapes -/
theorem shared_call {n k p : Int} {a t d : List Int} (ha : IsNm n a) (ht : t ∈ ticketsM n k) (hd : d ∈ ticketsM n p) : sharedM (callM a t) (callM a d) = sharedM t d := by
  unfold sharedM
  have e1 : ((callM a t).filter fun x => memD x (callM a d)).length = ((t.map (ap a)).filter fun x => memD x (callM a d)).length := ((callM_perm a t).filter _).length_eq
  rw [e1, List.filter_map, List.length_map]
  congr 1
  refine List.filter_congr fun x hx => ?_
  show memD (ap a x) (callM a d) = memD x d
  unfold memD
  refine decide_eq_decide.mpr ⟨fun h => ?_, fun h => (callM_perm a d).mem_iff.mpr (List.mem_map.mpr ⟨x, h, rfl⟩)⟩
  obtain ⟨y, hy, e⟩ := List.mem_map.mp ((callM_perm a d).mem_iff.mp h)
  rw [← ap_inj ha (tk_nums hd y hy) (tk_nums ht x hx) e]; exact hy
theorem tickets_call {n p : Int} (hn : 0 ≤ n ∧ n ≤ 5) (hp : 0 ≤ p ∧ p ≤ 5) {a : List Int} (ha : IsNm n a) : ((ticketsM n p).map (callM a)).Perm (ticketsM n p) :=
  perm_of_inj (tickets_rise (n := n) (k := p) (by omega)).nodup (fun t ht => call_mem hp.1 ha ht) fun t ht u hu e => call_inj hn ha ht hu e
theorem esc_call {n k p m : Int} (hn : 0 ≤ n ∧ n ≤ 5) (hp : 0 ≤ p ∧ p ≤ 5) {a : List Int} {book : List (List Int)} (ha : IsNm n a) (hB : IsBook n k book) : (escM n p m (calledM book a)).length = (escM n p m book).length := by
  unfold escM
  have e1 := ((tickets_call hn hp ha).filter fun d => !((calledM book a).any fun t => holdsM m t d)).length_eq
  rw [← e1, List.filter_map, List.length_map]
  congr 1
  refine List.filter_congr fun d hd => ?_
  show (!((calledM book a).any fun t => holdsM m t (callM a d))) = !(book.any fun t => holdsM m t d)
  congr 1
  have e2 : (calledM book a).any (fun t => holdsM m t (callM a d)) = (book.map (callM a)).any fun t => holdsM m t (callM a d) := by
    rw [Bool.eq_iff_iff, List.any_eq_true, List.any_eq_true]
    exact ⟨fun ⟨t, h1, h2⟩ => ⟨t, (called_perm book a).mem_iff.mp h1, h2⟩, fun ⟨t, h1, h2⟩ => ⟨t, (called_perm book a).mem_iff.mpr h1, h2⟩⟩
  rw [e2, List.any_map, Bool.eq_iff_iff, List.any_eq_true, List.any_eq_true]
  have e3 : ∀ t, t ∈ book → holdsM m (callM a t) (callM a d) = holdsM m t d := fun t ht => by
    unfold holdsM
    rw [shared_call ha (hB.mem t ht) hd]
  exact ⟨fun ⟨t, h1, h2⟩ => ⟨t, h1, by rw [← e3 t h1]; exact h2⟩, fun ⟨t, h1, h2⟩ => ⟨t, h1, by show holdsM m (callM a t) (callM a d) = true; rw [e3 t h1]; exact h2⟩⟩
/-! ### no more than sixty -/
def subsL {α : Type} : List α → Nat → List (List α)
  | [], _ => [[]]
  | _ :: _, 0 => [[]]
  | x :: xs, j + 1 => (subsL xs j).map (x :: ·) ++ subsL xs (j + 1)
theorem nil_subs {α : Type} : ∀ (xs : List α) (j : Nat), [] ∈ subsL xs j
  | [], _ => List.mem_cons_self
  | _ :: _, 0 => List.mem_cons_self
  | _ :: xs, j + 1 => List.mem_append_right _ (nil_subs xs (j + 1))
theorem mem_subs {α : Type} : ∀ {xs c : List α} {j : Nat}, c.Sublist xs → c.length ≤ j → c ∈ subsL xs j
  | [], c, j, h, _ => by rw [List.sublist_nil.mp h]; exact nil_subs _ _
  | x :: xs, c, 0, h, hl => by rw [List.length_eq_zero_iff.mp (Nat.le_zero.mp hl)]; exact nil_subs _ _
  | x :: xs, c, j + 1, h, hl => by
    cases h with
    | cons _ h => exact List.mem_append_right _ (mem_subs h hl)
    | @cons_cons c' _ _ h => exact List.mem_append_left _ (List.mem_map.mpr ⟨c', mem_subs h (by simpa using hl), rfl⟩)
theorem sub_of_lex : ∀ {xs t : List (List Int)}, xs.Pairwise (fun a b => HT.lexLt a b = true) → t.Pairwise (fun a b => HT.lexLt a b = true) → (∀ x, x ∈ t → x ∈ xs) → t.Sublist xs
  | [], t, _, _, h => by
    cases t with
    | nil => exact List.Sublist.refl _
    | cons y t => exact absurd (h y List.mem_cons_self) (fun z => nomatch z)
  | x :: xs, [], _, _, _ => List.nil_sublist _
  | x :: xs, y :: t, h1, h2, h => by
    rw [List.pairwise_cons] at h1 h2
    by_cases e : y = x
    · subst e
      refine List.Sublist.cons_cons _ (sub_of_lex h1.2 h2.2 fun z hz => ?_)
      rcases List.mem_cons.mp (h z (List.mem_cons_of_mem _ hz)) with u | u
      · exfalso
        have := h2.1 z hz
        rw [u, lexLt_irr] at this
        cases this
      · exact u
    · have hy : y ∈ xs := (List.mem_cons.mp (h y List.mem_cons_self)).resolve_left e
      refine List.Sublist.cons _ (sub_of_lex h1.2 (List.pairwise_cons.mpr h2) fun z hz => ?_)
      rcases List.mem_cons.mp hz with u | u
      · rw [u]; exact hy
      · rcases List.mem_cons.mp (h z (List.mem_cons_of_mem _ u)) with v | v
        · exfalso
          have a1 := h2.1 z u
          have a2 := h1.1 y hy
          rw [v, Srt.lexLt_swo.asym _ _ a2] at a1
          cases a1
        · exact v
/-- turns of two, and of two twos -/
def cand : List (List Int) := [[2, 1, 3, 4, 5], [3, 2, 1, 4, 5], [4, 2, 3, 1, 5], [5, 2, 3, 4, 1], [1, 3, 2, 4, 5], [1, 4, 3, 2, 5], [1, 5, 3, 4, 2], [1, 2, 4, 3, 5], [1, 2, 5, 4, 3], [1, 2, 3, 5, 4],
  [2, 1, 4, 3, 5], [2, 1, 5, 4, 3], [2, 1, 3, 5, 4], [3, 4, 1, 2, 5], [3, 5, 1, 4, 2], [3, 2, 1, 5, 4], [4, 3, 2, 1, 5], [4, 5, 3, 1, 2], [4, 2, 5, 1, 3], [5, 3, 2, 4, 1], [5, 4, 3, 2, 1], [5, 2, 4, 3, 1], [1, 3, 2, 5, 4], [1, 4, 5, 2, 3], [1, 5, 4, 3, 2]]
theorem cand_ok : (cand.all fun c => memD c (namesM 5) && !decide (c = nums 5)) = true := by decide +kernel
def keptB (k : Nat) : Bool := (subsL (ticketsM 5 (k : Int)) 4).all fun book => cand.any fun c => decide (calledM book c = book)
theorem kept_all : ((List.range 6).all keptB) = true := by decide +kernel
theorem two_kept {k : Int} (hk : 0 ≤ k ∧ k ≤ 5) {book : List (List Int)} (hB : IsBook 5 k book) (hl : book.length ≤ 4) : 2 ≤ cntD (allM 5 book) book := by
  have hs : book.Sublist (ticketsM 5 k) := sub_of_lex (tickets_rise (n := 5) (k := k) (by omega)).rise hB.rise hB.mem
  have h := List.all_eq_true.mp kept_all k.toNat (List.mem_range.mpr (by omega))
  unfold keptB at h
  rw [Int.toNat_of_nonneg hk.1] at h
  obtain ⟨c, hc, hcb⟩ := List.any_eq_true.mp (List.all_eq_true.mp h book (mem_subs hs hl))
  have hcb := of_decide_eq_true hcb
  have hco := List.all_eq_true.mp cand_ok c hc
  rw [Bool.and_eq_true] at hco
  have hcm := memD_iff.mp hco.1
  have hne : c ≠ nums 5 := by simpa using hco.2
  unfold allM
  rw [cntD_map]
  refine nd_len [c, nums 5] _ (by simp [hne]) fun x hx => ?_
  rcases List.mem_cons.mp hx with e | e
  · rw [e]; exact List.mem_filter.mpr ⟨hcm, decide_eq_true hcb⟩
  · rw [List.mem_singleton.mp e]
    exact List.mem_filter.mpr ⟨(mem_names (by omega)).mpr (isNm_id (by omega)), decide_eq_true (called_id hB)⟩
theorem names_few : ((List.range 6).all fun (n : Nat) => decide ((namesM (n : Int)).length ≤ (if n < 5 then 24 else 120))) = true := by decide +kernel
theorem few64 {n k : Int} (hn : 0 ≤ n ∧ n ≤ 5) (hk : 0 ≤ k ∧ k ≤ 5) {book : List (List Int)} (hB : IsBook n k book) (hl : book.length ≤ 4) : (ddM (allM n book)).length < 64 := by
  have h := of_decide_eq_true (List.all_eq_true.mp names_few n.toNat (List.mem_range.mpr (by omega)))
  rw [Int.toNat_of_nonneg hn.1] at h
  have ht := all_times hn hk.1 hB
  by_cases e : n = 5
  · subst e
    have h2 := two_kept hk hB hl
    have h3 : (namesM 5).length ≤ 120 := h
    have h4 : 2 * (ddM (allM 5 book)).length ≤ cntD (allM 5 book) book * (ddM (allM 5 book)).length := Nat.mul_le_mul_right _ h2
    omega
  · rw [if_pos (by omega)] at h
    have h1 : (ddM (allM n book)).length ≤ (allM n book).length := nd_len _ _ (ddM_nodup _) fun x hx => ddM_mem.mp hx
    unfold allM at h1 ⊢
    rw [List.length_map] at h1
    omega
/-! ### promises -/
abbrev tszD (d : PyData) : Prop := ∀ es, d = .tuple es → es.length ≤ 1000
def areNamesD (n : Int) (d : PyData) : Bool := match d with
  | .tuple es => es.all (fun x => isWholeD x 1 n) && decide (sortI (es.map getI) = nums n)
  | _ => false
def R_are_names (ds : List PyData) (r : Res) : Prop := ∃ (n k p m : Int) (d : PyData), (0 ≤ n ∧ n ≤ 1000) ∧ tszD d ∧ ds = [eT [n, k, p, m], d] ∧ r = .ok (.bool (areNamesD n d))
theorem sort_nums {n : Int} {a : List Int} (h : IsNm n a) (hn : 0 ≤ n) : sortI a = nums n := by
  rw [sortI_uniq (h.perm hn), sortI_id (nums_rise n)]
theorem nm_sort {n : Int} {a : List Int} (hn : 0 ≤ n) (h : sortI a = nums n) : IsNm n a := by
  have p : a.Perm (nums n) := by rw [← h]; exact (sortI_perm a).symm
  exact ⟨by rw [p.length_eq, nums_len]; omega, p.nodup_iff.mpr (nums_nd n), fun x hx => p.mem_iff.mp hx⟩
theorem names_eT {n : Int} {a : List Int} (hn : 0 ≤ n) (h : IsNm n a) : areNamesD n (eT a) = true := by
  show ((a.map PyData.int).all (fun x => isWholeD x 1 n) && decide (sortI ((a.map PyData.int).map getI) = nums n)) = true
  have e : (a.map PyData.int).map getI = a := by rw [List.map_map]; exact (List.map_congr_left fun _ _ => rfl).trans (List.map_id a)
  rw [e, sort_nums h hn, decide_eq_true rfl, Bool.and_true, List.all_eq_true]
  intro x hx
  obtain ⟨y, hy, rfl⟩ := List.mem_map.mp hx
  have := mem_nums.mp (h.2.2 y hy)
  simp [isWholeD, this.1, this.2]
def R_renamed (ds : List PyData) (r : Res) : Prop := ∃ (n k p m : Int) (b d : PyData), Valid n k p m ∧ ds = [eT [n, k, p, m], b, d] ∧ DSz b ∧ tszD d ∧ ((isGoodD n k b = false ∧ r = .ex "BadBook") ∨
  ∃ book, b = eTT book ∧ isGoodD n k b = true ∧ ((areNamesD n d = false ∧ r = .ex "BadNames") ∨ ∃ a, d = eT a ∧ IsNm n a ∧ r = .ok (eTT (calledM book a))))
def R_are_alike (ds : List PyData) (r : Res) : Prop := ∃ (n k p m : Int) (b c : PyData), Valid n k p m ∧ ds = [eT [n, k, p, m], b, c] ∧ ((6 < n ∧ r = .ex "Full") ∨ (n ≤ 6 ∧ DSz b ∧ ((isGoodD n k b = false ∧ r = .ex "BadBook") ∨
  ∃ book, b = eTT book ∧ isGoodD n k b = true ∧ DSz c ∧ ((isGoodD n k c = false ∧ r = .ex "BadBook") ∨ ∃ other, c = eTT other ∧ isGoodD n k c = true ∧ r = .ok (.bool (decide (firstM n book = firstM n other)))))))
def keptM (n : Int) (book : List (List Int)) : Nat := ((namesM n).filter fun a => decide (calledM book a = book)).length
theorem kept_cnt (n : Int) (book : List (List Int)) : keptM n book = cntD (allM n book) book := by unfold keptM allM; rw [cntD_map]
def R_keepers : List PyData → Res → Prop := fewLooked fun n _ _ _ book e => e = .int (keptM n book)
def R_how_many_alike : List PyData → Res → Prop := fewLooked fun n _ _ _ book e => (ddM (allM n book)).length < 64 ∧ e = .int ((ddM (allM n book)).length : Nat)
theorem few_imp {F : Int → Int → Int → Int → List (List Int) → PyData → Prop} {ds : List PyData} {r : Res} (h : fewLooked (fun _ _ _ _ _ _ => False) ds r) : fewLooked F ds r := by
  obtain ⟨n, k, p, m, d, hv, e, h1 | ⟨h2, h3, h4 | ⟨book, e1, _, _, h5, _⟩⟩⟩ := h
  · exact ⟨n, k, p, m, d, hv, e, .inl h1⟩
  · exact ⟨n, k, p, m, d, hv, e, .inr ⟨h2, h3, .inl h4⟩⟩
  · exact h5.elim
def R_one (ds : List PyData) (r : Res) : Prop := ∃ (i : Int) (g b c : PyData) (x : Str), ds = [.int i, .tuple [g, b, c]] ∧ r = .ex x ∧ ((i = 0 ∧ R_renamed [g, b, c] (.ex x)) ∨ (i = 1 ∧ R_are_alike [g, b, c] (.ex x)) ∨ (2 ≤ i ∧ i ≤ 4 ∧ fewLooked (fun _ _ _ _ _ _ => False) [g, b] (.ex x)))
def R__law_called := R_called
def R__law_turns (ds : List PyData) (r : Res) : Prop := ∃ n : Int, (0 ≤ n ∧ n ≤ 6) ∧ ds = [.int n] ∧ r = .ok (eLT (namesM n))
/-! what is none -/
theorem encLR : Enc (DL.lst refD) 2 := Enc.lst encRef
theorem bad_nml {n : Int} {es : List PyData} (h : es.length ≠ n.toNat) : areNamesD n (.tuple es) = false := by
  show (_ && decide (sortI (es.map getI) = nums n)) = false
  rw [decide_eq_false (fun e => h (by have := congrArg List.length e; rw [(sortI_perm _).length_eq, List.length_map, nums_len] at this; exact this)), Bool.and_false]
theorem bad_nmh {n : Int} {e : PyData} {es : List PyData} (h : isWholeD e 1 n = false) : areNamesD n (.tuple (e :: es)) = false := by
  show ((isWholeD e 1 n && _) && _) = false
  rw [h]; rfl
theorem bad_nmd {n : Int} {a : List Int} (h : ¬ a.Nodup) (hn : 0 ≤ n) : areNamesD n (eT a) = false := by
  show (_ && decide (sortI ((a.map PyData.int).map getI) = nums n)) = false
  have e : (a.map PyData.int).map getI = a := by rw [List.map_map]; exact (List.map_congr_left fun _ _ => rfl).trans (List.map_id a)
  rw [e, decide_eq_false (fun z => h (nm_sort hn z).2.1), Bool.and_false]
theorem nums_cons {n : Int} (h : 1 ≤ n) : ∃ r, nums n = 1 :: r := by
  cases e : nums n with
  | nil => have := congrArg List.length e; rw [nums_len] at this; simp at this; omega
  | cons x r =>
    have : (nums n)[0]? = some (1 + ((0 : Nat) : Int)) := by unfold nums; exact rng_get (by omega)
    rw [e] at this
    have e2 : x = 1 + ((0 : Nat) : Int) := by simpa using this
    exact ⟨r, by rw [e2]; rfl⟩
theorem twice_one {n : Int} (h : 2 ≤ n) : ¬ ((nums n).take ((nums n).length - 1) ++ (nums n).take 1).Nodup := by
  obtain ⟨r, e⟩ := nums_cons (n := n) (by omega)
  have hl := nums_len n
  rw [e] at hl ⊢
  rw [List.length_cons] at hl ⊢
  obtain ⟨j, hj⟩ : ∃ j, r.length = j + 1 := ⟨r.length - 1, by omega⟩
  intro hn
  rw [List.nodup_append] at hn
  refine hn.2.2 1 ?_ 1 List.mem_cons_self rfl
  rw [show r.length + 1 - 1 = j + 1 by omega, List.take_succ_cons]
  exact List.mem_cons_self
theorem cut_last (xs : List Int) : PyData.tuple (cutD (xs.map PyData.int) none (some (-1))) = eT (xs.take (xs.length - 1)) := by
  show PyData.tuple _ = PyData.tuple _
  rw [cutD_map]
  have e : cutD xs none (some (-1)) = xs.take (xs.length - 1) := by
    unfold cutD
    show (xs.drop 0).take ((if (-1 : Int) < 0 then ((-1 : Int) + (xs.length : Int)).toNat else min (-1 : Int).toNat xs.length) - 0) = _
    rw [if_pos (by decide), List.drop_zero]
    congr 1
    omega
  rw [e]
def nbadsM (n : Int) : List PyData := [.none, .int 5, .list ((nums n).map PyData.int), eT ((nums n).drop 1), eT (nums n ++ [n]), eT (0 :: (nums n).drop 1), .tuple (.bool true :: ((nums n).drop 1).map PyData.int)]
theorem nbads_bad {n : Int} (h : 2 ≤ n ∧ n ≤ 9) : ∀ d, d ∈ nbadsM n ++ [eT ((nums n).take ((nums n).length - 1) ++ (nums n).take 1)] → areNamesD n d = false ∧ tszD d := by
  have hl := nums_len n
  intro d hd
  simp only [nbadsM, List.mem_append, List.mem_cons, List.not_mem_nil, or_false] at hd
  rcases hd with (rfl | rfl | rfl | rfl | rfl | rfl | rfl) | rfl
  · exact ⟨rfl, fun _ e => nomatch e⟩
  · exact ⟨rfl, fun _ e => nomatch e⟩
  · exact ⟨rfl, fun _ e => nomatch e⟩
  · exact ⟨bad_nml (by rw [List.length_map, List.length_drop, hl]; omega), fun es e => by cases e; rw [List.length_map, List.length_drop, hl]; omega⟩
  · exact ⟨bad_nml (by rw [List.length_map, List.length_append, hl]; simp), fun es e => by cases e; rw [List.length_map, List.length_append, hl]; simp; omega⟩
  · exact ⟨bad_nmh (e := .int 0) (by simp [isWholeD]), fun es e => by cases e; rw [List.length_map, List.length_cons, List.length_drop, hl]; omega⟩
  · exact ⟨bad_nmh rfl, fun es e => by cases e; rw [List.length_cons, List.length_map, List.length_drop, hl]; omega⟩
  · exact ⟨bad_nmd (twice_one h.1) (by omega), fun es e => by cases e; rw [List.length_map, List.length_append, List.length_take, List.length_take, hl]; omega⟩
def R__law_none (ds : List PyData) (r : Res) : Prop := ∃ (n k p m : Int) (book : List (List Int)), Valid n k p m ∧ n ≤ 6 ∧ isGoodD n k (eTT book) = true ∧ ds = [eT [n, k, p, m], eTT book] ∧ r = .ok (.bool true)
/-! ### is_whole -/
theorem c_is_whole (T : Txt K mg) : Cal P w K mg base 1 "is_whole" ["thing", "least", "most"] (spP K R_is_whole) := by
  refine T.d_is_whole.cal sc_is_whole (fun _ _ _ _ _ _ _ us hl => match us, hl with | [_, _, _], _ => rfl) ?_ ?_
  · rintro ds r ⟨d, lo, hi, rfl, _⟩; rfl
  · rintro f cdv A outer s H E ds r hr ⟨d, lo, hi, rfl, rfl⟩
    have nd := sc_is_whole.nd
    refine SX.noxR ?_
    cases d with
    | int i => refine SX.ret (EV.and (EV.isi (T := "int") T.b_isinstance T.b_int (EV.var 0) rfl) fun _ => EV.and (EV.not (EV.isi (T := "bool") T.b_isinstance T.b_bool (EV.var 0) rfl)) fun _ => EV.one (EV.lele (EV.var 1) (EV.var 0) (EV.var 2))) ?_; rfl
    | bool b => refine SX.ret (EV.andT (EV.isi (T := "int") T.b_isinstance T.b_int (EV.var 0) rfl) (EV.andF (EV.notT (EV.isi (T := "bool") T.b_isinstance T.b_bool (EV.var 0) rfl)))) ?_; rfl
    | none => refine SX.ret (EV.andF (EV.isi (T := "int") T.b_isinstance T.b_int (EV.var 0) rfl)) ?_; rfl
    | str x => refine SX.ret (EV.andF (EV.isi (T := "int") T.b_isinstance T.b_int (EV.var 0) rfl)) ?_; rfl
    | list x => refine SX.ret (EV.andF (EV.isi (T := "int") T.b_isinstance T.b_int (EV.var 0) rfl)) ?_; rfl
    | tuple x => refine SX.ret (EV.andF (EV.isi (T := "int") T.b_isinstance T.b_int (EV.var 0) rfl)) ?_; rfl
    | dict x => refine SX.ret (EV.andF (EV.isi (T := "int") T.b_isinstance T.b_int (EV.var 0) rfl)) ?_; rfl
/-! ### is_game -/
theorem c_is_game (T : Txt K mg) : Cal P w K mg base 2 "is_game" ["thing"] (spP K R_is_game) := by
  refine T.d_is_game.cal sc_is_game (fun _ _ _ _ _ _ _ us hl => match us, hl with | [_], _ => rfl) ?_ ?_
  · rintro ds r ⟨d, rfl, _⟩; rfl
  · rintro f cdv A outer s H E ds r hr ⟨d, rfl, rfl⟩
    have nd := sc_is_game.nd
    refine SX.noxR ?_
    cases d with
    | tuple es =>
      by_cases h4 : es.length = 4
      · obtain ⟨a, b, c, e, rfl⟩ : ∃ a b c e, es = [a, b, c, e] := by
          match es, h4 with
          | [a, b, c, e], _ => exact ⟨a, b, c, e, rfl⟩
        rw [isGameD_eq]
        refine SX.ite (ET.w (EW.orF (ET.notT (ET.val (EV.isi (T := "tuple") T.b_isinstance T.b_tuple (EV.var 0) rfl))) (EW.orF (EC.et (EC.is (EC.neI (EV.lenT T.b_len (EV.var 0)) EV.int) rfl)) (EW.or1 (ET.not (ET.val (EV.call (c_is_whole T) (hr.mono (by decide)) (EA.cons (EV.ixT (EV.var 0) EV.int rfl) (EA.cons EV.int (EA.cons EV.int EA.nil))) ⟨_, _, _, rfl, rfl⟩))))))) (fun h => ?_) (fun h => ?_)
        · have h' : isWholeD a 2 9 = false := by simpa using h
          rw [h']
          refine SX.ret EV.bl ?_
          rfl
        · have h' : isWholeD a 2 9 = true := by simpa using h
          obtain ⟨n, rfl, h1, h2⟩ := isWholeD_true h'
          refine SX.nil (SX.unp4 1 2 3 4 (EV.var 0) (SX.asg 5 (EV.min2 T.b_min EV.int (EV.var 1)) (SX.ret (EV.and (y := isWholeD c 1 (min 5 n) && isWholeD e 1 (min (getI b) (getI c))) (EV.call (c_is_whole T) (hr.mono (by decide)) (EA.cons (EV.var 2) (EA.cons EV.int (EA.cons (EV.var 5) EA.nil))) ⟨_, _, _, rfl, rfl⟩) fun hb => EV.and (y := isWholeD e 1 (min (getI b) (getI c))) (EV.call (c_is_whole T) (hr.mono (by decide)) (EA.cons (EV.var 3) (EA.cons EV.int (EA.cons (EV.var 5) EA.nil))) ⟨_, _, _, rfl, rfl⟩) fun hc => ?_) ?_)))
          · obtain ⟨k, rfl, _⟩ := isWholeD_true hb
            obtain ⟨p, rfl, _⟩ := isWholeD_true hc
            exact EV.one (EV.call (c_is_whole T) (hr.mono (by decide)) (EA.cons (EV.var 4) (EA.cons EV.int (EA.cons (EV.min2 T.b_min (EV.var 2) (EV.var 3)) EA.nil))) ⟨_, _, _, rfl, rfl⟩)
          · show PyData.bool _ = PyData.bool _
            rw [h', Bool.true_and]; rfl
      · rw [isGameD_not4 h4]
        refine SX.iteT (ET.w (EW.orF (ET.notT (ET.val (EV.isi (T := "tuple") T.b_isinstance T.b_tuple (EV.var 0) rfl))) (EW.orT (EC.et (EC.is (EC.neI (EV.lenT T.b_len (EV.var 0)) EV.int) ?_))))) (SX.ret EV.bl ?_)
        · rw [decide_eq_false (fun z => h4 (by exact_mod_cast z))]; rfl
        · rfl
    | int i => refine SX.iteT (ET.w (EW.orT (ET.notF (ET.val (EV.isi (T := "tuple") T.b_isinstance T.b_tuple (EV.var 0) rfl))))) (SX.ret EV.bl ?_); rfl
    | bool i => refine SX.iteT (ET.w (EW.orT (ET.notF (ET.val (EV.isi (T := "tuple") T.b_isinstance T.b_tuple (EV.var 0) rfl))))) (SX.ret EV.bl ?_); rfl
    | none => refine SX.iteT (ET.w (EW.orT (ET.notF (ET.val (EV.isi (T := "tuple") T.b_isinstance T.b_tuple (EV.var 0) rfl))))) (SX.ret EV.bl ?_); rfl
    | str i => refine SX.iteT (ET.w (EW.orT (ET.notF (ET.val (EV.isi (T := "tuple") T.b_isinstance T.b_tuple (EV.var 0) rfl))))) (SX.ret EV.bl ?_); rfl
    | list i => refine SX.iteT (ET.w (EW.orT (ET.notF (ET.val (EV.isi (T := "tuple") T.b_isinstance T.b_tuple (EV.var 0) rfl))))) (SX.ret EV.bl ?_); rfl
    | dict i => refine SX.iteT (ET.w (EW.orT (ET.notF (ET.val (EV.isi (T := "tuple") T.b_isinstance T.b_tuple (EV.var 0) rfl))))) (SX.ret EV.bl ?_); rfl
/-! ### look_game -/
theorem c_look_game (T : Txt K mg) : Cal P w K mg base 3 "look_game" ["game"] (spP K R_look_game) := by
  refine T.d_look_game.cal sc_look_game (fun _ _ _ _ _ _ _ us hl => match us, hl with | [_], _ => rfl) ?_ ?_
  · rintro ds r ⟨d, rfl, _⟩; rfl
  · rintro f cdv A outer s H E ds r hr ⟨d, rfl, rfl⟩
    have nd := sc_look_game.nd
    refine SX.ite (ET.not (ET.val (EV.call (c_is_game T) (hr.mono (by decide)) (EA.cons (EV.var 0) EA.nil) ⟨_, rfl, rfl⟩))) (fun h => ?_) (fun h => ?_)
    · have e : isGameD d = false := by simpa using h
      rw [e]
      exact SX.raise T.e_BadGame rfl
    · have e : isGameD d = true := by simpa using h
      rw [e]
      exact SX.nil (SX.nil rfl)
/-! ### chosen -/
theorem c_chosen_at (T : Txt K mg) : ∀ J : Nat, Cal P w K mg base (J + 1) "chosen" ["some", "many"] (spP K (R_ch J))
  | 0 => by
    refine T.d_chosen.cal sc_chosen (fun _ _ _ _ _ _ _ us hl => match us, hl with | [_, _], _ => rfl) ?_ ?_
    · rintro ds r ⟨xs, j, _, _, _, rfl, _⟩; rfl
    · rintro f cdv A outer s H E ds r hr ⟨xs, j, hJ, hx, hj, rfl, rfl⟩
      have nd := sc_chosen.nd
      obtain rfl : j = 0 := by omega
      rw [comb_zero]
      refine SX.noxR (SX.iteT (EC.et (EC.is (EC.eqI (EV.var 1) EV.int) rfl)) (SX.ret (EV.lst (EA.cons (EV.tup EA.nil) EA.nil)) ?_))
      rfl
  | J + 1 => by
    have ih := c_chosen_at T J
    refine T.d_chosen.cal sc_chosen (fun _ _ _ _ _ _ _ us hl => match us, hl with | [_, _], _ => rfl) ?_ ?_
    · rintro ds r ⟨xs, j, _, _, _, rfl, _⟩; rfl
    · rintro f cdv A outer s H E ds r hr ⟨xs, j, hJ, hx, hj, rfl, rfl⟩
      have nd := sc_chosen.nd
      rcases j with _ | j
      · rw [comb_zero]
        refine SX.noxR (SX.iteT (EC.et (EC.is (EC.eqI (EV.var 1) EV.int) rfl)) (SX.ret (EV.lst (EA.cons (EV.tup EA.nil) EA.nil)) ?_))
        rfl
      · refine SX.noxR (SX.iteF (EC.et (EC.is (EC.eqI (EV.var 1) EV.int) (decide_eq_false (by omega)))) (SX.nil ?_))
        refine SX.mine 2 (EF.lst EA.nil) fun l hl => ?_
        have hc : cutD (xs.map PyData.int) none (some ((xs.map PyData.int).length - ((j + 1 : Nat) : Int) + 1)) = (xs.take (xs.length - j)).map PyData.int := by
          rw [cutD_map, cutD_to xs (by rw [List.length_map]; omega), List.length_map]
          congr 2; omega
        have hlen : (xs.take (xs.length - j)).length = xs.length - j := by rw [List.length_take]; omega
        refine SX.for_ (g := gTup K 2 (gCons (gName 3) (gCons (gName 4) gNil))) [3, 4] (fun i τ => ∃ a b : Option PyData, τ = [.pu (eT xs), .pu (.int ((j + 1 : Nat) : Int)), .ow l (((List.range i).flatMap (combStep xs j)).map eT), sv a, sv b, .un]) (EVI.enumT T.b_enumerate (EV.slT (EV.var 0) EO.none (EO.some (EV.add (EV.sub (EV.lenT T.b_len (EV.var 0)) (EV.var 1)) EV.int)))) ?_ ?_ ?_ ?_ ?_
        · exact pg_tup rfl (pgs_cons (pg_name nd rfl (by first | exact Or.inl rfl | exact Or.inr rfl)) (pgs_cons (pg_name nd rfl (by first | exact Or.inl rfl | exact Or.inr rfl)) pgs_nil))
        · exact ⟨none, none, rfl⟩
        · rintro i d τ' hd ⟨a, b, rfl⟩
          rw [hc, enumD_ints, hlen] at hd
          have hi : i < xs.length - j := by
            have := (List.getElem?_eq_some_iff.mp hd).1
            simpa using this
          rw [List.getElem?_map, List.getElem?_range hi] at hd
          cases hd
          refine ⟨_, EG.pair 3 4 (by decide) (by decide) (nOw_sv a) (nOw_sv b), ?_⟩
          have hx1 : (xs.take (xs.length - j)).getD i 0 = xs.getD i 0 := by
            rw [List.getD_eq_getElem?_getD, List.getElem?_take, if_pos hi, ← List.getD_eq_getElem?_getD]
          rw [hx1]
          have hct : cutD (xs.map PyData.int) (some ((i : Int) + 1)) none = (xs.drop (i + 1)).map PyData.int := by
            rw [cutD_map, cutD_from xs (by omega)]; rfl
          have hsz := comb_size (xs.drop (i + 1)) j
          have hsz2 : 2 ^ (xs.drop (i + 1)).length ≤ 2 ^ 12 := Nat.pow_le_pow_right (by decide) (by rw [List.length_drop]; omega)
          have hsz3 : (comb xs (j + 1)).length ≤ 2 ^ 12 := Nat.le_trans (comb_size xs (j + 1)) (Nat.pow_le_pow_right (by decide) hx)
          have hsz4 : ((List.range i).flatMap (combStep xs j)).length ≤ (comb xs (j + 1)).length := by
            rw [comb_flat]
            have : List.range (xs.length - j) = List.range i ++ (List.range (xs.length - j - i)).map (i + ·) := by
              rw [← List.range_add]; congr 1; omega
            rw [this, List.flatMap_append, List.length_append]; omega
          refine SX.ext 2 (EF.lc (LC.map (enc := eT) (xs := comb (xs.drop (i + 1)) j) (f := fun c => eT (xs.getD i 0 :: c)) 5 "rest" (EVI.lst (EV.call ih (hr.mono (Nat.le_refl _)) (EA.cons (EV.slT (EV.var 0) (EO.some (EV.add (EV.var 3) EV.int)) EO.none) (EA.cons (EV.sub (EV.var 1) EV.int) EA.nil)) ⟨xs.drop (i + 1), j, by omega, by rw [List.length_drop]; omega, by rw [List.length_drop]; omega, ?_, rfl⟩)) ?_ ?_)) rfl ⟨_, rfl⟩ ?_ (SX.nil ?_)
          · rw [hct, show (((j + 1 : Nat) : Int) - 1) = (j : Int) by omega]
          · intro c hc' _ _ _ _ _
            refine EV.catT (EV.tup (EA.cons (EV.var 4) EA.nil)) (EV.var 5) ?_
            have := comb_len _ _ _ hc'
            rw [List.length_map, this]
            show 1 + j ≤ 2 ^ 24
            omega
          · exact Nat.lt_of_le_of_lt hsz (Nat.lt_of_le_of_lt hsz2 (by decide))
          · rw [List.length_map, List.length_map]
            exact Nat.le_trans (Nat.add_le_add (Nat.le_trans hsz4 hsz3) (Nat.le_trans hsz hsz2)) (by decide)
          · refine ⟨some (.int i), some (.int (xs.getD i 0)), ?_⟩
            rw [flatMap_range_succ, List.map_append]
            unfold combStep
            rw [List.map_map]
            rfl
        · rintro τ' ⟨a, b, rfl⟩
          have e1 : (enumD (cutD (xs.map PyData.int) none (some ((xs.map PyData.int).length - ((j + 1 : Nat) : Int) + 1)))).length = xs.length - j := by
            rw [hc, enumD_ints, List.length_map, List.length_range, hlen]
          rw [e1, ← comb_flat]
          refine SX.freeze 2 rfl (SX.ret (EV.var 2) ?_) (by simp [own, ownA_pu, ownA_un, ownA_sv])
          rfl
        · exact PassesOwn.never
theorem c_chosen (T : Txt K mg) : Cal P w K mg base 13 "chosen" ["some", "many"] (spP K R_chosen) := by
  refine (c_chosen_at T 12).imp fun vs H Q E h => ?_
  obtain ⟨L, ds, r, h1, h2, ⟨xs, j, h3, h4, h5, h6⟩, h7⟩ := h
  exact ⟨L, ds, r, h1, h2, ⟨xs, j, by omega, h4, h3, h5, h6⟩, h7⟩
/-! ### numbers_of -/
theorem c_numbers_of (T : Txt K mg) : Cal P w K mg base 1 "numbers_of" ["game"] (spP K R_numbers_of) := by
  refine T.d_numbers_of.cal sc_numbers_of (fun _ _ _ _ _ _ _ us hl => match us, hl with | [_], _ => rfl) ?_ ?_
  · rintro ds r ⟨n, k, p, m, _, rfl, _⟩; rfl
  · rintro f cdv A outer s H E ds r hr ⟨n, k, p, m, hn, rfl, rfl⟩
    have nd := sc_numbers_of.nd
    refine SX.noxR (SX.ret (EV.tupRg2 T.b_tuple T.b_range EV.int (EV.add (EV.ixT (EV.var 0) EV.int rfl) EV.int) ⟨by omega, by omega, by omega, by omega, by omega⟩) ?_)
    show eT _ = eT _
    unfold nums
    rw [show (n + 1 - 1).toNat = n.toNat by omega]
/-! ### all_draws -/
theorem c_all_draws (T : Txt K mg) : Cal P w K mg base 14 "all_draws" ["game"] (spP K R_all_draws) := by
  refine T.d_all_draws.cal sc_all_draws (fun _ _ _ _ _ _ _ us hl => match us, hl with | [_], _ => rfl) ?_ ?_
  · rintro ds r ⟨n, k, p, m, _, rfl, _⟩; rfl
  · rintro f cdv A outer s H E ds r hr ⟨n, k, p, m, hv, rfl, rfl⟩
    have nd := sc_all_draws.nd
    have hv' := ofValid hv
    have hn := nums_len n
    refine SX.noxR (SX.ret (EV.call (c_chosen T) (hr.mono (by decide)) (EA.cons (EV.call (c_numbers_of T) (hr.mono (by decide)) (EA.cons (EV.var 0) EA.nil) ⟨n, k, p, m, by omega, rfl, rfl⟩) (EA.cons (EV.ixT (EV.var 0) EV.int rfl) EA.nil)) ⟨nums n, p.toNat, by omega, by omega, ?_, rfl⟩) ?_)
    · rw [Int.toNat_of_nonneg (by omega)]
    · rfl
/-! ### are_numbers -/
theorem c_are_numbers (T : Txt K mg) : Cal P w K mg base 2 "are_numbers" ["game", "thing", "many"] (spP K R_are_numbers) := by
  refine T.d_are_numbers.cal sc_are_numbers (fun _ _ _ _ _ _ _ us hl => match us, hl with | [_, _, _], _ => rfl) ?_ ?_
  · rintro ds r ⟨n, k, p, m, d, many, _, rfl, _⟩; rfl
  · rintro f cdv A outer s H E ds r hr ⟨n, k, p, m, d, many, hsz, rfl, rfl⟩
    have nd := sc_are_numbers.nd
    refine SX.noxR ?_
    cases d with
    | tuple es =>
      have hz := hsz es rfl
      show SX _ _ _ (DL.ret (.bool (decide ((es.length : Int) = many) && (es.all (fun x => isWholeD x 1 n) && riseB (es.map getI)))))
      refine SX.ite (ET.w (EW.orF (ET.notT (ET.val (EV.isi (T := "tuple") T.b_isinstance T.b_tuple (EV.var 1) rfl))) (EW.or (y := !(es.all fun x => isWholeD x 1 n)) (EC.et (EC.neI (EV.lenT T.b_len (EV.var 1)) (EV.var 2))) fun _ => EW.or1 (ET.not (ET.val (EV.allM T.b_all (EV.lc (LC.map (enc := fun x => x) (xs := es) 3 "one" (EVI.tup (by rw [List.map_id']; exact EV.var 1)) (fun a ha _ _ _ _ _ => EV.call (c_is_whole T) (hr.mono (by decide)) (EA.cons (EV.var 3) (EA.cons EV.int (EA.cons (EV.ixT (EV.var 0) EV.int rfl) EA.nil))) ⟨_, _, _, rfl, rfl⟩) (Nat.lt_of_le_of_lt hz (by decide)))))))))) (fun h => ?_) (fun h => ?_)
      · refine SX.ret EV.bl ?_
        show PyData.bool _ = PyData.bool _
        congr 1
        revert h
        cases decide ((es.length : Int) = many) <;> cases (es.all fun x => isWholeD x 1 n) <;> simp
      · have h1 : decide ((es.length : Int) = many) = true := by revert h; cases decide ((es.length : Int) = many) <;> simp
        have h2 : (es.all fun x => isWholeD x 1 n) = true := by revert h; cases (es.all fun x => isWholeD x 1 n) <;> simp
        rw [h1, h2, Bool.true_and, Bool.true_and]
        have he := all_whole h2
        have hl : (es.map getI).length ≤ 1000 := by rw [List.length_map]; exact hz
        generalize es.map getI = xs at he hl ⊢
        subst he
        have hc : cutD (xs.map PyData.int) (some 1) none = (xs.drop 1).map PyData.int := by
          rw [cutD_map, cutD_from xs (by omega)]; rfl
        have hzp : zipD (xs.map PyData.int) (cutD (xs.map PyData.int) (some 1) none) = (xs.zip (xs.drop 1)).map fun p => PyData.tuple [.int p.1, .int p.2] := by rw [hc, zipD_ints]
        have hlz : (xs.zip (xs.drop 1)).length < sizeLine := by
          rw [List.length_zip]
          exact Nat.lt_of_le_of_lt (Nat.le_trans (Nat.min_le_left _ _) hl) (by decide)
        refine SX.nil (SX.ret (EV.allM T.b_all (EV.lc (LC.pairMap (xs := xs.zip (xs.drop 1)) (ea := fun p => .int p.1) (eb := fun p => .int p.2) 3 4 "one" "other" (by decide) (by rw [← hzp]; exact EVI.zipT T.b_zip (EV.var 1) (EV.slT (EV.var 1) (EO.some EV.int) EO.none)) (fun a ha _ _ _ _ _ => EC.ev (EC.lt (EV.var 3) (EV.var 4))) hlz))) ?_)
        show PyData.bool _ = PyData.bool _
        rw [zip_rise]
    | int i => refine SX.iteT (ET.w (EW.orT (ET.notF (ET.val (EV.isi (T := "tuple") T.b_isinstance T.b_tuple (EV.var 1) rfl))))) (SX.ret EV.bl ?_); rfl
    | bool i => refine SX.iteT (ET.w (EW.orT (ET.notF (ET.val (EV.isi (T := "tuple") T.b_isinstance T.b_tuple (EV.var 1) rfl))))) (SX.ret EV.bl ?_); rfl
    | none => refine SX.iteT (ET.w (EW.orT (ET.notF (ET.val (EV.isi (T := "tuple") T.b_isinstance T.b_tuple (EV.var 1) rfl))))) (SX.ret EV.bl ?_); rfl
    | str i => refine SX.iteT (ET.w (EW.orT (ET.notF (ET.val (EV.isi (T := "tuple") T.b_isinstance T.b_tuple (EV.var 1) rfl))))) (SX.ret EV.bl ?_); rfl
    | list i => refine SX.iteT (ET.w (EW.orT (ET.notF (ET.val (EV.isi (T := "tuple") T.b_isinstance T.b_tuple (EV.var 1) rfl))))) (SX.ret EV.bl ?_); rfl
    | dict i => refine SX.iteT (ET.w (EW.orT (ET.notF (ET.val (EV.isi (T := "tuple") T.b_isinstance T.b_tuple (EV.var 1) rfl))))) (SX.ret EV.bl ?_); rfl
/-! ### is_good -/
theorem c_is_good (T : Txt K mg) : Cal P w K mg base 3 "is_good" ["game", "thing"] (spP K R_is_good) := by
  refine T.d_is_good.cal sc_is_good (fun _ _ _ _ _ _ _ us hl => match us, hl with | [_, _], _ => rfl) ?_ ?_
  · rintro ds r ⟨n, k, p, m, d, _, rfl, _⟩; rfl
  · rintro f cdv A outer s H E ds r hr ⟨n, k, p, m, d, hsz, rfl, rfl⟩
    have nd := sc_is_good.nd
    refine SX.noxR ?_
    cases d with
    | tuple es =>
      obtain ⟨hz, hz2⟩ := hsz es rfl
      show SX _ _ _ (DL.ret (.bool (decide ((es.length : Int) ≤ 20) && (es.all (fun x => areNumsD n x k) && riseT (es.map getT)))))
      refine SX.ite (ET.w (EW.orF (ET.notT (ET.val (EV.isi (T := "tuple") T.b_isinstance T.b_tuple (EV.var 1) rfl))) (EW.or (y := !(es.all fun x => areNumsD n x k)) (EC.et (EC.gt (EV.lenT T.b_len (EV.var 1)) (EV.gint rfl T.i_MOST))) fun _ => EW.or1 (ET.not (ET.val (EV.allM T.b_all (EV.lc (LC.map (enc := fun x => x) (xs := es) 2 "one" (EVI.tup (by rw [List.map_id']; exact EV.var 1)) (fun a ha _ _ _ _ _ => EV.call (c_are_numbers T) (hr.mono (by decide)) (EA.cons (EV.var 0) (EA.cons (EV.var 2) (EA.cons (EV.ixT (EV.var 0) EV.int rfl) EA.nil))) ⟨n, k, p, m, a, k, hz2 a ha, rfl, rfl⟩) (Nat.lt_of_le_of_lt hz (by decide)))))))))) (fun h => ?_) (fun h => ?_)
      · refine SX.ret EV.bl ?_
        show PyData.bool _ = PyData.bool _
        congr 1
        by_cases h1 : (es.length : Int) ≤ 20
        · have h2 : (es.all fun x => areNumsD n x k) = false := by
            revert h
            rw [decide_eq_false (show ¬ (20 : Int) < es.length by omega)]
            cases (es.all fun x => areNumsD n x k) <;> simp
          rw [h2]; simp
        · rw [decide_eq_false h1]; rfl
      · have h1 : (es.length : Int) ≤ 20 := by
          by_cases c : (20 : Int) < es.length
          · rw [decide_eq_true c] at h; cases h
          · omega
        have h2 : (es.all fun x => areNumsD n x k) = true := by revert h; cases (es.all fun x => areNumsD n x k) <;> simp
        rw [decide_eq_true h1, h2, Bool.true_and, Bool.true_and]
        have he := all_nums h2
        have hl : (es.map getT).length ≤ 1000 := by rw [List.length_map]; exact hz
        generalize es.map getT = xs at he hl ⊢
        subst he
        have hc : cutD (xs.map eT) (some 1) none = (xs.drop 1).map eT := by
          rw [cutD_map, cutD_from xs (by omega)]; rfl
        have hzp : zipD (xs.map eT) (cutD (xs.map eT) (some 1) none) = (xs.zip (xs.drop 1)).map fun p => PyData.tuple [eT p.1, eT p.2] := by rw [hc, zipD_map]
        have hlz : (xs.zip (xs.drop 1)).length < sizeLine := by
          rw [List.length_zip]
          exact Nat.lt_of_le_of_lt (Nat.le_trans (Nat.min_le_left _ _) hl) (by decide)
        have hu : A.units + 65 < cLine ∨ True := .inr trivial
        refine SX.nil (SX.ret (EV.allM T.b_all (EV.lc (LC.pairMap (xs := xs.zip (xs.drop 1)) (ea := fun p => eT p.1) (eb := fun p => eT p.2) 2 3 "one" "other" (by decide) (by rw [← hzp]; exact EVI.zipT T.b_zip (EV.var 1) (EV.slT (EV.var 1) (EO.some EV.int) EO.none)) (fun a ha _ _ _ _ _ => EC.ev (EC.ltT (Nat.lt_of_le_of_lt (Nat.le_add_right _ 65) (u65 hr)) (EV.var 2) (EV.var 3))) hlz))) ?_)
        show PyData.bool _ = PyData.bool _
        rw [zipT_rise]
    | int i => refine SX.iteT (ET.w (EW.orT (ET.notF (ET.val (EV.isi (T := "tuple") T.b_isinstance T.b_tuple (EV.var 1) rfl))))) (SX.ret EV.bl ?_); rfl
    | bool i => refine SX.iteT (ET.w (EW.orT (ET.notF (ET.val (EV.isi (T := "tuple") T.b_isinstance T.b_tuple (EV.var 1) rfl))))) (SX.ret EV.bl ?_); rfl
    | none => refine SX.iteT (ET.w (EW.orT (ET.notF (ET.val (EV.isi (T := "tuple") T.b_isinstance T.b_tuple (EV.var 1) rfl))))) (SX.ret EV.bl ?_); rfl
    | str i => refine SX.iteT (ET.w (EW.orT (ET.notF (ET.val (EV.isi (T := "tuple") T.b_isinstance T.b_tuple (EV.var 1) rfl))))) (SX.ret EV.bl ?_); rfl
    | list i => refine SX.iteT (ET.w (EW.orT (ET.notF (ET.val (EV.isi (T := "tuple") T.b_isinstance T.b_tuple (EV.var 1) rfl))))) (SX.ret EV.bl ?_); rfl
    | dict i => refine SX.iteT (ET.w (EW.orT (ET.notF (ET.val (EV.isi (T := "tuple") T.b_isinstance T.b_tuple (EV.var 1) rfl))))) (SX.ret EV.bl ?_); rfl
/-! ### look_book -/
theorem c_look_book (T : Txt K mg) : Cal P w K mg base 4 "look_book" ["game", "book"] (spP K R_look_book) := by
  refine T.d_look_book.cal sc_look_book (fun _ _ _ _ _ _ _ us hl => match us, hl with | [_, _], _ => rfl) ?_ ?_
  · rintro ds r ⟨g, d, rfl, _⟩; rfl
  · rintro f cdv A outer s H E ds r hr ⟨g, d, rfl, h⟩
    have nd := sc_look_book.nd
    rcases h with ⟨hg, rfl⟩ | ⟨n, k, p, m, hv, rfl, hd, rfl⟩
    · refine SX.exprR (ER.call (c_look_game T) (hr.mono (by decide)) (EA.cons (EV.var 0) EA.nil) ⟨_, rfl, by rw [hg]; rfl⟩) ?_
      rfl
    · refine SX.expr (EV.call (c_look_game T) (hr.mono (by decide)) (EA.cons (EV.var 0) EA.nil) ⟨_, rfl, by rw [isGameD_valid hv]; rfl⟩) ?_
      refine SX.ite (ET.not (ET.val (EV.call (c_is_good T) (hr.mono (by decide)) (EA.cons (EV.var 0) (EA.cons (EV.var 1) EA.nil)) ⟨n, k, p, m, d, hd, rfl, rfl⟩))) (fun h => ?_) (fun h => ?_)
      · have e : isGoodD n k d = false := by simpa using h
        rw [e]
        exact SX.raise T.e_BadBook rfl
      · have e : isGoodD n k d = true := by simpa using h
        rw [e]
        exact SX.nil (SX.nil rfl)
/-! ### shared -/
theorem c_shared (T : Txt K mg) : Cal P w K mg base 1 "shared" ["ticket", "draw"] (spP K R_shared) := by
  refine T.d_shared.cal sc_shared (fun _ _ _ _ _ _ _ us hl => match us, hl with | [_, _], _ => rfl) ?_ ?_
  · rintro ds r ⟨t, dr, _, rfl, _⟩; rfl
  · rintro f cdv A outer s H E ds r hr ⟨t, dr, ht, rfl, rfl⟩
    have nd := sc_shared.nd
    refine SX.noxR (SX.ret (EV.lenL T.b_len (EV.lc (LC.flt 2 "one" (EVI.tup (EV.var 0)) (fun a ha _ _ _ _ _ => EC.et (EC.inT Enc.int (u65 hr) (EV.var 2) (EV.var 1))) (fun a ha _ _ _ _ _ _ => EV.var 2) ?_))) ?_)
    · exact Nat.lt_of_le_of_lt ht (by decide)
    · show PyData.int _ = PyData.int _
      rw [List.length_map]; rfl
/-! ### does_hold -/
theorem c_does_hold (T : Txt K mg) : Cal P w K mg base 2 "does_hold" ["game", "ticket", "draw"] (spP K R_does_hold) := by
  refine T.d_does_hold.cal sc_does_hold (fun _ _ _ _ _ _ _ us hl => match us, hl with | [_, _, _], _ => rfl) ?_ ?_
  · rintro ds r ⟨n, k, p, m, t, dr, _, rfl, _⟩; rfl
  · rintro f cdv A outer s H E ds r hr ⟨n, k, p, m, t, dr, ht, rfl, rfl⟩
    have nd := sc_does_hold.nd
    refine SX.noxR (SX.ret (EC.ev (EC.ge (EV.call (c_shared T) (hr.mono (by decide)) (EA.cons (EV.var 1) (EA.cons (EV.var 2) EA.nil)) ⟨_, _, ht, rfl, rfl⟩) (EV.ixT (EV.var 0) EV.int rfl))) ?_)
    rfl
/-! ### are_names -/
theorem c_are_names (T : Txt K mg) : Cal P w K mg base 2 "are_names" ["game", "thing"] (spP K R_are_names) := by
  refine T.d_are_names.cal sc_are_names (fun _ _ _ _ _ _ _ us hl => match us, hl with | [_, _], _ => rfl) ?_ ?_
  · rintro ds r ⟨n, k, p, m, d, hn, hz, rfl, rfl⟩ <;> rfl
  · rintro f cdv A outer s H E ds r hr ⟨n, k, p, m, d, hn, hz, rfl, rfl⟩
    have nd := sc_are_names.nd
    refine SX.noxR ?_
    cases d with
    | tuple es =>
      have hl := hz es rfl
      refine SX.ite (k := false || !(es.all fun x => isWholeD x 1 n)) (ET.w (EW.or (ET.notT (ET.val (EV.isi (T := "tuple") T.b_isinstance T.b_tuple (EV.var 1) rfl))) (fun _ => EW.or1 (ET.not (ET.val (EV.allM T.b_all (EV.lc (LC.map (enc := fun x => x) (xs := es) 2 "one" (EVI.tup (by rw [List.map_id']; exact EV.var 1)) (fun a ha _ _ _ _ _ => EV.call (c_is_whole T) (hr.mono (by decide)) (EA.cons (EV.var 2) (EA.cons EV.int (EA.cons (EV.ixT (EV.var 0) EV.int rfl) EA.nil))) ⟨_, _, _, rfl, rfl⟩) (lt_size (by omega)))))))))) (fun h => ?_) (fun h => ?_)
      · refine SX.ret EV.bl ?_
        show PyData.bool false = PyData.bool (es.all (fun x => isWholeD x 1 n) && _)
        have : (es.all fun x => isWholeD x 1 n) = false := by simpa using h
        rw [this]; rfl
      · have ha : (es.all fun x => isWholeD x 1 n) = true := by simpa using h
        have he := all_whole ha
        rw [show areNamesD n (.tuple es) = decide (sortI (es.map getI) = nums n) by show ((es.all fun x => isWholeD x 1 n) && _) = _; rw [ha, Bool.true_and]]
        have hel : (es.map getI).length ≤ 1000 := by rw [List.length_map]; exact hl
        generalize es.map getI = xs at he hel ⊢
        subst he
        refine SX.nil (SX.ret (EC.ev (EC.eqE (f := eT) (x := sortI xs) (y := nums n) encT hr.units (EV.tupL T.b_tuple (EF.sortIT T.b_sorted (ns := xs) (ms := sortI xs) (EV.var 1) (sortI_perm _) (sortI_rise _)).ev) (EV.call (c_numbers_of T) (hr.mono (by decide)) (EA.cons (EV.var 0) EA.nil) ⟨n, k, p, m, by omega, rfl, rfl⟩))) ?_)
        rfl
    | int i => refine SX.iteT (ET.w (EW.orT (ET.notF (ET.val (EV.isi (T := "tuple") T.b_isinstance T.b_tuple (EV.var 1) rfl))))) (SX.ret EV.bl ?_); rfl
    | bool i => refine SX.iteT (ET.w (EW.orT (ET.notF (ET.val (EV.isi (T := "tuple") T.b_isinstance T.b_tuple (EV.var 1) rfl))))) (SX.ret EV.bl ?_); rfl
    | none => refine SX.iteT (ET.w (EW.orT (ET.notF (ET.val (EV.isi (T := "tuple") T.b_isinstance T.b_tuple (EV.var 1) rfl))))) (SX.ret EV.bl ?_); rfl
    | str i => refine SX.iteT (ET.w (EW.orT (ET.notF (ET.val (EV.isi (T := "tuple") T.b_isinstance T.b_tuple (EV.var 1) rfl))))) (SX.ret EV.bl ?_); rfl
    | list i => refine SX.iteT (ET.w (EW.orT (ET.notF (ET.val (EV.isi (T := "tuple") T.b_isinstance T.b_tuple (EV.var 1) rfl))))) (SX.ret EV.bl ?_); rfl
    | dict i => refine SX.iteT (ET.w (EW.orT (ET.notF (ET.val (EV.isi (T := "tuple") T.b_isinstance T.b_tuple (EV.var 1) rfl))))) (SX.ret EV.bl ?_); rfl
/-! ### called -/
theorem c_called (T : Txt K mg) : Cal P w K mg base 1 "called" ["book", "names"] (spP K R_called) := by
  refine T.d_called.cal sc_called (fun _ _ _ _ _ _ _ us hl => match us, hl with | [_, _], _ => rfl) ?_ ?_
  · rintro ds r ⟨n, k, book, names, hk, hb, hl, hn, rfl, rfl⟩ <;> rfl
  · rintro f cdv A outer s H E ds r hr ⟨n, k, book, names, hk, hb, hl, hn, rfl, rfl⟩
    have nd := sc_called.nd
    refine SX.noxR ?_
    refine SX.ret (EV.tupL T.b_tuple (EF.sortT T.b_sorted (EV.is (EV.lc (LC.map (xs := book) (f := fun t => eT (callM names t)) (enc := eT) 3 "ticket" (EVI.tup (EV.var 0)) (fun x hx _ _ _ _ _ => (EV.tupL T.b_tuple (EF.sortI T.b_sorted (EV.is (EV.lc (LC.map (xs := x) (f := fun y => PyData.int (names.getD (y - 1).toNat 0)) (enc := PyData.int) 2 "one" (EVI.tup (EV.var 3)) (fun y hy _ _ _ _ _ => (EV.ixT (EV.var 1) (EV.sub (EV.var 2) EV.int) (at_names (by have := ticket_mem (hb x hx) y hy; omega)))) (lt_size (by have := tickets_len (hb x hx); omega)))) (call_ints names x)) (sortI_perm _) (sortI_rise _)).ev)) (by trivial))) (call_rows names book)) (.inl rfl) (call_ne hk.1 hb) (sortM_ok _)).ev) ?_
    rfl
/-! ### renamed -/
theorem c_renamed (T : Txt K mg) : Cal P w K mg base 5 "renamed" ["game", "book", "names"] (spP K R_renamed) := by
  refine T.d_renamed.cal sc_renamed (fun _ _ _ _ _ _ _ us hl => match us, hl with | [_, _, _], _ => rfl) ?_ ?_
  · rintro ds r ⟨n, k, p, m, b, d, hv, rfl, hb, hd, h⟩ <;> rfl
  · rintro f cdv A outer s H E ds r hr ⟨n, k, p, m, b, d, hv, rfl, hb, hd, h⟩
    have nd := sc_renamed.nd
    have hv' := ofValid hv
    rcases h with ⟨hg, rfl⟩ | ⟨book, rfl, hg, ⟨ha, rfl⟩ | ⟨a, rfl, ha, rfl⟩⟩
    · refine SX.exprR (ER.call (c_look_book T) (hr.mono (by decide)) (EA.cons (EV.var 0) (EA.cons (EV.var 1) EA.nil)) ⟨_, _, rfl, .inr ⟨n, k, p, m, hv, rfl, hb, by rw [hg]; rfl⟩⟩) ?_
      rfl
    · refine SX.expr (EV.call (c_look_book T) (hr.mono (by decide)) (EA.cons (EV.var 0) (EA.cons (EV.var 1) EA.nil)) ⟨_, _, rfl, .inr ⟨n, k, p, m, hv, rfl, hb, by rw [hg]; rfl⟩⟩) ?_
      refine SX.iteT (ET.is (k := !areNamesD n d) (ET.not (ET.val (EV.call (c_are_names T) (hr.mono (by decide)) (EA.cons (EV.var 0) (EA.cons (EV.var 2) EA.nil)) ⟨n, k, p, m, d, by omega, hd, rfl, rfl⟩))) (by rw [ha]; rfl)) ?_
      exact SX.raise T.e_BadNames rfl
    · refine SX.noxR ?_
      have hB := IsBook.of_good (by omega) hg
      have hal := ha.1
      refine SX.expr (EV.call (c_look_book T) (hr.mono (by decide)) (EA.cons (EV.var 0) (EA.cons (EV.var 1) EA.nil)) ⟨_, _, rfl, .inr ⟨n, k, p, m, hv, rfl, hb, by rw [hg]; rfl⟩⟩) ?_
      refine SX.iteF (ET.is (k := !areNamesD n (eT a)) (ET.not (ET.val (EV.call (c_are_names T) (hr.mono (by decide)) (EA.cons (EV.var 0) (EA.cons (EV.var 2) EA.nil)) ⟨n, k, p, m, _, by omega, hd, rfl, rfl⟩))) (by rw [names_eT (by omega) ha]; rfl)) (SX.nil ?_)
      refine SX.ret (EV.call (c_called T) (hr.mono (by decide)) (EA.cons (EV.var 1) (EA.cons (EV.var 2) EA.nil)) ⟨n, k, book, a, by omega, hB.1.mem, by omega, by omega, rfl, rfl⟩) ?_
      rfl
/-! ### all_names -/
theorem c_all_names (T : Txt K mg) : Cal P w K mg base 2 "all_names" ["game"] (spP K R_all_names) := by
  refine T.d_all_names.cal sc_all_names (fun _ _ _ _ _ _ _ us hl => match us, hl with | [_], _ => rfl) ?_ ?_
  · rintro ds r ⟨n, k, p, m, hn, rfl, rfl⟩ <;> rfl
  · rintro f cdv A outer s H E ds r hr ⟨n, k, p, m, hn, rfl, rfl⟩
    have nd := sc_all_names.nd
    refine SX.noxR ?_
    refine SX.asg 1 (EV.lst (EA.cons (EV.tup EA.nil) EA.nil)) ?_
    refine SX.for_ (g := gName 2) [2] (fun i τ => τ = [.pu (eT [n, k, p, m]), .pu (eLT (nmIt n i)), .un, .un, .un]) (EVI.range1 T.b_range (EV.ixT (EV.var 0) EV.int (rfl)) (by omega)) (pg_name nd rfl (by first | exact Or.inl rfl | exact Or.inr rfl)) (rfl) ?_ ?_ PassesOwn.never
    · rintro i d τ' hd rfl
      have hi : i < n.toNat := by
        have := (List.getElem?_eq_some_iff.mp hd).1
        rwa [List.length_map, rng_len] at this
      have hz1 := nm_size hn (j := i + 1) (by omega)
      have hlz : (nmIt n (i + 1)).length = ((nmIt n i).flatMap fun a => ((nums n).filter fun b => !memD b a).map fun b => eT (a ++ [b])).length := by
        have := flat_map n (nmIt n i)
        injection this with this
        rw [this, List.length_map]; rfl
      refine ⟨_, EG.name 2 (by decide) rfl, ?_⟩
      refine SX.asgLc2 1 (LC2.mk' (xs := nmIt n i) (enc := eT) (ys := fun _ => nums n) (enc2 := PyData.int) (f := fun a b => eT (a ++ [b])) (p := fun a b => !memD b a) 3 4 "row" "one" (by decide) (EVI.lst (EV.var 1)) (fun a ha _ _ _ _ _ => (EV.call (c_numbers_of T) (hr.mono (by decide)) (EA.cons (EV.var 0) EA.nil) ⟨n, k, p, m, by omega, rfl, rfl⟩)) (fun a ha b hb _ _ _ _ _ => (EC.et (EC.notInT (f := PyData.int) Enc.int (u65 hr) (EV.var 4) (EV.var 3)))) (fun a ha b hb _ _ _ _ _ _ => (EV.snocT (f := PyData.int) (EV.var 3) (EV.var 4) (le_size (by have := (nmIt_row ha).1; omega)))) (lt_size (by rw [← hlz]; omega))) ?_
      refine SX.forget 2 (SX.nil ?_)
      show _ = [SV.pu (eT [n, k, p, m]), .pu (eLT (nmIt n (i + 1))), .un, .un, .un]
      rw [flat_map]; rfl
    · rintro τ' rfl
      rw [List.length_map, rng_len]
      refine SX.ret (EV.var 1) ?_
      rfl
/-! ### look_few -/
theorem c_look_few (T : Txt K mg) : Cal P w K mg base 5 "look_few" ["game", "book"] (spP K R_look_few) := by
  refine T.d_look_few.cal sc_look_few (fun _ _ _ _ _ _ _ us hl => match us, hl with | [_, _], _ => rfl) ?_ ?_
  · rintro ds r ⟨n, k, p, m, d, hv, rfl, h⟩ <;> rfl
  · rintro f cdv A outer s H E ds r hr ⟨n, k, p, m, d, hv, rfl, h⟩
    have nd := sc_look_few.nd
    rcases h with ⟨h6, rfl⟩ | ⟨h6, hd, rfl⟩
    · refine SX.expr (EV.call (c_look_game T) (hr.mono (by decide)) (EA.cons (EV.var 0) EA.nil) ⟨_, rfl, by rw [isGameD_valid (by assumption)]; rfl⟩) ?_
      refine SX.iteT (ET.is (EC.et (EC.gt (EV.ixT (EV.var 0) EV.int (rfl)) (EV.gint rfl T.i_GREATEST))) (decide_eq_true h6)) ?_
      exact SX.raise T.e_Full rfl
    · cases e : isGoodD n k d with
      | false =>
        rw [if_neg (by decide)]
        refine SX.expr (EV.call (c_look_game T) (hr.mono (by decide)) (EA.cons (EV.var 0) EA.nil) ⟨_, rfl, by rw [isGameD_valid (by assumption)]; rfl⟩) ?_
        refine SX.iteF (ET.is (EC.et (EC.gt (EV.ixT (EV.var 0) EV.int (rfl)) (EV.gint rfl T.i_GREATEST))) (decide_eq_false (by omega))) (SX.nil ?_)
        refine SX.exprR (ER.call (c_look_book T) (hr.mono (by decide)) (EA.cons (EV.var 0) (EA.cons (EV.var 1) EA.nil)) ⟨_, _, rfl, .inr ⟨n, k, p, m, hv, rfl, hd, by rw [e]; rfl⟩⟩) ?_
        rfl
      | true =>
        rw [if_pos rfl]
        refine SX.noxR ?_
        refine SX.expr (EV.call (c_look_game T) (hr.mono (by decide)) (EA.cons (EV.var 0) EA.nil) ⟨_, rfl, by rw [isGameD_valid (by assumption)]; rfl⟩) ?_
        refine SX.iteF (ET.is (EC.et (EC.gt (EV.ixT (EV.var 0) EV.int (rfl)) (EV.gint rfl T.i_GREATEST))) (decide_eq_false (by omega))) (SX.nil ?_)
        refine SX.expr (EV.call (c_look_book T) (hr.mono (by decide)) (EA.cons (EV.var 0) (EA.cons (EV.var 1) EA.nil)) ⟨_, _, rfl, .inr ⟨n, k, p, m, hv, rfl, hd, by rw [e]; rfl⟩⟩) (SX.nil ?_)
        rfl
/-! ### first_form -/
theorem c_first_form (T : Txt K mg) : Cal P w K mg base 3 "first_form" ["game", "book"] (spP K R_first_form) := by
  refine T.d_first_form.cal sc_first_form (fun _ _ _ _ _ _ _ us hl => match us, hl with | [_, _], _ => rfl) ?_ ?_
  · rintro ds r ⟨n, k, p, m, book, hv, h6, hb, hl, rfl, rfl⟩ <;> rfl
  · rintro f cdv A outer s H E ds r hr ⟨n, k, p, m, book, hv, h6, hb, hl, rfl, rfl⟩
    have nd := sc_first_form.nd
    have hv' := ofValid hv
    have hz := nm_size (n := n) (by omega) (j := n.toNat) (by omega)
    refine SX.noxR ?_
    obtain ⟨q, qs, hq⟩ : ∃ q qs, (namesM n).map (calledM book) = q :: qs := by
      cases e : (namesM n).map (calledM book) with
      | nil => exact absurd (List.map_eq_nil_iff.mp e) (names_ne (by omega))
      | cons q qs => exact ⟨q, qs, rfl⟩
    have hf : firstM n book = minF lexT q qs := by unfold firstM; rw [hq]
    have hz' : (namesM n).length ≤ 720 := hz
    refine SX.ret (EV.minE (x := q) (xs := qs) Alk.tupT hr.units T.b_min (EV.lc (LC.map (xs := namesM n) (enc := eT) (f := fun nm => eTT (calledM book nm)) 2 "names" (EVI.lst (EV.call (c_all_names T) (hr.mono (by decide)) (EA.cons (EV.var 0) EA.nil) ⟨n, k, p, m, by omega, rfl, rfl⟩)) (fun x hx _ _ _ _ _ => (EV.call (c_called T) (hr.mono (by decide)) (EA.cons (EV.var 1) (EA.cons (EV.var 2) EA.nil)) ⟨n, k, book, x, by omega, hb, by omega, (by have := (names_row (by omega) hx).1; omega), rfl, rfl⟩)) (lt_size (by omega)))) (.inl ?_)) ?_
    · show PyData.list ((namesM n).map fun nm => eTT (calledM book nm)) = .list ((q :: qs).map eTT)
      rw [← hq, List.map_map]; rfl
    · show eTT _ = eTT _
      rw [hf]
/-! ### form_of -/
theorem c_form_of (T : Txt K mg) : Cal P w K mg base 6 "form_of" ["game", "book"] (spP K R_form_of) := by
  refine T.d_form_of.cal sc_form_of (fun _ _ _ _ _ _ _ us hl => match us, hl with | [_, _], _ => rfl) ?_ ?_
  · rintro ds r ⟨n, k, p, m, d, hv, rfl, h⟩ <;> rfl
  · rintro f cdv A outer s H E ds r hr ⟨n, k, p, m, d, hv, rfl, h⟩
    have nd := sc_form_of.nd
    have hv' := ofValid hv
    rcases h with ⟨h6, rfl⟩ | ⟨h6, hd, ⟨hb, rfl⟩ | ⟨book, e, rfl, hb, rfl, rfl⟩⟩
    · refine SX.exprR (ER.call (c_look_few T) (hr.mono (by decide)) (EA.cons (EV.var 0) (EA.cons (EV.var 1) EA.nil)) ⟨n, k, p, m, d, hv, rfl, .inl ⟨h6, rfl⟩⟩) ?_
      rfl
    · refine SX.exprR (ER.call (c_look_few T) (hr.mono (by decide)) (EA.cons (EV.var 0) (EA.cons (EV.var 1) EA.nil)) ⟨n, k, p, m, d, hv, rfl, .inr ⟨h6, hd, by rw [hb]; rfl⟩⟩) ?_
      rfl
    · refine SX.noxR ?_
      have hB := IsBook.of_good (by omega) hb
      refine SX.expr (EV.call (c_look_few T) (hr.mono (by decide)) (EA.cons (EV.var 0) (EA.cons (EV.var 1) EA.nil)) ⟨n, k, p, m, _, hv, rfl, .inr ⟨h6, hd, by rw [hb]; rfl⟩⟩) ?_
      refine SX.ret (EV.call (c_first_form T) (hr.mono (by decide)) (EA.cons (EV.var 0) (EA.cons (EV.var 1) EA.nil)) ⟨n, k, p, m, book, hv, h6, hB.1.mem, hB.2, rfl, rfl⟩) ?_
      rfl
/-! ### are_alike -/
theorem c_are_alike (T : Txt K mg) : Cal P w K mg base 6 "are_alike" ["game", "one", "other"] (spP K R_are_alike) := by
  refine T.d_are_alike.cal sc_are_alike (fun _ _ _ _ _ _ _ us hl => match us, hl with | [_, _, _], _ => rfl) ?_ ?_
  · rintro ds r ⟨n, k, p, m, b, c, hv, rfl, h⟩ <;> rfl
  · rintro f cdv A outer s H E ds r hr ⟨n, k, p, m, b, c, hv, rfl, h⟩
    have nd := sc_are_alike.nd
    have hv' := ofValid hv
    rcases h with ⟨h6, rfl⟩ | ⟨h6, hb, ⟨hg, rfl⟩ | ⟨book, rfl, hg, hc, ⟨hg2, rfl⟩ | ⟨ot, rfl, hg2, rfl⟩⟩⟩
    · refine SX.exprR (ER.call (c_look_few T) (hr.mono (by decide)) (EA.cons (EV.var 0) (EA.cons (EV.var 1) EA.nil)) ⟨n, k, p, m, b, hv, rfl, .inl ⟨h6, rfl⟩⟩) ?_
      rfl
    · refine SX.exprR (ER.call (c_look_few T) (hr.mono (by decide)) (EA.cons (EV.var 0) (EA.cons (EV.var 1) EA.nil)) ⟨n, k, p, m, b, hv, rfl, .inr ⟨h6, hb, by rw [hg]; rfl⟩⟩) ?_
      rfl
    · refine SX.expr (EV.call (c_look_few T) (hr.mono (by decide)) (EA.cons (EV.var 0) (EA.cons (EV.var 1) EA.nil)) ⟨n, k, p, m, _, hv, rfl, .inr ⟨h6, hb, by rw [hg]; rfl⟩⟩) ?_
      refine SX.exprR (ER.call (c_look_few T) (hr.mono (by decide)) (EA.cons (EV.var 0) (EA.cons (EV.var 2) EA.nil)) ⟨n, k, p, m, c, hv, rfl, .inr ⟨h6, hc, by rw [hg2]; rfl⟩⟩) ?_
      rfl
    · refine SX.noxR ?_
      have hB := IsBook.of_good (by omega) hg
      have hO := IsBook.of_good (by omega) hg2
      refine SX.expr (EV.call (c_look_few T) (hr.mono (by decide)) (EA.cons (EV.var 0) (EA.cons (EV.var 1) EA.nil)) ⟨n, k, p, m, _, hv, rfl, .inr ⟨h6, hb, by rw [hg]; rfl⟩⟩) ?_
      refine SX.expr (EV.call (c_look_few T) (hr.mono (by decide)) (EA.cons (EV.var 0) (EA.cons (EV.var 2) EA.nil)) ⟨n, k, p, m, _, hv, rfl, .inr ⟨h6, hc, by rw [hg2]; rfl⟩⟩) ?_
      refine SX.ret (EC.ev (EC.eqE (f := eTT) encTT hr.units (EV.call (c_first_form T) (hr.mono (by decide)) (EA.cons (EV.var 0) (EA.cons (EV.var 1) EA.nil)) ⟨n, k, p, m, book, hv, h6, hB.1.mem, hB.2, rfl, rfl⟩) (EV.call (c_first_form T) (hr.mono (by decide)) (EA.cons (EV.var 0) (EA.cons (EV.var 2) EA.nil)) ⟨n, k, p, m, ot, hv, h6, hO.1.mem, hO.2, rfl, rfl⟩))) ?_
      rfl
/-! ### keepers -/
theorem c_keepers (T : Txt K mg) : Cal P w K mg base 6 "keepers" ["game", "book"] (spP K R_keepers) := by
  refine T.d_keepers.cal sc_keepers (fun _ _ _ _ _ _ _ us hl => match us, hl with | [_, _], _ => rfl) ?_ ?_
  · rintro ds r ⟨n, k, p, m, d, hv, rfl, h⟩ <;> rfl
  · rintro f cdv A outer s H E ds r hr ⟨n, k, p, m, d, hv, rfl, h⟩
    have nd := sc_keepers.nd
    have hv' := ofValid hv
    rcases h with ⟨h6, rfl⟩ | ⟨h6, hd, ⟨hb, rfl⟩ | ⟨book, e, rfl, hb, rfl, rfl⟩⟩
    · refine SX.exprR (ER.call (c_look_few T) (hr.mono (by decide)) (EA.cons (EV.var 0) (EA.cons (EV.var 1) EA.nil)) ⟨n, k, p, m, d, hv, rfl, .inl ⟨h6, rfl⟩⟩) ?_
      rfl
    · refine SX.exprR (ER.call (c_look_few T) (hr.mono (by decide)) (EA.cons (EV.var 0) (EA.cons (EV.var 1) EA.nil)) ⟨n, k, p, m, d, hv, rfl, .inr ⟨h6, hd, by rw [hb]; rfl⟩⟩) ?_
      rfl
    · refine SX.noxR ?_
      have hB := IsBook.of_good (by omega) hb
      have hz : (namesM n).length ≤ 720 := nm_size (n := n) (by omega) (j := n.toNat) (by omega)
      refine SX.expr (EV.call (c_look_few T) (hr.mono (by decide)) (EA.cons (EV.var 0) (EA.cons (EV.var 1) EA.nil)) ⟨n, k, p, m, _, hv, rfl, .inr ⟨h6, hd, by rw [hb]; rfl⟩⟩) ?_
      refine SX.ret (EV.lenL T.b_len (EV.lc (LC.flt (xs := namesM n) (enc := eT) (f := eT) (p := fun a => decide (calledM book a = book)) 2 "names" (EVI.lst (EV.call (c_all_names T) (hr.mono (by decide)) (EA.cons (EV.var 0) EA.nil) ⟨n, k, p, m, by omega, rfl, rfl⟩)) (fun x hx _ _ _ _ _ => EC.et (EC.eqE (f := eTT) encTT hr.units (EV.call (c_called T) (hr.mono (by decide)) (EA.cons (EV.var 1) (EA.cons (EV.var 2) EA.nil)) ⟨n, k, book, x, by omega, hB.1.mem, by omega, (by have := (names_row (by omega) hx).1; omega), rfl, rfl⟩) (EV.var 1))) (fun x hx _ _ _ _ _ _ => EV.var 2) (lt_size (by omega))))) ?_
      show PyData.int _ = PyData.int _
      rw [List.length_map]; rfl
/-! ### how_many_alike -/
theorem c_how_many_alike (T : Txt K mg) : Cal P w K mg base 6 "how_many_alike" ["game", "book"] (spP K R_how_many_alike) := by
  refine T.d_how_many_alike.cal sc_how_many_alike (fun _ _ _ _ _ _ _ us hl => match us, hl with | [_, _], _ => rfl) ?_ ?_
  · rintro ds r ⟨n, k, p, m, d, hv, rfl, h⟩ <;> rfl
  · rintro f cdv A outer s H E ds r hr ⟨n, k, p, m, d, hv, rfl, h⟩
    have nd := sc_how_many_alike.nd
    have hv' := ofValid hv
    rcases h with ⟨h6, rfl⟩ | ⟨h6, hd, ⟨hb, rfl⟩ | ⟨book, e, rfl, hb, ⟨hf, rfl⟩, rfl⟩⟩
    · refine SX.exprR (ER.call (c_look_few T) (hr.mono (by decide)) (EA.cons (EV.var 0) (EA.cons (EV.var 1) EA.nil)) ⟨n, k, p, m, d, hv, rfl, .inl ⟨h6, rfl⟩⟩) ?_
      rfl
    · refine SX.exprR (ER.call (c_look_few T) (hr.mono (by decide)) (EA.cons (EV.var 0) (EA.cons (EV.var 1) EA.nil)) ⟨n, k, p, m, d, hv, rfl, .inr ⟨h6, hd, by rw [hb]; rfl⟩⟩) ?_
      rfl
    · refine SX.noxR ?_
      have hB := IsBook.of_good (by omega) hb
      have hz : (namesM n).length ≤ 720 := nm_size (n := n) (by omega) (j := n.toNat) (by omega)
      refine SX.expr (EV.call (c_look_few T) (hr.mono (by decide)) (EA.cons (EV.var 0) (EA.cons (EV.var 1) EA.nil)) ⟨n, k, p, m, _, hv, rfl, .inr ⟨h6, hd, by rw [hb]; rfl⟩⟩) ?_
      refine SX.ret (EV.lenSetR (nss := allM n book) hr.units T.b_len T.b_set (EV.is (EV.lc (LC.map (xs := namesM n) (enc := eT) (f := fun a => eTT (calledM book a)) 2 "names" (EVI.lst (EV.call (c_all_names T) (hr.mono (by decide)) (EA.cons (EV.var 0) EA.nil) ⟨n, k, p, m, by omega, rfl, rfl⟩)) (fun x hx _ _ _ _ _ => (EV.call (c_called T) (hr.mono (by decide)) (EA.cons (EV.var 1) (EA.cons (EV.var 2) EA.nil)) ⟨n, k, book, x, by omega, hB.1.mem, by omega, (by have := (names_row (by omega) hx).1; omega), rfl, rfl⟩)) (lt_size (by omega)))) (by unfold allM; rw [List.map_map]; rfl)) hf) ?_
      rfl
/-! ### all_escapes -/
theorem c_all_escapes (T : Txt K mg) : Cal P w K mg base 15 "all_escapes" ["game", "book"] (spP K R_all_escapes) := by
  refine T.d_all_escapes.cal sc_all_escapes (fun _ _ _ _ _ _ _ us hl => match us, hl with | [_, _], _ => rfl) ?_ ?_
  · rintro ds r ⟨n, k, p, m, book, _, _, rfl, _⟩; rfl
  · rintro f cdv A outer s H E ds r hr ⟨n, k, p, m, book, hv, hb, rfl, rfl⟩
    have nd := sc_all_escapes.nd
    have hsD := tickets_size hv p
    refine SX.noxR (SX.ret (EV.lc (LC.flt (xs := ticketsM n p) (enc := eT) (f := eT) (p := fun d => !(book.any fun t => holdsM m t d)) 2 "draw" (EVI.lst (EV.call (c_all_draws T) (hr.mono (by decide)) (EA.cons (EV.var 0) EA.nil) ⟨n, k, p, m, hv, rfl, rfl⟩)) (fun x hx _ _ _ _ _ => ET.not (ET.val (EV.anyM T.b_any (EV.lc (LC.map (xs := book) (enc := eT) (f := fun t => .bool (holdsM m t x)) 3 "ticket" (EVI.tup (EV.var 1)) (fun t ht _ _ _ _ _ => EV.call (c_does_hold T) (hr.mono (by decide)) (EA.cons (EV.var 0) (EA.cons (EV.var 3) (EA.cons (EV.var 2) EA.nil))) ⟨n, k, p, m, t, x, hb.2 t ht, rfl, rfl⟩) (Nat.lt_of_le_of_lt hb.1 (by decide))))))) (fun x hx _ _ _ _ _ _ => EV.var 2) (Nat.lt_of_le_of_lt hsD (by decide)))) ?_)
    rfl
/-! ### escapes -/
theorem c_escapes (T : Txt K mg) : Cal P w K mg base 16 "escapes" ["game", "book"] (spP K R_escapes) := by
  refine T.d_escapes.cal sc_escapes (fun _ _ _ _ _ _ _ us hl => match us, hl with | [_, _], _ => rfl) ?_ ?_
  · rintro ds r ⟨g, d, rfl, h⟩ <;> rfl
  · rintro f cdv A outer s H E ds r hr ⟨g, d, rfl, h⟩
    have nd := sc_escapes.nd
    rcases h with ⟨hg, rfl⟩ | ⟨n, k, p, m, hv, rfl, hd, ⟨hb, rfl⟩ | ⟨book, rfl, hb, rfl⟩⟩
    · refine SX.exprR (ER.call (c_look_book T) (hr.mono (by decide)) (EA.cons (EV.var 0) (EA.cons (EV.var 1) EA.nil)) ⟨_, _, rfl, .inl ⟨hg, rfl⟩⟩) ?_
      rfl
    · refine SX.exprR (ER.call (c_look_book T) (hr.mono (by decide)) (EA.cons (EV.var 0) (EA.cons (EV.var 1) EA.nil)) ⟨_, _, rfl, .inr ⟨n, k, p, m, hv, rfl, hd, by rw [hb]; rfl⟩⟩) ?_
      rfl
    · refine SX.noxR ?_
      have hbz := dsz_book hd
      have hv' := ofValid hv
      refine SX.expr (EV.call (c_look_book T) (hr.mono (by decide)) (EA.cons (EV.var 0) (EA.cons (EV.var 1) EA.nil)) ⟨_, _, rfl, .inr ⟨n, k, p, m, hv, rfl, hd, by rw [hb]; rfl⟩⟩) ?_
      refine SX.ret (EV.call (c_all_escapes T) (hr.mono (by decide)) (EA.cons (EV.var 0) (EA.cons (EV.var 1) EA.nil)) ⟨n, k, p, m, book, hv, hbz, rfl, rfl⟩) ?_
      rfl
/-! ### _law_town -/
theorem c__law_town (T : Txt K mg) : Cal P w K mg base 1 "_law_town" ["script"] (spF K R_town) := by
  refine T.d__law_town.calF sc__law_town (fun _ _ _ _ _ _ _ us hl => match us, hl with | [_], _ => rfl) ?_ rfl ?_
  · rintro ds es ⟨script, _, rfl, _⟩; rfl
  · rintro f cdv A outer s H E ds es hr ⟨script, hl, rfl, rfl⟩
    have nd := sc__law_town.nd
    refine ⟨_, EF.cat op_catS (EF.lst (EA.cons EV.int EA.nil)).ev (EF.list T.b_list (EV.var 0) (.inl rfl)).ev ?_⟩
    rw [List.length_map]
    show 1 + script.length ≤ 2 ^ 24
    omega
/-! ### _law_draw -/
theorem c__law_draw (T : Txt K mg) : Cal P w K mg base 1 "_law_draw" ["script", "town", "many"] (spT K R_draw) := by
  refine T.d__law_draw.calT sc__law_draw (fun _ _ _ _ _ _ _ us hl => match us, hl with | [_, _, _], _ => rfl) ?_ ?_
  · rintro script T ds d T' ⟨many, _, _, _, rfl, _⟩; rfl
  · rintro f cdv A outer s H E t script T0 ds d T' hr ⟨many, hm, hT, hs, rfl, rfl, rfl⟩
    have nd := sc__law_draw.nd
    refine SX.nox ?_ (fun _ _ z => z)
    obtain ⟨h1, h2, h3⟩ := hT
    obtain ⟨c, r, rfl⟩ : ∃ c r, T0 = c :: r := by
      cases T0 with
      | nil => simp at h1
      | cons c r => exact ⟨c, r, rfl⟩
    simp only [List.headD_cons] at h2 h3
    have hlr : r.length = script.length := by simpa using h1
    refine SX.setIx 1 (jn := 0) (EV.add (EV.ixOw 1 EV.int rfl ⟨_, rfl⟩ (atI_head _ _)) EV.int) EV.int rfl ⟨_, rfl⟩ (ixN_nn (j := 0) (by simp)) ?_
    show SX _ _ [.pu (DL.lst PyData.int script), .ow t (((c + 1) :: r).map PyData.int), .pu (.int many), .un, .un, .un] _
    refine SX.ite (EC.et (EC.eqE (f := DL.lst PyData.int) encLI hr.units (EV.var 0) (EV.lst EA.nil) (y := []))) (fun h => ?_) (fun h => ?_)
    · have h' : script = [] := of_decide_eq_true h
      have e : drawM script (c :: r) many = ((c + 1) * (c + 1) * 7 / 3 % many, (c + 1) :: r) := by
        unfold drawM; dsimp only [List.headD_cons]; rw [if_pos h']; rfl
      rw [e]
      refine SX.ret (EV.mod (EV.fdiv (EV.mul (EV.mul (EV.ixOw 1 EV.int rfl ⟨_, rfl⟩ (atI_head _ _)) (EV.ixOw 1 EV.int rfl ⟨_, rfl⟩ (atI_head _ _)) (.inl (by omega))) EV.int (.inr (by omega))) EV.int ⟨by decide, by decide⟩) (EV.var 2) hm.1) ?_
      exact ⟨rfl, rfl⟩
    · have h' : script ≠ [] := of_decide_eq_false h
      have hp : 0 < script.length := List.length_pos_iff.mpr h'
      have ha0 : 0 ≤ (c + 1) % (script.length : Int) := Int.emod_nonneg _ (by omega)
      have ha1 : (c + 1) % (script.length : Int) < script.length := Int.emod_lt_of_pos _ (by omega)
      obtain ⟨at_, hat⟩ : ∃ a : Nat, (c + 1) % (script.length : Int) = (a : Int) := ⟨((c + 1) % (script.length : Int)).toNat, by omega⟩
      have hal : at_ < script.length := by omega
      have e : drawM script (c :: r) many = (if script.getD at_ 0 ≥ 10 ^ 18 ∧ r.getD at_ 0 > 0 then (r.getD at_ 0 % many, ((c + 1) :: r).set (1 + at_) (r.getD at_ 0 / many)) else
          ((((script.getD at_ 0 + 104729 * (c + 1)) % 4294967291) ^ 5 % 4294967279 / 64 * 69621 + ((script.getD at_ 0 + 104729 * (c + 1)) % 4294967291) ^ 5 % 4294967279) % 4294967231 / 8 % many, (c + 1) :: r)) := by
        unfold drawM; dsimp only [List.headD_cons]; rw [if_neg h', hat]
        have e1 : ((c :: r).set 0 (c + 1)).getD (1 + (at_ : Int).toNat) 0 = r.getD at_ 0 := by
          rw [Nat.add_comm]; rfl
        rw [e1]; rfl
      rw [e]
      have g1 : ((c + 1) :: r)[1 + at_]? = some (r.getD at_ 0) := by
        rw [Nat.add_comm, List.getElem?_cons_succ, List.getD_eq_getElem?_getD, List.getElem?_eq_getElem (by omega)]; rfl
      have g2 : script[at_]? = some (script.getD at_ 0) := by
        rw [List.getD_eq_getElem?_getD, List.getElem?_eq_getElem (by omega)]; rfl
      have i1 : atI (((c + 1) :: r).map PyData.int) (1 + (at_ : Int)) = some (.int (r.getD at_ 0)) := by
        have : (1 + (at_ : Int)) = ((1 + at_ : Nat) : Int) := by omega
        rw [this]
        exact atI_nn (by rw [List.getElem?_map, g1]; rfl)
      have i2 : atI (script.map PyData.int) (at_ : Int) = some (.int (script.getD at_ 0)) := atI_nn (by rw [List.getElem?_map, g2]; rfl)
      generalize r.getD at_ 0 = left at i1 ⊢
      generalize script.getD at_ 0 = num at i2 ⊢
      refine SX.nil (SX.asg 3 (EV.mod (EV.ixOw 1 EV.int rfl ⟨_, rfl⟩ (atI_head _ _)) (EV.lenL T.b_len (EV.var 0)) (by rw [List.length_map]; omega)) ?_)
      rw [List.length_map, hat]
      refine SX.asg 4 (EV.ixOw 1 (EV.add EV.int (EV.var 3)) rfl ⟨_, rfl⟩ i1) ?_
      refine SX.ite (ET.w (EW.and (EC.et (EC.ge (EV.ixL (EV.var 0) (EV.var 3) i2) (EV.pow EV.int EV.int ⟨by decide, by decide, by decide⟩))) fun _ => EW.and1 (EC.et (EC.gt (EV.var 4) EV.int)))) (fun hb => ?_) (fun hb => ?_)
      · have hb' : num ≥ 10 ^ 18 ∧ left > 0 := by
          rw [Bool.and_eq_true, decide_eq_true_eq, decide_eq_true_eq] at hb; exact hb
        rw [if_pos hb']
        refine SX.setIx 1 (jn := 1 + at_) (EV.fdiv (EV.var 4) (EV.var 2) hm) (EV.add EV.int (EV.var 3)) rfl ⟨_, rfl⟩ ?_ ?_
        · have : (1 + (at_ : Int)) = ((1 + at_ : Nat) : Int) := by omega
          rw [this]
          exact ixN_nn (by rw [List.length_map, List.length_cons]; omega)
        · refine SX.ret (EV.mod (EV.var 4) (EV.var 2) hm.1) ⟨rfl, ?_⟩
          show some (SV.ow t _) = some (SV.ow t _)
          rw [List.map_set]
      · have hb' : ¬ (num ≥ 10 ^ 18 ∧ left > 0) := by
          intro z
          rw [decide_eq_true (show (10 : Int) ^ (18 : Int).toNat ≤ num from z.1), decide_eq_true (show 0 < left from z.2)] at hb
          cases hb
        rw [if_neg hb']
        have hn1 : 0 ≤ (num + 104729 * (c + 1)) % 4294967291 ∧ (num + 104729 * (c + 1)) % 4294967291 < 4294967291 := ⟨Int.emod_nonneg _ (by decide), Int.emod_lt_of_pos _ (by decide)⟩
        refine SX.nil (SX.asg 5 (EV.mod (EV.add (EV.ixL (EV.var 0) (EV.var 3) i2) (EV.mul EV.int (EV.ixOw 1 EV.int rfl ⟨_, rfl⟩ (atI_head _ _)) (.inl (by omega)))) EV.int (by decide)) ?_)
        generalize (num + 104729 * (c + 1)) % 4294967291 = x at hn1 ⊢
        refine SX.asg 5 (EV.mod (EV.pow (EV.var 5) EV.int ⟨by decide, by decide, by omega⟩) EV.int (by decide)) ?_
        have hn2 : 0 ≤ x ^ 5 % 4294967279 ∧ x ^ 5 % 4294967279 < 4294967279 := ⟨Int.emod_nonneg _ (by decide), Int.emod_lt_of_pos _ (by decide)⟩
        refine SX.ret (EV.mod (EV.fdiv (EV.mod (EV.add (EV.mul (EV.fdiv (EV.var 5) EV.int ⟨by decide, by decide⟩) EV.int (.inr (by decide))) (EV.var 5)) EV.int (by decide)) EV.int ⟨by decide, by decide⟩) (EV.var 2) hm.1) ⟨rfl, rfl⟩
/-! ### _law_pick -/
theorem c__law_pick (T : Txt K mg) : Cal P w K mg base 2 "_law_pick" ["script", "town", "some"] (spT K R_pick) := by
  refine T.d__law_pick.calT sc__law_pick (fun _ _ _ _ _ _ _ us hl => match us, hl with | [_, _, _], _ => rfl) ?_ ?_
  · rintro script T ds d T' ⟨es, _, _, _, rfl, _⟩; rfl
  · rintro f cdv A outer s H E t script T0 ds d T' hr ⟨es, hl, hT, hs, rfl, hd, rfl⟩
    have nd := sc__law_pick.nd
    have hr1 := drawM_range script T0 (many := (es.length : Int)) (by omega)
    refine SX.nox ?_ (fun _ _ z => z)
    refine SX.ret (EV.ixL (EV.var 2) (EV.callT 0 1 (c__law_draw T) (hr.mono (by decide)) (EA.cons (EV.lenL T.b_len (EV.var 2)) EA.nil) ⟨_, by omega, hT, hs, rfl, rfl, rfl⟩) (by rw [← Int.toNat_of_nonneg hr1.1]; exact atI_nn hd)) ?_
    exact ⟨rfl, rfl⟩
/-! ### _law_word -/
theorem c__law_word (T : Txt K mg) : Cal P w K mg base 1 "_law_word" ["caught"] (spE K R_word) := by
  refine T.d__law_word.calE sc__law_word (fun _ _ _ _ _ _ _ us hl => match us, hl with | [_], _ => rfl) rfl ?_
  rintro f cdv A outer s H E c d hr ⟨hc, rfl⟩
  have nd := sc__law_word.nd
  obtain ⟨w1, w2, w3, w4⟩ := wordM_ok hc
  have K3 : ∀ (i : Nat) (c' : Str), clsL[i]? = some c' → PySem.W.kitOne K (.ref (He.ga K c)) (.ref (He.ga K c')) = some (decide (c = c')) := fun i c' h => T.x_all.k c c' hc (List.mem_of_getElem? h)
  refine SX.noxR (SX.iteF (ET.notT (ET.val (EV.isiX (cv := .type "ValueError") 0 T.b_isinstance (T.x_all.c c hc) (T.x_all.v c hc) (pe_bltn (v := .ty "ValueError") rfl T.b_ValueError (by decide +kernel) rfl) (fun u r => r)))) (SX.nil ?_))
  refine SX.asg 1 (EV.lst (EA.cons (EV.isiC 0 T.b_isinstance (T.x_all.c c hc) (K3 0 _ rfl) T.g_BadGame) (EA.cons (EV.isiC 0 T.b_isinstance (T.x_all.c c hc) (K3 1 _ rfl) T.g_BadTicket) (EA.cons (EV.isiC 0 T.b_isinstance (T.x_all.c c hc) (K3 2 _ rfl) T.g_BadDraw) EA.nil)))) ?_
  refine SX.asg 1 (EF.cat op_catS (EV.var 1) (EV.lst (EA.cons (EV.isiC 0 T.b_isinstance (T.x_all.c c hc) (K3 3 _ rfl) T.g_BadBook) (EA.cons (EV.isiC 0 T.b_isinstance (T.x_all.c c hc) (K3 4 _ rfl) T.g_BadWeights) (EA.cons (EV.isiC 0 T.b_isinstance (T.x_all.c c hc) (K3 5 _ rfl) T.g_BadNames) EA.nil)))) (Nat.le_of_ble_eq_true rfl)).ev ?_
  refine SX.asg 1 (EF.cat op_catS (EV.var 1) (EV.lst (EA.cons (EV.isiC 0 T.b_isinstance (T.x_all.c c hc) (K3 6 _ rfl) T.g_BadHits) (EA.cons (EV.isiC 0 T.b_isinstance (T.x_all.c c hc) (K3 7 _ rfl) T.g_BadPrizes) (EA.cons (EV.isiC 0 T.b_isinstance (T.x_all.c c hc) (K3 8 _ rfl) T.g_BadNumber) EA.nil)))) (Nat.le_of_ble_eq_true rfl)).ev ?_
  refine SX.asg 1 (EF.cat op_catS (EV.var 1) (EV.lst (EA.cons (EV.isiC 0 T.b_isinstance (T.x_all.c c hc) (K3 9 _ rfl) T.g_Unlike) (EA.cons (EV.isiC 0 T.b_isinstance (T.x_all.c c hc) (K3 10 _ rfl) T.g_Full) (EA.cons (EV.isiC 0 T.b_isinstance (T.x_all.c c hc) (K3 11 _ rfl) T.g_Nothing) EA.nil)))) (Nat.le_of_ble_eq_true rfl)).ev ?_
  refine SX.asg 1 (EF.cat op_catS (EV.var 1) (EV.lst (EA.cons (EV.isiC 0 T.b_isinstance (T.x_all.c c hc) (K3 12 _ rfl) T.g_Taken) (EA.cons (EV.isiC 0 T.b_isinstance (T.x_all.c c hc) (K3 13 _ rfl) T.g_NoBack) (EA.cons (EV.isiC 0 T.b_isinstance (T.x_all.c c hc) (K3 14 _ rfl) T.g_BadText) EA.nil)))) (Nat.le_of_ble_eq_true rfl)).ev ?_
  show SX _ _ [.kp (isEx K c), .pu (.list ((wordB c).map PyData.bool))] _
  have sh : SeqAt.shaped (.list ((wordB c).map PyData.bool)) = true := (Enc.bool.lst.sh (wordB c)).ok (by decide)
  generalize wordB c = bs at w1 w2 w4 sh ⊢
  generalize wordM c = j at w2 w3 w4 ⊢
  refine SX.ret (EV.ifT (EC.et (EC.is (EC.eqI (EV.cntB (EV.var 1) EV.bl) EV.int) (by rw [w1]; rfl))) (EV.ixD (j := j) (z := .bool true) (u65 hr) (EV.var 1) EV.bl sh rfl (by rw [List.getElem?_map, w2]; rfl) rfl (fun m z' hm hz => by rw [List.getElem?_map, w4 m hm] at hz; cases hz; rfl))) ?_
  rfl
/-! ### _law_one -/
theorem c__law_one (T : Txt K mg) : Cal P w K mg base 7 "_law_one" ["how", "some"] (spP K R_one) := by
  refine T.d__law_one.cal sc__law_one (fun _ _ _ _ _ _ _ us hl => match us, hl with | [_, _], _ => rfl) ?_ ?_
  · rintro ds r ⟨i, g, b, c, x, rfl, rfl, hh⟩ <;> rfl
  · rintro f cdv A outer s H E ds r hr ⟨i, g, b, c, x, rfl, rfl, hh⟩
    have nd := sc__law_one.nd
    refine SX.unp3 2 3 4 (EV.var 1) ?_
    rcases hh with ⟨rfl, h⟩ | ⟨rfl, h⟩ | ⟨h1, h2, h⟩
    · refine SX.iteT (ET.is (EC.et (EC.eqI (EV.var 0) EV.int)) rfl) (SX.retR (ER.call (c_renamed T) (hr.mono (by decide)) (EA.cons (EV.var 2) (EA.cons (EV.var 3) (EA.cons (EV.var 4) EA.nil))) h) rfl)
    · refine SX.iteF (ET.is (EC.et (EC.eqI (EV.var 0) EV.int)) rfl) (SX.nil ?_)
      exact SX.iteT (ET.is (EC.et (EC.eqI (EV.var 0) EV.int)) rfl) (SX.retR (ER.call (c_are_alike T) (hr.mono (by decide)) (EA.cons (EV.var 2) (EA.cons (EV.var 3) (EA.cons (EV.var 4) EA.nil))) h) rfl)
    · refine SX.iteF (ET.is (EC.et (EC.eqI (EV.var 0) EV.int)) (decide_eq_false (by omega))) (SX.nil ?_)
      refine SX.iteF (ET.is (EC.et (EC.eqI (EV.var 0) EV.int)) (decide_eq_false (by omega))) (SX.nil ?_)
      rcases (by omega : i = 2 ∨ i = 3 ∨ i = 4) with rfl | rfl | rfl
      · refine SX.asgFn 5 (PAF.cons T.d_form_of.gl (PAF.cons T.d_keepers.gl (PAF.cons T.d_how_many_alike.gl PAF.nil))) (EV.sub (EV.var 0) EV.int) (show atI _ _ = some ("form_of" : Str) from rfl) ?_
        exact SX.retR (ER.callV 5 (c_form_of T) T.d_form_of.gl (hr.mono (by decide)) (EA.cons (EV.var 2) (EA.cons (EV.var 3) EA.nil)) (few_imp h)) rfl
      · refine SX.asgFn 5 (PAF.cons T.d_form_of.gl (PAF.cons T.d_keepers.gl (PAF.cons T.d_how_many_alike.gl PAF.nil))) (EV.sub (EV.var 0) EV.int) (show atI _ _ = some ("keepers" : Str) from rfl) ?_
        exact SX.retR (ER.callV 5 (c_keepers T) T.d_keepers.gl (hr.mono (by decide)) (EA.cons (EV.var 2) (EA.cons (EV.var 3) EA.nil)) (few_imp h)) rfl
      · refine SX.asgFn 5 (PAF.cons T.d_form_of.gl (PAF.cons T.d_keepers.gl (PAF.cons T.d_how_many_alike.gl PAF.nil))) (EV.sub (EV.var 0) EV.int) (show atI _ _ = some ("how_many_alike" : Str) from rfl) ?_
        exact SX.retR (ER.callV 5 (c_how_many_alike T) T.d_how_many_alike.gl (hr.mono (by decide)) (EA.cons (EV.var 2) (EA.cons (EV.var 3) EA.nil)) (few_imp h)) rfl
/-! ### _law_told -/
theorem c__law_told (T : Txt K mg) : Cal P w K mg base 8 "_law_told" ["way", "some"] (spP K (R_told R_one)) := by
  refine T.d__law_told.cal sc__law_told (fun _ _ _ _ _ _ _ us hl => match us, hl with | [_, _], _ => rfl) ?_ ?_
  · rintro ds r ⟨a, b, r1, rfl, _⟩; rfl
  · rintro f cdv A outer s H E ds r hr ⟨a, b, r1, rfl, h1, hc, rfl⟩
    have nd := sc__law_told.nd
    refine SX.asg 2 EV.non (SX.asg 3 EV.non ?_)
    cases r1 with
    | ok d =>
      refine SX.tryKeep (Rb := fun o => o = .nx [.pu a, .pu b, .pu .none, .pu d, .un]) 4 2 (by decide) (fun pn xe po => ?_) ?_ ?_ ?_ ?_ ?_ T.g_DrawError
      · exact SX.asg 3 (EV.call (c__law_one T) (hr.mono (by decide)) (EA.cons (EV.var 0) (EA.cons (EV.var 1) EA.nil)) h1) (SX.nil rfl)
      · rintro τ' e
        cases e
        refine SX.iteT (EC.et (EC.is (EC.isN (EV.var 2) EV.non) rfl)) (SX.ret (EV.tup (EA.cons EV.str (EA.cons (EV.var 3) EA.nil))) ?_)
        rfl
      · intro _ _ e; cases e
      · intro _ e; cases e
      · intro _ e; cases e
      · intro _ _ e; cases e
    | ex c =>
      have hcc := hc c rfl
      refine SX.tryKeep (Rb := fun o => o = .xc c [.pu a, .pu b, .pu .none, .pu .none, .un]) 4 2 (by decide) (fun pn xe po => ?_) ?_ ?_ ?_ ?_ ?_ T.g_DrawError
      · exact SX.asgR 3 (ER.call (c__law_one T) (hr.mono (by decide)) (EA.cons (EV.var 0) (EA.cons (EV.var 1) EA.nil)) h1) rfl
      · intro _ e; cases e
      · intro _ _ e; cases e
      · intro _ e; cases e
      · intro _ e; cases e
      · rintro cn τ' e
        cases e
        refine ⟨T.x_all.m c hcc, Nat.le_of_ble_eq_true rfl, ?_⟩
        refine SX.nox (SX.iteF (EC.et (EC.isNE (cn := c) 2 (h2 := EV.non))) (SX.nil (SX.ret (EV.tup (EA.cons EV.str (EA.cons (EV.callE (cn := c) 2 (c__law_word T) (hr.mono (by decide)) ⟨hcc, rfl⟩) EA.nil))) ?_))) (fun _ _ z => z)
        rfl
/-! ### _law_refused -/
theorem c__law_refused (T : Txt K mg) : Cal P w K mg base 1 "_law_refused" ["word"] (spP K R_refused) := by
  refine T.d__law_refused.cal sc__law_refused (fun _ _ _ _ _ _ _ us hl => match us, hl with | [_], _ => rfl) ?_ ?_
  · rintro ds r ⟨j, x, _, rfl, _⟩; rfl
  · rintro f cdv A outer s H E ds r hr ⟨j, x, hj, rfl, rfl⟩
    have nd := sc__law_refused.nd
    refine SX.noxR ?_
    refine SX.asg 1 (EV.lst (EA.cons EV.str (EA.cons EV.str (EA.cons EV.str (EA.cons EV.str (EA.cons EV.str (EA.cons EV.str (EA.cons EV.str (EA.cons EV.str (EA.cons EV.str (EA.cons EV.str (EA.cons EV.str EA.nil)))))))))))) ?_
    refine SX.asg 1 (EF.cat op_catS (EV.var 1) (EV.lst (EA.cons EV.str (EA.cons EV.str (EA.cons EV.str (EA.cons EV.str EA.nil))))) (Nat.le_of_ble_eq_true rfl)).ev ?_
    refine (show SX _ _ [.pu (.str x), .pu (.list (wrdL.map PyData.str))] _ from ?_)
    refine SX.ret (EV.tup (EA.cons EV.str (EA.cons (EV.ixD (j := j) (z := .str x) (u65 hr) (EV.var 1) (EV.var 0) wrd_sh (wrd_sh1 (List.mem_of_getElem? hj)).ok (by rw [List.getElem?_map, hj]; rfl) (by rw [eqv_str]; simp) (fun m z' hm hz => ?_)) EA.nil))) ?_
    · rw [List.getElem?_map] at hz
      obtain ⟨y, hy, rfl⟩ := Option.map_eq_some_iff.mp hz
      rw [eqv_str]
      exact decide_eq_false (wrd_ne hj hy hm)
    · rfl
/-! ### _law_game -/
theorem c__law_game (T : Txt K mg) : Cal P w K mg base 2 "_law_game" ["script", "town", "most_numbers"] (spT K R_lgame) := by
  refine T.d__law_game.calT sc__law_game (fun _ _ _ _ _ _ _ us hl => match us, hl with | [_, _, _], _ => rfl) ?_ ?_
  · rintro script T ds d T' ⟨most, _, _, _, rfl, _⟩; rfl
  · rintro f cdv A outer s H E t script T0 ds d T' hr ⟨most, hm, hT, hs, rfl, rfl, rfl⟩
    have nd := sc__law_game.nd
    refine SX.nox ?_ (fun _ _ z => z)
    have r1 := drawM_range script T0 (many := most - 1) (by omega)
    have o1 := drawM_ok (many := most - 1) (f := 3) hT
    unfold gameM
    dsimp only
    refine SX.asg 3 (EV.add EV.int (EV.callT 0 1 (c__law_draw T) (hr.mono (by decide)) (EA.cons (EV.sub (EV.var 2) EV.int) EA.nil) ⟨_, by omega, hT.mono (by decide), hs, rfl, rfl, rfl⟩)) ?_
    generalize drawM script T0 (most - 1) = a at r1 o1 ⊢
    have r2 := drawM_range script a.2 (many := min 5 (2 + a.1)) (by omega)
    have o2 := drawM_ok (many := min 5 (2 + a.1)) (f := 2) o1
    have r3 := drawM_range script (drawM script a.2 (min 5 (2 + a.1))).2 (many := min 5 (2 + a.1)) (by omega)
    have o3 := drawM_ok (many := min 5 (2 + a.1)) (f := 1) o2
    refine SX.par 4 5 (EV.add EV.int (EV.callT 0 1 (c__law_draw T) (hr.mono (by decide)) (EA.cons (EV.min2 T.b_min EV.int (EV.var 3)) EA.nil) ⟨_, by omega, o1.mono (by decide), hs, rfl, rfl, rfl⟩)) (EV.add EV.int (EV.callT 0 1 (c__law_draw T) (hr.mono (by decide)) (EA.cons (EV.min2 T.b_min EV.int (EV.var 3)) EA.nil) ⟨_, by omega, o2.mono (by decide), hs, rfl, rfl, rfl⟩)) ?_
    generalize drawM script a.2 (min 5 (2 + a.1)) = b at r2 o2 r3 o3 ⊢
    generalize drawM script b.2 (min 5 (2 + a.1)) = c at r3 o3 ⊢
    refine SX.ret (EV.tup (EA.cons (EV.var 3) (EA.cons (EV.var 4) (EA.cons (EV.var 5) (EA.cons (EV.add EV.int (EV.callT 0 1 (c__law_draw T) (hr.mono (by decide)) (EA.cons (EV.min2 T.b_min (EV.var 4) (EV.var 5)) EA.nil) ⟨_, by omega, o3, hs, rfl, rfl, rfl⟩)) EA.nil))))) ⟨rfl, rfl⟩
/-! ### _law_numbers -/
theorem c__law_numbers (T : Txt K mg) : Cal P w K mg base 3 "_law_numbers" ["script", "town", "n", "many"] (spT K R_numbers) := by
  refine T.d__law_numbers.calT sc__law_numbers (fun _ _ _ _ _ _ _ us hl => match us, hl with | [_, _, _, _], _ => rfl) ?_ ?_
  · rintro script T ds d T' ⟨n, many, _, _, _, rfl, _⟩; rfl
  · rintro f cdv A outer s H E t script T0 ds d T' hr ⟨n, many, hb, hT, hs, rfl, rfl, rfl⟩
    have nd := sc__law_numbers.nd
    refine SX.nox ?_ (fun _ _ z => z)
    refine SX.asg 4 (EF.listRg2 T.b_list T.b_range EV.int (EV.add (EV.var 2) EV.int) (⟨by omega, by omega, by omega, by omega, by show _ ≤ 2 ^ 24; omega⟩)).ev ?_
    refine SX.mine 5 (EF.lst EA.nil) fun lsome hlsome => ?_
    have hne : lsome ≠ t := fun e => hlsome (by rw [e]; simp [own, ownA])
    refine SX.for_ (g := gName 6) [6] (fun i τ => ∃ left sm T' : List Int, NmOk script n (many.toNat - i) i left sm T' ∧ nmM script (many.toNat - i) left sm T' = nmM script many.toNat (nums n) [] T0 ∧ τ = [.pu (DL.lst PyData.int script), .ow t (T'.map PyData.int), .pu (.int n), .pu (.int many), .pu (DL.lst PyData.int left), .ow lsome (sm.map PyData.int), .un, .un, .un]) (EVI.range1 T.b_range (EV.var 3) (by omega)) (pg_name nd rfl (by first | exact Or.inl rfl | exact Or.inr rfl)) (⟨nums n, [], T0, NmOk.start hT, rfl, by rw [show (n + 1 - 1).toNat = n.toNat by omega]; rfl⟩) ?_ ?_ PassesOwn.never
    · rintro i d τ' hd ⟨left, sm, T1, h1, h2, rfl⟩
      have hi : i < many.toNat := by
        have := (List.getElem?_eq_some_iff.mp hd).1
        rwa [List.length_map, rng_len] at this
      rw [List.getElem?_map, rng_get hi] at hd
      cases hd
      refine ⟨_, EG.name 6 (by decide) rfl, ?_⟩
      obtain ⟨j, hj⟩ : ∃ j, many.toNat - i = j + 1 := ⟨many.toNat - i - 1, by omega⟩
      have hj2 : many.toNat - (i + 1) = j := by omega
      rw [hj] at h1 h2
      have hln := h1.ne (by omega)
      have hlp := List.length_pos_iff.mpr hln
      have hll := h1.ll
      have g := draw_get (script := script) (T := T1) hln
      have st := h1.step (by omega)
      rw [nmM] at h2
      have hp : R_pick script T1 [.list (left.map PyData.int)] (.int (left.getD (drawM script T1 (left.length : Int)).1.toNat 0)) (drawM script T1 (left.length : Int)).2 := ⟨left.map PyData.int, by rw [List.length_map]; omega, h1.ok.mono (by omega), hs, rfl, by rw [List.length_map, List.getElem?_map, g.1]; rfl, by rw [List.length_map]⟩
      generalize drawM script T1 (left.length : Int) = dr at g st h2 hp ⊢
      generalize left.getD dr.1.toNat 0 = o at g st h2 hp ⊢
      refine SX.asg 7 (EV.callT 0 1 (c__law_pick T) (hr.mono (by decide)) (EA.cons (EV.var 4) EA.nil) (hp) (hw := by simp [own, ownA]; exact fun e => hne e.symm)) ?_
      have hsl := h1.len
      refine SX.app 5 (EV.var 7) rfl ⟨_, rfl⟩ (lt_size (by rw [List.length_map]; omega)) ?_ (by simp [own, ownA]; exact hne)
      refine SX.asgLc 4 (LC.flt (xs := left) (f := PyData.int) (p := fun x => !decide (x = o)) (enc := PyData.int) 8 "other" (EVI.lst (EV.var 4)) (fun x hx _ _ _ _ _ => (EC.et (EC.neI (EV.var 8) (EV.var 7)))) (fun x hx px _ _ _ _ _ => (EV.var 8)) (by trivial)) ?_
      refine SX.forget 6 (SX.forget 7 (SX.nil ⟨_, _, dr.2, by rw [hj2]; exact st, by rw [hj2]; exact h2, ?_⟩))
      rw [List.map_append]; rfl
    · rintro τ' ⟨left, sm, T1, h1, h2, rfl⟩
      rw [List.length_map, rng_len, Nat.sub_self] at h2
      unfold numbersM
      rw [← h2]
      refine SX.freeze 5 rfl ?_ (by simp [own, ownA]; exact hne)
      refine SX.ret (EV.tupL T.b_tuple (EF.sortI T.b_sorted (EV.var 5) (sortI_perm _) (sortI_rise _)).ev) ?_
      exact ⟨rfl, rfl⟩
/-! ### _law_book -/
theorem c__law_book (T : Txt K mg) : Cal P w K mg base 4 "_law_book" ["script", "town", "game", "most_tickets"] (spT K R_lbook) := by
  refine T.d__law_book.calT sc__law_book (fun _ _ _ _ _ _ _ us hl => match us, hl with | [_, _, _, _], _ => rfl) ?_ ?_
  · rintro script T ds d T' ⟨n, k, p, m, most, _, _, _, _, rfl, _⟩; rfl
  · rintro f cdv A outer s H E t script T0 ds d T' hr ⟨n, k, p, m, most, hv, hm, hT, hs, rfl, rfl, rfl⟩
    have nd := sc__law_book.nd
    have hv' := ofValid hv
    refine SX.nox ?_ (fun _ _ z => z)
    have hr0 := drawM_range script T0 (many := most + 1) (by omega)
    have ho := drawM_ok (many := most + 1) (f := 99) hT
    unfold lbookM
    dsimp only
    have hW : R_draw script T0 [.int (most + 1)] (.int (drawM script T0 (most + 1)).1) (drawM script T0 (most + 1)).2 := ⟨most + 1, by omega, hT.mono (by decide), hs, rfl, rfl, rfl⟩
    generalize drawM script T0 (most + 1) = a at hr0 ho hW ⊢
    have hjk : ∀ j : Nat, j ≤ a.1.toNat → j * k.toNat ≤ 9 * 5 := fun j hj => Nat.mul_le_mul (by omega) (by omega)
    have hbk : ∀ j : Nat, j ≤ a.1.toNat → _ := fun j hj => bkM_ok (n := n) (k := k) (by omega) (by omega) j (f := 50) (T := a.2) (ho.mono (by have := hjk j hj; omega))
    refine SX.asgLc 4 (LC.thr (xs := rng 0 a.1.toNat) (enc := PyData.int) 5 "k" (EVI.range1 T.b_range (EV.callT 0 1 (c__law_draw T) (hr.mono (by decide)) (EA.cons (EV.add (EV.var 3) EV.int) EA.nil) (hW)) (by omega)) (fun j => [.pu (DL.lst PyData.int script), .ow t ((bkM script n k j a.2).2.map PyData.int), .pu (eT [n, k, p, m]), .pu (.int most), .un, .un]) (fun j => eT (numbersM script (bkM script n k j a.2).2 n k).1) rfl (fun j => by simp [own, ownA]) (fun j => rfl) ?_ (lt_size (by rw [rng_len]; omega))) ?_
    · intro j x hx _ _ _ _ _
      have hj : j < a.1.toNat := by
        have := (List.getElem?_eq_some_iff.mp hx).1
        rwa [rng_len] at this
      exact (EV.callT 0 1 (c__law_numbers T) (hr.mono (by decide)) (EA.cons (EV.ixT (EV.var 2) EV.int (rfl)) (EA.cons (EV.ixT (EV.var 2) EV.int (rfl)) EA.nil)) ⟨n, k, by omega, (hbk j (by omega)).2.2.mono (by omega), hs, rfl, rfl, rfl⟩)
    · obtain ⟨h1, h2, h3⟩ := hbk a.1.toNat (Nat.le_refl _)
      rw [rng_len]
      have e : ∀ j : Nat, ((List.range j).map fun j => eT (numbersM script (bkM script n k j a.2).2 n k).1) = (bkM script n k j a.2).1.map eT := fun j => by
        induction j with
        | zero => rfl
        | succ j ih => rw [List.range_succ, List.map_append, ih, bkM, List.map_append]; rfl
      rw [e]
      refine SX.ret (EV.tupL T.b_tuple (EF.sortSet hr.units T.b_sorted T.b_set (EV.var 4) (dd := k.toNat) (B := 10) (by rw [h1]; omega) (by omega) (fun ns hns => ⟨tickets_len (h2 ns hns), ticket_bd (by omega) (h2 ns hns)⟩) (setM_ok _)).ev) ?_
      exact ⟨rfl, rfl⟩
/-! ### _law_called -/
theorem c__law_called (T : Txt K mg) : Cal P w K mg base 1 "_law_called" ["book", "names"] (spP K R__law_called) := by
  refine T.d__law_called.cal sc__law_called (fun _ _ _ _ _ _ _ us hl => match us, hl with | [_, _], _ => rfl) ?_ ?_
  · rintro ds r ⟨n, k, book, names, hk, hb, hl, hn, rfl, rfl⟩ <;> rfl
  · rintro f cdv A outer s H E ds r hr ⟨n, k, book, names, hk, hb, hl, hn, rfl, rfl⟩
    have nd := sc__law_called.nd
    refine SX.noxR ?_
    refine SX.mine 2 (EF.lst EA.nil) fun lrows hlrows => ?_
    refine SX.for_ (g := gName 3) [3] (fun i τ => τ = [.pu (eTT book), .pu (eT names), .ow lrows (((book.take i).map (callM names)).map eT), .un, .un]) (EVI.tup (EV.var 0)) (pg_name nd rfl (by first | exact Or.inl rfl | exact Or.inr rfl)) (rfl) ?_ ?_ PassesOwn.never
    · rintro i d τ' hd rfl
      rw [List.getElem?_map] at hd
      obtain ⟨x, hx, rfl⟩ := Option.map_eq_some_iff.mp hd
      have hi : i < book.length := (List.getElem?_eq_some_iff.mp hx).1
      have hxm := List.mem_of_getElem? hx
      refine ⟨_, EG.name 3 (by decide) rfl, ?_⟩
      refine SX.app 2 (EV.is (d1 := eT (callM names x)) (EV.tupL T.b_tuple (EF.sortI T.b_sorted (EV.is (EV.lc (LC.map (xs := x) (f := fun y => PyData.int (names.getD (y - 1).toNat 0)) (enc := PyData.int) 4 "one" (EVI.tup (EV.var 3)) (fun y hy _ _ _ _ _ => (EV.ixT (EV.var 1) (EV.sub (EV.var 4) EV.int) (at_names (by have := ticket_mem (hb x hxm) y hy; omega)))) (lt_size (by have := tickets_len (hb x hxm); omega)))) (call_ints names x)) (sortI_perm _) (sortI_rise _)).ev) rfl) rfl ⟨_, rfl⟩ (lt_size (by rw [List.length_map, List.length_map, List.length_take]; omega)) ?_
      refine SX.forget 3 (SX.nil ?_)
      show _ = [SV.pu (eTT book), .pu (eT names), .ow lrows (((book.take (i + 1)).map (callM names)).map eT), .un, .un]
      rw [List.take_succ, hx, List.map_append, List.map_append]; rfl
    · rintro τ' rfl
      rw [List.length_map, List.take_length]
      refine SX.freeze 2 rfl ?_
      refine SX.ret (EV.tupL T.b_tuple (EF.sortT T.b_sorted (EV.var 2) (.inl rfl) (call_ne hk.1 hb) (sortM_ok _)).ev) ?_
      rfl
/-! ### _law_turns -/
theorem c__law_turns (T : Txt K mg) : Cal P w K mg base 1 "_law_turns" ["n"] (spP K R__law_turns) := by
  refine T.d__law_turns.cal sc__law_turns (fun _ _ _ _ _ _ _ us hl => match us, hl with | [_], _ => rfl) ?_ ?_
  · rintro ds r ⟨n, hn, rfl, rfl⟩ <;> rfl
  · rintro f cdv A outer s H E ds r hr ⟨n, hn, rfl, rfl⟩
    have nd := sc__law_turns.nd
    refine SX.noxR ?_
    refine SX.asg 1 (EV.lst (EA.cons (EV.tup EA.nil) EA.nil)) ?_
    refine SX.for_ (g := gName 2) [2] (fun i τ => τ = [.pu (.int n), .pu (eLT (nmIt n i)), .un, .un, .un, .un]) (EVI.range1 T.b_range (EV.var 0) (by omega)) (pg_name nd rfl (by first | exact Or.inl rfl | exact Or.inr rfl)) (rfl) ?_ ?_ PassesOwn.never
    · rintro i d τ' hd rfl
      have hi : i < n.toNat := by
        have := (List.getElem?_eq_some_iff.mp hd).1
        rwa [List.length_map, rng_len] at this
      have hz0 := nm_size hn (j := i) (by omega)
      have hz1 := nm_size hn (j := i + 1) (by omega)
      refine ⟨_, EG.name 2 (by decide) rfl, ?_⟩
      refine SX.asg 3 (EV.lst EA.nil) ?_
      refine SX.for_ (g := gName 4) [4] (fun j τ => τ = [.pu (.int n), .pu (eLT (nmIt n i)), .pu d, .pu (eLT (nmStepN n ((nmIt n i).take j))), .un, .un]) (EVI.lst (EV.var 1)) (pg_name nd rfl (by first | exact Or.inl rfl | exact Or.inr rfl)) (rfl) ?_ ?_ PassesOwn.never
      · rintro j d' τ' hd' rfl
        rw [List.getElem?_map] at hd'
        obtain ⟨a, ha, rfl⟩ := Option.map_eq_some_iff.mp hd'
        have hal := (nmIt_row (List.mem_of_getElem? ha)).1
        have e : nmStepN n ((nmIt n i).take (j + 1)) = nmStepN n ((nmIt n i).take j) ++ ((nums n).filter fun x => !memD x a).map fun x => a ++ [x] := by
          unfold nmStepN
          rw [List.take_succ, ha, List.flatMap_append]
          show _ ++ List.flatMap _ [a] = _
          rw [List.flatMap_cons, List.flatMap_nil, List.append_nil]
        have hjl : (nmStepN n ((nmIt n i).take (j + 1))).length ≤ 720 := by
          refine Nat.le_trans ?_ hz1
          have : nmIt n (i + 1) = nmStepN n ((nmIt n i).take (j + 1)) ++ nmStepN n ((nmIt n i).drop (j + 1)) := by
            show nmStepN n (nmIt n i) = _
            unfold nmStepN
            rw [← List.flatMap_append, List.take_append_drop]
          rw [this, List.length_append]; omega
        refine ⟨_, EG.name 4 (by decide) rfl, ?_⟩
        have hnn : (n + 1 - 1).toNat = n.toNat := by omega
        refine SX.asg 3 (EV.is (d1 := eLT (nmStepN n ((nmIt n i).take (j + 1)))) (EF.cat op_catS (EV.var 3) (EV.lc (LC.flt (xs := nums n) (enc := PyData.int) (f := fun x => eT (a ++ [x])) (p := fun x => !memD x a) 5 "one" (by unfold nums; rw [← hnn]; exact (EVI.range2 T.b_range EV.int (EV.add (EV.var 0) EV.int) (by omega))) (fun x hx _ _ _ _ _ => (EC.et (EC.notInT (f := PyData.int) Enc.int (u65 hr) (EV.var 5) (EV.var 4)))) (fun x hx _ _ _ _ _ _ => (EV.snocT (f := PyData.int) (EV.var 4) (EV.var 5) (le_size (by omega)))) (lt_size (by rw [nums_len]; omega)))) (le_size ?_)).ev ?_) ?_
        · rw [e, List.length_append, List.length_map] at hjl
          rw [List.length_map, List.length_map]; omega
        · show PyData.list _ = PyData.list _
          rw [e, List.map_append, List.map_map]; rfl
        · refine SX.forget 4 (SX.nil ?_)
          rfl
      · rintro τ' rfl
        rw [List.length_map, List.take_length]
        refine SX.asg 1 (EV.var 3) (SX.forget 2 (SX.forget 3 (SX.nil ?_)))
        rfl
    · rintro τ' rfl
      rw [List.length_map, rng_len]
      refine SX.ret (EV.var 1) ?_
      rfl
/-! ### _law_none -/
theorem c__law_none (T : Txt K mg) : Cal P w K mg base 9 "_law_none" ["game", "book"] (spP K R__law_none) := by
  refine T.d__law_none.cal sc__law_none (fun _ _ _ _ _ _ _ us hl => match us, hl with | [_, _], _ => rfl) ?_ ?_
  · rintro ds r ⟨n, k, p, m, book, hv, h6, hg, rfl, rfl⟩ <;> rfl
  · rintro f cdv A outer s H E ds r hr ⟨n, k, p, m, book, hv, h6, hg, rfl, rfl⟩
    have nd := sc__law_none.nd
    have hv' := ofValid hv
    have hB := IsBook.of_good (by omega) hg
    have hbz := bsz_dsz (hB.1.bsz (by omega) (by omega))
    have hl := nums_len n
    have RN : R_refused [.str "names"] (.ok (refD 5)) := ⟨5, "names", rfl, rfl, rfl⟩
    have RF : R_refused [.str "full"] (.ok (refD 10)) := ⟨10, "full", rfl, rfl, rfl⟩
    have RB : R_refused [.str "book"] (.ok (refD 3)) := ⟨3, "book", rfl, rfl, rfl⟩
    refine SX.noxR ?_
    refine SX.asg 2 (EV.ixT (EV.var 0) EV.int (rfl)) ?_
    have hnn : (n + 1 - 1).toNat = n.toNat := by omega
    refine SX.asg 3 (EV.is (d1 := eT (nums n)) (EV.tupRg2 T.b_tuple T.b_range EV.int (EV.add (EV.var 2) EV.int) (⟨by omega, by omega, by omega, by omega, by show _ ≤ 2 ^ 24; omega⟩)) (by rw [hnn]; rfl)) ?_
    have hcf : PyData.tuple (cutD ((nums n).map PyData.int) (some 1) none) = eT ((nums n).drop 1) := cutT_from (by omega)
    have hc1 : PyData.tuple (cutD ((nums n).map PyData.int) none (some 1)) = eT ((nums n).take 1) := cutT_to (by omega)
    have hcg : PyData.tuple (cutD ([n, k, p, m].map PyData.int) (some 1) none) = eT [k, p, m] := cutT_from (by omega)
    refine SX.asg 4 (EV.is (d1 := .list (nbadsM n)) (EV.lst (EA.cons EV.non (EA.cons EV.int (EA.cons (EF.list T.b_list (EV.var 3) (.inr rfl)).ev (EA.cons (EV.is (EV.slT (EV.var 3) (EO.some EV.int) EO.none) (hcf)) (EA.cons (EV.snocT (f := PyData.int) (EV.var 3) (EV.var 2) (le_size (by omega))) (EA.cons (EV.consT (f := PyData.int) EV.int (EV.is (EV.slT (EV.var 3) (EO.some EV.int) EO.none) (hcf)) (le_size (by rw [List.length_drop]; omega))) (EA.cons (EV.catT (EV.tup (EA.cons EV.bl EA.nil)) (EV.is (EV.slT (EV.var 3) (EO.some EV.int) EO.none) (hcf)) (le_size (by rw [List.length_map, List.length_drop, List.length_cons, List.length_nil]; omega))) EA.nil)))))))) rfl) ?_
    have hbad := nbads_bad (n := n) (by omega)
    refine SX.for_ (g := gName 5) [5] (fun i τ => τ = [.pu (eT [n, k, p, m]), .pu (eTT book), .pu (.int n), .pu (eT (nums n)), .pu (.list (nbadsM n)), .un, .un, .un]) (EVI.lst (EF.cat op_catS (EV.var 4) (EV.lst (EA.cons (EV.catTE (f := PyData.int) (EV.is (EV.slT (EV.var 3) EO.none (EO.some (EV.neg EV.int))) (cut_last _)) (EV.is (EV.slT (EV.var 3) EO.none (EO.some EV.int)) (hc1)) (le_size (by rw [List.length_take, List.length_take]; omega))) EA.nil)) (le_size (by simp [nbadsM]))).ev) (pg_name nd rfl (by first | exact Or.inl rfl | exact Or.inr rfl)) rfl ?_ ?_ PassesOwn.never
    · rintro i d τ' hd rfl
      obtain ⟨hb1, hb2⟩ := hbad d (List.mem_of_getElem? hd)
      have U : R_told R_one [.int 0, .tuple [eT [n, k, p, m], eTT book, d]] (.ok (refD 5)) := told_ex 5 ⟨0, _, _, _, "BadNames", rfl, rfl, .inl ⟨rfl, n, k, p, m, _, _, hv, rfl, hbz, hb2, .inr ⟨book, rfl, hg, .inl ⟨hb1, rfl⟩⟩⟩⟩
      refine ⟨_, EG.name 5 (by decide) rfl, ?_⟩
      refine SX.iteF (ET.is (EC.et (EC.neE (f := refD) (x := 5) (y := 5) encRef hr.units (EV.call (c__law_told T) (hr.mono (by decide)) (EA.cons EV.int (EA.cons (EV.tup (EA.cons (EV.var 0) (EA.cons (EV.var 1) (EA.cons (EV.var 5) EA.nil)))) EA.nil)) (U)) (EV.call (c__law_refused T) (hr.mono (by decide)) (EA.cons EV.str EA.nil) (RN)))) (by decide)) (SX.nil (SX.forget 5 (SX.nil ?_)))
      rfl
    · rintro τ' rfl
      have hv7 : Valid 7 k p m := by unfold Valid at hv ⊢; omega
      have nz : DSz .none := fun _ e => nomatch e
      have nt : tszD .none := fun _ e => nomatch e
      refine SX.asg 6 (EV.is (d1 := eT [7, k, p, m]) (EV.consT (f := PyData.int) EV.int (EV.is (EV.slT (EV.var 0) (EO.some EV.int) EO.none) (hcg)) (le_size (by simp))) rfl) ?_
      have U : ∀ i : Int, i ∈ ([1, 2, 3, 4] : List Int) → R_told R_one [.int i, .tuple [eT [7, k, p, m], .none, .none]] (.ok (refD 10)) := fun i hi => told_ex 10 (by
        refine ⟨i, _, _, _, "Full", rfl, rfl, ?_⟩
        simp only [List.mem_cons, List.not_mem_nil, or_false] at hi
        rcases hi with rfl | rfl | rfl | rfl
        · exact .inr (.inl ⟨rfl, 7, k, p, m, _, _, hv7, rfl, .inl ⟨by omega, rfl⟩⟩)
        · exact .inr (.inr ⟨by omega, by omega, 7, k, p, m, _, hv7, rfl, .inl ⟨by omega, rfl⟩⟩)
        · exact .inr (.inr ⟨by omega, by omega, 7, k, p, m, _, hv7, rfl, .inl ⟨by omega, rfl⟩⟩)
        · exact .inr (.inr ⟨by omega, by omega, 7, k, p, m, _, hv7, rfl, .inl ⟨by omega, rfl⟩⟩))
      refine SX.iteF (ET.is (EC.et (EC.neE (f := DL.lst refD) (x := [10, 10, 10, 10]) (y := [10, 10, 10, 10]) encLR hr.units (EV.is (EV.lc (LC.map (xs := ([1, 2, 3, 4] : List Int)) (enc := PyData.int) (f := fun _ => refD 10) 7 "how" (EVI.tup (EV.tup (EA.cons EV.int (EA.cons EV.int (EA.cons EV.int (EA.cons EV.int EA.nil)))))) (fun i hi _ _ _ _ _ => (EV.call (c__law_told T) (hr.mono (by decide)) (EA.cons (EV.var 7) (EA.cons (EV.tup (EA.cons (EV.var 6) (EA.cons EV.non (EA.cons EV.non EA.nil)))) EA.nil)) (U i hi))) (by decide))) rfl) (EV.is (EF.rep (EF.lst (EA.cons (EV.call (c__law_refused T) (hr.mono (by decide)) (EA.cons EV.str EA.nil) (RF)) EA.nil)) EV.int (by decide) (Nat.le_of_ble_eq_true rfl)).ev rfl))) (by decide)) (SX.nil ?_)
      have U0 : R_told R_one [.int 0, .tuple [eT [7, k, p, m], .none, .none]] (.ok (refD 3)) := told_ex 3 ⟨0, _, _, _, "BadBook", rfl, rfl, .inl ⟨rfl, 7, k, p, m, _, _, hv7, rfl, nz, nt, .inl ⟨rfl, rfl⟩⟩⟩
      refine SX.iteF (ET.is (EC.et (EC.neE (f := refD) (x := 3) (y := 3) encRef hr.units (EV.call (c__law_told T) (hr.mono (by decide)) (EA.cons EV.int (EA.cons (EV.tup (EA.cons (EV.var 6) (EA.cons EV.non (EA.cons EV.non EA.nil)))) EA.nil)) (U0)) (EV.call (c__law_refused T) (hr.mono (by decide)) (EA.cons EV.str EA.nil) (RB)))) (by decide)) (SX.nil ?_)
      have U1 : R_told R_one [.int 1, .tuple [eT [n, k, p, m], eTT book, .none]] (.ok (refD 3)) := told_ex 3 ⟨1, _, _, _, "BadBook", rfl, rfl, .inr (.inl ⟨rfl, n, k, p, m, _, _, hv, rfl, .inr ⟨h6, hbz, .inr ⟨book, rfl, hg, nz, .inl ⟨rfl, rfl⟩⟩⟩⟩)⟩
      refine SX.ret (EC.ev (EC.eqE (f := refD) (x := 3) (y := 3) encRef hr.units (EV.call (c__law_told T) (hr.mono (by decide)) (EA.cons EV.int (EA.cons (EV.tup (EA.cons (EV.var 0) (EA.cons (EV.var 1) (EA.cons EV.non EA.nil)))) EA.nil)) (U1)) (EV.call (c__law_refused T) (hr.mono (by decide)) (EA.cons EV.str EA.nil) (RB)))) ?_
      rfl
/-! ### law -/
theorem c_law (T : Txt K mg) {f : Addr} {fd : FuncData} (F : FunD K "law" "law" (defArgs s_law) (defBody s_law) (defScope s_law) [] [] f fd) : FnOk P w K mg base CX0 17 f fd ["script"] (spP K R_law) := by
  refine fn_law F sc_law ?_ ?_ ?_
  · rintro ds r ⟨script, _, rfl, _⟩; rfl
  · rintro cdv A outer s H E ds d hr ⟨script, hs, rfl, e⟩
    cases e
    have nd := sc_law.nd
    refine SX.mine 1 (EF.call (c__law_town T) (hr.mono (by decide)) (EA.cons (EV.var 0) EA.nil) ⟨script, hs, rfl, rfl⟩) fun ltown hltown => ?_
    have hT := TOk.start script
    have hv := gameM_valid script (0 :: script) (most := 5) (by omega)
    have hg := gameM_ok (most := 5) (f := 1000) (hT.mono (by decide))
    refine SX.asg 2 (EV.callT 0 1 (c__law_game T) (hr.mono (by decide)) (EA.cons EV.int EA.nil) ⟨5, by omega, hT.mono (by decide), hs, rfl, rfl, rfl⟩) ?_
    generalize gameM script (0 :: script) 5 = g at hv hg ⊢
    obtain ⟨⟨n, k, p, m⟩, T1⟩ := g
    dsimp only at hv hg ⊢
    obtain ⟨hv, h5⟩ := hv
    have hv' := ofValid hv
    have hn : 0 ≤ n ∧ n ≤ 5 := by omega
    have hk : 0 ≤ k := by omega
    refine SX.asg 3 (EV.ixT (EV.var 2) EV.int (rfl)) ?_
    have hbk := lbookM_ok (script := script) (T := T1) (n := n) (k := k) (most := 4) (f := 800) (hg.mono (by decide)) (by omega) (by omega) (by omega) (by omega)
    have hbW : R_lbook script T1 [eT [n, k, p, m], .int 4] (eTT (lbookM script T1 n k 4).1) (lbookM script T1 n k 4).2 := ⟨n, k, p, m, 4, hv, by omega, hg.mono (by decide), hs, rfl, rfl, rfl⟩
    generalize lbookM script T1 n k 4 = b at hbk hbW ⊢
    obtain ⟨book, T2⟩ := b
    dsimp only at hbk hbW ⊢
    obtain ⟨hB, hbl, hT2⟩ := hbk
    have hbk := lbookM_ok (script := script) (T := T2) (n := n) (k := k) (most := 4) (f := 700) (hT2.mono (by decide)) (by omega) (by omega) (by omega) (by omega)
    have hbW2 : R_lbook script T2 [eT [n, k, p, m], .int 4] (eTT (lbookM script T2 n k 4).1) (lbookM script T2 n k 4).2 := ⟨n, k, p, m, 4, hv, by omega, hT2.mono (by decide), hs, rfl, rfl, rfl⟩
    generalize lbookM script T2 n k 4 = b at hbk hbW2 ⊢
    obtain ⟨other, T3⟩ := b
    dsimp only at hbk hbW2 ⊢
    obtain ⟨hO, hol, hT3⟩ := hbk
    refine SX.unp2 4 5 (EV.tup (EA.cons (EV.callT 0 1 (c__law_book T) (hr.mono (by decide)) (EA.cons (EV.var 2) (EA.cons EV.int EA.nil)) (hbW)) (EA.cons (EV.callT 0 1 (c__law_book T) (hr.mono (by decide)) (EA.cons (EV.var 2) (EA.cons EV.int EA.nil)) (hbW2)) EA.nil))) ?_
    have hgB := hB.good (by omega) (by omega)
    have hgO := hO.good (by omega) (by omega)
    have hzB := bsz_dsz (hB.bsz (by omega) (by omega))
    have hzO := bsz_dsz (hO.bsz (by omega) (by omega))
    have hz : (namesM n).length ≤ 720 := nm_size (n := n) (by omega) (j := n.toNat) (by omega)
    have hpos : 0 < (namesM n).length := List.length_pos_iff.mpr (names_ne (by omega))
    refine SX.asg 6 (EV.call (c__law_turns T) (hr.mono (by decide)) (EA.cons (EV.var 3) EA.nil) ⟨n, by omega, rfl, rfl⟩) ?_
    have ea : PyData.list ((namesM n).map fun a => eTT (calledM book a)) = DL.lst eTT (allM n book) := by
      show PyData.list _ = PyData.list _
      unfold allM
      rw [List.map_map]; rfl
    refine SX.asgLc 7 (LC.map (xs := namesM n) (f := fun a => eTT (calledM book a)) (enc := eT) 8 "names" (EVI.lst (EV.var 6)) (fun x hx _ _ _ _ _ => (EV.call (c__law_called T) (hr.mono (by decide)) (EA.cons (EV.var 4) (EA.cons (EV.var 8) EA.nil)) ⟨n, k, book, x, by omega, hB.mem, by omega, (by have := (names_row (by omega) hx).1; omega), rfl, rfl⟩)) (by trivial)) ?_
    rw [ea]
    obtain ⟨q, qs, hq⟩ : ∃ q qs, allM n book = q :: qs := by
      cases e : allM n book with
      | nil => exact absurd (List.map_eq_nil_iff.mp e) (names_ne (by omega))
      | cons q qs => exact ⟨q, qs, rfl⟩
    have hf : firstM n book = minF lexT q qs := by unfold firstM; rw [show (namesM n).map (calledM book) = q :: qs from hq]
    have hal : (allM n book).length = (namesM n).length := List.length_map _
    refine SX.for_ (g := gName 9) [9] (fun i τ => ∃ T' : List Int, TOk script T' (700 - i) ∧ τ = [SV.pu (DL.lst PyData.int script), .ow ltown ((T').map PyData.int), .pu (eT [n, k, p, m]), .pu (.int n), .pu (eTT book), .pu (eTT other), .pu (eLT (namesM n)), .pu (DL.lst eTT (allM n book)), .un, .un, .un, .un, .un]) (EVI.range1 T.b_range EV.int (by omega)) (pg_name nd rfl (by first | exact Or.inl rfl | exact Or.inr rfl)) (⟨T3, hT3, rfl⟩) ?_ ?_ PassesOwn.never
    · rintro i d τ' hd ⟨Tt, hTt, rfl⟩
      have hi : i < 3 := by
        have := (List.getElem?_eq_some_iff.mp hd).1
        rw [List.length_map, rng_len] at this
        exact this
      refine ⟨_, EG.name 9 (by decide) rfl, ?_⟩
      have r1 := drawM_range script Tt (many := ((namesM n).length : Int)) (by omega)
      have o1 := drawM_ok (script := script) (T := Tt) (many := ((namesM n).length : Int)) (f := 700 - (i + 1)) (hTt.mono (by omega))
      obtain ⟨a, hga, ham⟩ : ∃ a, (namesM n)[(drawM script Tt ((namesM n).length : Int)).1.toNat]? = some a ∧ a ∈ namesM n := by
        have hlt : (drawM script Tt ((namesM n).length : Int)).1.toNat < (namesM n).length := by omega
        exact ⟨_, List.getElem?_eq_getElem hlt, List.getElem_mem hlt⟩
      have ha := (mem_names hn.1).mp ham
      have hal2 := ha.1
      have hp : R_pick script Tt [.list ((namesM n).map eT)] (eT a) (drawM script Tt ((namesM n).length : Int)).2 := ⟨(namesM n).map eT, by rw [List.length_map]; omega, hTt.mono (by omega), hs, rfl, by rw [List.length_map, List.getElem?_map, hga]; rfl, by rw [List.length_map]⟩
      generalize drawM script Tt ((namesM n).length : Int) = dr at o1 hp
      refine SX.asg 8 (EV.callT 0 1 (c__law_pick T) (hr.mono (by decide)) (EA.cons (EV.var 6) EA.nil) (hp)) ?_
      have hC := called_book hn hk ha hB
      have hCl := called_len book a
      have hgC := hC.good (by omega) (by omega)
      have hzC := bsz_dsz (hC.bsz (by omega) (by omega))
      have tz : tszD (eT a) := fun es e => by cases e; rw [List.length_map]; omega
      have RR : R_renamed [eT [n, k, p, m], eTT book, eT a] (.ok (eTT (calledM book a))) := ⟨n, k, p, m, _, _, hv, rfl, hzB, tz, .inr ⟨book, rfl, hgB, .inr ⟨a, rfl, ha, rfl⟩⟩⟩
      refine SX.asg 10 (EV.call (c_renamed T) (hr.mono (by decide)) (EA.cons (EV.var 2) (EA.cons (EV.var 4) (EA.cons (EV.var 8) EA.nil))) (RR)) ?_
      have RFo : R_form_of [eT [n, k, p, m], eTT (calledM book a)] (.ok (eTT (firstM n (calledM book a)))) := ⟨n, k, p, m, _, hv, rfl, .inr ⟨by omega, hzC, .inr ⟨_, _, rfl, hgC, rfl, rfl⟩⟩⟩
      refine SX.iteF (ET.w (EW.orF (EC.et (EC.is (EC.neE (f := eTT) (x := calledM book a) (y := calledM book a) encTT hr.units (EV.var 10) (EV.call (c__law_called T) (hr.mono (by decide)) (EA.cons (EV.var 4) (EA.cons (EV.var 8) EA.nil)) ⟨n, k, book, a, by omega, hB.mem, by omega, by omega, rfl, rfl⟩)) (by simp))) (EW.or1 (EC.et (EC.is (EC.neE (f := eTT) encTT hr.units (EV.call (c_form_of T) (hr.mono (by decide)) (EA.cons (EV.var 2) (EA.cons (EV.var 10) EA.nil)) (RFo)) (EV.minE (x := q) (xs := qs) Alk.tupT hr.units T.b_min (EV.var 7) (.inl (by rw [hq])))) (by rw [first_called hn ha hB, hf]; simp)))))) (SX.nil ?_)
      have RE : ∀ b, isGoodD n k (eTT b) = true → DSz (eTT b) → R_escapes [eT [n, k, p, m], eTT b] (.ok (eLT (escM n p m b))) := fun b h1 h2 => ⟨_, _, rfl, .inr ⟨n, k, p, m, hv, rfl, h2, .inr ⟨b, rfl, h1, rfl⟩⟩⟩
      have RA : R_are_alike [eT [n, k, p, m], eTT (calledM book a), eTT book] (.ok (.bool true)) := ⟨n, k, p, m, _, _, hv, rfl, .inr ⟨by omega, hzC, .inr ⟨_, rfl, hgC, hzB, .inr ⟨book, rfl, hgB, by rw [first_called hn ha hB, decide_eq_true rfl]⟩⟩⟩⟩
      have hes := esc_call (m := m) (p := p) hn (by omega) ha hB
      refine SX.iteF (ET.w (EW.orF (EC.et (EC.is (EC.neI (EV.lenLE (f := eT) T.b_len (EV.call (c_escapes T) (hr.mono (by decide)) (EA.cons (EV.var 2) (EA.cons (EV.var 10) EA.nil)) (RE _ hgC hzC))) (EV.lenLE (f := eT) T.b_len (EV.call (c_escapes T) (hr.mono (by decide)) (EA.cons (EV.var 2) (EA.cons (EV.var 4) EA.nil)) (RE _ hgB hzB)))) (by rw [hes]; simp))) (EW.or1 (EC.et (EC.is (EC.notB (EV.call (c_are_alike T) (hr.mono (by decide)) (EA.cons (EV.var 2) (EA.cons (EV.var 10) (EA.cons (EV.var 4) EA.nil))) (RA)) EV.bl) rfl))))) (SX.nil ?_)
      refine SX.forget 9 (SX.forget 8 (SX.forget 10 (SX.nil ⟨dr.2, o1, rfl⟩)))
    · rintro τ' ⟨T4, hT4, rfl⟩
      have RFo : R_form_of [eT [n, k, p, m], eTT book] (.ok (eTT (firstM n book))) := ⟨n, k, p, m, _, hv, rfl, .inr ⟨by omega, hzB, .inr ⟨_, _, rfl, hgB, rfl, rfl⟩⟩⟩
      have RA : R_are_alike [eT [n, k, p, m], eTT book, eTT other] (.ok (.bool (decide (firstM n book = firstM n other)))) := ⟨n, k, p, m, _, _, hv, rfl, .inr ⟨by omega, hzB, .inr ⟨book, rfl, hgB, hzO, .inr ⟨other, rfl, hgO, rfl⟩⟩⟩⟩
      have hin : decide (firstM n book = firstM n other) = memD other (allM n book) := by
        unfold memD
        exact decide_eq_decide.mpr (alike_iff hn hk hB hO)
      refine SX.iteF (ET.w (EW.orF (EC.et (EC.is (EC.neE (f := eTT) encTT hr.units (EV.call (c_form_of T) (hr.mono (by decide)) (EA.cons (EV.var 2) (EA.cons (EV.var 4) EA.nil)) (RFo)) (EV.minE (x := q) (xs := qs) Alk.tupT hr.units T.b_min (EV.var 7) (.inl (by rw [hq])))) (by rw [hf]; simp))) (EW.or1 (EC.et (EC.is (EC.neE (f := PyData.bool) Enc.bool hr.units (EV.call (c_are_alike T) (hr.mono (by decide)) (EA.cons (EV.var 2) (EA.cons (EV.var 4) (EA.cons (EV.var 5) EA.nil))) (RA)) (EC.ev (EC.inL (f := eTT) encTT (u65 hr) (EV.var 5) (EV.var 7)))) (by rw [hin]; simp)))))) (SX.nil ?_)
      refine SX.asg 11 (EV.is (d1 := .int (cntD (allM n book) book)) (EV.lenL T.b_len (EV.lc (LC.flt (xs := allM n book) (enc := eTT) (f := eTT) (p := fun x => decide (x = book)) 12 "one" (EVI.lst (EV.var 7)) (fun x hx _ _ _ _ _ => EC.et (EC.eqE (f := eTT) encTT hr.units (EV.var 12) (EV.var 4))) (fun x hx _ _ _ _ _ _ => EV.var 12) (lt_size (by omega))))) (by rw [List.length_map]; rfl)) ?_
      have h64 := few64 (n := n) (k := k) hn (by omega) hB (by omega)
      have hti := all_times hn hk hB
      have RK : R_keepers [eT [n, k, p, m], eTT book] (.ok (.int (keptM n book))) := ⟨n, k, p, m, _, hv, rfl, .inr ⟨by omega, hzB, .inr ⟨_, _, rfl, hgB, rfl, rfl⟩⟩⟩
      have RH : R_how_many_alike [eT [n, k, p, m], eTT book] (.ok (.int ((ddM (allM n book)).length : Nat))) := ⟨n, k, p, m, _, hv, rfl, .inr ⟨by omega, hzB, .inr ⟨_, _, rfl, hgB, ⟨h64, rfl⟩, rfl⟩⟩⟩
      have hkc := kept_cnt n book
      refine SX.iteF (ET.w (EW.orF (EC.et (EC.is (EC.neI (EV.call (c_keepers T) (hr.mono (by decide)) (EA.cons (EV.var 2) (EA.cons (EV.var 4) EA.nil)) (RK)) (EV.var 11)) (by rw [hkc]; simp))) (EW.or1 (EC.et (EC.is (EC.neI (EV.call (c_how_many_alike T) (hr.mono (by decide)) (EA.cons (EV.var 2) (EA.cons (EV.var 4) EA.nil)) (RH)) (EV.lenSetR (nss := allM n book) hr.units T.b_len T.b_set (EV.var 7) h64)) (by simp)))))) (SX.nil ?_)
      refine SX.iteF (ET.is (EC.et (EC.neI (EV.mul (EV.var 11) (EV.call (c_how_many_alike T) (hr.mono (by decide)) (EA.cons (EV.var 2) (EA.cons (EV.var 4) EA.nil)) (RH)) (.inr (by omega))) (EV.lenLE (f := eT) T.b_len (EV.var 6)))) (by rw [← Int.natCast_mul, hti]; simp)) (SX.nil ?_)
      refine SX.ret (EV.call (c__law_none T) (hr.mono (by decide)) (EA.cons (EV.var 2) (EA.cons (EV.var 4) EA.nil)) ⟨n, k, p, m, book, hv, by omega, hgB, rfl, rfl⟩) ?_
      rfl
  · rintro ds r ⟨script, _, _, rfl⟩; exact ⟨_, rfl⟩
end
end K

set_option maxHeartbeats 0

namespace K
open PySem PySem.Spec PyProof.Rows L2 DL
def dd_is_whole : He.DefD := ⟨("is_whole", none), "is_whole", "is_whole", defArgs s_is_whole, defBody s_is_whole, defScope s_is_whole, [], []⟩
def dd_is_game : He.DefD := ⟨("is_game", none), "is_game", "is_game", defArgs s_is_game, defBody s_is_game, defScope s_is_game, [], []⟩
def dd_look_game : He.DefD := ⟨("look_game", none), "look_game", "look_game", defArgs s_look_game, defBody s_look_game, defScope s_look_game, [], []⟩
def dd_chosen : He.DefD := ⟨("chosen", none), "chosen", "chosen", defArgs s_chosen, defBody s_chosen, defScope s_chosen, [], []⟩
def dd_numbers_of : He.DefD := ⟨("numbers_of", none), "numbers_of", "numbers_of", defArgs s_numbers_of, defBody s_numbers_of, defScope s_numbers_of, [], []⟩
def dd_all_draws : He.DefD := ⟨("all_draws", none), "all_draws", "all_draws", defArgs s_all_draws, defBody s_all_draws, defScope s_all_draws, [], []⟩
def dd_are_numbers : He.DefD := ⟨("are_numbers", none), "are_numbers", "are_numbers", defArgs s_are_numbers, defBody s_are_numbers, defScope s_are_numbers, [], []⟩
def dd_is_good : He.DefD := ⟨("is_good", none), "is_good", "is_good", defArgs s_is_good, defBody s_is_good, defScope s_is_good, [], []⟩
def dd_look_book : He.DefD := ⟨("look_book", none), "look_book", "look_book", defArgs s_look_book, defBody s_look_book, defScope s_look_book, [], []⟩
def dd_shared : He.DefD := ⟨("shared", none), "shared", "shared", defArgs s_shared, defBody s_shared, defScope s_shared, [], []⟩
def dd_does_hold : He.DefD := ⟨("does_hold", none), "does_hold", "does_hold", defArgs s_does_hold, defBody s_does_hold, defScope s_does_hold, [], []⟩
def dd_are_names : He.DefD := ⟨("are_names", none), "are_names", "are_names", defArgs s_are_names, defBody s_are_names, defScope s_are_names, [], []⟩
def dd_called : He.DefD := ⟨("called", none), "called", "called", defArgs s_called, defBody s_called, defScope s_called, [], []⟩
def dd_renamed : He.DefD := ⟨("renamed", none), "renamed", "renamed", defArgs s_renamed, defBody s_renamed, defScope s_renamed, [], []⟩
def dd_all_names : He.DefD := ⟨("all_names", none), "all_names", "all_names", defArgs s_all_names, defBody s_all_names, defScope s_all_names, [], []⟩
def dd_look_few : He.DefD := ⟨("look_few", none), "look_few", "look_few", defArgs s_look_few, defBody s_look_few, defScope s_look_few, [], []⟩
def dd_first_form : He.DefD := ⟨("first_form", none), "first_form", "first_form", defArgs s_first_form, defBody s_first_form, defScope s_first_form, [], []⟩
def dd_form_of : He.DefD := ⟨("form_of", none), "form_of", "form_of", defArgs s_form_of, defBody s_form_of, defScope s_form_of, [], []⟩
def dd_are_alike : He.DefD := ⟨("are_alike", none), "are_alike", "are_alike", defArgs s_are_alike, defBody s_are_alike, defScope s_are_alike, [], []⟩
def dd_keepers : He.DefD := ⟨("keepers", none), "keepers", "keepers", defArgs s_keepers, defBody s_keepers, defScope s_keepers, [], []⟩
def dd_how_many_alike : He.DefD := ⟨("how_many_alike", none), "how_many_alike", "how_many_alike", defArgs s_how_many_alike, defBody s_how_many_alike, defScope s_how_many_alike, [], []⟩
def dd_all_escapes : He.DefD := ⟨("all_escapes", none), "all_escapes", "all_escapes", defArgs s_all_escapes, defBody s_all_escapes, defScope s_all_escapes, [], []⟩
def dd_escapes : He.DefD := ⟨("escapes", none), "escapes", "escapes", defArgs s_escapes, defBody s_escapes, defScope s_escapes, [], []⟩
def dd__law_town : He.DefD := ⟨("_law_town", none), "_law_town", "_law_town", defArgs s__law_town, defBody s__law_town, defScope s__law_town, [], []⟩
def dd__law_draw : He.DefD := ⟨("_law_draw", none), "_law_draw", "_law_draw", defArgs s__law_draw, defBody s__law_draw, defScope s__law_draw, [], []⟩
def dd__law_pick : He.DefD := ⟨("_law_pick", none), "_law_pick", "_law_pick", defArgs s__law_pick, defBody s__law_pick, defScope s__law_pick, [], []⟩
def dd__law_told : He.DefD := ⟨("_law_told", none), "_law_told", "_law_told", defArgs s__law_told, defBody s__law_told, defScope s__law_told, [], []⟩
def dd__law_word : He.DefD := ⟨("_law_word", none), "_law_word", "_law_word", defArgs s__law_word, defBody s__law_word, defScope s__law_word, [], []⟩
def dd__law_refused : He.DefD := ⟨("_law_refused", none), "_law_refused", "_law_refused", defArgs s__law_refused, defBody s__law_refused, defScope s__law_refused, [], []⟩
def dd__law_game : He.DefD := ⟨("_law_game", none), "_law_game", "_law_game", defArgs s__law_game, defBody s__law_game, defScope s__law_game, [], []⟩
def dd__law_numbers : He.DefD := ⟨("_law_numbers", none), "_law_numbers", "_law_numbers", defArgs s__law_numbers, defBody s__law_numbers, defScope s__law_numbers, [], []⟩
def dd__law_book : He.DefD := ⟨("_law_book", none), "_law_book", "_law_book", defArgs s__law_book, defBody s__law_book, defScope s__law_book, [], []⟩
def dd__law_one : He.DefD := ⟨("_law_one", none), "_law_one", "_law_one", defArgs s__law_one, defBody s__law_one, defScope s__law_one, [], []⟩
def dd__law_called : He.DefD := ⟨("_law_called", none), "_law_called", "_law_called", defArgs s__law_called, defBody s__law_called, defScope s__law_called, [], []⟩
def dd__law_turns : He.DefD := ⟨("_law_turns", none), "_law_turns", "_law_turns", defArgs s__law_turns, defBody s__law_turns, defScope s__law_turns, [], []⟩
def dd__law_none : He.DefD := ⟨("_law_none", none), "_law_none", "_law_none", defArgs s__law_none, defBody s__law_none, defScope s__law_none, [], []⟩
def dd_law : He.DefD := ⟨("law", none), "law", "law", defArgs s_law, defBody s_law, defScope s_law, [], []⟩
def looseL0 : List PySem.Str := ["DrawError", "BadGame", "BadTicket", "BadDraw", "BadBook", "BadWeights", "BadNames", "BadHits", "BadPrizes", "BadNumber", "Unlike", "Full", "Nothing", "Taken", "NoBack", "BadText", "MOST", "is_whole", "is_game", "look_game", "chosen", "numbers_of", "all_draws", "are_numbers", "is_good", "look_book", "shared", "does_hold", "GREATEST", "are_names"]
def looseL1 : List PySem.Str := ["called", "renamed", "all_names", "look_few", "first_form", "form_of", "are_alike", "keepers", "how_many_alike", "all_escapes", "escapes", "_law_town", "_law_draw", "_law_pick", "_law_told", "_law_word", "_law_refused", "_law_game", "_law_numbers", "_law_book", "_law_one", "_law_called", "_law_turns", "_law_none"]
def looseL : List PySem.Str := looseL0 ++ looseL1
def fnL0 : List He.DefD := [dd_is_whole, dd_is_game, dd_look_game, dd_chosen, dd_numbers_of, dd_all_draws, dd_are_numbers, dd_is_good, dd_look_book, dd_shared, dd_does_hold, dd_are_names, dd_called, dd_renamed, dd_all_names, dd_look_few, dd_first_form, dd_form_of, dd_are_alike, dd_keepers, dd_how_many_alike, dd_all_escapes, dd_escapes, dd__law_town, dd__law_draw, dd__law_pick, dd__law_told, dd__law_word, dd__law_refused, dd__law_game]
def fnL1 : List He.DefD := [dd__law_numbers, dd__law_book, dd__law_one, dd__law_called, dd__law_turns, dd__law_none, dd_law]
def fnL : List He.DefD := fnL0 ++ fnL1
def faL0 : List He.Fa := [.glo "is_whole", .glo "is_game", .glo "look_game", .glo "chosen", .glo "numbers_of", .glo "all_draws", .glo "are_numbers", .glo "is_good", .glo "look_book", .glo "shared", .glo "does_hold", .glo "are_names", .glo "called", .glo "renamed", .glo "all_names", .glo "look_few", .glo "first_form", .glo "form_of", .glo "are_alike", .glo "keepers", .glo "how_many_alike", .glo "all_escapes", .glo "escapes", .glo "_law_town", .glo "_law_draw", .glo "_law_pick", .glo "_law_told", .glo "_law_word", .glo "_law_refused", .glo "_law_game"]
def faL1 : List He.Fa := [.glo "_law_numbers", .glo "_law_book", .glo "_law_one", .glo "_law_called", .glo "_law_turns", .glo "_law_none", .glo "law", .free "ValueError", .free "all", .free "any", .free "bool", .free "enumerate", .free "int", .free "isinstance", .free "len", .free "list", .free "min", .free "range", .free "set", .free "sorted", .free "tuple", .free "zip", .int "MOST" 20, .int "GREATEST" 6, .glo "DrawError", .glo "BadGame", .glo "BadTicket", .glo "BadDraw", .glo "BadBook", .glo "BadWeights"]
def faL2 : List He.Fa := [.glo "BadNames", .glo "BadHits", .glo "BadPrizes", .glo "BadNumber", .glo "Unlike", .glo "Full", .glo "Nothing", .glo "Taken", .glo "NoBack", .glo "BadText", .exc "BadBook", .exc "BadGame", .exc "BadNames", .exc "Full"]
def faL : List He.Fa := faL0 ++ faL1 ++ faL2
abbrev R : PySem.W.OpenRow := PySem.W.OpenLaw.row PySem.Challenge.rw_drawbooks_k20_whole_names
abbrev hk : PySem.W.Hook := hookE 4 faL fnL (excsB "DrawError" clsL)
def ob (s : PySem.W.SharedT) : He.AlD × Bool := (He.obsDG 4 faL fnL (HandSHeadRun.getT s), excsB "DrawError" clsL (He.frG (HandSHeadRun.getT s) (He.asD (HandSHeadRun.getT s) 4)))
theorem ob_eq (s : PySem.W.SharedT) : ob s = hk.obs s.abs := hookE_eq (HandSHeadRun.getT_eq s)
theorem run (w : World) : HandSHeadRun.RunEq R (PySem.W.view R.prog [59]) hk ob 20000 looseL w := by
  intro os
  kernel_rfl
theorem txt {K : PySem.W.Frag} {h : Heap} {mg : Str → Option Value} (X : K.In h) (G : h.Ns mainGlobals mg) (cx : He.SaysD faL fnL K ∧ excsB "DrawError" clsL K = true) : Txt K mg := by
  have c := cx.1
  refine Txt.mk
    ⟨c.def_ 0 (d := dd_is_whole) rfl, He.glo_ok X G (c.fact 0 (f := .glo "is_whole") rfl)⟩
    ⟨c.def_ 1 (d := dd_is_game) rfl, He.glo_ok X G (c.fact 1 (f := .glo "is_game") rfl)⟩
    ⟨c.def_ 2 (d := dd_look_game) rfl, He.glo_ok X G (c.fact 2 (f := .glo "look_game") rfl)⟩
    ⟨c.def_ 3 (d := dd_chosen) rfl, He.glo_ok X G (c.fact 3 (f := .glo "chosen") rfl)⟩
    ⟨c.def_ 4 (d := dd_numbers_of) rfl, He.glo_ok X G (c.fact 4 (f := .glo "numbers_of") rfl)⟩
    ⟨c.def_ 5 (d := dd_all_draws) rfl, He.glo_ok X G (c.fact 5 (f := .glo "all_draws") rfl)⟩
    ⟨c.def_ 6 (d := dd_are_numbers) rfl, He.glo_ok X G (c.fact 6 (f := .glo "are_numbers") rfl)⟩
    ⟨c.def_ 7 (d := dd_is_good) rfl, He.glo_ok X G (c.fact 7 (f := .glo "is_good") rfl)⟩
    ⟨c.def_ 8 (d := dd_look_book) rfl, He.glo_ok X G (c.fact 8 (f := .glo "look_book") rfl)⟩
    ⟨c.def_ 9 (d := dd_shared) rfl, He.glo_ok X G (c.fact 9 (f := .glo "shared") rfl)⟩
    ⟨c.def_ 10 (d := dd_does_hold) rfl, He.glo_ok X G (c.fact 10 (f := .glo "does_hold") rfl)⟩
    ⟨c.def_ 11 (d := dd_are_names) rfl, He.glo_ok X G (c.fact 11 (f := .glo "are_names") rfl)⟩
    ⟨c.def_ 12 (d := dd_called) rfl, He.glo_ok X G (c.fact 12 (f := .glo "called") rfl)⟩
    ⟨c.def_ 13 (d := dd_renamed) rfl, He.glo_ok X G (c.fact 13 (f := .glo "renamed") rfl)⟩
    ⟨c.def_ 14 (d := dd_all_names) rfl, He.glo_ok X G (c.fact 14 (f := .glo "all_names") rfl)⟩
    ⟨c.def_ 15 (d := dd_look_few) rfl, He.glo_ok X G (c.fact 15 (f := .glo "look_few") rfl)⟩
    ⟨c.def_ 16 (d := dd_first_form) rfl, He.glo_ok X G (c.fact 16 (f := .glo "first_form") rfl)⟩
    ⟨c.def_ 17 (d := dd_form_of) rfl, He.glo_ok X G (c.fact 17 (f := .glo "form_of") rfl)⟩
    ⟨c.def_ 18 (d := dd_are_alike) rfl, He.glo_ok X G (c.fact 18 (f := .glo "are_alike") rfl)⟩
    ⟨c.def_ 19 (d := dd_keepers) rfl, He.glo_ok X G (c.fact 19 (f := .glo "keepers") rfl)⟩
    ⟨c.def_ 20 (d := dd_how_many_alike) rfl, He.glo_ok X G (c.fact 20 (f := .glo "how_many_alike") rfl)⟩
    ⟨c.def_ 21 (d := dd_all_escapes) rfl, He.glo_ok X G (c.fact 21 (f := .glo "all_escapes") rfl)⟩
    ⟨c.def_ 22 (d := dd_escapes) rfl, He.glo_ok X G (c.fact 22 (f := .glo "escapes") rfl)⟩
    ⟨c.def_ 23 (d := dd__law_town) rfl, He.glo_ok X G (c.fact 23 (f := .glo "_law_town") rfl)⟩
    ⟨c.def_ 24 (d := dd__law_draw) rfl, He.glo_ok X G (c.fact 24 (f := .glo "_law_draw") rfl)⟩
    ⟨c.def_ 25 (d := dd__law_pick) rfl, He.glo_ok X G (c.fact 25 (f := .glo "_law_pick") rfl)⟩
    ⟨c.def_ 26 (d := dd__law_told) rfl, He.glo_ok X G (c.fact 26 (f := .glo "_law_told") rfl)⟩
    ⟨c.def_ 27 (d := dd__law_word) rfl, He.glo_ok X G (c.fact 27 (f := .glo "_law_word") rfl)⟩
    ⟨c.def_ 28 (d := dd__law_refused) rfl, He.glo_ok X G (c.fact 28 (f := .glo "_law_refused") rfl)⟩
    ⟨c.def_ 29 (d := dd__law_game) rfl, He.glo_ok X G (c.fact 29 (f := .glo "_law_game") rfl)⟩
    ⟨c.def_ 30 (d := dd__law_numbers) rfl, He.glo_ok X G (c.fact 30 (f := .glo "_law_numbers") rfl)⟩
    ⟨c.def_ 31 (d := dd__law_book) rfl, He.glo_ok X G (c.fact 31 (f := .glo "_law_book") rfl)⟩
    ⟨c.def_ 32 (d := dd__law_one) rfl, He.glo_ok X G (c.fact 32 (f := .glo "_law_one") rfl)⟩
    ⟨c.def_ 33 (d := dd__law_called) rfl, He.glo_ok X G (c.fact 33 (f := .glo "_law_called") rfl)⟩
    ⟨c.def_ 34 (d := dd__law_turns) rfl, He.glo_ok X G (c.fact 34 (f := .glo "_law_turns") rfl)⟩
    ⟨c.def_ 35 (d := dd__law_none) rfl, He.glo_ok X G (c.fact 35 (f := .glo "_law_none") rfl)⟩
    ⟨c.def_ 36 (d := dd_law) rfl, He.glo_ok X G (c.fact 36 (f := .glo "law") rfl)⟩
    (He.free_ok X G (c.fact 37 (f := .free "ValueError") rfl))
    (He.free_ok X G (c.fact 38 (f := .free "all") rfl))
    (He.free_ok X G (c.fact 39 (f := .free "any") rfl))
    (He.free_ok X G (c.fact 40 (f := .free "bool") rfl))
    (He.free_ok X G (c.fact 41 (f := .free "enumerate") rfl))
    (He.free_ok X G (c.fact 42 (f := .free "int") rfl))
    (He.free_ok X G (c.fact 43 (f := .free "isinstance") rfl))
    (He.free_ok X G (c.fact 44 (f := .free "len") rfl))
    (He.free_ok X G (c.fact 45 (f := .free "list") rfl))
    (He.free_ok X G (c.fact 46 (f := .free "min") rfl))
    (He.free_ok X G (c.fact 47 (f := .free "range") rfl))
    (He.free_ok X G (c.fact 48 (f := .free "set") rfl))
    (He.free_ok X G (c.fact 49 (f := .free "sorted") rfl))
    (He.free_ok X G (c.fact 50 (f := .free "tuple") rfl))
    (He.free_ok X G (c.fact 51 (f := .free "zip") rfl))
    (He.int_ok X G (c.fact 52 (f := .int "MOST" 20) rfl))
    (He.int_ok X G (c.fact 53 (f := .int "GREATEST" 6) rfl))
    (excOk_of (He.glo_ok X G (c.fact 58 (f := .glo "BadBook") rfl)) (He.exc_ok (c.fact 70 (f := .exc "BadBook") rfl)))
    (excOk_of (He.glo_ok X G (c.fact 55 (f := .glo "BadGame") rfl)) (He.exc_ok (c.fact 71 (f := .exc "BadGame") rfl)))
    (excOk_of (He.glo_ok X G (c.fact 60 (f := .glo "BadNames") rfl)) (He.exc_ok (c.fact 72 (f := .exc "BadNames") rfl)))
    (excOk_of (He.glo_ok X G (c.fact 65 (f := .glo "Full") rfl)) (He.exc_ok (c.fact 73 (f := .exc "Full") rfl)))
    (He.glo_ok X G (c.fact 54 (f := .glo "DrawError") rfl))
    (He.glo_ok X G (c.fact 55 (f := .glo "BadGame") rfl))
    (He.glo_ok X G (c.fact 56 (f := .glo "BadTicket") rfl))
    (He.glo_ok X G (c.fact 57 (f := .glo "BadDraw") rfl))
    (He.glo_ok X G (c.fact 58 (f := .glo "BadBook") rfl))
    (He.glo_ok X G (c.fact 59 (f := .glo "BadWeights") rfl))
    (He.glo_ok X G (c.fact 60 (f := .glo "BadNames") rfl))
    (He.glo_ok X G (c.fact 61 (f := .glo "BadHits") rfl))
    (He.glo_ok X G (c.fact 62 (f := .glo "BadPrizes") rfl))
    (He.glo_ok X G (c.fact 63 (f := .glo "BadNumber") rfl))
    (He.glo_ok X G (c.fact 64 (f := .glo "Unlike") rfl))
    (He.glo_ok X G (c.fact 65 (f := .glo "Full") rfl))
    (He.glo_ok X G (c.fact 66 (f := .glo "Nothing") rfl))
    (He.glo_ok X G (c.fact 67 (f := .glo "Taken") rfl))
    (He.glo_ok X G (c.fact 68 (f := .glo "NoBack") rfl))
    (He.glo_ok X G (c.fact 69 (f := .glo "BadText") rfl))
    (excsB_ok cx.2)
end K
open PySem PySem.W PySem.Calls PyProof.Rows
theorem PySem.Challenge.cw_drawbooks_k20_whole_names_holds : PySem.Challenge.rw_drawbooks_k20_whole_names.Holds := by
  w_on; o_law
  refine HandSHeadRun.head_any (r := OpenLaw.row PySem.Challenge.rw_drawbooks_k20_whole_names) (q := view (OpenLaw.row PySem.Challenge.rw_drawbooks_k20_whole_names).prog [59]) (H := K.hk) (ob := K.ob) (M := 20000) (loose := K.looseL)
    (d := HandSHeadRun.topDef (OpenLaw.row PySem.Challenge.rw_drawbooks_k20_whole_names).prog 59) (kwd := []) K.ob_eq
    (by kernel_rfl) (fun s => by kernel_rfl) K.run (by kernel_rfl) (by kernel_rfl) (by kernel_rfl) (by rfl)
    (by first | assumption | decide +kernel) (by decide +kernel) ⟨rfl, rfl, rfl, rfl, rfl, by decide +kernel⟩ ?hw ?hc
  case hw => w_witness2
  case hc =>
    refine L2.walk_ofE (l := PySem.Challenge.rw_drawbooks_k20_whole_names) (n := 63) (k := 17) (x := "script") (CX := L2.CX0) rfl (by decide) (by kernel_rfl) ⟨rfl, by decide, by decide⟩ ?F (fun _ _ _ _ z => z)
    intro w mg fa h Y G hmg0
    obtain ⟨K0, KX, c⟩ := Y
    have e0 : (HandSHeadRun.topDef (OpenLaw.row PySem.Challenge.rw_drawbooks_k20_whole_names).prog 59).name = ("law" : PySem.Str) := by kernel_rfl
    have hmg : mg ("law" : PySem.Str) = some (.ref fa) := by rw [← e0]; exact hmg0
    have T := K.txt KX G c
    obtain ⟨fd, F⟩ := T.d_law.fd
    have ea : fa = He.ga K0 "law" := by
      have := hmg.symm.trans T.d_law.gl
      cases this; rfl
    subst ea
    have b := L2.FunD.bindsA (ps := ["script"]) F fun _ _ _ _ _ _ us hl => match us, hl with | [_], _ => rfl
    refine ⟨K0, fd, DL.spP K0 K.R_law, KX, fun s v => b s [v] rfl, fun H a ns hl _ hS => ?_, fun base _ _ => K.c_law T F⟩
    exact ⟨[], [DL.lst PyData.int ns], .ok (.bool true), DL.dom_nil, DL.script_dp hS, ⟨ns, hl, rfl, rfl⟩, fun v H' _ p => DL.dp_true p⟩

