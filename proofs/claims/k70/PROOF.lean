import PyProof.Rows.All
import Wide.All
import OpenK.AllK
import Wide.FinOn
import HandS.ForMost
import HandS.ForExc
import HandS.HeadHook1
import HandS.HeadHook2
import HandS.ExcInit
import HandS.ExcValue
import KE.KDictKeyed
import HandS.Dict
import HandS.Walk
import HandS.Defaults
import HandS.Deep
import HandS.TupAny
import HandS.TupMul
import HandS.Conv
import HandS.SortInts
import HandS.Text
import HandS.Wide
import HandS.Steps
import HandS.Zip
import HandS.More
import KE.KExcIs
import HandS.IsInst
import HandS.ExcField
import HandS.WordsExc
import HandS.ExcOwn
import HandS.HeadEnd
import HandS.TupLen
import HandS.SetKeys
import KE.GoesEnum
import KE.GoesZip
import HandS.Iter
import KE.GoesEnumKw
import PyProof.Rows.CallKw2
import PyProof.SeqIndex
import HandS.WordsDict
import HandS.Style
import KE.DataFind
import KE.KStateDown
import HandS.Words
import HandS.Head0
import HandS.Head1
import HandS.Head2
import PySem.Challenge.RW_homerounds_k70_house_bounds
set_option Elab.async false
set_option linter.all false
set_option maxRecDepth 100000
section
set_option autoImplicit true
set_option Elab.async false
set_option linter.all false
set_option maxRecDepth 100000
set_option maxHeartbeats 1000000
/-! L3: values without a heap, over HandS. Part a: slots, footprints, the state's good form. -/
namespace L3
open PySem PySem.Spec PyProof.Rows L2
/-- what a def owns: a list, a dict, a set, a pen (drawn from at most n times) -/
inductive Ow where
  | ls (ds : List PyData)
  | dc (w : World) (kvs : List (NestedKey × PyData))
  | dk (kvs : List (L2.Key × PyData))
  | st (ds : List PyData)
  | pn (cs : List Int) (a z : Int)
  | hs (kept : PyData) (rows : List (L2.Key × PyData)) (held : List PyData)
  | ni
/-- a slot: nothing told, a thing that is no more changed, an owned thing, an exception of a class by its name -/
inductive Sl where
  | un
  | fz (d : PyData)
  | ow (o : Ow)
  | xc (c : Str) (g : Option PyData)
/-- what an expression gives: a thing, a new owned one, the one in a slot, an exception -/
inductive Rs where
  | fz (d : PyData)
  | nw (o : Ow)
  | br (i : Nat)
  | xc (c : Str) (g : Option PyData)
structure Er where
  c : Str
  g : Option (Str × PyData)
abbrev En := List Sl
abbrev KX := Er → En → Prop
/-- the heap without some objects -/
def hid (H : Hp) (F : List Addr) : Hp := fun a => if a ∈ F then none else H a
theorem hid_in {H : Hp} {F : List Addr} {a : Addr} (h : a ∈ F) : hid H F a = none := if_pos h
theorem hid_out {H : Hp} {F : List Addr} {a : Addr} (h : a ∉ F) : hid H F a = H a := if_neg h
theorem hid_some {H : Hp} {F : List Addr} {a : Addr} {o : HO} (h : hid H F a = some o) : a ∉ F ∧ H a = some o := by
  by_cases q : a ∈ F
  · rw [hid_in q] at h; cases h
  · rw [hid_out q] at h; exact ⟨q, h⟩
theorem hid_nil {H : Hp} : hid H [] = H := funext fun a => hid_out (by simp)
theorem hid_same {H H' : Hp} {F F' : List Addr} (h : ∀ a o, a ∉ F → H a = some o → a ∉ F' ∧ H' a = some o) : Same (hid H F) (hid H' F') := fun a o e => by
  obtain ⟨n, e⟩ := hid_some e
  obtain ⟨n', e'⟩ := h a o n e
  rw [hid_out n', e']
theorem hid_le {H : Hp} {F : List Addr} : Same (hid H F) H := fun a o e => (hid_some e).2
theorem seqT_mono {K : PySem.W.Frag} {H H' : Hp} {a : Addr} {xs : List V} (e : Same H H') (h : SqT K H a xs) : SqT K H' a xs := by
  rcases h with (h | ⟨o, h⟩) | h
  · exact .inl (.inl (e _ _ h))
  · exact .inl (.inr ⟨o, e _ _ h⟩)
  · exact .inr h
/-- an exception object: of the class at C, its own dict d -/
def XP (cls : Value) (d : Option Addr) (a : Addr) (h : Heap) : Prop := ∃ (oe : Obj) (vs : Array Value), h.get? a = some oe ∧ Zc cls d oe ∧ oe.data = .fields vs
/-- a key as data -/
def keyD : L2.Key → PyData
  | .inl i => .int i
  | .inr x => .str x
/-- a dict of int and text keys that is no more changed, as data -/
def dkD (kvs : List (L2.Key × PyData)) : PyData := .dict ((.none, .none) :: kvs.map fun p => (keyD p.1, p.2))
mutual
/-- how data lie; an exception is told as a dict -/
inductive Dx (K : PySem.W.Frag) (H : Hp) : V → PyData → Prop
  | non : Dx K H .non .none
  | bl (b : Bool) : Dx K H (.bl b) (.bool b)
  | int (i : Int) : Dx K H (.int i) (.int i)
  | str (x : Str) : Dx K H (.str x) (.str x)
  | lst {a : Addr} {xs : List V} {ds : List PyData} : SqL K H a xs → DxAll K H xs ds → Dx K H (.ref a) (.list ds)
  | tup {a : Addr} {xs : List V} {ds : List PyData} : SqT K H a xs → DxAll K H xs ds → Dx K H (.ref a) (.tuple ds)
  | xc0 {a : Addr} {c : Str} {φ : Heap → Prop} : H a = some (.ext φ) → (∀ h, φ h → XP (.ref (He.ga K c)) none a h) → Dx K H (.ref a) (.dict [(.str c, .none)])
  | xc1 {a dd : Addr} {c nm : Str} {v : V} {y : PyData} {φ : Heap → Prop} {u : HO} : H a = some (.ext φ) → (∀ h, φ h → XP (.ref (He.ga K c)) (some dd) a h) → H dd = some u → (u = .xd [(nm, v)] ∨ u = exd dd [(nm, v)]) → Dx K H v y → Dx K H (.ref a) (.dict [(.str c, .str nm), (.none, y)])
  | dks {a : Addr} {xs : List (L2.Key × V)} {kvs : List (L2.Key × PyData)} {es : List (PyData × PyData)} : H a = some (.dK xs) → xs.map (·.1) = kvs.map (·.1) → es = kvs.map (fun p => (keyD p.1, p.2)) → DxAll K H (xs.map (·.2)) (kvs.map (·.2)) → Dx K H (.ref a) (.dict ((.none, .none) :: es))
inductive DxAll (K : PySem.W.Frag) (H : Hp) : List V → List PyData → Prop
  | nil : DxAll K H [] []
  | cons {v : V} {vs : List V} {d : PyData} {ds : List PyData} : Dx K H v d → DxAll K H vs ds → DxAll K H (v :: vs) (d :: ds)
end
abbrev NK := NestedKey
abbrev EnV := NK × Addr × V
abbrev EnU := NK × Addr × Value
def EnR (x : EnV) (y : EnU) : Prop := x.1 = y.1 ∧ x.2.1 = y.2.1 ∧ RelV x.2.2 y.2.2
/-- the dict object at p, its keys tuples: its entries -/
def kdP (w : World) (p : Addr) (xs : List EnV) (h : Heap) : Prop := (p == sysModules) = false ∧ xs.length ≤ sizeLine ∧ ∃ (ys : List EnU) (o : Obj) (es : Array DictEntry) (ep : Nat), Paired EnR xs ys ∧ h.get? p = some o ∧ o.ExactDict ∧ o.data = .dict es ep ∧ es.toList = ys.map fun y => ⟨y.1.hash w, .ref y.2.1, y.2.2⟩
def KeyAt (K : PySem.W.Frag) (H : Hp) (x : EnV) : Prop := x.1.depth ≤ 8 ∧ Dx K H (.ref x.2.1) x.1.data
/-- an exception as a thing -/
def exD (er : Er) : PyData := match er.g with
  | none => .dict [(.str er.c, .none)]
  | some (nm, y) => .dict [(.str er.c, .str nm), (.none, y)]
mutual
theorem dx_mono {K : PySem.W.Frag} {H H' : Hp} (e : Same H H') : ∀ {v : V} {d : PyData}, Dx K H v d → Dx K H' v d
  | _, _, .non => .non
  | _, _, .bl b => .bl b
  | _, _, .int i => .int i
  | _, _, .str x => .str x
  | _, _, .lst h q => .lst (e.seq h) (dxAll_mono e q)
  | _, _, .tup h q => .tup (seqT_mono e h) (dxAll_mono e q)
  | _, _, .xc0 h p => .xc0 (e _ _ h) p
  | _, _, .xc1 h p h2 p2 q => .xc1 (e _ _ h) p (e _ _ h2) p2 (dx_mono e q)
  | _, _, .dks h p h2 q => .dks (e _ _ h) p h2 (dxAll_mono e q)
theorem dxAll_mono {K : PySem.W.Frag} {H H' : Hp} (e : Same H H') : ∀ {vs : List V} {ds : List PyData}, DxAll K H vs ds → DxAll K H' vs ds
  | _, _, .nil => .nil
  | _, _, .cons h q => .cons (dx_mono e h) (dxAll_mono e q)
end
section
variable {K : PySem.W.Frag} {Z : Hp}
theorem DxAll.lenD : ∀ {vs : List V} {ds : List PyData}, DxAll K Z vs ds → vs.length = ds.length
  | _, _, .nil => rfl
  | _, _, .cons _ q => by simp [q.lenD]
theorem DxAll.atD : ∀ {vs : List V} {ds : List PyData} {i : Nat} {d : PyData}, DxAll K Z vs ds → ds[i]? = some d → ∃ v, vs[i]? = some v ∧ Dx K Z v d
  | _, _, i, _, .nil, h => by simp at h
  | _, _, 0, _, .cons h _, e => by simp at e; subst e; exact ⟨_, rfl, h⟩
  | _, _, i + 1, _, .cons _ q, e => by simpa using q.atD (by simpa using e)
theorem DxAll.atV : ∀ {vs : List V} {ds : List PyData} {i : Nat} {v : V}, DxAll K Z vs ds → vs[i]? = some v → ∃ d, ds[i]? = some d ∧ Dx K Z v d
  | _, _, i, _, .nil, h => by simp at h
  | _, _, 0, _, .cons h _, e => by simp at e; subst e; exact ⟨_, rfl, h⟩
  | _, _, i + 1, _, .cons _ q, e => by simpa using q.atV (by simpa using e)
theorem DxAll.app : ∀ {vs ws : List V} {ds es : List PyData}, DxAll K Z vs ds → DxAll K Z ws es → DxAll K Z (vs ++ ws) (ds ++ es)
  | _, _, _, _, .nil, q => q
  | _, _, _, _, .cons h q, r => .cons h (q.app r)
theorem DxAll.one {v : V} {d : PyData} (h : Dx K Z v d) : DxAll K Z [v] [d] := .cons h .nil
theorem DxAll.dropN : ∀ {vs : List V} {ds : List PyData} (n : Nat), DxAll K Z vs ds → DxAll K Z (vs.drop n) (ds.drop n)
  | _, _, 0, q => q
  | _, _, n + 1, .nil => .nil
  | _, _, n + 1, .cons _ q => q.dropN n
theorem DxAll.takeN : ∀ {vs : List V} {ds : List PyData} (n : Nat), DxAll K Z vs ds → DxAll K Z (vs.take n) (ds.take n)
  | _, _, 0, q => .nil
  | _, _, n + 1, .nil => .nil
  | _, _, n + 1, .cons h q => .cons h (q.takeN n)
theorem DxAll.setN : ∀ {vs : List V} {ds : List PyData} {v : V} {d : PyData} (i : Nat), DxAll K Z vs ds → Dx K Z v d → DxAll K Z (vs.set i v) (ds.set i d)
  | _, _, _, _, _, .nil, _ => .nil
  | _, _, _, _, 0, .cons _ q, h => .cons h q
  | _, _, _, _, i + 1, .cons h' q, h => .cons h' (q.setN i h)
theorem DxAll.rev : ∀ {vs : List V} {ds : List PyData}, DxAll K Z vs ds → DxAll K Z vs.reverse ds.reverse
  | _, _, .nil => .nil
  | _, _, .cons h q => by rw [List.reverse_cons, List.reverse_cons]; exact q.rev.app (.one h)
theorem DxAll.ofInts : ∀ ns : List Int, DxAll K Z (ns.map V.int) (ns.map PyData.int)
  | [] => .nil
  | n :: ns => .cons (.int n) (ofInts ns)
theorem DxAll.toInts : ∀ {vs : List V} {ns : List Int}, DxAll K Z vs (ns.map PyData.int) → vs = ns.map V.int
  | _, [], .nil => rfl
  | _, n :: ns, .cons h q => by cases h; rw [toInts q] <;> rfl
theorem DxAll.toBools : ∀ {vs : List V} {ns : List Bool}, DxAll K Z vs (ns.map PyData.bool) → vs = ns.map V.bl
  | _, [], .nil => rfl
  | _, n :: ns, .cons h q => by cases h; rw [toBools q] <;> rfl
end
/-- how an owned thing lies at p: its footprint f; Z: what it may lean on -/
def OwR (K : PySem.W.Frag) (Z H : Hp) (p : Addr) (o : Ow) (f : List Addr) : Prop := match o with
  | .ls ds => f = [p] ∧ ∃ vs, H p = some (.lst vs) ∧ DxAll K Z vs ds
  | .pn cs n z => ∃ (c : Addr), f = [p, c] ∧ H p = some (.lst [.ref c, .int n, .int z]) ∧ H c = some (.lst (cs.map V.int))
  | .dc w kvs => f = [p] ∧ ∃ xs : List EnV, H p = some (.ext (kdP w p xs)) ∧ xs.map (·.1) = kvs.map (·.1) ∧ (kvs.map (·.1)).Nodup ∧ (∀ x ∈ xs, KeyAt K Z x) ∧ DxAll K Z (xs.map (·.2.2)) (kvs.map (·.2))
  | .dk kvs => f = [p] ∧ ∃ xs : List (L2.Key × V), H p = some (.dK xs) ∧ xs.map (·.1) = kvs.map (·.1) ∧ DxAll K Z (xs.map (·.2)) (kvs.map (·.2))
  | .st _ => False
  | .hs kept rows held => ∃ (dx r l : Addr) (v : V) (xs : List (L2.Key × V)) (vs : List V), f = [p, dx, r, l] ∧ H p = some (.ins (He.ga K "House") dx [("kept", v), ("rows", .ref r), ("held", .ref l)]) ∧ H dx = some (.own p) ∧ H r = some (.dK xs) ∧ H l = some (.lst vs) ∧
      xs.map (·.1) = rows.map (·.1) ∧ Dx K Z v kept ∧ DxAll K Z (xs.map (·.2)) (rows.map (·.2)) ∧ DxAll K Z vs held
  | .ni => ∃ dx : Addr, f = [p, dx] ∧ H p = some (.ins (He.ga K "House") dx []) ∧ H dx = some (.own p)
def SlR (K : PySem.W.Frag) (Z H : Hp) (v : Option V) (s : Sl) (f : List Addr) : Prop := match s with
  | .un => f = []
  | .fz d => f = [] ∧ ∃ x, v = some x ∧ Dx K Z x d
  | .ow o => ∃ p, v = some (.ref p) ∧ OwR K Z H p o f
  | .xc c g => False
structure EnvR (K : PySem.W.Frag) (Z H : Hp) (σ : L2.St) (env : En) (feet : List (List Addr)) : Prop where
  l1 : σ.length = env.length
  l2 : feet.length = env.length
  sl : ∀ (i : Nat) v s f, σ[i]? = some v → env[i]? = some s → feet[i]? = some f → SlR K Z H v s f
section
variable {K : PySem.W.Frag} {Z Z' H H' : Hp} {p : Addr} {o : Ow} {f : List Addr} {v : Option V} {s : Sl}
theorem OwR.mono (r : OwR K Z H p o f) (e : Same Z Z') (k : ∀ a ∈ f, H' a = H a) : OwR K Z' H' p o f := by
  cases o with
  | ls ds =>
    obtain ⟨rfl, vs, h, q⟩ := r
    exact ⟨rfl, vs, by rw [k p (by simp)]; exact h, dxAll_mono e q⟩
  | pn cs n z =>
    obtain ⟨c, rfl, h1, h2⟩ := r
    exact ⟨c, rfl, by rw [k p (by simp)]; exact h1, by rw [k c (by simp)]; exact h2⟩
  | dc w kvs =>
    obtain ⟨rfl, xs, h, e1, e2, e3, e4⟩ := r
    exact ⟨rfl, xs, by rw [k p (by simp)]; exact h, e1, e2, fun x hx => ⟨(e3 x hx).1, dx_mono e (e3 x hx).2⟩, dxAll_mono e e4⟩
  | dk kvs =>
    obtain ⟨rfl, xs, h, e1, e4⟩ := r
    exact ⟨rfl, xs, by rw [k p (by simp)]; exact h, e1, dxAll_mono e e4⟩
  | st _ => exact r
  | hs kept rows held =>
    obtain ⟨dx, q, l, v, xs, vs, rfl, h1, h2, h3, h4, e1, d1, d2, d3⟩ := r
    exact ⟨dx, q, l, v, xs, vs, rfl, by rw [k p (by simp)]; exact h1, by rw [k dx (by simp)]; exact h2, by rw [k q (by simp)]; exact h3, by rw [k l (by simp)]; exact h4, e1, dx_mono e d1, dxAll_mono e d2, dxAll_mono e d3⟩
  | ni =>
    obtain ⟨dx, rfl, h1, h2⟩ := r
    exact ⟨dx, rfl, by rw [k p (by simp)]; exact h1, by rw [k dx (by simp)]; exact h2⟩
theorem OwR.tr (r : OwR K Z H p o f) : ∀ a ∈ f, H a ≠ none := by
  cases o with
  | ls ds =>
    obtain ⟨rfl, vs, h, q⟩ := r
    intro a ha
    rw [List.mem_singleton.mp ha, h]
    simp
  | pn cs n z =>
    obtain ⟨c, rfl, h1, h2⟩ := r
    intro b hb
    rcases List.mem_cons.mp hb with e | hb
    · rw [e, h1]; simp
    · rw [List.mem_singleton.mp hb, h2]; simp
  | dc w kvs =>
    obtain ⟨rfl, xs, h, _⟩ := r
    intro a ha
    rw [List.mem_singleton.mp ha, h]
    simp
  | dk kvs =>
    obtain ⟨rfl, xs, h, _⟩ := r
    intro a ha
    rw [List.mem_singleton.mp ha, h]
    simp
  | st _ => exact r.elim
  | hs kept rows held =>
    obtain ⟨dx, q, l, v, xs, vs, rfl, h1, h2, h3, h4, _⟩ := r
    intro a ha
    simp only [List.mem_cons, List.not_mem_nil, or_false] at ha
    rcases ha with rfl | rfl | rfl | rfl
    · rw [h1]; simp
    · rw [h2]; simp
    · rw [h3]; simp
    · rw [h4]; simp
  | ni =>
    obtain ⟨dx, rfl, h1, h2⟩ := r
    intro a ha
    simp only [List.mem_cons, List.not_mem_nil, or_false] at ha
    rcases ha with rfl | rfl
    · rw [h1]; simp
    · rw [h2]; simp
theorem OwR.mem (r : OwR K Z H p o f) : p ∈ f := by
  cases o with
  | ls ds => obtain ⟨rfl, _⟩ := r; simp
  | pn cs n z => obtain ⟨c, rfl, _⟩ := r; simp
  | dc w kvs => obtain ⟨rfl, _⟩ := r; simp
  | dk kvs => obtain ⟨rfl, _⟩ := r; simp
  | st _ => exact r.elim
  | hs kept rows held => obtain ⟨dx, q, l, v, xs, vs, rfl, _⟩ := r; simp
  | ni => obtain ⟨dx, rfl, _⟩ := r; simp
theorem SlR.mono (r : SlR K Z H v s f) (e : Same Z Z') (k : ∀ a ∈ f, H' a = H a) : SlR K Z' H' v s f := by
  cases s with
  | un => exact r
  | fz d => obtain ⟨h, x, hx, q⟩ := r; exact ⟨h, x, hx, dx_mono e q⟩
  | ow o => obtain ⟨p, hp, q⟩ := r; exact ⟨p, hp, q.mono e k⟩
  | xc c g => exact r
theorem SlR.tr (r : SlR K Z H v s f) : ∀ a ∈ f, H a ≠ none := by
  cases s with
  | un => rw [show f = [] from r]; intro a h; cases h
  | fz d => obtain ⟨rfl, _⟩ := r; intro a h; cases h
  | ow o => obtain ⟨p, hp, q⟩ := r; exact q.tr
  | xc c g => exact r.elim
theorem EnvR.mono {σ : L2.St} {env : En} {feet : List (List Addr)} (r : EnvR K Z H σ env feet) (e : Same Z Z') (k : ∀ a ∈ feet.flatten, H' a = H a) : EnvR K Z' H' σ env feet :=
  ⟨r.l1, r.l2, fun i v s f h1 h2 h3 => (r.sl i v s f h1 h2 h3).mono e fun a ha => k a (List.mem_flatten.mpr ⟨f, List.mem_of_getElem? h3, ha⟩)⟩
theorem EnvR.tr {σ : L2.St} {env : En} {feet : List (List Addr)} (r : EnvR K Z H σ env feet) : ∀ a ∈ feet.flatten, H a ≠ none := fun a ha => by
  obtain ⟨f, hf, h⟩ := List.mem_flatten.mp ha
  obtain ⟨i, hi, e⟩ := List.mem_iff_getElem.mp hf
  have i1 : i < env.length := by rw [← r.l2]; exact hi
  have i2 : i < σ.length := by rw [r.l1]; exact i1
  exact (r.sl i _ _ f (List.getElem?_eq_getElem i2) (List.getElem?_eq_getElem i1) (by rw [List.getElem?_eq_getElem hi, e])).tr a h
end
/-- what stands fast in a def: the heap at its start, the owned arguments' footprints, the slots at the start, which parameters are handed back -/
structure Ct where
  H0 : Hp
  F0 : List Addr
  σ0 : L2.St
  BR : List Nat
  PF : List (V × PyData) := []
/-- the good form of a state; pf: things that must stay; ex: the footprint of a thing that stands in no slot yet -/
structure Wf (K : PySem.W.Frag) (C : Ct) (pf : List (V × PyData)) (σ : L2.St) (H : Hp) (env : En) (feet : List (List Addr)) (ex : List Addr) : Prop where
  nd : (feet.flatten ++ ex).Nodup
  rel : EnvR K (hid H (feet.flatten ++ ex)) H σ env feet
  pin : ∀ p ∈ pf, Dx K (hid H (feet.flatten ++ ex)) p.1 p.2
  exT : ∀ a ∈ ex, H a ≠ none
  fr : ∀ a o, a ∉ C.F0 → C.H0 a = some o → H a = some o
  nw : ∀ a ∈ feet.flatten ++ ex, a ∈ C.F0 ∨ C.H0 a = none
  pr : ∀ i ∈ C.BR, σ[i]? = C.σ0[i]?
theorem flatten_set_sub {α : Type} {l : List (List α)} {i : Nat} {f : List α} {a : α} (h : a ∈ (l.set i f).flatten) : a ∈ l.flatten ∨ a ∈ f := by
  obtain ⟨g, hg, ha⟩ := List.mem_flatten.mp h
  rcases List.mem_or_eq_of_mem_set hg with q | q
  · exact .inl (List.mem_flatten.mpr ⟨g, q, ha⟩)
  · exact .inr (q ▸ ha)
theorem nodup_set {α : Type} : ∀ {l : List (List α)} {i : Nat} {f : List α}, (l.flatten ++ f).Nodup → (l.set i f).flatten.Nodup
  | [], i, f, h => by simp
  | g :: l, 0, f, h => by
    rw [List.flatten_cons, List.append_assoc] at h
    have h2 := (List.nodup_append.mp h).2.1
    show ((f :: l).flatten).Nodup
    rw [List.flatten_cons]
    rw [List.nodup_append] at h2 ⊢
    exact ⟨h2.2.1, h2.1, fun a ha b hb e => h2.2.2 b hb a ha e.symm⟩
  | g :: l, i + 1, f, h => by
    show ((g :: l.set i f).flatten).Nodup
    rw [List.flatten_cons] at h ⊢
    rw [List.append_assoc, List.nodup_append] at h
    rw [List.nodup_append]
    refine ⟨h.1, nodup_set h.2.1, fun a ha b hb e => ?_⟩
    rcases flatten_set_sub hb with q | q
    · exact h.2.2 a ha b (List.mem_append_left _ q) e
    · exact h.2.2 a ha b (List.mem_append_right _ q) e
section
variable {K : PySem.W.Frag} {C : Ct} {pf : List (V × PyData)} {σ : L2.St} {H H' : Hp} {env : En} {feet : List (List Addr)} {ex f : List Addr}
/-- the heap grows; f: a new footprint -/
theorem Wf.grow (W : Wf K C pf σ H env feet []) (e : Same H H') (hn : ∀ a ∈ f, H a = none) (hf : f.Nodup) (ht : ∀ a ∈ f, H' a ≠ none) : Wf K C pf σ H' env feet f := by
  have tr := W.rel.tr
  have sm : Same (hid H (feet.flatten ++ [])) (hid H' (feet.flatten ++ f)) := hid_same fun a o n q => ⟨fun m => (by
    rcases List.mem_append.mp m with m | m
    · exact n (List.mem_append_left _ m)
    · rw [hn a m] at q
      cases q), e a o q⟩
  refine ⟨?_, W.rel.mono sm fun a ha => ?_, fun p hp => dx_mono sm (W.pin p hp), ht, fun a o n q => e a o (W.fr a o n q), fun a ha => ?_, W.pr⟩
  · have n1 := W.nd
    rw [List.append_nil] at n1
    refine List.nodup_append.mpr ⟨n1, hf, fun a ha b hb q => tr a ha ?_⟩
    rw [q]; exact hn b hb
  · cases q : H a with
    | none => exact absurd q (tr a ha)
    | some o => exact e a o q
  · rcases List.mem_append.mp ha with m | m
    · exact W.nw a (List.mem_append_left _ m)
    · by_cases q : a ∈ C.F0
      · exact .inl q
      · right
        cases z : C.H0 a with
        | none => rfl
        | some o => have := W.fr a o q z; rw [hn a m] at this; cases this
theorem Wf.drop (W : Wf K C pf σ H env feet ex) : Wf K C pf σ H env feet [] := by
  have sm : Same (hid H (feet.flatten ++ ex)) (hid H (feet.flatten ++ [])) := hid_same fun a o n q => ⟨fun m => n (by
    rw [List.append_nil] at m; exact List.mem_append_left _ m), q⟩
  refine ⟨by rw [List.append_nil]; exact (List.nodup_append.mp W.nd).1, W.rel.mono sm fun _ _ => rfl, fun p hp => dx_mono sm (W.pin p hp), by simp, W.fr, fun a ha => W.nw a ?_, W.pr⟩
  rw [List.append_nil] at ha; exact List.mem_append_left _ ha
/-- slot i gets v, with s of it -/
theorem Wf.put {i : Nat} {v : V} {s : Sl} (W : Wf K C pf σ H env feet f) (hs : SlR K (hid H (feet.flatten ++ f)) H (some v) s f) (hi : i ∉ C.BR) : Wf K C pf (σ.set i (some v)) H (env.set i s) (feet.set i f) [] := by
  have sm : Same (hid H (feet.flatten ++ f)) (hid H ((feet.set i f).flatten ++ [])) := hid_same fun a o n q => ⟨fun m => n (by
    rw [List.append_nil] at m
    rcases flatten_set_sub m with m | m
    · exact List.mem_append_left _ m
    · exact List.mem_append_right _ m), q⟩
  refine ⟨by rw [List.append_nil]; exact nodup_set W.nd, ⟨by simp [W.rel.l1], by simp [W.rel.l2], fun j u t g h1 h2 h3 => ?_⟩, fun p hp => dx_mono sm (W.pin p hp), by simp, W.fr, fun a ha => ?_, fun j hj => ?_⟩
  · by_cases e : i = j
    · subst e
      have i1 : i < σ.length := by
        have := List.getElem?_eq_some_iff.mp h1
        simpa using this.1
      have i2 : i < env.length := by rw [← W.rel.l1]; exact i1
      have i3 : i < feet.length := by rw [W.rel.l2]; exact i2
      rw [List.getElem?_set_self i1] at h1
      rw [List.getElem?_set_self i2] at h2
      rw [List.getElem?_set_self i3] at h3
      cases h1; cases h2; cases h3
      exact hs.mono sm fun _ _ => rfl
    · rw [List.getElem?_set_ne e] at h1 h2 h3
      exact (W.rel.sl j u t g h1 h2 h3).mono sm fun _ _ => rfl
  · rw [List.append_nil] at ha
    rcases flatten_set_sub ha with m | m
    · exact W.nw a (List.mem_append_left _ m)
    · exact W.nw a (List.mem_append_right _ m)
  · rw [List.getElem?_set_ne (fun e => hi (by rw [e]; exact hj))]
    exact W.pr j hj
/-- the mode of slot i changes (its owned thing is let go, or told otherwise), its value stays -/
theorem Wf.mode {i : Nat} {v : V} {s : Sl} (W : Wf K C pf σ H env feet []) (hv : σ[i]? = some (some v)) (hs : SlR K (hid H ((feet.set i []).flatten)) H (some v) s []) : Wf K C pf σ H (env.set i s) (feet.set i []) [] := by
  have sub : ∀ a, a ∈ (feet.set i []).flatten → a ∈ feet.flatten := fun a m => by
    rcases flatten_set_sub m with m | m
    · exact m
    · cases m
  have sm : Same (hid H (feet.flatten ++ [])) (hid H ((feet.set i []).flatten ++ [])) := hid_same fun a o n q => ⟨fun m => n (by
    rw [List.append_nil] at m ⊢; exact sub a m), q⟩
  refine ⟨by rw [List.append_nil]; exact nodup_set W.nd, ⟨by simp [W.rel.l1], by simp [W.rel.l2], fun j u t g h1 h2 h3 => ?_⟩, fun p hp => dx_mono sm (W.pin p hp), by simp, W.fr, fun a ha => ?_, W.pr⟩
  · by_cases e : i = j
    · subst e
      rw [hv] at h1; cases h1
      have i1 : i < env.length := by
        rw [← W.rel.l1]; exact (List.getElem?_eq_some_iff.mp hv).1
      have i3 : i < feet.length := by rw [W.rel.l2]; exact i1
      rw [List.getElem?_set_self i1] at h2
      rw [List.getElem?_set_self i3] at h3
      cases h2; cases h3
      rw [List.append_nil]
      exact hs
    · rw [List.getElem?_set_ne e] at h2 h3
      exact (W.rel.sl j u t g h1 h2 h3).mono sm fun _ _ => rfl
  · rw [List.append_nil] at ha
    exact W.nw a (by rw [List.append_nil]; exact sub a ha)
theorem nodup_foot {α : Type} : ∀ {l : List (List α)} {i j : Nat} {f g : List α} {a : α}, l.flatten.Nodup → l[i]? = some f → l[j]? = some g → a ∈ f → a ∈ g → i = j
  | [], i, j, f, g, a, _, h, _, _, _ => by simp at h
  | x :: l, 0, 0, f, g, a, _, _, _, _, _ => rfl
  | x :: l, 0, j + 1, f, g, a, n, h1, h2, a1, a2 => by
    rw [List.flatten_cons, List.nodup_append] at n
    simp at h1; subst h1
    exact absurd rfl (n.2.2 a a1 a (List.mem_flatten.mpr ⟨g, List.mem_of_getElem? (by simpa using h2), a2⟩))
  | x :: l, i + 1, 0, f, g, a, n, h1, h2, a1, a2 => by
    rw [List.flatten_cons, List.nodup_append] at n
    simp at h2; subst h2
    exact absurd rfl (n.2.2 a a2 a (List.mem_flatten.mpr ⟨f, List.mem_of_getElem? (by simpa using h1), a1⟩))
  | x :: l, i + 1, j + 1, f, g, a, n, h1, h2, a1, a2 => by
    rw [List.flatten_cons, List.nodup_append] at n
    have z : i = j := nodup_foot n.2.1 (f := f) (g := g) (by simpa using h1) (by simpa using h2) a1 a2
    rw [z]
/-- an owned thing in slot i is changed within its footprint -/
theorem Wf.turn {i : Nat} {p : Addr} {o o' : Ow} {g : List Addr} (W : Wf K C pf σ H env feet []) (hv : σ[i]? = some (some (.ref p))) (hg : feet[i]? = some g) (hsame : ∀ a, a ∉ g → H' a = H a)
    (ho : OwR K (hid H (feet.flatten ++ [])) H' p o' g) : Wf K C pf σ H' (env.set i (.ow o')) feet [] := by
  have gin : ∀ a ∈ g, a ∈ feet.flatten := fun a ha => List.mem_flatten.mpr ⟨g, List.mem_of_getElem? hg, ha⟩
  have hh : hid H' (feet.flatten ++ []) = hid H (feet.flatten ++ []) := funext fun a => by
    by_cases m : a ∈ feet.flatten ++ []
    · rw [hid_in m, hid_in m]
    · rw [hid_out m, hid_out m]
      exact hsame a fun z => m (by rw [List.append_nil]; exact gin a z)
  have n1 := W.nd
  rw [List.append_nil] at n1
  refine ⟨W.nd, ⟨by simp [W.rel.l1], by simp [W.rel.l2], fun j u t g' h1 h2 h3 => ?_⟩, fun q hq => by rw [hh]; exact W.pin q hq, by simp, fun a o n q => ?_, W.nw, W.pr⟩
  · rw [hh]
    by_cases e : i = j
    · subst e
      rw [hv] at h1; cases h1
      rw [hg] at h3; cases h3
      have i1 : i < env.length := by
        rw [← W.rel.l1]; exact (List.getElem?_eq_some_iff.mp hv).1
      rw [List.getElem?_set_self i1] at h2
      cases h2
      exact ⟨p, rfl, ho⟩
    · rw [List.getElem?_set_ne e] at h2
      exact (W.rel.sl j u t g' h1 h2 h3).mono (fun _ _ z => z) fun a ha => hsame a fun z => e (nodup_foot n1 hg h3 z ha)
  · have q' := W.fr a o n q
    rw [hsame a fun z => ?_]
    · exact q'
    · rcases W.nw a (by rw [List.append_nil]; exact gin a z) with m | m
      · exact n m
      · rw [m] at q; cases q
theorem Wf.pinned {v : V} {d : PyData} (W : Wf K C pf σ H env feet ex) (h : Dx K (hid H (feet.flatten ++ ex)) v d) : Wf K C ((v, d) :: pf) σ H env feet ex :=
  ⟨W.nd, W.rel, fun p hp => by
      rcases List.mem_cons.mp hp with e | e
      · rw [e]; exact h
      · exact W.pin p e, W.exT, W.fr, W.nw, W.pr⟩
theorem Wf.unpin {pf' : List (V × PyData)} (W : Wf K C pf σ H env feet ex) (h : ∀ p ∈ pf', p ∈ pf) : Wf K C pf' σ H env feet ex :=
  ⟨W.nd, W.rel, fun p hp => W.pin p (h p hp), W.exT, W.fr, W.nw, W.pr⟩
end
end L3
end

section
set_option autoImplicit true
set_option Elab.async false
set_option linter.all false
set_option maxRecDepth 100000
set_option maxHeartbeats 1000000
/-! L3 part b: the judgements; expressions, tests. -/
namespace L3
open PySem PySem.Spec PyProof.Rows L2
abbrev RE := En → (Rs → En → Prop) → KX → Prop
abbrev RV := En → (PyData → En → Prop) → KX → Prop
abbrev RT := En → (Bool → En → Prop) → KX → Prop
abbrev RA := En → (List PyData → En → Prop) → KX → Prop
def RsR (K : PySem.W.Frag) (Z H : Hp) (σ : L2.St) (env : En) (v : V) (r : Rs) (f : List Addr) : Prop := match r with
  | .fz d => f = [] ∧ Dx K Z v d
  | .nw o => ∃ p, v = .ref p ∧ OwR K Z H p o f
  | .br i => f = [] ∧ σ[i]? = some (some v) ∧ ∃ o, env[i]? = some (.ow o)
  | .xc c g => False
def Po (K : PySem.W.Frag) (C : Ct) (pf : List (V × PyData)) (σ : L2.St) (Q : Rs → En → Prop) : VK := fun v H => ∃ r env feet f, Wf K C pf σ H env feet f ∧ RsR K (hid H (feet.flatten ++ f)) H σ env v r f ∧ Q r env
def Pv (K : PySem.W.Frag) (C : Ct) (pf : List (V × PyData)) (σ : L2.St) (Q : PyData → En → Prop) : VK := fun v H => ∃ d env feet, Wf K C pf σ H env feet [] ∧ Dx K (hid H (feet.flatten ++ [])) v d ∧ Q d env
def Pb (K : PySem.W.Frag) (C : Ct) (pf : List (V × PyData)) (σ : L2.St) (Q : Bool → En → Prop) : Bool → Hp → Prop := fun b H => ∃ env feet, Wf K C pf σ H env feet [] ∧ Q b env
def Pa (K : PySem.W.Frag) (C : Ct) (pf : List (V × PyData)) (σ : L2.St) (Q : List PyData → En → Prop) : List V → Hp → Prop := fun vs H => ∃ ds env feet, Wf K C pf σ H env feet [] ∧ DxAll K (hid H (feet.flatten ++ [])) vs ds ∧ Q ds env
/-- the weakest readings -/
def eW (X : Cx) (e : Expr) : TE := fun σ H Q => ∀ pins s, Inv X pins σ H s → wpAny (model X.prog X.w) X.A (eval e X.env) (EP X pins σ Q) X.xe s
def tW (X : Cx) (e : Expr) : TT := fun σ H Q => ∀ pins s, Inv X pins σ H s → wpAny (model X.prog X.w) X.A (isTrue e X.env (eval e X.env)) (TP X pins σ Q) X.xe s
def aW (X : Cx) (es : List Expr) : TA := fun σ H Q => ∀ pos pins s, Inv X pins σ H s → wpAny (model X.prog X.w) X.A (spliced (backTo pos (starEach es X.env))) (AP X pins σ Q) X.xe s
def sW (X : Cx) (st : Stmt) : TS := fun D σ H => ∀ pins s, Inv X pins σ H s → wpAny (model X.prog X.w) X.A (exec st X.env) (SP X pins D) X.xe s
def ssW (X : Cx) (st : List Stmt) : TS := fun D σ H => ∀ pins s, Inv X pins σ H s → wpAny (model X.prog X.w) X.A (execs st X.env) (SP X pins D) X.xe s
section
variable {X : Cx} {e : Expr} {es : List Expr} {st : Stmt} {sts : List Stmt} {σ : L2.St} {H : Hp}
theorem eW.pe : PE X e (eW X e) := ⟨fun pins s _ _ _ I h => h pins s I⟩
theorem tW.pt : PT X e (tW X e) := ⟨fun pins s _ _ _ I h => h pins s I⟩
theorem aW.pa : PA X es (aW X es) := ⟨fun pos pins s _ _ _ I h => h pos pins s I⟩
theorem sW.ps : PS X st (sW X st) := ⟨fun pins s _ _ _ I h => h pins s I⟩
theorem ssW.pss : PSs X sts (ssW X sts) := ⟨fun pins s _ _ _ I h => h pins s I⟩
theorem eW.of {t : TE} {Q : VK} (h : PE X e t) (q : t σ H Q) : eW X e σ H Q := fun pins s I => h.run pins s σ H Q I q
theorem tW.of {t : TT} {Q : Bool → Hp → Prop} (h : PT X e t) (q : t σ H Q) : tW X e σ H Q := fun pins s I => h.run pins s σ H Q I q
theorem aW.of {t : TA} {Q : List V → Hp → Prop} (h : PA X es t) (q : t σ H Q) : aW X es σ H Q := fun pos pins s I => h.run pos pins s σ H Q I q
theorem sW.of {t : TS} {D : Ends} (h : PS X st t) (q : t D σ H) : sW X st D σ H := fun pins s I => h.run pins s σ H D I q
theorem ssW.of {t : TS} {D : Ends} (h : PSs X sts t) (q : t D σ H) : ssW X sts D σ H := fun pins s I => h.run pins s σ H D I q
theorem eW.imp {Q Q' : VK} (h : eW X e σ H Q) (k : ∀ v H', Q v H' → Q' v H') : eW X e σ H Q' := fun pins s I => thn (h pins s I) fun _ _ ⟨v, H', I', r, q⟩ => ⟨v, H', I', r, k v H' q⟩
theorem tW.imp {Q Q' : Bool → Hp → Prop} (h : tW X e σ H Q) (k : ∀ v H', Q v H' → Q' v H') : tW X e σ H Q' := fun pins s I => thn (h pins s I) fun _ _ ⟨H', I', q⟩ => ⟨H', I', k _ H' q⟩
theorem aW.imp {Q Q' : List V → Hp → Prop} (h : aW X es σ H Q) (k : ∀ v H', Q v H' → Q' v H') : aW X es σ H Q' := fun pos pins s I => thn (h pos pins s I) fun _ _ ⟨v, H', I', r, q⟩ => ⟨v, H', I', r, k v H' q⟩
end
/-- how an exception of the class named er.c lies -/
def ErR (K : PySem.W.Frag) (Z : Hp) (cls : Value) (d : Option Addr) (er : Er) : Prop := cls = .ref (He.ga K er.c) ∧ match er.g with
  | none => d = none
  | some (nm, y) => ∃ dd v, d = some dd ∧ Z dd = some (.xd [(nm, v)]) ∧ Dx K Z v y
def XW (K : PySem.W.Frag) (C : Ct) (EX : KX) : WX := fun cls d σ H => ∃ env feet er, Wf K C C.PF σ H env feet [] ∧ ErR K (hid H (feet.flatten ++ [])) cls d er ∧ EX er env
/-- the exceptions wished are taken -/
def Tk (X : Cx) (C : Ct) (pf : List (V × PyData)) (EX : KX) : Prop := Takes X (XW X.K C EX) ∧ ∀ p ∈ C.PF, p ∈ pf
theorem Tk.sub {X : Cx} {C : Ct} {pf pf' : List (V × PyData)} {EX : KX} (t : Tk X C pf EX) (h : ∀ p ∈ pf, p ∈ pf') : Tk X C pf' EX := ⟨t.1, fun p hp => h p (t.2 p hp)⟩
theorem Tk.add {X : Cx} {C : Ct} {pf : List (V × PyData)} {EX : KX} {x : V × PyData} (t : Tk X C pf EX) : Tk X C (x :: pf) EX := t.sub fun p hp => List.mem_cons_of_mem _ hp
theorem Tk.addL {X : Cx} {C : Ct} {pf l : List (V × PyData)} {EX : KX} (t : Tk X C pf EX) : Tk X C (l ++ pf) EX := t.sub fun p hp => List.mem_append_right _ hp
theorem Tk.nev {X X' : Cx} {C : Ct} {pf pf' : List (V × PyData)} {EX : KX} (t : Tk X C pf EX) (h : ∀ p ∈ pf, p ∈ pf') : Tk X' C pf' (fun _ _ => False) := ⟨fun u s' ⟨_, _, _, _, _, _, _, _, _, _, _, _, _, _, _, _, _, _, _, _, _, z⟩ => z.elim, fun p hp => h p (t.2 p hp)⟩
def SE0 (X : Cx) (C : Ct) (e : Expr) (t : RE) : Prop := ∀ σ H pf env feet Q EX, Wf X.K C pf σ H env feet [] → Tk X C pf EX → t env Q EX → eW X e σ H (Po X.K C pf σ Q)
structure SE (X : Cx) (C : Ct) (e : Expr) (t : RE) : Prop where
  run : SE0 X C e t
instance {X : Cx} {C : Ct} {e : Expr} {t : RE} : CoeFun (SE X C e t) fun _ => ∀ σ H pf env feet Q EX, Wf X.K C pf σ H env feet [] → Tk X C pf EX → t env Q EX → eW X e σ H (Po X.K C pf σ Q) := ⟨fun h => h.run⟩
def SV0 (X : Cx) (C : Ct) (e : Expr) (t : RV) : Prop := ∀ σ H pf env feet Q EX, Wf X.K C pf σ H env feet [] → Tk X C pf EX → t env Q EX → eW X e σ H (Pv X.K C pf σ Q)
structure SV (X : Cx) (C : Ct) (e : Expr) (t : RV) : Prop where
  run : SV0 X C e t
instance {X : Cx} {C : Ct} {e : Expr} {t : RV} : CoeFun (SV X C e t) fun _ => ∀ σ H pf env feet Q EX, Wf X.K C pf σ H env feet [] → Tk X C pf EX → t env Q EX → eW X e σ H (Pv X.K C pf σ Q) := ⟨fun h => h.run⟩
def STs0 (X : Cx) (C : Ct) (e : Expr) (t : RT) : Prop := ∀ σ H pf env feet Q EX, Wf X.K C pf σ H env feet [] → Tk X C pf EX → t env Q EX → tW X e σ H (Pb X.K C pf σ Q)
structure STs (X : Cx) (C : Ct) (e : Expr) (t : RT) : Prop where
  run : STs0 X C e t
instance {X : Cx} {C : Ct} {e : Expr} {t : RT} : CoeFun (STs X C e t) fun _ => ∀ σ H pf env feet Q EX, Wf X.K C pf σ H env feet [] → Tk X C pf EX → t env Q EX → tW X e σ H (Pb X.K C pf σ Q) := ⟨fun h => h.run⟩
def SA0 (X : Cx) (C : Ct) (es : List Expr) (t : RA) : Prop := ∀ σ H pf env feet Q EX, Wf X.K C pf σ H env feet [] → Tk X C pf EX → t env Q EX → aW X es σ H (Pa X.K C pf σ Q)
structure SA (X : Cx) (C : Ct) (es : List Expr) (t : RA) : Prop where
  run : SA0 X C es t
instance {X : Cx} {C : Ct} {es : List Expr} {t : RA} : CoeFun (SA X C es t) fun _ => ∀ σ H pf env feet Q EX, Wf X.K C pf σ H env feet [] → Tk X C pf EX → t env Q EX → aW X es σ H (Pa X.K C pf σ Q) := ⟨fun h => h.run⟩
/-- what an expression gives, taken as a thing -/
def vl (t : RE) : RV := fun env Q EX => t env (fun r e => match r with
  | .fz d => Q d e
  | .nw (.ls ds) => Q (.list ds) e
  | .br i => (match e[i]? with
    | some (.ow (.ls ds)) => Q (.list ds) (e.set i (.fz (.list ds)))
    | _ => False)
  | _ => False) EX
def fzE (t : RV) : RE := fun env Q EX => t env (fun d e => Q (.fz d) e) EX
section
variable {X : Cx} {C : Ct} {e a b : Expr} {es : List Expr} {t ta tb : RE}
theorem SE.v (h : SE X C e t) : SV X C e (vl t) := .mk fun σ H pf env feet Q EX W tk q => (h σ H pf env feet _ EX W tk q).imp fun v H' ⟨r, env', feet', f, W', rr, q'⟩ => by
  cases r with
  | fz d =>
    obtain ⟨rfl, hd⟩ := rr
    exact ⟨d, env', feet', W', hd, q'⟩
  | nw o =>
    obtain ⟨p, rfl, ho⟩ := rr
    cases o with
    | ls ds =>
      obtain ⟨rfl, vs, hp, hv⟩ := ho
      have nd := W'.nd
      have np : p ∉ feet'.flatten ++ [] := fun m => by
        rw [List.append_nil] at m
        exact (List.nodup_append.mp nd).2.2 p m p (by simp) rfl
      have sm : Same (hid H' (feet'.flatten ++ [p])) (hid H' (feet'.flatten ++ [])) := hid_same fun x o n q => ⟨fun m => n (by
        rw [List.append_nil] at m; exact List.mem_append_left _ m), q⟩
      exact ⟨.list ds, env', feet', W'.drop, .lst (.inl (.inl (by rw [hid_out np]; exact hp))) (dxAll_mono sm hv), q'⟩
    | _ => exact False.elim q'
  | br i =>
    obtain ⟨rfl, hσ, o, ho⟩ := rr
    cases o with
    | ls ds =>
      have q2 : Q (.list ds) (env'.set i (.fz (.list ds))) := by
        have q3 : (match env'[i]? with
          | some (.ow (.ls ds)) => Q (.list ds) (env'.set i (.fz (.list ds)))
          | _ => False) := q'
        rw [ho] at q3
        exact q3
      have i1 : i < env'.length := (List.getElem?_eq_some_iff.mp ho).1
      have i3 : i < feet'.length := by rw [W'.rel.l2]; exact i1
      have hs := W'.rel.sl i _ _ _ hσ ho (List.getElem?_eq_getElem i3)
      obtain ⟨p, e1, hf, vs, hp, hv⟩ := hs
      cases e1
      have nd := W'.nd
      rw [List.append_nil] at nd
      have np : p ∉ (feet'.set i []).flatten := fun m => by
        obtain ⟨g, hg, hpg⟩ := List.mem_flatten.mp m
        obtain ⟨j, hj, e2⟩ := List.mem_iff_getElem.mp hg
        have e3 : (feet'.set i [])[j]? = some g := by rw [List.getElem?_eq_getElem hj, e2]
        by_cases ij : i = j
        · subst ij
          rw [List.getElem?_set_self i3] at e3
          cases e3
          cases hpg
        · rw [List.getElem?_set_ne ij] at e3
          exact ij (nodup_foot nd (List.getElem?_eq_getElem i3) e3 (by rw [hf]; simp) hpg)
      have sub : ∀ a, a ∈ (feet'.set i []).flatten → a ∈ feet'.flatten := fun a m => by
        rcases flatten_set_sub m with m | m
        · exact m
        · cases m
      have sm : Same (hid H' (feet'.flatten ++ [])) (hid H' ((feet'.set i []).flatten)) := hid_same fun a o n q => ⟨fun m => n (by
        rw [List.append_nil]; exact sub a m), q⟩
      have hd : Dx X.K (hid H' ((feet'.set i []).flatten)) (.ref p) (.list ds) := .lst (.inl (.inl (by rw [hid_out np]; exact hp))) (dxAll_mono sm hv)
      exact ⟨.list ds, _, _, W'.mode (s := .fz (.list ds)) hσ ⟨rfl, _, rfl, hd⟩, by rw [List.append_nil]; exact hd, q2⟩
    | _ =>
      have q3 : (match env'[i]? with
        | some (.ow (.ls ds)) => Q (.list ds) (env'.set i (.fz (.list ds)))
        | _ => False) := q'
      rw [ho] at q3
      exact q3.elim
  | xc c g => exact rr.elim
theorem SV.toE {t : RV} (h : SV X C e t) : SE X C e (fzE t) := .mk fun σ H pf env feet Q EX W tk q => (h σ H pf env feet _ EX W tk q).imp fun v H' ⟨d, env', feet', W', hd, q'⟩ => ⟨.fz d, env', feet', [], W', ⟨rfl, hd⟩, q'⟩
/-- what a pure operation leaves -/
def RsN (K : PySem.W.Frag) (F : List Addr) (H H' : Hp) (v : V) (r : Rs) (f : List Addr) : Prop := (∀ a ∈ f, H a = none) ∧ f.Nodup ∧ match r with
  | .fz d => f = [] ∧ Dx K (hid H' F) v d
  | .nw o => ∃ p, v = .ref p ∧ OwR K (hid H' (F ++ f)) H' p o f
  | _ => False
theorem Wf.pure {K : PySem.W.Frag} {pf : List (V × PyData)} {σ : L2.St} {H H' : Hp} {env : En} {feet : List (List Addr)} {v : V} {r : Rs} {f : List Addr} (W : Wf K C pf σ H env feet []) (sm : Same H H') (h : RsN K (feet.flatten ++ []) H H' v r f) :
    Wf K C pf σ H' env feet f ∧ RsR K (hid H' (feet.flatten ++ f)) H' σ env v r f := by
  obtain ⟨h1, h2, h3⟩ := h
  cases r with
  | fz d =>
    obtain ⟨rfl, hd⟩ := h3
    exact ⟨W.grow sm h1 h2 (fun a z => by cases z), rfl, hd⟩
  | nw o =>
    obtain ⟨p, rfl, ho⟩ := h3
    rw [List.append_nil] at ho
    exact ⟨W.grow sm h1 h2 ho.tr, p, rfl, ho⟩
  | br i => exact h3.elim
  | xc c g => exact h3.elim
/-- an operation by values, told of data -/
def OpD (K : PySem.W.Frag) (r : R2) (g : PyData → PyData → Option Rs) : Prop := ∀ F H x y d1 d2 rs Q, (∀ a ∈ F, H a ≠ none) → Dx K (hid H F) x d1 → Dx K (hid H F) y d2 → g d1 d2 = some rs → (∀ v H' f, Same H H' → RsN K F H H' v rs f → Q v H') → r x y H Q
def UnD (K : PySem.W.Frag) (r : V → Hp → VK → Prop) (g : PyData → Option Rs) : Prop := ∀ F H x d1 rs Q, (∀ a ∈ F, H a ≠ none) → Dx K (hid H F) x d1 → g d1 = some rs → (∀ v H' f, Same H H' → RsN K F H H' v rs f → Q v H') → r x H Q
def CallD (K : PySem.W.Frag) (r : List V → Hp → VK → Prop) (g : List PyData → Option Rs) : Prop := ∀ F H vs ds rs Q, (∀ a ∈ F, H a ≠ none) → DxAll K (hid H F) vs ds → g ds = some rs → (∀ v H' f, Same H H' → RsN K F H H' v rs f → Q v H') → r vs H Q
def eBin (g : PyData → PyData → Option Rs) (ta tb : RE) : RE := fun env Q EX => vl ta env (fun x e1 => vl tb e1 (fun y e2 => ∃ z, g x y = some z ∧ Q z e2) EX) EX
def eUn (g : PyData → Option Rs) (ta : RE) : RE := fun env Q EX => vl ta env (fun x e1 => ∃ z, g x = some z ∧ Q z e1) EX
theorem bin_core {r : R2} {g : PyData → PyData → Option Rs} (D : OpD X.K r g) (ha : SE X C a ta) (hb : SE X C b tb) {σ : L2.St} {H : Hp} {pf : List (V × PyData)} {env : En} {feet : List (List Addr)} {Q : Rs → En → Prop} {EX : KX}
    (W : Wf X.K C pf σ H env feet []) (tk : Tk X C pf EX) (q : eBin g ta tb env Q EX) {R : VK} (k : ∀ v H', Po X.K C pf σ Q v H' → R v H') : tOp r (eW X a) (eW X b) σ H R := by
  refine (ha.v σ H pf env feet _ EX W tk q).imp fun x H1 ⟨d1, e1, f1, W1, h1, q1⟩ => ?_
  refine (hb.v σ H1 ((x, d1) :: pf) e1 f1 _ EX (W1.pinned h1) tk.add q1).imp fun y H2 ⟨d2, e2, f2, W2, h2, z, hz, q2⟩ => ?_
  have p1 := W2.pin (x, d1) (by simp)
  refine D (f2.flatten ++ []) H2 x y d1 d2 z _ (fun a m => W2.rel.tr a (by rw [List.append_nil] at m; exact m)) p1 h2 hz fun v H' f sm hn => ?_
  obtain ⟨W3, h3⟩ := (W2.unpin fun p hp => List.mem_cons_of_mem _ hp).pure sm hn
  exact k v H' ⟨z, e2, f2, f, W3, h3, q2⟩
theorem se_bin {op : Operator} {pos : Pos} {r : R2} {g : PyData → PyData → Option Rs} (ho : OpR X (binaryOp op) r) (D : OpD X.K r g) (ha : SE X C a ta) (hb : SE X C b tb) : SE X C (.BinOp a op b pos) (eBin g ta tb) :=
  .mk fun σ H pf env feet Q EX W tk q => eW.of (pe_op ho eW.pe eW.pe) (bin_core D ha hb W tk q fun _ _ z => z)
theorem se_cmp {op : CmpOp} {pos : Pos} {r : R2} {g : PyData → PyData → Option Rs} (ho : OpR X (compareOp op) r) (D : OpD X.K r g) (ha : SE X C a ta) (hb : SE X C b tb) (hm : behindInMarks op b = false) : SE X C (.Compare a [op] [b] pos) (eBin g ta tb) :=
  .mk fun σ H pf env feet Q EX W tk q => eW.of (pe_cmpR ho eW.pe eW.pe hm) (bin_core D ha hb W tk q fun _ _ z => z)
theorem se_un {op : UnaryOp} {pos : Pos} {r : V → Hp → VK → Prop} {g : PyData → Option Rs} (ho : UnR X (unaryOp op) r) (D : UnD X.K r g) (ha : SE X C a ta) : SE X C (.UnaryOp op a pos) (eUn g ta) :=
  .mk fun σ H pf env feet Q EX W tk q => by
    refine eW.of (pe_un ho eW.pe) ?_
    refine (ha.v σ H pf env feet _ EX W tk q).imp fun x H1 ⟨d1, e1, f1, W1, h1, z, hz, q1⟩ => ?_
    refine D (f1.flatten ++ []) H1 x d1 z _ (fun a m => W1.rel.tr a (by rw [List.append_nil] at m; exact m)) h1 hz fun v H' f sm hn => ?_
    obtain ⟨W3, h3⟩ := W1.pure sm hn
    exact ⟨z, e1, f1, f, W3, h3, q1⟩
theorem se_ix {pos : Pos} {r : R2} {g : PyData → PyData → Option Rs} (ho : IxR X r) (D : OpD X.K r g) (ha : SE X C a ta) (hb : SE X C b tb) (hs : PlainIx b := by exact fun _ _ => rfl) : SE X C (.Subscript a b pos) (eBin g ta tb) :=
  .mk fun σ H pf env feet Q EX W tk q => eW.of (pe_ix ho eW.pe eW.pe hs) (bin_core D ha hb W tk q fun _ _ z => z)
/-! names, constants -/
def rN (i : Nat) : RE := fun env Q _ => match env[i]? with
  | some (.fz d) => Q (.fz d) env
  | some (.ow _) => Q (.br i) env
  | some (.xc c g) => Q (.xc c g) env
  | _ => False
def rC (d : PyData) : RE := fun env Q _ => Q (.fz d) env
theorem se_name (i : Nat) {x : Str} {pos : Pos} (hN : X.N[i]? = some x := by rfl) (hv : Vis X.env.scope x := by first | exact Or.inl rfl | exact Or.inr (Or.inl rfl) | exact Or.inr (Or.inr rfl)) (hd : (x == ("__debug__" : Str)) = false := by decide)
    (hcd : (x == ("__classdict__" : Str)) = false := by decide) : SE X C (.Name x pos) (rN i) := .mk fun σ H pf env feet Q EX W tk q => by
  refine eW.of (pe_var hN hv hd hcd) ?_
  cases he : env[i]? with
  | none =>
    have q' : (match env[i]? with
      | some (.fz d) => Q (.fz d) env
      | some (.ow _) => Q (.br i) env
      | some (.xc c g) => Q (.xc c g) env
      | _ => False) := q
    rw [he] at q'
    exact q'.elim
  | some sl =>
    have q' : (match env[i]? with
      | some (.fz d) => Q (.fz d) env
      | some (.ow _) => Q (.br i) env
      | some (.xc c g) => Q (.xc c g) env
      | _ => False) := q
    rw [he] at q'
    have i1 : i < env.length := (List.getElem?_eq_some_iff.mp he).1
    have i2 : i < σ.length := by rw [W.rel.l1]; exact i1
    have i3 : i < feet.length := by rw [W.rel.l2]; exact i1
    have hs := W.rel.sl i _ _ _ (List.getElem?_eq_getElem i2) he (List.getElem?_eq_getElem i3)
    cases sl with
    | un => exact q'.elim
    | fz d =>
      obtain ⟨hf, x, hx, hd⟩ := hs
      exact ⟨x, by rw [List.getElem?_eq_getElem i2, hx], .fz d, env, feet, [], W, ⟨rfl, hd⟩, q'⟩
    | ow o =>
      obtain ⟨p, hx, hd⟩ := hs
      have hx' : σ[i]? = some (some (.ref p)) := by rw [List.getElem?_eq_getElem i2, hx]
      exact ⟨.ref p, hx', .br i, env, feet, [], W, ⟨rfl, hx', o, he⟩, q'⟩
    | xc c g => exact hs.elim
theorem se_c {v : V} {d : PyData} (h : PE X e (tC v)) (hd : ∀ Z, Dx X.K Z v d) : SE X C e (rC d) := .mk fun σ H pf env feet Q EX W tk q => eW.of h ⟨.fz d, env, feet, [], W, ⟨rfl, hd _⟩, q⟩
theorem se_int {i j pos} : SE X C (.Constant (.int i) j pos) (rC (.int i)) := se_c pe_int fun _ => .int i
theorem se_bl {i j pos} : SE X C (.Constant (.bool i) j pos) (rC (.bool i)) := se_c pe_bl fun _ => .bl i
theorem se_non {j pos} : SE X C (.Constant .none j pos) (rC .none) := se_c pe_non fun _ => .non
theorem se_str {i j pos} : SE X C (.Constant (.str i) j pos) (rC (.str i)) := se_c pe_str fun _ => .str i
/-- a constant of the module -/
theorem se_glob {x : Str} {pos : Pos} {v : V} {u : Value} {d : PyData} (hg : Gl X x) (hm : X.mg x = some u) (r : RelV v u) (hd : ∀ Z, Dx X.K Z v d) (hdb : (x == ("__debug__" : Str)) = false := by decide) : SE X C (.Name x pos) (rC d) := se_c (pe_glob hg hm r hdb) hd
/-! arguments -/
def aN : RA := fun env Q _ => Q [] env
def aC (ta : RE) (tr : RA) : RA := fun env Q EX => vl ta env (fun d e => tr e (fun ds e' => Q (d :: ds) e') EX) EX
theorem sa_nil : SA X C [] aN := .mk fun σ H pf env feet Q EX W tk q => aW.of pa_nil ⟨[], env, feet, W, .nil, q⟩
theorem sa_cons {tr : RA} (ha : SE X C a ta) (hr : SA X C es tr) (hs : starEach (a :: es) X.env = (false, eval a X.env) :: starEach es X.env := by rfl) : SA X C (a :: es) (aC ta tr) := .mk fun σ H pf env feet Q EX W tk q => by
  refine aW.of (pa_cons eW.pe aW.pa hs) ?_
  refine (ha.v σ H pf env feet _ EX W tk q).imp fun x H1 ⟨d1, e1, f1, W1, h1, q1⟩ => ?_
  refine (hr σ H1 ((x, d1) :: pf) e1 f1 _ EX (W1.pinned h1) tk.add q1).imp fun vs H2 ⟨ds, e2, f2, W2, h2, q2⟩ => ?_
  exact ⟨d1 :: ds, e2, f2, W2.unpin fun p hp => List.mem_cons_of_mem _ hp, .cons (W2.pin (x, d1) (by simp)) h2, q2⟩
def eArgs (g : List PyData → Option Rs) (ta : RA) : RE := fun env Q EX => ta env (fun ds e => ∃ z, g ds = some z ∧ Q z e) EX
theorem args_core {r : List V → Hp → VK → Prop} {g : List PyData → Option Rs} {t : RA} (D : CallD X.K r g) (ha : SA X C es t) {σ : L2.St} {H : Hp} {pf : List (V × PyData)} {env : En} {feet : List (List Addr)} {Q : Rs → En → Prop} {EX : KX}
    (W : Wf X.K C pf σ H env feet []) (tk : Tk X C pf EX) (q : eArgs g t env Q EX) : tCB r (aW X es) σ H (Po X.K C pf σ Q) := by
  refine (ha σ H pf env feet _ EX W tk q).imp fun vs H1 ⟨ds, e1, f1, W1, h1, z, hz, q1⟩ => ?_
  refine D (f1.flatten ++ []) H1 vs ds z _ (fun a m => W1.rel.tr a (by rw [List.append_nil] at m; exact m)) h1 hz fun v H' f sm hn => ?_
  obtain ⟨W3, h3⟩ := W1.pure sm hn
  exact ⟨z, e1, f1, f, W3, h3, q1⟩
theorem se_callB {x : Str} {p pos : Pos} {id : String} {r : List V → Hp → VK → Prop} {g : List PyData → Option Rs} {t : RA} (hc : CallR X (.builtin id) r) (D : CallD X.K r g) (hg : Gl X x) (hm : X.mg x = none) (hv : bootBuiltins x = some (.builtin id)) (ha : SA X C (a :: es) t) (hn : x ≠ "__name__" := by decide)
    (hdb : (x == ("__debug__" : Str)) = false := by decide) (he : starEach (a :: es) X.env = (false, eval a X.env) :: starEach es X.env := by rfl) (hpl : (backTo pos (starEach es X.env)).any (·.1) = false := by rfl) : SE X C (.Call (.Name x p) (a :: es) [] pos) (eArgs g t) :=
  .mk fun σ H pf env feet Q EX W tk q => eW.of (pe_callB hc hg hm hv aW.pa hn hdb he hpl) (args_core D ha W tk q)
theorem se_callTy {x : Str} {p pos : Pos} {T : String} {r : List V → Hp → VK → Prop} {g : List PyData → Option Rs} {t : RA} (hc : CallR X (.type T) r) (D : CallD X.K r g) (hg : Gl X x) (hm : X.mg x = none) (hv : bootBuiltins x = some (.type T)) (ha : SA X C (a :: es) t) (hn : x ≠ "__name__" := by decide)
    (hdb : (x == ("__debug__" : Str)) = false := by decide) (he : starEach (a :: es) X.env = (false, eval a X.env) :: starEach es X.env := by rfl) (hpl : (backTo pos (starEach es X.env)).any (·.1) = false := by rfl) : SE X C (.Call (.Name x p) (a :: es) [] pos) (eArgs g t) :=
  .mk fun σ H pf env feet Q EX W tk q => eW.of (pe_callTy hc hg hm hv aW.pa hn hdb he hpl) (args_core D ha W tk q)
/-! displays -/
theorem same_new {H : Hp} {p : Addr} {o : HO} (h : H p = none) : Same H (upd H p o) := fun a u e => by rw [upd_ne (ne_of_none e h)]; exact e
theorem hid_upd_mem {H : Hp} {F : List Addr} {p : Addr} {o : HO} (h : p ∈ F) : hid (upd H p o) F = hid H F := funext fun a => by
  by_cases m : a ∈ F
  · rw [hid_in m, hid_in m]
  · rw [hid_out m, hid_out m, upd_ne (fun e => m (by rw [e]; exact h))]
theorem hid_upd {H : Hp} {F : List Addr} {p : Addr} {o : HO} (h : p ∉ F) : hid (upd H p o) F = upd (hid H F) p o := funext fun a => by
  by_cases m : a ∈ F
  · rw [hid_in m, upd_ne (fun e => h (by rw [← e]; exact m)), hid_in m]
  · rw [hid_out m]
    by_cases e : a = p
    · rw [e, upd_same, upd_same]
    · rw [upd_ne e, upd_ne e, hid_out m]
theorem hid_cons {H : Hp} {F : List Addr} {p : Addr} (h : H p = none) : hid H (F ++ [p]) = hid H F := funext fun a => by
  by_cases m : a ∈ F
  · rw [hid_in m, hid_in (List.mem_append_left _ m)]
  · rw [hid_out m]
    by_cases e : a = p
    · rw [hid_in (by rw [e]; simp), e, h]
    · rw [hid_out (by simp [m, e])]
/-- a new tuple, a new list -/
theorem rsn_tup {K : PySem.W.Frag} {F : List Addr} {H : Hp} {p : Addr} {vs : List V} {ds : List PyData} (tr : ∀ a ∈ F, H a ≠ none) (hp : H p = none) (h : DxAll K (hid H F) vs ds) : RsN K F H (upd H p (.tup vs)) (.ref p) (.fz (.tuple ds)) [] := by
  have np : p ∉ F := fun m => tr p m hp
  have hn : hid H F p = none := by rw [hid_out np, hp]
  refine ⟨by simp, by simp, rfl, ?_⟩
  rw [hid_upd np]
  exact .tup (.inl (.inl upd_same)) (dxAll_mono (same_new hn) h)
theorem rsn_lst {K : PySem.W.Frag} {F : List Addr} {H : Hp} {p : Addr} {vs : List V} {ds : List PyData} (hp : H p = none) (h : DxAll K (hid H F) vs ds) : RsN K F H (upd H p (.lst vs)) (.ref p) (.nw (.ls ds)) [p] := by
  refine ⟨by simpa using hp, by simp, p, rfl, rfl, vs, upd_same, ?_⟩
  rw [hid_upd_mem (by simp), hid_cons hp]
  exact h
theorem rsn_v {K : PySem.W.Frag} {F : List Addr} {H : Hp} {v : V} {d : PyData} (h : Dx K (hid H F) v d) : RsN K F H H v (.fz d) [] := ⟨by simp, by simp, rfl, h⟩
def eTup (t : RA) : RE := fun env Q EX => t env (fun ds e => ds.length ≤ sizeLine ∧ Q (.fz (.tuple ds)) e) EX
def eLst (t : RA) : RE := fun env Q EX => t env (fun ds e => ds.length ≤ sizeLine ∧ Q (.nw (.ls ds)) e) EX
theorem se_tup {x1} {pos : Pos} {t : RA} (h : SA X C es t) : SE X C (.Tuple es x1 pos) (eTup t) := .mk fun σ H pf env feet Q EX W tk q => by
  refine eW.of (pe_tup aW.pa) ?_
  refine (h σ H pf env feet _ EX W tk q).imp fun vs H1 ⟨ds, e1, f1, W1, h1, hl, q1⟩ => ⟨by rw [h1.lenD]; exact hl, fun p hp => ?_⟩
  obtain ⟨W2, h2⟩ := W1.pure (same_new hp) (rsn_tup (fun a m => W1.rel.tr a (by rw [List.append_nil] at m; exact m)) hp h1)
  exact ⟨_, e1, f1, _, W2, h2, q1⟩
theorem se_lst {pos : Pos} {t : RA} (h : SA X C es t) : SE X C (.List es pos) (eLst t) := .mk fun σ H pf env feet Q EX W tk q => by
  refine eW.of (pe_lst aW.pa) ?_
  refine (h σ H pf env feet _ EX W tk q).imp fun vs H1 ⟨ds, e1, f1, W1, h1, hl, q1⟩ => ⟨by rw [h1.lenD]; exact hl, fun p hp => ?_⟩
  obtain ⟨W2, h2⟩ := W1.pure (same_new hp) (rsn_lst hp h1)
  exact ⟨_, e1, f1, _, W2, h2, q1⟩
/-! tests -/
def cV (t : RE) : RT := fun env Q EX => vl t env (fun d e => ∃ b, d = .bool b ∧ Q b e) EX
def cAnd (t u : RT) : RT := fun env Q EX => t env (fun b e => if b = true then u e Q EX else Q false e) EX
def cOr (t u : RT) : RT := fun env Q EX => t env (fun b e => if b = true then Q true e else u e Q EX) EX
def cNot (t : RT) : RT := fun env Q EX => t env (fun b e => Q (!b) e) EX
theorem st_val (h : SE X C e t) (he : ∀ whole, isTrue e X.env whole = (do let v ← whole; standAt e.pos; holding [v] (truthy v)) := by intro _; rfl) : STs X C e (cV t) := .mk fun σ H pf env feet Q EX W tk q => by
  refine tW.of (pt_val eW.pe he) ?_
  refine (h.v σ H pf env feet _ EX W tk q).imp fun v H1 ⟨d, e1, f1, W1, h1, b, hb, q1⟩ => ?_
  subst hb
  cases h1
  exact ⟨b, rfl, e1, f1, W1, q1⟩
theorem pv_bool {K : PySem.W.Frag} {pf : List (V × PyData)} {σ : L2.St} {Q : Bool → En → Prop} {v : V} {H' : Hp} (hq : Po K C pf σ (fun r e => match r with
  | .fz d => ∃ b, d = .bool b ∧ Q b e
  | .nw (.ls ds) => ∃ b, PyData.list ds = .bool b ∧ Q b e
  | .br i => (match e[i]? with
    | some (.ow (.ls ds)) => ∃ b, PyData.list ds = .bool b ∧ Q b (e.set i (.fz (.list ds)))
    | _ => False)
  | _ => False) v H') : ∃ k, v = .bl k ∧ Pb K C pf σ Q k H' := by
  obtain ⟨r, env, feet, f, W, rr, q⟩ := hq
  cases r with
  | fz d =>
    obtain ⟨b, rfl, q⟩ := q
    obtain ⟨rfl, hd⟩ := rr
    cases hd
    exact ⟨b, rfl, env, feet, W, q⟩
  | nw o =>
    cases o with
    | ls ds => obtain ⟨b, e, _⟩ := q; cases e
    | _ => exact False.elim q
  | br i =>
    exfalso
    obtain ⟨_, _, o, ho⟩ := rr
    have q' : (match env[i]? with
      | some (.ow (.ls ds)) => ∃ b, PyData.list ds = .bool b ∧ Q b (env.set i (.fz (.list ds)))
      | _ => False) := q
    rw [ho] at q'
    cases o with
    | ls ds => obtain ⟨b, e, _⟩ := q'; cases e
    | _ => exact False.elim q'
  | xc c g => exact rr.elim
theorem st_cmp {op : CmpOp} {pos : Pos} {r : R2} {g : PyData → PyData → Option Rs} (ho : OpR X (compareOp op) r) (D : OpD X.K r g) (ha : SE X C a ta) (hb : SE X C b tb) (hm : behindInMarks op b = false) : STs X C (.Compare a [op] [b] pos) (cV (eBin g ta tb)) := .mk fun σ H pf env feet Q EX W tk q => by
  refine tW.of (pt_cmpR ho eW.pe eW.pe hm) (bin_core D ha hb W tk q fun v H' hq => ?_)
  exact pv_bool hq
end
end L3
end

section
set_option autoImplicit true
set_option Elab.async false
set_option linter.all false
set_option maxRecDepth 100000
set_option maxHeartbeats 1000000
/-! L3 part c: and, or, not, if-else, chains, slices, statements. -/
namespace L3
open PySem PySem.Spec PyProof.Rows L2
/-- a test whatever its whole is -/
def wW (X : Cx) (e : Expr) : TT := fun σ H Q => ∀ whole pins s, Inv X pins σ H s → wpAny (model X.prog X.w) X.A (isTrue e X.env whole) (TP X pins σ Q) X.xe s
def SW0 (X : Cx) (C : Ct) (e : Expr) (t : RT) : Prop := ∀ σ H pf env feet Q EX, Wf X.K C pf σ H env feet [] → Tk X C pf EX → t env Q EX → wW X e σ H (Pb X.K C pf σ Q)
structure SW (X : Cx) (C : Ct) (e : Expr) (t : RT) : Prop where
  run : SW0 X C e t
instance {X : Cx} {C : Ct} {e : Expr} {t : RT} : CoeFun (SW X C e t) fun _ => ∀ σ H pf env feet Q EX, Wf X.K C pf σ H env feet [] → Tk X C pf EX → t env Q EX → wW X e σ H (Pb X.K C pf σ Q) := ⟨fun h => h.run⟩
section
variable {X : Cx} {C : Ct} {e a b c : Expr} {es : List Expr} {t ta tb tc : RE} {u ua ub : RT} {pos : Pos} {rest : List Expr}
theorem wW.pw : PW X e (wW X e) := ⟨fun wh pins s _ _ _ I h => h wh pins s I⟩
theorem SW.st (h : SW X C e u) : STs X C e u := .mk fun σ H pf env feet Q EX W tk q pins s I => h σ H pf env feet Q EX W tk q _ pins s I
theorem wW.of {t : TT} {σ : L2.St} {H : Hp} {Q : Bool → Hp → Prop} (h : PW X e t) (q : t σ H Q) : wW X e σ H Q := fun wh pins s I => h.run wh pins s σ H Q I q
theorem sw_and1 (ha : STs X C a ua) : SW X C (.BoolOp .And [a] pos) ua := .mk fun σ H pf env feet Q EX W tk q => wW.of (pw_and1 tW.pt) (ha σ H pf env feet Q EX W tk q)
theorem sw_or1 (ha : STs X C a ua) : SW X C (.BoolOp .Or [a] pos) ua := .mk fun σ H pf env feet Q EX W tk q => wW.of (pw_or1 tW.pt) (ha σ H pf env feet Q EX W tk q)
theorem wW.imp {σ : L2.St} {H : Hp} {Q Q' : Bool → Hp → Prop} (h : wW X e σ H Q) (k : ∀ v H', Q v H' → Q' v H') : wW X e σ H Q' := fun wh pins s I => thn (h wh pins s I) fun _ _ ⟨H', I', q⟩ => ⟨H', I', k _ H' q⟩
theorem sw_and (ha : STs X C a ua) (hb : SW X C (.BoolOp .And (b :: rest) pos) ub) : SW X C (.BoolOp .And (a :: b :: rest) pos) (cAnd ua ub) := .mk fun σ H pf env feet Q EX W tk q => by
  refine wW.of (pw_and tW.pt wW.pw) ?_
  refine (ha σ H pf env feet _ EX W tk q).imp fun k H1 ⟨e1, f1, W1, q1⟩ => ?_
  cases k with
  | true => exact hb σ H1 pf e1 f1 Q EX W1 tk q1
  | false => exact ⟨e1, f1, W1, q1⟩
theorem sw_or (ha : STs X C a ua) (hb : SW X C (.BoolOp .Or (b :: rest) pos) ub) : SW X C (.BoolOp .Or (a :: b :: rest) pos) (cOr ua ub) := .mk fun σ H pf env feet Q EX W tk q => by
  refine wW.of (pw_or tW.pt wW.pw) ?_
  refine (ha σ H pf env feet _ EX W tk q).imp fun k H1 ⟨e1, f1, W1, q1⟩ => ?_
  cases k with
  | true => exact ⟨e1, f1, W1, q1⟩
  | false => exact hb σ H1 pf e1 f1 Q EX W1 tk q1
theorem st_not (ha : STs X C a ua) : STs X C (.UnaryOp .Not a pos) (cNot ua) := .mk fun σ H pf env feet Q EX W tk q => tW.of (pt_not tW.pt) (ha σ H pf env feet (fun b e => Q (!b) e) EX W tk q)
/-! as values -/
def eAnd (ta tb : RE) : RE := fun env Q EX => vl ta env (fun d e => ∃ b, d = .bool b ∧ if b = true then tb e Q EX else Q (.fz (.bool false)) e) EX
def eOr (ta tb : RE) : RE := fun env Q EX => vl ta env (fun d e => ∃ b, d = .bool b ∧ if b = true then Q (.fz (.bool true)) e else tb e Q EX) EX
def eNot (ta : RE) : RE := fun env Q EX => vl ta env (fun d e => ∃ b, d = .bool b ∧ Q (.fz (.bool (!b))) e) EX
def eIf (tc : RT) (ta tb : RE) : RE := fun env Q EX => tc env (fun b e => if b = true then ta e Q EX else tb e Q EX) EX
theorem se_one {op} (ha : SE X C a ta) : SE X C (.BoolOp op [a] pos) ta := .mk fun σ H pf env feet Q EX W tk q => eW.of (pe_one eW.pe) (ha σ H pf env feet Q EX W tk q)
theorem se_and (ha : SE X C a ta) (hb : SE X C (.BoolOp .And (b :: rest) pos) tb) : SE X C (.BoolOp .And (a :: b :: rest) pos) (eAnd ta tb) := .mk fun σ H pf env feet Q EX W tk q => by
  refine eW.of (pe_and eW.pe eW.pe) ?_
  refine (ha.v σ H pf env feet _ EX W tk q).imp fun v H1 ⟨d, e1, f1, W1, h1, k, hk, q1⟩ => ?_
  subst hk
  cases h1
  refine ⟨k, rfl, ?_⟩
  cases k with
  | true => exact hb σ H1 pf e1 f1 Q EX W1 tk q1
  | false => exact ⟨.fz (.bool false), e1, f1, [], W1, ⟨rfl, .bl _⟩, q1⟩
theorem se_or (ha : SE X C a ta) (hb : SE X C (.BoolOp .Or (b :: rest) pos) tb) : SE X C (.BoolOp .Or (a :: b :: rest) pos) (eOr ta tb) := .mk fun σ H pf env feet Q EX W tk q => by
  refine eW.of (pe_or eW.pe eW.pe) ?_
  refine (ha.v σ H pf env feet _ EX W tk q).imp fun v H1 ⟨d, e1, f1, W1, h1, k, hk, q1⟩ => ?_
  subst hk
  cases h1
  refine ⟨k, rfl, ?_⟩
  cases k with
  | true => exact ⟨.fz (.bool true), e1, f1, [], W1, ⟨rfl, .bl _⟩, q1⟩
  | false => exact hb σ H1 pf e1 f1 Q EX W1 tk q1
theorem se_not (ha : SE X C a ta) : SE X C (.UnaryOp .Not a pos) (eNot ta) := .mk fun σ H pf env feet Q EX W tk q => by
  refine eW.of (pe_not eW.pe) ?_
  refine (ha.v σ H pf env feet _ EX W tk q).imp fun v H1 ⟨d, e1, f1, W1, h1, k, hk, q1⟩ => ?_
  subst hk
  cases h1
  exact ⟨k, rfl, .fz (.bool (!k)), e1, f1, [], W1, ⟨rfl, .bl _⟩, q1⟩
theorem se_if (hc : STs X C c u) (ha : SE X C a ta) (hb : SE X C b tb) : SE X C (.IfExp c a b pos) (eIf u ta tb) := .mk fun σ H pf env feet Q EX W tk q => by
  refine eW.of (pe_ifExp tW.pt eW.pe eW.pe) ?_
  refine (hc σ H pf env feet _ EX W tk q).imp fun k H1 ⟨e1, f1, W1, q1⟩ => ?_
  cases k with
  | true => exact ha σ H1 pf e1 f1 Q EX W1 tk q1
  | false => exact hb σ H1 pf e1 f1 Q EX W1 tk q1
/-! a < b < c -/
def eChain (g g' : PyData → PyData → Option Rs) (ta tb tc : RE) : RE := fun env Q EX => vl ta env (fun x e1 => vl tb e1 (fun y e2 => ∃ k, g x y = some (.fz (.bool k)) ∧ if k = true then vl tc e2 (fun z e3 => ∃ r, g' y z = some r ∧ Q r e3) EX else Q (.fz (.bool false)) e2) EX) EX
theorem chain_core {r r' : R2} {g g' : PyData → PyData → Option Rs} (D : OpD X.K r g) (D' : OpD X.K r' g') (ha : SE X C a ta) (hb : SE X C b tb) (hc : SE X C c tc) {σ : L2.St} {H : Hp} {pf : List (V × PyData)} {env : En} {feet : List (List Addr)} {Q : Rs → En → Prop} {EX : KX}
    (W : Wf X.K C pf σ H env feet []) (tk : Tk X C pf EX) (q : eChain g g' ta tb tc env Q EX) {R : VK} (k : ∀ v H', Po X.K C pf σ Q v H' → R v H') : tChain r r' (eW X a) (eW X b) (eW X c) σ H R := by
  refine (ha.v σ H pf env feet _ EX W tk q).imp fun x H1 ⟨d1, e1, f1, W1, h1, q1⟩ => ?_
  refine (hb.v σ H1 ((x, d1) :: pf) e1 f1 _ EX (W1.pinned h1) tk.add q1).imp fun y H2 ⟨d2, e2, f2, W2, h2, z, hz, q2⟩ => ?_
  have p1 := W2.pin (x, d1) (by simp)
  refine D (f2.flatten ++ []) H2 x y d1 d2 _ _ (fun a m => W2.rel.tr a (by rw [List.append_nil] at m; exact m)) p1 h2 hz fun v H3 f sm hn => ?_
  have W2' := W2.unpin (pf' := pf) fun p hp => List.mem_cons_of_mem _ hp
  obtain ⟨n1, n2, rfl, hd⟩ := hn
  have W3 : Wf X.K C pf σ H3 e2 f2 [] := W2'.grow sm (by simp) (by simp) (by simp)
  have h2' : Dx X.K (hid H3 (f2.flatten ++ [])) y d2 := dx_mono (hid_same fun a o n q => ⟨n, sm a o q⟩) h2
  cases hd
  refine ⟨z, rfl, ?_⟩
  cases z with
  | false => exact k _ _ ⟨.fz (.bool false), e2, f2, [], W3, ⟨rfl, .bl _⟩, q2⟩
  | true =>
    refine (hc.v σ H3 ((y, d2) :: pf) e2 f2 _ EX (W3.pinned h2') tk.add q2).imp fun w H4 ⟨d3, e4, f4, W4, h4, r3, hr3, q4⟩ => ?_
    have p2 := W4.pin (y, d2) (by simp)
    refine D' (f4.flatten ++ []) H4 y w d2 d3 _ _ (fun a m => W4.rel.tr a (by rw [List.append_nil] at m; exact m)) p2 h4 hr3 fun v H5 f sm hn => ?_
    obtain ⟨W5, h5⟩ := (W4.unpin fun p hp => List.mem_cons_of_mem _ hp).pure sm hn
    exact k v H5 ⟨r3, e4, f4, f, W5, h5, q4⟩
theorem se_chain {op op' : CmpOp} {r r' : R2} {g g' : PyData → PyData → Option Rs} (ho : OpR X (compareOp op) r) (ho' : OpR X (compareOp op') r') (D : OpD X.K r g) (D' : OpD X.K r' g') (ha : SE X C a ta) (hb : SE X C b tb) (hc : SE X C c tc)
    (hm : lastMarks [op, op'] [b, c] = false := by with_unfolding_all rfl) : SE X C (.Compare a [op, op'] [b, c] pos) (eChain g g' ta tb tc) :=
  .mk fun σ H pf env feet Q EX W tk q => eW.of (pe_chain ho ho' eW.pe eW.pe eW.pe hm) (chain_core D D' ha hb hc W tk q fun _ _ z => z)
theorem st_chain {op op' : CmpOp} {r r' : R2} {g g' : PyData → PyData → Option Rs} (ho : OpR X (compareOp op) r) (ho' : OpR X (compareOp op') r') (D : OpD X.K r g) (D' : OpD X.K r' g') (ha : SE X C a ta) (hb : SE X C b tb) (hc : SE X C c tc)
    (hm : lastMarks [op, op'] [b, c] = false := by with_unfolding_all rfl) : STs X C (.Compare a [op, op'] [b, c] pos) (cV (eChain g g' ta tb tc)) :=
  .mk fun σ H pf env feet Q EX W tk q => tW.of (pt_chain ho ho' eW.pe eW.pe eW.pe hm) (chain_core D D' ha hb hc W tk q fun _ _ z => pv_bool z)
/-! slices -/
def SlD (K : PySem.W.Frag) (r : V → Option Int → Option Int → Hp → VK → Prop) (g : PyData → Option Int → Option Int → Option Rs) : Prop := ∀ F H x d lo hi rs Q, (∀ a ∈ F, H a ≠ none) → Dx K (hid H F) x d → g d lo hi = some rs → (∀ v H' f, Same H H' → RsN K F H H' v rs f → Q v H') → r x lo hi H Q
abbrev RO := En → (Option Int → En → Prop) → KX → Prop
def oW (X : Cx) (e : Option Expr) : TO := fun σ H Q => ∀ pins s, Inv X pins σ H s → wpAny (model X.prog X.w) X.A (evalPart e X.env) (fun u s' => ∃ o H', Inv X pins σ H' s' ∧ IsPart u o ∧ Q o H') X.xe s
def SO0 (X : Cx) (C : Ct) (e : Option Expr) (t : RO) : Prop := ∀ σ H pf env feet Q EX, Wf X.K C pf σ H env feet [] → Tk X C pf EX → t env Q EX → oW X e σ H (fun o H' => ∃ env' feet', Wf X.K C pf σ H' env' feet' [] ∧ Q o env')
structure SO (X : Cx) (C : Ct) (e : Option Expr) (t : RO) : Prop where
  run : SO0 X C e t
instance {X : Cx} {C : Ct} {e : Option Expr} {t : RO} : CoeFun (SO X C e t) fun _ => ∀ σ H pf env feet Q EX, Wf X.K C pf σ H env feet [] → Tk X C pf EX → t env Q EX → oW X e σ H (fun o H' => ∃ env' feet', Wf X.K C pf σ H' env' feet' [] ∧ Q o env') := ⟨fun h => h.run⟩
theorem oW.po {e : Option Expr} : PO X e (oW X e) := ⟨fun pins s _ _ _ I h => h pins s I⟩
def oN : RO := fun env Q _ => Q none env
def oS (t : RE) : RO := fun env Q EX => vl t env (fun d e => ∃ i, d = .int i ∧ Q (some i) e) EX
theorem so_none : SO X C none oN := .mk fun σ H pf env feet Q EX W tk q pins s I => (po_none (X := X)).run pins s σ H _ I ⟨env, feet, W, q⟩
theorem so_some (h : SE X C e t) : SO X C (some e) (oS t) := .mk fun σ H pf env feet Q EX W tk q pins s I => by
  refine (po_some (X := X) eW.pe).run pins s σ H _ I ?_
  refine (h.v σ H pf env feet _ EX W tk q).imp fun v H1 ⟨d, e1, f1, W1, h1, k, hk, q1⟩ => ?_
  subst hk
  cases h1
  exact ⟨k, rfl, e1, f1, W1, q1⟩
theorem oW.imp {e : Option Expr} {σ : L2.St} {H : Hp} {Q Q' : Option Int → Hp → Prop} (h : oW X e σ H Q) (k : ∀ v H', Q v H' → Q' v H') : oW X e σ H Q' := fun pins s I => thn (h pins s I) fun _ _ ⟨o, H', I', p, q⟩ => ⟨o, H', I', p, k o H' q⟩
def eSl (g : PyData → Option Int → Option Int → Option Rs) (ta : RE) (tl th : RO) : RE := fun env Q EX => vl ta env (fun d e => tl e (fun lo e1 => th e1 (fun hi e2 => ∃ r, g d lo hi = some r ∧ Q r e2) EX) EX) EX
theorem se_slice {lo hi : Option Expr} {tl th : RO} {p2 : Pos} {r : V → Option Int → Option Int → Hp → VK → Prop} {g : PyData → Option Int → Option Int → Option Rs} (hr : L2.SlR X r) (D : SlD X.K r g) (he : SE X C e t) (hl : SO X C lo tl) (hh : SO X C hi th) : SE X C (.Subscript e (.Slice lo hi none p2) pos) (eSl g t tl th) := .mk fun σ H pf env feet Q EX W tk q => by
  refine eW.of (pe_slice hr eW.pe oW.po oW.po) ?_
  refine (he.v σ H pf env feet _ EX W tk q).imp fun x H1 ⟨d, e1, f1, W1, h1, q1⟩ => ?_
  refine (hl σ H1 ((x, d) :: pf) e1 f1 _ EX (W1.pinned h1) tk.add q1).imp fun l H2 ⟨e2, f2, W2, q2⟩ => ?_
  refine (hh σ H2 ((x, d) :: pf) e2 f2 _ EX W2 tk.add q2).imp fun h H3 ⟨e3, f3, W3, rs, hrs, q3⟩ => ?_
  have p1 := W3.pin (x, d) (by simp)
  refine D (f3.flatten ++ []) H3 x d l h rs _ (fun a m => W3.rel.tr a (by rw [List.append_nil] at m; exact m)) p1 hrs fun v H' f sm hn => ?_
  obtain ⟨W4, h4⟩ := (W3.unpin fun p hp => List.mem_cons_of_mem _ hp).pure sm hn
  exact ⟨rs, e3, f3, f, W4, h4, q3⟩
end
/-! ### statements -/
structure Ed where
  nx : En → Prop
  rt : Rs → En → Prop
  bk : En → Prop
  ct : En → Prop
  ex : KX
abbrev RS := Ed → En → Prop
def Dn (K : PySem.W.Frag) (C : Ct) (pf : List (V × PyData)) (D : Ed) : Ends where
  nx := fun σ H => ∃ env feet, Wf K C pf σ H env feet [] ∧ D.nx env
  rt := fun v H => ∃ σ, Po K C pf σ D.rt v H
  bk := fun σ H => ∃ env feet, Wf K C pf σ H env feet [] ∧ D.bk env
  ct := fun σ H => ∃ env feet, Wf K C pf σ H env feet [] ∧ D.ct env
def SS0 (X : Cx) (C : Ct) (st : Stmt) (t : RS) : Prop := ∀ σ H pf env feet D, Wf X.K C pf σ H env feet [] → Tk X C pf D.ex → t D env → sW X st (Dn X.K C pf D) σ H
structure SS (X : Cx) (C : Ct) (st : Stmt) (t : RS) : Prop where
  run : SS0 X C st t
instance {X : Cx} {C : Ct} {st : Stmt} {t : RS} : CoeFun (SS X C st t) fun _ => ∀ σ H pf env feet D, Wf X.K C pf σ H env feet [] → Tk X C pf D.ex → t D env → sW X st (Dn X.K C pf D) σ H := ⟨fun h => h.run⟩
def SSs0 (X : Cx) (C : Ct) (sts : List Stmt) (t : RS) : Prop := ∀ σ H pf env feet D, Wf X.K C pf σ H env feet [] → Tk X C pf D.ex → t D env → ssW X sts (Dn X.K C pf D) σ H
structure SSs (X : Cx) (C : Ct) (sts : List Stmt) (t : RS) : Prop where
  run : SSs0 X C sts t
instance {X : Cx} {C : Ct} {sts : List Stmt} {t : RS} : CoeFun (SSs X C sts t) fun _ => ∀ σ H pf env feet D, Wf X.K C pf σ H env feet [] → Tk X C pf D.ex → t D env → ssW X sts (Dn X.K C pf D) σ H := ⟨fun h => h.run⟩
theorem sp_imp {X : Cx} {pins : List (Addr × Obj)} {D D' : Ends} {f : Flow} {s : Shared} (h : SP X pins D f s) (n : ∀ σ H, D.nx σ H → D'.nx σ H) (r : ∀ v H, D.rt v H → D'.rt v H) (b : ∀ σ H, D.bk σ H → D'.bk σ H) (c : ∀ σ H, D.ct σ H → D'.ct σ H) : SP X pins D' f s := by
  cases f with
  | next => obtain ⟨σ, H, I, q⟩ := h; exact ⟨σ, H, I, n _ _ q⟩
  | brk => obtain ⟨σ, H, I, q⟩ := h; exact ⟨σ, H, I, b _ _ q⟩
  | cont => obtain ⟨σ, H, I, q⟩ := h; exact ⟨σ, H, I, c _ _ q⟩
  | ret u => obtain ⟨v, σ, H, I, rv, q⟩ := h; exact ⟨v, σ, H, I, rv, r _ _ q⟩
theorem sW.imp {X : Cx} {st : Stmt} {D D' : Ends} {σ : L2.St} {H : Hp} (h : sW X st D σ H) (n : ∀ σ H, D.nx σ H → D'.nx σ H) (r : ∀ v H, D.rt v H → D'.rt v H) (b : ∀ σ H, D.bk σ H → D'.bk σ H) (c : ∀ σ H, D.ct σ H → D'.ct σ H) : sW X st D' σ H :=
  fun pins s I => thn (h pins s I) fun _ _ z => sp_imp z n r b c
theorem ssW.imp {X : Cx} {st : List Stmt} {D D' : Ends} {σ : L2.St} {H : Hp} (h : ssW X st D σ H) (n : ∀ σ H, D.nx σ H → D'.nx σ H) (r : ∀ v H, D.rt v H → D'.rt v H) (b : ∀ σ H, D.bk σ H → D'.bk σ H) (c : ∀ σ H, D.ct σ H → D'.ct σ H) : ssW X st D' σ H :=
  fun pins s I => thn (h pins s I) fun _ _ z => sp_imp z n r b c
theorem Po.unpin {K : PySem.W.Frag} {C : Ct} {pf pf' : List (V × PyData)} {σ : L2.St} {Q : Rs → En → Prop} {v : V} {H : Hp} (h : Po K C pf σ Q v H) (k : ∀ p ∈ pf', p ∈ pf) : Po K C pf' σ Q v H := by
  obtain ⟨r, e, f, g, W, q⟩ := h
  exact ⟨r, e, f, g, W.unpin k, q⟩
section
variable {X : Cx} {C : Ct} {e : Expr} {t : RE} {c : RT} {ts us : RS} {st : Stmt} {rest : List Stmt} {pos : Pos}
def rNext : RS := fun D env => D.nx env
def rSeq (t u : RS) : RS := fun D env => t { D with nx := fun e => u D e } env
theorem ss_nil : SSs X C [] rNext := .mk fun σ H pf env feet D W tk q => ssW.of pss_nil ⟨env, feet, W, q⟩
theorem ss_cons (h1 : SS X C st ts) (h2 : SSs X C rest us) : SSs X C (st :: rest) (rSeq ts us) := .mk fun σ H pf env feet D W tk q => by
  refine ssW.of (pss_cons sW.ps ssW.pss) ?_
  refine (h1 σ H pf env feet { D with nx := fun e => us D e } W tk q).imp (fun σ' H' ⟨e1, f1, W1, q1⟩ => ?_) (fun _ _ z => z) (fun _ _ z => z) fun _ _ z => z
  exact h2 σ' H' pf e1 f1 D W1 tk q1
theorem ss_one (h1 : SS X C st ts) : SSs X C [st] ts := .mk fun σ H pf env feet D W tk q => ssW.of (pss_one sW.ps) (h1 σ H pf env feet D W tk q)
theorem ss_pass : SS X C (.Pass pos) rNext := .mk fun σ H pf env feet D W tk q => sW.of ps_pass ⟨env, feet, W, q⟩
def rBreak : RS := fun D env => D.bk env
def rCont : RS := fun D env => D.ct env
theorem ss_break : SS X C (.Break pos) rBreak := .mk fun σ H pf env feet D W tk q => sW.of ps_break ⟨env, feet, W, q⟩
theorem ss_cont : SS X C (.Continue pos) rCont := .mk fun σ H pf env feet D W tk q => sW.of ps_continue ⟨env, feet, W, q⟩
/-- a return that gives a thing, a new one, or the one in a slot -/
def rRet (t : RE) : RS := fun D env => t env D.rt D.ex
theorem ss_ret (h : SE X C e t) : SS X C (.Return (some e) pos) (rRet t) := .mk fun σ H pf env feet D W tk q => by
  refine sW.of (ps_ret eW.pe) ?_
  exact (h σ H pf env feet _ D.ex W tk q).imp fun v H' z => ⟨σ, z⟩
def rRetN : RS := fun D env => D.rt (.fz .none) env
theorem ss_retN : SS X C (.Return none pos) rRetN := .mk fun σ H pf env feet D W tk q => sW.of ps_retN ⟨σ, .fz .none, env, feet, [], W, ⟨rfl, .non⟩, q⟩
/-- a value dropped -/
def rDrop (t : RE) : RS := fun D env => t env (fun _ e => D.nx e) D.ex
theorem ss_expr (h : SE X C e t) (hs : swapsWith e none pos.line X.env = pure false := by rfl) : SS X C (.Expr e pos) (rDrop t) := .mk fun σ H pf env feet D W tk q => by
  refine sW.of (ps_expr eW.pe hs) ?_
  exact (h σ H pf env feet _ D.ex W tk q).imp fun v H' ⟨r, e1, f1, f, W1, _, q1⟩ => ⟨e1, f1, W1.drop, q1⟩
def rIf (c : RT) (t u : RS) : RS := fun D env => c env (fun b e => if b = true then t D e else u D e) D.ex
theorem ss_if {c' : Expr} {a b : List Stmt} (hc : STs X C c' c) (ha : SSs X C a ts) (hb : SSs X C b us) : SS X C (.If c' a b pos) (rIf c ts us) := .mk fun σ H pf env feet D W tk q => by
  refine sW.of (ps_if tW.pt ssW.pss ssW.pss) ?_
  refine (hc σ H pf env feet _ D.ex W tk q).imp fun k H1 ⟨e1, f1, W1, q1⟩ => ?_
  cases k with
  | true => exact ha σ H1 pf e1 f1 D W1 tk q1
  | false => exact hb σ H1 pf e1 f1 D W1 tk q1
/-- a thing put into slot i: a new owned one is owned by it; one that stands in a slot is no more changed -/
def ast (i : Nat) (r : Rs) (env : En) (Q : En → Prop) : Prop := match r with
  | .fz d => Q (env.set i (.fz d))
  | .nw o => Q (env.set i (.ow o))
  | .br j => (match env[j]? with
    | some (.ow (.ls ds)) => Q ((env.set j (.fz (.list ds))).set i (.fz (.list ds)))
    | _ => False)
  | .xc c g => False
def rSet (i : Nat) (t : RE) : RS := fun D env => t env (fun r e => ast i r e D.nx) D.ex
theorem ast_ok {K : PySem.W.Frag} {pf : List (V × PyData)} {σ : L2.St} {H : Hp} {env : En} {feet : List (List Addr)} {f : List Addr} {v : V} {r : Rs} {i : Nat} {Q : En → Prop} (W : Wf K C pf σ H env feet f) (h : RsR K (hid H (feet.flatten ++ f)) H σ env v r f) (hi : i ∉ C.BR) (q : ast i r env Q) :
    ∃ env' feet', Wf K C pf (σ.set i (some v)) H env' feet' [] ∧ Q env' := by
  cases r with
  | fz d =>
    obtain ⟨rfl, hd⟩ := h
    exact ⟨_, _, W.put (s := .fz d) ⟨rfl, v, rfl, hd⟩ hi, q⟩
  | nw o =>
    obtain ⟨p, rfl, ho⟩ := h
    exact ⟨_, _, W.put (s := .ow o) ⟨p, rfl, ho⟩ hi, q⟩
  | br j =>
    obtain ⟨rfl, hσ, o, ho⟩ := h
    have q' : (match env[j]? with
      | some (.ow (.ls ds)) => Q ((env.set j (.fz (.list ds))).set i (.fz (.list ds)))
      | _ => False) := q
    rw [ho] at q'
    cases o with
    | ls ds =>
      -- first the slot's own thing is frozen
      have i1 : j < env.length := (List.getElem?_eq_some_iff.mp ho).1
      have i3 : j < feet.length := by rw [W.rel.l2]; exact i1
      have hs := W.rel.sl j _ _ _ hσ ho (List.getElem?_eq_getElem i3)
      obtain ⟨p, e1, hf, vs, hp, hv⟩ := hs
      cases e1
      have nd := W.nd
      rw [List.append_nil] at nd
      have np : p ∉ (feet.set j []).flatten := fun m => by
        obtain ⟨g, hg, hpg⟩ := List.mem_flatten.mp m
        obtain ⟨k, hk, e2⟩ := List.mem_iff_getElem.mp hg
        have e3 : (feet.set j [])[k]? = some g := by rw [List.getElem?_eq_getElem hk, e2]
        by_cases ij : j = k
        · subst ij
          rw [List.getElem?_set_self i3] at e3
          cases e3
          cases hpg
        · rw [List.getElem?_set_ne ij] at e3
          exact ij (nodup_foot nd (List.getElem?_eq_getElem i3) e3 (by rw [hf]; simp) hpg)
      have sm : Same (hid H (feet.flatten ++ [])) (hid H ((feet.set j []).flatten)) := hid_same fun a o n q => ⟨fun m => n (by
        rw [List.append_nil]
        rcases flatten_set_sub m with m | m
        · exact m
        · cases m), q⟩
      have hd : Dx K (hid H ((feet.set j []).flatten)) (.ref p) (.list ds) := .lst (.inl (.inl (by rw [hid_out np]; exact hp))) (dxAll_mono sm hv)
      have W1 := W.mode (s := .fz (.list ds)) hσ ⟨rfl, _, rfl, hd⟩
      exact ⟨_, _, W1.put (s := .fz (.list ds)) ⟨rfl, _, rfl, by rw [List.append_nil]; exact hd⟩ hi, q'⟩
    | _ => exact False.elim q'
  | xc c g => exact h.elim
theorem ss_set {i : Nat} {x : Str} {pos' : Pos} (hN : X.N.Nodup) (hi : X.N[i]? = some x) (hx : Loc X.env.scope x) (hb : i ∉ C.BR) (he : SE X C e t) (hs : swapsWith e (some (.Name x pos')) pos.line X.env = pure false := by rfl)
    (hf : X.fn x = true ∨ X.env.scope.names.lookup x = some .local := by first | exact .inl rfl | exact .inr rfl | assumption) : SS X C (.Assign [.Name x pos'] e pos) (rSet i t) := .mk fun σ H pf env feet D W tk q => by
  refine sW.of (ps_set hN hi hx eW.pe hs hf) ?_
  refine (he σ H pf env feet _ D.ex W tk q).imp fun v H1 ⟨r, e1, f1, f, W1, h1, q1⟩ => ?_
  exact ast_ok W1 h1 hb q1
end
end L3
end

section
set_option autoImplicit true
set_option Elab.async false
set_option linter.all false
set_option maxRecDepth 100000
set_option maxHeartbeats 1000000
/-! L3 part d: targets, loops. -/
namespace L3
open PySem PySem.Spec PyProof.Rows L2
abbrev RG := PyData → En → (En → Prop) → KX → Prop
abbrev RGs := List PyData → En → (En → Prop) → KX → Prop
def gW (X : Cx) (tg : Expr) : TG := fun v σ H Q => ∀ pins s u, Inv X pins σ H s → RelV v u → wpAny (model X.prog X.w) X.A (assign tg X.env u) (fun _ s' => ∃ σ' H', Inv X pins σ' H' s' ∧ Q σ' H') X.xe s
def gsW (X : Cx) (tgs : List Expr) : TGs := fun vs σ H Q => ∀ pins s us, Inv X pins σ H s → Vals vs us → wpAny (model X.prog X.w) X.A (assignInOrder ((assignEach tgs X.env).map (·.2)) us) (fun _ s' => ∃ σ' H', Inv X pins σ' H' s' ∧ Q σ' H') X.xe s
/-- a target is given a thing -/
def SG0 (X : Cx) (C : Ct) (tg : Expr) (g : RG) : Prop := ∀ σ H pf env feet v d Q EX, Wf X.K C pf σ H env feet [] → Tk X C pf EX → Dx X.K (hid H (feet.flatten ++ [])) v d → g d env Q EX → gW X tg v σ H (fun σ' H' => ∃ env' feet', Wf X.K C pf σ' H' env' feet' [] ∧ Q env')
structure SG (X : Cx) (C : Ct) (tg : Expr) (g : RG) : Prop where
  run : SG0 X C tg g
instance {X : Cx} {C : Ct} {tg : Expr} {g : RG} : CoeFun (SG X C tg g) fun _ => ∀ σ H pf env feet v d Q EX, Wf X.K C pf σ H env feet [] → Tk X C pf EX → Dx X.K (hid H (feet.flatten ++ [])) v d → g d env Q EX → gW X tg v σ H (fun σ' H' => ∃ env' feet', Wf X.K C pf σ' H' env' feet' [] ∧ Q env') := ⟨fun h => h.run⟩
def SGs0 (X : Cx) (C : Ct) (tgs : List Expr) (g : RGs) : Prop := ∀ σ H pf env feet vs ds Q EX, Wf X.K C pf σ H env feet [] → Tk X C pf EX → DxAll X.K (hid H (feet.flatten ++ [])) vs ds → g ds env Q EX → gsW X tgs vs σ H (fun σ' H' => ∃ env' feet', Wf X.K C pf σ' H' env' feet' [] ∧ Q env')
structure SGs (X : Cx) (C : Ct) (tgs : List Expr) (g : RGs) : Prop where
  run : SGs0 X C tgs g
instance {X : Cx} {C : Ct} {tgs : List Expr} {g : RGs} : CoeFun (SGs X C tgs g) fun _ => ∀ σ H pf env feet vs ds Q EX, Wf X.K C pf σ H env feet [] → Tk X C pf EX → DxAll X.K (hid H (feet.flatten ++ [])) vs ds → g ds env Q EX → gsW X tgs vs σ H (fun σ' H' => ∃ env' feet', Wf X.K C pf σ' H' env' feet' [] ∧ Q env') := ⟨fun h => h.run⟩
theorem gW.imp {X : Cx} {tg : Expr} {v : V} {σ : L2.St} {H : Hp} {Q Q' : L2.St → Hp → Prop} (h : gW X tg v σ H Q) (k : ∀ σ H, Q σ H → Q' σ H) : gW X tg v σ H Q' := fun pins s u I r => thn (h pins s u I r) fun _ _ ⟨a, b, c, d⟩ => ⟨a, b, c, k _ _ d⟩
theorem gsW.imp {X : Cx} {tg : List Expr} {v : List V} {σ : L2.St} {H : Hp} {Q Q' : L2.St → Hp → Prop} (h : gsW X tg v σ H Q) (k : ∀ σ H, Q σ H → Q' σ H) : gsW X tg v σ H Q' := fun pins s u I r => thn (h pins s u I r) fun _ _ ⟨a, b, c, d⟩ => ⟨a, b, c, k _ _ d⟩
theorem gW.pg {X : Cx} {tg : Expr} : PG X tg (gW X tg) := ⟨fun pins s _ _ _ u _ I r h => h pins s u I r⟩
theorem gsW.pgs {X : Cx} {tg : List Expr} : PGs X tg (gsW X tg) := ⟨fun pins s _ _ _ u _ I r h => h pins s u I r⟩
theorem dpAll_pins {K : PySem.W.Frag} {Z : Hp} : ∀ {vs : List V} {ds : List PyData}, vs.length = ds.length → (∀ p ∈ vs.zip ds, Dx K Z p.1 p.2) → DxAll K Z vs ds
  | [], [], _, _ => .nil
  | v :: vs, d :: ds, h, q => .cons (q (v, d) (by simp)) (dpAll_pins (by simpa using h) fun p hp => q p (by simp [hp]))
theorem pins_dpAll {K : PySem.W.Frag} {Z : Hp} : ∀ {vs : List V} {ds : List PyData}, DxAll K Z vs ds → ∀ p ∈ vs.zip ds, Dx K Z p.1 p.2
  | _, _, .nil, p, hp => by simp at hp
  | _, _, .cons h q, p, hp => by
    rw [List.zip_cons_cons] at hp
    rcases List.mem_cons.mp hp with e | hp
    · rw [e]; exact h
    · exact pins_dpAll q p hp
theorem Wf.pinAll {K : PySem.W.Frag} {C : Ct} {pf : List (V × PyData)} {σ : L2.St} {H : Hp} {env : En} {feet : List (List Addr)} {ex : List Addr} {vs : List V} {ds : List PyData} (W : Wf K C pf σ H env feet ex) (h : DxAll K (hid H (feet.flatten ++ ex)) vs ds) : Wf K C (vs.zip ds ++ pf) σ H env feet ex :=
  ⟨W.nd, W.rel, fun p hp => by
    rcases List.mem_append.mp hp with q | q
    · exact pins_dpAll h p q
    · exact W.pin p q, W.exT, W.fr, W.nw, W.pr⟩
section
variable {X : Cx} {C : Ct} {tg : Expr} {tgs : List Expr} {g : RG} {gs : RGs} {pos : Pos}
def gN (i : Nat) : RG := fun d env Q _ => Q (env.set i (.fz d))
theorem sg_name {i : Nat} {x : Str} (hN : X.N.Nodup) (hi : X.N[i]? = some x) (hx : Loc X.env.scope x) (hb : i ∉ C.BR) (hf : X.fn x = true ∨ X.env.scope.names.lookup x = some .local := by first | exact .inl rfl | exact .inr rfl | assumption) : SG X C (.Name x pos) (gN i) :=
  .mk fun σ H pf env feet v d Q EX W tk hd q pins s u I r => (pg_name hN hi hx hf).run pins s σ H v u _ I r ⟨_, _, W.put (s := .fz d) ⟨rfl, v, rfl, hd⟩ hb, q⟩
def gNil' : RGs := fun ds env Q _ => ds = [] ∧ Q env
def gCons' (g : RG) (gs : RGs) : RGs := fun ds env Q EX => ∃ d r, ds = d :: r ∧ g d env (fun e => gs r e Q EX) EX
theorem sgs_nil : SGs X C [] gNil' := .mk fun σ H pf env feet vs ds Q EX W tk hd q pins s us I r => by
  obtain ⟨rfl, q⟩ := q
  cases hd
  exact (pgs_nil (X := X)).run pins s σ H [] us _ I r ⟨rfl, env, feet, W, q⟩
theorem sgs_cons (h1 : SG X C tg g) (h2 : SGs X C tgs gs) (hs : (assignEach (tg :: tgs) X.env).map (·.2) = assign tg X.env :: (assignEach tgs X.env).map (·.2) := by rfl) : SGs X C (tg :: tgs) (gCons' g gs) := .mk fun σ H pf env feet vs ds Q EX W tk hd q pins s us I r => by
  obtain ⟨d, dr, rfl, q⟩ := q
  cases hd with
  | @cons v vr _ _ h hr =>
    refine (pgs_cons (X := X) gW.pg gsW.pgs hs).run pins s σ H (v :: vr) us _ I r ⟨v, vr, rfl, ?_⟩
    have W1 := W.pinAll hr
    refine (h1 σ H (vr.zip dr ++ pf) env feet v d _ EX W1 tk.addL h q).imp fun σ' H' ⟨e1, f1, W2, q2⟩ => ?_
    have hr' : DxAll X.K (hid H' (f1.flatten ++ [])) vr dr := dpAll_pins hr.lenD fun p hp => W2.pin p (List.mem_append_left _ hp)
    exact h2 σ' H' pf e1 f1 vr dr Q EX (W2.unpin fun p hp => List.mem_append_right _ hp) tk hr' q2
def gTup' (n : Nat) (gs : RGs) : RG := fun d env Q EX => ∃ ds, d = .tuple ds ∧ ds.length = n ∧ gs ds env Q EX
theorem sg_tup {k n : Nat} (hc : X.calm = true) (h : SGs X C tgs gs) (hn : (assignEach tgs X.env).length = n := by rfl) (hst : (assignEach tgs X.env).findIdx? (·.1) = none := by rfl) : SG X C (.Tuple tgs k pos) (gTup' n gs) := .mk fun σ H pf env feet v d Q EX W tk hd q pins s u I r => by
  obtain ⟨ds, rfl, hl, q⟩ := q
  cases hd with
  | @tup a xs _ hs ha =>
    refine (pg_tup (X := X) hc gsW.pgs hn hst).run pins s σ H (.ref a) u _ I r ⟨a, xs, rfl, seqT_mono hid_le hs, by rw [ha.lenD]; exact hl, ?_⟩
    exact h σ H pf env feet xs ds Q EX W tk ha q
/-! ### what is walked -/
abbrev RI := En → (List PyData → En → Prop) → KX → Prop
/-- what an iterator yields at a turn: the thing itself, or a new pair -/
def Yl (K : PySem.W.Frag) (Z H : Hp) (x : V) (H' : Hp) (d : PyData) : Prop := (H' = H ∧ Dx K Z x d) ∨ ∃ T ws es, x = .ref T ∧ H T = none ∧ H' = upd H T (.tup ws) ∧ DxAll K Z ws es ∧ d = .tuple es
/-- J walks the items, while the pinned things stay; H2: the heap, perhaps with more -/
structure ItD (X : Cx) (C : Ct) (pf : List (V × PyData)) (J : It) (items : List PyData) : Prop where
  stop : ∀ σ H env feet H2, Wf X.K C pf σ H env feet [] → Same H H2 → J.stop items.length H2
  go : ∀ i σ H env feet H2, i < items.length → Wf X.K C pf σ H env feet [] → Same H H2 → J.go i H2
  yld : ∀ i x σ H env feet H2 H', i < items.length → Wf X.K C pf σ H env feet [] → Same H H2 → J.yld i H2 x H' → ∃ d, items[i]? = some d ∧ Yl X.K (hid H (feet.flatten ++ [])) H2 x H' d
def SI (X : Cx) (C : Ct) (tg iter : Expr) (ti : RI) : Prop := ∃ wi, PI X tg iter wi ∧ ∀ σ H pf env feet Q EX (R : It → Hp → Prop), Wf X.K C pf σ H env feet [] → Tk X C pf EX → ti env Q EX →
  (∀ J H1, (∃ items env1 feet1 pf1, Wf X.K C pf1 σ H1 env1 feet1 [] ∧ (∀ p ∈ pf, p ∈ pf1) ∧ ItD X C pf1 J items ∧ Q items env1) → R J H1) → wi σ H R
variable {iter : Expr} {t : RE}
theorem Wf.yl {K : PySem.W.Frag} {pf : List (V × PyData)} {σ : L2.St} {H H' : Hp} {env : En} {feet : List (List Addr)} {x : V} {d : PyData} (W : Wf K C pf σ H env feet []) (y : Yl K (hid H (feet.flatten ++ [])) H x H' d) :
    Wf K C pf σ H' env feet [] ∧ Dx K (hid H' (feet.flatten ++ [])) x d := by
  rcases y with ⟨rfl, hd⟩ | ⟨T, ws, es, rfl, hT, rfl, hw, rfl⟩
  · exact ⟨W, hd⟩
  · obtain ⟨W2, _, h2⟩ := W.pure (same_new hT) (rsn_tup (fun a m => W.rel.tr a (by rw [List.append_nil] at m; exact m)) hT hw)
    exact ⟨W2, h2⟩
theorem itd_list {K : PySem.W.Frag} {a : Addr} {ds : List PyData} {pf : List (V × PyData)} (hm : (V.ref a, PyData.list ds) ∈ pf) : ItD X C pf (Itl X.K a) ds where
  stop := fun σ H env feet H2 W sm => by
    cases W.pin _ hm with
    | lst h q => exact ⟨_, sm.seq (hid_le.seq h), by rw [q.lenD]; exact Nat.le_refl _⟩
  go := fun i σ H env feet H2 hi W sm => by
    cases W.pin _ hm with
    | lst h q =>
      obtain ⟨v, hv, _⟩ := q.atD (List.getElem?_eq_getElem hi)
      exact ⟨_, v, sm.seq (hid_le.seq h), hv⟩
  yld := fun i x σ H env feet H2 H' hi W sm y => by
    obtain ⟨rfl, y⟩ := y
    cases W.pin _ hm with
    | lst h q =>
      obtain ⟨v, hv, hd⟩ := q.atD (List.getElem?_eq_getElem hi)
      have e := y _ (sm.seq (hid_le.seq h))
      rw [hv] at e
      cases e
      exact ⟨_, List.getElem?_eq_getElem hi, .inl ⟨rfl, hd⟩⟩
theorem itd_tup {K : PySem.W.Frag} {a : Addr} {ds : List PyData} {pf : List (V × PyData)} (hm : (V.ref a, PyData.tuple ds) ∈ pf) : ItD X C pf (Itt X.K a) ds where
  stop := fun σ H env feet H2 W sm => by
    cases W.pin _ hm with
    | tup h q => exact ⟨_, seqT_mono sm (seqT_mono hid_le h), by rw [q.lenD]; exact Nat.le_refl _⟩
  go := fun i σ H env feet H2 hi W sm => by
    cases W.pin _ hm with
    | tup h q =>
      obtain ⟨v, hv, _⟩ := q.atD (List.getElem?_eq_getElem hi)
      exact ⟨_, v, seqT_mono sm (seqT_mono hid_le h), hv⟩
  yld := fun i x σ H env feet H2 H' hi W sm y => by
    obtain ⟨rfl, y⟩ := y
    cases W.pin _ hm with
    | tup h q =>
      obtain ⟨v, hv, hd⟩ := q.atD (List.getElem?_eq_getElem hi)
      have e := y _ (seqT_mono sm (seqT_mono hid_le h))
      rw [hv] at e
      cases e
      exact ⟨_, List.getElem?_eq_getElem hi, .inl ⟨rfl, hd⟩⟩
/-- a list that is walked is no more changed -/
def iLst (t : RE) : RI := fun env Q EX => vl t env (fun d e => ∃ ds, d = .list ds ∧ Q ds e) EX
def iTpl (t : RE) : RI := fun env Q EX => vl t env (fun d e => ∃ ds, d = .tuple ds ∧ Q ds e) EX
theorem si_list (h : SE X C iter t) : SI X C tg iter (iLst t) := ⟨_, pi_list eW.pe, fun σ H pf env feet Q EX R W tk q k => by
  refine (h.v σ H pf env feet _ EX W tk q).imp fun v H1 ⟨d, e1, f1, W1, h1, ds, hd, q1⟩ => ?_
  subst hd
  cases h1 with
  | @lst a xs _ hs ha =>
    have W2 := W1.pinned (.lst hs ha)
    exact ⟨a, rfl, ⟨xs, hid_le.seq hs⟩, k _ _ ⟨ds, e1, f1, _, W2, fun p hp => List.mem_cons_of_mem _ hp, itd_list (K := X.K) (by simp), q1⟩⟩⟩
theorem si_tup (h : SE X C iter t) : SI X C tg iter (iTpl t) := ⟨_, pi_tup eW.pe, fun σ H pf env feet Q EX R W tk q k => by
  refine (h.v σ H pf env feet _ EX W tk q).imp fun v H1 ⟨d, e1, f1, W1, h1, ds, hd, q1⟩ => ?_
  subst hd
  cases h1 with
  | @tup a xs _ hs ha =>
    have W2 := W1.pinned (.tup hs ha)
    exact ⟨a, rfl, ⟨xs, seqT_mono hid_le hs⟩, k _ _ ⟨ds, e1, f1, _, W2, fun p hp => List.mem_cons_of_mem _ hp, itd_tup (K := X.K) (by simp), q1⟩⟩⟩
def rngI (lo : Int) (n : Nat) : List PyData := (List.range n).map fun i => PyData.int (lo + (i : Nat))
theorem itd_rng {lo : Int} {n : Nat} {pf : List (V × PyData)} : ItD X C pf (Itr lo n) (rngI lo n) where
  stop := fun σ H env feet H2 W sm => by show n ≤ (rngI lo n).length; simp [rngI]
  go := fun i σ H env feet H2 hi W sm => by show i < n; simpa [rngI] using hi
  yld := fun i x σ H env feet H2 H' hi W sm y => by
    obtain ⟨rfl, rfl⟩ := y
    have hn : i < n := by simpa [rngI] using hi
    exact ⟨.int (lo + (i : Nat)), by simp [rngI, hn], .inl ⟨rfl, .int _⟩⟩
def iR1 (t : RA) : RI := fun env Q EX => t env (fun ds e => ∃ j : Int, ds = [.int j] ∧ -(2 ^ 62) ≤ j ∧ j < 2 ^ 62 ∧ Q (rngI 0 j.toNat) e) EX
def iR2 (t : RA) : RI := fun env Q EX => t env (fun ds e => ∃ i j : Int, ds = [.int i, .int j] ∧ (-(2 ^ 62) ≤ i ∧ i < 2 ^ 62 ∧ -(2 ^ 62) ≤ j ∧ j < 2 ^ 62) ∧ Q (rngI i (j - i).toNat) e) EX
theorem si_range1 {a : Expr} {ta : RA} {p : Pos} (hg : Gl X "range") (hm : X.mg "range" = none) (ha : SA X C [a] ta) (hs : starEach [a] X.env = [(false, eval a X.env)] := by rfl) : SI X C tg (.Call (.Name "range" p) [a] [] pos) (iR1 ta) := ⟨_, pi_range1 hg hm aW.pa hs, fun σ H pf env feet Q EX R W tk q k => by
  refine (ha σ H pf env feet _ EX W tk q).imp fun vs H1 ⟨ds, e1, f1, W1, h1, j, hd, l1, l2, q1⟩ => ?_
  subst hd
  cases h1 with
  | cons h h' =>
    cases h
    cases h'
    exact ⟨j, rfl, l1, l2, k _ _ ⟨_, e1, f1, pf, W1, fun p hp => hp, itd_rng, q1⟩⟩⟩
theorem si_range2 {a b : Expr} {ta : RA} {p : Pos} (hg : Gl X "range") (hm : X.mg "range" = none) (ha : SA X C [a, b] ta) (hs : starEach [a, b] X.env = [(false, eval a X.env), (false, eval b X.env)] := by rfl) (hs2 : starEach [b] X.env = [(false, eval b X.env)] := by rfl) :
    SI X C tg (.Call (.Name "range" p) [a, b] [] pos) (iR2 ta) := ⟨_, pi_range2 hg hm aW.pa hs hs2, fun σ H pf env feet Q EX R W tk q k => by
  refine (ha σ H pf env feet _ EX W tk q).imp fun vs H1 ⟨ds, e1, f1, W1, h1, i, j, hd, l, q1⟩ => ?_
  subst hd
  cases h1 with
  | cons h h' =>
    cases h
    cases h' with
    | cons h h' =>
      cases h
      cases h'
      exact ⟨i, j, rfl, l, k _ _ ⟨_, e1, f1, pf, W1, fun p hp => hp, itd_rng, q1⟩⟩⟩
/-! ### for, while -/
def rLoop (g : RG) (b : RS) (D : Ed) : List PyData → En → Prop
  | [], env => D.nx env
  | d :: ds, env => g d env (fun e => b { D with nx := rLoop g b D ds, ct := rLoop g b D ds, bk := D.nx } e) D.ex
def rFor (ti : RI) (g : RG) (b : RS) : RS := fun D env => ti env (rLoop g b D) D.ex
theorem ss_for {ti : RI} {body : List Stmt} {b : RS} (hp : PassesOwn (model X.prog X.w) X.A X.env X.xe) (hc : X.calm = true) (hi : SI X C tg iter ti) (hg : SG X C tg g) (hb : SSs X C body b) (hs : ∀ x, foldedSetIterable iter X.env x = pure x := by intro _; rfl) :
    SS X C (.For tg iter body [] pos) (rFor ti g b) := .mk fun σ H pf env feet D W tk q pins s I => by
  obtain ⟨wi, pi, hw⟩ := hi
  refine (ps_for hp hc pi gW.pg ssW.pss hs).run pins s σ H _ I ?_
  refine hw σ H pf env feet (rLoop g b D) D.ex _ W tk q ?_
  rintro J H1 ⟨items, env1, feet1, pf1, W1, sub, it, q1⟩
  refine ⟨fun i m σ H => m + i = items.length ∧ ∃ env feet, Wf X.K C pf1 σ H env feet [] ∧ rLoop g b D (items.drop i) env, ⟨items.length, by simp, env1, feet1, W1, q1⟩, ?_⟩
  rintro i m σ2 H2 ⟨hm, env2, feet2, W2, q2⟩
  by_cases hlt : i < items.length
  · right
    refine ⟨it.go i σ2 H2 env2 feet2 H2 hlt W2 (Same.refl _), fun σ H => ∃ env feet, Wf X.K C pf1 σ H env feet [] ∧ rLoop g b D (items.drop (i + 1)) env, fun σ' H' z => ⟨m - 1, by omega, by omega, z⟩, fun x H3 y => ?_⟩
    obtain ⟨d, hd, hy⟩ := it.yld i x σ2 H2 env2 feet2 H2 H3 hlt W2 (Same.refl _) y
    obtain ⟨W3, hx⟩ := W2.yl hy
    have e : items.drop i = d :: items.drop (i + 1) := by
      have e1 := List.drop_eq_getElem_cons hlt
      rw [List.getElem?_eq_getElem hlt] at hd
      cases hd
      exact e1
    rw [e] at q2
    refine (hg σ2 H3 pf1 env2 feet2 x d _ D.ex W3 (tk.sub sub) hx q2).imp fun σ4 H4 ⟨e4, f4, W4, q4⟩ => ?_
    exact (hb σ4 H4 pf1 e4 f4 { D with nx := rLoop g b D (items.drop (i + 1)), ct := rLoop g b D (items.drop (i + 1)), bk := D.nx } W4 (tk.sub sub) q4).imp (fun _ _ z => z) (fun v H ⟨σ, z⟩ => ⟨σ, z.unpin sub⟩) (fun _ _ ⟨a, b, c, d⟩ => ⟨a, b, c.unpin sub, d⟩) (fun _ _ z => z)
  · left
    have e : i = items.length := by omega
    subst e
    rw [List.drop_length] at q2
    exact ⟨it.stop σ2 H2 env2 feet2 H2 W2 (Same.refl _), env2, feet2, W2.unpin sub, q2⟩
def rWh (c : RT) (b : RS) (D : Ed) : Nat → En → Prop
  | 0, _ => False
  | n + 1, env => c env (fun k e => if k = true then b { D with nx := rWh c b D n, ct := rWh c b D n, bk := D.nx } e else D.nx e) D.ex
def rWhile (c : RT) (b : RS) : RS := fun D env => ∃ n, rWh c b D n env
theorem ss_while {c' : Expr} {c : RT} {body : List Stmt} {b : RS} (hp : PassesOwn (model X.prog X.w) X.A X.env X.xe) (hc : STs X C c' c) (hb : SSs X C body b) : SS X C (.While c' body [] pos) (rWhile c b) := .mk fun σ H pf env feet D W tk q pins s I => by
  obtain ⟨n0, q⟩ := q
  refine (ps_while hp tW.pt ssW.pss).run pins s σ H _ I ⟨fun n σ H => ∃ env feet, Wf X.K C pf σ H env feet [] ∧ rWh c b D n env, ⟨n0, env, feet, W, q⟩, ?_⟩
  rintro m σ2 H2 ⟨e2, f2, W2, q2⟩
  cases m with
  | zero => exact q2.elim
  | succ m =>
    refine (hc σ2 H2 pf e2 f2 _ D.ex W2 tk q2).imp fun k H3 ⟨e3, f3, W3, q3⟩ => ?_
    cases k with
    | true =>
      refine ⟨fun σ H => ∃ env feet, Wf X.K C pf σ H env feet [] ∧ rWh c b D m env, fun σ' H' z => ⟨m, Nat.lt_succ_self m, z⟩, ?_⟩
      exact (hb σ2 H3 pf e3 f3 { D with nx := rWh c b D m, ct := rWh c b D m, bk := D.nx } W3 tk q3).imp (fun _ _ z => z) (fun _ _ z => z) (fun _ _ z => z) (fun _ _ z => z)
    | false => exact ⟨e3, f3, W3, q3⟩
/-- a, b, .. = e -/
def rAsg (t : RE) (g : RG) : RS := fun D env => vl t env (fun d e => g d e D.nx D.ex) D.ex
theorem ss_asg {e : Expr} (he : SE X C e t) (hg : SG X C tg g) (hs : swapsWithSole [tg] e pos.line X.env = pure false := by rfl) (hw : swappedStores [tg] e X.env = pure none := by rfl)
    (h1 : (assignEach [tg] X.env).map (·.2) = [assign tg X.env] := by rfl) : SS X C (.Assign [tg] e pos) (rAsg t g) := .mk fun σ H pf env feet D W tk q pins s I => by
  refine (ps_asg eW.pe gW.pg hs hw h1).run pins s σ H _ I ?_
  refine (he.v σ H pf env feet _ D.ex W tk q).imp fun v H1 ⟨d, e1, f1, W1, h1, q1⟩ => ?_
  exact hg σ H1 pf e1 f1 v d _ D.ex W1 tk h1 q1
end
end L3
end

section
set_option autoImplicit true
set_option Elab.async false
set_option linter.all false
set_option maxRecDepth 100000
set_option maxHeartbeats 1000000
/-! L3 part e: defs and their calls. -/
namespace L3
open PySem PySem.Spec PyProof.Rows L2
abbrev M3 := List Sl → (Rs → List Sl → Prop) → (Er → List Sl → Prop) → Prop
def Cc (H : Hp) (feet : List (List Addr)) : Ct := ⟨H, feet.flatten, [], [], []⟩
/-- a def's promise as the layer below wants it -/
def sp3 (K : PySem.W.Frag) (n : Nat) (m : M3) : Sp := fun vs H Q2 E2 => ∃ sls feet Q E, vs.length = n ∧ EnvR K (hid H (feet.flatten ++ [])) H (vs.map some) sls feet ∧ (feet.flatten ++ []).Nodup ∧ m sls Q E ∧
  (∀ v H', Po K (Cc H feet) [] (vs.map some) Q v H' → Q2 v H') ∧
  ∀ cls d H', (∃ sls' feet' er, Wf K (Cc H feet) [] (vs.map some) H' sls' feet' [] ∧ ErR K (hid H' (feet'.flatten ++ [])) cls d er ∧ E er sls') → E2 cls d H'
/-- a def, called where no guard stands -/
structure GOk (P : Program) (w : World) (K : PySem.W.Frag) (mg : Str → Option Value) (base : Heap) (k : Nat) (f : Addr) (fd : FuncData) (ps : List Str) (m : M3) : Prop where
  run : ∀ (A : Around) (outer : List Env) (s : Shared) (H : Hp) (args : Args) (us : List Value) (vs : List V) (Q : VK) (E : XK), Room k A → A.guards = some [] → Env0 P w K mg base A outer s H → BindsTo s fd args (ps.zip us) → Vals vs us → sp3 K ps.length m vs H Q E →
    codeAny (model P w) A (.call (.ref f) args) (CR (L2.CX P w) outer P w H s Q E) s
section
variable {P : Program} {w : World} {K : PySem.W.Frag} {mg : Str → Option Value} {base : Heap} {k j : Nat} {f : Addr} {fd : FuncData} {ps : List Str} {m m' : M3}
theorem GOk.up (G : GOk P w K mg base j f fd ps m) (h : j ≤ k) : GOk P w K mg base k f fd ps m := ⟨fun A outer s H args us vs Q E hr => G.run A outer s H args us vs Q E (hr.mono h)⟩
/-- a weaker promise -/
theorem GOk.imp (G : GOk P w K mg base k f fd ps m) (h : ∀ sls Q E, m' sls Q E → m sls Q E) : GOk P w K mg base k f fd ps m' := ⟨fun A outer s H args us vs Q E hr hg he hb hv ⟨sls, feet, Q', E', a, b, c, d, e⟩ => G.run A outer s H args us vs Q E hr hg he hb hv ⟨sls, feet, Q', E', a, b, c, h _ _ _ d, e⟩⟩
end
/-! ### the frame -/
/-- what may be hidden from a call -/
def Light (o : HO) : Prop := match o with
  | .lst _ => True
  | .dK _ => True
  | .set _ _ => True
  | .ext _ => True
  | .ins _ _ _ => True
  | .own _ => True
  | _ => False
/-- the objects of F may be hidden: an instance with its dict -/
structure Lt (H : Hp) (F : List Addr) : Prop where
  l : ∀ a ∈ F, ∃ o, H a = some o ∧ Light o
  i : ∀ a ∈ F, ∀ C dx fs, H a = some (.ins C dx fs) → dx ∈ F
  o : ∀ a ∈ F, ∀ x, H a = some (.own x) → x ∈ F
def back (Hh H1 : Hp) (F : List Addr) : Hp := fun a => if a ∈ F then Hh a else H1 a
theorem back_in {Hh H1 : Hp} {F : List Addr} {a : Addr} (h : a ∈ F) : back Hh H1 F a = Hh a := if_pos h
theorem back_out {Hh H1 : Hp} {F : List Addr} {a : Addr} (h : a ∉ F) : back Hh H1 F a = H1 a := if_neg h
section
variable {P : Program} {w : World} {H H1 : Hp} {h h1 : Heap} {F fs ch : List Addr}
theorem hok_hid (x : HOk P w H h) (hl : Lt H F) : HOk P w (hid H F) h := fun a o e => by
  obtain ⟨n, e'⟩ := hid_some e
  refine (x a o e').stay (fun _ _ _ q => q) (fun b q => ?_) fun b xs q => ?_
  · rw [hid_out fun m => n (hl.o b m a q), q]
  · rw [hid_out fun m => ?_, q]
    obtain ⟨o, h1, h2⟩ := hl.l b m
    rw [q] at h1; cases h1; exact h2
theorem un_back (x : HOk P w H h) (hl : Lt H F) (u : Un fs [] (hid H F) H1 h h1) : Un fs [] H (back H H1 F) h h1 := by
  have out : ∀ {b o}, H b = some o → ¬ Light o → b ∉ F := fun {b o} e n m => by
    obtain ⟨o', h1, h2⟩ := hl.l b m
    rw [e] at h1; cases h1; exact n h2
  have none_ : ∀ {b}, H b = none → hid H F b = none := fun {b} e => by
    unfold hid; split
    · rfl
    · exact e
  have out2 : ∀ {b}, H b = none → b ∉ F := fun {b} e m => by
    obtain ⟨o', h1, h2⟩ := hl.l b m
    rw [e] at h1; cases h1
  exact ⟨fun b o e n => u.keep b o e (none_ n), fun b o e n => u.slot b o e (none_ n), fun b o e n hc => by rw [back_out (out2 n)]; exact u.free b o e (none_ n) hc, u.there,
    fun b xs e => by rw [back_out (out e (fun z => z))]; exact u.tups b xs (by rw [hid_out (out e (fun z => z))]; exact e),
    fun b o xs e => by rw [back_out (out e (fun z => z))]; exact u.frzs b o xs (by rw [hid_out (out e (fun z => z))]; exact e),
    fun b ps e => by
      obtain ⟨m, q⟩ := u.tbls b ps (by rw [hid_out (out e (fun z => z))]; exact e)
      exact ⟨m, by rw [back_out (out e (fun z => z))]; exact q⟩⟩
/-- hidden objects stand in h1 as they stood; new ones are none of them -/
theorem hok_back (x : HOk P w H h) (hl : Lt H F) (k : ∀ b o, b ∈ F → h.get? b = some o → h1.get? b = some o) (hf : ∀ b ∈ F, H1 b = none) (y : HOk P w H1 h1) : HOk P w (back H H1 F) h1 := fun a o e => by
  by_cases m : a ∈ F
  · rw [back_in m] at e
    obtain ⟨o', h1', h2⟩ := hl.l a m
    rw [e] at h1'; cases h1'
    have z := x a o e
    cases o with
    | lst xs => obtain ⟨q, its, n, r, ho⟩ := z; exact ⟨q, its, n, r, k _ _ m ho⟩
    | dK kvs => obtain ⟨q1, q2, vs, r, ob, es, ep, ho, c⟩ := z; exact ⟨q1, q2, vs, r, ob, es, ep, k _ _ m ho, c⟩
    | set S n => obtain ⟨ob, es, ep, t, ho, c⟩ := z; exact ⟨ob, es, ep, t, k _ _ m ho, c⟩
    | ext φ => obtain ⟨p, ⟨ob, ho⟩, st⟩ := z; exact ⟨st _ _ p fun o q => k _ _ m q, ⟨ob, k _ _ m ho⟩, st⟩
    | ins C dx fs =>
      have md := hl.i a m C dx fs e
      obtain ⟨d, z, ne, e, mA, ⟨od, es, ep, e2, c⟩, r⟩ := z
      exact ⟨by rw [back_in md]; exact d, z, ne, k _ _ m e, mA, ⟨od, es, ep, k _ _ md e2, c⟩, r⟩
    | own y => obtain ⟨ob, ho⟩ := z; exact ⟨ob, k _ _ m ho⟩
    | _ => exact h2.elim
  · rw [back_out m] at e
    refine (y a o e).stay (fun _ _ _ q => q) (fun b q => ?_) fun b xs q => ?_
    · rw [back_out fun mb => ?_, q]
      rw [hf b mb] at q; cases q
    · rw [back_out fun mb => ?_, q]
      rw [hf b mb] at q; cases q
end
section
variable {X : Cx} {pins : List (Addr × Obj)} {σ : L2.St} {H : Hp} {s s' : Shared} {F : List Addr}
/-- a call ran over the heap without F: behind it -/
theorem after_hid {Q : VK} {u : Value} (I : Inv X pins σ H s) (hl : Lt H F) (c : CE X.stack X.prog X.w (hid H F) s Q u s') : EP X pins σ (fun v H2 => ∃ H1, H2 = back H H1 F ∧ (∀ a ∈ F, H1 a = none) ∧ Q v H1) u s' := by
  obtain ⟨v, H1, os, bare, un, hok, r, q⟩ := c
  have fr : ∀ b ∈ F, b ∉ frs X.stack := fun b m z => by
    obtain ⟨o, h1, _⟩ := hl.l b m
    rw [I.stkFree b z] at h1; cases h1
  have thr : ∀ b ∈ F, ∃ o, s.heap.get? b = some o := fun b m => by
    obtain ⟨o, h1, _⟩ := hl.l b m
    exact objOk_get (I.hok b o h1)
  have hf : ∀ a ∈ F, H1 a = none := fun a m => by
    obtain ⟨o, ho⟩ := thr a m
    exact un.free a o ho (hid_in m) (by simp)
  exact I.after ⟨v, back H H1 F, os, bare, un_back I.hok hl un, hok_back I.hok hl (fun b o m e => un.keep b o e (hid_in m) (fr b m) (by simp)) hf hok, r, H1, rfl, hf, q⟩
/-- a call ran over the heap without F and let an exception out -/
theorem raised_hid {E : XK} {u : Value} (I : Inv X pins σ H s) (hl : Lt H F) (c : L2.CX X.prog X.w X.stack (hid H F) s E u s') :
    L2.CX X.prog X.w X.stack H s (fun cls d H2 => ∃ H1, H2 = back H H1 F ∧ (∀ a ∈ F, H1 a = none) ∧ E cls d H1) u s' := by
  obtain ⟨a, B, H1, cls, d, rfl, fl, hok, ub, na, os, ag, hE⟩ := c
  have fr : ∀ b ∈ F, b ∉ frs X.stack := fun b m z => by
    obtain ⟨o, h1, _⟩ := hl.l b m
    rw [I.stkFree b z] at h1; cases h1
  have thr : ∀ b ∈ F, ∃ o, s.heap.get? b = some o := fun b m => by
    obtain ⟨o, h1, _⟩ := hl.l b m
    exact objOk_get (I.hok b o h1)
  have hf : ∀ a ∈ F, H1 a = none := fun a m => by
    obtain ⟨o, ho⟩ := thr a m
    exact ub.free a o ho (hid_in m)
  have kB : ∀ b o, b ∈ F → s.heap.get? b = some o → B.get? b = some o := fun b o m e => ub.keep b o e (hid_in m) (fr b m)
  have out : ∀ {b o}, H b = some o → ¬ Light o → b ∉ F := fun {b o} e n m => by
    obtain ⟨o', h1, h2⟩ := hl.l b m
    rw [e] at h1; cases h1; exact n h2
  have none_ : ∀ {b}, H b = none → hid H F b = none := fun {b} e => by
    unfold hid; split
    · rfl
    · exact e
  have out2 : ∀ {b}, H b = none → b ∉ F := fun {b} e m => by
    obtain ⟨o', h1, h2⟩ := hl.l b m
    rw [e] at h1; cases h1
  have naF : a ∉ F := fun m => by
    obtain ⟨o, ho⟩ := thr a m
    have q := fl.2.1
    rw [kB a o m ho] at q; cases q
  refine ⟨a, B, back H H1 F, cls, d, rfl, fl, hok_back I.hok hl kB hf hok, ⟨fun b o e n hb => ub.keep b o e (none_ n) hb, ub.slot, fun b o e n => by rw [back_out (out2 n)]; exact ub.free b o e (none_ n), ub.there,
    fun b xs e => by rw [back_out (out e (fun z => z))]; exact ub.tups b xs (by rw [hid_out (out e (fun z => z))]; exact e),
    fun b o xs e => by rw [back_out (out e (fun z => z))]; exact ub.frzs b o xs (by rw [hid_out (out e (fun z => z))]; exact e),
    fun b ps e => by
      obtain ⟨m, q⟩ := ub.tbls b ps (by rw [hid_out (out e (fun z => z))]; exact e)
      exact ⟨m, by rw [back_out (out e (fun z => z))]; exact q⟩⟩, by rw [back_out naF]; exact na, os, ag, H1, rfl, hf, hE⟩
theorem env0_hid {A : Around} {P : Program} {w : World} {K : PySem.W.Frag} {mg : Str → Option Value} {base : Heap} {outer : List Env} (e : Env0 P w K mg base A outer s H) (hl : Lt H F) : Env0 P w K mg base A outer s (hid H F) :=
  ⟨e.frames, e.mod, fun b o q => ⟨(e.bs b o q).1, by unfold hid; split <;> first | rfl | exact (e.bs b o q).2⟩, e.bsz, e.funs, fun b q => by unfold hid; split <;> first | rfl | exact e.frf b q, hok_hid e.hok hl, e.bare⟩
end
/-! ### arguments of a call -/
abbrev RR := En → (List Rs → En → Prop) → KX → Prop
/-- an argument: a thing, or what stands in a slot (handed over for the call) -/
def ar (t : RE) : RE := fun env Q EX => t env (fun r e => match r with
  | .fz d => Q (.fz d) e
  | .nw (.ls ds) => Q (.fz (.list ds)) e
  | .br i => Q (.br i) e
  | _ => False) EX
def bN : RR := fun env Q _ => Q [] env
def bC (ta : RE) (tr : RR) : RR := fun env Q EX => ar ta env (fun r e => tr e (fun rs e' => Q (r :: rs) e') EX) EX
def ArR (K : PySem.W.Frag) (Z : Hp) (σ : L2.St) (v : V) (r : Rs) : Prop := match r with
  | .fz d => Dx K Z v d
  | .br i => σ[i]? = some (some v)
  | _ => False
def SB0 (X : Cx) (C : Ct) (es : List Expr) (t : RR) : Prop := ∀ σ H pf env feet Q EX, Wf X.K C pf σ H env feet [] → Tk X C pf EX → t env Q EX → aW X es σ H (fun vs H' => ∃ rs env' feet', Wf X.K C pf σ H' env' feet' [] ∧ Paired (ArR X.K (hid H' (feet'.flatten ++ [])) σ) vs rs ∧ Q rs env')
structure SB (X : Cx) (C : Ct) (es : List Expr) (t : RR) : Prop where
  run : SB0 X C es t
instance {X : Cx} {C : Ct} {es : List Expr} {t : RR} : CoeFun (SB X C es t) fun _ => ∀ σ H pf env feet Q EX, Wf X.K C pf σ H env feet [] → Tk X C pf EX → t env Q EX → aW X es σ H (fun vs H' => ∃ rs env' feet', Wf X.K C pf σ H' env' feet' [] ∧ Paired (ArR X.K (hid H' (feet'.flatten ++ [])) σ) vs rs ∧ Q rs env') := ⟨fun h => h.run⟩
section
variable {X : Cx} {C : Ct} {a : Expr} {es : List Expr} {ta : RE} {tr : RR}
theorem sb_nil : SB X C [] bN := .mk fun σ H pf env feet Q EX W tk q => aW.of pa_nil ⟨[], env, feet, W, .nil, q⟩
theorem ar_ok (h : SE X C a ta) : ∀ σ H pf env feet Q EX, Wf X.K C pf σ H env feet [] → Tk X C pf EX → ar ta env Q EX → eW X a σ H (fun v H' => ∃ r env' feet', Wf X.K C pf σ H' env' feet' [] ∧ ArR X.K (hid H' (feet'.flatten ++ [])) σ v r ∧ Q r env') := fun σ H pf env feet Q EX W tk q =>
  (h σ H pf env feet _ EX W tk q).imp fun v H' ⟨r, e1, f1, f, W1, rr, q1⟩ => by
    cases r with
    | fz d => obtain ⟨rfl, hd⟩ := rr; exact ⟨.fz d, e1, f1, W1, hd, q1⟩
    | nw o =>
      obtain ⟨p, rfl, ho⟩ := rr
      cases o with
      | ls ds =>
        obtain ⟨rfl, vs, hp, hv⟩ := ho
        have nd := W1.nd
        have np : p ∉ f1.flatten ++ [] := fun m => by
          rw [List.append_nil] at m
          exact (List.nodup_append.mp nd).2.2 p m p (by simp) rfl
        have sm : Same (hid H' (f1.flatten ++ [p])) (hid H' (f1.flatten ++ [])) := hid_same fun x o n q => ⟨fun m => n (by
          rw [List.append_nil] at m; exact List.mem_append_left _ m), q⟩
        exact ⟨.fz (.list ds), e1, f1, W1.drop, .lst (.inl (.inl (by rw [hid_out np]; exact hp))) (dxAll_mono sm hv), q1⟩
      | _ => exact False.elim q1
    | br i => obtain ⟨rfl, hσ, _⟩ := rr; exact ⟨.br i, e1, f1, W1, hσ, q1⟩
    | xc c g => exact rr.elim
theorem sb_cons (ha : SE X C a ta) (hr : SB X C es tr) (hs : starEach (a :: es) X.env = (false, eval a X.env) :: starEach es X.env := by rfl) : SB X C (a :: es) (bC ta tr) := .mk fun σ H pf env feet Q EX W tk q => by
  refine aW.of (pa_cons eW.pe aW.pa hs) ?_
  refine (ar_ok ha σ H pf env feet _ EX W tk q).imp fun v H1 ⟨r, e1, f1, W1, h1, q1⟩ => ?_
  cases r with
  | fz d =>
    refine (hr σ H1 ((v, d) :: pf) e1 f1 _ EX (W1.pinned h1) tk.add q1).imp fun vs H2 ⟨rs, e2, f2, W2, h2, q2⟩ => ?_
    exact ⟨.fz d :: rs, e2, f2, W2.unpin fun p hp => List.mem_cons_of_mem _ hp, .cons (W2.pin (v, d) (by simp)) h2, q2⟩
  | br i =>
    refine (hr σ H1 pf e1 f1 _ EX W1 tk q1).imp fun vs H2 ⟨rs, e2, f2, W2, h2, q2⟩ => ?_
    exact ⟨.br i :: rs, e2, f2, W2, .cons h1 h2, q2⟩
  | nw o => exact h1.elim
  | xc c g => exact h1.elim
end
end L3
end

section
set_option autoImplicit true
set_option Elab.async false
set_option linter.all false
set_option maxRecDepth 100000
set_option maxHeartbeats 1000000
/-! L3 part f: a call's core. -/
namespace L3
open PySem PySem.Spec PyProof.Rows L2
theorem nodup_mk {α : Type} : ∀ {l : List (List α)}, (∀ (i : Nat) (f : List α), l[i]? = some f → f.Nodup) → (∀ (i j : Nat) (f g : List α) (a : α), l[i]? = some f → l[j]? = some g → a ∈ f → a ∈ g → i = j) → l.flatten.Nodup
  | [], _, _ => by simp
  | x :: l, h1, h2 => by
    rw [List.flatten_cons, List.nodup_append]
    refine ⟨h1 0 x (by simp), nodup_mk (fun i f e => h1 (i + 1) f (by simpa using e)) (fun i j f g a e1 e2 m1 m2 => ?_), fun a ha b hb e => ?_⟩
    · have := h2 (i + 1) (j + 1) f g a (by simpa using e1) (by simpa using e2) m1 m2
      omega
    · subst e
      obtain ⟨g, hg, hag⟩ := List.mem_flatten.mp hb
      obtain ⟨j, hj, e2⟩ := List.mem_iff_getElem.mp hg
      have := h2 0 (j + 1) x g a (by simp) (by simp [hj, e2]) ha hag
      omega
theorem nodup_each {α : Type} {l : List (List α)} (n : l.flatten.Nodup) {i : Nat} {f : List α} (h : l[i]? = some f) : f.Nodup := by
  have : f.Sublist l.flatten := List.sublist_flatten_of_mem (List.mem_of_getElem? h)
  exact this.nodup n
def isBr (j : Nat) (r : Rs) : Bool := match r with
  | .br i => i == j
  | _ => false
def posB (rs : List Rs) (j : Nat) : Option Nat := rs.findIdx? (isBr j)
def brs (rs : List Rs) : List Nat := rs.filterMap fun r => match r with
  | .br i => some i
  | _ => none
def mapGo {α : Type} (f : Nat → α → α) : Nat → List α → List α
  | _, [] => []
  | k, x :: l => f k x :: mapGo f (k + 1) l
theorem mapGo_at {α : Type} (f : Nat → α → α) : ∀ (l : List α) (k i : Nat), (mapGo f k l)[i]? = (l[i]?).map (f (k + i))
  | [], k, i => by simp [mapGo]
  | x :: l, k, 0 => by simp [mapGo]
  | x :: l, k, i + 1 => by
    unfold mapGo
    rw [List.getElem?_cons_succ, List.getElem?_cons_succ, mapGo_at f l (k + 1) i, show k + 1 + i = k + (i + 1) by omega]
theorem mapGo_idx {α : Type} (f : Nat → α → α) (l : List α) : mapGo f 0 l = l.mapIdx f := List.ext_getElem? fun i => by
  rw [mapGo_at, List.getElem?_mapIdx, Nat.zero_add]
def updOne (rs : List Rs) (sls : List Sl) (j : Nat) (s : Sl) : Sl := match posB rs j with
  | some t => sls.getD t .un
  | none => s
def updEnv (rs : List Rs) (sls : List Sl) (env : En) : En := mapGo (updOne rs sls) 0 env
theorem updEnv_def (rs : List Rs) (sls : List Sl) (env : En) : updEnv rs sls env = env.mapIdx fun j s => match posB rs j with
  | some t => sls.getD t .un
  | none => s := mapGo_idx _ _
def updFt (rs : List Rs) (fA : List (List Addr)) (feet : List (List Addr)) : List (List Addr) := feet.mapIdx fun j s => match posB rs j with
  | some t => fA.getD t []
  | none => s
def slOf (env : En) (r : Rs) : Sl := match r with
  | .fz d => .fz d
  | .br i => env.getD i .un
  | _ => .un
def ftOf (feet : List (List Addr)) (r : Rs) : List Addr := match r with
  | .br i => feet.getD i []
  | _ => []
theorem posB_some {rs : List Rs} {j t : Nat} (h : posB rs j = some t) : rs[t]? = some (.br j) := by
  unfold posB at h
  obtain ⟨ht, h1, _⟩ := List.findIdx?_eq_some_iff_getElem.mp h
  rw [List.getElem?_eq_getElem ht]
  cases e : rs[t] with
  | br i =>
    rw [e] at h1
    have : i = j := by simpa [isBr] using h1
    rw [this]
  | fz d => rw [e] at h1; cases h1
  | nw o => rw [e] at h1; cases h1
  | xc c g => rw [e] at h1; cases h1
theorem posB_none {rs : List Rs} {j : Nat} (h : posB rs j = none) {t : Nat} : rs[t]? ≠ some (.br j) := fun e => by
  unfold posB at h
  have := List.findIdx?_eq_none_iff.mp h (.br j) (List.mem_of_getElem? e)
  simp [isBr] at this
theorem brs_inj : ∀ {rs : List Rs} {t u i : Nat}, (brs rs).Nodup → rs[t]? = some (.br i) → rs[u]? = some (.br i) → t = u
  | [], t, u, i, _, h, _ => by simp at h
  | r :: rs, 0, 0, i, _, _, _ => rfl
  | r :: rs, 0, u + 1, i, n, h1, h2 => by
    simp at h1; subst h1
    have m : i ∈ brs rs := List.mem_filterMap.mpr ⟨.br i, List.mem_of_getElem? (by simpa using h2), rfl⟩
    have n' : (i :: brs rs).Nodup := n
    exact absurd m (List.nodup_cons.mp n').1
  | r :: rs, t + 1, 0, i, n, h1, h2 => by
    simp at h2; subst h2
    have m : i ∈ brs rs := List.mem_filterMap.mpr ⟨.br i, List.mem_of_getElem? (by simpa using h1), rfl⟩
    have n' : (i :: brs rs).Nodup := n
    exact absurd m (List.nodup_cons.mp n').1
  | r :: rs, t + 1, u + 1, i, n, h1, h2 => by
    have n' : (brs rs).Nodup := by
      cases r with
      | br k =>
        have z : (k :: brs rs).Nodup := n
        exact (List.nodup_cons.mp z).2
      | fz d => exact n
      | nw o => exact n
      | xc c g => exact n
    have z : t = u := brs_inj (rs := rs) (i := i) n' (by simpa using h1) (by simpa using h2)
    rw [z]
theorem OwR.light {K : PySem.W.Frag} {Z H : Hp} {p : Addr} {o : Ow} {f : List Addr} (r : OwR K Z H p o f) : ∀ a ∈ f, ∃ u, H a = some u ∧ Light u := by
  cases o with
  | ls ds =>
    obtain ⟨rfl, vs, h, q⟩ := r
    intro a ha
    rw [List.mem_singleton.mp ha, h]
    exact ⟨_, rfl, trivial⟩
  | pn cs n z =>
    obtain ⟨c, rfl, h1, h2⟩ := r
    intro b hb
    rcases List.mem_cons.mp hb with e | hb
    · rw [e, h1]; exact ⟨_, rfl, trivial⟩
    · rw [List.mem_singleton.mp hb, h2]; exact ⟨_, rfl, trivial⟩
  | dc w kvs =>
    obtain ⟨rfl, xs, h, _⟩ := r
    intro a ha
    rw [List.mem_singleton.mp ha, h]
    exact ⟨_, rfl, trivial⟩
  | dk kvs =>
    obtain ⟨rfl, xs, h, _⟩ := r
    intro a ha
    rw [List.mem_singleton.mp ha, h]
    exact ⟨_, rfl, trivial⟩
  | st _ => exact r.elim
  | hs kept rows held =>
    obtain ⟨dx, q, l, v, xs, vs, rfl, h1, h2, h3, h4, _⟩ := r
    intro a ha
    simp only [List.mem_cons, List.not_mem_nil, or_false] at ha
    rcases ha with rfl | rfl | rfl | rfl
    · exact ⟨_, h1, trivial⟩
    · exact ⟨_, h2, trivial⟩
    · exact ⟨_, h3, trivial⟩
    · exact ⟨_, h4, trivial⟩
  | ni =>
    obtain ⟨dx, rfl, h1, h2⟩ := r
    intro a ha
    simp only [List.mem_cons, List.not_mem_nil, or_false] at ha
    rcases ha with rfl | rfl
    · exact ⟨_, h1, trivial⟩
    · exact ⟨_, h2, trivial⟩
/-- an instance has its dict beside it -/
def Clo (H : Hp) (f : List Addr) : Prop := ∀ a ∈ f, (∀ C dx fs, H a = some (.ins C dx fs) → dx ∈ f) ∧ ∀ x, H a = some (.own x) → x ∈ f
theorem OwR.clo {K : PySem.W.Frag} {Z H : Hp} {p : Addr} {o : Ow} {f : List Addr} (r : OwR K Z H p o f) : Clo H f := by
  cases o with
  | ls ds =>
    obtain ⟨rfl, vs, h, q⟩ := r
    intro a ha
    rw [List.mem_singleton.mp ha]
    exact ⟨fun _ _ _ e => (by rw [h] at e; cases e), fun _ e => (by rw [h] at e; cases e)⟩
  | pn cs n z =>
    obtain ⟨c, rfl, h1, h2⟩ := r
    intro b hb
    rcases List.mem_cons.mp hb with rfl | hb
    · exact ⟨fun _ _ _ e => (by rw [h1] at e; cases e), fun _ e => (by rw [h1] at e; cases e)⟩
    · rw [List.mem_singleton.mp hb]
      exact ⟨fun _ _ _ e => (by rw [h2] at e; cases e), fun _ e => (by rw [h2] at e; cases e)⟩
  | dc w kvs =>
    obtain ⟨rfl, xs, h, _⟩ := r
    intro a ha
    rw [List.mem_singleton.mp ha]
    exact ⟨fun _ _ _ e => (by rw [h] at e; cases e), fun _ e => (by rw [h] at e; cases e)⟩
  | dk kvs =>
    obtain ⟨rfl, xs, h, _⟩ := r
    intro a ha
    rw [List.mem_singleton.mp ha]
    exact ⟨fun _ _ _ e => (by rw [h] at e; cases e), fun _ e => (by rw [h] at e; cases e)⟩
  | st _ => exact r.elim
  | hs kept rows held =>
    obtain ⟨dx, q, l, v, xs, vs, rfl, h1, h2, h3, h4, _⟩ := r
    intro a ha
    simp only [List.mem_cons, List.not_mem_nil, or_false] at ha
    rcases ha with rfl | rfl | rfl | rfl
    · exact ⟨fun _ _ _ e => (by rw [h1] at e; cases e; simp), fun _ e => (by rw [h1] at e; cases e)⟩
    · exact ⟨fun _ _ _ e => (by rw [h2] at e; cases e), fun _ e => (by rw [h2] at e; cases e; simp)⟩
    · exact ⟨fun _ _ _ e => (by rw [h3] at e; cases e), fun _ e => (by rw [h3] at e; cases e)⟩
    · exact ⟨fun _ _ _ e => (by rw [h4] at e; cases e), fun _ e => (by rw [h4] at e; cases e)⟩
  | ni =>
    obtain ⟨dx, rfl, h1, h2⟩ := r
    intro a ha
    simp only [List.mem_cons, List.not_mem_nil, or_false] at ha
    rcases ha with rfl | rfl
    · exact ⟨fun _ _ _ e => (by rw [h1] at e; cases e; simp), fun _ e => (by rw [h1] at e; cases e)⟩
    · exact ⟨fun _ _ _ e => (by rw [h2] at e; cases e), fun _ e => (by rw [h2] at e; cases e; simp)⟩
theorem EnvR.clo {K : PySem.W.Frag} {Z H : Hp} {σ : L2.St} {env : En} {feet : List (List Addr)} (r : EnvR K Z H σ env feet) {i : Nat} {f : List Addr} (e : feet[i]? = some f) : Clo H f := by
  have i0 : i < feet.length := (List.getElem?_eq_some_iff.mp e).1
  have i1 : i < env.length := by rw [← r.l2]; exact i0
  have i2 : i < σ.length := by rw [r.l1]; exact i1
  have q := r.sl i _ _ f (List.getElem?_eq_getElem i2) (List.getElem?_eq_getElem i1) e
  cases hs : env[i] with
  | un => rw [hs] at q; rw [show f = [] from q]; intro a h; cases h
  | fz d => rw [hs] at q; rw [q.1]; intro a h; cases h
  | ow o =>
    rw [hs] at q
    obtain ⟨p, _, z⟩ := q
    exact z.clo
  | xc c g => rw [hs] at q; exact q.elim
theorem EnvR.light {K : PySem.W.Frag} {Z H : Hp} {σ : L2.St} {env : En} {feet : List (List Addr)} (r : EnvR K Z H σ env feet) : ∀ a ∈ feet.flatten, ∃ u, H a = some u ∧ Light u := fun a ha => by
  obtain ⟨f, hf, h⟩ := List.mem_flatten.mp ha
  obtain ⟨i, hi, e⟩ := List.mem_iff_getElem.mp hf
  have i1 : i < env.length := by rw [← r.l2]; exact hi
  have i2 : i < σ.length := by rw [r.l1]; exact i1
  have q := r.sl i _ _ f (List.getElem?_eq_getElem i2) (List.getElem?_eq_getElem i1) (by rw [List.getElem?_eq_getElem hi, e])
  cases hs : env[i] with
  | un => rw [hs] at q; rw [show f = [] from q] at h; cases h
  | fz d => rw [hs] at q; rw [q.1] at h; cases h
  | ow o =>
    rw [hs] at q
    obtain ⟨p, _, z⟩ := q
    exact z.light a h
  | xc c g => rw [hs] at q; exact q.elim
theorem Paired.at_ {α β : Type} {R : α → β → Prop} : ∀ {l : List α} {m : List β} {i : Nat} {x : α} {y : β}, Paired R l m → l[i]? = some x → m[i]? = some y → R x y
  | _, _, i, _, _, .nil, h, _ => by simp at h
  | _, _, 0, _, _, .cons r _, h1, h2 => by simp at h1 h2; subst h1 h2; exact r
  | _, _, i + 1, _, _, .cons _ q, h1, h2 => Paired.at_ q (by simpa using h1) (by simpa using h2)
theorem Paired.mp {α β : Type} {R S : α → β → Prop} (h : ∀ a b, R a b → S a b) : ∀ {l : List α} {m : List β}, Paired R l m → Paired S l m
  | _, _, .nil => .nil
  | _, _, .cons r q => .cons (h _ _ r) (Paired.mp h q)
section
variable {K : PySem.W.Frag} {C : Ct} {pf : List (V × PyData)} {σ : L2.St} {H H1 : Hp} {env : En} {feet fA fA' : List (List Addr)} {f Fh : List Addr} {vs : List V} {rs : List Rs} {sls : List Sl}
/-- the arguments' side of a call -/
structure CallIn (K : PySem.W.Frag) (H : Hp) (feet : List (List Addr)) (rs : List Rs) (vs : List V) (env : En) (fA : List (List Addr)) (Fh : List Addr) : Prop where
  sub : ∀ a ∈ fA.flatten, a ∈ feet.flatten
  hid_ : ∀ a, a ∈ Fh ↔ a ∈ feet.flatten ∧ a ∉ fA.flatten
  nd : (fA.flatten ++ []).Nodup
  rel : EnvR K (hid (hid H Fh) (fA.flatten ++ [])) (hid H Fh) (vs.map some) (rs.map (slOf env)) fA
  light : Lt H Fh
theorem call_in (W : Wf K C pf σ H env feet []) (hp : Paired (ArR K (hid H (feet.flatten ++ [])) σ) vs rs) (hn : (brs rs).Nodup) : CallIn K H feet rs vs env (rs.map (ftOf feet)) (feet.flatten.filter fun a => decide (a ∉ (rs.map (ftOf feet)).flatten)) := by
  have nd0 := W.nd
  rw [List.append_nil] at nd0
  have fin : ∀ {t : Nat} {g : List Addr}, (rs.map (ftOf feet))[t]? = some g → g ≠ [] → ∃ i, rs[t]? = some (.br i) ∧ feet[i]? = some g := fun {t g} e ne => by
    rw [List.getElem?_map] at e
    cases hr : rs[t]? with
    | none => rw [hr] at e; cases e
    | some r =>
      rw [hr] at e
      cases r with
      | br i =>
        have e' : feet.getD i [] = g := by simpa [ftOf] using e
        refine ⟨i, rfl, ?_⟩
        cases hf : feet[i]? with
        | none => rw [List.getD_eq_getElem?_getD, hf] at e'; exact absurd e'.symm ne
        | some q => rw [List.getD_eq_getElem?_getD, hf] at e'; rw [← e']; rfl
      | fz d => exact absurd (by simpa [ftOf] using e : [] = g).symm ne
      | nw d => exact absurd (by simpa [ftOf] using e : [] = g).symm ne
      | xc c d => exact absurd (by simpa [ftOf] using e : [] = g).symm ne
  have sub : ∀ a ∈ (rs.map (ftOf feet)).flatten, a ∈ feet.flatten := fun a ha => by
    obtain ⟨g, hg, hag⟩ := List.mem_flatten.mp ha
    obtain ⟨t, ht, e⟩ := List.mem_iff_getElem.mp hg
    obtain ⟨i, _, h2⟩ := fin (t := t) (g := g) (by rw [List.getElem?_eq_getElem ht, e]) (fun z => by rw [z] at hag; cases hag)
    exact List.mem_flatten.mpr ⟨g, List.mem_of_getElem? h2, hag⟩
  have hidI : ∀ a, a ∈ (feet.flatten.filter fun a => decide (a ∉ (rs.map (ftOf feet)).flatten)) ↔ a ∈ feet.flatten ∧ a ∉ (rs.map (ftOf feet)).flatten := fun a => by
    rw [List.mem_filter]; simp
  have hh : hid (hid H (feet.flatten.filter fun a => decide (a ∉ (rs.map (ftOf feet)).flatten))) ((rs.map (ftOf feet)).flatten ++ []) = hid H (feet.flatten ++ []) := funext fun a => by
    by_cases m : a ∈ feet.flatten
    · rw [hid_in (F := feet.flatten ++ []) (by rw [List.append_nil]; exact m)]
      by_cases m2 : a ∈ (rs.map (ftOf feet)).flatten
      · rw [hid_in (by rw [List.append_nil]; exact m2)]
      · rw [hid_out (by rw [List.append_nil]; exact m2), hid_in ((hidI a).mpr ⟨m, m2⟩)]
    · rw [hid_out (F := feet.flatten ++ []) (by rw [List.append_nil]; exact m), hid_out (by rw [List.append_nil]; exact fun z => m (sub a z)), hid_out (fun z => m ((hidI a).mp z).1)]
  have near : ∀ {a b : Addr}, a ∈ (feet.flatten.filter fun a => decide (a ∉ (rs.map (ftOf feet)).flatten)) → (∀ f : List Addr, ((∀ C dx fs, H a = some (.ins C dx fs) → dx ∈ f) ∧ ∀ x, H a = some (.own x) → x ∈ f) → b ∈ f) → b ∈ (feet.flatten.filter fun a => decide (a ∉ (rs.map (ftOf feet)).flatten)) := fun {a b} ha k => by
    obtain ⟨m1, m2⟩ := (hidI a).mp ha
    obtain ⟨f, hf, haf⟩ := List.mem_flatten.mp m1
    obtain ⟨i, hi, e⟩ := List.mem_iff_getElem.mp hf
    have e1 : feet[i]? = some f := by rw [List.getElem?_eq_getElem hi, e]
    have hb : b ∈ f := k f (W.rel.clo e1 a haf)
    refine (hidI b).mpr ⟨List.mem_flatten.mpr ⟨f, hf, hb⟩, fun z => m2 ?_⟩
    obtain ⟨g, hg, hbg⟩ := List.mem_flatten.mp z
    obtain ⟨t, ht, et⟩ := List.mem_iff_getElem.mp hg
    have et' : (rs.map (ftOf feet))[t]? = some g := by rw [List.getElem?_eq_getElem ht, et]
    obtain ⟨j, _, h2⟩ := fin et' (fun z => by rw [z] at hbg; cases hbg)
    have ij := nodup_foot nd0 e1 h2 hb hbg
    subst ij
    rw [e1] at h2
    cases h2
    exact List.mem_flatten.mpr ⟨f, hg, haf⟩
  refine ⟨sub, hidI, ?_, ⟨by simp [Paired.length hp], by simp, fun t v s g h1 h2 h3 => ?_⟩, ⟨fun a ha => W.rel.light a ((hidI a).mp ha).1, fun a ha C dx fs e => near ha fun f hf => (hf.1 C dx fs e), fun a ha x e => near ha fun f hf => (hf.2 x e)⟩⟩
  · rw [List.append_nil]
    refine nodup_mk (fun t g e => ?_) (fun t u g g' a e1 e2 m1 m2 => ?_)
    · by_cases z : g = []
      · rw [z]; simp
      · obtain ⟨i, _, h2⟩ := fin e z
        exact nodup_each nd0 h2
    · obtain ⟨i, r1, h1⟩ := fin e1 (fun z => by rw [z] at m1; cases m1)
      obtain ⟨j, r2, h2⟩ := fin e2 (fun z => by rw [z] at m2; cases m2)
      have e := nodup_foot nd0 h1 h2 m1 m2
      subst e
      exact brs_inj hn r1 r2
  · rw [hh]
    rw [List.getElem?_map] at h1 h2 h3
    cases hv : vs[t]? with
    | none => rw [hv] at h1; cases h1
    | some x =>
      rw [hv] at h1; cases h1
      cases hr : rs[t]? with
      | none => rw [hr] at h2; cases h2
      | some r =>
        rw [hr] at h2 h3
        cases h2; cases h3
        have ar := Paired.at_ hp hv hr
        cases r with
        | fz d => exact ⟨rfl, x, rfl, ar⟩
        | br i =>
          have hσ : σ[i]? = some (some x) := ar
          have i1 : i < env.length := by rw [← W.rel.l1]; exact (List.getElem?_eq_some_iff.mp hσ).1
          have i3 : i < feet.length := by rw [W.rel.l2]; exact i1
          have q := W.rel.sl i _ _ _ hσ (List.getElem?_eq_getElem i1) (List.getElem?_eq_getElem i3)
          have e1 : slOf env (.br i) = env[i] := by simp [slOf, List.getD_eq_getElem?_getD, List.getElem?_eq_getElem i1]
          have e2 : ftOf feet (.br i) = feet[i] := by simp [ftOf, List.getD_eq_getElem?_getD, List.getElem?_eq_getElem i3]
          rw [e1, e2]
          refine q.mono (fun _ _ z => z) fun a ha => hid_out fun z => ((hidI a).mp z).2 ?_
          refine List.mem_flatten.mpr ⟨feet[i], ?_, ha⟩
          rw [← e2]
          exact List.mem_map.mpr ⟨.br i, List.mem_of_getElem? hr, rfl⟩
        | nw o => exact ar.elim
        | xc c g => exact ar.elim
/-- behind a call -/
theorem call_out (W : Wf K C pf σ H env feet []) (hp : Paired (ArR K (hid H (feet.flatten ++ [])) σ) vs rs) (hn : (brs rs).Nodup) (I : CallIn K H feet rs vs env fA Fh) (efA : fA = rs.map (ftOf feet)) (W1 : Wf K (Cc (hid H Fh) fA) [] (vs.map some) H1 sls fA' f) (hf : ∀ a ∈ Fh, H1 a = none) :
    Wf K C pf σ (back H H1 Fh) (updEnv rs sls env) (updFt rs fA' feet) f ∧ Same (hid H1 (fA'.flatten ++ f)) (hid (back H H1 Fh) ((updFt rs fA' feet).flatten ++ f)) ∧ ∀ a ∈ fA'.flatten ++ f, back H H1 Fh a = H1 a := by
  have nd0 := W.nd
  rw [List.append_nil] at nd0
  have tr1 : ∀ a ∈ fA'.flatten ++ f, H1 a ≠ none := fun a m => by
    rcases List.mem_append.mp m with m | m
    · exact W1.rel.tr a m
    · exact W1.exT a m
  have outA : ∀ a ∈ fA'.flatten ++ f, a ∉ Fh := fun a m z => tr1 a m (hf a z)
  -- the feet of a slot behind the call
  have ft : ∀ {j : Nat} {g : List Addr}, (updFt rs fA' feet)[j]? = some g → (∃ t, rs[t]? = some (.br j) ∧ posB rs j = some t ∧ g = fA'.getD t []) ∨ (posB rs j = none ∧ feet[j]? = some g) := fun {j g} e => by
    unfold updFt at e
    rw [List.getElem?_mapIdx] at e
    cases hj : feet[j]? with
    | none => rw [hj] at e; cases e
    | some q =>
      rw [hj] at e
      have e' : (match posB rs j with | some t => fA'.getD t [] | none => q) = g := by simpa using e
      cases hpz : posB rs j with
      | none => rw [hpz] at e'; exact .inr ⟨rfl, by rw [← e']⟩
      | some t => rw [hpz] at e'; exact .inl ⟨t, posB_some hpz, rfl, e'.symm⟩
  have getA : ∀ {t : Nat} {a : Addr}, a ∈ fA'.getD t [] → fA'[t]? = some (fA'.getD t []) := fun {t a} m => by
    cases h : fA'[t]? with
    | none => rw [List.getD_eq_getElem?_getD, h] at m; cases m
    | some q => rw [List.getD_eq_getElem?_getD, h]; rfl
  have memA : ∀ {t : Nat} {a : Addr}, a ∈ fA'.getD t [] → a ∈ fA'.flatten := fun {t a} m => List.mem_flatten.mpr ⟨_, List.mem_of_getElem? (getA m), m⟩
  have oldFh : ∀ {j : Nat} {g : List Addr} {a : Addr}, posB rs j = none → feet[j]? = some g → a ∈ g → a ∈ Fh := fun {j g a} hpz e m => by
    refine (I.hid_ a).mpr ⟨List.mem_flatten.mpr ⟨g, List.mem_of_getElem? e, m⟩, fun z => ?_⟩
    rw [efA] at z
    obtain ⟨g2, hg2, hag⟩ := List.mem_flatten.mp z
    obtain ⟨r, hr, rfl⟩ := List.mem_map.mp hg2
    obtain ⟨t, ht, et⟩ := List.mem_iff_getElem.mp hr
    cases r with
    | br i =>
      have e2 : feet[i]? = some (feet.getD i []) := by
        cases h : feet[i]? with
        | none =>
          have hag' : a ∈ feet.getD i [] := hag
          rw [List.getD_eq_getElem?_getD, h] at hag'; cases hag'
        | some q => rw [List.getD_eq_getElem?_getD, h]; rfl
      have ij := nodup_foot nd0 e e2 m hag
      subst ij
      exact posB_none hpz (t := t) (by rw [List.getElem?_eq_getElem ht, et])
    | fz d => cases hag
    | nw d => cases hag
    | xc c d => cases hag
  -- where an address of the new feet comes from
  have memN : ∀ {a : Addr}, a ∈ (updFt rs fA' feet).flatten → a ∈ fA'.flatten ∨ a ∈ Fh := fun {a} m => by
    obtain ⟨g, hg, hag⟩ := List.mem_flatten.mp m
    obtain ⟨j, hj, ej⟩ := List.mem_iff_getElem.mp hg
    rcases ft (j := j) (g := g) (by rw [List.getElem?_eq_getElem hj, ej]) with ⟨t, _, _, rfl⟩ | ⟨hpz, h⟩
    · exact .inl (memA hag)
    · exact .inr (oldFh hpz h hag)
  have sm1 : Same (hid H1 (fA'.flatten ++ f)) (hid (back H H1 Fh) ((updFt rs fA' feet).flatten ++ f)) := hid_same fun a o n q => by
    have nF : a ∉ Fh := fun z => by rw [hf a z] at q; cases q
    refine ⟨fun m => ?_, by rw [back_out nF]; exact q⟩
    rcases List.mem_append.mp m with m | m
    · rcases memN m with m | m
      · exact n (List.mem_append_left _ m)
      · exact nF m
    · exact n (List.mem_append_right _ m)
  have bk1 : ∀ a ∈ fA'.flatten ++ f, back H H1 Fh a = H1 a := fun a m => back_out (outA a m)
  -- what stood outside all footprints stands
  have keep : ∀ a o, a ∉ feet.flatten → H a = some o → H1 a = some o := fun a o n q => by
    have nF : a ∉ Fh := fun z => n ((I.hid_ a).mp z).1
    exact W1.fr a o (fun z => n (I.sub a z)) (show hid H Fh a = some o by rw [hid_out nF]; exact q)
  have newA : ∀ a ∈ fA'.flatten ++ f, a ∈ feet.flatten ∨ H a = none := fun a m => by
    rcases W1.nw a m with z | z
    · exact .inl (I.sub a z)
    · have z' : hid H Fh a = none := z
      rw [hid_out (outA a m)] at z'
      exact .inr z'
  have sm0 : Same (hid H (feet.flatten ++ [])) (hid (back H H1 Fh) ((updFt rs fA' feet).flatten ++ f)) := hid_same fun a o n q => by
    rw [List.append_nil] at n
    have nF : a ∉ Fh := fun z => n ((I.hid_ a).mp z).1
    have nA : a ∉ fA'.flatten ++ f := fun m => by
      rcases newA a m with z | z
      · exact n z
      · rw [z] at q; cases q
    refine ⟨fun m => ?_, by rw [back_out nF]; exact keep a o n q⟩
    rcases List.mem_append.mp m with m | m
    · rcases memN m with m | m
      · exact nA (List.mem_append_left _ m)
      · exact nF m
    · exact nA (List.mem_append_right _ m)
  have nd1 := List.nodup_append.mp W1.nd
  refine ⟨⟨?_, ⟨?_, ?_, fun j v s g h1 h2 h3 => ?_⟩, fun p hpp => dx_mono sm0 (W.pin p hpp), fun a m => ?_, fun a o n q => ?_, fun a m => ?_, W.pr⟩, sm1, bk1⟩
  · refine List.nodup_append.mpr ⟨nodup_mk (fun j g e => ?_) (fun i j g g' a e1 e2 m1 m2 => ?_), nd1.2.1, fun a ha b hb e => ?_⟩
    · rcases ft e with ⟨t, _, _, rfl⟩ | ⟨_, h⟩
      · by_cases z : fA'.getD t [] = []
        · rw [z]; simp
        · obtain ⟨a, ha⟩ := List.exists_mem_of_ne_nil _ z
          exact nodup_each nd1.1 (getA ha)
      · exact nodup_each nd0 h
    · rcases ft e1 with ⟨t, r1, _, rfl⟩ | ⟨p1, h1⟩
      · rcases ft e2 with ⟨u, r2, _, rfl⟩ | ⟨p2, h2⟩
        · have e := nodup_foot nd1.1 (getA m1) (getA m2) m1 m2
          subst e
          rw [r1] at r2
          cases r2; rfl
        · exact absurd (oldFh p2 h2 m2) (outA a (List.mem_append_left _ (memA m1)))
      · rcases ft e2 with ⟨u, r2, _, rfl⟩ | ⟨p2, h2⟩
        · exact absurd (oldFh p1 h1 m1) (outA a (List.mem_append_left _ (memA m2)))
        · exact nodup_foot nd0 h1 h2 m1 m2
    · subst e
      rcases memN ha with m | m
      · exact nd1.2.2 a m a hb rfl
      · exact outA a (List.mem_append_right _ hb) m
  · rw [updEnv_def, List.length_mapIdx]; exact W.rel.l1
  · rw [updEnv_def]; unfold updFt; rw [List.length_mapIdx, List.length_mapIdx]; exact W.rel.l2
  · have i1 : j < env.length := by
      rw [← W.rel.l1]; exact (List.getElem?_eq_some_iff.mp h1).1
    have i3 : j < feet.length := by rw [W.rel.l2]; exact i1
    have h2' : (match posB rs j with | some t => sls.getD t .un | none => env[j]) = s := by
      rw [updEnv_def] at h2
      rw [List.getElem?_mapIdx, List.getElem?_eq_getElem i1] at h2
      simpa using h2
    rcases ft h3 with ⟨t, rt, hpz, rfl⟩ | ⟨hpz, hg⟩
    · rw [hpz] at h2'
      have h2 : sls.getD t .un = s := h2'
      -- the argument's place
      have tv : t < vs.length := by
        rw [Paired.length hp]; exact (List.getElem?_eq_some_iff.mp rt).1
      have ar := Paired.at_ hp (List.getElem?_eq_getElem tv) rt
      have hσ : σ[j]? = some (some vs[t]) := ar
      rw [h1] at hσ
      cases hσ
      have l1 : sls.length = vs.length := by have := W1.rel.l1; simpa using this.symm
      have t1 : t < sls.length := by omega
      have t3 : t < fA'.length := by rw [W1.rel.l2]; exact t1
      have q := W1.rel.sl t (some vs[t]) sls[t] fA'[t] (by simp [tv]) (List.getElem?_eq_getElem t1) (List.getElem?_eq_getElem t3)
      have e2 : sls.getD t .un = sls[t] := by simp [List.getD_eq_getElem?_getD, List.getElem?_eq_getElem t1]
      have e3 : fA'.getD t [] = fA'[t] := by simp [List.getD_eq_getElem?_getD, List.getElem?_eq_getElem t3]
      rw [← h2, e2, e3]
      exact q.mono sm1 fun a ha => bk1 a (List.mem_append_left _ (List.mem_flatten.mpr ⟨_, List.mem_of_getElem? (List.getElem?_eq_getElem t3), ha⟩))
    · rw [hpz] at h2'
      have h2 : env[j] = s := h2'
      have q := W.rel.sl j v _ g h1 (List.getElem?_eq_getElem i1) hg
      rw [← h2]
      exact q.mono sm0 fun a ha => back_in (oldFh hpz hg ha)
  · rw [bk1 a (List.mem_append_right _ m)]
    exact W1.exT a m
  · have q' := W.fr a o n q
    have nf : a ∉ feet.flatten := fun z => by
      rcases W.nw a (by rw [List.append_nil]; exact z) with z | z
      · exact n z
      · rw [z] at q; cases q
    rw [back_out fun z => nf ((I.hid_ a).mp z).1]
    exact keep a o nf q'
  · have old : a ∈ feet.flatten → a ∈ C.F0 ∨ C.H0 a = none := fun z => W.nw a (by rw [List.append_nil]; exact z)
    have fresh : H a = none → a ∈ C.F0 ∨ C.H0 a = none := fun z => by
      by_cases m : a ∈ C.F0
      · exact .inl m
      · cases e : C.H0 a with
        | none => exact .inr rfl
        | some o => rw [W.fr a o m e] at z; cases z
    have new : a ∈ fA'.flatten ++ f → a ∈ C.F0 ∨ C.H0 a = none := fun m => (newA a m).elim old fresh
    rcases List.mem_append.mp m with m | m
    · rcases memN m with m | m
      · exact new (List.mem_append_left _ m)
      · exact old ((I.hid_ a).mp m).1
    · exact new (List.mem_append_right _ m)
end
end L3
end

section
set_option autoImplicit true
set_option Elab.async false
set_option linter.all false
set_option maxRecDepth 100000
set_option maxHeartbeats 1000000
/-! L3 part g: the call's rule, the def's rule. -/
namespace L3
open PySem PySem.Spec PyProof.Rows L2
def cRes (rs : List Rs) (r : Rs) (env : En) (Q : Rs → En → Prop) : Prop := match r with
  | .br t => (match rs[t]? with
    | some (.br i) => Q (.br i) env
    | _ => False)
  | r => Q r env
def eCall (n : Nat) (m : M3) (tr : RR) : RE := fun env Q EX => tr env (fun rs e => rs.length = n ∧ (brs rs).Nodup ∧ m (rs.map (slOf e)) (fun r sls => cRes rs r (updEnv rs sls e) Q) (fun er sls => EX er (updEnv rs sls e))) EX
theorem ErR.mono {K : PySem.W.Frag} {Z Z' : Hp} {cls : Value} {d : Option Addr} {er : Er} (h : ErR K Z cls d er) (e : Same Z Z') : ErR K Z' cls d er := by
  obtain ⟨c, g⟩ := er
  obtain ⟨h1, h2⟩ := h
  refine ⟨h1, ?_⟩
  cases g with
  | none => exact h2
  | some y =>
    obtain ⟨nm, y⟩ := y
    obtain ⟨dd, v, q1, q2, q3⟩ := h2
    exact ⟨dd, v, q1, e _ _ q2, dx_mono e q3⟩
section
variable {X : Cx} {C : Ct} {a : Expr} {es : List Expr} {tr : RR} {k : Nat} {f : Addr} {fd : FuncData} {ps : List Str} {m : M3} {x : Str} {p pos : Pos}
theorem call_go (G : GOk X.prog X.w X.K X.mg X.base k f fd ps m) (hr : Room k X.A) (hgd : X.A.guards = some []) (hb : Binds X.K fd ps []) {σ : L2.St} {H1 : Hp} {pf : List (V × PyData)} {e1 : En} {f1 : List (List Addr)} {Q : Rs → En → Prop} {EX : KX} {pins : List (Addr × Obj)} {s1 : Shared} {us : List Value} {vs : List V} {rs : List Rs}
    (I1 : Inv X pins σ H1 s1) (r : Vals vs us) (W1 : Wf X.K C pf σ H1 e1 f1 []) (tk : Tk X C pf EX) (hp : Paired (ArR X.K (hid H1 (f1.flatten ++ [])) σ) vs rs) (hln : rs.length = ps.length) (hn : (brs rs).Nodup) (q1 : m (rs.map (slOf e1)) (fun r sls => cRes rs r (updEnv rs sls e1) Q) (fun er sls => EX er (updEnv rs sls e1))) :
    wpAny (model X.prog X.w) X.A (call (.ref f) us) (EP X pins σ (Po X.K C pf σ Q)) X.xe s1 := by
  have CI := call_in W1 hp hn
  generalize hfA : rs.map (ftOf f1) = fA at CI
  generalize hFh : (f1.flatten.filter fun a => decide (a ∉ fA.flatten)) = Fh at CI
  have hvl : vs.length = ps.length := by rw [Paired.length hp]; exact hln
  have hul : (us ++ []).length = ps.length := by rw [List.append_nil, ← r.length]; exact hvl
  have b := hb s1 us I1.kIn hul
  rw [List.append_nil] at b
  refine wpAny_call (codeAny_mono (G.run X.A X.stack s1 (hid H1 Fh) ⟨us, []⟩ us vs _ _ hr hgd (env0_hid I1.env0 CI.light) b r ⟨rs.map (slOf e1), fA, _, _, hvl, CI.rel, CI.nd, q1, fun v H' z => z, fun cls d H' z => z⟩) fun r s' hq => ?_)
  cases r with
  | error e =>
    refine tk.1 e s' (XE.of_call I1 (fun cls d H' hc => ?_) (raised_hid I1 CI.light hq))
    obtain ⟨H2, rfl, hf, sls', feet', er, W2, hE, q2⟩ := hc
    obtain ⟨W3, sm, _⟩ := call_out W1 hp hn CI hfA.symm W2 hf
    exact ⟨_, _, er, W3.unpin tk.2, hE.mono sm, q2⟩
  | ok fl =>
    cases fl with
    | next => exact False.elim hq
    | brk => exact False.elim hq
    | cont => exact False.elim hq
    | ret u =>
      obtain ⟨v, H3, I3, rv, H2, rfl, hf, r, sls', feet', f, W2, hR, q2⟩ := after_hid I1 CI.light hq
      obtain ⟨W3, sm, bk⟩ := call_out W1 hp hn CI hfA.symm W2 hf
      refine ⟨v, _, I3, rv, ?_⟩
      cases r with
      | fz d =>
        obtain ⟨rfl, hd⟩ := hR
        exact ⟨.fz d, _, _, [], W3, ⟨rfl, dx_mono sm hd⟩, q2⟩
      | nw o =>
        obtain ⟨p, rfl, ho⟩ := hR
        exact ⟨.nw o, _, _, f, W3, ⟨p, rfl, ho.mono sm fun a ha => bk a (List.mem_append_right _ ha)⟩, q2⟩
      | br t =>
        obtain ⟨rfl, hσ, o, ho⟩ := hR
        have q3 : (match rs[t]? with
          | some (.br i) => Q (.br i) (updEnv rs sls' e1)
          | _ => False) := q2
        cases hrt : rs[t]? with
        | none => rw [hrt] at q3; exact q3.elim
        | some rr =>
          rw [hrt] at q3
          cases rr with
          | br i =>
            have hvt : vs[t]? = some v := by
              rw [List.getElem?_map] at hσ
              cases hv : vs[t]? with
              | none => rw [hv] at hσ; cases hσ
              | some y => rw [hv] at hσ; simpa using hσ
            have har0 := Paired.at_ hp hvt hrt
            have har : σ[i]? = some (some v) := har0
            have i1 : i < e1.length := by rw [← W1.rel.l1]; exact (List.getElem?_eq_some_iff.mp har).1
            have hpz : posB rs i = some t := by
              cases hz : posB rs i with
              | none => exact absurd hrt (posB_none hz)
              | some t' =>
                have := brs_inj hn hrt (posB_some hz)
                rw [this]
            have hen : (updEnv rs sls' e1)[i]? = some (.ow o) := by
              rw [updEnv_def]
              rw [List.getElem?_mapIdx, List.getElem?_eq_getElem i1]
              simp only [Option.map_some, hpz, List.getD_eq_getElem?_getD, ho]
              rfl
            exact ⟨.br i, _, _, [], W3, ⟨rfl, har, o, hen⟩, q3⟩
          | fz d => exact q3.elim
          | nw o => exact q3.elim
          | xc c g => exact q3.elim
      | xc c g => exact hR.elim
theorem se_call {n : Nat} (G : GOk X.prog X.w X.K X.mg X.base k f fd ps m) (hr : Room k X.A) (hgd : X.A.guards = some []) (hg : Gl X x) (hm : X.mg x = some (.ref f)) (hk : PySem.W.keepIn X.K (.ref f) = true) (hb : Binds X.K fd ps []) (ha : SB X C (a :: es) tr) (hln0 : ps.length = n := by rfl)
    (hdb : (x == ("__debug__" : Str)) = false := by decide) (he : starEach (a :: es) X.env = (false, eval a X.env) :: starEach es X.env := by rfl) (hpl : (backTo pos (starEach es X.env)).any (·.1) = false := by rfl) : SE X C (.Call (.Name x p) (a :: es) [] pos) (eCall n m tr) := .mk fun σ H pf env feet Q EX W tk q pins s I => by
  subst hln0
  refine wpAny_Call_Name_kw (ld_glob I hg hm ?_ hdb)
  refine PySem.W.callWith_K (h₀ := X.base) I.ok.mod.kin hk (thn (ha σ H pf env feet _ EX W tk q pos pins s I) fun us s1 ⟨vs, H1, I1, r, rs, e1, f1, W1, hp, hln, hn, q1⟩ => ⟨I1.kIn, ?_⟩) he hpl
  exact call_go G hr hgd hb I1 r W1 tk hp hln hn q1
theorem se_call0 (G : GOk X.prog X.w X.K X.mg X.base k f fd [] m) (hr : Room k X.A) (hgd : X.A.guards = some []) (hg : Gl X x) (hm : X.mg x = some (.ref f)) (hk : PySem.W.keepIn X.K (.ref f) = true) (hb : Binds X.K fd [] [])
    (hdb : (x == ("__debug__" : Str)) = false := by decide) : SE X C (.Call (.Name x p) [] [] pos) (eCall 0 m bN) := .mk fun σ H pf env feet Q EX W tk q pins s I => by
  obtain ⟨hln, hn, q1⟩ := q
  refine wpAny_Call_Name_kw (ld_glob I hg hm ?_ hdb)
  exact PySem.W.callWith_K0 I.kIn hk (call_go (us := []) (vs := []) (rs := []) G hr hgd hb I .nil W tk .nil hln hn q1)
end
/-! ### a def -/
def outS (BR : List Nat) (n : Nat) (env : En) : List Sl := (List.range n).map fun i => if i ∈ BR then env.getD i .un else .un
def outF (BR : List Nat) (n : Nat) (feet : List (List Addr)) : List (List Addr) := (List.range n).map fun i => if i ∈ BR then feet.getD i [] else []
def rFin (BR : List Nat) (n : Nat) (Q : Rs → List Sl → Prop) : Rs → En → Prop := fun r env => match r with
  | .br j => if j ∈ BR ∧ j < n then Q (.br j) (outS BR n env) else (match env[j]? with
    | some (.ow o) => Q (.nw o) (outS BR n env)
    | _ => False)
  | r => Q r (outS BR n env)
/-- a def by its body: n parameters, l further names -/
def mBody (BR : List Nat) (n l : Nat) (t : RS) : M3 := fun sls Q E => t { nx := fun env => Q (.fz .none) (outS BR n env), rt := rFin BR n Q, bk := fun _ => False, ct := fun _ => False, ex := fun er env => E er (outS BR n env) } (sls ++ List.replicate l .un)
section
variable {K : PySem.W.Frag} {H H' : Hp} {feet0 feet : List (List Addr)} {vs : List V} {BR : List Nat} {σ0 σ : L2.St} {pf : List (V × PyData)} {env : En} {ex ex' : List Addr}
theorem exit_wf (W : Wf K ⟨H, feet0.flatten, σ0, BR, []⟩ pf σ H' env feet ex) (h0 : ∀ i, i < vs.length → σ0[i]? = (vs.map some)[i]?) (hn : ex'.Nodup) (hs : ∀ a ∈ ex', a ∈ feet.flatten ++ ex) (hd : ∀ a ∈ ex', a ∉ (outF BR vs.length feet).flatten) :
    Wf K (Cc H feet0) [] (vs.map some) H' (outS BR vs.length env) (outF BR vs.length feet) ex' ∧ Same (hid H' (feet.flatten ++ ex)) (hid H' ((outF BR vs.length feet).flatten ++ ex')) := by
  have nd0 := List.nodup_append.mp W.nd
  have ft : ∀ {i : Nat} {g : List Addr}, (outF BR vs.length feet)[i]? = some g → i < vs.length ∧ ((i ∈ BR ∧ g = feet.getD i []) ∨ g = []) := fun {i g} e => by
    unfold outF at e
    rw [List.getElem?_map] at e
    by_cases hi : i < vs.length
    · rw [List.getElem?_range hi] at e
      have e' : (if i ∈ BR then feet.getD i [] else []) = g := by simpa using e
      refine ⟨hi, ?_⟩
      by_cases hb : i ∈ BR
      · rw [if_pos hb] at e'; exact .inl ⟨hb, e'.symm⟩
      · rw [if_neg hb] at e'; exact .inr e'.symm
    · rw [List.getElem?_eq_none (by simpa using hi)] at e; cases e
  have getF : ∀ {t : Nat} {a : Addr}, a ∈ feet.getD t [] → feet[t]? = some (feet.getD t []) := fun {t a} m => by
    cases h : feet[t]? with
    | none => rw [List.getD_eq_getElem?_getD, h] at m; cases m
    | some q => rw [List.getD_eq_getElem?_getD, h]; rfl
  have sub : ∀ a ∈ (outF BR vs.length feet).flatten, a ∈ feet.flatten := fun a m => by
    obtain ⟨g, hg, hag⟩ := List.mem_flatten.mp m
    obtain ⟨j, hj, ej⟩ := List.mem_iff_getElem.mp hg
    rcases (ft (i := j) (g := g) (by rw [List.getElem?_eq_getElem hj, ej])).2 with ⟨_, rfl⟩ | rfl
    · exact List.mem_flatten.mpr ⟨_, List.mem_of_getElem? (getF hag), hag⟩
    · cases hag
  have sm : Same (hid H' (feet.flatten ++ ex)) (hid H' ((outF BR vs.length feet).flatten ++ ex')) := hid_same fun a o n q => ⟨fun m => n (by
    rcases List.mem_append.mp m with m | m
    · exact List.mem_append_left _ (sub a m)
    · exact hs a m), q⟩
  refine ⟨⟨?_, ⟨by simp [outS], by simp [outS, outF], fun i v s g h1 h2 h3 => ?_⟩, fun p hp => (by cases hp), fun a m => ?_, fun a o n q => W.fr a o n q, fun a m => ?_, fun i hi => (by cases hi)⟩, sm⟩
  · refine List.nodup_append.mpr ⟨nodup_mk (fun i g e => ?_) (fun i j g g' a e1 e2 m1 m2 => ?_), hn, fun a ha b hb e => hd b hb (by rw [← e]; exact ha)⟩
    · rcases (ft e).2 with ⟨_, rfl⟩ | rfl
      · by_cases z : feet.getD i [] = []
        · rw [z]; simp
        · obtain ⟨a, ha⟩ := List.exists_mem_of_ne_nil _ z
          exact nodup_each nd0.1 (getF ha)
      · simp
    · rcases (ft e1).2 with ⟨_, rfl⟩ | rfl
      · rcases (ft e2).2 with ⟨_, rfl⟩ | rfl
        · exact nodup_foot nd0.1 (getF m1) (getF m2) m1 m2
        · cases m2
      · cases m1
  · obtain ⟨hi, hg⟩ := ft h3
    unfold outS at h2
    rw [List.getElem?_map, List.getElem?_range hi] at h2
    have h2' : (if i ∈ BR then env.getD i .un else .un) = s := by simpa using h2
    by_cases hb : i ∈ BR
    · rw [if_pos hb] at h2'
      have hσ : σ[i]? = some v := by
        have := W.pr i hb
        rw [this]
        show σ0[i]? = some v
        rw [h0 i hi]
        exact h1
      have i1 : i < env.length := by rw [← W.rel.l1]; exact (List.getElem?_eq_some_iff.mp hσ).1
      have i3 : i < feet.length := by rw [W.rel.l2]; exact i1
      have q := W.rel.sl i v env[i] feet[i] hσ (List.getElem?_eq_getElem i1) (List.getElem?_eq_getElem i3)
      have e2 : env.getD i .un = env[i] := by simp [List.getD_eq_getElem?_getD, List.getElem?_eq_getElem i1]
      have e3 : g = feet[i] := by
        have e4 : (outF BR vs.length feet)[i]? = some (feet.getD i []) := by
          unfold outF
          rw [List.getElem?_map, List.getElem?_range hi]
          simp [hb]
        rw [h3] at e4
        rw [Option.some.inj e4]
        simp [List.getD_eq_getElem?_getD, List.getElem?_eq_getElem i3]
      rw [← h2', e2, e3]
      exact q.mono sm fun _ _ => rfl
    · rw [if_neg hb] at h2'
      rw [← h2']
      show g = []
      rcases hg with ⟨z, _⟩ | z
      · exact absurd z hb
      · exact z
  · rcases List.mem_append.mp (hs a m) with z | z
    · exact W.rel.tr a z
    · exact W.exT a z
  · refine W.nw a ?_
    rcases List.mem_append.mp m with m | m
    · exact List.mem_append_left _ (sub a m)
    · exact hs a m
end
section
variable {P : Program} {w : World} {K : PySem.W.Frag} {mg : Str → Option Value} {base : Heap} {k : Nat} {f : Addr} {fd : FuncData} {N ps : List Str} {x qual : Str} {params : Arguments} {body : List Stmt} {scope : Scope}
/-- THE RULE of a def -/
theorem fn3 (F : FunD K x qual params body scope [] [] f fd) (S : FnScope N ps scope) (BR : List Nat) (t : RS)
    (h : ∀ (cdv : Value) (A : Around) (outer : List Env) (s : Shared) (H : Hp) (E : XK) (H0 : Hp) (F0 : List Addr) (σ0 : L2.St), Room k (A.deeper (envOfC qual scope s.heap.objs.size f cdv)) → A.guards = some [] →
      PassesOwn (model P w) (A.deeper (envOfC qual scope s.heap.objs.size f cdv)) (envOfC qual scope s.heap.objs.size f cdv) (cxOf (L2.CX P w) P w K mg base N qual scope f cdv A outer s H E).xe →
      SSs (cxOf (L2.CX P w) P w K mg base N qual scope f cdv A outer s H E) ⟨H0, F0, σ0, BR, []⟩ body t) : GOk P w K mg base (k + 1) f fd ps (mBody BR ps.length (N.length - ps.length) t) := by
  obtain ⟨oc, od, dV, kV, doc, pm, an, cdv, ct, osl, rfl, lk, hcd, _, _⟩ := F.ex
  refine ⟨fun A outer s H args us vs Q E hr hgd he hb hv hsp => ?_⟩
  obtain ⟨sls, feet, Q3, E3, hln, hE, hnd, hm, hQ, hX⟩ := hsp
  have inK : K.In s.heap := he.mod.kin.keeps fun b o e => (he.bs b o e).1
  have noLim : s.heap.NoLimit := he.mod.nolimit.keeps fun b o e => (he.bs b o e).1
  have places : ∀ y ∈ ps.zip us, scope.names.lookup y.1 = some .local ∨ (scope.names.lookup y.1 = some .cell ∧ ((cellsFrom (s.heap.objs.size + 1) scope.names []).lookup y.1).isSome = true) := by
    rintro ⟨n, v⟩ hy
    exact (S.par n (List.of_mem_zip hy).1).imp id fun q => ⟨q, PySem.W.cellsFrom_some _ _ _ (.inl q)⟩
  refine codeAny_call_function hr.depth (inK _ _ lk) rfl S.co S.gen rfl (PySem.W.codeRec_of inK hcd) (hb _ _ _ _ (wpAny_newFunctionEnv_cells S.kind places fun env henv s1 ic => ?_))
  subst henv
  refine ⟨noLim.keeps ic.toInCall.keep, codeAny_func ?_⟩
  have I := inv_start (CX := L2.CX P w) (E := E) S hr.hd he hln hv ic
  generalize hX0 : cxOf (L2.CX P w) P w K mg base N qual scope f cdv A outer s H E = X0 at I
  have hpl : ps.length ≤ N.length := by
    have z := congrArg List.length S.pre
    rw [List.length_take] at z
    omega
  have hXK : X0.K = K := by rw [← hX0]; rfl
  have st0 : ∀ i, i < vs.length → (L2.start N vs)[i]? = (vs.map some)[i]? := fun i hi => by
    unfold L2.start
    rw [List.getElem?_append_left (by simpa using hi)]
  have hsl : sls.length = vs.length := by have := hE.l1; simpa using this.symm
  have hft : feet.length = vs.length := by rw [hE.l2, hsl]
  -- the state at the body's start
  have ff : (feet ++ List.replicate (N.length - vs.length) ([] : List Addr)).flatten = feet.flatten := by simp
  have W0 : Wf K ⟨H, feet.flatten, L2.start N vs, BR, []⟩ [] (L2.start N vs) H (sls ++ List.replicate (N.length - ps.length) .un) (feet ++ List.replicate (N.length - vs.length) []) [] := by
    refine ⟨by rw [ff]; exact hnd, ⟨by simp [L2.start, hsl, hln], by simp [hft, hsl, hln], fun i v sl g h1 h2 h3 => ?_⟩, fun p hp => (by cases hp), by simp, fun a o _ q => q, fun a m => ?_, fun i _ => rfl⟩
    · rw [ff]
      by_cases hi : i < vs.length
      · rw [st0 i hi] at h1
        rw [List.getElem?_append_left (by omega)] at h2 h3
        exact hE.sl i v sl g h1 h2 h3
      · rw [List.getElem?_append_right (by omega)] at h2 h3
        have e2 : sl = .un := by
          have := List.mem_of_getElem? h2
          exact (List.mem_replicate.mp this).2
        have e3 : g = [] := by
          have := List.mem_of_getElem? h3
          exact (List.mem_replicate.mp this).2
        rw [e2, e3]
        rfl
    · rw [ff, List.append_nil] at m
      exact .inl m
  have ob : outS BR ps.length = outS BR vs.length := by rw [hln]
  have tk : Tk X0 ⟨H, feet.flatten, L2.start N vs, BR, []⟩ [] (fun er env => E3 er (outS BR ps.length env)) := by
    subst hX0
    refine ⟨?_, fun p hp => hp⟩
    refine Takes.imp (takes_of rfl rfl rfl rfl) fun cls d σ H' ⟨env, ft', er, W1, hE1, q⟩ => ?_
    obtain ⟨W2, sm⟩ := exit_wf (ex' := []) W1 st0 (by simp) (fun a z => by cases z) (fun a z => by cases z)
    exact hX cls d H' ⟨_, _, er, W2, hE1.mono sm, by rw [← ob]; exact q⟩
  have po : PassesOwn (model P w) (A.deeper (envOfC qual scope s.heap.objs.size f cdv)) (envOfC qual scope s.heap.objs.size f cdv) X0.xe := by
    subst hX0
    exact passes_of rfl
  have body1 := h cdv A outer s H E H feet.flatten (L2.start N vs) (hr.deeper _) hgd (by rw [hX0]; exact po)
  rw [hX0] at body1
  have run := body1 (L2.start N vs) H [] _ _ { nx := fun env => Q3 (.fz .none) (outS BR ps.length env), rt := rFin BR ps.length Q3, bk := fun _ => False, ct := fun _ => False, ex := fun er env => E3 er (outS BR ps.length env) } (by rw [hXK]; exact W0) tk hm [] s1 I
  subst hX0
  refine wpAny_mono run (fun fl s' hs => ?_) fun e s' hs => hs
  have fin : ∀ {σ' : L2.St} {H' : Hp} {v : V} {u : Value}, Inv (cxOf (L2.CX P w) P w K mg base N qual scope f cdv A outer s H E) [] σ' H' s' → RelV v u → Q v H' → CE outer P w H s Q u s' :=
    fun {σ' H' v u} J rv q => ⟨v, H', J.os, J.bare, J.base, J.hok, rv, q⟩
  cases fl with
  | brk => obtain ⟨_, _, _, _, _, _, z⟩ := hs; exact z.elim
  | cont => obtain ⟨_, _, _, _, _, _, z⟩ := hs; exact z.elim
  | next =>
    obtain ⟨σ', H', J, env, ft', W1, q⟩ := hs
    obtain ⟨W2, _⟩ := exit_wf (ex' := []) W1 st0 (by simp) (fun a z => by cases z) (fun a z => by cases z)
    refine fin (v := V.non) (u := Value.none) J rfl (hQ _ _ ⟨.fz .none, _, _, [], W2, ⟨rfl, .non⟩, ?_⟩)
    rw [← ob]; exact q
  | ret u =>
    obtain ⟨v, σ0', H', J, rv, σ', r, env, ft', g, W1, hR, q⟩ := hs
    refine fin J rv (hQ _ _ ?_)
    have ndg := List.nodup_append.mp W1.nd
    have disj : ∀ a ∈ g, a ∉ (outF BR vs.length ft').flatten := fun a ha z => by
      obtain ⟨gg, hg, hag⟩ := List.mem_flatten.mp z
      obtain ⟨i, hi, rfl⟩ := List.mem_map.mp hg
      by_cases hb : i ∈ BR
      · rw [if_pos hb] at hag
        have : a ∈ ft'.flatten := by
          cases hq : ft'[i]? with
          | none => rw [List.getD_eq_getElem?_getD, hq] at hag; cases hag
          | some qq =>
            rw [List.getD_eq_getElem?_getD, hq] at hag
            exact List.mem_flatten.mpr ⟨qq, List.mem_of_getElem? hq, hag⟩
        exact ndg.2.2 a this a ha rfl
      · rw [if_neg hb] at hag; cases hag
    cases r with
    | fz d =>
      obtain ⟨rfl, hd⟩ := hR
      obtain ⟨W2, sm⟩ := exit_wf (ex' := []) W1 st0 (by simp) (fun a z => by cases z) (fun a z => by cases z)
      exact ⟨.fz d, _, _, [], W2, ⟨rfl, dx_mono sm hd⟩, by rw [← ob]; exact q⟩
    | nw o =>
      obtain ⟨p, rfl, ho⟩ := hR
      obtain ⟨W2, sm⟩ := exit_wf (ex' := g) W1 st0 ndg.2.1 (fun a z => List.mem_append_right _ z) disj
      exact ⟨.nw o, _, _, g, W2, ⟨p, rfl, ho.mono sm fun _ _ => rfl⟩, by rw [← ob]; exact q⟩
    | br j =>
      obtain ⟨rfl, hσ, o, ho⟩ := hR
      have q' : if j ∈ BR ∧ j < ps.length then Q3 (.br j) (outS BR ps.length env) else (match env[j]? with
        | some (.ow o) => Q3 (.nw o) (outS BR ps.length env)
        | _ => False) := q
      by_cases hj : j ∈ BR ∧ j < ps.length
      · rw [if_pos hj] at q'
        obtain ⟨W2, sm⟩ := exit_wf (ex' := []) W1 st0 (by simp) (fun a z => by cases z) (fun a z => by cases z)
        refine ⟨.br j, _, _, [], W2, ⟨rfl, ?_, o, ?_⟩, by rw [← ob]; exact q'⟩
        · have e1 := W1.pr j hj.1
          rw [hσ] at e1
          rw [← st0 j (by omega)]
          exact e1.symm
        · unfold outS
          rw [List.getElem?_map, List.getElem?_range (by omega)]
          simp [hj.1, List.getD_eq_getElem?_getD, ho]
      · rw [if_neg hj, ho] at q'
        have i1 : j < env.length := (List.getElem?_eq_some_iff.mp ho).1
        have i3 : j < ft'.length := by rw [W1.rel.l2]; exact i1
        obtain ⟨p, e1, hO⟩ := W1.rel.sl j _ _ _ hσ ho (List.getElem?_eq_getElem i3)
        cases e1
        have nd1 := ndg.1
        obtain ⟨W2, sm⟩ := exit_wf (ex' := ft'[j]) W1 st0 (nodup_each nd1 (List.getElem?_eq_getElem i3)) (fun a z => List.mem_append_left _ (List.mem_flatten.mpr ⟨_, List.getElem_mem i3, z⟩)) (fun a ha z => by
          obtain ⟨gg, hg, hag⟩ := List.mem_flatten.mp z
          obtain ⟨i, hi, rfl⟩ := List.mem_map.mp hg
          by_cases hb : i ∈ BR
          · rw [if_pos hb] at hag
            have hq : ft'[i]? = some (ft'.getD i []) := by
              cases hq : ft'[i]? with
              | none => rw [List.getD_eq_getElem?_getD, hq] at hag; cases hag
              | some qq => rw [List.getD_eq_getElem?_getD, hq]; rfl
            have ij := nodup_foot nd1 (List.getElem?_eq_getElem i3) hq ha hag
            subst ij
            exact hj ⟨hb, by rw [← hln]; exact List.mem_range.mp hi⟩
          · rw [if_neg hb] at hag; cases hag)
        exact ⟨.nw o, _, _, _, W2, ⟨p, rfl, hO.mono sm fun _ _ => rfl⟩, by rw [← ob]; exact q'⟩
    | xc c g' => exact hR.elim
end
end L3
end

section
set_option autoImplicit true
set_option Elab.async false
set_option linter.all false
set_option maxRecDepth 100000
set_option maxHeartbeats 1000000
/-! L3 part h: operands looked at without being handed over; lists changed. -/
namespace L3
open PySem PySem.Spec PyProof.Rows L2
/-- a value seen as d: it may be an owned list -/
def Vw (K : PySem.W.Frag) (F : List Addr) (H : Hp) (v : V) (d : PyData) : Prop := Dx K (hid H F) v d ∨ ∃ p vs ds, v = .ref p ∧ d = .list ds ∧ SqL K H p vs ∧ DxAll K (hid H F) vs ds
theorem Vw.dp {K : PySem.W.Frag} {F : List Addr} {H : Hp} {v : V} {d : PyData} (h : Vw K F H v d) : Dx K H v d := by
  rcases h with h | ⟨p, vs, ds, rfl, rfl, h1, h2⟩
  · exact dx_mono hid_le h
  · exact .lst h1 (dxAll_mono hid_le h2)
theorem Vw.lst {K : PySem.W.Frag} {F : List Addr} {H : Hp} {v : V} {ds : List PyData} (h : Vw K F H v (.list ds)) : ∃ p vs, v = .ref p ∧ SqL K H p vs ∧ DxAll K (hid H F) vs ds := by
  rcases h with h | ⟨p, vs, ds, rfl, e, h1, h2⟩
  · cases h with
    | @lst a xs _ h1 h2 => exact ⟨a, xs, rfl, hid_le.seq h1, h2⟩
  · cases e
    exact ⟨p, vs, rfl, h1, h2⟩
theorem Vw.tup {K : PySem.W.Frag} {F : List Addr} {H : Hp} {v : V} {ds : List PyData} (h : Vw K F H v (.tuple ds)) : ∃ p vs, v = .ref p ∧ SqT K H p vs ∧ SqT K (hid H F) p vs ∧ DxAll K (hid H F) vs ds := by
  rcases h with h | ⟨p, vs, ds, rfl, e, h1, h2⟩
  · cases h with
    | @tup a xs _ h1 h2 => exact ⟨a, xs, rfl, seqT_mono hid_le h1, h1, h2⟩
  · cases e
theorem Vw.int {K : PySem.W.Frag} {F : List Addr} {H : Hp} {v : V} {i : Int} (h : Vw K F H v (.int i)) : v = .int i := by cases h.dp; rfl
theorem Vw.bool {K : PySem.W.Frag} {F : List Addr} {H : Hp} {v : V} {i : Bool} (h : Vw K F H v (.bool i)) : v = .bl i := by cases h.dp; rfl
theorem Vw.str {K : PySem.W.Frag} {F : List Addr} {H : Hp} {v : V} {i : Str} (h : Vw K F H v (.str i)) : v = .str i := by cases h.dp; rfl
theorem Vw.non {K : PySem.W.Frag} {F : List Addr} {H : Hp} {v : V} (h : Vw K F H v .none) : v = .non := by cases h.dp; rfl
/-- what a result stands for, in an environment -/
def res (r : Rs) (env : En) : Option PyData := match r with
  | .fz d => some d
  | .br i => (match env[i]? with
    | some (.ow (.ls ds)) => some (.list ds)
    | _ => none)
  | _ => none
section
variable {X : Cx} {C : Ct} {a b e : Expr} {es : List Expr} {t ta tb : RE} {pos : Pos}
theorem res_vw {K : PySem.W.Frag} {pf : List (V × PyData)} {σ : L2.St} {H : Hp} {env : En} {feet : List (List Addr)} {v : V} {r : Rs} {d : PyData} (W : Wf K C pf σ H env feet []) (h : ArR K (hid H (feet.flatten ++ [])) σ v r) (e : res r env = some d) : Vw K (feet.flatten ++ []) H v d := by
  cases r with
  | fz d' => cases e; exact .inl h
  | br i =>
    have h' : σ[i]? = some (some v) := h
    have e' : (match env[i]? with
      | some (.ow (.ls ds)) => some (PyData.list ds)
      | _ => none) = some d := e
    cases he : env[i]? with
    | none => rw [he] at e'; cases e'
    | some sl =>
      rw [he] at e'
      cases sl with
      | ow o =>
        cases o with
        | ls ds =>
          cases e'
          have i1 : i < env.length := (List.getElem?_eq_some_iff.mp he).1
          have i3 : i < feet.length := by rw [W.rel.l2]; exact i1
          obtain ⟨p, e1, hf, vs, hp, hv⟩ := W.rel.sl i _ _ _ h' he (List.getElem?_eq_getElem i3)
          cases e1
          exact .inr ⟨p, vs, ds, rfl, rfl, .inl (.inl hp), hv⟩
        | _ => cases e'
      | _ => cases e'
  | nw o => exact h.elim
  | xc c g => exact h.elim
/-- operations by values, told of what is seen -/
def OpV (K : PySem.W.Frag) (r : R2) (g : PyData → PyData → Option Rs) : Prop := ∀ F H x y d1 d2 rs Q, (∀ a ∈ F, H a ≠ none) → Vw K F H x d1 → Vw K F H y d2 → g d1 d2 = some rs → (∀ v H' f, Same H H' → RsN K F H H' v rs f → Q v H') → r x y H Q
def CallV (K : PySem.W.Frag) (r : List V → Hp → VK → Prop) (g : PyData → Option Rs) : Prop := ∀ F H x d rs Q, (∀ a ∈ F, H a ≠ none) → Vw K F H x d → g d = some rs → (∀ v H' f, Same H H' → RsN K F H H' v rs f → Q v H') → r [x] H Q
def pBin (g : PyData → PyData → Option Rs) (ta tb : RE) : RE := fun env Q EX => ar ta env (fun r e1 => ar tb e1 (fun s e2 => ∃ x y z, res r e2 = some x ∧ res s e2 = some y ∧ g x y = some z ∧ Q z e2) EX) EX
def pOne (g : PyData → Option Rs) (ta : RE) : RE := fun env Q EX => ar ta env (fun r e => ∃ x z, res r e = some x ∧ g x = some z ∧ Q z e) EX
theorem binP_core {r : R2} {g : PyData → PyData → Option Rs} (D : OpV X.K r g) (ha : SE X C a ta) (hb : SE X C b tb) {σ : L2.St} {H : Hp} {pf : List (V × PyData)} {env : En} {feet : List (List Addr)} {Q : Rs → En → Prop} {EX : KX}
    (W : Wf X.K C pf σ H env feet []) (tk : Tk X C pf EX) (q : pBin g ta tb env Q EX) {R : VK} (k : ∀ v H', Po X.K C pf σ Q v H' → R v H') : tOp r (eW X a) (eW X b) σ H R := by
  refine (ar_ok ha σ H pf env feet _ EX W tk q).imp fun x H1 ⟨r1, e1, f1, W1, h1, q1⟩ => ?_
  have fin : ∀ {pf' : List (V × PyData)} {H2 : Hp} {y : V} {s : Rs} {e2 : En} {f2 : List (List Addr)}, (∀ p ∈ pf, p ∈ pf') → Wf X.K C pf' σ H2 e2 f2 [] → ArR X.K (hid H2 (f2.flatten ++ [])) σ x r1 → ArR X.K (hid H2 (f2.flatten ++ [])) σ y s → (∃ x y z, res r1 e2 = some x ∧ res s e2 = some y ∧ g x y = some z ∧ Q z e2) → r x y H2 R := by
    intro pf' H2 y s e2 f2 sub W2 p1 p2 ⟨dx, dy, z, ex, ey, ez, q2⟩
    refine D (f2.flatten ++ []) H2 x y dx dy z _ (fun a m => W2.rel.tr a (by rw [List.append_nil] at m; exact m)) (res_vw W2 p1 ex) (res_vw W2 p2 ey) ez fun v H' f sm hn => ?_
    obtain ⟨W3, h3⟩ := (W2.unpin sub).pure sm hn
    exact k v H' ⟨z, e2, f2, f, W3, h3, q2⟩
  cases r1 with
  | fz d =>
    refine (ar_ok hb σ H1 ((x, d) :: pf) e1 f1 _ EX (W1.pinned h1) tk.add q1).imp fun y H2 ⟨s, e2, f2, W2, h2, q2⟩ => ?_
    exact fin (fun p hp => List.mem_cons_of_mem _ hp) W2 (W2.pin (x, d) (by simp)) h2 q2
  | br i =>
    refine (ar_ok hb σ H1 pf e1 f1 _ EX W1 tk q1).imp fun y H2 ⟨s, e2, f2, W2, h2, q2⟩ => ?_
    exact fin (fun p hp => hp) W2 h1 h2 q2
  | nw o => exact h1.elim
  | xc c g => exact h1.elim
theorem sp_bin {op : Operator} {r : R2} {g : PyData → PyData → Option Rs} (ho : OpR X (binaryOp op) r) (D : OpV X.K r g) (ha : SE X C a ta) (hb : SE X C b tb) : SE X C (.BinOp a op b pos) (pBin g ta tb) :=
  .mk fun σ H pf env feet Q EX W tk q => eW.of (pe_op ho eW.pe eW.pe) (binP_core D ha hb W tk q fun _ _ z => z)
theorem sp_cmp {op : CmpOp} {r : R2} {g : PyData → PyData → Option Rs} (ho : OpR X (compareOp op) r) (D : OpV X.K r g) (ha : SE X C a ta) (hb : SE X C b tb) (hm : behindInMarks op b = false) : SE X C (.Compare a [op] [b] pos) (pBin g ta tb) :=
  .mk fun σ H pf env feet Q EX W tk q => eW.of (pe_cmpR ho eW.pe eW.pe hm) (binP_core D ha hb W tk q fun _ _ z => z)
theorem sp_cmpT {op : CmpOp} {r : R2} {g : PyData → PyData → Option Rs} (ho : OpR X (compareOp op) r) (D : OpV X.K r g) (ha : SE X C a ta) (hb : SE X C b tb) (hm : behindInMarks op b = false) : STs X C (.Compare a [op] [b] pos) (cV (pBin g ta tb)) :=
  .mk fun σ H pf env feet Q EX W tk q => tW.of (pt_cmpR ho eW.pe eW.pe hm) (binP_core D ha hb W tk q fun _ _ z => pv_bool z)
theorem sp_ix {r : R2} {g : PyData → PyData → Option Rs} (ho : IxR X r) (D : OpV X.K r g) (ha : SE X C a ta) (hb : SE X C b tb) (hs : PlainIx b := by exact fun _ _ => rfl) : SE X C (.Subscript a b pos) (pBin g ta tb) :=
  .mk fun σ H pf env feet Q EX W tk q => eW.of (pe_ix ho eW.pe eW.pe hs) (binP_core D ha hb W tk q fun _ _ z => z)
theorem one_core {r : List V → Hp → VK → Prop} {g : PyData → Option Rs} (D : CallV X.K r g) (ha : SE X C a ta) (hs : starEach [a] X.env = (false, eval a X.env) :: starEach [] X.env) {σ : L2.St} {H : Hp} {pf : List (V × PyData)} {env : En} {feet : List (List Addr)} {Q : Rs → En → Prop} {EX : KX}
    (W : Wf X.K C pf σ H env feet []) (tk : Tk X C pf EX) (q : pOne g ta env Q EX) : tCB r (aW X [a]) σ H (Po X.K C pf σ Q) := by
  refine aW.of (pa_cons eW.pe pa_nil hs) ?_
  refine (ar_ok ha σ H pf env feet _ EX W tk q).imp fun x H1 ⟨r1, e1, f1, W1, h1, d, z, ed, ez, q1⟩ => ?_
  refine D (f1.flatten ++ []) H1 x d z _ (fun a m => W1.rel.tr a (by rw [List.append_nil] at m; exact m)) (res_vw W1 h1 ed) ez fun v H' f sm hn => ?_
  obtain ⟨W3, h3⟩ := W1.pure sm hn
  exact ⟨z, e1, f1, f, W3, h3, q1⟩
theorem sp_callB {x : Str} {p : Pos} {id : String} {r : List V → Hp → VK → Prop} {g : PyData → Option Rs} (hc : CallR X (.builtin id) r) (D : CallV X.K r g) (hg : Gl X x) (hm : X.mg x = none) (hv : bootBuiltins x = some (.builtin id)) (ha : SE X C a ta) (hn : x ≠ "__name__" := by decide)
    (hdb : (x == ("__debug__" : Str)) = false := by decide) (he : starEach [a] X.env = (false, eval a X.env) :: starEach [] X.env := by rfl) (hpl : (backTo pos (starEach [] X.env)).any (·.1) = false := by rfl) : SE X C (.Call (.Name x p) [a] [] pos) (pOne g ta) :=
  .mk fun σ H pf env feet Q EX W tk q => eW.of (pe_callB hc hg hm hv aW.pa hn hdb he hpl) (one_core D ha he W tk q)
theorem sp_callTy {x : Str} {p : Pos} {T : String} {r : List V → Hp → VK → Prop} {g : PyData → Option Rs} (hc : CallR X (.type T) r) (D : CallV X.K r g) (hg : Gl X x) (hm : X.mg x = none) (hv : bootBuiltins x = some (.type T)) (ha : SE X C a ta) (hn : x ≠ "__name__" := by decide)
    (hdb : (x == ("__debug__" : Str)) = false := by decide) (he : starEach [a] X.env = (false, eval a X.env) :: starEach [] X.env := by rfl) (hpl : (backTo pos (starEach [] X.env)).any (·.1) = false := by rfl) : SE X C (.Call (.Name x p) [a] [] pos) (pOne g ta) :=
  .mk fun σ H pf env feet Q EX W tk q => eW.of (pe_callTy hc hg hm hv aW.pa hn hdb he hpl) (one_core D ha he W tk q)
/-! ### methods that change an owned list -/
/-- what a method does to the list ds, by arguments as -/
def MtL (K : PySem.W.Frag) (r : V → List V → Hp → VK → Prop) (g : List PyData → List PyData → Option (List PyData × PyData)) : Prop := ∀ F H p vs ds xs as ds' d Q, H p = some (.lst vs) → DxAll K (hid H F) vs ds → DxAll K (hid H F) xs as → g ds as = some (ds', d) →
  (∀ vs' v, DxAll K (hid H F) vs' ds' → Dx K (hid H F) v d → Q v (upd H p (.lst vs'))) → r (.ref p) xs H Q
/-- name.method(arguments) -/
def eMt (g : List PyData → List PyData → Option (List PyData × PyData)) (i : Nat) (t : RA) : RE := fun env Q EX => (∃ ds, env[i]? = some (.ow (.ls ds))) ∧ t env (fun as e => ∃ ds ds' d, e[i]? = some (.ow (.ls ds)) ∧ g ds as = some (ds', d) ∧ Q (.fz d) (e.set i (.ow (.ls ds')))) EX
theorem slot_ls {K : PySem.W.Frag} {pf : List (V × PyData)} {σ : L2.St} {H : Hp} {env : En} {feet : List (List Addr)} {ex : List Addr} {i : Nat} {ds : List PyData} (W : Wf K C pf σ H env feet ex) (h : env[i]? = some (.ow (.ls ds))) :
    ∃ p vs, σ[i]? = some (some (.ref p)) ∧ feet[i]? = some [p] ∧ H p = some (.lst vs) ∧ DxAll K (hid H (feet.flatten ++ ex)) vs ds := by
  have i1 : i < env.length := (List.getElem?_eq_some_iff.mp h).1
  have i2 : i < σ.length := by rw [W.rel.l1]; exact i1
  have i3 : i < feet.length := by rw [W.rel.l2]; exact i1
  obtain ⟨p, e1, hf, vs, hp, hv⟩ := W.rel.sl i _ _ _ (List.getElem?_eq_getElem i2) h (List.getElem?_eq_getElem i3)
  exact ⟨p, vs, by rw [List.getElem?_eq_getElem i2, e1], by rw [List.getElem?_eq_getElem i3, hf], hp, hv⟩
theorem mt_core {r : V → List V → Hp → VK → Prop} {g : List PyData → List PyData → Option (List PyData × PyData)} {tr : RA} (D : MtL X.K r g) {σ : L2.St} {H1 : Hp} {pf : List (V × PyData)} {e1 : En} {f1 : List (List Addr)} {Q : Rs → En → Prop} {i : Nat} {p : Addr} {xs : List V} {as ds ds' : List PyData} {d : PyData}
    (W1 : Wf X.K C pf σ H1 e1 f1 []) (hσ : σ[i]? = some (some (.ref p))) (ha : DxAll X.K (hid H1 (f1.flatten ++ [])) xs as) (he : e1[i]? = some (.ow (.ls ds))) (hg : g ds as = some (ds', d)) (q : Q (.fz d) (e1.set i (.ow (.ls ds')))) : r (.ref p) xs H1 (Po X.K C pf σ Q) := by
  obtain ⟨p', vs, h1, h2, h3, h4⟩ := slot_ls W1 he
  rw [hσ] at h1
  cases h1
  refine D (f1.flatten ++ []) H1 p vs ds xs as ds' d _ h3 h4 ha hg fun vs' v hv' hd => ?_
  have pin : p ∈ f1.flatten ++ [] := List.mem_append_left _ (List.mem_flatten.mpr ⟨_, List.mem_of_getElem? h2, by simp⟩)
  have W2 := W1.turn (H' := upd H1 p (.lst vs')) (o := .ls ds) (o' := .ls ds') hσ h2 (fun a ha => upd_ne (by simpa using ha)) ⟨rfl, vs', upd_same, hv'⟩
  exact ⟨.fz d, _, f1, [], W2, ⟨rfl, by rw [hid_upd_mem pin]; exact hd⟩, q⟩
theorem se_mt {x name : Str} {px apos : Pos} {id : String} {r : V → List V → Hp → VK → Prop} {g : List PyData → List PyData → Option (List PyData × PyData)} {tr : RA} (i : Nat) (slot : Slot "list" name id) (hty : typeOf (.builtin id) = pure (.type "method_descriptor")) (hm : MtR X id r) (D : MtL X.K r g) (ha : SA X C (a :: es) tr)
    (hN : X.N[i]? = some x := by rfl) (hv : Vis X.env.scope x := by first | exact Or.inl rfl | exact Or.inr (Or.inl rfl) | exact Or.inr (Or.inr rfl)) (hd : (x == ("__debug__" : Str)) = false := by decide) (hcd : (x == ("__classdict__" : Str)) = false := by decide)
    (hbase : attributeBase (.Name x px) name X.env (eval (.Name x px) X.env) = eval (.Name x px) X.env := by rfl)
    (hfew : ((backTo pos (starEach (a :: es) X.env)).all (fun x => !x.1) && (backToKw pos (keywordEach [] X.env)).all (fun x => x.1.isSome)
      && decide ((a :: es).length + ([] : List Keyword).length + (if ([] : List Keyword).isEmpty then 0 else 1) < 30)) = true := by rfl)
    (hline : (apos.endLine == pos.line) = true := by rfl) (hs : starEach (a :: es) X.env = (false, eval a X.env) :: starEach es X.env := by rfl) (hplain : (backTo pos (starEach es X.env)).any (·.1) = false := by rfl) :
    SE X C (.Call (.Attribute (.Name x px) name apos) (a :: es) [] pos) (eMt g i tr) := .mk fun σ H pf env feet Q EX W tk q => by
  obtain ⟨⟨ds0, h0⟩, q⟩ := q
  refine eW.of (pe_bm PySem.F.plainAttrs_list slot hty hm (pe_var hN hv hd hcd) aW.pa hbase hfew hline hs hplain) ?_
  obtain ⟨p, vs, h1, h2, h3, h4⟩ := slot_ls W h0
  refine ⟨.ref p, h1, .inl ⟨rfl, vs, .inl (.inl h3)⟩, ?_⟩
  refine (ha σ H pf env feet _ EX W tk q).imp fun xs H1 ⟨as, e1, f1, W1, ha1, ds, ds', d, he, hg, q1⟩ => ?_
  exact mt_core (tr := tr) D W1 h1 ha1 he hg q1
theorem se_mt0 {x name : Str} {px apos : Pos} {id : String} {r : V → List V → Hp → VK → Prop} {g : List PyData → List PyData → Option (List PyData × PyData)} (i : Nat) (slot : Slot "list" name id) (hty : typeOf (.builtin id) = pure (.type "method_descriptor")) (hm : MtR X id r) (D : MtL X.K r g)
    (hN : X.N[i]? = some x := by rfl) (hv : Vis X.env.scope x := by first | exact Or.inl rfl | exact Or.inr (Or.inl rfl) | exact Or.inr (Or.inr rfl)) (hd : (x == ("__debug__" : Str)) = false := by decide) (hcd : (x == ("__classdict__" : Str)) = false := by decide)
    (hbase : attributeBase (.Name x px) name X.env (eval (.Name x px) X.env) = eval (.Name x px) X.env := by rfl) (hline : (apos.endLine == pos.line) = true := by rfl) :
    SE X C (.Call (.Attribute (.Name x px) name apos) [] [] pos) (eMt g i aN) := .mk fun σ H pf env feet Q EX W tk q => by
  obtain ⟨⟨ds0, h0⟩, ds, ds', d, he, hg, q1⟩ := q
  refine eW.of (pe_bm0 PySem.F.plainAttrs_list slot hty hm (pe_var hN hv hd hcd) hbase hline) ?_
  obtain ⟨p, vs, h1, h2, h3, h4⟩ := slot_ls W h0
  exact ⟨.ref p, h1, .inl ⟨rfl, vs, .inl (.inl h3)⟩, mt_core (tr := aN) D W h1 .nil he hg q1⟩
/-! ### name[k] = v -/
def gSubL (i : Nat) (t : RE) : RG := fun d env Q EX => (∃ ds, env[i]? = some (.ow (.ls ds))) ∧ vl t env (fun y e => ∃ ds k j, y = .int k ∧ e[i]? = some (.ow (.ls ds)) ∧ ixN ds.length k = some j ∧ Q (e.set i (.ow (.ls (ds.set j d))))) EX
theorem sg_subL {x : Str} {px : Pos} (i : Nat) (hb : SE X C b tb) (hN : X.N[i]? = some x := by rfl) (hv : Vis X.env.scope x := by first | exact Or.inl rfl | exact Or.inr (Or.inl rfl) | exact Or.inr (Or.inr rfl)) (hd : (x == ("__debug__" : Str)) = false := by decide) (hcd : (x == ("__classdict__" : Str)) = false := by decide)
    (ha : ∀ v, assign (.Subscript (.Name x px) b pos) X.env v = (do
      let ov ← holding [v] (eval (.Name x px) X.env)
      let iv ← holding [v, ov] (eval b X.env)
      standAt pos
      holding [v, ov, iv] (setItem ov iv v)
      release [v, ov, iv] []) := by intro _; rfl) : SG X C (.Subscript (.Name x px) b pos) (gSubL i tb) := .mk fun σ H pf env feet v d Q EX W tk hdv q pins s u I r => by
  obtain ⟨⟨ds0, h0⟩, q⟩ := q
  obtain ⟨p, vs, h1, h2, h3, h4⟩ := slot_ls W h0
  refine (pg_sub (pe_var hN hv hd hcd) eW.pe set_list ha).run pins s σ H v u _ I r ⟨.ref p, h1, ?_⟩
  refine (hb.v σ H ((v, d) :: pf) env feet _ EX (W.pinned hdv) tk.add q).imp fun y H1 ⟨dy, e1, f1, W1, hy, ds, k, j, ey, he, hj, q1⟩ => ?_
  subst ey
  cases hy
  obtain ⟨p', vs', g1, g2, g3, g4⟩ := slot_ls W1 he
  rw [h1] at g1
  cases g1
  refine ⟨p, vs', k, j, rfl, rfl, g3, by rw [g4.lenD]; exact hj, ?_⟩
  have hv1 : Dx X.K (hid H1 (f1.flatten ++ [])) v d := W1.pin (v, d) (by simp)
  have W2 := (W1.unpin (pf' := pf) fun p hp => List.mem_cons_of_mem _ hp).turn (H' := upd H1 p (.lst (vs'.set j v))) (o := .ls ds) (o' := .ls (ds.set j d)) h1 g2 (fun a ha => upd_ne (by simpa using ha)) ⟨rfl, _, upd_same, g4.setN j hv1⟩
  exact ⟨_, f1, W2, q1⟩
end
end L3
end

section
set_option autoImplicit true
set_option Elab.async false
set_option linter.all false
set_option maxRecDepth 100000
set_option maxHeartbeats 1000000
/-! L3 part i: list comprehensions. -/
namespace L3
open PySem PySem.Spec PyProof.Rows L2
/-! ### a tracked list set aside for a while -/
section
variable {X : Cx} {pins : List (Addr × Obj)} {σ : L2.St} {H H1 : Hp} {s s' : Shared} {D : Addr} {vs : List V}
/-- it may be tracked again -/
def Again (X : Cx) (pins : List (Addr × Obj)) (D : Addr) : Prop := (∀ o, X.s_0.heap.get? D = some o → X.H_0 D = none → D ∈ X.ex) ∧ D ≠ X.env.locals ∧ (∀ x c, X.env.cells.lookup x = some c → c ≠ D) ∧ ∀ p ∈ X.pn ++ pins, p.1 ≠ D
theorem Inv.aside (I : Inv X pins σ H s) (hD : H D = some (.lst vs)) : ∃ its n, Vals vs its ∧ vs.length ≤ sizeLine ∧ Inv X ((D, { cls := .type "list", data := .seq its.toArray n }) :: pins) σ (hid H [D]) s ∧ Again X pins D := by
  obtain ⟨hz, its, n, hv, ho⟩ := (show ObjOk X.prog X.w H s.heap D (.lst vs) from I.hok D _ hD)
  have nL : D ≠ X.env.locals := fun e => by rw [e, I.free] at hD; cases hD
  have nP : ∀ p ∈ X.pn ++ pins, p.1 ≠ D := fun p hp e => by
    have := (I.pin p hp).2.1
    rw [e, hD] at this; cases this
  have nC : ∀ x c, X.env.cells.lookup x = some c → c ≠ D := fun x c h e => by
    have := I.freeC x c h
    rw [e, hD] at this; cases this
  have nF : D ∉ X.fs := fun hb => by
    obtain ⟨_, o, ho, _⟩ := I.ok.funs.mem hb
    have := I.base.free D o ho (I.ok.frf D hb) fun z => I.ok.exfs D z hb
    rw [hD] at this; cases this
  have none_ : ∀ {b}, H b = none → hid H [D] b = none := fun {b} e => by
    unfold hid; split
    · rfl
    · exact e
  have keepO : ∀ {b o}, H b = some o → (∀ xs, o ≠ .lst xs) → hid H [D] b = some o := fun {b o} e n => by
    rw [hid_out fun m => ?_]
    · exact e
    · rw [List.mem_singleton.mp m, hD] at e
      cases e
      exact n vs rfl
  refine ⟨its, n, hv, hz, ⟨I.ok, I.os, I.bare, ⟨I.base.keep, I.base.slot, fun b o e n hx => none_ (I.base.free b o e n hx), I.base.there, fun b xs e => keepO (I.base.tups b xs e) (fun xs z => by cases z), fun b o u e => keepO (I.base.frzs b o u e) (fun xs z => by cases z), fun b ps e => ?_⟩, I.loc, I.cell, none_ I.free, fun x c e => none_ (I.freeC x c e), fun p hp => ?_, hok_hid I.hok ⟨fun a ha => ⟨.lst vs, (by rw [List.mem_singleton.mp ha]; exact hD), trivial⟩, fun a ha _ _ _ e => (by rw [List.mem_singleton.mp ha, hD] at e; cases e), fun a ha _ e => (by rw [List.mem_singleton.mp ha, hD] at e; cases e)⟩, I.len⟩, fun o e e0 => ?_, nL, nC, nP⟩
  · obtain ⟨m, q⟩ := I.base.tbls b ps e
    exact ⟨m, keepO q (fun xs z => by cases z)⟩
  · have hp' : p = (D, { cls := .type "list", data := .seq its.toArray n }) ∨ p ∈ X.pn ++ pins := by
      rcases List.mem_append.mp hp with q | q
      · exact .inr (List.mem_append_left _ q)
      · rcases List.mem_cons.mp q with q | q
        · exact .inl q
        · exact .inr (List.mem_append_right _ q)
    rcases hp' with rfl | q
    · exact ⟨ho, hid_in (by simp), nL, nF, fun v z => by cases z⟩
    · obtain ⟨a1, a2, a3, a4, a5⟩ := I.pin p q
      exact ⟨a1, none_ a2, a3, a4, a5⟩
  · by_cases hx : D ∈ X.ex
    · exact hx
    · have := I.base.free D o e e0 hx
      rw [hD] at this; cases this
theorem Inv.again {its : List Value} {n : Nat} (I : Inv X ((D, { cls := .type "list", data := .seq its.toArray n }) :: pins) σ H1 s') (hv : Vals vs its) (hz : vs.length ≤ sizeLine) (a : Again X pins D) : Inv X pins σ (upd H1 D (.lst vs)) s' ∧ H1 D = none := by
  obtain ⟨p1, p2, _, _, _⟩ := I.pin (D, { cls := .type "list", data := .seq its.toArray n }) (List.mem_append_right _ (by simp))
  have p2 : H1 D = none := p2
  have p1 : s'.heap.get? D = some { cls := .type "list", data := .seq its.toArray n } := p1
  obtain ⟨a1, a2, a3, a4⟩ := a
  refine ⟨⟨I.ok, I.os, I.bare, ⟨I.base.keep, I.base.slot, fun b o e n hx => ?_, I.base.there, fun b xs e => ?_, fun b o u e => ?_, fun b ps e => ?_⟩, I.loc, I.cell, ?_, fun x c e => ?_, fun p hp => ?_, ?_, I.len⟩, p2⟩
  · rw [upd_ne fun z => ?_]
    · exact I.base.free b o e n hx
    · rw [z] at e n hx
      exact hx (a1 o e n)
  · have q := I.base.tups b xs e
    rw [upd_ne (ne_of_none q p2)]; exact q
  · have q := I.base.frzs b o u e
    rw [upd_ne (ne_of_none q p2)]; exact q
  · obtain ⟨m, q⟩ := I.base.tbls b ps e
    exact ⟨m, by rw [upd_ne (ne_of_none q p2)]; exact q⟩
  · rw [upd_ne (fun z => a2 z.symm)]; exact I.free
  · rw [upd_ne (a3 x c e)]; exact I.freeC x c e
  · obtain ⟨b1, b2, b3, b4, b5⟩ := I.pin p (by
      rcases List.mem_append.mp hp with q | q
      · exact List.mem_append_left _ q
      · exact List.mem_append_right _ (List.mem_cons_of_mem _ q))
    exact ⟨b1, by rw [upd_ne (a4 p hp)]; exact b2, b3, b4, b5⟩
  · exact I.hok.laidN (fun _ _ q => q) p2 ⟨hz, its, n, hv, p1⟩
end
section
variable {X : Cx} {σ : L2.St} {H : Hp} {D : Addr} {vs : List V} {e : Expr}
theorem upd_hid (hD : H D = some (.lst vs)) : upd (hid H [D]) D (.lst vs) = H := funext fun b => by
  by_cases h : b = D
  · rw [h, upd_same, hD]
  · rw [upd_ne h, hid_out (by simpa using h)]
theorem eW.aside {Q : VK} (hD : H D = some (.lst vs)) (h : eW X e σ (hid H [D]) Q) : eW X e σ H (fun v H2 => ∃ H1, H2 = upd H1 D (.lst vs) ∧ H1 D = none ∧ Q v H1) := fun pins s I => by
  obtain ⟨its, n, hv, hz, J, ag⟩ := Inv.aside I hD
  exact thn (h _ s J) fun u s' ⟨v, H1, J1, r, q⟩ => (fun z => ⟨v, _, z.1, r, H1, rfl, z.2, q⟩) (Inv.again J1 hv hz ag)
theorem tW.aside {Q : Bool → Hp → Prop} (hD : H D = some (.lst vs)) (h : tW X e σ (hid H [D]) Q) : tW X e σ H (fun v H2 => ∃ H1, H2 = upd H1 D (.lst vs) ∧ H1 D = none ∧ Q v H1) := fun pins s I => by
  obtain ⟨its, n, hv, hz, J, ag⟩ := Inv.aside I hD
  exact thn (h _ s J) fun u s' ⟨H1, J1, q⟩ => (fun z => ⟨_, z.1, H1, rfl, z.2, q⟩) (Inv.again J1 hv hz ag)
theorem gW.aside {x : V} {Q : L2.St → Hp → Prop} (hD : H D = some (.lst vs)) (h : gW X e x σ (hid H [D]) Q) : gW X e x σ H (fun σ' H2 => ∃ H1, H2 = upd H1 D (.lst vs) ∧ H1 D = none ∧ Q σ' H1) := fun pins s u I r => by
  obtain ⟨its, n, hv, hz, J, ag⟩ := Inv.aside I hD
  exact thn (h _ s u J r) fun _ s' ⟨σ', H1, J1, q⟩ => (fun z => ⟨σ', _, z.1, H1, rfl, z.2, q⟩) (Inv.again J1 hv hz ag)
end
/-! ### the block's own slots -/
def wipeS {α : Type} (u : α) (l : List α) : List Nat → List α
  | [] => l
  | v :: vs => (wipeS u l vs).set v u
theorem wipeS_len {α : Type} {u : α} {l : List α} : ∀ vs : List Nat, (wipeS u l vs).length = l.length
  | [] => rfl
  | v :: vs => by unfold wipeS; rw [List.length_set, wipeS_len vs]
theorem wipe_eq {σ : L2.St} : ∀ vs : List Nat, wipe σ vs = wipeS none σ vs
  | [] => rfl
  | v :: vs => by unfold wipe wipeS; rw [wipe_eq vs]
theorem wipeS_at {α : Type} {u : α} {l : List α} : ∀ {vs : List Nat} {i : Nat}, (wipeS u l vs)[i]? = if i ∈ vs then (l[i]?).map fun _ => u else l[i]?
  | [], i => by simp [wipeS]
  | v :: vs, i => by
    unfold wipeS
    by_cases h : v = i
    · subst h
      by_cases hl : v < l.length
      · rw [List.getElem?_set_self (by rw [wipeS_len]; exact hl), if_pos (by simp), List.getElem?_eq_getElem hl]
        rfl
      · rw [List.getElem?_eq_none (by rw [List.length_set, wipeS_len]; omega), if_pos (by simp), List.getElem?_eq_none (by omega)]
        rfl
    · rw [List.getElem?_set_ne h, wipeS_at (vs := vs)]
      have : (i ∈ v :: vs) ↔ i ∈ vs := ⟨fun z => by
        rcases List.mem_cons.mp z with e | z
        · exact absurd e.symm h
        · exact z, fun z => List.mem_cons_of_mem _ z⟩
      by_cases m : i ∈ vs
      · rw [if_pos m, if_pos (this.mpr m)]
      · rw [if_neg m, if_neg (fun z => m (this.mp z))]
theorem wipeS_idem {α : Type} {u : α} {l : List α} {vs : List Nat} : wipeS u (wipeS u l vs) vs = wipeS u l vs := List.ext_getElem? fun i => by
  rw [wipeS_at]
  by_cases m : i ∈ vs
  · rw [if_pos m, wipeS_at, if_pos m]
    cases l[i]? <;> rfl
  · rw [if_neg m]
theorem wipeS_flatten {α : Type} {l : List (List α)} {vs : List Nat} {a : α} (h : a ∈ (wipeS [] l vs).flatten) : a ∈ l.flatten := by
  obtain ⟨g, hg, hag⟩ := List.mem_flatten.mp h
  obtain ⟨i, hi, e⟩ := List.mem_iff_getElem.mp hg
  have e1 : (wipeS [] l vs)[i]? = some g := by rw [List.getElem?_eq_getElem hi, e]
  rw [wipeS_at] at e1
  by_cases m : i ∈ vs
  · rw [if_pos m] at e1
    cases hl : l[i]? with
    | none => rw [hl] at e1; cases e1
    | some q =>
      rw [hl] at e1
      have : [] = g := by simpa using e1
      rw [← this] at hag; cases hag
  · rw [if_neg m] at e1
    exact List.mem_flatten.mpr ⟨g, List.mem_of_getElem? e1, hag⟩
section
variable {K : PySem.W.Frag} {C : Ct} {pf : List (V × PyData)} {σ : L2.St} {H : Hp} {env : En} {feet : List (List Addr)} {vs : List Nat}
theorem Wf.wipe (W : Wf K C pf σ H env feet []) (hb : ∀ i ∈ vs, i ∉ C.BR) : Wf K C pf (L2.wipe σ vs) H (wipeS .un env vs) (wipeS [] feet vs) [] := by
  have nd := W.nd
  rw [List.append_nil] at nd
  have sm : Same (hid H (feet.flatten ++ [])) (hid H ((wipeS [] feet vs).flatten ++ [])) := hid_same fun a o n q => ⟨fun m => n (by
    rw [List.append_nil] at m ⊢; exact wipeS_flatten m), q⟩
  have at2 : ∀ {i : Nat} {g : List Addr}, (wipeS [] feet vs)[i]? = some g → g = [] ∨ feet[i]? = some g := fun {i g} e => by
    rw [wipeS_at] at e
    by_cases m : i ∈ vs
    · rw [if_pos m] at e
      left
      cases hl : feet[i]? with
      | none => rw [hl] at e; cases e
      | some q => rw [hl] at e; simpa using e.symm
    · rw [if_neg m] at e; exact .inr e
  refine ⟨?_, ⟨by rw [wipe_eq, wipeS_len, wipeS_len]; exact W.rel.l1, by rw [wipeS_len, wipeS_len]; exact W.rel.l2, fun i v s g h1 h2 h3 => ?_⟩, fun p hp => dx_mono sm (W.pin p hp), by simp, W.fr, fun a m => W.nw a ?_, fun i hi => ?_⟩
  · rw [List.append_nil]
    refine nodup_mk (fun i g e => ?_) (fun i j g g' a e1 e2 m1 m2 => ?_)
    · rcases at2 e with rfl | h
      · simp
      · exact nodup_each nd h
    · rcases at2 e1 with rfl | h1
      · cases m1
      · rcases at2 e2 with rfl | h2
        · cases m2
        · exact nodup_foot nd h1 h2 m1 m2
  · rw [wipe_eq] at h1
    rw [wipeS_at] at h1 h2 h3
    by_cases m : i ∈ vs
    · rw [if_pos m] at h2 h3
      have e2 : s = .un := by
        cases he : env[i]? with
        | none => rw [he] at h2; cases h2
        | some q => rw [he] at h2; simpa using h2.symm
      have e3 : g = [] := by
        cases he : feet[i]? with
        | none => rw [he] at h3; cases h3
        | some q => rw [he] at h3; simpa using h3.symm
      rw [e2, e3]; rfl
    · rw [if_neg m] at h1 h2 h3
      exact (W.rel.sl i v s g h1 h2 h3).mono sm fun _ _ => rfl
  · rw [List.append_nil] at m ⊢; exact wipeS_flatten m
  · rw [wipe_eq, wipeS_at, if_neg (fun m => hb i m hi)]
    exact W.pr i hi
end
/-- a target of a comprehension: it stores into the block's own slots alone -/
def SGc0 (X : Cx) (C : Ct) (vs : List Nat) (tg : Expr) (g : RG) : Prop := ∀ σ H pf env feet v d Q EX, Wf X.K C pf σ H env feet [] → Tk X C pf EX → Dx X.K (hid H (feet.flatten ++ [])) v d → g d env Q EX → gW X tg v σ H (fun σ' H' => L2.wipe σ' vs = L2.wipe σ vs ∧ ∃ env' feet', Wf X.K C pf σ' H' env' feet' [] ∧ Q env')
structure SGc (X : Cx) (C : Ct) (vs : List Nat) (tg : Expr) (g : RG) : Prop where
  run : SGc0 X C vs tg g
instance {X : Cx} {C : Ct} {vs : List Nat} {tg : Expr} {g : RG} : CoeFun (SGc X C vs tg g) fun _ => ∀ σ H pf env feet v d Q EX, Wf X.K C pf σ H env feet [] → Tk X C pf EX → Dx X.K (hid H (feet.flatten ++ [])) v d → g d env Q EX → gW X tg v σ H (fun σ' H' => L2.wipe σ' vs = L2.wipe σ vs ∧ ∃ env' feet', Wf X.K C pf σ' H' env' feet' [] ∧ Q env') := ⟨fun h => h.run⟩
def SGsc0 (X : Cx) (C : Ct) (vs : List Nat) (tgs : List Expr) (g : RGs) : Prop := ∀ σ H pf env feet xs ds Q EX, Wf X.K C pf σ H env feet [] → Tk X C pf EX → DxAll X.K (hid H (feet.flatten ++ [])) xs ds → g ds env Q EX → gsW X tgs xs σ H (fun σ' H' => L2.wipe σ' vs = L2.wipe σ vs ∧ ∃ env' feet', Wf X.K C pf σ' H' env' feet' [] ∧ Q env')
structure SGsc (X : Cx) (C : Ct) (vs : List Nat) (tgs : List Expr) (g : RGs) : Prop where
  run : SGsc0 X C vs tgs g
instance {X : Cx} {C : Ct} {vs : List Nat} {tgs : List Expr} {g : RGs} : CoeFun (SGsc X C vs tgs g) fun _ => ∀ σ H pf env feet xs ds Q EX, Wf X.K C pf σ H env feet [] → Tk X C pf EX → DxAll X.K (hid H (feet.flatten ++ [])) xs ds → g ds env Q EX → gsW X tgs xs σ H (fun σ' H' => L2.wipe σ' vs = L2.wipe σ vs ∧ ∃ env' feet', Wf X.K C pf σ' H' env' feet' [] ∧ Q env') := ⟨fun h => h.run⟩
theorem wipe_set {σ : L2.St} {v : Option V} {vs : List Nat} {i : Nat} (h : i ∈ vs) : L2.wipe (σ.set i v) vs = L2.wipe σ vs := by
  refine List.ext_getElem? fun j => ?_
  rw [wipe_eq, wipe_eq, wipeS_at, wipeS_at]
  by_cases m : j ∈ vs
  · rw [if_pos m, if_pos m]
    by_cases e : i = j
    · subst e
      by_cases hl : i < σ.length
      · rw [List.getElem?_set_self hl, List.getElem?_eq_getElem hl]; rfl
      · rw [List.getElem?_eq_none (by rw [List.length_set]; omega), List.getElem?_eq_none (by omega)]
    · rw [List.getElem?_set_ne e]
  · rw [if_neg m, if_neg m, List.getElem?_set_ne (fun e => m (by rw [← e]; exact h))]
section
variable {X : Cx} {C : Ct} {vs : List Nat} {tg : Expr} {tgs : List Expr} {g : RG} {gs : RGs} {pos : Pos}
theorem sgc_name {i : Nat} {x : Str} (hN : X.N.Nodup) (hi : X.N[i]? = some x) (hx : Loc X.env.scope x) (hb : i ∉ C.BR) (hv : i ∈ vs) (hf : X.fn x = true ∨ X.env.scope.names.lookup x = some .local := by first | exact .inl rfl | exact .inr rfl | assumption) : SGc X C vs (.Name x pos) (gN i) :=
  .mk fun σ H pf env feet v d Q EX W tk hd q pins s u I r => (pg_name hN hi hx hf).run pins s σ H v u _ I r ⟨wipe_set hv, _, _, W.put (s := .fz d) ⟨rfl, v, rfl, hd⟩ hb, q⟩
theorem sgsc_nil : SGsc X C vs [] gNil' := .mk fun σ H pf env feet xs ds Q EX W tk hd q pins s us I r => by
  obtain ⟨rfl, q⟩ := q
  cases hd
  exact (pgs_nil (X := X)).run pins s σ H [] us _ I r ⟨rfl, rfl, env, feet, W, q⟩
theorem sgsc_cons (h1 : SGc X C vs tg g) (h2 : SGsc X C vs tgs gs) (hs : (assignEach (tg :: tgs) X.env).map (·.2) = assign tg X.env :: (assignEach tgs X.env).map (·.2) := by rfl) : SGsc X C vs (tg :: tgs) (gCons' g gs) := .mk fun σ H pf env feet xs ds Q EX W tk hd q pins s us I r => by
  obtain ⟨d, dr, rfl, q⟩ := q
  cases hd with
  | @cons v vr _ _ h hr =>
    refine (pgs_cons (X := X) gW.pg gsW.pgs hs).run pins s σ H (v :: vr) us _ I r ⟨v, vr, rfl, ?_⟩
    have W1 := W.pinAll hr
    refine (h1 σ H (vr.zip dr ++ pf) env feet v d _ EX W1 tk.addL h q).imp fun σ' H' ⟨ew, e1, f1, W2, q2⟩ => ?_
    have hr' : DxAll X.K (hid H' (f1.flatten ++ [])) vr dr := dpAll_pins hr.lenD fun p hp => W2.pin p (List.mem_append_left _ hp)
    refine (h2 σ' H' pf e1 f1 vr dr Q EX (W2.unpin fun p hp => List.mem_append_right _ hp) tk hr' q2).imp fun σ2 H2 ⟨ew2, z⟩ => ⟨ew2.trans ew, z⟩
theorem sgc_tup {k n : Nat} (hc : X.calm = true) (h : SGsc X C vs tgs gs) (hn : (assignEach tgs X.env).length = n := by rfl) (hst : (assignEach tgs X.env).findIdx? (·.1) = none := by rfl) : SGc X C vs (.Tuple tgs k pos) (gTup' n gs) := .mk fun σ H pf env feet v d Q EX W tk hd q pins s u I r => by
  obtain ⟨ds, rfl, hl, q⟩ := q
  cases hd with
  | @tup a xs _ hs ha =>
    refine (pg_tup (X := X) hc gsW.pgs hn hst).run pins s σ H (.ref a) u _ I r ⟨a, xs, rfl, seqT_mono hid_le hs, by rw [ha.lenD]; exact hl, ?_⟩
    exact h σ H pf env feet xs ds Q EX W tk ha q
end
/-! ### the comprehension -/
def noX : KX := fun _ _ => False
/-- the turns: env is wiped; acc what is made so far -/
def rComp (vs : List Nat) (g : RG) (tt : RT) (te : RE) (Q : List PyData → En → Prop) : List PyData → List PyData → En → Prop
  | [], acc, env => Q acc env
  | d :: ds, acc, env => g d env (fun e1 => tt e1 (fun b e2 => if b = true then vl te e2 (fun y e3 => acc.length < sizeLine ∧ rComp vs g tt te Q ds (acc ++ [y]) (wipeS .un e3 vs)) noX else rComp vs g tt te Q ds acc (wipeS .un e2 vs)) noX) noX
def notOw (s : Sl) : Bool := match s with
  | .ow _ => false
  | _ => true
def restOne (env0 : En) (vs : List Nat) (i : Nat) (s : Sl) : Sl := if i ∈ vs then env0.getD i .un else s
def restE (env0 env : En) (vs : List Nat) : En := mapGo (restOne env0 vs) 0 env
theorem restE_def (env0 env : En) (vs : List Nat) : restE env0 env vs = env.mapIdx fun i s => if i ∈ vs then env0.getD i .un else s := mapGo_idx _ _
def eLc (ti : RI) (vs : List Nat) (g : RG) (tt : RT) (te : RE) : RE := fun env Q EX => ti env (fun items e => (vs.all fun i => notOw (e.getD i .un)) = true ∧ rComp vs g tt te (fun acc e' => Q (.nw (.ls acc)) (restE e e' vs)) items [] (wipeS .un e vs)) EX
def cYes : RT := fun env Q _ => Q true env
end L3
end

section
set_option autoImplicit true
set_option Elab.async false
set_option linter.all false
set_option maxRecDepth 100000
set_option maxHeartbeats 1000000
/-! L3 part j: the comprehension's rule. -/
namespace L3
open PySem PySem.Spec PyProof.Rows L2
theorem hid_upd_none {H : Hp} {D : Addr} {o : HO} (h : H D = none) : hid (upd H D o) [D] = H := funext fun b => by
  by_cases e : b = D
  · rw [hid_in (by simp [e]), e, h]
  · rw [hid_out (by simpa using e), upd_ne e]
theorem upd_comm {H : Hp} {a b : Addr} {o u : HO} (h : a ≠ b) : upd (upd H a o) b u = upd (upd H b u) a o := funext fun c => by
  by_cases e : c = b
  · rw [e, upd_same, upd_ne h.symm, upd_same]
  · rw [upd_ne e]
    by_cases e2 : c = a
    · rw [e2, upd_same, upd_same]
    · rw [upd_ne e2, upd_ne e2, upd_ne e]
/-- tests of a comprehension -/
def tsW (X : Cx) (ifs : List Expr) : TT := fun σ H Q => ∀ pins s, Inv X pins σ H s → wpAny (model X.prog X.w) X.A (forIn ifs true fun c r => if r = true then do let ok ← isTrue c X.env (eval c X.env); pure (ForInStep.yield ok) else pure (ForInStep.yield r)) (TP X pins σ Q) X.xe s
def SPT0 (X : Cx) (C : Ct) (ifs : List Expr) (t : RT) : Prop := ∀ σ H pf env feet Q EX, Wf X.K C pf σ H env feet [] → Tk X C pf EX → t env Q EX → tsW X ifs σ H (Pb X.K C pf σ Q)
structure SPT (X : Cx) (C : Ct) (ifs : List Expr) (t : RT) : Prop where
  run : SPT0 X C ifs t
instance {X : Cx} {C : Ct} {ifs : List Expr} {t : RT} : CoeFun (SPT X C ifs t) fun _ => ∀ σ H pf env feet Q EX, Wf X.K C pf σ H env feet [] → Tk X C pf EX → t env Q EX → tsW X ifs σ H (Pb X.K C pf σ Q) := ⟨fun h => h.run⟩
theorem tsW.pts {X : Cx} {ifs : List Expr} : PTs X ifs (tsW X ifs) := ⟨fun pins s _ _ _ I h => h pins s I⟩
theorem spt_nil {X : Cx} {C : Ct} : SPT X C [] cYes := .mk fun σ H pf env feet Q EX W tk q pins s I => (pts_nil (X := X)).run pins s σ H _ I ⟨env, feet, W, q⟩
theorem spt_one {X : Cx} {C : Ct} {c : Expr} {t : RT} (h : STs X C c t) : SPT X C [c] t := .mk fun σ H pf env feet Q EX W tk q pins s I => (pts_one (X := X) tW.pt).run pins s σ H _ I (h σ H pf env feet Q EX W tk q)
theorem tsW.aside {X : Cx} {σ : L2.St} {H : Hp} {D : Addr} {vs : List V} {e : List Expr} {Q : Bool → Hp → Prop} (hD : H D = some (.lst vs)) (h : tsW X e σ (hid H [D]) Q) : tsW X e σ H (fun v H2 => ∃ H1, H2 = upd H1 D (.lst vs) ∧ H1 D = none ∧ Q v H1) := fun pins s I => by
  obtain ⟨its, n, hv, hz, J, ag⟩ := Inv.aside I hD
  exact thn (h _ s J) fun u s' ⟨H1, J1, q⟩ => (fun z => ⟨_, z.1, H1, rfl, z.2, q⟩) (Inv.again J1 hv hz ag)
theorem tsW.imp {X : Cx} {e : List Expr} {σ : L2.St} {H : Hp} {Q Q' : Bool → Hp → Prop} (h : tsW X e σ H Q) (k : ∀ v H', Q v H' → Q' v H') : tsW X e σ H Q' := fun pins s I => thn (h pins s I) fun _ _ ⟨H', I', q⟩ => ⟨H', I', k _ H' q⟩
/-- the slots' things that a block's own names cover -/
def pinsOf (σ : L2.St) (env : En) (vs : List Nat) : List (V × PyData) := vs.filterMap fun (i : Nat) => match (σ[i]? : Option (Option V)), (env[i]? : Option Sl) with
  | some (some v), some (Sl.fz d) => some (v, d)
  | _, _ => none
section
variable {K : PySem.W.Frag} {C : Ct} {pf : List (V × PyData)} {σ : L2.St} {H : Hp} {env env0 : En} {feet : List (List Addr)} {vs : List Nat}
theorem Wf.pinsOf (W : Wf K C pf σ H env feet []) : Wf K C (pinsOf σ env vs ++ pf) σ H env feet [] :=
  ⟨W.nd, W.rel, fun p hp => by
    rcases List.mem_append.mp hp with q | q
    · obtain ⟨i, hi, e⟩ := List.mem_filterMap.mp q
      cases h1 : σ[i]? with
      | none => rw [h1] at e; cases e
      | some v =>
        cases v with
        | none => rw [h1] at e; cases e
        | some v =>
          cases h2 : env[i]? with
          | none => rw [h1, h2] at e; cases e
          | some sl =>
            cases sl with
            | fz d =>
              rw [h1, h2] at e
              cases e
              have i3 : i < feet.length := by rw [W.rel.l2]; exact (List.getElem?_eq_some_iff.mp h2).1
              obtain ⟨_, x, hx, hd⟩ := W.rel.sl i _ _ _ h1 h2 (List.getElem?_eq_getElem i3)
              cases hx
              exact hd
            | _ => rw [h1, h2] at e; cases e
    · exact W.pin p q, W.exT, W.fr, W.nw, W.pr⟩
theorem Wf.restore (W : Wf K C pf (L2.wipe σ vs) H env feet []) (hb : ∀ i ∈ vs, i ∉ C.BR) (hl : σ.length = env0.length) (hno : (vs.all fun i => notOw (env0.getD i .un)) = true) (hxc : ∀ i ∈ vs, ∀ c g, env0[i]? ≠ some (.xc c g)) (hv : ∀ i ∈ vs, ∀ d, env0[i]? = some (.fz d) → ∃ v, σ[i]? = some (some v)) (hp : ∀ p ∈ L3.pinsOf σ env0 vs, p ∈ pf) (hr : ∀ i ∈ C.BR, σ[i]? = C.σ0[i]?) :
    Wf K C pf σ H (restE env0 env vs) (wipeS [] feet vs) [] := by
  have W1 := W.wipe (vs := vs) hb
  refine ⟨W1.nd, ⟨?_, ?_, fun i v s g h1 h2 h3 => ?_⟩, W1.pin, W1.exT, W1.fr, W1.nw, hr⟩
  · rw [restE_def]
    rw [List.length_mapIdx, ← W.rel.l1, wipe_eq, wipeS_len]
  · rw [restE_def]
    rw [List.length_mapIdx, wipeS_len]; exact W.rel.l2
  · rw [restE_def] at h2
    rw [List.getElem?_mapIdx] at h2
    by_cases m : i ∈ vs
    · have e2 : env0.getD i .un = s := by
        cases he : env[i]? with
        | none => rw [he] at h2; cases h2
        | some q => rw [he] at h2; simpa [m] using h2
      have e3 : g = [] := by
        rw [wipeS_at, if_pos m] at h3
        cases he : feet[i]? with
        | none => rw [he] at h3; cases h3
        | some q => rw [he] at h3; simpa using h3.symm
      have i0 : i < env0.length := by rw [← hl]; exact (List.getElem?_eq_some_iff.mp h1).1
      have e4 : env0[i]? = some s := by
        rw [List.getD_eq_getElem?_getD, List.getElem?_eq_getElem i0] at e2
        rw [List.getElem?_eq_getElem i0, ← e2]
        rfl
      rw [e3]
      cases s with
      | un => rfl
      | fz d =>
        obtain ⟨x, hx⟩ := hv i m d e4
        rw [h1] at hx
        cases hx
        refine ⟨rfl, x, rfl, W1.pin (x, d) (hp _ (List.mem_filterMap.mpr ⟨i, m, ?_⟩))⟩
        rw [h1, e4]
      | ow o =>
        have := List.all_eq_true.mp hno i m
        rw [e2] at this
        cases this
      | xc c g => exact absurd e4 (hxc i m c g)
    · have e2 : env[i]? = some s := by
        cases he : env[i]? with
        | none => rw [he] at h2; cases h2
        | some q => rw [he] at h2; simpa [m] using h2
      have e1 : (L2.wipe (L2.wipe σ vs) vs)[i]? = some v := by
        rw [wipe_eq, wipeS_at, if_neg m, wipe_eq, wipeS_at, if_neg m]; exact h1
      have e5 : (wipeS Sl.un env vs)[i]? = some s := by
        rw [wipeS_at, if_neg m]; exact e2
      exact W1.rel.sl i v s g e1 e5 h3
end
section
variable {X : Cx} {C : Ct}
theorem lc_all {elt tg iter : Expr} {ifs : List Expr} {scope : Scope} {own : List (Str × Nat)} {pos : Pos} {ti : RI} {g : RG} {tt : RT} {te : RE} (hc : X.calm = true) (hN : X.N.Nodup) (hi : SI X C tg iter ti) (ok : BlkOk X.N X.env.scope scope own) (hb : ∀ i ∈ own.map (·.2), i ∉ C.BR)
    (hg : ∀ (s : Shared) (H : Hp) (Ca : Addr) (cl : List (Str × Addr)) (fp : List Addr), SGc (X.blk s H scope (compEnvC scope cl Ca X.env) fp) C (own.map (·.2)) tg g)
    (ht : ∀ (s : Shared) (H : Hp) (Ca : Addr) (cl : List (Str × Addr)) (fp : List Addr), SPT (X.blk s H scope (compEnvC scope cl Ca X.env) fp) C ifs tt)
    (he : ∀ (s : Shared) (H : Hp) (Ca : Addr) (cl : List (Str × Addr)) (fp : List Addr), SE (X.blk s H scope (compEnvC scope cl Ca X.env) fp) C elt te) (hs : ∀ x, foldedSetIterable iter X.env x = pure x := by intro _; rfl) :
    ∀ σ H pf env feet Q EX, Wf X.K C pf σ H env feet [] → Tk X C pf EX → eLc ti (own.map (·.2)) g tt te env Q EX → ∀ R : VK, (∀ v H', Po X.K C pf σ Q v H' → R v H') → ∃ (wi : TI) (g' : TG) (tt' : TT) (te' : TE), PI X tg iter wi ∧ (∀ (s : Shared) (H : Hp) (Ca : Addr) (cl : List (Str × Addr)) (fp : List Addr), PG (X.blk s H scope (compEnvC scope cl Ca X.env) fp) tg g') ∧
      (∀ (s : Shared) (H : Hp) (Ca : Addr) (cl : List (Str × Addr)) (fp : List Addr), PTs (X.blk s H scope (compEnvC scope cl Ca X.env) fp) ifs tt') ∧ (∀ (s : Shared) (H : Hp) (Ca : Addr) (cl : List (Str × Addr)) (fp : List Addr), PE (X.blk s H scope (compEnvC scope cl Ca X.env) fp) elt te') ∧ tLc wi g' tt' te' (own.map (·.2)) σ H R := by
  intro σ H pf env feet Q EX W tk q R kR
  obtain ⟨wi, pi, hw⟩ := hi
  generalize hvs : own.map (·.2) = vs at *
  refine ⟨wi, fun v σ H Q => ∀ s H' Ca cl fp, gW (X.blk s H' scope (compEnvC scope cl Ca X.env) fp) tg v σ H Q, fun σ H Q => ∀ s H' Ca cl fp, tsW (X.blk s H' scope (compEnvC scope cl Ca X.env) fp) ifs σ H Q, fun σ H Q => ∀ s H' Ca cl fp, eW (X.blk s H' scope (compEnvC scope cl Ca X.env) fp) elt σ H Q, pi,
    fun s H Ca cl fp => ⟨fun pins s' σ H' v u Q I r h => h s H Ca cl fp pins s' u I r⟩, fun s H Ca cl fp => ⟨fun pins s' σ H' Q I h => h s H Ca cl fp pins s' I⟩, fun s H Ca cl fp => ⟨fun pins s' σ H' Q I h => h s H Ca cl fp pins s' I⟩, ?_⟩
  refine hw σ H pf env feet _ EX _ W tk q ?_
  rintro J H1 ⟨items, e1, f1, pf1, W1, sub, it, hno, q1⟩ D hD
  have W2 := (W1.pinsOf (vs := vs)).wipe (vs := vs) hb
  generalize hpf2 : L3.pinsOf σ e1 vs ++ pf1 = pf2 at W2
  have sub1 : ∀ p ∈ pf1, p ∈ pf2 := fun p hp => by rw [← hpf2]; exact List.mem_append_right _ hp
  refine ⟨fun i m H => m + i = items.length ∧ ∃ (Hm : Hp) (xs : List V) (acc : List PyData) (ew : En) (fw : List (List Addr)), H = upd Hm D (.lst xs) ∧ Hm D = none ∧ xs.length = acc.length ∧ Wf X.K C (xs.zip acc ++ pf2) (L2.wipe σ vs) Hm ew fw [] ∧ rComp vs g tt te (fun acc e' => Q (.nw (.ls acc)) (restE e1 e' vs)) (items.drop i) acc ew,
    ⟨items.length, by simp, H1, [], [], _, _, rfl, hD, rfl, W2, q1⟩, ?_⟩
  rintro i m H3 ⟨hm, Hm, xs, acc, ew, fw, rfl, hDn, hlen, W3, q3⟩
  have W3p := W3.unpin (pf' := pf1) fun p hp => List.mem_append_right _ (sub1 p hp)
  by_cases hlt : i < items.length
  · right
    refine ⟨it.go i _ Hm ew fw _ hlt W3p (same_new hDn), fun H => (m - 1) + (i + 1) = items.length ∧ ∃ (Hm : Hp) (xs : List V) (acc : List PyData) (ew : En) (fw : List (List Addr)), H = upd Hm D (.lst xs) ∧ Hm D = none ∧ xs.length = acc.length ∧ Wf X.K C (xs.zip acc ++ pf2) (L2.wipe σ vs) Hm ew fw [] ∧ rComp vs g tt te (fun acc e' => Q (.nw (.ls acc)) (restE e1 e' vs)) (items.drop (i + 1)) acc ew,
      fun H' z => ⟨m - 1, by omega, z⟩, fun x H4 y => ?_⟩
    obtain ⟨d, hd, hy⟩ := it.yld i x _ Hm ew fw _ H4 hlt W3p (same_new hDn) y
    have e : items.drop i = d :: items.drop (i + 1) := by
      have e1 := List.drop_eq_getElem_cons hlt
      rw [List.getElem?_eq_getElem hlt] at hd
      cases hd
      exact e1
    rw [e] at q3
    -- the heap of the turn, less the list that is made
    obtain ⟨Hn, rfl, hDn2, W4, hx⟩ : ∃ Hn, H4 = upd Hn D (.lst xs) ∧ Hn D = none ∧ Wf X.K C (xs.zip acc ++ pf2) (L2.wipe σ vs) Hn ew fw [] ∧ Dx X.K (hid Hn (fw.flatten ++ [])) x d := by
      rcases hy with ⟨rfl, hd⟩ | ⟨T, ws, es, rfl, hT, rfl, hws, rfl⟩
      · exact ⟨Hm, rfl, hDn, W3, hd⟩
      · have hTD : D ≠ T := fun z => by rw [z, upd_same] at hT; cases hT
        have hT2 : Hm T = none := by rw [upd_ne hTD.symm] at hT; exact hT
        refine ⟨upd Hm T (.tup ws), upd_comm hTD, by rw [upd_ne hTD]; exact hDn, ?_⟩
        obtain ⟨W5, _, h5⟩ := W3.pure (same_new hT2) (rsn_tup (fun a m => W3.rel.tr a (by rw [List.append_nil] at m; exact m)) hT2 hws)
        exact ⟨W5, h5⟩
    intro s0 H0 Ca cl fp
    have subA : ∀ p ∈ pf, p ∈ xs.zip acc ++ pf2 := fun p hp => List.mem_append_right _ (sub1 p (sub p hp))
    have a1 := hg s0 H0 Ca cl fp (L2.wipe σ vs) Hn _ ew fw x d _ noX W4 (tk.nev subA) hx q3
    rw [← hid_upd_none (o := .lst xs) hDn2] at a1
    refine (gW.aside upd_same a1).imp fun σ5 H5 ⟨H5', e5, n5, ew5, en5, f5, W5, q5⟩ => ⟨by rw [ew5, wipe_eq, wipe_eq, wipeS_idem], ?_⟩
    subst e5
    intro s1 H1' Ca1 cl1 fp1
    have a2 := ht s1 H1' Ca1 cl1 fp1 σ5 H5' _ en5 f5 _ noX W5 (tk.nev subA) q5
    rw [← hid_upd_none (o := .lst xs) n5] at a2
    refine (tsW.aside upd_same a2).imp fun b H6 ⟨H6', e6, n6, en6, f6, W6, q6⟩ => ?_
    subst e6
    have ew5' : L2.wipe σ5 vs = L2.wipe σ vs := by rw [ew5, wipe_eq, wipe_eq, wipeS_idem]
    cases b with
    | false =>
      have W7 := W6.wipe (vs := vs) hb
      rw [ew5'] at W7
      exact ⟨by omega, H6', xs, acc, _, wipeS [] f6 vs, rfl, n6, hlen, W7, q6⟩
    | true =>
      intro s2 H2' Ca2 cl2 fp2
      have a3 := (he s2 H2' Ca2 cl2 fp2).v σ5 H6' _ en6 f6 _ noX W6 (tk.nev subA) q6
      rw [← hid_upd_none (o := .lst xs) n6] at a3
      refine (eW.aside upd_same a3).imp fun y H7 ⟨H7', e7, n7, dy, en7, f7, W7, hy7, hz, q7⟩ => ?_
      subst e7
      refine ⟨xs, upd_same, by rw [hlen]; exact hz, by omega, H7', xs ++ [y], acc ++ [dy], _, wipeS [] f7 vs, upd_upd, n7, by simp [hlen], ?_, q7⟩
      have W8 := (W7.pinned hy7).wipe (vs := vs) hb
      rw [ew5'] at W8
      refine W8.unpin fun p hp => ?_
      rw [List.zip_append hlen] at hp
      rcases List.mem_append.mp hp with h | h
      · rcases List.mem_append.mp h with h | h
        · exact List.mem_cons_of_mem _ (List.mem_append_left _ h)
        · have : p = (y, dy) := by simpa using h
          rw [this]; exact List.mem_cons_self ..
      · exact List.mem_cons_of_mem _ (List.mem_append_right _ h)
  · left
    have e : i = items.length := by omega
    subst e
    rw [List.drop_length] at q3
    refine ⟨it.stop _ Hm ew fw _ W3p (same_new hDn), kR _ _ ?_⟩
    have hv : ∀ i ∈ vs, ∀ d, e1[i]? = some (.fz d) → ∃ v, σ[i]? = some (some v) := fun i _ d h => by
      have i1 : i < e1.length := (List.getElem?_eq_some_iff.mp h).1
      have i2 : i < σ.length := by rw [W1.rel.l1]; exact i1
      have i3 : i < f1.length := by rw [W1.rel.l2]; exact i1
      obtain ⟨_, x, hx, _⟩ := W1.rel.sl i _ _ _ (List.getElem?_eq_getElem i2) h (List.getElem?_eq_getElem i3)
      exact ⟨x, by rw [List.getElem?_eq_getElem i2, hx]⟩
    have hxc : ∀ i ∈ vs, ∀ c g, e1[i]? ≠ some (.xc c g) := fun i _ c g h => by
      have i1 : i < e1.length := (List.getElem?_eq_some_iff.mp h).1
      have i2 : i < σ.length := by rw [W1.rel.l1]; exact i1
      have i3 : i < f1.length := by rw [W1.rel.l2]; exact i1
      exact W1.rel.sl i _ _ _ (List.getElem?_eq_getElem i2) h (List.getElem?_eq_getElem i3)
    have W9 := W3.restore (env0 := e1) hb W1.rel.l1 hno hxc hv (fun p hp => by rw [← hpf2]; exact List.mem_append_right _ (List.mem_append_left _ hp)) W1.pr
    have hacc : DxAll X.K (hid Hm ((wipeS [] fw vs).flatten ++ [])) xs acc := dpAll_pins hlen fun p hp => W9.pin p (List.mem_append_left _ hp)
    obtain ⟨W10, h10⟩ := (W9.unpin (pf' := pf) fun p hp => List.mem_append_right _ (sub1 p (sub p hp))).pure (same_new hDn) (rsn_lst hDn hacc)
    exact ⟨_, _, _, _, W10, h10, q3⟩
theorem se_lc {elt tg iter : Expr} {ifs : List Expr} {scope : Scope} (own : List (Str × Nat)) {pos : Pos} {ti : RI} {g : RG} {tt : RT} {te : RE} (hc : X.calm = true) (hN : X.N.Nodup) (hi : SI X C tg iter ti) (ok : BlkOk X.N X.env.scope scope own) (hb : ∀ i ∈ own.map (·.2), i ∉ C.BR)
    (hg : ∀ (s : Shared) (H : Hp) (Ca : Addr) (cl : List (Str × Addr)) (fp : List Addr), SGc (X.blk s H scope (compEnvC scope cl Ca X.env) fp) C (own.map (·.2)) tg g)
    (ht : ∀ (s : Shared) (H : Hp) (Ca : Addr) (cl : List (Str × Addr)) (fp : List Addr), SPT (X.blk s H scope (compEnvC scope cl Ca X.env) fp) C ifs tt)
    (he : ∀ (s : Shared) (H : Hp) (Ca : Addr) (cl : List (Str × Addr)) (fp : List Addr), SE (X.blk s H scope (compEnvC scope cl Ca X.env) fp) C elt te) (hs : ∀ x, foldedSetIterable iter X.env x = pure x := by intro _; rfl) :
    SE X C (.ListComp elt [⟨tg, iter, ifs, 0⟩] scope pos) (eLc ti (own.map (·.2)) g tt te) := .mk fun σ H pf env feet Q EX W tk q => by
  obtain ⟨wi, g', tt', te', h1, h2, h3, h4, h5⟩ := lc_all (pos := pos) hc hN hi ok hb hg ht he hs σ H pf env feet Q EX W tk q _ fun _ _ z => z
  exact eW.of (pe_lc hc hN h1 ok h2 h3 h4 hs) h5
/-- name = [..] -/
theorem ss_lc {i : Nat} {y : Str} {py : Pos} {elt tg iter : Expr} {ifs : List Expr} {scope : Scope} (own : List (Str × Nat)) {pos spos : Pos} {ti : RI} {g : RG} {tt : RT} {te : RE} (hc : X.calm = true) (hN : X.N.Nodup) (hy : X.N[i]? = some y) (hyl : X.env.scope.names.lookup y = some .local)
    (hsw : swapsWith (.ListComp elt [⟨tg, iter, ifs, 0⟩] scope pos) (some (.Name y py)) spos.line X.env = pure true) (hi : SI X C tg iter ti) (ok : BlkOk X.N X.env.scope scope own) (hb : ∀ i ∈ own.map (·.2), i ∉ C.BR) (hbi : i ∉ C.BR)
    (hg : ∀ (s : Shared) (H : Hp) (Ca : Addr) (cl : List (Str × Addr)) (fp : List Addr), SGc (X.blk s H scope (compEnvC scope cl Ca X.env) fp) C (own.map (·.2)) tg g)
    (ht : ∀ (s : Shared) (H : Hp) (Ca : Addr) (cl : List (Str × Addr)) (fp : List Addr), SPT (X.blk s H scope (compEnvC scope cl Ca X.env) fp) C ifs tt)
    (he : ∀ (s : Shared) (H : Hp) (Ca : Addr) (cl : List (Str × Addr)) (fp : List Addr), SE (X.blk s H scope (compEnvC scope cl Ca X.env) fp) C elt te) (hs : ∀ x, foldedSetIterable iter X.env x = pure x := by intro _; rfl) :
    SS X C (.Assign [.Name y py] (.ListComp elt [⟨tg, iter, ifs, 0⟩] scope pos) spos) (rSet i (eLc ti (own.map (·.2)) g tt te)) := .mk fun σ H pf env feet D W tk q => by
  obtain ⟨wi, g', tt', te', h1, h2, h3, h4, h5⟩ := lc_all (pos := pos) hc hN hi ok hb hg ht he hs σ H pf env feet _ D.ex W tk q (fun x H1 => gName i x σ H1 (Dn X.K C pf D).nx) (fun v H1 ⟨r, e1, f1, f, W1, h1, q1⟩ => ast_ok W1 h1 hbi q1)
  exact sW.of (ps_setLc hc hN hy hyl hsw h1 ok h2 h3 h4 hs) h5
end
end L3
end

section
set_option Elab.async false
set_option linter.all false
set_option maxRecDepth 100000
set_option maxHeartbeats 1000000
set_option autoImplicit false
/-! L3 part k: operations by data. -/
namespace L3
open PySem PySem.Spec PyProof.Rows L2
mutual
theorem Dx.dp {K : PySem.W.Frag} {H : Hp} : ∀ {v : V} {d : PyData}, d.canLay0 = true → Dx K H v d → Dp K H v d
  | _, _, _, .non => .non
  | _, _, _, .bl b => .bl b
  | _, _, _, .int i => .int i
  | _, _, _, .str i => .str i
  | _, _, h, .lst a b => .lst a (DxAll.dp (by simpa [PyData.canLay0] using h) b)
  | _, _, h, .tup a b => .tup a (DxAll.dp (by simpa [PyData.canLay0] using h) b)
  | _, _, h, .xc0 _ _ => by simp [PyData.canLay0] at h
  | _, _, h, .xc1 _ _ _ _ _ => by simp [PyData.canLay0] at h
theorem DxAll.dp {K : PySem.W.Frag} {H : Hp} : ∀ {v : List V} {d : List PyData}, PyData.canLayAll0 d = true → DxAll K H v d → DpAll K H v d
  | _, _, _, .nil => .nil
  | _, _, h, .cons a b => by
    have h' := h
    rw [PyData.canLayAll0, Bool.and_eq_true] at h'
    exact .cons (Dx.dp h'.1 a) (DxAll.dp h'.2 b)
end
section
variable {K : PySem.W.Frag} {X : Cx}
abbrev fzI (i : Int) : Rs := .fz (.int i)
abbrev fzB (b : Bool) : Rs := .fz (.bool b)
theorem rsn_int {F : List Addr} {H : Hp} {i : Int} : RsN K F H H (.int i) (fzI i) [] := rsn_v (.int i)
theorem rsn_bl {F : List Addr} {H : Hp} {i : Bool} : RsN K F H H (.bl i) (fzB i) [] := rsn_v (.bl i)
/-! ints -/
theorem opv_I {C : Int → Int → Prop} {f : Int → Int → Int} {g : PyData → PyData → Option Rs} (h : ∀ x y z, g x y = some z → ∃ i j, x = .int i ∧ y = .int j ∧ C i j ∧ z = fzI (f i j)) : OpV K (rI C fun i j => .int (f i j)) g := fun F H x y d1 d2 rs Q tr h1 h2 hg k => by
  obtain ⟨i, j, rfl, rfl, hc, rfl⟩ := h _ _ _ hg
  exact ⟨i, j, h1.int, h2.int, hc, k _ _ [] (Same.refl _) rsn_int⟩
theorem opv_I0 {f : Int → Int → Int} {g : PyData → PyData → Option Rs} (h : ∀ x y z, g x y = some z → ∃ i j, x = .int i ∧ y = .int j ∧ z = fzI (f i j)) : OpV K (rI0 fun i j => .int (f i j)) g := fun F H x y d1 d2 rs Q tr h1 h2 hg k => by
  obtain ⟨i, j, rfl, rfl, rfl⟩ := h _ _ _ hg
  exact ⟨i, j, h1.int, h2.int, k _ _ [] (Same.refl _) rsn_int⟩
theorem opv_B0 {f : Int → Int → Bool} {g : PyData → PyData → Option Rs} (h : ∀ x y z, g x y = some z → ∃ i j, x = .int i ∧ y = .int j ∧ z = fzB (f i j)) : OpV K (rI0 fun i j => .bl (f i j)) g := fun F H x y d1 d2 rs Q tr h1 h2 hg k => by
  obtain ⟨i, j, rfl, rfl, rfl⟩ := h _ _ _ hg
  exact ⟨i, j, h1.int, h2.int, k _ _ [] (Same.refl _) rsn_bl⟩
def gInt (f : Int → Int → Option Rs) : PyData → PyData → Option Rs
  | .int i, .int j => f i j
  | _, _ => none
theorem gInt_some {f : Int → Int → Option Rs} {x y : PyData} {z : Rs} (h : gInt f x y = some z) : ∃ i j, x = .int i ∧ y = .int j ∧ f i j = some z := by
  unfold gInt at h
  split at h
  · exact ⟨_, _, rfl, rfl, h⟩
  · cases h
def gSub := gInt fun i j => some (fzI (i - j))
def gLt := gInt fun i j => some (fzB (decide (i < j)))
def gLe := gInt fun i j => some (fzB (decide (i ≤ j)))
def gGt := gInt fun i j => some (fzB (decide (j < i)))
def gGe := gInt fun i j => some (fzB (decide (j ≤ i)))
def small64b (i : Int) : Bool := decide (-(2 ^ 64) < i) && decide (i < 2 ^ 64)
def gMod := gInt fun i j => if j = 0 then none else some (fzI (i.fmod j))
def gFdiv := gInt fun i j => if j ≠ 0 ∧ j.natAbs < 1073741824 then some (fzI (i.fdiv j)) else none
def gPow := gInt fun i j => if 0 ≤ j ∧ j ≤ 1000000 ∧ i.natAbs < 2 ^ 64 then some (fzI (i ^ j.toNat)) else none
theorem opv_sub : OpV K (rI0 fun i j => .int (i - j)) gSub := opv_I0 fun x y z h => by
  obtain ⟨i, j, a, b, c⟩ := gInt_some h
  exact ⟨i, j, a, b, (Option.some.inj c).symm⟩
theorem opv_lt : OpV K (rI0 fun i j => .bl (decide (i < j))) gLt := opv_B0 fun x y z h => by
  obtain ⟨i, j, a, b, c⟩ := gInt_some h
  exact ⟨i, j, a, b, (Option.some.inj c).symm⟩
theorem opv_le : OpV K (rI0 fun i j => .bl (decide (i ≤ j))) gLe := opv_B0 fun x y z h => by
  obtain ⟨i, j, a, b, c⟩ := gInt_some h
  exact ⟨i, j, a, b, (Option.some.inj c).symm⟩
theorem opv_gt : OpV K (rI0 fun i j => .bl (decide (j < i))) gGt := opv_B0 fun x y z h => by
  obtain ⟨i, j, a, b, c⟩ := gInt_some h
  exact ⟨i, j, a, b, (Option.some.inj c).symm⟩
theorem opv_ge : OpV K (rI0 fun i j => .bl (decide (j ≤ i))) gGe := opv_B0 fun x y z h => by
  obtain ⟨i, j, a, b, c⟩ := gInt_some h
  exact ⟨i, j, a, b, (Option.some.inj c).symm⟩
theorem opv_mod : OpV K (rI (fun _ j => j ≠ 0) fun i j => .int (i.fmod j)) gMod := opv_I fun x y z h => by
  obtain ⟨i, j, a, b, c⟩ := gInt_some h
  by_cases e : j = 0
  · rw [if_pos e] at c; cases c
  · rw [if_neg e] at c
    exact ⟨i, j, a, b, e, (Option.some.inj c).symm⟩
theorem opv_fdiv : OpV K (rI CDivN fun i j => .int (i.fdiv j)) gFdiv := opv_I fun x y z h => by
  obtain ⟨i, j, a, b, c⟩ := gInt_some h
  by_cases e : j ≠ 0 ∧ j.natAbs < 1073741824
  · rw [if_pos e] at c
    exact ⟨i, j, a, b, e, (Option.some.inj c).symm⟩
  · rw [if_neg e] at c; cases c
theorem opv_pow : OpV K (rI CPow fun i j => .int (i ^ j.toNat)) gPow := opv_I fun x y z h => by
  obtain ⟨i, j, a, b, c⟩ := gInt_some h
  by_cases e : 0 ≤ j ∧ j ≤ 1000000 ∧ i.natAbs < 2 ^ 64
  · rw [if_pos e] at c
    exact ⟨i, j, a, b, e, (Option.some.inj c).symm⟩
  · rw [if_neg e] at c; cases c
/-! + -/
def rCatLs (K : PySem.W.Frag) : R2 := fun x y H Q => ∃ l b xs zs, x = .ref l ∧ y = .ref b ∧ SqL K H l xs ∧ SqL K H b zs ∧ xs.length + zs.length ≤ sizeLine ∧ ∀ p, H p = none → Q (.ref p) (upd H p (.lst (xs ++ zs)))
theorem list_addX (l b : Addr) (items items2 : Array Value) (n n2 : Nat) (sl sl2 : Array (Option Value)) (hc0 : items.size + items2.size ≤ sizeLine) :
    Meets (Builtin.«list.__add__» ⟨[.ref l, .ref b], []⟩) (fun _ R s => s.heap.get? l = some { cls := .type "list", dict := none, data := .seq items n, slots := sl } ∧ s.heap.get? b = some { cls := .type "list", dict := none, data := .seq items2 n2, slots := sl2 } ∧
      R (.ok (.ret (Value.ref s.heap.objs.size))) { s with heap := s.heap.push { cls := Value.type "list", data := Data.seq (items ++ items2) }, toks := s.toks }) :=
  .of_wp fun prog w A R s h => by
    obtain ⟨hp, g, d, tk, os⟩ := s
    obtain ⟨hl, hb, h⟩ := h
    have f1 := AutoSeq1.idx_int; have f2 := AutoSeq1.sub_tuple_tuple; have f3 := AutoSeq1.sub_list_list; have f4 := AutoSeq1.sub_tuple_list; have f5 := AutoSeq1.sub_list_tuple
    wp_walk using wpAny_loadPart' hl, wpAny_loadPart' hb
    exact ⟨_, rfl, h⟩
theorem op_catLs : OpR X (binaryOp .Add) (rCatLs X.K) := by
  intro pins s σ H x y v u Q I rx ry h
  obtain ⟨l, b, xs, zs, rfl, rfl, hH, hB, hz, q⟩ := h
  cases rx
  cases ry
  obtain ⟨its, r, ⟨⟨c1, d1, dt1, s1⟩, n, e, hc1, hd1, he1⟩, z⟩ := I.list hH
  obtain ⟨its2, r2, ⟨⟨c2, d2, dt2, s2⟩, n2, e2, hc2, hd2, he2⟩, z2⟩ := I.list hB
  simp only at hc1 hd1 he1 hc2 hd2 he2
  subst hc1 hd1 he1 hc2 hd2 he2
  have hl := r.length
  have hl2 := r2.length
  have ea : its.toArray ++ its2.toArray = (its ++ its2).toArray := by simp
  refine concat_meets ⟨_, e, rfl⟩ ⟨_, e2, rfl⟩ noFill_list_add seq_list_add F.slot_list_add F.entry_list_add (F.args_list_add_2 _ _) (list_addX l b its.toArray its2.toArray n n2 s1 s2 (by rw [List.size_toArray, List.size_toArray]; omega)) ⟨e, e2, ?_⟩
  rw [ea]
  exact ⟨.ref _, _, I.lnew (t' := s.toks) (r.append r2) (by rw [List.length_append]; omega), rfl, q _ I.fresh⟩
def rStrAdd : R2 := fun x y H Q => ∃ i j, x = .str i ∧ y = .str j ∧ i.length + j.length ≤ sizeLine ∧ Q (.str (i ++ j)) H
def rAddV (K : PySem.W.Frag) : R2 := fun x y H Q => rI0 (fun i j => .int (i + j)) x y H Q ∨ rStrAdd x y H Q ∨ rCatA K x y H Q ∨ rCatLs K x y H Q
theorem op_addV : OpR X (binaryOp .Add) (rAddV X.K) := op_add.or (OpR.or (r := rStrAdd) op_add_str (op_catA.or op_catLs))
def gAdd : PyData → PyData → Option Rs
  | .int i, .int j => some (fzI (i + j))
  | .str a, .str b => if a.length + b.length ≤ sizeLine then some (.fz (.str (a ++ b))) else none
  | .tuple a, .tuple b => if a.length + b.length ≤ sizeLine then some (.fz (.tuple (a ++ b))) else none
  | .list a, .list b => if a.length + b.length ≤ sizeLine then some (.nw (.ls (a ++ b))) else none
  | _, _ => none
theorem opv_add : OpV K (rAddV K) gAdd := fun F H x y d1 d2 rs Q tr h1 h2 hg k => by
  unfold gAdd at hg
  split at hg
  · cases hg
    exact .inl ⟨_, _, h1.int, h2.int, k _ _ [] (Same.refl _) rsn_int⟩
  · rename_i a b
    by_cases e : a.length + b.length ≤ sizeLine
    · rw [if_pos e] at hg; cases hg
      exact .inr (.inl ⟨a, b, h1.str, h2.str, e, k _ _ [] (Same.refl _) (rsn_v (.str _))⟩)
    · rw [if_neg e] at hg; cases hg
  · rename_i a b
    by_cases e : a.length + b.length ≤ sizeLine
    · rw [if_pos e] at hg; cases hg
      obtain ⟨p, vs, rfl, s1, t1, q1⟩ := h1.tup
      obtain ⟨p2, vs2, rfl, s2, t2, q2⟩ := h2.tup
      refine .inr (.inr (.inl ⟨p, p2, vs, vs2, rfl, rfl, s1, s2, by rw [q1.lenD, q2.lenD]; exact e, fun z => ?_, fun _ z => ?_, fun _ _ l hl => k _ _ [] (same_new hl) (rsn_tup tr hl (q1.app q2))⟩))
      · subst z; cases q1
        exact k _ _ [] (Same.refl _) (rsn_v (.tup t2 q2))
      · subst z; cases q2
        rw [List.append_nil] at k
        exact k _ _ [] (Same.refl _) (rsn_v (.tup t1 q1))
    · rw [if_neg e] at hg; cases hg
  · rename_i a b
    by_cases e : a.length + b.length ≤ sizeLine
    · rw [if_pos e] at hg; cases hg
      obtain ⟨p, vs, rfl, s1, q1⟩ := h1.lst
      obtain ⟨p2, vs2, rfl, s2, q2⟩ := h2.lst
      exact .inr (.inr (.inr ⟨p, p2, vs, vs2, rfl, rfl, s1, s2, by rw [q1.lenD, q2.lenD]; exact e, fun l hl => k _ _ [l] (same_new hl) (rsn_lst hl (q1.app q2))⟩))
    · rw [if_neg e] at hg; cases hg
  · cases hg
/-! * -/
def rRepLs (K : PySem.W.Frag) : R2 := fun x y H Q => ∃ l k xs, x = .ref l ∧ y = .int k ∧ H l = some (.lst xs) ∧ -(2 ^ 63) ≤ k ∧ k < 2 ^ 63 ∧ xs.length * k.toNat ≤ sizeLine ∧ ∀ p, H p = none → Q (.ref p) (upd H p (.lst (List.replicate k.toNat xs).flatten))
/-! == != -/
def rEqV2 (K : PySem.W.Frag) : R2 := fun x y H Q => rEqD K x y H Q ∨ rEq x y H Q
def rNeV2 (K : PySem.W.Frag) : R2 := fun x y H Q => rNeD K x y H Q ∨ rNe x y H Q
theorem op_eqV (hu : X.A.units + 64 < cLine) : OpR X (compareOp .Eq) (rEqV2 X.K) := (op_eqD hu).or op_eq
theorem op_neV (hu : X.A.units + 64 < cLine) : OpR X (compareOp .NotEq) (rNeV2 X.K) := (op_neD hu).or op_ne
def gEq : PyData → PyData → Option Rs
  | .str a, .str b => some (fzB (decide (a = b)))
  | x, y => if SeqAt.shaped x = true ∧ SeqAt.shaped y = true then some (fzB (PyData.eqv x y)) else none
def gNe : PyData → PyData → Option Rs
  | .str a, .str b => some (fzB (!decide (a = b)))
  | x, y => if SeqAt.shaped x = true ∧ SeqAt.shaped y = true then some (fzB (!PyData.eqv x y)) else none
theorem Vw.dpp {F : List Addr} {H : Hp} {v : V} {d : PyData} (h : Vw K F H v d) (hd : SeqAt.shaped d = true) : Dp K H v d := h.dp.dp (SeqAt.canLay_of_shaped hd)
theorem opv_eq : OpV K (rEqV2 K) gEq := fun F H x y d1 d2 rs Q tr h1 h2 hg k => by
  unfold gEq at hg
  split at hg
  · rename_i a b
    cases hg
    have e1 := h1.str
    have e2 := h2.str
    subst e1 e2
    refine .inr ⟨rfl, ?_⟩
    have e : decide (V.str a = V.str b) = decide (a = b) := by
      by_cases h : a = b
      · rw [h]; simp
      · rw [decide_eq_false h, decide_eq_false (fun z => h (by cases z; rfl))]
    rw [e]
    exact k _ _ [] (Same.refl _) rsn_bl
  · by_cases e : SeqAt.shaped d1 = true ∧ SeqAt.shaped d2 = true
    · rw [if_pos e] at hg; cases hg
      exact .inl ⟨d1, d2, h1.dpp e.1, h2.dpp e.2, e.1, e.2, k _ _ [] (Same.refl _) rsn_bl⟩
    · rw [if_neg e] at hg; cases hg
theorem opv_ne : OpV K (rNeV2 K) gNe := fun F H x y d1 d2 rs Q tr h1 h2 hg k => by
  unfold gNe at hg
  split at hg
  · rename_i a b
    cases hg
    have e1 := h1.str
    have e2 := h2.str
    subst e1 e2
    refine .inr ⟨rfl, ?_⟩
    have e : decide (V.str a = V.str b) = decide (a = b) := by
      by_cases h : a = b
      · rw [h]; simp
      · rw [decide_eq_false h, decide_eq_false (fun z => h (by cases z; rfl))]
    rw [e]
    exact k _ _ [] (Same.refl _) rsn_bl
  · by_cases e : SeqAt.shaped d1 = true ∧ SeqAt.shaped d2 = true
    · rw [if_pos e] at hg; cases hg
      exact .inl ⟨d1, d2, h1.dpp e.1, h2.dpp e.2, e.1, e.2, k _ _ [] (Same.refl _) rsn_bl⟩
    · rw [if_neg e] at hg; cases hg
/-! is None -/
def isNon : PyData → Bool
  | .none => true
  | _ => false
def gIsN : PyData → PyData → Option Rs := fun x y => match y with
  | .none => some (fzB (isNon x))
  | _ => none
def gNotN : PyData → PyData → Option Rs := fun x y => match y with
  | .none => some (fzB (!isNon x))
  | _ => none
theorem isNon_eq {H : Hp} {v : V} {d : PyData} (h : Dx K H v d) : decide (v = .non) = isNon d := by
  cases h <;> simp [isNon]
theorem opv_isN : OpV K rIsN gIsN := fun F H x y d1 d2 rs Q tr h1 h2 hg k => by
  unfold gIsN at hg
  split at hg
  · cases hg
    exact ⟨h2.non, by rw [isNon_eq h1.dp]; exact k _ _ [] (Same.refl _) rsn_bl⟩
  · cases hg
theorem opv_notN : OpV K rNotN gNotN := fun F H x y d1 d2 rs Q tr h1 h2 hg k => by
  unfold gNotN at hg
  split at hg
  · cases hg
    exact ⟨h2.non, by rw [isNon_eq h1.dp]; exact k _ _ [] (Same.refl _) rsn_bl⟩
  · cases hg
/-! in -/
def gIn : PyData → PyData → Option Rs := fun x y => match y with
  | .list ds => if SeqAt.shaped x = true ∧ SeqAt.shaped (.list ds) = true then some (fzB (ds.any fun z => PyData.eqv z x)) else none
  | _ => none
def gNotIn : PyData → PyData → Option Rs := fun x y => match y with
  | .list ds => if SeqAt.shaped x = true ∧ SeqAt.shaped (.list ds) = true then some (fzB (!ds.any fun z => PyData.eqv z x)) else none
  | _ => none
theorem opv_in : OpV K (rInD K) gIn := fun F H x y d1 d2 rs Q tr h1 h2 hg k => by
  unfold gIn at hg
  split at hg
  · rename_i ds
    by_cases e : SeqAt.shaped d1 = true ∧ SeqAt.shaped (.list ds) = true
    · rw [if_pos e] at hg; cases hg
      exact ⟨d1, ds, h1.dpp e.1, h2.dpp e.2, e.1, e.2, k _ _ [] (Same.refl _) rsn_bl⟩
    · rw [if_neg e] at hg; cases hg
  · cases hg
theorem opv_notIn : OpV K (rNotInD K) gNotIn := fun F H x y d1 d2 rs Q tr h1 h2 hg k => by
  unfold gNotIn at hg
  split at hg
  · rename_i ds
    by_cases e : SeqAt.shaped d1 = true ∧ SeqAt.shaped (.list ds) = true
    · rw [if_pos e] at hg; cases hg
      exact ⟨d1, ds, h1.dpp e.1, h2.dpp e.2, e.1, e.2, k _ _ [] (Same.refl _) rsn_bl⟩
    · rw [if_neg e] at hg; cases hg
  · cases hg
/-- a sign in a text -/
def gInS : PyData → PyData → Option Rs := fun x y => match x, y with
  | .str a, .str z => if a.cps.size = 1 then some (fzB (decide (a.cps.getD 0 0 ∈ z.cps.toList))) else none
  | _, _ => none
theorem str_one {a : Str} (h : a.cps.size = 1) : a = ⟨#[a.cps.getD 0 0]⟩ := by
  obtain ⟨c⟩ := a
  obtain ⟨l⟩ := c
  match l, h with
  | [x], _ => rfl
theorem opv_inS : OpV K rInS gInS := fun F H x y d1 d2 rs Q tr h1 h2 hg k => by
  unfold gInS at hg
  split at hg
  · rename_i a z
    by_cases e : a.cps.size = 1
    · rw [if_pos e] at hg; cases hg
      have ea := str_one e
      rw [ea] at h1
      exact ⟨_, z, h1.str, h2.str, k _ _ [] (Same.refl _) rsn_bl⟩
    · rw [if_neg e] at hg; cases hg
  · cases hg
/-! x[i] -/
def gIx : PyData → PyData → Option Rs
  | .list ds, .int i => (atI ds i).map .fz
  | .tuple ds, .int i => (atI ds i).map .fz
  | .str z, .int i => if z.length ≤ sizeLine then (atI z.cps.toList i).map fun c => .fz (.str ⟨#[c]⟩) else none
  | _, _ => none
theorem atI_dx {Z : Hp} {vs : List V} {ds : List PyData} {i : Int} {d : PyData} (q : DxAll K Z vs ds) (h : atI ds i = some d) : ∃ v, atI vs i = some v ∧ Dx K Z v d := by
  unfold atI at h ⊢
  rw [q.lenD]
  cases e : ixN ds.length i with
  | none => rw [e] at h; cases h
  | some j =>
    rw [e] at h
    exact q.atD h
theorem opv_ix : OpV K (rIx K) gIx := fun F H x y d1 d2 rs Q tr h1 h2 hg k => by
  unfold gIx at hg
  split at hg
  · rename_i ds i
    cases e : atI ds i with
    | none => rw [e] at hg; cases hg
    | some d =>
      rw [e] at hg; cases hg
      obtain ⟨p, vs, rfl, s1, q1⟩ := h1.lst
      obtain ⟨v, hv, hd⟩ := atI_dx q1 e
      exact .inl ⟨p, vs, i, v, rfl, h2.int, s1, hv, k _ _ [] (Same.refl _) (rsn_v hd)⟩
  · rename_i ds i
    cases e : atI ds i with
    | none => rw [e] at hg; cases hg
    | some d =>
      rw [e] at hg; cases hg
      obtain ⟨p, vs, rfl, s1, _, q1⟩ := h1.tup
      obtain ⟨v, hv, hd⟩ := atI_dx q1 e
      exact .inr (.inl ⟨p, vs, i, v, rfl, h2.int, s1, hv, k _ _ [] (Same.refl _) (rsn_v hd)⟩)
  · rename_i z i
    by_cases hz : z.length ≤ sizeLine
    · rw [if_pos hz] at hg
      cases e : atI z.cps.toList i with
      | none => rw [e] at hg; cases hg
      | some c =>
        rw [e] at hg; cases hg
        exact .inr (.inr ⟨z, i, c, h1.str, h2.int, hz, e, k _ _ [] (Same.refl _) (rsn_v (.str _))⟩)
    · rw [if_neg hz] at hg; cases hg
  · cases hg
/-! len, list, tuple, sum -/
def gLen : PyData → Option Rs
  | .list ds => some (fzI (ds.length : Nat))
  | .tuple ds => some (fzI (ds.length : Nat))
  | .str z => if z.length ≤ sizeLine then some (fzI (z.length : Nat)) else none
  | _ => none
theorem callv_len : CallV K (fun xs H Q => ∃ x n, xs = [x] ∧ LenV K x H n ∧ Q (.int n) H) gLen := fun F H x d rs Q tr h hg k => by
  unfold gLen at hg
  split at hg
  · cases hg
    obtain ⟨p, vs, rfl, s1, q1⟩ := h.lst
    exact ⟨_, _, rfl, .inl ⟨vs, s1, q1.lenD.symm⟩, k _ _ [] (Same.refl _) rsn_int⟩
  · cases hg
    obtain ⟨p, vs, rfl, s1, _, q1⟩ := h.tup
    exact ⟨_, _, rfl, .inr ⟨vs, s1, q1.lenD.symm⟩, k _ _ [] (Same.refl _) rsn_int⟩
  · rename_i z
    by_cases hz : z.length ≤ sizeLine
    · rw [if_pos hz] at hg; cases hg
      rw [h.str]
      exact ⟨_, z.length, rfl, ⟨hz, rfl⟩, k _ _ [] (Same.refl _) rsn_int⟩
    · rw [if_neg hz] at hg; cases hg
  · cases hg
def gList : PyData → Option Rs
  | .list ds => some (.nw (.ls ds))
  | .tuple ds => some (.nw (.ls ds))
  | _ => none
theorem callv_list : CallV K (fun xs H Q => ∃ p ys, xs = [.ref p] ∧ (SqL K H p ys ∨ SqT K H p ys) ∧ ∀ l, H l = none → Q (.ref l) (upd H l (.lst ys))) gList := fun F H x d rs Q tr h hg k => by
  unfold gList at hg
  split at hg
  · cases hg
    obtain ⟨p, vs, rfl, s1, q1⟩ := h.lst
    exact ⟨p, vs, rfl, .inl s1, fun l hl => k _ _ [l] (same_new hl) (rsn_lst hl q1)⟩
  · cases hg
    obtain ⟨p, vs, rfl, s1, _, q1⟩ := h.tup
    exact ⟨p, vs, rfl, .inr s1, fun l hl => k _ _ [l] (same_new hl) (rsn_lst hl q1)⟩
  · cases hg
def gTuple : PyData → Option Rs
  | .list ds => some (.fz (.tuple ds))
  | .tuple ds => some (.fz (.tuple ds))
  | _ => none
theorem callv_tuple : CallV K (fun xs H Q => ∃ p ys, xs = [.ref p] ∧ ((SqL K H p ys ∧ ∀ l, H l = none → Q (.ref l) (upd H l (.tup ys))) ∨ (SqT K H p ys ∧ Q (.ref p) H))) gTuple := fun F H x d rs Q tr h hg k => by
  unfold gTuple at hg
  split at hg
  · cases hg
    obtain ⟨p, vs, rfl, s1, q1⟩ := h.lst
    exact ⟨p, vs, rfl, .inl ⟨s1, fun l hl => k _ _ [] (same_new hl) (rsn_tup tr hl q1)⟩⟩
  · cases hg
    obtain ⟨p, vs, rfl, s1, t1, q1⟩ := h.tup
    exact ⟨p, vs, rfl, .inr ⟨s1, k _ _ [] (Same.refl _) (rsn_v (.tup t1 q1))⟩⟩
  · cases hg
def intsOf : List PyData → Option (List Int)
  | [] => some []
  | .int i :: r => (intsOf r).map (i :: ·)
  | _ => none
theorem intsOf_some : ∀ {ds : List PyData} {ns : List Int}, intsOf ds = some ns → ds = ns.map PyData.int
  | [], ns, h => by cases h; rfl
  | d :: r, ns, h => by
    cases d with
    | int i =>
      unfold intsOf at h
      cases e : intsOf r with
      | none => rw [e] at h; cases h
      | some m =>
        rw [e] at h; cases h
        rw [intsOf_some e]; rfl
    | _ => cases h
def gSum : PyData → Option Rs
  | .list ds => (intsOf ds).map fun ns => fzI ns.sum
  | _ => none
theorem callv_sum : CallV K (rSum K) gSum := fun F H x d rs Q tr h hg k => by
  unfold gSum at hg
  split at hg
  · rename_i ds
    cases e : intsOf ds with
    | none => rw [e] at hg; cases hg
    | some ns =>
      rw [e] at hg; cases hg
      have e2 := intsOf_some e
      subst e2
      obtain ⟨p, vs, rfl, s1, q1⟩ := h.lst
      rw [q1.toInts] at s1
      exact ⟨p, ns, rfl, s1, k _ _ [] (Same.refl _) rsn_int⟩
  · cases hg
/-! slices -/
def cutD (ds : List PyData) (lo hi : Option Int) : List PyData := (ds.drop (HT.sIx ds.length 0 lo)).take (HT.sIx ds.length ds.length hi - HT.sIx ds.length 0 lo)
theorem cut_dx {Z : Hp} {vs : List V} {ds : List PyData} (q : DxAll K Z vs ds) (lo hi : Option Int) : DxAll K Z (cutV vs lo hi) (cutD ds lo hi) := by
  unfold cutV cutD
  rw [q.lenD]
  exact (q.dropN _).takeN _
def rSlV (K : PySem.W.Frag) : V → Option Int → Option Int → Hp → VK → Prop := fun x lo hi H Q => rSlA K x lo hi H Q ∨ rSlL K x lo hi H Q ∨ rSlS x lo hi H Q
theorem sl_V : L2.SlR X (rSlV X.K) := sl_tupA.or (sl_list.or sl_str)
def gSl : PyData → Option Int → Option Int → Option Rs := fun x lo hi => match x with
  | .tuple ds => some (.fz (.tuple (cutD ds lo hi)))
  | .list ds => some (.nw (.ls (cutD ds lo hi)))
  | .str z => if z.length ≤ sizeLine then some (.fz (.str (cutS z lo hi))) else none
  | _ => none
theorem cutD_whole {ds : List PyData} {lo hi : Option Int} (h : HT.sIx ds.length 0 lo = 0 ∧ HT.sIx ds.length ds.length hi = ds.length) : cutD ds lo hi = ds := by
  unfold cutD
  rw [h.1, h.2]
  simp
theorem sld : SlD K (rSlV K) gSl := fun F H x d lo hi rs Q tr h hg k => by
  unfold gSl at hg
  split at hg
  · cases hg
    cases h with
    | @tup a xs _ s1 q1 =>
      refine .inl ⟨a, xs, rfl, seqT_mono hid_le s1, fun w => ?_, fun _ l hl => k _ _ [] (same_new hl) (rsn_tup tr hl (cut_dx q1 lo hi))⟩
      rw [q1.lenD] at w
      rw [cutD_whole w] at k
      exact k _ _ [] (Same.refl _) (rsn_v (.tup s1 q1))
  · cases hg
    cases h with
    | @lst a xs _ s1 q1 => exact .inr (.inl ⟨a, xs, rfl, hid_le.seq s1, fun l hl => k _ _ [l] (same_new hl) (rsn_lst hl (cut_dx q1 lo hi))⟩)
  · rename_i z
    by_cases hz : z.length ≤ sizeLine
    · rw [if_pos hz] at hg; cases hg
      cases h
      exact .inr (.inr ⟨z, rfl, hz, k _ _ [] (Same.refl _) (rsn_v (.str _))⟩)
    · rw [if_neg hz] at hg; cases hg
  · cases hg
/-! list methods -/
def gAppend : List PyData → List PyData → Option (List PyData × PyData) := fun ds as => match as with
  | [y] => if ds.length < sizeLine then some (ds ++ [y], .none) else none
  | _ => none
theorem mtl_append : MtL K rAppend gAppend := fun F H p vs ds xs as ds' d Q hp hv ha hg k => by
  unfold gAppend at hg
  split at hg
  · rename_i y
    by_cases e : ds.length < sizeLine
    · rw [if_pos e] at hg; cases hg
      cases ha with
      | cons h1 h2 =>
        cases h2
        exact ⟨p, vs, _, rfl, rfl, hp, by rw [hv.lenD]; exact e, k _ _ (hv.app (.one h1)) .non⟩
    · rw [if_neg e] at hg; cases hg
  · cases hg
def gInsert : List PyData → List PyData → Option (List PyData × PyData) := fun ds as => match as with
  | [.int i, y] => if ds.length < sizeLine ∧ 0 ≤ i ∧ i < 2 ^ 63 then some (ds.take i.toNat ++ [y] ++ ds.drop i.toNat, .none) else none
  | _ => none
theorem mtl_insert : MtL K (fun x vs H Q => ∃ (l : Addr) (xs : List V) (i : Int) (y : V), x = .ref l ∧ vs = [.int i, y] ∧ H l = some (.lst xs) ∧ xs.length < sizeLine ∧ 0 ≤ i ∧ i < 2 ^ 63 ∧
    Q .non (upd H l (.lst (xs.take i.toNat ++ [y] ++ xs.drop i.toNat)))) gInsert := fun F H p vs ds xs as ds' d Q hp hv ha hg k => by
  unfold gInsert at hg
  split at hg
  · rename_i i y
    by_cases e : ds.length < sizeLine ∧ 0 ≤ i ∧ i < 2 ^ 63
    · rw [if_pos e] at hg; cases hg
      cases ha with
      | cons h1 h2 =>
        cases h1
        cases h2 with
        | cons h2 h3 =>
          cases h3
          exact ⟨p, vs, i, _, rfl, rfl, hp, by rw [hv.lenD]; exact e.1, e.2.1, e.2.2, k _ _ (((hv.takeN _).app (.one h2)).app (hv.dropN _)) .non⟩
    · rw [if_neg e] at hg; cases hg
  · cases hg
def gPop : List PyData → List PyData → Option (List PyData × PyData) := fun ds as => match as with
  | [] => (ds[ds.length - 1]?).map fun y => (ds.dropLast, y)
  | _ => none
theorem DxAll.dropLast {Z : Hp} : ∀ {vs : List V} {ds : List PyData}, DxAll K Z vs ds → DxAll K Z vs.dropLast ds.dropLast
  | _, _, .nil => .nil
  | _, _, .cons _ .nil => .nil
  | _, _, .cons h (.cons h2 q) => .cons h (DxAll.dropLast (.cons h2 q))
theorem mtl_pop : MtL K rPop gPop := fun F H p vs ds xs as ds' d Q hp hv ha hg k => by
  unfold gPop at hg
  split at hg
  · cases ha
    cases e : ds[ds.length - 1]? with
    | none => rw [e] at hg; cases hg
    | some y =>
      rw [e] at hg; cases hg
      obtain ⟨v, h1, h2⟩ := hv.atD e
      exact ⟨p, vs, v, rfl, rfl, hp, by rw [hv.lenD]; exact h1, k _ _ hv.dropLast h2⟩
  · cases hg
end
end L3
end

section
set_option Elab.async false
set_option linter.all false
set_option maxRecDepth 100000
set_option maxHeartbeats 1000000
set_option autoImplicit false
/-! L3 part l: the law's pen. -/
namespace L3
open PySem PySem.Spec PyProof.Rows L2
section
variable {X : Cx} {C : Ct} {e a b : Expr} {es : List Expr} {t ta tb : RE} {pos : Pos}
theorem slot_pn {K : PySem.W.Frag} {pf : List (V × PyData)} {σ : L2.St} {H : Hp} {env : En} {feet : List (List Addr)} {ex : List Addr} {i : Nat} {cs : List Int} {n z : Int} (W : Wf K C pf σ H env feet ex) (h : env[i]? = some (.ow (.pn cs n z))) :
    ∃ p c, σ[i]? = some (some (.ref p)) ∧ feet[i]? = some [p, c] ∧ H p = some (.lst [.ref c, .int n, .int z]) ∧ H c = some (.lst (cs.map V.int)) := by
  have i1 : i < env.length := (List.getElem?_eq_some_iff.mp h).1
  have i2 : i < σ.length := by rw [W.rel.l1]; exact i1
  have i3 : i < feet.length := by rw [W.rel.l2]; exact i1
  obtain ⟨p, e1, c, hf, hp, hc⟩ := W.rel.sl i _ _ _ (List.getElem?_eq_getElem i2) h (List.getElem?_eq_getElem i3)
  exact ⟨p, c, by rw [List.getElem?_eq_getElem i2, e1], by rw [List.getElem?_eq_getElem i3, hf], hp, hc⟩
theorem slot_fz {K : PySem.W.Frag} {pf : List (V × PyData)} {σ : L2.St} {H : Hp} {env : En} {feet : List (List Addr)} {ex : List Addr} {i : Nat} {d : PyData} (W : Wf K C pf σ H env feet ex) (h : env[i]? = some (.fz d)) :
    ∃ v, σ[i]? = some (some v) ∧ Dx K (hid H (feet.flatten ++ ex)) v d := by
  have i1 : i < env.length := (List.getElem?_eq_some_iff.mp h).1
  have i2 : i < σ.length := by rw [W.rel.l1]; exact i1
  have i3 : i < feet.length := by rw [W.rel.l2]; exact i1
  obtain ⟨_, v, e1, hd⟩ := W.rel.sl i _ _ _ (List.getElem?_eq_getElem i2) h (List.getElem?_eq_getElem i3)
  exact ⟨v, by rw [List.getElem?_eq_getElem i2, e1], hd⟩
/-- an expression told by its reading below, an int -/
def ePu (G : En → Int → Prop) : RE := fun env Q EX => ∃ k, G env k ∧ Q (.fz (.int k)) env
theorem se_pu {t : TE} {G : En → Int → Prop} (h : PE X e t) (hG : ∀ σ H pf env feet k, Wf X.K C pf σ H env feet [] → G env k → ∀ R : VK, R (.int k) H → t σ H R) : SE X C e (ePu G) := .mk fun σ H pf env feet Q EX W tk ⟨k, g, q⟩ =>
  eW.of h (hG σ H pf env feet k W g _ ⟨.fz (.int k), env, feet, [], W, ⟨rfl, .int k⟩, q⟩)
/-- pen[1], pen[2] -/
def gPen (i : Nat) (k : Nat) : En → Int → Prop := fun env v => ∃ cs n z, env[i]? = some (.ow (.pn cs n z)) ∧ v = if k = 1 then n else z
theorem se_pen1 {x : Str} {px p2 : Pos} {j : Nat} (i : Nat) (hN : X.N[i]? = some x := by rfl) (hv : Vis X.env.scope x := by first | exact Or.inl rfl | exact Or.inr (Or.inl rfl) | exact Or.inr (Or.inr rfl)) (hd : (x == ("__debug__" : Str)) = false := by decide) (hcd : (x == ("__classdict__" : Str)) = false := by decide) :
    SE X C (.Subscript (.Name x px) (.Constant (.int 1) j p2) pos) (ePu (gPen i 1)) := se_pu (pe_ix ix_seq (pe_var hN hv hd hcd) pe_int fun _ _ => rfl) fun σ H pf env feet k W ⟨cs, n, z, he, ek⟩ R q => by
  subst ek
  obtain ⟨p, c, h1, h2, h3, h4⟩ := slot_pn W he
  exact ⟨_, h1, .inl ⟨p, _, 1, _, rfl, rfl, .inl (.inl h3), rfl, q⟩⟩
theorem se_pen2 {x : Str} {px p2 : Pos} {j : Nat} (i : Nat) (hN : X.N[i]? = some x := by rfl) (hv : Vis X.env.scope x := by first | exact Or.inl rfl | exact Or.inr (Or.inl rfl) | exact Or.inr (Or.inr rfl)) (hd : (x == ("__debug__" : Str)) = false := by decide) (hcd : (x == ("__classdict__" : Str)) = false := by decide) :
    SE X C (.Subscript (.Name x px) (.Constant (.int 2) j p2) pos) (ePu (gPen i 2)) := se_pu (pe_ix ix_seq (pe_var hN hv hd hcd) pe_int fun _ _ => rfl) fun σ H pf env feet k W ⟨cs, n, z, he, ek⟩ R q => by
  subst ek
  obtain ⟨p, c, h1, h2, h3, h4⟩ := slot_pn W he
  exact ⟨_, h1, .inl ⟨p, _, 2, _, rfl, rfl, .inl (.inl h3), rfl, q⟩⟩
/-- len(pen[0]) -/
def gPenL (i : Nat) : En → Int → Prop := fun env v => ∃ cs n z, env[i]? = some (.ow (.pn cs n z)) ∧ v = (cs.length : Nat)
theorem se_penL {x : Str} {px p2 p3 p4 pl : Pos} {j : Nat} (i : Nat) (hg : Gl X "len") (hm : X.mg "len" = none) (hN : X.N[i]? = some x := by rfl) (hv : Vis X.env.scope x := by first | exact Or.inl rfl | exact Or.inr (Or.inl rfl) | exact Or.inr (Or.inr rfl)) (hd : (x == ("__debug__" : Str)) = false := by decide)
    (hcd : (x == ("__classdict__" : Str)) = false := by decide) : SE X C (.Call (.Name "len" p3) [.Subscript (.Name x px) (.Constant (.int 0) j p2) p4] [] pl) (ePu (gPenL i)) :=
  se_pu (pe_callB call_len hg hm boot_len (pa_cons (pe_ix ix_seq (pe_var hN hv hd hcd) pe_int fun _ _ => rfl) pa_nil)) fun σ H pf env feet k W ⟨cs, n, z, he, ek⟩ R q => by
    subst ek
    obtain ⟨p, c, h1, h2, h3, h4⟩ := slot_pn W he
    exact ⟨_, h1, .inl ⟨p, _, 0, _, rfl, rfl, .inl (.inl h3), rfl, _, _, rfl, .inl ⟨_, .inl (.inl h4), by simp⟩, q⟩⟩
/-- pen[0][at] -/
def gPenA (i j : Nat) : En → Int → Prop := fun env v => ∃ cs n z a, env[i]? = some (.ow (.pn cs n z)) ∧ env[j]? = some (.fz (.int a)) ∧ atI cs a = some v
theorem atI_map {cs : List Int} {a v : Int} (h : atI cs a = some v) : atI (cs.map V.int) a = some (V.int v) := by
  unfold atI at h ⊢
  rw [List.length_map]
  cases e : ixN cs.length a with
  | none => rw [e] at h; cases h
  | some j =>
    rw [e] at h
    have h' : cs[j]? = some v := h
    show (cs.map V.int)[j]? = _
    rw [List.getElem?_map, h']; rfl
theorem se_penA {x y : Str} {px p2 p3 p4 py : Pos} {k : Nat} (i j : Nat) (hN : X.N[i]? = some x := by rfl) (hv : Vis X.env.scope x := by first | exact Or.inl rfl | exact Or.inr (Or.inl rfl) | exact Or.inr (Or.inr rfl)) (hd : (x == ("__debug__" : Str)) = false := by decide) (hcd : (x == ("__classdict__" : Str)) = false := by decide)
    (hN2 : X.N[j]? = some y := by rfl) (hv2 : Vis X.env.scope y := by first | exact Or.inl rfl | exact Or.inr (Or.inl rfl) | exact Or.inr (Or.inr rfl)) (hd2 : (y == ("__debug__" : Str)) = false := by decide) (hcd2 : (y == ("__classdict__" : Str)) = false := by decide) :
    SE X C (.Subscript (.Subscript (.Name x px) (.Constant (.int 0) k p2) p3) (.Name y py) p4) (ePu (gPenA i j)) :=
  se_pu (pe_ix ix_seq (pe_ix ix_seq (pe_var hN hv hd hcd) pe_int fun _ _ => rfl) (pe_var hN2 hv2 hd2 hcd2) fun _ _ => rfl) fun σ H pf env feet k W ⟨cs, n, z, a, he, hj, ha⟩ R q => by
    obtain ⟨p, c, h1, h2, h3, h4⟩ := slot_pn W he
    obtain ⟨v, g1, g2⟩ := slot_fz W hj
    cases g2
    exact ⟨_, h1, .inl ⟨p, _, 0, _, rfl, rfl, .inl (.inl h3), rfl, _, g1, .inl ⟨c, _, a, _, rfl, rfl, .inl (.inl h4), atI_map ha, q⟩⟩⟩
/-- pen[0][(at * 5 + 3) % len(pen[0])] -/
def gPenB (i j : Nat) : En → Int → Prop := fun env v => ∃ cs n z a, env[i]? = some (.ow (.pn cs n z)) ∧ env[j]? = some (.fz (.int a)) ∧ cs ≠ [] ∧ atI cs ((a * 5 + 3).fmod (cs.length : Nat)) = some v
theorem se_penB {x y : Str} {px p2 p3 p4 p5 p6 p7 p8 p9 q1 q2 q3 q4 q5 py : Pos} {k k2 k3 k4 : Nat} (i j : Nat) (hg : Gl X "len") (hm : X.mg "len" = none) (hN : X.N[i]? = some x := by rfl) (hv : Vis X.env.scope x := by first | exact Or.inl rfl | exact Or.inr (Or.inl rfl) | exact Or.inr (Or.inr rfl))
    (hd : (x == ("__debug__" : Str)) = false := by decide) (hcd : (x == ("__classdict__" : Str)) = false := by decide)
    (hN2 : X.N[j]? = some y := by rfl) (hv2 : Vis X.env.scope y := by first | exact Or.inl rfl | exact Or.inr (Or.inl rfl) | exact Or.inr (Or.inr rfl)) (hd2 : (y == ("__debug__" : Str)) = false := by decide) (hcd2 : (y == ("__classdict__" : Str)) = false := by decide) :
    SE X C (.Subscript (.Subscript (.Name x px) (.Constant (.int 0) k p2) p3) (.BinOp (.BinOp (.BinOp (.Name y py) .Mult (.Constant (.int 5) k2 p4) p5) .Add (.Constant (.int 3) k3 p6) p7) .Mod (.Call (.Name "len" p8) [.Subscript (.Name x p9) (.Constant (.int 0) k4 q1) q2] [] q3) q4) q5) (ePu (gPenB i j)) :=
  se_pu (pe_ix ix_seq (pe_ix ix_seq (pe_var hN hv hd hcd) pe_int fun _ _ => rfl) (pe_op op_modN (pe_op op_add (pe_op op_mul (pe_var hN2 hv2 hd2 hcd2) pe_int) pe_int) (pe_callB call_len hg hm boot_len (pa_cons (pe_ix ix_seq (pe_var hN hv hd hcd) pe_int fun _ _ => rfl) pa_nil))) fun _ _ => rfl) fun σ H pf env feet k W ⟨cs, n, z, a, he, hj, hne, ha⟩ R q => by
    obtain ⟨p, c, h1, h2, h3, h4⟩ := slot_pn W he
    obtain ⟨v, g1, g2⟩ := slot_fz W hj
    cases g2
    have hl : ((cs.length : Nat) : Int) ≠ 0 := by
      intro z
      exact hne (List.eq_nil_of_length_eq_zero (by omega))
    exact ⟨_, h1, .inl ⟨p, _, 0, _, rfl, rfl, .inl (.inl h3), rfl, _, g1, a, 5, rfl, rfl, .inr ⟨by decide, by decide⟩, a * 5, 3, rfl, rfl, _, h1, .inl ⟨p, _, 0, _, rfl, rfl, .inl (.inl h3), rfl, _, _, rfl, .inl ⟨_, .inl (.inl h4), by simp⟩, _, _, rfl, rfl, hl,
      .inl ⟨c, _, _, _, rfl, rfl, .inl (.inl h4), atI_map ha, q⟩⟩⟩⟩
/-- pen[1] = v, pen[2] = v -/
def gPenS (i k : Nat) : RG := fun d env Q EX => ∃ cs n z m, env[i]? = some (.ow (.pn cs n z)) ∧ d = .int m ∧ Q (env.set i (.ow (.pn cs (if k = 1 then m else n) (if k = 1 then z else m))))
theorem sg_pen {x : Str} {px p2 : Pos} {j : Nat} (i k : Nat) (hk : k = 1 ∨ k = 2) {kk : Int} (hkk : kk = (k : Int)) (hN : X.N[i]? = some x := by rfl) (hv : Vis X.env.scope x := by first | exact Or.inl rfl | exact Or.inr (Or.inl rfl) | exact Or.inr (Or.inr rfl)) (hd : (x == ("__debug__" : Str)) = false := by decide)
    (hcd : (x == ("__classdict__" : Str)) = false := by decide)
    (ha : ∀ v, assign (.Subscript (.Name x px) (.Constant (.int kk) j p2) pos) X.env v = (do
      let ov ← holding [v] (eval (.Name x px) X.env)
      let iv ← holding [v, ov] (eval (.Constant (.int kk) j p2) X.env)
      standAt pos
      holding [v, ov, iv] (setItem ov iv v)
      release [v, ov, iv] []) := by intro _; rfl) : SG X C (.Subscript (.Name x px) (.Constant (.int kk) j p2) pos) (gPenS i k) := .mk fun σ H pf env feet v d Q EX W tk hdv q pins s u I r => by
  obtain ⟨cs, n, z, m, he, rfl, q⟩ := q
  cases hdv
  obtain ⟨p, c, h1, h2, h3, h4⟩ := slot_pn W he
  have pc : p ≠ c := fun z => by rw [z, h4] at h3; cases cs with
    | nil => cases h3
    | cons a b => simp at h3
  refine (pg_sub (pe_var hN hv hd hcd) pe_int set_list ha).run pins s σ H _ u _ I r ⟨.ref p, h1, ?_⟩
  subst hkk
  rcases hk with rfl | rfl
  · refine ⟨p, _, 1, 1, rfl, rfl, h3, rfl, ?_⟩
    exact ⟨_, feet, W.turn (H' := upd H p _) (o := .pn cs n z) (o' := .pn cs m z) h1 h2 (fun a ha => upd_ne fun e => ha (by rw [e]; simp)) ⟨c, rfl, upd_same, by rw [upd_ne (fun e => pc e.symm)]; exact h4⟩, q⟩
  · refine ⟨p, _, 2, 2, rfl, rfl, h3, rfl, ?_⟩
    exact ⟨_, feet, W.turn (H' := upd H p _) (o := .pn cs n z) (o' := .pn cs n m) h1 h2 (fun a ha => upd_ne fun e => ha (by rw [e]; simp)) ⟨c, rfl, upd_same, by rw [upd_ne (fun e => pc e.symm)]; exact h4⟩, q⟩
/-- [cells, 0, 0] -/
def ePenN (i : Nat) : RE := fun env Q EX => ∃ ns : List Int, env[i]? = some (.ow (.ls (ns.map PyData.int))) ∧ Q (.nw (.pn ns 0 0)) (env.set i .un)
theorem se_penN {x : Str} {px p2 p3 : Pos} {j k : Nat} (i : Nat) (hN : X.N[i]? = some x := by rfl) (hv : Vis X.env.scope x := by first | exact Or.inl rfl | exact Or.inr (Or.inl rfl) | exact Or.inr (Or.inr rfl)) (hd : (x == ("__debug__" : Str)) = false := by decide) (hcd : (x == ("__classdict__" : Str)) = false := by decide) :
    SE X C (.List [.Name x px, .Constant (.int 0) j p2, .Constant (.int 0) k p3] pos) (ePenN i) := .mk fun σ H pf env feet Q EX W tk q => by
  obtain ⟨ns, he, q⟩ := q
  obtain ⟨c, vs, h1, h2, h3, h4⟩ := slot_ls W he
  have ev := h4.toInts
  subst ev
  refine eW.of (pe_lst (pa_cons (pe_var hN hv hd hcd) (pa_cons pe_int (pa_cons pe_int pa_nil)))) ⟨_, h1, (by rw [sizeLine_eq]; decide : 3 ≤ sizeLine), fun p hp => ?_⟩
  have i3 : i < feet.length := (List.getElem?_eq_some_iff.mp h2).1
  have nd := W.nd
  rw [List.append_nil] at nd
  have cin : c ∈ feet.flatten := List.mem_flatten.mpr ⟨_, List.mem_of_getElem? h2, by simp⟩
  have pnin : p ∉ feet.flatten := fun m => W.rel.tr p m hp
  have cout : c ∉ (feet.set i []).flatten := fun m => by
    obtain ⟨g, hg, hpg⟩ := List.mem_flatten.mp m
    obtain ⟨l, hl, e2⟩ := List.mem_iff_getElem.mp hg
    have e3 : (feet.set i [])[l]? = some g := by rw [List.getElem?_eq_getElem hl, e2]
    by_cases ij : i = l
    · subst ij
      rw [List.getElem?_set_self i3] at e3
      cases e3
      cases hpg
    · rw [List.getElem?_set_ne ij] at e3
      exact ij (nodup_foot nd h2 e3 (by simp) hpg)
  have sub : ∀ a, a ∈ (feet.set i []).flatten → a ∈ feet.flatten := fun a m => by
    rcases flatten_set_sub m with m | m
    · exact m
    · cases m
  have pc : p ≠ c := fun z => by rw [z, h3] at hp; cases hp
  have sm : Same (hid H (feet.flatten ++ [])) (hid (upd H p (.lst [.ref c, .int 0, .int 0])) ((feet.set i []).flatten ++ [p, c])) := hid_same fun a o n q => ⟨fun m => n (by
    rw [List.append_nil]
    rcases List.mem_append.mp m with m | m
    · exact sub a m
    · rcases List.mem_cons.mp m with rfl | m
      · rw [hp] at q; cases q
      · rw [List.mem_singleton.mp m]; exact cin), by rw [upd_ne (fun e => by rw [e, hp] at q; cases q)]; exact q⟩
  have rel1 : EnvR X.K (hid (upd H p (.lst [.ref c, .int 0, .int 0])) ((feet.set i []).flatten ++ [p, c])) (upd H p (.lst [.ref c, .int 0, .int 0])) σ (env.set i .un) (feet.set i []) := by
    refine ⟨by simp [W.rel.l1], by simp [W.rel.l2], fun l u t g e1 e2 e3 => ?_⟩
    by_cases ij : i = l
    · subst ij
      have i1 : i < env.length := (List.getElem?_eq_some_iff.mp he).1
      rw [List.getElem?_set_self i1] at e2
      rw [List.getElem?_set_self i3] at e3
      cases e2; cases e3
      rfl
    · rw [List.getElem?_set_ne ij] at e2 e3
      refine (W.rel.sl l u t g e1 e2 e3).mono sm fun a ha => upd_ne fun e => pnin ?_
      rw [← e]
      exact List.mem_flatten.mpr ⟨g, List.mem_of_getElem? e3, ha⟩
  · refine ⟨.nw (.pn ns 0 0), _, feet.set i [], [p, c], ⟨?_, rel1, fun p hp => dx_mono sm (W.pin p hp), fun a ha => ?_, fun a o n q => ?_, fun a ha => ?_, W.pr⟩, ⟨p, rfl, c, rfl, upd_same, by rw [upd_ne (fun e => pc e.symm)]; exact h3⟩, q⟩
    · refine List.nodup_append.mpr ⟨nodup_set W.nd, by simp [pc], fun a ha b hb e => ?_⟩
      subst e
      rcases List.mem_cons.mp hb with rfl | hb
      · exact pnin (sub _ ha)
      · rw [List.mem_singleton.mp hb] at ha
        exact cout ha
    · rcases List.mem_cons.mp ha with rfl | ha
      · rw [upd_same]; simp
      · rw [List.mem_singleton.mp ha, upd_ne (fun e => pc e.symm), h3]; simp
    · rw [upd_ne (fun e => ?_)]
      · exact W.fr a o n q
      · have := W.fr a o n q
        rw [e, hp] at this; cases this
    · rcases List.mem_append.mp ha with m | m
      · exact W.nw a (List.mem_append_left _ (sub a m))
      · rcases List.mem_cons.mp m with rfl | m
        · by_cases q : a ∈ C.F0
          · exact .inl q
          · right
            cases z : C.H0 a with
            | none => rfl
            | some o => have := W.fr a o q z; rw [hp] at this; cases this
        · rw [List.mem_singleton.mp m]
          exact W.nw c (List.mem_append_left _ cin)
end
end L3
end

section
set_option Elab.async false
set_option linter.all false
set_option maxRecDepth 100000
set_option maxHeartbeats 1000000
set_option autoImplicit false
/-! L3 part m: enumerate, zip; more operations. -/
namespace L3
open PySem PySem.Spec PyProof.Rows L2
section
variable {X : Cx} {C : Ct} {tg iter : Expr} {t : RE}
def enumD (ds : List PyData) : List PyData := ds.mapIdx fun i d => .tuple [.int (i : Nat), d]
theorem itd_enum {K : PySem.W.Frag} {a : Addr} {ds : List PyData} {pf : List (V × PyData)} (hm : (V.ref a, PyData.list ds) ∈ pf) : ItD X C pf (Ite X.K a) (enumD ds) where
  stop := fun σ H env feet H2 W sm => by
    cases W.pin _ hm with
    | lst h q => exact ⟨_, sm.seq (hid_le.seq h), by rw [q.lenD]; simp [enumD]⟩
  go := fun i σ H env feet H2 hi W sm => by
    cases W.pin _ hm with
    | lst h q =>
      have hi' : i < ds.length := by simpa [enumD] using hi
      obtain ⟨v, hv, _⟩ := q.atD (List.getElem?_eq_getElem hi')
      exact ⟨_, v, sm.seq (hid_le.seq h), hv⟩
  yld := fun i x σ H env feet H2 H' hi W sm y => by
    obtain ⟨T, z, rfl, hT, rfl, y⟩ := y
    cases W.pin _ hm with
    | lst h q =>
      have hi' : i < ds.length := by simpa [enumD] using hi
      obtain ⟨v, hv, hd⟩ := q.atD (List.getElem?_eq_getElem hi')
      have e := y _ (sm.seq (hid_le.seq h))
      rw [hv] at e
      cases e
      refine ⟨_, by simp [enumD, List.getElem?_eq_getElem hi'], .inr ⟨T, _, [.int (i : Nat), ds[i]], rfl, hT, rfl, .cons (.int _) (.cons hd .nil), rfl⟩⟩
def iEnm (ta : RA) : RI := fun env Q EX => ta env (fun l e => ∃ ds, l = [.list ds] ∧ Q (enumD ds) e) EX
theorem si_enum {a : Expr} {ta : RA} {elts : List Expr} {kk : Nat} {tpos p pos : Pos} (hg : Gl X "enumerate") (hm : X.mg "enumerate" = none) (h : SA X C [a] ta) (hs : starEach [a] X.env = [(false, eval a X.env)] := by rfl) : SI X C (.Tuple elts kk tpos) (.Call (.Name "enumerate" p) [a] [] pos) (iEnm ta) := ⟨_, pi_enum hg hm aW.pa hs, fun σ H pf env feet Q EX R W tk q k => by
  refine (h σ H pf env feet _ EX W tk q).imp fun vs H1 ⟨l, e1, f1, W1, h1, ds, hd, q1⟩ => ?_
  subst hd
  cases h1 with
  | cons h1 h2 =>
    cases h2
    cases h1 with
    | @lst a xs _ hs ha =>
      have W2 := W1.pinned (.lst hs ha)
      exact ⟨a, xs, rfl, hid_le.seq hs, k _ _ ⟨_, e1, f1, _, W2, fun p hp => List.mem_cons_of_mem _ hp, itd_enum (K := X.K) (by simp), q1⟩⟩⟩
/-! zip of two lists, of two tuples -/
def zipD (xs ys : List PyData) : List PyData := (xs.zip ys).map fun p => .tuple [p.1, p.2]
theorem itd_zip {a b : Addr} {xs ys : List PyData} {pf : List (V × PyData)} (hx : (V.ref a, PyData.list xs) ∈ pf) (hy : (V.ref b, PyData.list ys) ∈ pf) : ItD X C pf (Itz X.K a b) (zipD xs ys) where
  stop := fun σ H env feet H2 W sm => by
    cases W.pin _ hx with
    | lst h q => cases W.pin _ hy with
      | lst h2 q2 => exact ⟨_, _, sm.seq (hid_le.seq h), sm.seq (hid_le.seq h2), by rw [q.lenD, q2.lenD]; simp [zipD]; omega⟩
  go := fun i σ H env feet H2 hi W sm => by
    cases W.pin _ hx with
    | lst h q => cases W.pin _ hy with
      | lst h2 q2 =>
        have hi' : i < xs.length ∧ i < ys.length := by simpa [zipD, Nat.lt_min] using hi
        obtain ⟨v, hv, _⟩ := q.atD (List.getElem?_eq_getElem hi'.1)
        obtain ⟨v2, hv2, _⟩ := q2.atD (List.getElem?_eq_getElem hi'.2)
        exact ⟨_, _, v, v2, sm.seq (hid_le.seq h), sm.seq (hid_le.seq h2), hv, hv2⟩
  yld := fun i x σ H env feet H2 H' hi W sm y => by
    obtain ⟨T, z, z2, rfl, hT, rfl, y, y2⟩ := y
    cases W.pin _ hx with
    | lst h q => cases W.pin _ hy with
      | lst h2 q2 =>
        have hi' : i < xs.length ∧ i < ys.length := by simpa [zipD, Nat.lt_min] using hi
        obtain ⟨v, hv, hd⟩ := q.atD (List.getElem?_eq_getElem hi'.1)
        obtain ⟨v2, hv2, hd2⟩ := q2.atD (List.getElem?_eq_getElem hi'.2)
        have e := y _ (sm.seq (hid_le.seq h))
        have e2 := y2 _ (sm.seq (hid_le.seq h2))
        rw [hv] at e
        rw [hv2] at e2
        cases e
        cases e2
        refine ⟨_, by simp [zipD, List.getElem?_zip_eq_some, hi'.1, hi'.2, List.getElem?_eq_getElem], .inr ⟨T, _, [xs[i], ys[i]], rfl, hT, rfl, .cons hd (.cons hd2 .nil), rfl⟩⟩
/-! ### by data from by sight -/
theorem OpV.d {K : PySem.W.Frag} {r : R2} {g : PyData → PyData → Option Rs} (h : OpV K r g) : OpD K r g := fun F H x y d1 d2 rs Q tr h1 h2 hg k => h F H x y d1 d2 rs Q tr (.inl h1) (.inl h2) hg k
/-! int * int -/
def gMul := gInt fun i j => if (-(2 ^ 64) < i ∧ i < 2 ^ 64) ∨ (-(2 ^ 64) < j ∧ j < 2 ^ 64) then some (fzI (i * j)) else none
theorem opv_mul {K : PySem.W.Frag} : OpV K (rI CMul fun i j => .int (i * j)) gMul := opv_I fun x y z h => by
  obtain ⟨i, j, a, b, c⟩ := gInt_some h
  by_cases e : (-(2 ^ 64) < i ∧ i < 2 ^ 64) ∨ (-(2 ^ 64) < j ∧ j < 2 ^ 64)
  · rw [if_pos e] at c
    exact ⟨i, j, a, b, e, (Option.some.inj c).symm⟩
  · rw [if_neg e] at c; cases c
theorem gAdd_ls {a b : List PyData} (h : a.length + b.length ≤ sizeLine) : gAdd (.list a) (.list b) = some (.nw (.ls (a ++ b))) := if_pos h
theorem gAdd_tp {a b : List PyData} (h : a.length + b.length ≤ sizeLine) : gAdd (.tuple a) (.tuple b) = some (.fz (.tuple (a ++ b))) := if_pos h
theorem gAdd_st {a b : Str} (h : a.length + b.length ≤ sizeLine) : gAdd (.str a) (.str b) = some (.fz (.str (a ++ b))) := if_pos h
theorem gMod_ok {i j : Int} (h : j ≠ 0) : gMod (.int i) (.int j) = some (fzI (i.fmod j)) := if_neg h
theorem gFdiv_ok {i j : Int} (h : j ≠ 0 ∧ j.natAbs < 1073741824) : gFdiv (.int i) (.int j) = some (fzI (i.fdiv j)) := if_pos h
theorem gPow_ok {i j : Int} (h : 0 ≤ j ∧ j ≤ 1000000 ∧ i.natAbs < 2 ^ 64) : gPow (.int i) (.int j) = some (fzI (i ^ j.toNat)) := if_pos h
theorem gMul_l {i j : Int} (h : -(2 ^ 64) < i ∧ i < 2 ^ 64) : gMul (.int i) (.int j) = some (fzI (i * j)) := if_pos (.inl h)
theorem gMul_r {i j : Int} (h : -(2 ^ 64) < j ∧ j < 2 ^ 64) : gMul (.int i) (.int j) = some (fzI (i * j)) := if_pos (.inr h)
/-! -x -/
def gNeg : PyData → Option Rs
  | .int i => some (fzI (-i))
  | _ => none
theorem und_neg {K : PySem.W.Frag} : UnD K (rU fun i => .int (-i)) gNeg := fun F H x d rs Q tr h hg k => by
  unfold gNeg at hg
  split at hg
  · cases hg
    cases h
    exact ⟨_, rfl, k _ _ [] (Same.refl _) rsn_int⟩
  · cases hg
theorem bt_list : bootBuiltins "list" = some (.type "list") := by decide +kernel
theorem bt_tuple : bootBuiltins "tuple" = some (.type "tuple") := by decide +kernel
theorem bt_int : bootBuiltins "int" = some (.type "int") := by decide +kernel
theorem bt_sum : bootBuiltins "sum" = some (.builtin "sum") := by decide +kernel
theorem bt_len : bootBuiltins "len" = some (.builtin "len") := by decide +kernel
theorem bt_ValueError : bootBuiltins "ValueError" = some (.type "ValueError") := by decide +kernel
theorem bt_str : bootBuiltins "str" = some (.type "str") := by decide +kernel
theorem bt_bool : bootBuiltins "bool" = some (.type "bool") := by decide +kernel
theorem bt_isi : bootBuiltins "isinstance" = some (.builtin "isinstance") := by decide +kernel
theorem bt_repr : bootBuiltins "repr" = some (.builtin "repr") := by decide +kernel
theorem bt_sorted : bootBuiltins "sorted" = some (.builtin "sorted") := by decide +kernel
end
end L3
end

section
set_option Elab.async false
set_option linter.all false
set_option maxRecDepth 100000
set_option maxHeartbeats 1000000
set_option autoImplicit false
/-! L3 part n: exceptions as things; isinstance. -/
namespace L3
open PySem PySem.Spec PyProof.Rows L2
/-! ### what the head is asked of the exception classes -/
abbrev gaV (K : PySem.W.Frag) (c : Str) : Value := .ref (He.ga K c)
/-- c is asked by isinstance -/
def xcB (K : PySem.W.Frag) (c : Str) : Bool :=
  (PySem.W.clsIn K (He.ga K c)).isSome && (He.eqO (PySem.W.findIn K (gaV K c) "__getattribute__") (some (some (.builtin "BaseException.__getattribute__"))) && (He.eqO (PySem.W.findIn K (gaV K c) "__getattr__") (some none) && (decide (PySem.W.subIn K (gaV K c) (.type "BaseException") = some true) &&
  (He.eqO (PySem.W.findIn K (gaV K c) "__class__") (some (some (.builtin "object.__class__"))) && (He.eqO (PySem.W.specialIn K (.builtin "object.__class__") "__get__") (some (some (.builtin "getset_descriptor.__get__"))) && (decide (PySem.W.takesIn K (.builtin "object.__class__") = some true) && (decide (PySem.W.mroIn K (He.ga K c) (.type "object") = some true) &&
  (decide (PySem.W.typeIn K (gaV K c) = some (.type "type")) && (PySem.W.keepIn K (gaV K c) && (PySem.W.hasDictIn K (He.ga K c) && decide (PySem.W.kitOne K (gaV K c) (.type "ValueError") = some true)))))))))))
structure XC (K : PySem.W.Frag) (c : Str) : Prop where
  hcl : (PySem.W.clsIn K (He.ga K c)).isSome = true
  hga : PySem.W.findIn K (gaV K c) "__getattribute__" = some (some (.builtin "BaseException.__getattribute__"))
  hgt : PySem.W.findIn K (gaV K c) "__getattr__" = some none
  hsub : PySem.W.subIn K (gaV K c) (.type "BaseException") = some true
  ha : PySem.W.findIn K (gaV K c) "__class__" = some (some (.builtin "object.__class__"))
  hn : PySem.W.specialIn K (.builtin "object.__class__") "__get__" = some (some (.builtin "getset_descriptor.__get__"))
  htk : PySem.W.takesIn K (.builtin "object.__class__") = some true
  hm : PySem.W.mroIn K (He.ga K c) (.type "object") = some true
  ty : PySem.W.typeIn K (gaV K c) = some (.type "type")
  kp : PySem.W.keepIn K (gaV K c) = true
  hd : PySem.W.hasDictIn K (He.ga K c) = true
  ve : PySem.W.kitOne K (gaV K c) (.type "ValueError") = some true
theorem xcB_ok {K : PySem.W.Frag} {c : Str} (h : xcB K c = true) : XC K c := by
  obtain ⟨h1, h⟩ := He.ba h
  obtain ⟨h2, h⟩ := He.ba h
  obtain ⟨h3, h⟩ := He.ba h
  obtain ⟨h4, h⟩ := He.ba h
  obtain ⟨h5, h⟩ := He.ba h
  obtain ⟨h6, h⟩ := He.ba h
  obtain ⟨h7, h⟩ := He.ba h
  obtain ⟨h8, h⟩ := He.ba h
  obtain ⟨h9, h⟩ := He.ba h
  obtain ⟨h10, h⟩ := He.ba h
  obtain ⟨h11, h12⟩ := He.ba h
  exact ⟨h1, He.eqO_ok h2, He.eqO_ok h3, of_decide_eq_true h4, He.eqO_ok h5, He.eqO_ok h6, of_decide_eq_true h7, of_decide_eq_true h8, of_decide_eq_true h9, h10, h11, of_decide_eq_true h12⟩
/-- all pairs of classes -/
def isX (c e : Str) : Bool := decide (c = e) || decide (e = "TurnError")
def xtB (K : PySem.W.Frag) (xs : List Str) : Bool := xs.all fun c => xcB K c && xs.all fun e => decide (PySem.W.kitOne K (gaV K c) (gaV K e) = some (isX c e))
theorem xtB_cls {K : PySem.W.Frag} {xs : List Str} (h : xtB K xs = true) {c : Str} (hc : c ∈ xs) : XC K c := xcB_ok (He.ba (List.all_eq_true.mp h c hc)).1
theorem xtB_kit {K : PySem.W.Frag} {xs : List Str} (h : xtB K xs = true) {c e : Str} (hc : c ∈ xs) (he : e ∈ xs) : PySem.W.kitOne K (gaV K c) (gaV K e) = some (isX c e) := of_decide_eq_true (List.all_eq_true.mp (He.ba (List.all_eq_true.mp h c hc)).2 e he)
/-! ### the Hook, with a look of one's own -/
def asX (g : Addr → Option Obj) : Nat → List Addr
  | 0 => [mainGlobals, PySem.cStatics]
  | n + 1 => He.growD g (asX g n)
def obsX (fa : List He.Fa) (fn : List He.DefD) (xf : PySem.W.Frag → Bool) (K : PySem.W.Frag) : Bool × He.AlD := (xf K, He.obsD fa fn K)
def obsXG (n : Nat) (fa : List He.Fa) (fn : List He.DefD) (xf : PySem.W.Frag → Bool) (g : Addr → Option Obj) : Bool × He.AlD := obsX fa fn xf (He.frG g (asX g n))
def hookX (n : Nat) (fa : List He.Fa) (fn : List He.DefD) (xf : PySem.W.Frag → Bool) : PySem.W.Hook where
  α := Bool × He.AlD
  obs := fun s => obsXG n fa fn xf s.heap.get?
  val := fun _ => (true, He.valD fn)
  says := fun _ h => ∃ K : PySem.W.Frag, K.In h ∧ He.SaysD fa fn K ∧ xf K = true
  of := fun _ _ e => ⟨_, He.frG_in, congrArg Prod.snd e, congrArg Prod.fst e⟩
  keeps := fun _ _ _ ⟨K, hK, c⟩ k => ⟨K, PySem.W.Frag.In.keeps hK k, c⟩
theorem obsXG_eq {n : Nat} {fa : List He.Fa} {fn : List He.DefD} {xf : PySem.W.Frag → Bool} {g : Addr → Option Obj} {s : Shared} (h : ∀ a, g a = s.heap.get? a) : obsXG n fa fn xf g = (hookX n fa fn xf).obs s := by
  have e : g = s.heap.get? := funext h
  rw [e] <;> rfl
/-! ### isinstance -/
/-- x lies as an exception of the class named c -/
def XL (K : PySem.W.Frag) (H : Hp) (x : V) (c : Str) : Prop := ∃ (a : Addr) (φ : Heap → Prop) (d : Option Addr), x = .ref a ∧ H a = some (.ext φ) ∧ (∀ h, φ h → XP (gaV K c) d a h) ∧ ∀ dd, d = some dd → ∃ u, H dd = some u
def rIsX (K : PySem.W.Frag) : List V → Hp → VK → Prop := fun xs H Q => ∃ (x c : V) (n : Str) (cv : Value) (b : Bool), xs = [x, c] ∧ XL K H x n ∧ XC K n ∧ (∀ u, RelV c u → u = cv) ∧ PySem.W.kitOne K (gaV K n) cv = some b ∧ Q (.bl b) H
section
variable {X : Cx} {C : Ct}
theorem Inv.xat {pins : List (Addr × Obj)} {σ : L2.St} {H : Hp} {s : Shared} {x : V} {c : Str} (I : Inv X pins σ H s) (h : XL X.K H x c) : ∃ a oe od, x = .ref a ∧ PySem.W.InstAt s.heap a oe (He.ga X.K c) od := by
  obtain ⟨a, φ, d, rfl, ha, p, hd⟩ := h
  have h1 : ObjOk X.prog X.w H s.heap a (.ext φ) := I.hok a _ ha
  obtain ⟨oe, vs, ho, hz, hf⟩ := p _ h1.1
  have no : PySem.W.notCls oe = true := by unfold PySem.W.notCls; rw [hf]
  cases d with
  | none => exact ⟨a, oe, none, rfl, ho, hz.1, no, by rw [hz.2]; trivial⟩
  | some dd =>
    obtain ⟨u, hu⟩ := hd dd rfl
    obtain ⟨o, e⟩ := objOk_get (I.hok dd u hu)
    exact ⟨a, oe, some o, rfl, ho, hz.1, no, by rw [hz.2]; exact e⟩
theorem call_isx : CallR X (.builtin "isinstance") (rIsX X.K) := by
  intro pins s σ H xs us Q I r h
  obtain ⟨x, c, n, cv, b, rfl, hx, F, hcv, e, q⟩ := h
  obtain ⟨u1, u2, rfl, r1, r2⟩ := vals2 r
  have ec := hcv _ r2
  subst ec
  obtain ⟨a, oe, od, rfl, J⟩ := Inv.xat I hx
  cases r1
  exact PySem.W.kia_one (PySem.W.kitx_exc F.hcl F.hga F.hgt F.hsub F.ha F.hn F.htk F.hm) I.kIn J e (fun z => nomatch z) fun tk => ⟨.bl b, H, I.tok tk, rfl, q⟩
def rIsA (K : PySem.W.Frag) : List V → Hp → VK → Prop := fun xs H Q => rIsi K xs H Q ∨ rIsX K xs H Q
theorem call_isA : CallR X (.builtin "isinstance") (rIsA X.K) := call_isi.or call_isx
/-- a thing's type -/
def tyD : PyData → String
  | .none => "NoneType"
  | .bool _ => "bool"
  | .int _ => "int"
  | .str _ => "str"
  | .list _ => "list"
  | .tuple _ => "tuple"
  | .dict _ => "dict"
def isExc : PyData → Option Str
  | .dict ((.str c, _) :: _) => some c
  | _ => none
def isDict : PyData → Bool
  | .dict _ => true
  | _ => false
theorem Dx.tyx {K : PySem.W.Frag} {H : Hp} {v : V} {d : PyData} (h : Dx K H v d) (hd : isDict d = false) : TyX K H v (.type (tyD d)) := by
  cases h with
  | non => exact .base .non
  | bl b => exact .base (.bl b)
  | int i => exact .base (.int i)
  | str x => exact .base (.str x)
  | lst hs _ =>
    rcases hs with (hs | ⟨o, hs⟩) | ⟨o, its, n, hk, hc, _⟩
    · exact .base (.lst hs)
    · exact .base (.frz hs)
    · exact .kList hk hc
  | tup hs _ =>
    rcases hs with (hs | ⟨o, hs⟩) | ⟨o, its, n, hk, hc, _⟩
    · exact .base (.tup hs)
    · exact .fTuple hs
    · exact .kTuple hk hc
  | xc0 _ _ => cases hd
  | xc1 _ _ _ _ _ => cases hd
  | dks _ _ _ _ => cases hd
theorem Dx.xl {K : PySem.W.Frag} {H : Hp} {v : V} {d : PyData} {c : Str} (h : Dx K H v d) (hd : isExc d = some c) : XL K H v c := by
  cases h with
  | xc0 h1 h2 =>
    cases hd
    exact ⟨_, _, none, rfl, h1, h2, fun dd z => by cases z⟩
  | xc1 h1 h2 h3 h4 _ =>
    cases hd
    exact ⟨_, _, some _, rfl, h1, h2, fun dd z => by cases z; exact ⟨_, h3⟩⟩
  | _ => cases hd
/-- isinstance(x, T), T a built-in type -/
def gTy (xs : List Str) (T : String) : PyData → Option Bool := fun d => if isDict d then (if T = "ValueError" ∧ (∃ c ∈ xs, isExc d = some c) then some true else none) else kitB (tyD d) T
/-- isinstance(x, c), c a class of the program, x an exception -/
def gCl (xs : List Str) (e : Str) : PyData → Option Bool := fun d => match isExc d with
  | some c => if c ∈ xs then some (isX c e) else none
  | none => none
def gIs (g : PyData → Option Bool) : PyData → Option Rs := fun d => (g d).map fzB
def AllX (xs : List Str) (d : PyData) : Prop := ∀ c, isExc d = some c → c ∈ xs
theorem se_isi {a b : Expr} {ta : RE} {c : V} {p pos : Pos} {g : PyData → Option Bool} (hg : Gl X "isinstance") (hm : X.mg "isinstance" = none) (ha : SE X C a ta) (hb : PE X b (tC c)) (hD : ∀ H v d k Q, Dx X.K H v d → g d = some k → Q (.bl k) H → rIsA X.K [v, c] H Q)
    (hs : starEach [a, b] X.env = (false, eval a X.env) :: starEach [b] X.env := by rfl) (hpl : (backTo pos (starEach [b] X.env)).any (·.1) = false := by rfl) (hs2 : starEach [b] X.env = (false, eval b X.env) :: starEach [] X.env := by rfl) :
    SE X C (.Call (.Name "isinstance" p) [a, b] [] pos) (pOne (gIs g) ta) := .mk fun σ H pf env feet Q EX W tk q => by
  refine eW.of (pe_callB call_isA hg hm bt_isi (pa_cons eW.pe (pa_cons hb pa_nil hs2) hs) (by decide) (by decide) hs hpl) ?_
  refine (ar_ok ha σ H pf env feet _ EX W tk q).imp fun x H1 ⟨r1, e1, f1, W1, h1, d, z, ed, ez, q1⟩ => ?_
  unfold gIs at ez
  cases hk : g d with
  | none => rw [hk] at ez; cases ez
  | some k =>
    rw [hk] at ez
    cases ez
    exact hD H1 x d k _ (res_vw W1 h1 ed).dp hk ⟨fzB k, e1, f1, [], W1, ⟨rfl, .bl _⟩, q1⟩
theorem isi_ty {H : Hp} {v : V} {d : PyData} {k : Bool} {Q : VK} {T : String} {xs : List Str} (hx : xtB X.K xs = true) (h : Dx X.K H v d) (hk : gTy xs T d = some k) (q : Q (.bl k) H) : rIsA X.K [v, .ty T] H Q := by
  unfold gTy at hk
  by_cases hd : isDict d = true
  · rw [if_pos hd] at hk
    by_cases ht : T = "ValueError" ∧ (∃ c ∈ xs, isExc d = some c)
    · rw [if_pos ht] at hk
      cases hk
      obtain ⟨rfl, c, hm, hc⟩ := ht
      exact .inr ⟨v, _, c, .type "ValueError", true, rfl, h.xl hc, xtB_cls hx hm, fun u r => r, (xtB_cls hx hm).ve, q⟩
    · rw [if_neg ht] at hk; cases hk
  · rw [if_neg hd] at hk
    exact .inl ⟨v, _, _, _, k, rfl, .ty T, h.tyx (by simpa using hd), kit_ty hk, q⟩
theorem isi_cl {H : Hp} {v : V} {d : PyData} {k : Bool} {Q : VK} {xs : List Str} {e : Str} (hx : xtB X.K xs = true) (he : e ∈ xs) (h : Dx X.K H v d) (hk : gCl xs e d = some k) (q : Q (.bl k) H) : rIsA X.K [v, .ref (He.ga X.K e)] H Q := by
  unfold gCl at hk
  cases hc : isExc d with
  | none => rw [hc] at hk; cases hk
  | some c =>
    rw [hc] at hk
    by_cases m : c ∈ xs
    · rw [show (match some c with
        | some c => if c ∈ xs then some (isX c e) else none
        | none => none) = if c ∈ xs then some (isX c e) else none from rfl, if_pos m] at hk
      cases hk
      exact .inr ⟨v, _, c, gaV X.K e, _, rfl, h.xl hc, xtB_cls hx m, fun u r => r, xtB_kit hx m he, q⟩
    · rw [show (match some c with
        | some c => if c ∈ xs then some (isX c e) else none
        | none => none) = if c ∈ xs then some (isX c e) else none from rfl, if_neg m] at hk
      cases hk
/-- isinstance(x, int) .. -/
theorem se_isT {a : Expr} {ta : RE} {p p2 pos : Pos} {x : Str} {T : String} (xs : List Str) (hx : xtB X.K xs = true) (hg : Gl X "isinstance") (hm : X.mg "isinstance" = none) (hgx : Gl X x) (hmx : X.mg x = none) (hvx : bootBuiltins x = some (.type T)) (ha : SE X C a ta) (hn : x ≠ "__name__" := by decide) (hdb : (x == ("__debug__" : Str)) = false := by decide)
    (hs : starEach [a, .Name x p2] X.env = (false, eval a X.env) :: starEach [.Name x p2] X.env := by rfl) (hpl : (backTo pos (starEach [.Name x p2] X.env)).any (·.1) = false := by rfl) (hs2 : starEach [.Name x p2] X.env = (false, eval (.Name x p2) X.env) :: starEach [] X.env := by rfl) :
    SE X C (.Call (.Name "isinstance" p) [a, .Name x p2] [] pos) (pOne (gIs (gTy xs T)) ta) := se_isi (c := .ty T) hg hm ha (pe_bltn hgx hmx hvx rfl hn hdb) (fun H v d k Q h hk q => isi_ty hx h hk q) hs hpl hs2
/-- isinstance(x, C) -/
theorem se_isC {a : Expr} {ta : RE} {p p2 pos : Pos} {x : Str} (xs : List Str) (hx : xtB X.K xs = true) (he : x ∈ xs) (hg : Gl X "isinstance") (hm : X.mg "isinstance" = none) (hgx : Gl X x) (hmx : X.mg x = some (.ref (He.ga X.K x))) (ha : SE X C a ta) (hdb : (x == ("__debug__" : Str)) = false := by decide)
    (hs : starEach [a, .Name x p2] X.env = (false, eval a X.env) :: starEach [.Name x p2] X.env := by rfl) (hpl : (backTo pos (starEach [.Name x p2] X.env)).any (·.1) = false := by rfl) (hs2 : starEach [.Name x p2] X.env = (false, eval (.Name x p2) X.env) :: starEach [] X.env := by rfl) :
    SE X C (.Call (.Name "isinstance" p) [a, .Name x p2] [] pos) (pOne (gIs (gCl xs x)) ta) := se_isi (c := .ref (He.ga X.K x)) hg hm ha (pe_glob hgx hmx rfl hdb) (fun H v d k Q h hk q => isi_cl hx he h hk q) hs hpl hs2
end
end L3
end

section
set_option Elab.async false
set_option linter.all false
set_option maxRecDepth 100000
set_option maxHeartbeats 1000000
set_option autoImplicit false
/-! L3 part o: exceptions made, raised, their fields. -/
namespace L3
open PySem PySem.Spec PyProof.Rows L2
section
variable {X : Cx} {C : Ct} {e : Expr} {es : List Expr} {te : RE} {x : Str} {p pos : Pos}
/-! ### classes without own __init__ -/
def eExc (x : Str) (te : RE) : RE := fun env Q EX => vl te env (fun d e1 => Q (.fz (exD ⟨x, none⟩)) e1) EX
theorem exo_xp {cls : Value} {a : Addr} : ∀ h : Heap, (∃ (oe : Obj) (vs : Array Value), h.get? a = some oe ∧ Zc cls none oe ∧ oe.data = .fields vs ∧ vs[1]? = some .none ∧ vs[2]? = some .none ∧ 4 < vs.size) → XP cls none a h := fun h ⟨oe, vs, h1, h2, h3, _⟩ => ⟨oe, vs, h1, h2, h3⟩
theorem se_exc0 (q : PySem.W.excIn X.K (He.ga X.K x) He.veBase "ValueError.__new__" = true) (gC : X.mg x = some (.ref (He.ga X.K x))) (kC : PySem.W.keepIn X.K (.ref (He.ga X.K x)) = true) (hg : Gl X x) (he : SE X C e te) (hs : starEach [e] X.env = (false, eval e X.env) :: starEach [] X.env := by rfl)
    (hdb : (x == ("__debug__" : Str)) = false := by decide) : SE X C (.Call (.Name x p) [e] [] pos) (eExc x te) := .mk fun σ H pf env feet Q EX W tk q0 => by
  refine eW.of (pe_exc1 PySem.F.excBase_ValueError q gC kC hg eW.pe hs hdb) ?_
  refine (he.v σ H pf env feet _ EX W tk q0).imp fun v H1 ⟨d, e1, f1, W1, h1, q1⟩ => fun a ha => ?_
  have np : a ∉ f1.flatten ++ [] := fun m => W1.rel.tr a (by rw [List.append_nil] at m; exact m) ha
  obtain ⟨W2, h2⟩ := W1.pure (v := .ref a) (r := .fz (exD ⟨x, none⟩)) (f := []) (same_new (o := ExO (.ref (He.ga X.K x)) a) ha) ⟨by simp, by simp, rfl, by
    rw [hid_upd np]
    exact .xc0 upd_same exo_xp⟩
  exact ⟨_, e1, f1, [], W2, h2, q1⟩
/-- raise X("..") -/
def rRai (x : Str) : RS := fun D env => D.ex ⟨x, none⟩ env
theorem ss_raise0 {m : Str} {j : Nat} {p2 pos' : Pos} (hc : X.calm = true) (q : PySem.W.excIn X.K (He.ga X.K x) He.veBase "ValueError.__new__" = true) (F : XC X.K x) (gC : X.mg x = some (.ref (He.ga X.K x))) (hg : Gl X x)
    (hdb : (x == ("__debug__" : Str)) = false := by decide) : SS X C (.Raise (some (.Call (.Name x p) [.Constant (.str m) j p2] [] pos)) none pos') (rRai x) := .mk fun σ H pf env feet D W tk q0 => by
  refine sW.of (ps_raise hc tk.1 (pmk_own PySem.F.excBase_ValueError q gC F.kp (raises_own F.hsub F.ty) hg hdb)) ?_
  exact ⟨env, feet, ⟨x, none⟩, W.unpin tk.2, ⟨rfl, rfl⟩, q0⟩
end
/-! ### classes with own __init__ -/
def ocB (K : PySem.W.Frag) (c f : Str) : Bool := (match K.lookup (He.ga K c) with
  | some ⟨.type "type", _, .cls cd, sl⟩ => (match cd.mro, sl.toList with
    | .ref C' :: bm, [_, _, _, _, some (.builtin n), _] => decide (C' = He.ga K c) && (decide (n = "ValueError.__new__") && (!cd.hasDel && (cd.hasDict && PySem.HandSPX.refsVE bm)))
    | _, _ => false)
  | _ => false) && (He.eqO (PySem.W.findIn K (gaV K c) "__setattr__") (some (some (.builtin "object.__setattr__"))) && (He.eqO (PySem.W.findIn K (gaV K c) f) (some none) && (He.eqO (PySem.W.findIn K (gaV K c) "__init__") (some (some (.ref (He.fAd K (c, some "__init__"))))) &&
  decide (PySem.W.typeIn K (.ref (He.fAd K (c, some "__init__"))) = some (.type "function")))))
structure OC (K : PySem.W.Frag) (c f : Str) : Prop where
  cls : ∃ nm q N bs bm sn sub ab col dd k0 k1 k2 k3 k5, K.lookup (He.ga K c) = some (excClassObj nm q (He.ga K c) N bs bm true sn sub ab col dd k0 k1 k2 k3 k5 "ValueError.__new__") ∧ PySem.HandSPX.refsVE bm = true
  sa : PySem.W.findIn K (gaV K c) "__setattr__" = some (some (.builtin "object.__setattr__"))
  no : PySem.W.findIn K (gaV K c) f = some none
  it : PySem.W.findIn K (gaV K c) "__init__" = some (some (.ref (He.fAd K (c, some "__init__"))))
  ti : PySem.W.typeIn K (.ref (He.fAd K (c, some "__init__"))) = some (.type "function")
theorem ocB_ok {K : PySem.W.Frag} {c f : Str} (h : ocB K c f = true) : OC K c f := by
  obtain ⟨h1, h⟩ := He.ba h
  obtain ⟨h2, h⟩ := He.ba h
  obtain ⟨h3, h⟩ := He.ba h
  obtain ⟨h4, h5⟩ := He.ba h
  refine ⟨?_, He.eqO_ok h2, He.eqO_ok h3, He.eqO_ok h4, of_decide_eq_true h5⟩
  split at h1
  · rename_i dd cd sl ho
    split at h1
    · rename_i C' bm k0 k1 k2 k3 n k5 hm hs
      obtain ⟨q1, q⟩ := He.ba h1
      obtain ⟨q2, q⟩ := He.ba q
      obtain ⟨q3, q⟩ := He.ba q
      obtain ⟨q4, q5⟩ := He.ba q
      have e1 := of_decide_eq_true q1
      have e2 := of_decide_eq_true q2
      obtain ⟨nm, bs, mro, ns, qn, hd, sn, sub, ab, col, del⟩ := cd
      dsimp only at hm q3 q4
      subst e1 e2 hm q4
      have hdel : del = false := by simpa using q3
      subst hdel
      have hsl : sl = #[k0, k1, k2, k3, some (.builtin "ValueError.__new__"), k5] := by
        obtain ⟨l⟩ := sl
        simp only at hs
        rw [hs]
      subst hsl
      exact ⟨nm, qn, ns, bs, bm, sn, sub, ab, col, dd, k0, k1, k2, k3, k5, ho, q5⟩
    · cases h1
  · cases h1
theorem OC.oex {K : PySem.W.Frag} {c f : Str} (h : OC K c f) (F : XC K c) : OexC K (He.ga K c) := ⟨h.cls, h.sa, F.hsub, F.ty, F.kp⟩
/-- the base class's __init__, called by its name -/
def tiB (K : PySem.W.Frag) : Bool := He.eqO (PySem.W.specialIn K (gaV K "TurnError") "__getattribute__") (some (some (.builtin "type.__getattribute__"))) && (PySem.W.readsIn K (He.ga K "TurnError") (.type "type") && (match PySem.W.findCls K (gaV K "TurnError") (.type "type") "__init__" with
  | some (.val (.builtin n)) => decide (n = "ValueError.__init__")
  | _ => false))
theorem ti_cls {K : PySem.W.Frag} (h : (match PySem.W.findCls K (gaV K "TurnError") (.type "type") "__init__" with
  | some (.val (.builtin n)) => decide (n = "ValueError.__init__")
  | _ => false) = true) : PySem.W.findCls K (gaV K "TurnError") (.type "type") "__init__" = some (.val (.builtin "ValueError.__init__")) := by
  split at h
  · rename_i n e
    rw [e, of_decide_eq_true h]
  · cases h
section
variable {X : Cx} {C : Ct} {e : Expr} {es : List Expr} {ta : TA} {te : RE} {x : Str} {p p1 p2 pos : Pos}
theorem pe_teinit {pl : Sem Bool} (ht : tiB X.K = true) (hg : Gl X "TurnError") (hm : X.mg "TurnError" = some (.ref (He.ga X.K "TurnError"))) (ha : PA X (e :: es) ta)
    (hc : eval (.Call (.Attribute (.Name "TurnError" p1) "__init__" p2) (e :: es) [] pos) X.env = (do
      let ov ← eval (.Name "TurnError" p1) X.env
      standAt p2.atName
      let (f, first) ← holding [ov] (getMethod ov "__init__" pl)
      callWith pos f first (backTo pos (starEach (e :: es) X.env)) (backToKw pos (keywordEach [] X.env))) := by rfl)
    (he : starEach (e :: es) X.env = (false, eval e X.env) :: starEach es X.env := by rfl) (hpl : (backTo pos (starEach es X.env)).any (·.1) = false := by rfl) :
    PE X (.Call (.Attribute (.Name "TurnError" p1) "__init__" p2) (e :: es) [] pos) (tVeI X.K ta) := by
  obtain ⟨t1, t⟩ := He.ba ht
  obtain ⟨t2, t3⟩ := He.ba t
  refine ⟨fun pins s σ H Q I h => ?_⟩
  refine PySem.W.methodCall_KW (ld_glob I hg hm ?_ (by decide)) hc
  refine PySem.W.method_cls I.kIn (He.eqO_ok t1) (PySem.W.cls_value I.kIn t2 (ti_cls t3) rfl ?_)
  show wpAny _ _ (callWith pos (Value.builtin "ValueError.__init__") [] (backTo pos (starEach (e :: es) X.env)) []) _ _ _
  refine PyProof.Rows.callWith_method1 (thn (ha.run pos pins _ σ H _ (I.tok _) h) fun us s1 ⟨vs, H1, I1, r1, a, C, ws, ev, hl, T, ea, q⟩ => ?_) he hpl
  subst ev
  cases r1 with
  | @cons _ u0 _ ur ra rw' =>
    obtain rfl : u0 = Value.ref a := ra
    have hlen : ur.length ≤ sizeLine := by
      rw [← Paired.length rw', sizeLine_eq]
      omega
    exact oinit_ok T I1 ea hlen fun s' J => ⟨.non, H1, J, rfl, q⟩
/-- what such an __init__ does -/
def spIn (C : Addr) (f : Str) : Sp := fun vs H Q E => ∃ (a : Addr) (v : V), vs = [.ref a, v] ∧ H a = some (exo a C none) ∧ ∀ dx, H dx = none → dx ≠ a → Q .non (upd (upd H dx (exd dx [(f, v)])) a (exo a C (some dx)))
def tIn (K : PySem.W.Frag) (f t : Str) : TS := tSeq (tDrop (tVeI K (tCons (tVar 0) (tCons (tC (.str t)) tNil)))) (tOst K f (tVar 0) (tVar 1))
theorem in_run {K : PySem.W.Frag} {c f t n : Str} {vs : List V} {H : Hp} {Q : VK} {E : XK} (O : OC K c f) (F : XC K c) (h : spIn (He.ga K c) f vs H Q E) : tIn K f t { nx := fun _ H' => Q .non H', rt := Q } (start ["self", n] vs) H := by
  obtain ⟨a, v, rfl, ha, q⟩ := h
  refine ⟨_, rfl, a, He.ga K c, [.str t], rfl, show (1 : Nat) ≤ 1000 by decide, O.oex F, ha, ?_⟩
  exact ⟨_, rfl, _, rfl, a, He.ga K c, rfl, O.oex F, O.no, .inl ⟨ha, q⟩⟩
end
/-! ### C(e) by an own __init__: as a value -/
section
variable {X : Cx} {C : Ct} {e : Expr} {es : List Expr} {ta : TA} {te : RE} {x : Str} {p p1 p2 pos : Pos}
def tMkV (C : Addr) (sp : Sp) (ta : TA) : TE := fun σ H Q => ta σ H fun vs H1 => vs.length ≤ 1000 ∧ ∀ a, H1 a = none → sp (.ref a :: vs) (upd H1 a (exo a C none)) (fun v H2 => v = .non ∧ Q (.ref a) H2) (fun _ _ _ => False)
theorem pv_oex {CX : CXT} {x : Str} {C fI : Addr} {k : Nat} {fd : FuncData} {ps : List Str} {sp : Sp} (T : OexC X.K C) (iC : PySem.W.findIn X.K (.ref C) "__init__" = some (some (.ref fI))) (tI : PySem.W.typeIn X.K (.ref fI) = some (.type "function"))
    (F1 : FnOk X.prog X.w X.K X.mg X.base CX k fI fd ps sp) (hr : Room (k + 1) X.A) (hb : Binds X.K fd ps []) (hx : Passes CX X (fun _ _ _ => False)) (hg : Gl X x) (hm : X.mg x = some (.ref C)) (ha : PA X (e :: es) ta)
    (hdb : (x == ("__debug__" : Str)) = false := by decide) (he : starEach (e :: es) X.env = (false, eval e X.env) :: starEach es X.env := by rfl) (hpl : (backTo pos (starEach es X.env)).any (·.1) = false := by rfl) :
    PE X (.Call (.Name x p) (e :: es) [] pos) (tMkV C sp ta) := by
  refine ⟨fun pins s σ H Q I h => ?_⟩
  obtain ⟨nm, q, N, bs, bm, sn, sub, ab, col, dd, k0, k1, k2, k3, k5, hC, hbm⟩ := T.cls
  refine wpAny_Call_Name_kw (ld_glob I hg hm ?_ hdb)
  refine PySem.W.callWith_K (h₀ := X.base) I.ok.mod.kin T.kC (thn (ha.run pos pins s σ H _ I h) fun us s1 ⟨vs, H1, I1, r1, hz, q1⟩ => ⟨I1.kIn, ?_⟩) he hpl
  show wpAny _ _ (call (.ref C) us) _ _ _
  obtain ⟨hp, g, dr, tk, os⟩ := s1
  have hsz : hp.objs.size ≤ hp.objs.size + 1 := Nat.le_succ _
  have hn : H1 (hp.objs.size + 1) = none := I1.hok.fresh hsz
  have hq := q1 (hp.objs.size + 1) hn
  have kk : ∀ b o, hp.get? b = some o → ((hp.push (PySem.W.kdv_tup us)).push (PySem.HandSPX.excO C hp.objs.size)).get? b = some o := fun b o e => Heap.get?_push_of_some _ (Heap.get?_push_of_some _ e)
  have hget : ((hp.push (PySem.W.kdv_tup us)).push (PySem.HandSPX.excO C hp.objs.size)).get? (hp.objs.size + 1) = some (PySem.HandSPX.excO C hp.objs.size) := by heap_get
  have I2 : Inv X pins σ (upd H1 (hp.objs.size + 1) (exo (hp.objs.size + 1) C none)) ⟨(hp.push (PySem.W.kdv_tup us)).push (PySem.HandSPX.excO C hp.objs.size), g, dr, tk, os⟩ :=
    I1.laid (t' := tk) (a := hp.objs.size + 1) (o := exo (hp.objs.size + 1) C none) (h' := (hp.push (PySem.W.kdv_tup us)).push (PySem.HandSPX.excO C hp.objs.size)) kk hsz (exo_ok hget)
  have r2 : Vals (V.ref (hp.objs.size + 1) :: vs) (Value.ref (hp.objs.size + 1) :: us) := .cons rfl r1
  have hl : (Value.ref (hp.objs.size + 1) :: us).length = ps.length := by
    have e := r2.length
    rw [F1.len _ _ _ _ hq] at e
    exact e.symm
  have hus : us.length ≤ sizeLine := by
    rw [← Paired.length r1, sizeLine_eq]
    omega
  have bb := hb _ (Value.ref (hp.objs.size + 1) :: us) I2.kIn (by rw [List.append_nil]; exact hl)
  rw [List.append_nil] at bb
  refine wpAny_call (PySem.HandSPX.call_own PySem.F.excBase_ValueError (fun Y => PySem.HandSPX.refsVE_contains Y bm hbm) (I1.kIn _ _ hC) (PySem.W.looks_findIn I1.kIn iC) (fun self => PySem.W.bind_fn I1.kIn self tI) hus
    (codeAny_mono (F1.run _ X.stack _ _ ⟨Value.ref (hp.objs.size + 1) :: us, []⟩ (Value.ref (hp.objs.size + 1) :: us) _ _ (fun _ _ _ => False) (hr.make C us []) (I2.env0.make C us []) bb r2 hq) fun r s' hq' => ?_))
  cases r with
  | error er => exact hx pins σ _ _ er s' I2 hq'
  | ok fl =>
    cases fl with
    | ret u =>
      obtain ⟨v, H2, os2, bare2, un2, hok2, rv, ev, q2⟩ := hq'
      subst ev
      have J := I2.call' (ch := []) os2 un2 hok2 bare2 (fun b z => absurd z (by simp))
      exact ⟨rv, .ref (hp.objs.size + 1), H2, J, rfl, q2⟩
    | next => exact False.elim hq'
    | brk => exact False.elim hq'
    | cont => exact False.elim hq'
/-- C(e) as a thing -/
def eExc1 (x f : Str) (te : RE) : RE := fun env Q EX => vl te env (fun d e1 => Q (.fz (exD ⟨x, some (f, d)⟩)) e1) EX
theorem exo_xp1 {c a : Addr} {d : Option Addr} : ∀ h : Heap, (∃ t1 : Addr, h.get? a = some ({ cls := .ref c, dict := d, data := .fields #[.ref t1, .none, .none, .none, .bool false, .none] } : Obj)) → XP (.ref c) d a h := fun h ⟨t1, h1⟩ => ⟨_, _, h1, ⟨rfl, rfl⟩, rfl⟩
theorem se_exc1 {CX : CXT} {k : Nat} {fd : FuncData} {ps : List Str} {f : Str} (O : OC X.K x f) (F : XC X.K x) (F1 : FnOk X.prog X.w X.K X.mg X.base CX k (He.fAd X.K (x, some "__init__")) fd ps (spIn (He.ga X.K x) f)) (hr : Room (k + 1) X.A) (hb : Binds X.K fd ps [])
    (hx : Passes CX X (fun _ _ _ => False)) (hg : Gl X x) (hm : X.mg x = some (.ref (He.ga X.K x))) (he : SE X C e te) (hdb : (x == ("__debug__" : Str)) = false := by decide) (hs : starEach [e] X.env = (false, eval e X.env) :: starEach [] X.env := by rfl) (hpl : (backTo pos (starEach [] X.env)).any (·.1) = false := by rfl) :
    SE X C (.Call (.Name x p) [e] [] pos) (eExc1 x f te) := .mk fun σ H pf env feet Q EX W tk q0 => by
  refine eW.of (pv_oex (O.oex F) O.it O.ti F1 hr hb hx hg hm (pa_cons eW.pe pa_nil hs) hdb hs hpl) ?_
  refine (he.v σ H pf env feet _ EX W tk q0).imp fun v H1 ⟨d, e1, f1, W1, h1, q1⟩ => ⟨show (1 : Nat) ≤ 1000 by decide, fun a ha => ⟨a, v, rfl, upd_same, fun dx hd1 hne => ⟨rfl, ?_⟩⟩⟩
  rw [upd_ne hne] at hd1
  have np : a ∉ f1.flatten ++ [] := fun m => W1.rel.tr a (by rw [List.append_nil] at m; exact m) ha
  have nd : dx ∉ f1.flatten ++ [] := fun m => W1.rel.tr dx (by rw [List.append_nil] at m; exact m) hd1
  have eH : upd (upd (upd H1 a (exo a (He.ga X.K x) none)) dx (exd dx [(f, v)])) a (exo a (He.ga X.K x) (some dx)) = upd (upd H1 dx (exd dx [(f, v)])) a (exo a (He.ga X.K x) (some dx)) := by
    funext b
    by_cases hb : b = a
    · rw [hb, upd_same, upd_same]
    · rw [upd_ne hb, upd_ne hb]
      by_cases hd : b = dx
      · rw [hd, upd_same, upd_same]
      · rw [upd_ne hd, upd_ne hd, upd_ne hb]
  rw [eH]
  have ha2 : upd H1 dx (exd dx [(f, v)]) a = none := by rw [upd_ne (fun z => hne z.symm)]; exact ha
  have sm1 : Same H1 (upd H1 dx (exd dx [(f, v)])) := same_new hd1
  have sm2 : Same (upd H1 dx (exd dx [(f, v)])) (upd (upd H1 dx (exd dx [(f, v)])) a (exo a (He.ga X.K x) (some dx))) := same_new ha2
  have sm : Same H1 (upd (upd H1 dx (exd dx [(f, v)])) a (exo a (He.ga X.K x) (some dx))) := fun b o z => sm2 b o (sm1 b o z)
  obtain ⟨W2, h2⟩ := W1.pure (v := .ref a) (r := .fz (exD ⟨x, some (f, d)⟩)) (f := []) sm ⟨by simp, by simp, rfl, by
    refine .xc1 (φ := _) (u := exd dx [(f, v)]) (dd := dx) (v := v) (by rw [hid_out np]; exact upd_same) exo_xp1 (by rw [hid_out nd, upd_ne hne, upd_same]) (.inr rfl) (dx_mono (hid_same fun b o n z => ⟨n, sm b o z⟩) h1)⟩
  exact ⟨_, e1, f1, [], W2, h2, q1⟩
/-- raise C(e) -/
def rRai1 (x f : Str) (te : RE) : RS := fun D env => vl te env (fun d e1 => D.ex ⟨x, some (f, d)⟩ e1) D.ex
theorem ss_raise1 {CX : CXT} {k : Nat} {fd : FuncData} {ps : List Str} {f : Str} {pos' : Pos} (hc : X.calm = true) (O : OC X.K x f) (F : XC X.K x) (F1 : FnOk X.prog X.w X.K X.mg X.base CX k (He.fAd X.K (x, some "__init__")) fd ps (spIn (He.ga X.K x) f)) (hr : Room (k + 1) X.A) (hb : Binds X.K fd ps [])
    (hx : Passes CX X (fun _ _ _ => False)) (hg : Gl X x) (hm : X.mg x = some (.ref (He.ga X.K x))) (he : SE X C e te) (hdb : (x == ("__debug__" : Str)) = false := by decide) (hs : starEach [e] X.env = (false, eval e X.env) :: starEach [] X.env := by rfl) (hpl : (backTo pos (starEach [] X.env)).any (·.1) = false := by rfl) :
    SS X C (.Raise (some (.Call (.Name x p) [e] [] pos)) none pos') (rRai1 x f te) := .mk fun σ H pf env feet D W tk q0 => by
  refine sW.of (ps_raise hc tk.1 (pmk_oex (ds := []) (dvs := []) (O.oex F) O.it O.ti F1 hr hb .nil hx hg hm (pa_cons eW.pe pa_nil hs) hdb hs hpl)) ?_
  refine (he.v σ H pf env feet _ D.ex W tk q0).imp fun v H1 ⟨d, e1, f1, W1, h1, q1⟩ => ⟨show (1 : Nat) ≤ 1000 by decide, fun a ha => ?_⟩
  rw [List.append_nil]
  refine ⟨a, v, rfl, upd_same, fun dx hd1 hne => ⟨rfl, dx, [(f, v)], upd_same, by rw [upd_ne hne, upd_same], by rw [upd_ne hne] at hd1; exact hd1, ?_⟩⟩
  rw [upd_ne hne] at hd1
  have nd : dx ∉ f1.flatten ++ [] := fun m => W1.rel.tr dx (by rw [List.append_nil] at m; exact m) hd1
  have eH : upd (del (upd (upd (upd H1 a (exo a (He.ga X.K x) none)) dx (exd dx [(f, v)])) a (exo a (He.ga X.K x) (some dx))) a) dx (.xd [(f, v)]) = upd H1 dx (.xd [(f, v)]) := by
    funext b
    by_cases hd : b = dx
    · rw [hd, upd_same, upd_same]
    · rw [upd_ne hd, upd_ne hd]
      by_cases hb : b = a
      · rw [hb, del_same, ha]
      · rw [del_ne hb, upd_ne hb, upd_ne hd, upd_ne hb]
  rw [eH]
  obtain ⟨W2, h2⟩ := W1.pure (v := v) (r := .fz d) (f := []) (same_new (o := .xd [(f, v)]) hd1) ⟨by simp, by simp, rfl, dx_mono (hid_same fun b o n z => ⟨n, same_new hd1 b o z⟩) h1⟩
  exact ⟨e1, f1, ⟨x, some (f, d)⟩, W2.unpin tk.2, ⟨rfl, dx, v, rfl, by rw [hid_out nd]; exact upd_same, h2.2⟩, q1⟩
/-! ### e.f -/
def gFld (f : Str) : PyData → Option Rs := fun d => match d with
  | .dict [(.str _, .str g), (.none, y)] => if g = f then some (.fz y) else none
  | _ => none
def eFld (xs : List Str) (f : Str) (ta : RE) : RE := fun env Q EX => ar ta env (fun r e1 => ∃ d z, res r e1 = some d ∧ (∃ c ∈ xs, isExc d = some c) ∧ gFld f d = some z ∧ Q z e1) EX
theorem se_xfld {a : Expr} {ta : RE} {f : Str} (xs : List Str) (hx : xtB X.K xs = true) (hno : ∀ c ∈ xs, PySem.W.findIn X.K (gaV X.K c) f = some none) (ha : SE X C a ta) (hb : attributeBase a f X.env (eval a X.env) = eval a X.env := by rfl) :
    SE X C (.Attribute a f pos) (eFld xs f ta) := .mk fun σ H pf env feet Q EX W tk q pins s I => by
  refine attr_of hb (thn (ar_ok ha σ H pf env feet _ EX W tk q pins s I) fun u s1 ⟨x, H1, I1, rx, r1, e1, f1, W1, h1, d, z, ed, ⟨c, hm, hc⟩, ez, q1⟩ => ?_)
  have hv := (res_vw W1 h1 ed).dp
  unfold gFld at ez
  split at ez
  · rename_i c' g y
    by_cases hgf : g = f
    · rw [if_pos hgf] at ez
      cases ez
      subst hgf
      have hv2 : Dx X.K (hid H1 (f1.flatten ++ [])) x (.dict [(.str c', .str g), (.none, y)]) := by
        rcases res_vw W1 h1 ed with w | ⟨_, _, _, _, w, _⟩
        · exact w
        · cases w
      have hxl := hv.xl hc
      cases hv2 with
      | xc1 k1 k2 k3 k4 k5 =>
        rename_i a dd v φ u0
        cases hc
        obtain rfl : u = Value.ref a := rx
        have F := xtB_cls hx hm
        have k1' := hid_le _ _ k1
        have k3' := hid_le _ _ k3
        obtain ⟨oe, vs, ho, hz, hd⟩ := k2 _ (show ObjOk X.prog X.w H1 s1.heap a (.ext φ) from I1.hok a _ k1').1
        have hns : ∃ mA, s1.heap.Ns1 dd mA ∧ ∀ f, RelO (([(g, v)] : List (Str × V)).lookup f) (mA f) := by
          rcases k4 with rfl | rfl
          · exact (show ObjOk X.prog X.w H1 s1.heap dd (.xd [(g, v)]) from I1.hok dd _ k3')
          · exact exd_at I1.hok k3'
        obtain ⟨mA, hns, hr⟩ := hns
        obtain ⟨od, ho2, hl⟩ := lookIn_ns hns
        obtain ⟨w, hw, rw'⟩ := RelO.some_of (v := v) (o := mA g) (by have := hr g; rw [lookup_put, if_pos rfl] at this; exact this)
        have J : PySem.W.InstAt s1.heap a oe (He.ga X.K c) (some od) := ⟨ho, hz.1, by unfold PySem.W.notCls; rw [hd] <;> rfl, by rw [hz.2]; exact ho2⟩
        exact HandSPX.exc_get I1.kIn J F.hga F.hgt F.hsub (PySem.W.findObj_own F.hd (hno _ hm) rfl (by rw [hl, hw])) (handed_of rw') ⟨v, H1, I1.tok _, rw', .fz y, e1, f1, [], W1, ⟨rfl, k5⟩, q1⟩
    · rw [if_neg hgf] at ez; cases ez
  · cases ez
end
end L3
end

section
set_option Elab.async false
set_option linter.all false
set_option maxRecDepth 100000
set_option maxHeartbeats 1000000
set_option autoImplicit false
/-! L3 part p: repr, join. -/
namespace L3
open PySem PySem.Spec PyProof.Rows L2
section
variable {X : Cx} {C : Ct} {a : Expr} {ta : RE} {pos : Pos}
def rRepr (K : PySem.W.Frag) : List V → Hp → VK → Prop := fun xs H Q => ∃ (p : Addr) (d : PyData), xs = [.ref p] ∧ Dp K H (.ref p) d ∧ d.showable = true ∧ d.canLay0 = true ∧ d.depth ≤ 60 ∧ d.shown.length ≤ sizeLine ∧ Q (.str d.shown) H
mutual
theorem noDict_of_canLay0 : ∀ d : PyData, d.canLay0 = true → d.hasDict = false
  | .none, _ => rfl
  | .bool _, _ => rfl
  | .int _, _ => rfl
  | .str _, _ => rfl
  | .list xs, h => noDictAll_of xs (by simpa [PyData.canLay0] using h)
  | .tuple xs, h => noDictAll_of xs (by simpa [PyData.canLay0] using h)
  | .dict _, h => by simp [PyData.canLay0] at h
theorem noDictAll_of : ∀ ds : List PyData, PyData.canLayAll0 ds = true → PyData.hasDictAll ds = false
  | [], _ => rfl
  | x :: xs, h => by
    rw [PyData.canLayAll0, Bool.and_eq_true] at h
    rw [PyData.hasDictAll, noDict_of_canLay0 x h.1, noDictAll_of xs h.2]; rfl
end
theorem call_repr (hg : X.A.guards = some []) (hu : X.A.units + 65 < cLine) : CallR X (.builtin "repr") (rRepr X.K) := by
  intro pins s σ H xs us Q I r h
  obtain ⟨p, d, rfl, hd, h1, h2, h3, h4, q⟩ := h
  obtain ⟨u, rfl, rx⟩ := vals1 r
  cases rx
  obtain ⟨as, rd⟩ := Dp.reads I d _ _ hd rfl
  exact repr_of_reads' rd h1 (PyData.noDict_hsm (noDict_of_canLay0 d h2)) hg (by omega) (fun _ _ e => e) (fun h' u tk hk => ⟨.str d.shown, H, I.kept (t' := tk) hk, ⟨u, rfl⟩, q⟩) h4
def isSq : PyData → Bool
  | .list _ => true
  | .tuple _ => true
  | _ => false
def gRepr : PyData → Option Rs := fun d => if isSq d = true ∧ d.showable = true ∧ d.canLay0 = true ∧ d.depth ≤ 60 ∧ d.shown.length ≤ sizeLine then some (.fz (.str d.shown)) else none
theorem callv_repr {K : PySem.W.Frag} : CallV K (rRepr K) gRepr := fun F H x d rs Q tr h hg k => by
  unfold gRepr at hg
  by_cases c : isSq d = true ∧ d.showable = true ∧ d.canLay0 = true ∧ d.depth ≤ 60 ∧ d.shown.length ≤ sizeLine
  · rw [if_pos c] at hg
    cases hg
    have hd := h.dp.dp c.2.2.1
    have hr : ∃ p, x = .ref p := by
      cases hd with
      | lst _ _ => exact ⟨_, rfl⟩
      | tup _ _ => exact ⟨_, rfl⟩
      | _ => exact absurd c.1 (by simp [isSq])
    obtain ⟨p, rfl⟩ := hr
    exact ⟨p, d, rfl, hd, c.2.1, c.2.2.1, c.2.2.2.1, c.2.2.2.2, k _ _ [] (Same.refl _) (rsn_v (.str _))⟩
  · rw [if_neg c] at hg; cases hg
/-- ".." .join(e) -/
def eJoin (s : Str) (ta : RA) : RE := fun env Q EX => ta env (fun l e => ∃ ys : List Str, l = [.list (ys.map .str)] ∧ (ys.map (·.length)).sum + ys.length * s.length ≤ 16777216 ∧ Q (.fz (.str (Txt.join s ys))) e) EX
theorem DxAll.toStrs {K : PySem.W.Frag} {Z : Hp} : ∀ {vs : List V} {ns : List Str}, DxAll K Z vs (ns.map PyData.str) → vs = ns.map V.str
  | _, [], .nil => rfl
  | _, n :: ns, .cons h q => by cases h; rw [toStrs q] <;> rfl
theorem se_join {t : Str} {j : Nat} {p2 apos : Pos} {ta : RA} (ha : SA X C [a] ta) (hbase : attributeBase (.Constant (.str t) j p2) "join" X.env (eval (.Constant (.str t) j p2) X.env) = eval (.Constant (.str t) j p2) X.env := by rfl)
    (hfew : ((backTo pos (starEach [a] X.env)).all (fun x => !x.1) && (backToKw pos (keywordEach [] X.env)).all (fun x => x.1.isSome)
      && decide ([a].length + ([] : List Keyword).length + (if ([] : List Keyword).isEmpty then 0 else 1) < 30)) = true := by rfl)
    (hline : (apos.endLine == pos.line) = true := by rfl) (hs : starEach [a] X.env = (false, eval a X.env) :: starEach [] X.env := by rfl) (hplain : (backTo pos (starEach [] X.env)).any (·.1) = false := by rfl) :
    SE X C (.Call (.Attribute (.Constant (.str t) j p2) "join" apos) [a] [] pos) (eJoin t ta) := .mk fun σ H pf env feet Q EX W tk q => by
  refine eW.of (pe_bm PySem.F.plainAttrs_str PySem.F.slot_str_join PySem.F.type_str_join mt_join pe_str aW.pa hbase hfew hline hs hplain) ⟨rfl, ?_⟩
  refine (ha σ H pf env feet _ EX W tk q).imp fun vs H1 ⟨l, e1, f1, W1, h1, ys, hl, hz, q1⟩ => ?_
  subst hl
  cases h1 with
  | cons h1 h2 =>
    cases h2
    cases h1 with
    | @lst p xs _ hs ha =>
      have := ha.toStrs
      subst this
      exact ⟨t, p, ys, rfl, rfl, .inl (hid_le.seq hs), hz, .fz (.str (Txt.join t ys)), e1, f1, [], W1, ⟨rfl, .str _⟩, q1⟩
end
end L3
end

section
set_option Elab.async false
set_option linter.all false
set_option maxRecDepth 100000
set_option maxHeartbeats 2000000
set_option autoImplicit false
/-! L3 part q: the law's end, over a promise kept where no guard stands. -/
namespace L3
open PySem PySem.Spec PyProof.Rows L2
/-- what the law's def promises -/
def mLaw (n : Nat) : M3 := fun sls Q E => ∃ ns : List Int, sls = [.fz (.list (ns.map .int))] ∧ ns.length ≤ n ∧ Q (.fz (.bool true)) [.un]
section
variable {P : Program} {w : World} {K : PySem.W.Frag} {mg mb : Str → Option Value} {k n : Nat} {fa a : Addr} {fd : FuncData} {x : Str} {s₁ : Shared} {vs : List Value} {ns : List Int}
theorem law_run {base : Heap} {H : Hp} (G : GOk P w K mg base k fa fd [x] (mLaw n)) (hr : Room k callerA) (e0 : Env0 P w K mg base callerA [] s₁ H) (hb : BindsTo s₁ fd ⟨[.ref a], []⟩ [(x, .ref a)]) (hl : ns.length ≤ n) (hS : SqL K H a (ns.map V.int)) :
    codeAny (model P w) callerA (.call (.ref fa) ⟨[.ref a], []⟩) (fun r s' => ∃ H', r = .ok (.ret (.bool true)) ∧ s'.os = s₁.os ∧ AllBare s'.gens ∧ Un (frs []) [] H H' s₁.heap s'.heap ∧ HOk P w H' s'.heap) s₁ := by
  have hs : sp3 K 1 (mLaw n) [.ref a] H (fun v _ => v = .bl true) (fun _ _ _ => False) := by
    refine ⟨[.fz (.list (ns.map .int))], [[]], fun r _ => r = .fz (.bool true), fun _ _ => False, rfl, ⟨rfl, rfl, fun i v s f h1 h2 h3 => ?_⟩, by simp, ⟨ns, rfl, hl, rfl⟩, fun v H' h => ?_, fun cls d H' h => ?_⟩
    · match i, h1, h2, h3 with
      | 0, h1, h2, h3 =>
        cases h1; cases h2; cases h3
        refine ⟨rfl, _, rfl, .lst ?_ (DxAll.ofInts ns)⟩
        have : ([[]] : List (List Addr)).flatten ++ [] = [] := rfl
        rw [this, hid_nil]
        exact hS
      | i + 1, h1, _, _ => simp at h1
    · obtain ⟨r, e, f, g, W, rr, q⟩ := h
      have q' : r = .fz (.bool true) := q
      subst q'
      obtain ⟨_, hd⟩ := rr
      cases hd
      rfl
    · obtain ⟨_, _, _, _, _, z⟩ := h
      exact z.elim
  refine codeAny_mono (G.run callerA [] s₁ H ⟨[.ref a], []⟩ [.ref a] [.ref a] _ _ hr rfl e0 hb (.cons rfl .nil) hs) fun r s' h => ?_
  cases r with
  | error e =>
    obtain ⟨_, _, _, _, _, _, _, _, _, _, _, _, z⟩ := h
    exact z.elim
  | ok fl =>
    cases fl with
    | ret u =>
      obtain ⟨v, H', os, bare, un, hok', r', q⟩ := h
      have q' : v = .bl true := q
      subst q'
      obtain rfl : u = Value.bool true := r'
      exact ⟨H', rfl, os, bare, un, hok'⟩
    | next => exact False.elim h
    | brk => exact False.elim h
    | cont => exact False.elim h
/-- the call of the law's def behind the top -/
theorem law_callG (KX : K.In s₁.heap) (hns : s₁.heap.Ns mainGlobals mg) (hb : s₁.heap.Ns builtinsNs mb) (hbb : ∀ x : Str, x ≠ "__name__" → mb x = bootBuiltins x) (hlim : s₁.heap.NoLimit) (hg : s₁.gens = #[])
    (ha : s₁.heap.get? a = some { cls := .type "list", data := .seq vs.toArray }) (hi : IntsAre vs ns) (hz : ns.length ≤ sizeLine) (hl : ns.length ≤ n) (hr : Room k callerA) (G : ∀ base : Heap, GOk P w K mg base k fa fd [x] (mLaw n)) (hbind : ∀ (s : Shared) (u : Value), BindsTo s fd ⟨[u], []⟩ [(x, u)]) :
    codeAny (model P w) callerA (.call (.ref fa) ⟨[.ref a], []⟩) (fun r s' => r = .ok (.ret (.bool true)) ∧ OldK s₁.heap s'.heap ∧ s'.os = s₁.os ∧ AllBare s'.gens) s₁ := by
  have rv := vals_ints hi
  have hlen := hi.length
  have go : ∀ H : Hp, Only H → SqL K H a (ns.map V.int) → HOk P w H s₁.heap → (∀ b, H b ≠ none → b = a) → (H a ≠ none → K.lookup a = none) →
      codeAny (model P w) callerA (.call (.ref fa) ⟨[.ref a], []⟩) (fun r s' => r = .ok (.ret (.bool true)) ∧ OldK s₁.heap s'.heap ∧ s'.os = s₁.os ∧ AllBare s'.gens) s₁ := by
    intro H hO hS hok hA hK
    have tr : ∀ {b : Addr} {o : Obj}, s₁.heap.get? b = some o → H b = none → (hidT s₁.heap H).get? b = some o := fun e z => hidT_get e z
    have free : ∀ {b : Addr} {o : Obj} {es : Array DictEntry} {ep : Nat}, s₁.heap.get? b = some o → o.data = .dict es ep → H b = none := fun {b o es ep} e d => by
      by_cases q : H b = none
      · exact q
      · rw [hA b q, ha] at e
        cases e
        cases d
    have nsT : ∀ {b : Addr} {m : Str → Option Value}, s₁.heap.Ns b m → (hidT s₁.heap H).Ns b m := fun {b m} ⟨o, es, ep, e, d, r⟩ => ⟨o, es, ep, tr e (free e d), d, r⟩
    have hKb : K.In (hidT s₁.heap H) := fun b o e => tr (KX b o e) (by
      by_cases q : H b = none
      · exact q
      · have e' := hA b q
        subst e'
        rw [hK q] at e
        cases e)
    have hM : Mod K mg (hidT s₁.heap H) := ⟨hKb, nsT hns, ⟨mb, nsT hb, hbb⟩, by
      obtain ⟨mc, h1, h2⟩ := hlim
      exact ⟨mc, nsT h1, h2⟩⟩
    have e0 : Env0 P w K mg (hidT s₁.heap H) callerA [] s₁ H := ⟨rfl, hM, fun b o e => of_hidT e, Nat.le_of_eq (hidT_size _ _), trivial, fun b hb => absurd (show b ∈ ([] : List Addr) from hb) (by simp), hok, .of_eq hg⟩
    refine codeAny_mono (law_run (G _) hr e0 (hbind s₁ (.ref a)) hl hS) fun r s' ⟨H', er, os, bare, un, hok'⟩ => ⟨er, OldK.of_keep fun b o e => ?_, os, bare⟩
    by_cases q : H b = none
    · exact un.keep b o e q (by intro z; exact absurd (show b ∈ ([] : List Addr) from z) (by simp)) (by simp)
    · rcases hO b with z | ⟨ob, xs, z⟩
      · exact absurd z q
      · obtain ⟨e1, _⟩ := hok b _ z
        obtain ⟨e2, _⟩ := hok' b _ (un.frzs b ob _ z)
        rw [e] at e1
        cases e1
        exact e2
  cases hk : K.lookup a with
  | some o =>
    have e := KX a o hk
    rw [ha] at e
    cases e
    exact go (fun _ => none) (fun _ => .inl rfl) (.inr ⟨_, vs.toArray, _, hk, rfl, rfl, rfl, by rw [List.size_toArray, hlen]; exact hz, by simpa using rv⟩) (fun b u z => by cases (show (none : Option HO) = some u from z)) (fun b z => absurd rfl z) fun z => absurd rfl z
  | none =>
    refine go (fun b => if b = a then some (.frz { cls := .type "list", data := .seq vs.toArray } (.lst (ns.map V.int))) else none) (fun b => ?_) (.inl (.inr ⟨{ cls := .type "list", data := .seq vs.toArray }, if_pos rfl⟩)) (fun b u z => ?_) (fun b z => ?_) fun _ => hk
    · by_cases q : b = a
      · exact .inr ⟨_, _, if_pos q⟩
      · exact .inl (if_neg q)
    · by_cases q : b = a
      · have z' := (if_pos q).symm.trans z
        cases z'
        subst q
        exact ⟨ha, by rw [List.length_map]; exact hz, vs, _, rv, ha⟩
      · have z' := (if_neg q).symm.trans z
        cases z'
    · by_cases q : b = a
      · exact q
      · exact absurd (if_neg q) z
end
section
/-- the walk's end of a law -/
theorem walk_G {l : PySem.W.OpenLaw} {n k : Nat} {q : Program} {loose : List Str} {XP : (Str → Option Value) → Heap → Prop} {YP : World → Heap → Prop} {d : DefRec} {x : Str} (hn : l.most = some n) (hn2 : n ≤ sizeLine) (hdf : d.params.defaults = []) (hr : Room k callerA)
    (F : ∀ (w : World) (mg : Str → Option Value) (fa : Addr) (h : Heap), YP w h → h.Ns mainGlobals mg → mg d.name = some (.ref fa) → ∃ (K : PySem.W.Frag) (fd : FuncData), K.In h ∧ (∀ (s : Shared) (u : Value), BindsTo s fd ⟨[u], []⟩ [(x, u)]) ∧ ∀ base : Heap, GOk l.prog w K mg base k fa fd [x] (mLaw n)) :
    PySem.W.WalkO q loose XP YP l.row.toRowW d [] (fun f vs => PySem.call f vs) := by
  refine Att.attach_call hn hdf fun w s₀ s₁ mg mb fa o pm cd doc a vs ns G Y ho hd hcd hmg hobj hints hlen hg => ?_
  obtain ⟨K, fd, KX, hb, hF⟩ := F w mg fa _ Y G.T.g hmg
  exact law_callG KX G.T.g G.T.b G.T.builtins G.T.nolimit hg hobj hints (Nat.le_trans hlen hn2) hlen hr hF hb
end
end L3
end

section
set_option Elab.async false
set_option linter.all false
set_option maxRecDepth 100000
set_option maxHeartbeats 2000000
set_option autoImplicit false
/-! L3 part r: try, the exception kept behind it. -/
namespace L3
open PySem PySem.Spec PyProof.Rows L2
section
variable {X : Cx} {pins : List (Addr × Obj)} {σ : L2.St} {H : Hp} {s : Shared} {a : Addr} {oe : Obj}
theorem Inv.outS {q : Addr × Obj} {A : Addr} (I : Inv (X.suite A (q :: (X.pn ++ pins))) [] σ H s) (ok : X.Ok) : Inv X (q :: pins) σ H s :=
  ⟨ok, I.os, I.bare, I.base, I.loc, I.cell, I.free, I.freeC, fun p hp => I.pin p (by
    rw [List.append_nil]
    rcases List.mem_append.mp hp with h | h
    · exact List.mem_cons_of_mem _ (List.mem_append_left _ h)
    · rcases List.mem_cons.mp h with h | h
      · rw [h]; exact List.mem_cons_self ..
      · exact List.mem_cons_of_mem _ (List.mem_append_right _ h)), I.hok, I.len⟩
/-- a pinned new exception is tracked -/
theorem Inv.track {cls : Value} {d : Option Addr} (I : Inv X ((a, oe) :: pins) σ H s) (n0 : X.s_0.heap.get? a = none) (hp : ∀ p ∈ X.pn ++ pins, p.1 ≠ a) (hz : Zc cls d oe) (hf : ∃ vs, oe.data = .fields vs) : Inv X pins σ (upd H a (.ext (XP cls d a))) s := by
  obtain ⟨g1, g2, g3, g4, g5⟩ := I.pin (a, oe) (List.mem_append_right _ (List.mem_cons_self ..))
  have g1 : s.heap.get? a = some oe := g1
  have g2 : H a = none := g2
  obtain ⟨vs, hv⟩ := hf
  refine ⟨I.ok, I.os, I.bare, ⟨I.base.keep, I.base.slot, fun b o e n hx => ?_, I.base.there, fun b xs e => ?_, fun b o u e => ?_, fun b ps e => ?_⟩, I.loc, I.cell, ?_, fun x c e => ?_, fun p hq => ?_, ?_, I.len⟩
  · rw [upd_ne fun z => by rw [z, n0] at e; cases e]
    exact I.base.free b o e n hx
  · have q := I.base.tups b xs e
    rw [upd_ne (ne_of_none q g2)]; exact q
  · have q := I.base.frzs b o u e
    rw [upd_ne (ne_of_none q g2)]; exact q
  · obtain ⟨m, q⟩ := I.base.tbls b ps e
    exact ⟨m, by rw [upd_ne (ne_of_none q g2)]; exact q⟩
  · rw [upd_ne fun z => g3 z.symm]; exact I.free
  · rw [upd_ne fun z => ?_]
    · exact I.freeC x c e
    · obtain ⟨v, o, ho, hd⟩ := I.cell x c e
      rw [z, g1] at ho
      cases ho
      exact g5 v hd
  · obtain ⟨b1, b2, b3, b4, b5⟩ := I.pin p (by
      rcases List.mem_append.mp hq with h | h
      · exact List.mem_append_left _ h
      · exact List.mem_append_right _ (List.mem_cons_of_mem _ h))
    exact ⟨b1, by rw [upd_ne (hp p hq)]; exact b2, b3, b4, b5⟩
  · exact I.hok.laidN (fun _ _ q => q) g2 ⟨⟨oe, vs, g1, hz, hv⟩, ⟨oe, g1⟩, fun h1 h2 ⟨o, v, q, r⟩ k => ⟨o, v, k o q, r⟩⟩
end
theorem Wf.pf {K : PySem.W.Frag} {C : Ct} {PF : List (V × PyData)} {pf : List (V × PyData)} {σ : L2.St} {H : Hp} {env : En} {feet : List (List Addr)} {ex : List Addr} (W : Wf K C pf σ H env feet ex) : Wf K { C with PF := PF } pf σ H env feet ex := ⟨W.nd, W.rel, W.pin, W.exT, W.fr, W.nw, W.pr⟩
theorem Wf.unpf {K : PySem.W.Frag} {C : Ct} {PF : List (V × PyData)} {pf : List (V × PyData)} {σ : L2.St} {H : Hp} {env : En} {feet : List (List Addr)} {ex : List Addr} (W : Wf K { C with PF := PF } pf σ H env feet ex) : Wf K C pf σ H env feet ex := ⟨W.nd, W.rel, W.pin, W.exT, W.fr, W.nw, W.pr⟩
def xmB (K : PySem.W.Frag) (xs : List Str) : Bool := xs.all fun c => xs.all fun e => decide (PySem.W.exmOne K (gaV K c) (gaV K e) = some (isX c e))
theorem xmB_ok {K : PySem.W.Frag} {xs : List Str} (h : xmB K xs = true) {c e : Str} (hc : c ∈ xs) (he : e ∈ xs) : PySem.W.exmOne K (gaV K c) (gaV K e) = some (isX c e) := of_decide_eq_true (List.all_eq_true.mp (List.all_eq_true.mp h c hc) e he)
/-- try: body / except c as n: y = n -/
def rTry (xs : List Str) (c : Str) (i j : Nat) (tb : RS) : RS := fun D env => tb { D with ex := fun er e1 => er.c ∈ xs ∧ if isX er.c c = true then D.nx ((e1.set i .un).set j (.fz (exD er))) else D.ex er e1 } env
/-- the state behind the suite -/
theorem caught_wf {K : PySem.W.Frag} {C : Ct} {pf : List (V × PyData)} {σ : L2.St} {H : Hp} {env : En} {feet : List (List Addr)} {a : Addr} {cls : Value} {d : Option Addr} {er : Er} {i j : Nat} (W : Wf K C pf σ H env feet []) (hE : ErR K (hid H (feet.flatten ++ [])) cls d er) (ha : H a = none) (hi : i ∉ C.BR) (hj : j ∉ C.BR) (hij : i ≠ j) :
    ∃ feet', Wf K C pf (((σ.set i (some (.ref a))).set j (some (.ref a))).set i none) (upd H a (.ext (XP cls d a))) ((env.set i .un).set j (.fz (exD er))) feet' [] := by
  have W1 := W.wipe (vs := [i]) (by simpa using hi)
  have sm : Same H (upd H a (.ext (XP cls d a))) := same_new ha
  have W2 := W1.grow (f := []) sm (by simp) (by simp) (by simp)
  have np : a ∉ (wipeS [] feet [i]).flatten ++ [] := fun m => W1.rel.tr a (by rw [List.append_nil] at m; exact m) ha
  have sm2 : Same (hid H (feet.flatten ++ [])) (hid (upd H a (.ext (XP cls d a))) ((wipeS [] feet [i]).flatten ++ [])) := hid_same fun b o n q => ⟨fun m => n (by
    rw [List.append_nil] at m ⊢; exact wipeS_flatten m), sm b o q⟩
  have hd : Dx K (hid (upd H a (.ext (XP cls d a))) ((wipeS [] feet [i]).flatten ++ [])) (.ref a) (exD er) := by
    obtain ⟨c, g⟩ := er
    obtain ⟨hc, hg⟩ := hE
    have hc : cls = .ref (He.ga K c) := hc
    cases g with
    | none =>
      have hg : d = none := hg
      subst hc hg
      exact .xc0 (by rw [hid_out np]; exact upd_same) fun h z => z
    | some p =>
      obtain ⟨nm, y⟩ := p
      obtain ⟨dd, v, rfl, q1, q2⟩ := hg
      subst hc
      exact .xc1 (by rw [hid_out np]; exact upd_same) (fun h z => z) (sm2 _ _ q1) (.inl rfl) (dx_mono sm2 q2)
  have W3 := W2.put (i := j) (v := .ref a) (s := .fz (exD er)) ⟨rfl, _, rfl, hd⟩ hj
  have e1 : (L2.wipe σ [i]).set j (some (.ref a)) = ((σ.set i (some (.ref a))).set j (some (.ref a))).set i none := by
    show (σ.set i none).set j (some (.ref a)) = _
    rw [List.set_comm _ _ hij.symm, List.set_set]
  rw [e1] at W3
  exact ⟨_, W3⟩
section
variable {X : Cx} {C : Ct} {cn y n : Str} {i j : Nat} {body : List Stmt} {np py p2 p3 p4 pos : Pos} {tb : RS}
theorem ss_try (xs : List Str) (hs : X.stack = X.env :: X.outer) (hf : X.env.frame = some X.env.locals) (hx : X.ex = []) (hN : X.N.Nodup) (hi : X.N[i]? = some n) (hj : X.N[j]? = some y) (hln : X.env.kindOf n = some .local) (hly : X.env.scope.names.lookup y = some .local) (hlv : X.env.scope.names.lookup n = some .local)
    (hij : i ≠ j) (hib : i ∉ C.BR) (hjb : j ∉ C.BR) (hg : Gl X cn) (hm : X.mg cn = some (.ref (He.ga X.K cn))) (hxm : xmB X.K xs = true) (hcn : cn ∈ xs)
    (hb : ∀ (PF : List (V × PyData)) (pn : List (Addr × Obj)) (xe : Value → Shared → Prop), PassesOwn (model X.prog X.w) X.A X.env xe → SSs (X.tr pn xe) { C with PF := PF } body tb)
    (hdb : (cn == ("__debug__" : Str)) = false := by decide) (hd1 : (n == ("__debug__" : Str)) = false := by decide) (hd2 : (n == ("__classdict__" : Str)) = false := by decide) (hsw : swapsWith (.Name n p2) (some (.Name y py)) p3.line X.env = pure false := by rfl) :
    SS X C (.Try body [.ExceptHandler (some (.Name cn np)) (some n) [.Assign [.Name y py] (.Name n p2) p3] p4] [] [] pos) (rTry xs cn i j tb) := .mk fun σ H pf env feet D W tk q pins s I => by
  have ok := I.ok
  have hfr : X.A.frames = some (X.env :: X.outer) := by rw [ok.frames, hs]
  have hloc : Loc X.env.scope n := .inl hlv
  refine wpAny_Try_except ?_
  have run := hb pf (X.pn ++ pins) (fun e s₁ => wpAny (model X.prog X.w) X.A (noteFrame e X.env) (fun _ s₂ => wpAny (model X.prog X.w) X.A (setFlight e none) (fun _ s₃ =>
    wpAny (model X.prog X.w) X.A (handleBy e X.env [.ExceptHandler (some (.Name cn np)) (some n) [.Assign [.Name y py] (.Name n p2) p3] p4]) (SP X pins (Dn X.K C pf D)) X.xe s₃) X.xe s₂) X.xe s₁) PassesOwn.looking
  refine wpAny_mono (run σ H pf env feet { D with ex := fun er e1 => er.c ∈ xs ∧ if isX er.c cn = true then D.nx ((e1.set i .un).set j (.fz (exD er))) else D.ex er e1 } W.pf ⟨fun u s' xx => ?_, fun p hp => hp⟩ q [] s (I.toTry _)) (fun f s1 hsp => ?_) (fun e s1 he => he)
  · obtain ⟨a, B, sI, pins', σ', H', cls, d, rfl, J', nb, up, sky, na, os, ag, env1, feet1, er, W1, hE, hmem, hq⟩ := xx
    have W1 : Wf X.K C pf σ' H' env1 feet1 [] := Wf.unpf W1
    have J : Inv X pins σ' H' sI := J'.ofTry ok
    have sky' : Sky B (X.env :: X.outer) a (Zc cls d) X.env.locals s'.heap := by rw [← hs]; exact sky
    have hb1 : PySem.W.exmOne X.K cls (gaV X.K cn) = some (isX er.c cn) := by
      rw [hE.1]; exact xmB_ok hxm hmem hcn
    show wpAny (model X.prog X.w) X.A (noteFrame (.ref a) X.env) _ _ _
    refine Sky.land Zc.steady hfr hf sky' fun h3 fl3 up3 => ?_
    have J3 : Inv X pins σ' H' { s' with heap := h3 } := J.landed nb fl3.1 (up.trans up3) os ag
    obtain ⟨oe3, vs3, he3, hz3, hd3⟩ := fl3.there
    have notFr : ∀ {h : Heap} {o : Obj} {vs : Array Value}, h.FunFrames B (X.env :: X.outer) → h.get? a = some o → o.data = .fields vs → a ∉ frs (X.env :: X.outer) := fun {h o vs} ff e dd hm => by
      obtain ⟨_, o', e', hnf⟩ := ff.mem hm
      rw [e] at e'; cases e'
      exact hnf _ dd
    have nfr := notFr fl3.2.2.1 he3 hd3
    have nL : a ≠ X.env.locals := fun z => nfr (List.mem_filterMap.mpr ⟨X.env, List.mem_cons_self, by rw [hf, z]⟩)
    have nF : a ∉ X.fs := fun hm => by
      obtain ⟨e, he, q⟩ := List.mem_filterMap.mp hm
      exact nfr (List.mem_filterMap.mpr ⟨e, List.mem_cons_of_mem _ he, q⟩)
    have nB : B.get? a = none := fl3.2.1
    have nI : ∀ {o : Obj}, sI.heap.get? a ≠ some o := fun {o} e => by
      have := nb a o e (by rw [hs]; exact nfr)
      rw [nB] at this; cases this
    have n0 : X.s_0.heap.get? a = none := by
      cases e : X.s_0.heap.get? a with
      | none => rfl
      | some o =>
        obtain ⟨o', e'⟩ := J.base.there a o e (by rw [hx]; simp)
        exact absurd e' nI
    have nP : ∀ p ∈ X.pn ++ pins, p.1 ≠ a := fun p hp z => by
      have e := (J.pin p hp).1
      rw [z] at e
      exact nI e
    have S3 := J3.suite he3 hd3 na nL nF
    refine wpAny_handleBy_cons (codeAny_handlers_test ?_) (by intro q; cases q)
    have LT : PySem.W.Looks (model X.prog X.w) h3 (typeOf (.ref a)) cls := fun A Q E s k q => wpAny_typeOf_ref (k _ _ he3) (by rw [hz3.1]; exact q)
    have LM := PySem.W.exm_one (M := model X.prog X.w) (J3.kIn) LT hb1
    refine ld_glob (X := X.suite a ((a, oe3) :: (X.pn ++ pins))) S3 hg hm ?_ hdb
    refine LM.here ?_
    by_cases hbt : isX er.c cn = true
    · rw [if_pos hbt] at hq
      rw [hbt]
      refine codeAny_handlers_suite_as ?_
      refine HandSPX.lands_againZ fl3 fun h4 fl4 up4 => ?_
      have J4 : Inv X pins σ' H' { s' with heap := h4 } := J.landed nb fl4.1 ((up.trans up3).trans up4) os ag
      obtain ⟨oe4, vs4, he4, hz4, hd4⟩ := fl4.there
      have S4 := J4.suite he4 hd4 na nL nF
      refine store_ok (X := X.suite a ((a, oe4) :: (X.pn ++ pins))) (v := .ref a) S4 hN hi hloc rfl (fun s5 S5 => ?_) (.inr hlv)
      have hlt : i < σ'.length := by rw [J.len]; exact (List.getElem?_eq_some_iff.mp hi).1
      have su : PSs (X.suite a ((a, oe4) :: (X.pn ++ pins))) [.Assign [.Name y py] (.Name n p2) p3] (tAsg (tVar i) (gName j)) := pss_one (ps_set (X := X.suite a ((a, oe4) :: (X.pn ++ pins))) hN hj (.inl hly) (pe_var (X := X.suite a ((a, oe4) :: (X.pn ++ pins))) hi (.inl hlv) hd1 hd2) hsw (.inr hly))
      refine wpAny_mono (su.run [] s5 _ H' { nx := fun σ6 H6 => σ6 = (σ'.set i (some (.ref a))).set j (some (.ref a)) ∧ H6 = H', rt := fun _ _ => False } S5 ⟨_, List.getElem?_set_self hlt, rfl, rfl⟩) (fun f s6 hsp => ?_) (fun _ _ z => False.elim z)
      cases f with
      | next =>
        obtain ⟨σ6, H6, S6, e6, e7⟩ := hsp
        subst e6 e7
        obtain ⟨feet2, W2⟩ := caught_wf W1 hE na hib hjb hij
        refine gone_ok (Inv.outS S6 ok) hN hi hln fun s7 J7 => ?_
        exact ⟨_, _, Inv.track J7 n0 nP hz4 ⟨_, hd4⟩, _, feet2, W2, hq⟩
      | brk => obtain ⟨_, _, _, z⟩ := hsp; exact z.elim
      | cont => obtain ⟨_, _, _, z⟩ := hsp; exact z.elim
      | ret u => obtain ⟨_, _, _, _, _, z⟩ := hsp; exact z.elim
    · rw [if_neg hbt] at hq
      rw [show isX er.c cn = false by simpa using hbt]
      show wpAny _ X.A (handleBy (.ref a) X.env []) _ _ _
      refine wpAny_handleBy_nil ?_
      obtain ⟨k1, k2, k3, oe, vs, T, oT, ts', he, hz, hd, h1, hr⟩ := id fl3
      unfold PySem.passOn
      refine wpAny_bind (wpAny_field he hd h1 ?_)
      rw [if_neg (show ¬ ((Value.ref T == Value.none) = true) from by simp)]
      have fin : wpAny (model X.prog X.w) X.A (setFlight (.ref a) X.env.frame) (fun _ s4 => wpAny (model X.prog X.w) X.A (throw (.ref a) : Sem Flow) (SP X pins (Dn X.K C pf D)) X.xe s4) X.xe { s' with heap := h3 } := by
        rw [hf]
        refine HandSPX.setFlight_upZ fl3 fun h4 hh4 up4 => wpAny_throw (tk.1 _ _ ?_)
        exact ⟨a, B, sI, pins, σ', H', cls, d, rfl, J, nb, (up.trans up3).trans up4, .inr (.inr (by rw [hs]; exact hh4)), na, os, ag, env1, feet1, er, W1.unpin tk.2, hE, hq⟩
      first
        | exact wpAny_bind (wpAny_pure (wpAny_bind fin))
        | exact wpAny_bind fin
  · cases f with
    | next =>
      obtain ⟨σ', H', J', env1, feet1, W1, q⟩ := hsp
      exact wpAny_execs_nil ⟨σ', H', J'.ofTry ok, env1, feet1, Wf.unpf W1, q⟩
    | brk =>
      obtain ⟨σ', H', J', env1, feet1, W1, q⟩ := hsp
      exact ⟨σ', H', J'.ofTry ok, env1, feet1, Wf.unpf W1, q⟩
    | cont =>
      obtain ⟨σ', H', J', env1, feet1, W1, q⟩ := hsp
      exact ⟨σ', H', J'.ofTry ok, env1, feet1, Wf.unpf W1, q⟩
    | ret u =>
      obtain ⟨v, σ', H', J', r, σ2, r2, env1, feet1, f, W1, q⟩ := hsp
      exact ⟨v, σ', H', J'.ofTry ok, r, σ2, r2, env1, feet1, f, Wf.unpf W1, q⟩
end
end L3
end

section
set_option Elab.async false
set_option linter.all false
set_option maxRecDepth 100000
set_option maxHeartbeats 1000000
set_option autoImplicit false
/-! L3 part s: dicts whose keys are tuples of any depth, below. -/
namespace L3
open PySem PySem.Spec PyProof.Rows L2
theorem kdP_ok {P : Program} {w0 w : World} {H : Hp} {h : Heap} {p : Addr} {xs : List EnV} (k : kdP w p xs h) : ObjOk P w0 H h p (.ext (kdP w p xs)) := by
  obtain ⟨a, b, ys, o, es, ep, c, d, e⟩ := id k
  exact ⟨k, ⟨o, d⟩, fun h1 h2 ⟨a, b, ys, o, es, ep, c, d, e⟩ st => ⟨a, b, ys, o, es, ep, c, st o d, e⟩⟩
section
variable {X : Cx} {pins : List (Addr × Obj)} {σ : L2.St} {H : Hp} {s : Shared}
mutual
theorem nested_is (I : Inv X pins σ H s) : ∀ (k : NK) (v : V) (u : Value), Dx X.K H v k.data → RelV v u → NestedIs s.heap k u
  | .none, v, u, h, r => by cases h; cases r; exact .none
  | .num i, v, u, h, r => by cases h; obtain ⟨t, rfl⟩ := r; exact .int i t
  | .text x, v, u, h, r => by cases h; obtain ⟨t, rfl⟩ := r; exact .text x t
  | .tup ks, v, u, h, r => by
    have h' : Dx X.K H v (.tuple (NestedKey.datas ks)) := h
    cases h' with
    | tup hs ha =>
      cases r
      obtain ⟨its, rv, ⟨o, ho, hc, n, hd⟩, _⟩ := I.tuple hs
      exact .tup ho hc hd (by simpa using nested_all I ks _ its ha rv)
theorem nested_all (I : Inv X pins σ H s) : ∀ (ks : List NK) (vs : List V) (us : List Value), DxAll X.K H vs (NestedKey.datas ks) → Vals vs us → NestedAll s.heap ks us
  | [], vs, us, h, r => by
    have h' : DxAll X.K H vs [] := h
    cases h'; cases r; exact .nil
  | k :: ks, vs, us, h, r => by
    have h' : DxAll X.K H vs (k.data :: NestedKey.datas ks) := h
    cases h' with
    | cons h1 h2 =>
      cases r with
      | cons r1 r2 => exact .cons (nested_is I k _ _ h1 r1) (nested_all I ks _ _ h2 r2)
end
theorem Inv.key (I : Inv X pins σ H s) {k : NK} {b : Addr} (hd : k.depth ≤ 8) (h : Dx X.K H (.ref b) k.data) : (nestedKind X.prog X.w).is s.heap k b := ⟨nested_is I k _ _ h rfl, hd⟩
theorem enr_keys : ∀ {xs : List EnV} {ys : List EnU}, Paired EnR xs ys → xs.map (·.1) = ys.map (·.1)
  | _, _, .nil => rfl
  | _, _, .cons h q => by rw [List.map_cons, List.map_cons, enr_keys q, h.1]
theorem enr_all {P : NK → Addr → Prop} : ∀ {xs : List EnV} {ys : List EnU}, Paired EnR xs ys → (∀ x ∈ xs, P x.1 x.2.1) → ∀ y ∈ ys, P y.1 y.2.1
  | _, _, .nil, _, y, hy => by cases hy
  | _, _, .cons h q, hp, y, hy => by
    rcases List.mem_cons.mp hy with rfl | hy
    · have := hp _ (List.mem_cons_self ..)
      rw [h.1, h.2.1] at this
      exact this
    · exact enr_all q (fun x hx => hp x (List.mem_cons_of_mem _ hx)) y hy
/-- the dict as the library has it -/
theorem kd_at (I : Inv X pins σ H s) {p : Addr} {xs : List EnV} (hp : H p = some (.ext (kdP X.w p xs))) (hk : ∀ x ∈ xs, KeyAt X.K H x) (nd : (xs.map (·.1)).Nodup) :
    (p == sysModules) = false ∧ ∃ ys, Paired EnR xs ys ∧ s.heap.DictOfH (nestedKind X.prog X.w) p ys ∧ ys.length ≤ sizeLine := by
  obtain ⟨a, b, ys, o, es, ep, c, d, e, f, g⟩ := (show ObjOk X.prog X.w H s.heap p (.ext (kdP X.w p xs)) from I.hok p _ hp).1
  refine ⟨a, ys, c, ⟨o, es, ep, d, e, f, g, enr_all (P := fun k b => (nestedKind X.prog X.w).is s.heap k b) c fun x hx => Inv.key I (hk x hx).1 (hk x hx).2, by rw [← enr_keys c]; exact nd⟩, by rw [← Paired.length c]; exact b⟩
/-! entries by key -/
def kat (xs : List EnV) (k : NK) : Option (Addr × V) := (xs.find? fun x => decide (x.1 = k)).map (·.2)
def kst (xs : List EnV) (k : NK) (a : Addr) (v : V) : List EnV := if (kat xs k).isSome then xs.map (fun x => if x.1 = k then (x.1, x.2.1, v) else x) else xs ++ [(k, a, v)]
theorem kat_cons {x : EnV} {xs : List EnV} {k : NK} : kat (x :: xs) k = if x.1 = k then some x.2 else kat xs k := by
  unfold kat
  by_cases h : x.1 = k
  · rw [List.find?_cons_of_pos (by simpa using h), if_pos h]; rfl
  · rw [List.find?_cons_of_neg (by simpa using h), if_neg h]
theorem atKey_cons {x : EnU} {xs : List EnU} {k : NK} : atKey (x :: xs) k = if x.1 = k then some x.2 else atKey xs k := by
  unfold atKey
  by_cases h : x.1 = k
  · rw [List.find?_cons_of_pos (by simpa using h), if_pos h]; rfl
  · rw [List.find?_cons_of_neg (by simpa using h), if_neg h]
theorem kat_rel {k : NK} : ∀ {xs : List EnV} {ys : List EnU}, Paired EnR xs ys → (kat xs k = none ∧ atKey ys k = none) ∨ ∃ a v u, kat xs k = some (a, v) ∧ atKey ys k = some (a, u) ∧ RelV v u
  | _, _, .nil => .inl ⟨rfl, rfl⟩
  | _, _, .cons h q => by
    rw [kat_cons, atKey_cons]
    rename_i x y xs ys
    by_cases e : x.1 = k
    · rw [if_pos e, if_pos (by rw [← h.1]; exact e)]
      exact .inr ⟨x.2.1, x.2.2, y.2.2, rfl, by rw [h.2.1], h.2.2⟩
    · rw [if_neg e, if_neg (by rw [← h.1]; exact e)]
      exact kat_rel q
theorem paired_app {α β : Type} {R : α → β → Prop} : ∀ {xs : List α} {ys : List β} {zs : List α} {ws : List β}, Paired R xs ys → Paired R zs ws → Paired R (xs ++ zs) (ys ++ ws)
  | _, _, _, _, .nil, q => q
  | _, _, _, _, .cons h q, r => .cons h (paired_app q r)
theorem paired_map {α β γ δ : Type} {R : α → β → Prop} {S : γ → δ → Prop} {f : α → γ} {g : β → δ} (h : ∀ x y, R x y → S (f x) (g y)) : ∀ {xs : List α} {ys : List β}, Paired R xs ys → Paired S (xs.map f) (ys.map g)
  | _, _, .nil => .nil
  | _, _, .cons e q => .cons (h _ _ e) (paired_map h q)
theorem kst_rel {k : NK} {a : Addr} {v : V} {u : Value} (r : RelV v u) {xs : List EnV} {ys : List EnU} (q : Paired EnR xs ys) : Paired EnR (kst xs k a v) (storedH ys k a u) := by
  unfold kst storedH
  rcases kat_rel (k := k) q with ⟨e1, e2⟩ | ⟨b, v0, u0, e1, e2, _⟩
  · rw [e1, e2]
    exact paired_app q (.cons ⟨rfl, rfl, r⟩ .nil)
  · rw [e1, e2]
    refine paired_map (fun x y h => ?_) q
    show EnR (if x.1 = k then (x.1, x.2.1, v) else x) (putAt k u y)
    unfold putAt
    by_cases e : x.1 = k
    · rw [if_pos e, if_pos (by rw [← h.1]; exact e)]
      exact ⟨h.1, h.2.1, r⟩
    · rw [if_neg e, if_neg (by rw [← h.1]; exact e)]
      exact h
theorem kst_keys {k : NK} {a : Addr} {v : V} {xs : List EnV} : (kst xs k a v).map (·.1) = if (kat xs k).isSome then xs.map (·.1) else xs.map (·.1) ++ [k] := by
  unfold kst
  cases h : (kat xs k).isSome with
  | true =>
    rw [if_pos rfl, if_pos rfl, List.map_map]
    refine List.map_congr_left fun x _ => ?_
    show (if x.1 = k then (x.1, x.2.1, v) else x).1 = x.1
    split <;> rfl
  | false => simp
/-! what the dict is asked -/
theorem kd_in (hu : X.A.units + 9 < cLine) (I : Inv X pins σ H s) {p b : Addr} {xs : List EnV} {k : NK} {Q : Value → Shared → Prop} (hp : H p = some (.ext (kdP X.w p xs))) (hk : ∀ x ∈ xs, KeyAt X.K H x) (nd : (xs.map (·.1)).Nodup) (hd : k.depth ≤ 8) (hb : Dx X.K H (.ref b) k.data)
    (h : ∀ s', Inv X pins σ H s' → Q (.bool (kat xs k).isSome) s') : wpAny (model X.prog X.w) X.A (compareOp .In (.ref b) (.ref p)) Q X.xe s := by
  obtain ⟨h1, ys, c, d, e⟩ := kd_at I hp hk nd
  refine wpAny_in_heap (knd := nestedKind X.prog X.w) (show X.A.units + 1 + 8 < cLine by omega) (Inv.key I hd hb) h1 d ?_
  have : (atKey ys k).isSome = (kat xs k).isSome := by
    rcases kat_rel (k := k) c with ⟨e1, e2⟩ | ⟨_, _, _, e1, e2, _⟩ <;> rw [e1, e2] <;> rfl
  rw [this]
  exact h _ (I.tok _)
theorem kd_get (hu : X.A.units + 9 < cLine) (I : Inv X pins σ H s) {p b a : Addr} {v : V} {xs : List EnV} {k : NK} {Q : Value → Shared → Prop} (hp : H p = some (.ext (kdP X.w p xs))) (hk : ∀ x ∈ xs, KeyAt X.K H x) (nd : (xs.map (·.1)).Nodup) (hd : k.depth ≤ 8) (hb : Dx X.K H (.ref b) k.data) (hv : kat xs k = some (a, v))
    (h : ∀ u s', Inv X pins σ H s' → RelV v u → Q u s') : wpAny (model X.prog X.w) X.A (getItem (.ref p) (.ref b)) Q X.xe s := by
  obtain ⟨h1, ys, c, d, e⟩ := kd_at I hp hk nd
  rcases kat_rel (k := k) c with ⟨e1, e2⟩ | ⟨a', v', u', e1, e2, r⟩
  · rw [hv] at e1; cases e1
  · rw [hv] at e1; cases e1
    exact wpAny_getItem_heap (knd := nestedKind X.prog X.w) (show X.A.units + 1 + 8 < cLine by omega) (Inv.key I hd hb) d e2 (h _ _ (I.tok _) r)
theorem storedH_len {ys : List EnU} {k : NK} {b : Addr} {u : Value} : (storedH ys k b u).length ≤ ys.length + 1 := by
  unfold storedH
  split <;> simp
/-- behind a store -/
theorem kd_stored (I : Inv X pins σ H s) {p b : Addr} {v : V} {u : Value} {xs : List EnV} {ys : List EnU} {k : NK} {h' : Heap} {tk : Nat} (hp : H p = some (.ext (kdP X.w p xs))) (h1 : (p == sysModules) = false) (c : Paired EnR xs ys) (r : RelV v u) (hz : (kst xs k b v).length ≤ sizeLine)
    (d : h'.DictOfH (nestedKind X.prog X.w) p (storedH ys k b u)) (hs : Heap.SameBut p s.heap h') : Inv X pins σ (upd H p (.ext (kdP X.w p (kst xs k b v)))) { s with heap := h', toks := tk } := by
  obtain ⟨o, es, ep, e1, e2, e3, e4, e5, e6⟩ := d
  have c' := kst_rel (k := k) (a := b) r c
  exact I.write (t' := tk) (x := p) (e := p) (o := .ext (kdP X.w p (kst xs k b v))) (by rw [hp]; exact True.intro) (.inl rfl) (fun c o hc q => (hs.2 c hc).trans q) ⟨o, e1⟩ (kdP_ok ⟨h1, hz, storedH ys k b u, o, es, ep, c', e1, e2, e3, e4⟩)
theorem kd_set (hu : X.A.units + 9 < cLine) (I : Inv X pins σ H s) {p b : Addr} {v : V} {u : Value} {xs : List EnV} {k : NK} {Q : Unit → Shared → Prop} (hp : H p = some (.ext (kdP X.w p xs))) (hk : ∀ x ∈ xs, KeyAt X.K H x) (nd : (xs.map (·.1)).Nodup) (hd : k.depth ≤ 8) (hb : Dx X.K H (.ref b) k.data) (r : RelV v u) (hz : (kst xs k b v).length ≤ sizeLine)
    (h : ∀ s', Inv X pins σ (upd H p (.ext (kdP X.w p (kst xs k b v)))) s' → Q () s') : wpAny (model X.prog X.w) X.A (setItem (.ref p) (.ref b) u) Q X.xe s := by
  obtain ⟨h1, ys, c, d, e⟩ := kd_at I hp hk nd
  exact wpAny_setItem_heap (knd := nestedKind X.prog X.w) (show X.A.units + 1 + 8 < cLine by omega) (Inv.key I hd hb) d (fun h' d' hs => h _ (kd_stored I hp h1 c r hz d' hs)) e
theorem kd_setdefault (hu : X.A.units + 9 < cLine) (I : Inv X pins σ H s) {p b : Addr} {v : V} {u : Value} {xs : List EnV} {k : NK} {Q : Value → Shared → Prop} (hp : H p = some (.ext (kdP X.w p xs))) (hk : ∀ x ∈ xs, KeyAt X.K H x) (nd : (xs.map (·.1)).Nodup) (hd : k.depth ≤ 8) (hb : Dx X.K H (.ref b) k.data) (r : RelV v u) (hz : (kst xs k b v).length ≤ sizeLine)
    (q1 : ∀ a v0, kat xs k = some (a, v0) → ∀ w s', Inv X pins σ H s' → RelV v0 w → Q w s') (q2 : kat xs k = none → ∀ s', Inv X pins σ (upd H p (.ext (kdP X.w p (kst xs k b v)))) s' → Q u s') : wpAny (model X.prog X.w) X.A (call (.builtin "dict.setdefault") [.ref p, .ref b, u]) Q X.xe s := by
  obtain ⟨h1, ys, c, d, e⟩ := kd_at I hp hk nd
  refine call_setdefault_heap (knd := nestedKind X.prog X.w) (show X.A.units + 1 + 8 < cLine by omega) (Inv.key I hd hb) h1 d (fun y hy => ?_) (fun hn h' d' hs => ?_) e
  · rcases kat_rel (k := k) c with ⟨e1, e2⟩ | ⟨a', v', u', e1, e2, r'⟩
    · rw [hy] at e2; cases e2
    · rw [hy] at e2; cases e2
      exact q1 _ _ e1 _ _ (I.tok _) r'
  · rcases kat_rel (k := k) c with ⟨e1, e2⟩ | ⟨a', v', u', e1, e2, r'⟩
    · exact q2 e1 _ (kd_stored I hp h1 c r hz d' hs)
    · rw [hn] at e2; cases e2
theorem kd_len (I : Inv X pins σ H s) {p : Addr} {xs : List EnV} {Q : Value → Shared → Prop} (hp : H p = some (.ext (kdP X.w p xs))) (hk : ∀ x ∈ xs, KeyAt X.K H x) (nd : (xs.map (·.1)).Nodup) (h : ∀ s' t, Inv X pins σ H s' → Q (.int (xs.length : Nat) t) s') : wpAny (model X.prog X.w) X.A (call (.builtin "len") [.ref p]) Q X.xe s := by
  obtain ⟨h1, ys, c, d, e⟩ := kd_at I hp hk nd
  have hl := Paired.length c
  refine call_len_dictH h1 d (by rw [sizeLine_eq] at e; omega) ?_
  rw [← hl]
  exact h _ _ (I.tok _)
theorem kd_new {h : Heap} {w : World} (hb : sysModules < h.objs.size) : kdP w h.objs.size [] (h.push { cls := .type "dict", data := .dict #[] }) := ⟨beq_eq_false_iff_ne.mpr (Ne.symm (Nat.ne_of_lt hb)), Nat.zero_le _, [], _, #[], 0, .nil, Heap.get?_push_size _ rfl, ⟨rfl, rfl, rfl⟩, rfl, rfl⟩
end
end L3
end

section
set_option Elab.async false
set_option linter.all false
set_option maxRecDepth 100000
set_option maxHeartbeats 1000000
set_option autoImplicit false
/-! L3 part t: dicts whose keys are tuples. -/
namespace L3
open PySem PySem.Spec PyProof.Rows L2
abbrev Kvs := List (NK × PyData)
def dval (kvs : Kvs) (k : NK) : Option PyData := (kvs.find? fun x => decide (x.1 = k)).map (·.2)
def dput (kvs : Kvs) (k : NK) (v : PyData) : Kvs := if (dval kvs k).isSome then kvs.map (fun x => if x.1 = k then (x.1, v) else x) else kvs ++ [(k, v)]
theorem dval_cons {x : NK × PyData} {kvs : Kvs} {k : NK} : dval (x :: kvs) k = if x.1 = k then some x.2 else dval kvs k := by
  unfold dval
  by_cases h : x.1 = k
  · rw [List.find?_cons_of_pos (by simpa using h), if_pos h]; rfl
  · rw [List.find?_cons_of_neg (by simpa using h), if_neg h]
section
variable {K : PySem.W.Frag} {Z : Hp} {k : NK}
theorem kat_dv : ∀ {xs : List EnV} {kvs : Kvs}, xs.map (·.1) = kvs.map (·.1) → DxAll K Z (xs.map (·.2.2)) (kvs.map (·.2)) → (kat xs k = none ∧ dval kvs k = none) ∨ ∃ a v d, kat xs k = some (a, v) ∧ dval kvs k = some d ∧ Dx K Z v d
  | [], [], _, _ => .inl ⟨rfl, rfl⟩
  | [], y :: ys, e, _ => by cases e
  | x :: xs, [], e, _ => by cases e
  | x :: xs, y :: ys, e, h => by
    rw [List.map_cons, List.map_cons] at e
    obtain ⟨e1, e2⟩ := List.cons.inj e
    rw [List.map_cons, List.map_cons] at h
    cases h with
    | cons h1 h2 =>
      rw [kat_cons, dval_cons]
      by_cases q : x.1 = k
      · rw [if_pos q, if_pos (by rw [← e1]; exact q)]
        exact .inr ⟨x.2.1, x.2.2, y.2, rfl, rfl, h1⟩
      · rw [if_neg q, if_neg (by rw [← e1]; exact q)]
        exact kat_dv e2 h2
theorem kst_dv0 {b : Addr} {v : V} {d : PyData} (hd : Dx K Z v d) : ∀ {xs : List EnV} {kvs : Kvs}, xs.map (·.1) = kvs.map (·.1) → DxAll K Z (xs.map (·.2.2)) (kvs.map (·.2)) →
    DxAll K Z ((xs.map fun x => if x.1 = k then (x.1, x.2.1, v) else x).map (·.2.2)) ((kvs.map fun x => if x.1 = k then (x.1, d) else x).map (·.2)) ∧ (xs.map fun x => if x.1 = k then (x.1, x.2.1, v) else x).map (·.1) = (kvs.map fun x => if x.1 = k then (x.1, d) else x).map (·.1)
  | [], [], _, _ => ⟨.nil, rfl⟩
  | [], y :: ys, e, _ => by cases e
  | x :: xs, [], e, _ => by cases e
  | x :: xs, y :: ys, e, h => by
    rw [List.map_cons, List.map_cons] at e
    obtain ⟨e1, e2⟩ := List.cons.inj e
    rw [List.map_cons, List.map_cons] at h
    cases h with
    | cons h1 h2 =>
      obtain ⟨q1, q2⟩ := kst_dv0 (b := b) hd e2 h2
      simp only [List.map_cons]
      by_cases q : x.1 = k
      · rw [if_pos q, if_pos (by rw [← e1]; exact q)]
        exact ⟨.cons hd q1, by rw [q2, e1]⟩
      · rw [if_neg q, if_neg (by rw [← e1]; exact q)]
        exact ⟨.cons h1 q1, by rw [q2, e1]⟩
theorem kst_dv {b : Addr} {v : V} {d : PyData} (hd : Dx K Z v d) {xs : List EnV} {kvs : Kvs} (e : xs.map (·.1) = kvs.map (·.1)) (h : DxAll K Z (xs.map (·.2.2)) (kvs.map (·.2))) :
    DxAll K Z ((kst xs k b v).map (·.2.2)) ((dput kvs k d).map (·.2)) ∧ (kst xs k b v).map (·.1) = (dput kvs k d).map (·.1) := by
  unfold kst dput
  rcases kat_dv (k := k) e h with ⟨q1, q2⟩ | ⟨_, _, _, q1, q2, _⟩
  · rw [q1, q2]
    simp only [Option.isSome_none, Bool.false_eq_true, if_false, List.map_append, List.map_cons, List.map_nil]
    exact ⟨h.app (.one hd), by rw [e]⟩
  · rw [q1, q2]
    simp only [Option.isSome_some, if_true]
    exact kst_dv0 (b := b) hd e h
theorem dput_nodup {kvs : Kvs} {d : PyData} (n : (kvs.map (·.1)).Nodup) : ((dput kvs k d).map (·.1)).Nodup := by
  unfold dput
  by_cases h : (dval kvs k).isSome = true
  · rw [if_pos h, List.map_map]
    have : (kvs.map ((fun x : NK × PyData => x.1) ∘ fun x => if x.1 = k then (x.1, d) else x)) = kvs.map (·.1) := List.map_congr_left fun x _ => by
      show (if x.1 = k then (x.1, d) else x).1 = x.1
      split <;> rfl
    rw [this]; exact n
  · rw [if_neg h, List.map_append]
    refine List.nodup_append.mpr ⟨n, by simp, fun a ha b hb e => ?_⟩
    have hb' : b = k := by simpa using hb
    subst hb' e
    obtain ⟨x, hx, hxe⟩ := List.mem_map.mp ha
    refine h ?_
    unfold dval
    rw [Option.isSome_map, List.find?_isSome]
    exact ⟨x, hx, by simpa using hxe⟩
theorem kst_key {b : Addr} {v : V} {xs : List EnV} (hk : ∀ x ∈ xs, KeyAt K Z x) (hd : k.depth ≤ 8) (hb : Dx K Z (.ref b) k.data) : ∀ x ∈ kst xs k b v, KeyAt K Z x := fun x hx => by
  unfold kst at hx
  split at hx
  · obtain ⟨y, hy, rfl⟩ := List.mem_map.mp hx
    have := hk y hy
    by_cases q : y.1 = k
    · rw [if_pos q]; exact this
    · rw [if_neg q]; exact this
  · rcases List.mem_append.mp hx with h | h
    · exact hk x h
    · rw [List.mem_singleton.mp h]; exact ⟨hd, hb⟩
theorem dput_len {kvs : Kvs} {d : PyData} : (dput kvs k d).length ≤ kvs.length + 1 := by
  unfold dput
  split <;> simp
end
section
variable {X : Cx} {C : Ct}
theorem slot_dc {K : PySem.W.Frag} {pf : List (V × PyData)} {σ : L2.St} {H : Hp} {env : En} {feet : List (List Addr)} {ex : List Addr} {i : Nat} {w : World} {kvs : Kvs} (W : Wf K C pf σ H env feet ex) (h : env[i]? = some (.ow (.dc w kvs))) :
    ∃ p xs, σ[i]? = some (some (.ref p)) ∧ feet[i]? = some [p] ∧ H p = some (.ext (kdP w p xs)) ∧ xs.map (·.1) = kvs.map (·.1) ∧ (kvs.map (·.1)).Nodup ∧ (∀ x ∈ xs, KeyAt K (hid H (feet.flatten ++ ex)) x) ∧ DxAll K (hid H (feet.flatten ++ ex)) (xs.map (·.2.2)) (kvs.map (·.2)) := by
  have i1 : i < env.length := (List.getElem?_eq_some_iff.mp h).1
  have i2 : i < σ.length := by rw [W.rel.l1]; exact i1
  have i3 : i < feet.length := by rw [W.rel.l2]; exact i1
  obtain ⟨p, e1, hf, xs, a, b, c, d, e⟩ := W.rel.sl i _ _ _ (List.getElem?_eq_getElem i2) h (List.getElem?_eq_getElem i3)
  exact ⟨p, xs, by rw [List.getElem?_eq_getElem i2, e1], by rw [List.getElem?_eq_getElem i3, hf], a, b, c, d, e⟩
/-- {} -/
def eDNew (w : World) : RE := fun env Q EX => Q (.nw (.dc w [])) env
theorem se_dnew {pos : Pos} : SE X C (.Dict [] [] pos) (eDNew X.w) := .mk fun σ H pf env feet Q EX W tk q pins s I => by
  have hn : H s.heap.objs.size = none := I.hok.fresh (Nat.le_refl _)
  refine wpAny_Dict_empty ⟨.ref s.heap.objs.size, _, I.laid (a := s.heap.objs.size) (o := .ext (kdP X.w s.heap.objs.size [])) (t' := s.toks) (fun _ _ q => Heap.get?_push_of_some _ q) (Nat.le_refl _) (kdP_ok (kd_new I.big)), rfl, ?_⟩
  obtain ⟨W2, h2⟩ := W.pure (v := .ref s.heap.objs.size) (r := .nw (.dc X.w [])) (f := [s.heap.objs.size]) (same_new hn) ⟨by simpa using hn, by simp, _, rfl, rfl, [], upd_same, rfl, by simp, by simp, .nil⟩
  exact ⟨_, env, feet, _, W2, h2, q⟩
end
end L3
end

section
set_option Elab.async false
set_option linter.all false
set_option maxRecDepth 100000
set_option maxHeartbeats 1000000
set_option autoImplicit false
/-! L3 part u: dicts whose keys are tuples: what they are asked. -/
namespace L3
open PySem PySem.Spec PyProof.Rows L2
/-- d is a key that is a tuple -/
def KeyD (d : PyData) (k : NK) : Prop := k.depth ≤ 8 ∧ d = k.data ∧ ∃ ks, k = .tup ks
/-! below -/
def KdAt (K : PySem.W.Frag) (w : World) (H : Hp) (p : Addr) (xs : List EnV) : Prop := H p = some (.ext (kdP w p xs)) ∧ (∀ x ∈ xs, KeyAt K H x) ∧ (xs.map (·.1)).Nodup
def tKGet (K : PySem.W.Frag) (w : World) (td ty : TE) : TE := fun σ H Q => td σ H fun x H1 => ty σ H1 fun y H2 => ∃ p b xs k a v, x = .ref p ∧ y = .ref b ∧ KdAt K w H2 p xs ∧ k.depth ≤ 8 ∧ Dx K H2 (.ref b) (NestedKey.data k) ∧ kat xs k = some (a, v) ∧ Q v H2
def rKIn (K : PySem.W.Frag) (w : World) (neg : Bool) : R2 := fun y x H Q => ∃ p b xs k, x = .ref p ∧ y = .ref b ∧ KdAt K w H p xs ∧ k.depth ≤ 8 ∧ Dx K H (.ref b) (NestedKey.data k) ∧ Q (.bl (if neg then !(kat xs k).isSome else (kat xs k).isSome)) H
def rKLen (K : PySem.W.Frag) (w : World) : List V → Hp → VK → Prop := fun vs H Q => ∃ p xs, vs = [.ref p] ∧ KdAt K w H p xs ∧ Q (.int (xs.length : Nat)) H
def rKSet (K : PySem.W.Frag) (w : World) : V → V → V → Hp → (Hp → Prop) → Prop := fun o i v H Q => ∃ p b xs k, o = .ref p ∧ i = .ref b ∧ KdAt K w H p xs ∧ k.depth ≤ 8 ∧ Dx K H (.ref b) (NestedKey.data k) ∧ (kst xs k b v).length ≤ sizeLine ∧ Q (upd H p (.ext (kdP w p (kst xs k b v))))
def tKDef (K : PySem.W.Frag) (w : World) (td ty tx : TE) : TE := fun σ H Q => td σ H fun x H1 => ∃ p xs1, x = .ref p ∧ KdAt K w H1 p xs1 ∧ ty σ H1 fun y H2 => tx σ H2 fun z H3 => ∃ b xs k, y = .ref b ∧ KdAt K w H3 p xs ∧ k.depth ≤ 8 ∧ Dx K H3 (.ref b) (NestedKey.data k) ∧ (kst xs k b z).length ≤ sizeLine ∧
  (∀ a v, kat xs k = some (a, v) → Q v H3) ∧ (kat xs k = none → Q z (upd H3 p (.ext (kdP w p (kst xs k b z)))))
section
variable {X : Cx} {o i e f : Expr} {td ty tx : TE} {pos apos cpos : Pos}
theorem pe_kget (hu : X.A.units + 9 < cLine) (ho : PE X o td) (hi : PE X i ty) (hs : NoSl i) : PE X (.Subscript o i pos) (tKGet X.K X.w td ty) := by
  refine ⟨fun pins s σ H Q I h => ?_⟩
  refine subD_of PySem.F.slot_dict_getitem.lookup hs (thn (ho.run pins s σ H _ I h) fun u s1 ⟨x, H1, I1, rx, q1⟩ => thn (hi.run pins s1 σ H1 _ I1 q1) fun iv s2 ⟨y, H2, I2, ry, p, b, xs, k, a, v, ex, ey, ⟨k1, k2, k3⟩, hd, hb, hv, q2⟩ => ?_)
  subst ex ey
  obtain rfl : u = Value.ref p := rx
  obtain rfl : iv = Value.ref b := ry
  obtain ⟨_, ys, _, d, _⟩ := kd_at I2 k1 k2 k3
  exact ⟨d.typeIs, kd_get hu I2 k1 k2 k3 hd hb hv fun w' s3 I3 rw' => ⟨v, H2, I3, rw', q2⟩⟩
theorem op_kin (hu : X.A.units + 9 < cLine) : OpR X (compareOp .In) (rKIn X.K X.w false) := by
  intro pins s σ H y x v u Q I ry rx h
  obtain ⟨p, b, xs, k, rfl, rfl, ⟨k1, k2, k3⟩, hd, hb, q⟩ := h
  cases rx
  cases ry
  exact kd_in hu I k1 k2 k3 hd hb fun s' I' => ⟨.bl _, H, I', rfl, q⟩
theorem op_knin (hu : X.A.units + 9 < cLine) : OpR X (compareOp .NotIn) (rKIn X.K X.w true) := by
  intro pins s σ H y x v u Q I ry rx h
  obtain ⟨p, b, xs, k, rfl, rfl, ⟨k1, k2, k3⟩, hd, hb, q⟩ := h
  cases rx
  cases ry
  obtain ⟨h1, ys, c, d, e⟩ := kd_at I k1 k2 k3
  show wpAny _ _ (do return Value.bool (!(← contains (Value.ref p) (Value.ref b))) : Sem Value) _ _ _
  refine wpAny_bind (wpAny_contains_heap (knd := nestedKind X.prog X.w) (show X.A.units + 1 + 8 < cLine by omega) (Inv.key I hd hb) h1 d (wpAny_pure ?_))
  have : (atKey ys k).isSome = (kat xs k).isSome := by
    rcases kat_rel (k := k) c with ⟨e1, e2⟩ | ⟨_, _, _, e1, e2, _⟩ <;> rw [e1, e2] <;> rfl
  rw [this]
  exact ⟨.bl _, H, I.tok _, rfl, q⟩
theorem call_klen : CallR X (.builtin "len") (rKLen X.K X.w) := by
  intro pins s σ H vs us Q I r h
  obtain ⟨p, xs, rfl, ⟨k1, k2, k3⟩, q⟩ := h
  obtain ⟨u, rfl, rx⟩ := vals1 r
  cases rx
  exact kd_len I k1 k2 k3 fun s' t I' => ⟨.int _, H, I', ⟨t, rfl⟩, q⟩
theorem set_kd (hu : X.A.units + 9 < cLine) : PSet X (rKSet X.K X.w) := by
  intro pins s σ H o i v ov iv u Q I ro ri rv h
  obtain ⟨p, b, xs, k, rfl, rfl, ⟨k1, k2, k3⟩, hd, hb, hz, q⟩ := h
  cases ro
  cases ri
  exact kd_set hu I k1 k2 k3 hd hb rv hz fun s' I' => ⟨_, I', q⟩
theorem pe_kdef (hu : X.A.units + 9 < cLine) (ho : PE X o td) (he : PE X e ty) (hf : PE X f tx) (m : M2 X o "setdefault" apos e f cpos) : PE X (.Call (.Attribute o "setdefault" apos) [e, f] [] cpos) (tKDef X.K X.w td ty tx) := by
  refine ⟨fun pins s σ H Q I h => ?_⟩
  refine wpAny_Call_method m.base m.few m.line PySem.F.plainAttrs_dict PySem.F.slot_dict_setdefault PySem.F.type_dict_setdefault (thn (ho.run pins s σ H _ I h) fun u s1 ⟨x, H1, I1, rx, p, xs1, ex, ⟨k1, k2, k3⟩, q1⟩ => ?_)
  subst ex
  obtain rfl : u = Value.ref p := rx
  obtain ⟨_, ys, _, d, _⟩ := kd_at I1 k1 k2 k3
  refine ⟨d.typeIs, fun b q => ?_, ?_⟩
  · cases q
    obtain ⟨o, _, _, h1, h2, _⟩ := d
    exact ⟨o, h1, h2.2.1⟩
  rw [m.trees]
  refine Calls.callWith_builtin rfl (Calls.evalArgs_plain (Calls.spliced_cons (thn (he.run pins s1 σ H1 _ I1 q1) fun iv s2 ⟨y, H2, I2, ry, q2⟩ =>
    Calls.spliced_cons (thn (hf.run pins s2 σ H2 _ I2 q2) fun fv s3 ⟨z, H3, I3, rz, b, xs, k, ey, ⟨k1, k2, k3⟩, hd, hb, hz, q3, q4⟩ => Calls.spliced_nil ?_))))
  subst ey
  obtain rfl : iv = Value.ref b := ry
  exact kd_setdefault hu I3 k1 k2 k3 hd hb rz hz (fun a v0 h0 w s' I' r => ⟨v0, H3, I', r, q3 a v0 h0⟩) fun h0 s' I' => ⟨z, _, I', rz, q4 h0⟩
end
section
variable {X : Cx} {C : Ct} {e : Expr} {t : RE} {x : Str} {px pos apos : Pos}
theorem key_ref {K : PySem.W.Frag} {H : Hp} {v : V} {d : PyData} {k : NK} (h : Dx K H v d) (hk : KeyD d k) : ∃ b, v = .ref b ∧ Dx K H (.ref b) k.data := by
  obtain ⟨_, rfl, ks, rfl⟩ := hk
  have h' : Dx K H v (.tuple (NestedKey.datas ks)) := h
  cases h' with
  | tup hs ha => exact ⟨_, rfl, .tup hs ha⟩
theorem keys_le {K : PySem.W.Frag} {H : Hp} {F : List Addr} {xs : List EnV} (h : ∀ x ∈ xs, KeyAt K (hid H F) x) : ∀ x ∈ xs, KeyAt K H x := fun x hx => ⟨(h x hx).1, dx_mono hid_le (h x hx).2⟩
/-- name[e] -/
def eDGet (w : World) (i : Nat) (t : RE) : RE := fun env Q EX => (∃ kvs, env[i]? = some (.ow (.dc w kvs))) ∧ vl t env (fun d e => ∃ kvs k v, e[i]? = some (.ow (.dc w kvs)) ∧ KeyD d k ∧ dval kvs k = some v ∧ Q (.fz v) e) EX
theorem se_dget (i : Nat) (hu : X.A.units + 9 < cLine) (he : SE X C e t) (hs : NoSl e := by exact fun _ _ => rfl) (hN : X.N[i]? = some x := by rfl) (hv : Vis X.env.scope x := by first | exact Or.inl rfl | exact Or.inr (Or.inl rfl) | exact Or.inr (Or.inr rfl)) (hd : (x == ("__debug__" : Str)) = false := by decide)
    (hcd : (x == ("__classdict__" : Str)) = false := by decide) : SE X C (.Subscript (.Name x px) e pos) (eDGet X.w i t) := .mk fun σ H pf env feet Q EX W tk q => by
  obtain ⟨⟨kvs0, h0⟩, q⟩ := q
  obtain ⟨p, xs0, g1, _⟩ := slot_dc W h0
  refine eW.of (pe_kget hu (pe_var hN hv hd hcd) eW.pe hs) ⟨_, g1, ?_⟩
  refine (he.v σ H pf env feet _ EX W tk q).imp fun y H1 ⟨d, e1, f1, W1, h1, kvs, k, v, h2, hk, hv', q1⟩ => ?_
  obtain ⟨p', xs, a1, a2, a3, a4, a5, a6, a7⟩ := slot_dc W1 h2
  rw [g1] at a1
  cases a1
  obtain ⟨b, rfl, hb⟩ := key_ref h1 hk
  rcases kat_dv (k := k) a4 a7 with ⟨z1, z2⟩ | ⟨a, v0, d0, z1, z2, z3⟩
  · rw [hv'] at z2; cases z2
  · rw [hv'] at z2; cases z2
    exact ⟨p, b, xs, k, a, v0, rfl, rfl, ⟨a3, keys_le a6, by rw [a4]; exact a5⟩, hk.1, dx_mono hid_le hb, z1, .fz _, e1, f1, [], W1, ⟨rfl, z3⟩, q1⟩
/-- e in name, e not in name -/
def eDIn (w : World) (neg : Bool) (i : Nat) (t : RE) : RE := fun env Q EX => vl t env (fun d e => ∃ kvs k, e[i]? = some (.ow (.dc w kvs)) ∧ KeyD d k ∧ Q (fzB (if neg then !(dval kvs k).isSome else (dval kvs k).isSome)) e) EX
theorem kin_core {neg : Bool} {i : Nat} (he : SE X C e t) {σ : L2.St} {H : Hp} {pf : List (V × PyData)} {env : En} {feet : List (List Addr)} {Q : Rs → En → Prop} {EX : KX} (W : Wf X.K C pf σ H env feet []) (tk : Tk X C pf EX) (q : eDIn X.w neg i t env Q EX) {R : VK} (k : ∀ v H', Po X.K C pf σ Q v H' → R v H') :
    tOp (rKIn X.K X.w neg) (eW X e) (tVar i) σ H R := by
  refine (he.v σ H pf env feet _ EX W tk q).imp fun y H1 ⟨d, e1, f1, W1, h1, kvs, k0, h2, hk, q1⟩ => ?_
  obtain ⟨p, xs, a1, a2, a3, a4, a5, a6, a7⟩ := slot_dc W1 h2
  obtain ⟨b, rfl, hb⟩ := key_ref h1 hk
  refine ⟨_, a1, p, b, xs, k0, rfl, rfl, ⟨a3, keys_le a6, by rw [a4]; exact a5⟩, hk.1, dx_mono hid_le hb, k _ _ ?_⟩
  have : (kat xs k0).isSome = (dval kvs k0).isSome := by
    rcases kat_dv (k := k0) a4 a7 with ⟨z1, z2⟩ | ⟨_, _, _, z1, z2, _⟩ <;> rw [z1, z2] <;> rfl
  rw [this]
  exact ⟨fzB _, e1, f1, [], W1, ⟨rfl, .bl _⟩, q1⟩
theorem st_din (i : Nat) (hu : X.A.units + 9 < cLine) (he : SE X C e t) (hm : behindInMarks .In (.Name x px) = false) (hN : X.N[i]? = some x := by rfl) (hv : Vis X.env.scope x := by first | exact Or.inl rfl | exact Or.inr (Or.inl rfl) | exact Or.inr (Or.inr rfl)) (hd : (x == ("__debug__" : Str)) = false := by decide)
    (hcd : (x == ("__classdict__" : Str)) = false := by decide) : STs X C (.Compare e [.In] [.Name x px] pos) (cV (eDIn X.w false i t)) := .mk fun σ H pf env feet Q EX W tk q => by
  have q' : eDIn X.w false i t env (fun r e => match r with
    | .fz d => ∃ b, d = .bool b ∧ Q b e
    | .nw (.ls ds) => ∃ b, PyData.list ds = .bool b ∧ Q b e
    | .br i => (match e[i]? with
      | some (.ow (.ls ds)) => ∃ b, PyData.list ds = .bool b ∧ Q b (e.set i (.fz (.list ds)))
      | _ => False)
    | _ => False) EX := q
  refine tW.of (pt_cmpR (op_kin hu) eW.pe (pe_var hN hv hd hcd) hm) (kin_core he W tk q' fun v H' hq => ?_)
  exact pv_bool hq
theorem st_dnin (i : Nat) (hu : X.A.units + 9 < cLine) (he : SE X C e t) (hm : behindInMarks .NotIn (.Name x px) = false) (hN : X.N[i]? = some x := by rfl) (hv : Vis X.env.scope x := by first | exact Or.inl rfl | exact Or.inr (Or.inl rfl) | exact Or.inr (Or.inr rfl)) (hd : (x == ("__debug__" : Str)) = false := by decide)
    (hcd : (x == ("__classdict__" : Str)) = false := by decide) : STs X C (.Compare e [.NotIn] [.Name x px] pos) (cV (eDIn X.w true i t)) := .mk fun σ H pf env feet Q EX W tk q => by
  have q' : eDIn X.w true i t env (fun r e => match r with
    | .fz d => ∃ b, d = .bool b ∧ Q b e
    | .nw (.ls ds) => ∃ b, PyData.list ds = .bool b ∧ Q b e
    | .br i => (match e[i]? with
      | some (.ow (.ls ds)) => ∃ b, PyData.list ds = .bool b ∧ Q b (e.set i (.fz (.list ds)))
      | _ => False)
    | _ => False) EX := q
  refine tW.of (pt_cmpR (op_knin hu) eW.pe (pe_var hN hv hd hcd) hm) (kin_core he W tk q' fun v H' hq => ?_)
  exact pv_bool hq
/-- len(name) -/
def eDLen (w : World) (i : Nat) : RE := fun env Q EX => ∃ kvs, env[i]? = some (.ow (.dc w kvs)) ∧ Q (fzI (kvs.length : Nat)) env
theorem se_dlen (i : Nat) {p3 : Pos} (hg : Gl X "len") (hm : X.mg "len" = none) (hN : X.N[i]? = some x := by rfl) (hv : Vis X.env.scope x := by first | exact Or.inl rfl | exact Or.inr (Or.inl rfl) | exact Or.inr (Or.inr rfl)) (hd : (x == ("__debug__" : Str)) = false := by decide)
    (hcd : (x == ("__classdict__" : Str)) = false := by decide) : SE X C (.Call (.Name "len" p3) [.Name x px] [] pos) (eDLen X.w i) := .mk fun σ H pf env feet Q EX W tk q => by
  obtain ⟨kvs, h0, q⟩ := q
  obtain ⟨p, xs, a1, a2, a3, a4, a5, a6, a7⟩ := slot_dc W h0
  refine eW.of (pe_callB call_klen hg hm boot_len (pa_cons (pe_var hN hv hd hcd) pa_nil)) ⟨_, a1, p, xs, rfl, ⟨a3, keys_le a6, by rw [a4]; exact a5⟩, ?_⟩
  have : xs.length = kvs.length := by
    have := congrArg List.length a4
    simpa using this
  rw [this]
  exact ⟨fzI _, env, feet, [], W, ⟨rfl, .int _⟩, q⟩
/-- name[e] = v -/
def gDSet (w : World) (i : Nat) (t : RE) : RG := fun d env Q EX => (∃ kvs, env[i]? = some (.ow (.dc w kvs))) ∧ vl t env (fun y e => ∃ kvs k, e[i]? = some (.ow (.dc w kvs)) ∧ KeyD y k ∧ kvs.length < sizeLine ∧ Q (e.set i (.ow (.dc w (dput kvs k d))))) EX
theorem len_of_keys {xs : List EnV} {kvs : Kvs} (h : xs.map (·.1) = kvs.map (·.1)) : xs.length = kvs.length := by
  have := congrArg List.length h
  simpa using this
theorem kd_turn {K : PySem.W.Frag} {pf : List (V × PyData)} {σ : L2.St} {H : Hp} {env : En} {feet : List (List Addr)} {i : Nat} {w : World} {kvs : Kvs} {p b : Addr} {xs : List EnV} {v : V} {d : PyData} {k : NK} (W : Wf K C pf σ H env feet []) (h1 : σ[i]? = some (some (.ref p))) (h2 : feet[i]? = some [p])
    (e : xs.map (·.1) = kvs.map (·.1)) (nd : (kvs.map (·.1)).Nodup) (hk : ∀ x ∈ xs, KeyAt K (hid H (feet.flatten ++ [])) x) (hv : DxAll K (hid H (feet.flatten ++ [])) (xs.map (·.2.2)) (kvs.map (·.2))) (hd : k.depth ≤ 8) (hb : Dx K (hid H (feet.flatten ++ [])) (.ref b) k.data) (hx : Dx K (hid H (feet.flatten ++ [])) v d) :
    Wf K C pf σ (upd H p (.ext (kdP w p (kst xs k b v)))) (env.set i (.ow (.dc w (dput kvs k d)))) feet [] := by
  obtain ⟨q1, q2⟩ := kst_dv (k := k) (b := b) hx e hv
  exact W.turn (H' := upd H p _) (o := .dc w kvs) (o' := .dc w (dput kvs k d)) h1 h2 (fun a ha => upd_ne (by simpa using ha)) ⟨rfl, kst xs k b v, upd_same, q2, dput_nodup nd, kst_key hk hd hb, q1⟩
theorem sg_dset (i : Nat) (hu : X.A.units + 9 < cLine) (he : SE X C e t) (hN : X.N[i]? = some x := by rfl) (hv : Vis X.env.scope x := by first | exact Or.inl rfl | exact Or.inr (Or.inl rfl) | exact Or.inr (Or.inr rfl)) (hd : (x == ("__debug__" : Str)) = false := by decide) (hcd : (x == ("__classdict__" : Str)) = false := by decide)
    (ha : ∀ v, assign (.Subscript (.Name x px) e pos) X.env v = (do
      let ov ← holding [v] (eval (.Name x px) X.env)
      let iv ← holding [v, ov] (eval e X.env)
      standAt pos
      holding [v, ov, iv] (setItem ov iv v)
      release [v, ov, iv] []) := by intro _; rfl) : SG X C (.Subscript (.Name x px) e pos) (gDSet X.w i t) := .mk fun σ H pf env feet v d Q EX W tk hdv q pins s u I r => by
  obtain ⟨⟨kvs0, h0⟩, q⟩ := q
  obtain ⟨p, xs0, g1, _⟩ := slot_dc W h0
  refine (pg_sub (pe_var hN hv hd hcd) eW.pe (set_kd hu) ha).run pins s σ H v u _ I r ⟨.ref p, g1, ?_⟩
  refine (he.v σ H ((v, d) :: pf) env feet _ EX (W.pinned hdv) tk.add q).imp fun y H1 ⟨dy, e1, f1, W1, hy, kvs, k, h2, hk, hz, q1⟩ => ?_
  obtain ⟨p', xs, a1, a2, a3, a4, a5, a6, a7⟩ := slot_dc W1 h2
  rw [g1] at a1
  cases a1
  obtain ⟨b, rfl, hb⟩ := key_ref hy hk
  have hv1 : Dx X.K (hid H1 (f1.flatten ++ [])) v d := W1.pin (v, d) (by simp)
  have hl := len_of_keys (kst_dv (k := k) (b := b) hv1 a4 a7).2
  have := dput_len (k := k) (kvs := kvs) (d := d)
  refine ⟨p, b, xs, k, rfl, rfl, ⟨a3, keys_le a6, by rw [a4]; exact a5⟩, hk.1, dx_mono hid_le hb, by omega, _, f1, ?_, q1⟩
  exact kd_turn (W1.unpin (pf' := pf) fun p hp => List.mem_cons_of_mem _ hp) g1 a2 a4 a5 a6 a7 hk.1 hb hv1
/-- name.setdefault(e, f) -/
def eDDef (w : World) (i : Nat) (t u : RE) : RE := fun env Q EX => (∃ kvs, env[i]? = some (.ow (.dc w kvs))) ∧ vl t env (fun y e => vl u e (fun z e2 => ∃ kvs k, e2[i]? = some (.ow (.dc w kvs)) ∧ KeyD y k ∧ kvs.length < sizeLine ∧
  (∀ v, dval kvs k = some v → Q (.fz v) e2) ∧ (dval kvs k = none → Q (.fz z) (e2.set i (.ow (.dc w (dput kvs k z)))))) EX) EX
theorem se_ddef {f : Expr} {u : RE} (i : Nat) (hu : X.A.units + 9 < cLine) (he : SE X C e t) (hf : SE X C f u) (m : M2 X (.Name x px) "setdefault" apos e f pos) (hN : X.N[i]? = some x := by rfl) (hv : Vis X.env.scope x := by first | exact Or.inl rfl | exact Or.inr (Or.inl rfl) | exact Or.inr (Or.inr rfl))
    (hd : (x == ("__debug__" : Str)) = false := by decide) (hcd : (x == ("__classdict__" : Str)) = false := by decide) : SE X C (.Call (.Attribute (.Name x px) "setdefault" apos) [e, f] [] pos) (eDDef X.w i t u) := .mk fun σ H pf env feet Q EX W tk q => by
  obtain ⟨⟨kvs0, h0⟩, q⟩ := q
  obtain ⟨p, xs0, g1, g2, g3, g4, g5, g6, g7⟩ := slot_dc W h0
  refine eW.of (pe_kdef hu (pe_var hN hv hd hcd) eW.pe eW.pe m) ⟨_, g1, p, xs0, rfl, ⟨g3, keys_le g6, by rw [g4]; exact g5⟩, ?_⟩
  refine (he.v σ H pf env feet _ EX W tk q).imp fun y H1 ⟨dy, e1, f1, W1, hy, q1⟩ => ?_
  refine (hf.v σ H1 ((y, dy) :: pf) e1 f1 _ EX (W1.pinned hy) tk.add q1).imp fun z H2 ⟨dz, e2, f2, W2, hz, kvs, k, h2, hk, hln, q2, q3⟩ => ?_
  obtain ⟨p', xs, a1, a2, a3, a4, a5, a6, a7⟩ := slot_dc W2 h2
  rw [g1] at a1
  cases a1
  obtain ⟨b, rfl, hb⟩ := key_ref (W2.pin (y, dy) (by simp)) hk
  have hl := len_of_keys (kst_dv (k := k) (b := b) hz a4 a7).2
  have := dput_len (k := k) (kvs := kvs) (d := dz)
  have W3 := W2.unpin (pf' := pf) fun p hp => List.mem_cons_of_mem _ hp
  refine ⟨b, xs, k, rfl, ⟨a3, keys_le a6, by rw [a4]; exact a5⟩, hk.1, dx_mono hid_le hb, by omega, fun a v0 hv0 => ?_, fun hn => ?_⟩
  · rcases kat_dv (k := k) a4 a7 with ⟨z1, z2⟩ | ⟨a', v', d', z1, z2, z3⟩
    · rw [hv0] at z1; cases z1
    · rw [hv0] at z1; cases z1
      exact ⟨.fz d', e2, f2, [], W3, ⟨rfl, z3⟩, q2 _ z2⟩
  · rcases kat_dv (k := k) a4 a7 with ⟨z1, z2⟩ | ⟨a', v', d', z1, z2, z3⟩
    · have W4 := kd_turn (w := X.w) W3 g1 a2 a4 a5 a6 a7 hk.1 hb hz
      have pin : p ∈ f2.flatten ++ [] := List.mem_append_left _ (List.mem_flatten.mpr ⟨_, List.mem_of_getElem? a2, by simp⟩)
      exact ⟨.fz dz, _, f2, [], W4, ⟨rfl, by rw [hid_upd_mem pin]; exact hz⟩, q3 z2⟩
    · rw [hn] at z1; cases z1
end
end L3
end

section
set_option Elab.async false
set_option linter.all false
set_option maxRecDepth 100000
set_option maxHeartbeats 1000000
set_option autoImplicit false
/-! L3 part v: enumerate over a tuple. -/
namespace L3
open PySem PySem.Spec PyProof.Rows L2
open Sem (wp)
theorem meets_enumB1 {v : Value} {o : Obj} {H : Heap → Prop} (B : Begins v o H) :
    Meets (Builtin.«enumerate.__new__» ⟨[.type "enumerate", v], []⟩) (fun _ R s => H s.heap ∧
      R (.ok (.ret (.ref (s.heap.push o).objs.size))) { s with heap := (s.heap.push o).push { cls := .type "enumerate", data := .fields #[.none, .bool false, .ref s.heap.objs.size, rawInt 0, .none, .none] } }) :=
  .of_wp fun prog w A R s h => by
    obtain ⟨hp, g, d, tk, os⟩ := s; obtain ⟨h1, h⟩ := h
    have hsub := sub_enumerate
    have q1 : ∀ {A' : Around} {E : Value → Shared → Prop} {Q : Value → Shared → Prop}, Q (.ref hp.objs.size) ⟨hp.push o, g, d, tk, os⟩ → wpAny (model prog w) A' (pyIter v) Q E ⟨hp, g, d, tk, os⟩ :=
      fun q => B.iter prog w _ _ ⟨hp, g, d, tk, os⟩ _ h1 q
    wp_walk using q1
    refine wpAny_stack_any fun st => wpAny_pure ?_
    split
    · rename_i c _ _ _ _ _
      cases (c == Value.type "enumerate")
      · wp_walk using q1
        exact ⟨_, rfl, h⟩
      · wp_walk using q1
        exact ⟨_, rfl, h⟩
    · wp_walk using q1
      exact ⟨_, rfl, h⟩
section
variable {prog : Program} {w : World} {A : Around} {E : Value → Shared → Prop} {s : Shared}
theorem call_enumB1 {v : Value} {o : Obj} {H : Heap → Prop} {Q : Value → Shared → Prop} (B : Begins v o H) (h1 : H s.heap)
    (h : ∀ h', IsEnum h' (s.heap.objs.size + 1) s.heap.objs.size 0 .none → h'.get? s.heap.objs.size = some o → h'.objs.size = s.heap.objs.size + 2 →
      (∀ b o, s.heap.get? b = some o → h'.get? b = some o) → Q (.ref (s.heap.objs.size + 1)) { s with heap := h' }) :
    wpAny (model prog w) A (call (.type "enumerate") [v]) Q E s := by
  refine callType_new F.called_enumerate (by decide) (F.typeCall_enumerate_1 _) (F.newCall_enumerate_1 _) (fun obj => F.args_object_init_2 obj _) F.entry_enumerate_new
    (meets_enumB1 B) ⟨h1, ?_⟩
  have hz : (s.heap.push o).objs.size = s.heap.objs.size + 1 := Heap.size_push ..
  show _ ∧ _
  rw [hz]
  have he : IsEnum ((s.heap.push o).push { cls := .type "enumerate", data := .fields #[.none, .bool false, .ref s.heap.objs.size, rawInt 0, .none, .none] }) (s.heap.objs.size + 1) s.heap.objs.size 0 .none := by
    have := Heap.get?_push_size (s.heap.push o) (o := { cls := .type "enumerate", data := .fields #[.none, .bool false, .ref s.heap.objs.size, rawInt 0, .none, .none] }) rfl
    rw [hz] at this; exact this
  refine ⟨⟨_, he, rfl⟩, h _ he (Heap.get?_push_of_some _ (Heap.get?_push_size _ B.free)) (by rw [Heap.size_push, hz]) fun b o x => Heap.get?_push_of_some _ (Heap.get?_push_of_some _ x)⟩
end
/-- the tuple at a, its items in new pairs -/
def Iet (K : PySem.W.Frag) (a : Addr) : It :=
  ⟨fun i H => ∃ xs x, SqT K H a xs ∧ xs[i]? = some x, fun i H v H' => ∃ T x, v = .ref T ∧ H T = none ∧ H' = upd H T (.tup [.int (i : Nat), x]) ∧ ∀ xs, SqT K H a xs → xs[i]? = some x,
    fun i H => ∃ xs : List V, SqT K H a xs ∧ xs.length ≤ i⟩
theorem turn_enumT {P : Program} {w : World} {K : PySem.W.Frag} {elts : List Expr} {kk : Nat} {tpos : Pos} (a e it : Addr) (hea : e ≠ a) (hia : a ≠ it) :
    Turn P w K (.Tuple elts kk tpos) (Iet K a) [e, it] e (fun i h => (∃ old, IsEnum h e it ((i : Nat) : Int) old) ∧ h.IsTupleIter it a i ∧ e ≠ it) where
  mem := by simp
  obj := fun i h st b hb => by
    obtain ⟨⟨old, he⟩, ⟨o, ho, hc, hd⟩, _⟩ := st
    have e' : b = e ∨ b = it := by simpa using hb
    rcases e' with z | z
    · rw [z]; exact ⟨_, he, fun v q => nomatch q⟩
    · rw [z]; exact ⟨o, ho, fun v q => by rw [hd] at q; cases q⟩
  keep := fun i h h' st k => let ⟨⟨old, he⟩, hi, hne⟩ := st; ⟨⟨old, k e (by simp) _ he⟩, hi.at fun o q => k it (by simp) o q, hne⟩
  item := by
    intro X hP hw hK hc i pins s σ H E I hf st hg
    subst hP hw hK
    obtain ⟨⟨old, he⟩, hit, hne⟩ := st
    obtain ⟨xs, x, hq, hx⟩ := hg
    obtain ⟨its, rv, p, hz⟩ := I.tuple hq
    obtain ⟨u, hu, ru⟩ := rv.get hx
    have hlt : i < its.length := (List.getElem?_eq_some_iff.mp hu).1
    have hel : e < s.heap.objs.size := Heap.lt_size he
    have hil : it < s.heap.objs.size := by obtain ⟨_, q, _⟩ := hit; exact Heap.lt_size q
    have D := Draws.tuple (prog := X.prog) (w := X.w) (A := X.A.in1) (I.ok.hd hc) it a hia its.toArray
    refine wpAny_pyNext_enum_itemC D he ⟨hit, p⟩ (by simpa using hlt) hne (by simp [hne, hea]) fun y h' tk hP ho hst' hT hsz hk => ?_
    have eu : y = u := by
      have : its[i]? = some y := by simpa using hP
      rw [hu] at this; cases this; rfl
    subst eu
    have hit' := hst'.1
    refine ⟨_, rfl, wpAny_letOwnedTupleGo_enum (s := { s with heap := h', toks := tk + 1 }) ho fun h'' he' sb => ?_⟩
    have hT2 : h''.get? s.heap.objs.size = some { cls := .type "tuple", data := .seq #[.int i tk, y] } := (sb.2 _ (Nat.ne_of_gt hel)).trans hT
    have new : ObjOk X.prog X.w (upd H s.heap.objs.size (.tup [.int (i : Nat), x])) h'' s.heap.objs.size (.tup [.int (i : Nat), x]) :=
      ⟨by show 2 ≤ sizeLine; decide, [.int i tk, y], .cons ⟨_, rfl⟩ (.cons ru .nil), ⟨_, hT2, rfl, _, rfl⟩⟩
    have I1 : Inv X pins σ (upd H s.heap.objs.size (.tup [.int (i : Nat), x])) { s with heap := h'', toks := tk + 1 } :=
      I.turnedNew (ch := [e, it]) (fun b ob hb q => (sb.2 b (fun z => hb (by simp [z]))).trans (hk b ob (fun z => hb (by simp [z])) (fun z => hb (by simp [z])) q)) hf (Nat.le_refl _) new
    refine ⟨.ref s.heap.objs.size, _, I1, rfl, ⟨_, x, rfl, I.hok.fresh (Nat.le_refl _), rfl, fun ys hy => by rw [I.tuple_inj hy hq]; exact hx⟩, ⟨⟨y, ?_⟩, hit'.at fun o q => (sb.2 it (Ne.symm hne)).trans q, hne⟩, fun b hb => ?_⟩
    · have e1 : ((i + 1 : Nat) : Int) = (i : Int) + 1 := by omega
      rw [e1]; exact he'
    · have hb' : b < s.heap.objs.size := by
        have e' : b = e ∨ b = it := by simpa using hb
        rcases e' with z | z
        · rw [z]; exact hel
        · rw [z]; exact hil
      rw [upd_ne (Nat.ne_of_lt hb')]
      exact (hf b hb).1
  done := by
    intro X hP hw hK hc i pins s σ H E I hf st hg
    subst hP hw hK
    obtain ⟨⟨old, he⟩, hit, hne⟩ := st
    obtain ⟨xs, hq, hx⟩ := hg
    obtain ⟨its, rv, p, hz⟩ := I.tuple hq
    obtain ⟨f0, f1, f2, f3, f4, f5⟩ := hf it (by simp)
    have hl := rv.length
    have D : Draws X.prog X.w X.A.in1 it [it, a] 0 (fun _ _ => False) (fun _ h => h.IsTupleIter it a i ∧ h.IsTuple a its.toArray) := {
      live := fun _ _ st => let ⟨o, ho, _⟩ := st.1; ⟨o, ho⟩
      frame := fun _ _ _ st hk => ⟨st.1.at fun o e => hk it (by simp) o e, st.2.at fun o e => hk a (by simp) o e⟩
      item := fun i s Q E hi st hQ => absurd hi (Nat.not_lt_zero _)
      done := fun s Q E st hE => wpAny_nextOf_tuple_end (I.ok.hd hc) st.1 st.2 (by simp; omega) hE }
    exact wpAny_pyNext_enum_endD D he ⟨hit, p⟩ fun h' eb => ⟨rfl, I.turned (t' := s.toks) (fun b o hb q => eb b o hb q) f0 f1 f3 f4 f5⟩
  self := fun A i s Q E st h => let ⟨⟨_, he⟩, _⟩ := st; wpAny_pyIter_enum he h
def iEnumT (K : PySem.W.Frag) (ta : TA) : TI := fun σ H R => ta σ H fun vs H1 => ∃ a xs, vs = [.ref a] ∧ SqT K H1 a xs ∧ R (Iet K a) H1
theorem pi_enumT {X : Cx} {e : Expr} {ta : TA} {p pos tpos : Pos} {elts : List Expr} {kk : Nat} (hg : Gl X "enumerate") (hm : X.mg "enumerate" = none) (ha : PA X [e] ta) (hs : starEach [e] X.env = [(false, eval e X.env)] := by rfl) :
    PI X (.Tuple elts kk tpos) (.Call (.Name "enumerate" p) [e] [] pos) (iEnumT X.K ta) := by
  refine ⟨fun pins s σ H R I h => ?_⟩
  refine Call_ (ld_blt I hg hm boot_enumerate (PyProof.Rows.callWith_type1 (thn (ha.run pos pins s σ H _ I h) fun us s1 ⟨vs, H1, I1, r1, q1⟩ => ?_) hs rfl))
  obtain ⟨a, xs, ex, hq, q⟩ := q1
  subst ex
  cases r1 with
  | cons r rr =>
    cases rr
    cases r
    obtain ⟨its, rv, p', hz⟩ := I1.tuple hq
    have hal : a < s1.heap.objs.size := by obtain ⟨_, y, _⟩ := p'; exact Heap.lt_size y
    refine call_enumB1 (begins_tuple a its.toArray) p' fun h' he hit hsz hk => wpAny_pyIter_enum he ?_
    have I2 : Inv X pins σ H1 { s1 with heap := h' } := I1.kept (t' := s1.toks) hk
    refine ⟨s1.heap.objs.size + 1, [s1.heap.objs.size + 1, s1.heap.objs.size], _, _, H1, rfl, I2, turn_enumT a (s1.heap.objs.size + 1) s1.heap.objs.size (Nat.ne_of_gt (Nat.lt_succ_of_lt hal)) (Nat.ne_of_lt hal), ⟨⟨.none, he⟩, ⟨_, hit, rfl, rfl⟩, Nat.succ_ne_self _⟩, fun b hb => ?_, q⟩
    have e' : b = s1.heap.objs.size + 1 ∨ b = s1.heap.objs.size := by simpa using hb
    have hle : s1.heap.objs.size ≤ b := by
      rcases e' with z | z
      · rw [z]; exact Nat.le_add_right _ _
      · rw [z]; exact Nat.le_refl _
    exact I1.fpOk hle (I1.hok.fresh hle)
section
variable {X : Cx} {C : Ct} {tg iter : Expr} {t : RE}
theorem itd_enumT {K : PySem.W.Frag} {a : Addr} {ds : List PyData} {pf : List (V × PyData)} (hm : (V.ref a, PyData.tuple ds) ∈ pf) : ItD X C pf (Iet X.K a) (enumD ds) where
  stop := fun σ H env feet H2 W sm => by
    cases W.pin _ hm with
    | tup h q => exact ⟨_, seqT_mono sm (seqT_mono hid_le h), by rw [q.lenD]; simp [enumD]⟩
  go := fun i σ H env feet H2 hi W sm => by
    cases W.pin _ hm with
    | tup h q =>
      have hi' : i < ds.length := by simpa [enumD] using hi
      obtain ⟨v, hv, _⟩ := q.atD (List.getElem?_eq_getElem hi')
      exact ⟨_, v, seqT_mono sm (seqT_mono hid_le h), hv⟩
  yld := fun i x σ H env feet H2 H' hi W sm y => by
    obtain ⟨T, z, rfl, hT, rfl, y⟩ := y
    cases W.pin _ hm with
    | tup h q =>
      have hi' : i < ds.length := by simpa [enumD] using hi
      obtain ⟨v, hv, hd⟩ := q.atD (List.getElem?_eq_getElem hi')
      have e := y _ (seqT_mono sm (seqT_mono hid_le h))
      rw [hv] at e
      cases e
      refine ⟨_, by simp [enumD, List.getElem?_eq_getElem hi'], .inr ⟨T, _, [.int (i : Nat), ds[i]], rfl, hT, rfl, .cons (.int _) (.cons hd .nil), rfl⟩⟩
def iEnmT (ta : RA) : RI := fun env Q EX => ta env (fun l e => ∃ ds, l = [.tuple ds] ∧ Q (enumD ds) e) EX
theorem si_enumT {a : Expr} {ta : RA} {elts : List Expr} {kk : Nat} {tpos p pos : Pos} (hg : Gl X "enumerate") (hm : X.mg "enumerate" = none) (h : SA X C [a] ta) (hs : starEach [a] X.env = [(false, eval a X.env)] := by rfl) : SI X C (.Tuple elts kk tpos) (.Call (.Name "enumerate" p) [a] [] pos) (iEnmT ta) := ⟨_, pi_enumT hg hm aW.pa hs, fun σ H pf env feet Q EX R W tk q k => by
  refine (h σ H pf env feet _ EX W tk q).imp fun vs H1 ⟨l, e1, f1, W1, h1, ds, hd, q1⟩ => ?_
  subst hd
  cases h1 with
  | cons h1 h2 =>
    cases h2
    cases h1 with
    | @tup a xs _ hs ha =>
      have W2 := W1.pinned (.tup hs ha)
      exact ⟨a, xs, rfl, seqT_mono hid_le hs, k _ _ ⟨_, e1, f1, _, W2, fun p hp => List.mem_cons_of_mem _ hp, itd_enumT (K := X.K) (by simp), q1⟩⟩⟩
end
end L3
end

section
set_option Elab.async false
set_option linter.all false
set_option maxRecDepth 100000
set_option maxHeartbeats 1000000
set_option autoImplicit false
/-! L3 part w: walks by sight: a list, a tuple, a text. -/
namespace L3
open PySem PySem.Spec PyProof.Rows L2
section
variable {X : Cx} {tg : Expr}
def iSqW (K : PySem.W.Frag) (tl : TE) : TI := fun σ H R => tl σ H fun x H1 => (∃ a, x = .ref a ∧ (∃ xs, SqL K H1 a xs) ∧ R (Itl K a) H1) ∨ (∃ a, x = .ref a ∧ (∃ xs, SqT K H1 a xs) ∧ R (Itt K a) H1) ∨ ∃ z, x = .str z ∧ R (Its z) H1
theorem pi_seq {l : Expr} {tl : TE} (hl : PE X l tl) : PI X tg l (iSqW X.K tl) := by
  refine ⟨fun pins s σ H R I h => ?_⟩
  refine thn (hl.run pins s σ H _ I h) fun v s1 ⟨x, H1, I1, r1, q1⟩ => ?_
  rcases q1 with ⟨a, e, ⟨xs, hq⟩, q⟩ | ⟨a, e, ⟨xs, hq⟩, q⟩ | ⟨z, e, q⟩
  · subst e
    cases r1
    obtain ⟨its, rv, p, hz⟩ := I1.list hq
    refine wpAny_pyIter_list p.isList ?_
    refine ⟨s1.heap.objs.size, [s1.heap.objs.size], _, _, H1, rfl, I1.kept (t' := s1.toks) fun b o e => Heap.get?_push_of_some _ e, turn_list a _, ⟨_, Heap.get?_push_size _ rfl, rfl, rfl⟩, fun b hb => ?_, q⟩
    have e : b = s1.heap.objs.size := by simpa using hb
    subst e
    exact I1.fpOk (Nat.le_refl _) (I1.hok.fresh (Nat.le_refl _))
  · subst e
    cases r1
    obtain ⟨its, rv, p, hz⟩ := I1.tuple hq
    refine wpAny_pyIter_tuple (show s1.heap.IsTuple a its.toArray from p) ?_
    refine ⟨s1.heap.objs.size, [s1.heap.objs.size], _, _, H1, rfl, I1.kept (t' := s1.toks) fun b o e => Heap.get?_push_of_some _ e, turn_tuple a _, ⟨_, Heap.get?_push_size _ rfl, rfl, rfl⟩, fun b hb => ?_, q⟩
    have e : b = s1.heap.objs.size := by simpa using hb
    subst e
    exact I1.fpOk (Nat.le_refl _) (I1.hok.fresh (Nat.le_refl _))
  · subst e
    obtain ⟨t, rfl⟩ := r1
    cases ha : z.cps.all (· < 128)
    · exact wpAny_pyIter_wide ha (pi_one (tk := s1.toks) I1 _ (turn_str _ z t "str_iterator" (.inr rfl)) ⟨_, Heap.get?_push_size _ rfl, rfl, rfl⟩ q)
    · exact wpAny_pyIter_ascii ha (pi_one (tk := s1.toks) I1 _ (turn_str _ z t "str_ascii_iterator" (.inl rfl)) ⟨_, Heap.get?_push_size _ rfl, rfl, rfl⟩ q)
end
section
variable {X : Cx} {C : Ct} {tg iter : Expr} {t : RE}
def signD (x : Str) : List PyData := x.cps.toList.map fun c => .str ⟨#[c]⟩
/-- the items of a list, a tuple, a text -/
def seqOf : PyData → Option (List PyData)
  | .list ds => some ds
  | .tuple ds => some ds
  | .str x => some (signD x)
  | _ => none
theorem itd_str {x : Str} {pf : List (V × PyData)} : ItD X C pf (Its x) (signD x) where
  stop := fun σ H env feet H2 W sm => by show x.cps.size ≤ _; simp [signD]
  go := fun i σ H env feet H2 hi W sm => by show i < x.cps.size; simpa [signD] using hi
  yld := fun i v σ H env feet H2 H' hi W sm y => by
    obtain ⟨rfl, c, hc, rfl⟩ := y
    refine ⟨.str ⟨#[c]⟩, ?_, .inl ⟨rfl, .str _⟩⟩
    have h2 : x.cps.toList[i]? = some c := by simpa using hc
    simp only [signD, List.getElem?_map, h2]
    rfl
def iSeq (t : RE) : RI := fun env Q EX => vl t env (fun d e => ∃ ds, seqOf d = some ds ∧ Q ds e) EX
theorem si_seq (h : SE X C iter t) : SI X C tg iter (iSeq t) := ⟨_, pi_seq eW.pe, fun σ H pf env feet Q EX R W tk q k => by
  refine (h.v σ H pf env feet _ EX W tk q).imp fun v H1 ⟨d, e1, f1, W1, h1, ds, hd, q1⟩ => ?_
  cases h1 with
  | @lst a xs _ hs ha =>
    cases hd
    have W2 := W1.pinned (.lst hs ha)
    exact .inl ⟨a, rfl, ⟨xs, hid_le.seq hs⟩, k _ _ ⟨ds, e1, f1, _, W2, fun p hp => List.mem_cons_of_mem _ hp, itd_list (K := X.K) (by simp), q1⟩⟩
  | @tup a xs _ hs ha =>
    cases hd
    have W2 := W1.pinned (.tup hs ha)
    exact .inr (.inl ⟨a, rfl, ⟨xs, seqT_mono hid_le hs⟩, k _ _ ⟨ds, e1, f1, _, W2, fun p hp => List.mem_cons_of_mem _ hp, itd_tup (K := X.K) (by simp), q1⟩⟩)
  | str x =>
    cases hd
    exact .inr (.inr ⟨x, rfl, k _ _ ⟨_, e1, f1, _, W1, fun p hp => hp, itd_str, q1⟩⟩)
  | _ => cases hd⟩
end
/-! ### enumerate by sight -/
def iEnW (K : PySem.W.Frag) (ta : TA) : TI := fun σ H R => ta σ H fun vs H1 => (∃ a xs, vs = [.ref a] ∧ SqL K H1 a xs ∧ R (Ite K a) H1) ∨ ∃ a xs, vs = [.ref a] ∧ SqT K H1 a xs ∧ R (Iet K a) H1
theorem pi_enumS {X : Cx} {e : Expr} {ta : TA} {p pos tpos : Pos} {elts : List Expr} {kk : Nat} (hg : Gl X "enumerate") (hm : X.mg "enumerate" = none) (ha : PA X [e] ta) (hs : starEach [e] X.env = [(false, eval e X.env)] := by rfl) :
    PI X (.Tuple elts kk tpos) (.Call (.Name "enumerate" p) [e] [] pos) (iEnW X.K ta) := by
  refine ⟨fun pins s σ H R I h => ?_⟩
  refine Call_ (ld_blt I hg hm boot_enumerate (PyProof.Rows.callWith_type1 (thn (ha.run pos pins s σ H _ I h) fun us s1 ⟨vs, H1, I1, r1, q1⟩ => ?_) hs rfl))
  rcases q1 with ⟨a, xs, ex, hq, q⟩ | ⟨a, xs, ex, hq, q⟩
  · subst ex
    cases r1 with
    | cons r rr =>
      cases rr
      cases r
      obtain ⟨its, rv, p', hz⟩ := I1.list hq
      refine call_enumerate_list p'.isList fun h' he hit hsz hk => wpAny_pyIter_enum he ?_
      have I2 : Inv X pins σ H1 { s1 with heap := h' } := I1.kept (t' := s1.toks) hk
      refine ⟨s1.heap.objs.size + 1, [s1.heap.objs.size + 1, s1.heap.objs.size], _, _, H1, rfl, I2, turn_enum a (s1.heap.objs.size + 1) s1.heap.objs.size, ⟨⟨.none, he⟩, hit, Nat.succ_ne_self _⟩, fun b hb => ?_, q⟩
      have e' : b = s1.heap.objs.size + 1 ∨ b = s1.heap.objs.size := by simpa using hb
      have hle : s1.heap.objs.size ≤ b := by
        rcases e' with z | z
        · rw [z]; exact Nat.le_add_right _ _
        · rw [z]; exact Nat.le_refl _
      exact I1.fpOk hle (I1.hok.fresh hle)
  · subst ex
    cases r1 with
    | cons r rr =>
      cases rr
      cases r
      obtain ⟨its, rv, p', hz⟩ := I1.tuple hq
      have hal : a < s1.heap.objs.size := by obtain ⟨_, y, _⟩ := p'; exact Heap.lt_size y
      refine call_enumB1 (begins_tuple a its.toArray) p' fun h' he hit hsz hk => wpAny_pyIter_enum he ?_
      have I2 : Inv X pins σ H1 { s1 with heap := h' } := I1.kept (t' := s1.toks) hk
      refine ⟨s1.heap.objs.size + 1, [s1.heap.objs.size + 1, s1.heap.objs.size], _, _, H1, rfl, I2, turn_enumT a (s1.heap.objs.size + 1) s1.heap.objs.size (Nat.ne_of_gt (Nat.lt_succ_of_lt hal)) (Nat.ne_of_lt hal), ⟨⟨.none, he⟩, ⟨_, hit, rfl, rfl⟩, Nat.succ_ne_self _⟩, fun b hb => ?_, q⟩
      have e' : b = s1.heap.objs.size + 1 ∨ b = s1.heap.objs.size := by simpa using hb
      have hle : s1.heap.objs.size ≤ b := by
        rcases e' with z | z
        · rw [z]; exact Nat.le_add_right _ _
        · rw [z]; exact Nat.le_refl _
      exact I1.fpOk hle (I1.hok.fresh hle)
section
variable {X : Cx} {C : Ct} {tg iter : Expr} {t : RE}
def lstOf : PyData → Option (List PyData)
  | .list ds => some ds
  | .tuple ds => some ds
  | _ => none
def iEnu (ta : RA) : RI := fun env Q EX => ta env (fun l e => ∃ d ds, l = [d] ∧ lstOf d = some ds ∧ Q (enumD ds) e) EX
theorem si_enumS {a : Expr} {ta : RA} {elts : List Expr} {kk : Nat} {tpos p pos : Pos} (hg : Gl X "enumerate") (hm : X.mg "enumerate" = none) (h : SA X C [a] ta) (hs : starEach [a] X.env = [(false, eval a X.env)] := by rfl) : SI X C (.Tuple elts kk tpos) (.Call (.Name "enumerate" p) [a] [] pos) (iEnu ta) := ⟨_, pi_enumS hg hm aW.pa hs, fun σ H pf env feet Q EX R W tk q k => by
  refine (h σ H pf env feet _ EX W tk q).imp fun vs H1 ⟨l, e1, f1, W1, h1, d, ds, hl, hd, q1⟩ => ?_
  subst hl
  cases h1 with
  | cons h1 h2 =>
    cases h2
    cases h1 with
    | @lst a xs _ hs ha =>
      cases hd
      have W2 := W1.pinned (.lst hs ha)
      exact .inl ⟨a, xs, rfl, hid_le.seq hs, k _ _ ⟨_, e1, f1, _, W2, fun p hp => List.mem_cons_of_mem _ hp, itd_enum (K := X.K) (by simp), q1⟩⟩
    | @tup a xs _ hs ha =>
      cases hd
      have W2 := W1.pinned (.tup hs ha)
      exact .inr ⟨a, xs, rfl, seqT_mono hid_le hs, k _ _ ⟨_, e1, f1, _, W2, fun p hp => List.mem_cons_of_mem _ hp, itd_enumT (K := X.K) (by simp), q1⟩⟩
    | _ => cases hd⟩
end
end L3
end

section
set_option Elab.async false
set_option linter.all false
set_option maxRecDepth 100000
set_option maxHeartbeats 1000000
set_option autoImplicit false
/-! L3 part x: zip by sight, strict or not. -/
namespace L3
open PySem PySem.Spec PyProof.Rows L2
open Sem (wp)
abbrev IsZs (b : Bool) (h : Heap) (z TI TO : Addr) (f0 : Value) : Prop :=
  h.get? z = some { cls := .type "zip", dict := none, data := .fields #[f0, .bool false, .bool b, .ref TI, .ref TO], slots := #[] }
section
variable {prog : Program} {w : World} {A : Around} {E : Value → Shared → Prop} {s : Shared} {z TI TO i1 i2 : Addr} {fp1 fp2 : List Addr} {n1 n2 i : Nat} {P1 P2 : Nat → Value → Prop} {St1 St2 : Nat → Heap → Prop} {a1 a2 : Value}
theorem draws_orEnd_item {it : Addr} {fp : List Addr} {n : Nat} {P : Nat → Value → Prop} {St : Nat → Heap → Prop} {Q : Option Value → Shared → Prop} (D : Draws prog w A it fp n P St) (hi : i < n) (st : St i s.heap)
    (hQ : ∀ v h' tk, P i v → St (i + 1) h' → Heap.SameBut it s.heap h' → Q (some v) { s with heap := h', toks := tk }) : wpAny (model prog w) A (Builtin.SmallTypes.nextOrEnd (.ref it)) Q E s := by
  unfold Builtin.SmallTypes.nextOrEnd
  exact wpAny_bind (wpAny_attempt (D.item i s _ _ hi st fun v h' tk hp st' hs => wpAny_pure (hQ v h' tk hp st' hs)))
theorem draws_orEnd_end {it : Addr} {fp : List Addr} {n : Nat} {P : Nat → Value → Prop} {St : Nat → Heap → Prop} {Q : Option Value → Shared → Prop} (D : Draws prog w A it fp n P St) (st : St n s.heap)
    (hQ : ∀ h', Heap.ExtBut it s.heap h' → Q none { s with heap := h' }) : wpAny (model prog w) A (Builtin.SmallTypes.nextOrEnd (.ref it)) Q E s := by
  unfold Builtin.SmallTypes.nextOrEnd
  refine wpAny_bind (wpAny_attempt (D.done s _ _ st fun h' e he hx => ?_))
  obtain ⟨o, ho, hc⟩ := hx
  exact wpAny_bind (wpAny_isInstance (T := "StopIteration") (b := true) ⟨o, ho, hc⟩ isSubtype_stop (wpAny_pure (hQ h' he)))
theorem zst_next_item {Q : Value → Shared → Prop} (S : ZipSep2 z TI TO i1 i2 fp1 fp2) (D1 : Draws prog w A i1 fp1 n1 P1 St1) (D2 : Draws prog w A i2 fp2 n2 P2 St2)
    (hz : IsZs true s.heap z TI TO .none) (hTI : IsTupOf2 s.heap TI (.ref i1) (.ref i2)) (hTO : IsTupOf2 s.heap TO a1 a2) (st1 : St1 i s.heap) (st2 : St2 i s.heap) (hlt1 : i < n1) (hlt2 : i < n2)
    (hQ : ∀ x1 x2 h' tk, P1 i x1 → P2 i x2 → IsZs true h' z TI TO (rawInt s.heap.objs.size) → IsTupOf2 h' TO x1 x2 → St1 (i + 1) h' → St2 (i + 1) h' → IsTupOf2 h' s.heap.objs.size x1 x2 → h'.objs.size = s.heap.objs.size + 1 →
      (∀ c o, c ≠ z → c ≠ TO → c ≠ i1 → c ≠ i2 → s.heap.get? c = some o → h'.get? c = some o) → Q (.ref s.heap.objs.size) { s with heap := h', toks := tk }) :
    wpAny (model prog w) A (Builtin.«zip.__next__» ⟨[.ref z], []⟩) (fun fin s' => ∃ v, fin = .done (.ret v) ∧ Q v s') E s := by
  obtain ⟨hp, g, d, tk0, os⟩ := s
  show wpAny _ _ (field (.ref z) 2 >>= _) _ _ _
  refine wpAny_bind (wpAny_field hz rfl (x := .bool true) rfl ?_)
  show wpAny _ _ (field (.ref z) 3 >>= _) _ _ _
  refine wpAny_bind (wpAny_field hz rfl (x := .ref TI) rfl ?_)
  refine wpAny_bind (wpAny_seqItems hTI rfl ?_)
  show wpAny _ _ (Builtin.SmallTypes.ownedTupleIsFree (.ref z) >>= _) _ _ _
  refine wpAny_bind ?_
  unfold Builtin.SmallTypes.ownedTupleIsFree
  refine wpAny_bind (wpAny_field hz rfl (x := .none) rfl (wpAny_pure ?_))
  simp only [if_true]
  refine wpAny_bind (wpAny_rule ?_)
  refine wpAny_bind (wpAny_field hz rfl (x := .ref TO) rfl ?_)
  refine wpAny_bind (wpAny_setField_rec hz (by simp) fun g0 hz0 hs0 => ?_)
  replace hz0 : IsZs true g0 z TI TO .ellipsis := hz0
  replace hs0 : Heap.SameBut z hp g0 := hs0
  refine wpAny_bind ?_
  simp only [List.zipIdx_cons, List.zipIdx_nil, List.forIn_cons, List.forIn_nil]
  refine wpAny_bind (wpAny_bind (wpAny_onRaise ?_))
  show wpAny _ _ (Builtin.SmallTypes.nextOrEnd (.ref i1)) _ _ ⟨g0, g, d, tk0, os⟩
  refine draws_orEnd_item D1 hlt1 (D1.over st1 hs0 S.zf1) fun x1 p1 tk1 hx1 sn1 hp1 => ?_
  replace hp1 : Heap.SameBut i1 g0 p1 := hp1
  have hU1 : IsTupOf2 p1 TO a1 a2 := hp1.extBut _ _ S.Ti1 (hs0.extBut _ _ S.TOz hTO)
  refine wpAny_bind (wpAny_seqItems (s := ⟨p1, g, d, tk1, os⟩) hU1 rfl ?_)
  refine wpAny_bind (updateSeq_IsTupOf2 (s := ⟨p1, g, d, tk1, os⟩) hU1 fun g1 hT1 hs1 => ?_)
  replace hT1 : IsTupOf2 g1 TO x1 a2 := hT1
  replace hs1 : Heap.SameBut TO p1 g1 := hs1
  refine wpAny_bind (wpAny_letGo (wpAny_pure ?_))
  refine wpAny_bind (wpAny_bind (wpAny_onRaise ?_))
  show wpAny _ _ (Builtin.SmallTypes.nextOrEnd (.ref i2)) _ _ ⟨g1, g, d, tk1, os⟩
  refine draws_orEnd_item D2 hlt2 (D2.over (D2.over (D2.over st2 hs0 S.zf2) hp1 S.sep1_2) hs1 S.Tf2) fun x2 p2 tk2 hx2 sn2 hp2 => ?_
  replace hp2 : Heap.SameBut i2 g1 p2 := hp2
  have hU2 : IsTupOf2 p2 TO x1 a2 := hp2.extBut _ _ S.Ti2 hT1
  refine wpAny_bind (wpAny_seqItems (s := ⟨p2, g, d, tk2, os⟩) hU2 rfl ?_)
  refine wpAny_bind (updateSeq_IsTupOf2 (s := ⟨p2, g, d, tk2, os⟩) hU2 fun g2 hT2 hs2 => ?_)
  replace hT2 : IsTupOf2 g2 TO x1 x2 := hT2
  replace hs2 : Heap.SameBut TO p2 g2 := hs2
  refine wpAny_bind (wpAny_letGo (wpAny_pure (wpAny_pure ?_)))
  refine wpAny_bind (wpAny_seqItems (s := ⟨g2, g, d, tk2, os⟩) hT2 rfl ?_)
  refine wpAny_bind (wpAny_newTuple ?_)
  have hsz : g2.objs.size = hp.objs.size := by rw [hs2.1, hp2.1, hs1.1, hp1.1, hs0.1]
  have hzz : IsZs true g2 z TI TO .ellipsis := (hs2.extBut _ _ S.TOz.symm (hp2.extBut _ _ S.zi2 (hs1.extBut _ _ S.TOz.symm (hp1.extBut _ _ S.zi1 hz0))))
  have hkk : ∀ c o, c ≠ z → c ≠ TO → c ≠ i1 → c ≠ i2 → hp.get? c = some o → g2.get? c = some o := fun c o cz cT c1 c2 e =>
    (hs2.extBut _ _ cT (hp2.extBut _ _ c2 (hs1.extBut _ _ cT (hp1.extBut _ _ c1 (hs0.extBut _ _ cz e)))))
  have hj1 : St1 (i + 1) g2 := (D1.over (D1.over (D1.over sn1 hs1 S.Tf1) hp2 S.sep2_1) hs2 S.Tf1)
  have hj2 : St2 (i + 1) g2 := (D2.over sn2 hs2 S.Tf2)
  have hzlt : z < g2.objs.size := Heap.lt_size hzz
  show wpAny _ _ (Builtin.SmallTypes.ownedTupleHandOut (.ref z) (.ref g2.objs.size) >>= _) _ _ ⟨g2.push { cls := .type "tuple", data := .seq #[x1, x2] }, g, d, tk2, os⟩
  refine wpAny_bind ?_
  unfold Builtin.SmallTypes.ownedTupleHandOut
  have hz₆ : IsZs true (g2.push { cls := .type "tuple", data := .seq #[x1, x2] }) z TI TO .ellipsis := Heap.get?_push_of_some _ hzz
  refine wpAny_bind (wpAny_setField_rec hz₆ (by simp) fun h₇ hz₇ hs₇ => ?_)
  replace hz₇ : IsZs true h₇ z TI TO (rawInt g2.objs.size) := hz₇
  refine wpAny_setField_rec hz₇ (by simp) fun h₈ hz₈ hs₈ => ?_
  replace hz₈ : IsZs true h₈ z TI TO (rawInt g2.objs.size) := hz₈
  replace hs₇ : Heap.SameBut z (g2.push { cls := .type "tuple", data := .seq #[x1, x2] }) h₇ := hs₇
  replace hs₈ : Heap.SameBut z h₇ h₈ := hs₈
  have up : ∀ c o, c ≠ z → g2.get? c = some o → h₈.get? c = some o := fun c o c1 e => hs₈.extBut _ _ c1 (hs₇.extBut _ _ c1 (Heap.get?_push_of_some _ e))
  have hT₈ : IsTupOf2 h₈ g2.objs.size x1 x2 := hs₈.extBut _ _ (Nat.ne_of_gt hzlt) (hs₇.extBut _ _ (Nat.ne_of_gt hzlt) (Heap.get?_push_size _ rfl))
  have hz8 : h₈.objs.size = g2.objs.size + 1 := by rw [hs₈.1, hs₇.1, Heap.size_push]
  rw [hsz] at hz₈ hT₈ hz8
  refine wpAny_pure ⟨_, rfl, ?_⟩
  show Q (.ref g2.objs.size) ⟨h₈, g, d, tk2, os⟩
  rw [hsz]
  exact hQ x1 x2 h₈ tk2 hx1 hx2 hz₈ (up _ _ S.TOz hT2) (D1.frame _ _ _ hj1 fun b hb o e => up b o (fun q => S.zf1 (q ▸ hb)) e) (D2.frame _ _ _ hj2 fun b hb o e => up b o (fun q => S.zf2 (q ▸ hb)) e) hT₈ hz8 fun c o cz cT c1 c2 e => up c o cz (hkk c o cz cT c1 c2 e)
theorem zst_next_end {Q : Fin → Shared → Prop} (hh : A.handled = none) (S : ZipSep2 z TI TO i1 i2 fp1 fp2) (D1 : Draws prog w A i1 fp1 i P1 St1) (D2 : Draws prog w A i2 fp2 i P2 St2)
    (hz : IsZs true s.heap z TI TO .none) (hTI : IsTupOf2 s.heap TI (.ref i1) (.ref i2)) (hTO : IsTupOf2 s.heap TO a1 a2) (st1 : St1 i s.heap) (st2 : St2 i s.heap)
    (hE : ∀ h' tk e, (∀ c o, c ≠ z → c ≠ TO → c ≠ i1 → c ≠ i2 → s.heap.get? c = some o → h'.get? c = some o) → (∃ o, h'.get? e = some o ∧ o.cls = .type "StopIteration") → E (.ref e) { s with heap := h', toks := tk }) :
    wpAny (model prog w) A (Builtin.«zip.__next__» ⟨[.ref z], []⟩) Q E s := by
  obtain ⟨hp, g, d, tk0, os⟩ := s
  show wpAny _ _ (field (.ref z) 2 >>= _) _ _ _
  refine wpAny_bind (wpAny_field hz rfl (x := .bool true) rfl ?_)
  show wpAny _ _ (field (.ref z) 3 >>= _) _ _ _
  refine wpAny_bind (wpAny_field hz rfl (x := .ref TI) rfl ?_)
  refine wpAny_bind (wpAny_seqItems hTI rfl ?_)
  show wpAny _ _ (Builtin.SmallTypes.ownedTupleIsFree (.ref z) >>= _) _ _ _
  refine wpAny_bind ?_
  unfold Builtin.SmallTypes.ownedTupleIsFree
  refine wpAny_bind (wpAny_field hz rfl (x := .none) rfl (wpAny_pure ?_))
  simp only [if_true]
  refine wpAny_bind (wpAny_rule ?_)
  refine wpAny_bind (wpAny_field hz rfl (x := .ref TO) rfl ?_)
  refine wpAny_bind (wpAny_setField_rec hz (by simp) fun g0 hz0 hs0 => ?_)
  replace hz0 : IsZs true g0 z TI TO .ellipsis := hz0
  replace hs0 : Heap.SameBut z hp g0 := hs0
  refine wpAny_bind ?_
  simp only [List.zipIdx_cons, List.zipIdx_nil, List.forIn_cons, List.forIn_nil]
  refine wpAny_bind (wpAny_bind (wpAny_onRaise ?_))
  show wpAny _ _ (Builtin.SmallTypes.nextOrEnd (.ref i1)) _ _ ⟨g0, g, d, tk0, os⟩
  refine draws_orEnd_end D1 (D1.over st1 hs0 S.zf1) fun q hq => ?_
  replace hq : Heap.ExtBut i1 g0 q := hq
  have hzq : IsZs true q z TI TO .ellipsis := hq _ _ S.zi1 hz0
  refine wpAny_bind (wpAny_setField_rec (s := ⟨q, g, d, tk0, os⟩) hzq (by simp) fun q' hz' hq' => ?_)
  replace hq' : Heap.SameBut z q q' := hq'
  have st2' : St2 i q' := D2.over (D2.frame _ _ _ (D2.over st2 hs0 S.zf2) fun b hb o e => hq b o (fun x => S.sep1_2 (x ▸ hb)) e) hq' S.zf2
  refine wpAny_bind ?_
  show wpAny _ _ ((forIn (List.zipIdx [Value.ref i2] 1) PUnit.unit _ : Sem PUnit) >>= _) _ _ ⟨q', g, d, tk0, os⟩
  refine wpAny_bind ?_
  simp only [List.zipIdx_cons, List.zipIdx_nil, List.forIn_cons, List.forIn_nil]
  refine wpAny_bind (wpAny_bind (draws_orEnd_end D2 st2' fun u hu => ?_))
  rw [if_neg (by simp)]
  refine wpAny_pure (wpAny_pure ?_)
  refine wpAny_bind (wpAny_rule ?_)
  show wpAny _ _ (newExc (.type "StopIteration") [] >>= _) _ _ _
  refine wpAny_bind ?_
  simp only [newExc, newTuple]
  refine wpAny_bind (wpAny_newObj_type ?_ (by size_fits))
  refine wpAny_bind (m := firstArgMember _ _) (wpAny_of_eq (a := Value.none) (by first | rfl | (simp only [firstArgMember]; rfl)) ?_)
  refine wpAny_newObj_type ?_ (by size_fits)
  simp only [raiseNew]
  refine wpAny_bind (wpAny_handled ?_)
  rw [hh]
  refine wpAny_bind (wpAny_pure (wpAny_throw ?_))
  exact hE _ tk0 _ (fun c o cz cT c1 c2 x => Heap.get?_push_of_some _ (Heap.get?_push_of_some _ (hu c o c2 (hq'.extBut _ _ cz (hq _ _ c1 (hs0.extBut _ _ cz x)))))) ⟨_, Heap.get?_push_size _ rfl, rfl⟩
theorem pyNext_zs_item {Q : Option Value → Shared → Prop} {b : Bool} (S : ZipSep2 z TI TO i1 i2 fp1 fp2) (D1 : Draws prog w A.in1 i1 fp1 n1 P1 St1) (D2 : Draws prog w A.in1 i2 fp2 n2 P2 St2)
    (hz : IsZs b s.heap z TI TO .none) (hTI : IsTupOf2 s.heap TI (.ref i1) (.ref i2)) (hTO : IsTupOf2 s.heap TO a1 a2) (st1 : St1 i s.heap) (st2 : St2 i s.heap) (hlt1 : i < n1) (hlt2 : i < n2)
    (hQ : ∀ x1 x2 h' tk, P1 i x1 → P2 i x2 → IsZs b h' z TI TO (rawInt s.heap.objs.size) → IsTupOf2 h' TO x1 x2 → St1 (i + 1) h' → St2 (i + 1) h' → IsTupOf2 h' s.heap.objs.size x1 x2 → h'.objs.size = s.heap.objs.size + 1 →
      (∀ c o, c ≠ z → c ≠ TO → c ≠ i1 → c ≠ i2 → s.heap.get? c = some o → h'.get? c = some o) → Q (some (.ref s.heap.objs.size)) { s with heap := h', toks := tk }) :
    wpAny (model prog w) A (pyNext (.ref z)) Q E s := by
  cases b
  · exact wpAny_pyNext_zipD2_item S D1 D2 hz hTI hTO st1 st2 hlt1 hlt2 hQ
  have hT : s.TypeIs (.ref z) "zip" := ⟨_, hz, rfl⟩
  unfold pyNext
  exact wpAny_bind (wpAny_attempt (wpAny_callSpecial?_slot (name := Str.ofString "__next__") hT F.slot_zip_next
    (wpAny_call_entry F.slot_zip_next hT F.entry_zip_next
      (zst_next_item S D1 D2 hz hTI hTO st1 st2 hlt1 hlt2 fun x1 x2 h' tk y1 y2 b1 b2 d1 d2 b5 b6 b7 => wpAny_pure (hQ x1 x2 h' tk y1 y2 b1 b2 d1 d2 b5 b6 b7)) (F.args_zip_next_1 _))))
/-- the end: a strict one's parts end together -/
theorem pyNext_zs_end {Q : Option Value → Shared → Prop} {b : Bool} (hh : A.handled = none) (S : ZipSep2 z TI TO i1 i2 fp1 fp2) (D1 : Draws prog w A.in1 i1 fp1 n1 P1 St1) (D2 : Draws prog w A.in1 i2 fp2 n2 P2 St2)
    (hz : IsZs b s.heap z TI TO .none) (hTI : IsTupOf2 s.heap TI (.ref i1) (.ref i2)) (hTO : IsTupOf2 s.heap TO a1 a2) (st1 : St1 i s.heap) (st2 : St2 i s.heap) (hle1 : i ≤ n1) (hle2 : i ≤ n2) (hend : i = n1 ∨ i = n2) (hb : b = true → i = n1 ∧ i = n2)
    (hQ : ∀ h' tk, (∀ c o, c ≠ z → c ≠ TO → c ≠ i1 → c ≠ i2 → s.heap.get? c = some o → h'.get? c = some o) → Q none { s with heap := h', toks := tk }) : wpAny (model prog w) A (pyNext (.ref z)) Q E s := by
  cases b
  · exact wpAny_pyNext_zipD2_end S D1 D2 hz hTI hTO st1 st2 hle1 hle2 hend hQ
  obtain ⟨rfl, rfl⟩ := hb rfl
  have hT : s.TypeIs (.ref z) "zip" := ⟨_, hz, rfl⟩
  unfold pyNext
  refine wpAny_bind (wpAny_attempt (wpAny_callSpecial?_slot (name := Str.ofString "__next__") hT F.slot_zip_next
    (wpAny_call_entry F.slot_zip_next hT F.entry_zip_next (zst_next_end (by exact hh) S D1 D2 hz hTI hTO st1 st2 fun h' tk e hk he => ?_) (F.args_zip_next_1 _))))
  obtain ⟨o, ho, hc⟩ := he
  refine wpAny_bind (wpAny_isInstance (T := "StopIteration") (b := true) ⟨o, ho, hc⟩ isSubtype_stop ?_)
  exact wpAny_pure (hQ _ _ hk)
theorem zs_go {elts : List Expr} {x1} {pos : Pos} {T : Addr} {b : Bool} {Q : Unit → Shared → Prop} (hz : IsZs b s.heap z TI TO (rawInt T))
    (hQ : ∀ h', IsZs b h' z TI TO .none → Heap.SameBut z s.heap h' → Q () { s with heap := h' }) :
    wpAny (model prog w) A (letOwnedTupleGo (.Tuple elts x1 pos) (.ref z) (.ref T)) Q E s := by
  unfold letOwnedTupleGo
  refine wpAny_bind (wpAny_load hz ?_)
  show wpAny _ _ (if (["enumerate", "zip", "dict_itemiterator", "dict_reverseitemiterator", "odict_iterator", "itertools.zip_longest", "itertools.pairwise"].contains "zip" &&
      (#[rawInt T, .bool false, .bool b, .ref TI, .ref TO] : Array Value)[0]? == some (rawInt T)) = true then _ else _) Q E s
  rw [if_pos (by simp)]
  refine wpAny_bind (wpAny_rule ?_)
  show wpAny _ _ (setField (.ref z) 0 .none) Q E s
  exact wpAny_setField_rec hz (by simp) fun h' hz' hs' => hQ h' hz' hs'
theorem zs_iter {b : Bool} {f0 : Value} {Q : Value → Shared → Prop} (hz : IsZs b s.heap z TI TO f0) (h : Q (.ref z) s) : wpAny (model prog w) A (pyIter (.ref z)) Q E s := by
  have hT : s.TypeIs (.ref z) "zip" := ⟨_, hz, rfl⟩
  refine wpAny_pyIter_slot hT F.slot_zip_iter (wpAny_call_entry F.slot_zip_iter hT F.entry_zip_iter ?_ (F.args_zip_iter_1 _))
  show wpAny _ _ (ret (.ref z)) _ _ s
  exact wpAny_pure ⟨_, rfl, "zip", _, hT, F.slot_zip_next.lookup, h⟩
abbrev gzS (h : Heap) (o1 o2 : Obj) : Heap := (gzO2 h o1 o2).push { cls := .type "zip", data := .fields #[.none, .bool false, .bool true, .ref ((h.push o1).push o2).objs.size, .ref (gzT2 h o1 o2).objs.size] }
abbrev kwStrict : List (Str × Value) := [(Str.ofString "strict", .bool true)]
theorem typeCall_zip_s (a b : Value) : checkTypeCall "zip" ⟨[a, b], kwStrict⟩ = pure () := by kernel_rfl
theorem newCall_zip_s (a b : Value) : checkBuiltinCall "zip.__new__" ⟨[.type "zip", a, b], kwStrict⟩ = pure () := by kernel_rfl
theorem args_object_init_s (obj a b : Value) : argsOk "object.__init__" ⟨[obj, a, b], kwStrict⟩ := by unfold argsOk; kernel_rfl
theorem meets_zip_newS {v1 v2 : Value} {o1 o2 : Obj} {H1 H2 : Heap → Prop} (B1 : Begins v1 o1 H1) (B2 : Begins v2 o2 H2) :
    Meets (Builtin.«zip.__new__» ⟨[.type "zip", v1, v2], kwStrict⟩) (fun _ R s => (H1 s.heap ∧ H2 s.heap) ∧
      R (.ok (.ret (.ref (gzO2 s.heap o1 o2).objs.size))) { s with heap := gzS s.heap o1 o2 }) :=
  .of_wp fun prog w A R s h => by
    obtain ⟨hp, g, d, tk, os⟩ := s; obtain ⟨⟨h1, h2⟩, h⟩ := h
    have hsub := sub_zip
    have q1 : ∀ {A' : Around} {E : Value → Shared → Prop} {Q : Value → Shared → Prop}, Q (.ref hp.objs.size) ⟨(hp.push o1), g, d, tk, os⟩ → wpAny (model prog w) A' (pyIter v1) Q E ⟨hp, g, d, tk, os⟩ :=
      fun q => B1.iter prog w _ _ ⟨hp, g, d, tk, os⟩ _ (B1.keeps _ _ h1 fun b o' e => e) q
    have q2 : ∀ {A' : Around} {E : Value → Shared → Prop} {Q : Value → Shared → Prop}, Q (.ref (hp.push o1).objs.size) ⟨((hp.push o1).push o2), g, d, tk, os⟩ → wpAny (model prog w) A' (pyIter v2) Q E ⟨(hp.push o1), g, d, tk, os⟩ :=
      fun q => B2.iter prog w _ _ ⟨(hp.push o1), g, d, tk, os⟩ _ (B2.keeps _ _ h2 fun b o' e => (Heap.get?_push_of_some _ e)) q
    have e2 : (Str.ofString "strict" != ("strict" : Str)) = false := by decide +kernel
    wp_walk using q1, q2
    exact ⟨_, rfl, h⟩
theorem zs_begins {v1 v2 : Value} {o1 o2 : Obj} {H1 H2 : Heap → Prop} {Q : Value → Shared → Prop} (B1 : Begins v1 o1 H1) (B2 : Begins v2 o2 H2) (h1 : H1 s.heap) (h2 : H2 s.heap)
    (h : ∀ h', IsZs true h' (s.heap.objs.size + 4) (s.heap.objs.size + 2) (s.heap.objs.size + 3) .none → IsTupOf2 h' (s.heap.objs.size + 2) (.ref s.heap.objs.size) (.ref (s.heap.objs.size + 1)) →
      IsTupOf2 h' (s.heap.objs.size + 3) .none .none → h'.get? s.heap.objs.size = some o1 → h'.get? (s.heap.objs.size + 1) = some o2 → h'.objs.size = s.heap.objs.size + 5 →
      (∀ c o, s.heap.get? c = some o → h'.get? c = some o) → Q (.ref (s.heap.objs.size + 4)) { s with heap := h' }) :
    wpAny (model prog w) A (call (.type "zip") [v1, v2] kwStrict) Q E s := by
  refine callType_newKw F.called_zip (by decide) (typeCall_zip_s _ _) (newCall_zip_s _ _) (fun obj => args_object_init_s obj _ _) F.entry_zip_new
    (meets_zip_newS B1 B2) ⟨⟨h1, h2⟩, ?_⟩
  have z1 : (s.heap.push o1).objs.size = s.heap.objs.size + 1 := by rw [Heap.size_push]
  have z2 : ((s.heap.push o1).push o2).objs.size = s.heap.objs.size + 2 := by rw [Heap.size_push, z1]
  have zT : (gzT2 s.heap o1 o2).objs.size = s.heap.objs.size + 3 := by rw [Heap.size_push, z2]
  have zO : (gzO2 s.heap o1 o2).objs.size = s.heap.objs.size + 4 := by rw [Heap.size_push, zT]
  have zZ : (gzS s.heap o1 o2).objs.size = s.heap.objs.size + 5 := by rw [Heap.size_push, zO]
  have gZ : (gzS s.heap o1 o2).get? (gzO2 s.heap o1 o2).objs.size = some { cls := .type "zip", data := .fields #[.none, .bool false, .bool true, .ref ((s.heap.push o1).push o2).objs.size, .ref (gzT2 s.heap o1 o2).objs.size] } := Heap.get?_push_size _ rfl
  have gO : (gzS s.heap o1 o2).get? (gzT2 s.heap o1 o2).objs.size = some { cls := .type "tuple", data := .seq #[.none, .none] } := Heap.get?_push_of_some _ (Heap.get?_push_size _ rfl)
  have gT : (gzS s.heap o1 o2).get? ((s.heap.push o1).push o2).objs.size = some { cls := .type "tuple", data := .seq #[.ref s.heap.objs.size, .ref (s.heap.push o1).objs.size] } := Heap.get?_push_of_some _ (Heap.get?_push_of_some _ (Heap.get?_push_size _ rfl))
  have g1 : (gzS s.heap o1 o2).get? s.heap.objs.size = some o1 := Heap.get?_push_of_some _ (Heap.get?_push_of_some _ (Heap.get?_push_of_some _ (Heap.get?_push_of_some _ (Heap.get?_push_size _ B1.free))))
  have g2 : (gzS s.heap o1 o2).get? (s.heap.push o1).objs.size = some o2 := Heap.get?_push_of_some _ (Heap.get?_push_of_some _ (Heap.get?_push_of_some _ (Heap.get?_push_size _ B2.free)))
  rw [zO, zT, z2] at gZ
  rw [zT] at gO
  rw [z2, z1] at gT
  rw [z1] at g2
  show _ ∧ _
  rw [zO]
  exact ⟨⟨_, gZ, rfl⟩, h _ gZ gT gO g1 g2 zZ fun c o e => Heap.get?_push_of_some _ (Heap.get?_push_of_some _ (Heap.get?_push_of_some _ (Heap.get?_push_of_some _ (Heap.get?_push_of_some _ e))))⟩
end
/-! ### a list or a tuple, by a flag -/
def SqB (K : PySem.W.Frag) (b : Bool) (H : Hp) (a : Addr) (xs : List V) : Prop := match b with | true => SqL K H a xs | false => SqT K H a xs
def ItB (b : Bool) (h : Heap) (it a : Addr) (i : Nat) : Prop := match b with | true => h.IsListIter it a i | false => h.IsTupleIter it a i
def BuB (b : Bool) (h : Heap) (a : Addr) (items : Array Value) : Prop := match b with | true => h.IsList a items | false => h.IsTuple a items
def obB (b : Bool) (a : Addr) : Obj := match b with | true => { cls := .type "list_iterator", data := .fields #[.ref a, .int 0 0] } | false => { cls := .type "tuple_iterator", data := .fields #[.ref a, .int 0 0] }
theorem ItB.obj {b : Bool} {h : Heap} {it a : Addr} {i : Nat} (st : ItB b h it a i) : ∃ o, h.get? it = some o ∧ ∀ v, o.data ≠ .cell v := by
  cases b
  · obtain ⟨o, e, _, d⟩ := st; exact ⟨o, e, fun v q => by rw [d] at q; cases q⟩
  · obtain ⟨o, e, _, d⟩ := st; exact ⟨o, e, fun v q => by rw [d] at q; cases q⟩
theorem ItB.at {b : Bool} {h h' : Heap} {it a : Addr} {i : Nat} (st : ItB b h it a i) (k : ∀ o, h.get? it = some o → h'.get? it = some o) : ItB b h' it a i := by
  cases b
  · obtain ⟨o, e, r⟩ := st; exact ⟨o, k o e, r⟩
  · obtain ⟨o, e, r⟩ := st; exact ⟨o, k o e, r⟩
theorem drawsB {prog : Program} {w : World} {A : Around} {b : Bool} (hh : A.handled = none) (it a : Addr) (hne : a ≠ it) (items : Array Value) :
    Draws prog w A it [it, a] items.size (fun i v => items[i]? = some v) (fun i h => ItB b h it a i ∧ BuB b h a items) := by
  cases b
  · exact Draws.tuple hh it a hne items
  · exact Draws.list hh it a hne items
theorem beginsB {b : Bool} (a : Addr) (items : Array Value) : Begins (.ref a) (obB b a) fun h => BuB b h a items := by
  cases b
  · exact begins_tuple a items
  · exact begins_list a items
theorem itB_new {b : Bool} {h : Heap} {it a : Addr} (e : h.get? it = some (obB b a)) : ItB b h it a 0 := by
  cases b
  · exact ⟨_, e, rfl, rfl⟩
  · exact ⟨_, e, rfl, rfl⟩
theorem inv_B {X : Cx} {pins : List (Addr × Obj)} {σ : L2.St} {H : Hp} {s : Shared} {a : Addr} {xs : List V} {b : Bool} (I : Inv X pins σ H s) (h : SqB X.K b H a xs) : ∃ its : List Value, Vals xs its ∧ BuB b s.heap a its.toArray ∧ a < s.heap.objs.size := by
  cases b
  · obtain ⟨its, rv, p, _⟩ := I.tuple h
    exact ⟨its, rv, p, by obtain ⟨_, y, _⟩ := p; exact Heap.lt_size y⟩
  · obtain ⟨its, rv, p, _⟩ := I.list h
    exact ⟨its, rv, p.isList, p.lt⟩
theorem inv_Binj {X : Cx} {pins : List (Addr × Obj)} {σ : L2.St} {H : Hp} {s : Shared} {a : Addr} {xs ys : List V} {b : Bool} (I : Inv X pins σ H s) (h : SqB X.K b H a xs) (h' : SqB X.K b H a ys) : xs = ys := by
  cases b
  · exact I.tuple_inj h h'
  · exact I.list_inj h h'
def Izs (K : PySem.W.Frag) (st b1 b2 : Bool) (a b : Addr) : It :=
  ⟨fun i H => ∃ (xs ys : List V) (x y : V), SqB K b1 H a xs ∧ SqB K b2 H b ys ∧ xs[i]? = some x ∧ ys[i]? = some y,
    fun i H v H' => ∃ T x y, v = .ref T ∧ H T = none ∧ H' = upd H T (.tup [x, y]) ∧ (∀ xs, SqB K b1 H a xs → xs[i]? = some x) ∧ ∀ ys, SqB K b2 H b ys → ys[i]? = some y,
    fun i H => ∃ xs ys : List V, SqB K b1 H a xs ∧ SqB K b2 H b ys ∧ i ≤ xs.length ∧ i ≤ ys.length ∧ (i = xs.length ∨ i = ys.length) ∧ (st = true → i = xs.length ∧ i = ys.length)⟩
theorem turn_zs {P : Program} {w : World} {K : PySem.W.Frag} {elts : List Expr} {kk : Nat} {tpos : Pos} {st b1 b2 : Bool} {a b z TI TO i1 i2 : Addr} (S : ZipSep2 z TI TO i1 i2 [i1, a] [i2, b]) (n1 : a ≠ i1) (n2 : b ≠ i2) :
    Turn P w K (.Tuple elts kk tpos) (Izs K st b1 b2 a b) [z, TI, TO, i1, i2] z (fun i h => IsZs st h z TI TO .none ∧ IsPair h TI (.ref i1) (.ref i2) ∧ (∃ x y, IsPair h TO x y) ∧ ItB b1 h i1 a i ∧ ItB b2 h i2 b i) where
  mem := by simp
  obj := fun i h st c hc => by
    obtain ⟨hz, hTI, ⟨x, y, hTO⟩, h1, h2⟩ := st
    have e' : c = z ∨ c = TI ∨ c = TO ∨ c = i1 ∨ c = i2 := by simpa using hc
    rcases e' with q | q | q | q | q
    · rw [q]; exact ⟨_, hz, fun v q => nomatch q⟩
    · rw [q]; exact ⟨_, hTI, fun v q => nomatch q⟩
    · rw [q]; exact ⟨_, hTO, fun v q => nomatch q⟩
    · rw [q]; exact h1.obj
    · rw [q]; exact h2.obj
  keep := fun i h h' st k => by
    obtain ⟨hz, hTI, ⟨x, y, hTO⟩, h1, h2⟩ := st
    exact ⟨k z (by simp) _ hz, k TI (by simp) _ hTI, ⟨x, y, k TO (by simp) _ hTO⟩, h1.at fun o q => k i1 (by simp) o q, h2.at fun o q => k i2 (by simp) o q⟩
  item := by
    intro X hP hw hK hc i pins s σ H E I hf st hg
    subst hP hw hK
    obtain ⟨hz, hTI, ⟨x0, y0, hTO⟩, h1, h2⟩ := st
    obtain ⟨xs, ys, x, y, hqx, hqy, hx, hy⟩ := hg
    obtain ⟨its, rv, p, _⟩ := inv_B I hqx
    obtain ⟨its2, rv2, p2, _⟩ := inv_B I hqy
    obtain ⟨u, hu, ru⟩ := rv.get hx
    obtain ⟨u2, hu2, ru2⟩ := rv2.get hy
    have hzl : z < s.heap.objs.size := Heap.lt_size hz
    have D1 := drawsB (prog := X.prog) (w := X.w) (A := X.A.in1) (b := b1) (I.ok.hd hc) i1 a n1 its.toArray
    have D2 := drawsB (prog := X.prog) (w := X.w) (A := X.A.in1) (b := b2) (I.ok.hd hc) i2 b n2 its2.toArray
    have l1 : i < its.length := (List.getElem?_eq_some_iff.mp hu).1
    have l2 : i < its2.length := (List.getElem?_eq_some_iff.mp hu2).1
    refine pyNext_zs_item S D1 D2 hz hTI hTO ⟨h1, p⟩ ⟨h2, p2⟩ (by simpa using l1) (by simpa using l2) fun y1 y2 h' tk e1 e2 z' TO' s1' s2' hT hsz hk => ?_
    have q1 : y1 = u := by
      have : its[i]? = some y1 := by simpa using e1
      rw [hu] at this; cases this; rfl
    have q2 : y2 = u2 := by
      have : its2[i]? = some y2 := by simpa using e2
      rw [hu2] at this; cases this; rfl
    subst q1 q2
    refine ⟨_, rfl, zs_go (s := { s with heap := h', toks := tk }) z' fun h'' z'' sb => ?_⟩
    have hT2 : h''.get? s.heap.objs.size = some { cls := .type "tuple", data := .seq #[y1, y2] } := (sb.2 _ (Nat.ne_of_gt hzl)).trans hT
    have new : ObjOk X.prog X.w (upd H s.heap.objs.size (.tup [x, y])) h'' s.heap.objs.size (.tup [x, y]) :=
      ⟨by show 2 ≤ sizeLine; decide, [y1, y2], .cons ru (.cons ru2 .nil), ⟨_, hT2, rfl, _, rfl⟩⟩
    have I1 : Inv X pins σ (upd H s.heap.objs.size (.tup [x, y])) { s with heap := h'', toks := tk } :=
      I.turnedNew (t' := tk) (ch := [z, TI, TO, i1, i2]) (fun c o hb q => (sb.2 c (fun q' => hb (by simp [q']))).trans (hk c o (fun q' => hb (by simp [q'])) (fun q' => hb (by simp [q'])) (fun q' => hb (by simp [q'])) (fun q' => hb (by simp [q'])) q)) hf (Nat.le_refl _) new
    refine ⟨.ref s.heap.objs.size, _, I1, rfl, ⟨_, x, y, rfl, I.hok.fresh (Nat.le_refl _), rfl, fun l hl => by rw [inv_Binj I hl hqx]; exact hx, fun l hl => by rw [inv_Binj I hl hqy]; exact hy⟩, ⟨z'', ?_, ⟨y1, y2, ?_⟩, ?_, ?_⟩, fun c hcm => ?_⟩
    · exact (sb.2 _ S.TIz).trans (hk _ _ S.TIz S.TITO S.TIi1 S.TIi2 hTI)
    · exact (sb.2 _ S.TOz).trans TO'
    · exact s1'.1.at fun o q => (sb.2 _ S.zi1.symm).trans q
    · exact s2'.1.at fun o q => (sb.2 _ S.zi2.symm).trans q
    · have hlt : c < s.heap.objs.size := by
        have e' : c = z ∨ c = TI ∨ c = TO ∨ c = i1 ∨ c = i2 := by simpa using hcm
        rcases e' with q | q | q | q | q
        · rw [q]; exact hzl
        · rw [q]; exact Heap.lt_size hTI
        · rw [q]; exact Heap.lt_size hTO
        · rw [q]; obtain ⟨_, e1, _⟩ := h1.obj; exact Heap.lt_size e1
        · rw [q]; obtain ⟨_, e2, _⟩ := h2.obj; exact Heap.lt_size e2
      rw [upd_ne (Nat.ne_of_lt hlt)]
      exact (hf c hcm).1
  done := by
    intro X hP hw hK hc i pins s σ H E I hf st hg
    subst hP hw hK
    obtain ⟨hz, hTI, ⟨x0, y0, hTO⟩, h1, h2⟩ := st
    obtain ⟨xs, ys, hqx, hqy, le1, le2, hend, hst⟩ := hg
    obtain ⟨its, rv, p, _⟩ := inv_B I hqx
    obtain ⟨its2, rv2, p2, _⟩ := inv_B I hqy
    have l1 := rv.length
    have l2 := rv2.length
    have D1 := drawsB (prog := X.prog) (w := X.w) (A := X.A.in1) (b := b1) (I.ok.hd hc) i1 a n1 its.toArray
    have D2 := drawsB (prog := X.prog) (w := X.w) (A := X.A.in1) (b := b2) (I.ok.hd hc) i2 b n2 its2.toArray
    have z1 : its.toArray.size = xs.length := by simp [l1]
    have z2 : its2.toArray.size = ys.length := by simp [l2]
    exact pyNext_zs_end (I.ok.hd hc) S D1 D2 hz hTI hTO ⟨h1, p⟩ ⟨h2, p2⟩ (by rw [z1]; exact le1) (by rw [z2]; exact le2) (by rw [z1, z2]; exact hend) (by rw [z1, z2]; exact hst) fun h' tk hk => ⟨rfl, I.turnedL (t' := tk) (ch := [z, TI, TO, i1, i2]) (fun c o hb q =>
      hk c o (fun q' => hb (by simp [q'])) (fun q' => hb (by simp [q'])) (fun q' => hb (by simp [q'])) (fun q' => hb (by simp [q'])) q) hf⟩
  self := fun A i s Q E st h => zs_iter st.1 h
theorem nm_two {z x y : Nat} (h1 : z ≠ x) (h2 : z ≠ y) : z ∉ ([x, y] : List Addr) := fun h => by
  rcases List.mem_cons.mp h with e | e
  · exact h1 e
  · exact h2 (List.mem_singleton.mp e)
theorem zs_sep {n a b : Nat} (la : a < n) (lb : b < n) : ZipSep2 (n + 4) (n + 2) (n + 3) n (n + 1) [n, a] [n + 1, b] where
  TIz := show (n + 2 : Nat) ≠ n + 4 by omega
  TOz := show (n + 3 : Nat) ≠ n + 4 by omega
  TITO := show (n + 2 : Nat) ≠ n + 3 by omega
  TIi1 := show (n + 2 : Nat) ≠ n by omega
  mem1 := by simp
  zf1 := nm_two (by omega) (by omega)
  Tf1 := nm_two (by omega) (by omega)
  TIi2 := show (n + 2 : Nat) ≠ n + 1 by omega
  mem2 := by simp
  zf2 := nm_two (by omega) (by omega)
  Tf2 := nm_two (by omega) (by omega)
  sep1_2 := nm_two (by omega) (by omega)
  sep2_1 := nm_two (by omega) (by omega)
def iZs (K : PySem.W.Frag) (st : Bool) (ta : TA) : TI := fun σ H R => ta σ H fun vs H1 => ∃ b1 b2 a b xs ys, vs = [.ref a, .ref b] ∧ SqB K b1 H1 a xs ∧ SqB K b2 H1 b ys ∧ R (Izs K st b1 b2 a b) H1
theorem zs_pie {X : Cx} {pins : List (Addr × Obj)} {σ : L2.St} {H1 : Hp} {s1 : Shared} {tpos : Pos} {elts : List Expr} {kk : Nat} {st b1 b2 : Bool} {a b : Addr} {R : It → Hp → Prop} {h' : Heap} (I1 : Inv X pins σ H1 s1) (la : a < s1.heap.objs.size) (lb : b < s1.heap.objs.size) (q : R (Izs X.K st b1 b2 a b) H1)
    (hz : IsZs st h' (s1.heap.objs.size + 4) (s1.heap.objs.size + 2) (s1.heap.objs.size + 3) .none) (hTI : IsTupOf2 h' (s1.heap.objs.size + 2) (.ref s1.heap.objs.size) (.ref (s1.heap.objs.size + 1))) (hTO : IsTupOf2 h' (s1.heap.objs.size + 3) .none .none)
    (h1 : h'.get? s1.heap.objs.size = some (obB b1 a)) (h2 : h'.get? (s1.heap.objs.size + 1) = some (obB b2 b)) (hk : ∀ c o, s1.heap.get? c = some o → h'.get? c = some o) : PIE X pins σ (.Tuple elts kk tpos) R (.ref (s1.heap.objs.size + 4)) { s1 with heap := h' } := by
  have I2 : Inv X pins σ H1 { s1 with heap := h' } := I1.kept (t' := s1.toks) hk
  refine ⟨s1.heap.objs.size + 4, [s1.heap.objs.size + 4, s1.heap.objs.size + 2, s1.heap.objs.size + 3, s1.heap.objs.size, s1.heap.objs.size + 1], _, _, H1, rfl, I2, turn_zs (zs_sep la lb) (Nat.ne_of_lt la) (Nat.ne_of_lt (Nat.lt_succ_of_lt lb)), ⟨hz, hTI, ⟨_, _, hTO⟩, itB_new h1, itB_new h2⟩, fun c hcm => ?_, q⟩
  have e' : c = s1.heap.objs.size + 4 ∨ c = s1.heap.objs.size + 2 ∨ c = s1.heap.objs.size + 3 ∨ c = s1.heap.objs.size ∨ c = s1.heap.objs.size + 1 := by simpa using hcm
  have hle : s1.heap.objs.size ≤ c := by
    rcases e' with z | z | z | z | z
    · rw [z]; exact Nat.le_add_right _ _
    · rw [z]; exact Nat.le_add_right _ _
    · rw [z]; exact Nat.le_add_right _ _
    · rw [z]; exact Nat.le_refl _
    · rw [z]; exact Nat.le_add_right _ _
  exact I1.fpOk hle (I1.hok.fresh hle)
theorem pi_zs0 {X : Cx} {e e2 : Expr} {ta : TA} {p pos tpos : Pos} {elts : List Expr} {kk : Nat} (hg : Gl X "zip") (hm : X.mg "zip" = none) (ha : PA X [e, e2] ta)
    (hs : starEach [e, e2] X.env = (false, eval e X.env) :: starEach [e2] X.env := by rfl) (hpl : (backTo pos (starEach [e2] X.env)).any (·.1) = false := by rfl) :
    PI X (.Tuple elts kk tpos) (.Call (.Name "zip" p) [e, e2] [] pos) (iZs X.K false ta) := by
  refine ⟨fun pins s σ H R I h => ?_⟩
  refine Call_ (ld_blt I hg hm PyProof.Rows.boot_zip (PyProof.Rows.callWith_type1 (thn (ha.run pos pins s σ H _ I h) fun us s1 ⟨vs, H1, I1, r1, q1⟩ => ?_) hs hpl))
  obtain ⟨b1, b2, a, b, xs, ys, ex, hqx, hqy, q⟩ := q1
  subst ex
  cases r1 with
  | cons r rr =>
    cases rr with
    | cons r' rr =>
      cases rr
      cases r
      cases r'
      obtain ⟨its, rv, p1, la⟩ := inv_B I1 hqx
      obtain ⟨its2, rv2, p2, lb⟩ := inv_B I1 hqy
      exact zip_begins2 (beginsB (b := b1) a its.toArray) (beginsB (b := b2) b its2.toArray) p1 p2 fun h' hz hTI hTO h1 h2 hsz hk => zs_iter (b := false) hz (zs_pie I1 la lb q hz hTI hTO h1 h2 hk)
theorem callWith_typeKw {M : Model} {A : Around} {E : Value → Shared → Prop} {s : Shared} {pos : Pos} {T : String} {first : List Value} {args : List (Bool × Sem Value)} {keywords : List (Option Str × Sem Value)} {Q : Value → Shared → Prop}
    (hplain : args.any (·.1) = false) (hkw : keywords.any (·.1.isNone) = false)
    (h : wpAny M A (evalArgs (.type T) true args keywords) (fun a s₁ => wpAny M A (call (.type T) (first ++ a.pos) a.kw) Q E s₁) E s) :
    wpAny M A (callWith pos (.type T) first args keywords) Q E s := by
  unfold callWith
  refine wpAny_bind (wpAny_holding (wpAny_mono h (fun a s₁ h₁ => wpAny_bind (wpAny_standAt ?_)) fun _ _ x => x))
  simp only [hplain, hkw, Bool.or_false]
  refine wpAny_bind (wpAny_pure ?_)
  exact wpAny_bind (wpAny_mono h₁ (fun r s₂ hr => wpAny_bind (wpAny_holding (wpAny_point (wpAny_pure hr)))) fun _ _ x => x)
theorem pi_zs1 {X : Cx} {e e2 : Expr} {ta : TA} {p pos tpos kp cp : Pos} {c : Nat} {elts : List Expr} {kk : Nat} (hg : Gl X "zip") (hm : X.mg "zip" = none) (ha : PA X [e, e2] ta)
    (hs : starEach [e, e2] X.env = (false, eval e X.env) :: starEach [e2] X.env := by rfl) (hpl : (backTo pos (starEach [e, e2] X.env)).any (·.1) = false := by rfl) :
    PI X (.Tuple elts kk tpos) (.Call (.Name "zip" p) [e, e2] [⟨some "strict", .Constant (.bool true) c cp, kp⟩] pos) (iZs X.K true ta) := by
  refine ⟨fun pins s σ H R I h => ?_⟩
  refine wpAny_Call_Name_kw (ld_blt I hg hm PyProof.Rows.boot_zip (callWith_typeKw hpl (by rfl) (evalArgs_kw2 (by rfl) (thn (ha.run pos pins s σ H _ I h) fun us s1 ⟨vs, H1, I1, r1, q1⟩ => kwAll_cons ?_) hs)))
  refine thn (pe_bl.run pins s1 σ H1 (fun v H2 => v = .bl true ∧ H2 = H1) I1 ⟨rfl, rfl⟩) fun v s2 ⟨y, H2, I2, ry, ey, eH⟩ => kwAll_nil ?_
  subst ey eH
  cases ry
  obtain ⟨b1, b2, a, b, xs, ys, ex, hqx, hqy, q⟩ := q1
  subst ex
  cases r1 with
  | cons r rr =>
    cases rr with
    | cons r' rr =>
      cases rr
      cases r
      cases r'
      obtain ⟨its, rv, p1, la⟩ := inv_B I2 hqx
      obtain ⟨its2, rv2, p2, lb⟩ := inv_B I2 hqy
      exact zs_begins (beginsB (b := b1) a its.toArray) (beginsB (b := b2) b its2.toArray) p1 p2 fun h' hz hTI hTO h1 h2 hsz hk => zs_iter (b := true) hz (zs_pie I2 la lb q hz hTI hTO h1 h2 hk)
end L3
end

section
set_option Elab.async false
set_option linter.all false
set_option maxRecDepth 100000
set_option maxHeartbeats 1000000
set_option autoImplicit false
/-! L3 part y: zip as a walk. -/
namespace L3
open PySem PySem.Spec PyProof.Rows L2
section
variable {X : Cx} {C : Ct} {tg iter : Expr} {t : RE}
/-- the list or the tuple at a -/
def dB (b : Bool) (ds : List PyData) : PyData := if b then .list ds else .tuple ds
theorem dx_dB {K : PySem.W.Frag} {Z : Hp} {b : Bool} {a : Addr} {ds : List PyData} (h : Dx K Z (.ref a) (dB b ds)) : ∃ xs, SqB K b Z a xs ∧ DxAll K Z xs ds := by
  cases b
  · cases h with
    | tup h q => exact ⟨_, h, q⟩
  · cases h with
    | lst h q => exact ⟨_, h, q⟩
theorem sqB_mono {K : PySem.W.Frag} {H H' : Hp} {b : Bool} {a : Addr} {xs : List V} (e : Same H H') (h : SqB K b H a xs) : SqB K b H' a xs := by
  cases b
  · exact seqT_mono e h
  · exact e.seq h
theorem itd_zs {K : PySem.W.Frag} {st b1 b2 : Bool} {a b : Addr} {xs ys : List PyData} {pf : List (V × PyData)} (hx : (V.ref a, dB b1 xs) ∈ pf) (hy : (V.ref b, dB b2 ys) ∈ pf) (hst : st = true → xs.length = ys.length) : ItD X C pf (Izs X.K st b1 b2 a b) (zipD xs ys) where
  stop := fun σ H env feet H2 W sm => by
    obtain ⟨us, h, q⟩ := dx_dB (W.pin _ hx)
    obtain ⟨vs, h2, q2⟩ := dx_dB (W.pin _ hy)
    refine ⟨_, _, sqB_mono sm (sqB_mono hid_le h), sqB_mono sm (sqB_mono hid_le h2), ?_, ?_, ?_, fun e => ?_⟩
    · rw [q.lenD]; simp [zipD]; omega
    · rw [q2.lenD]; simp [zipD]; omega
    · rw [q.lenD, q2.lenD]; simp [zipD]; omega
    · rw [q.lenD, q2.lenD]; have := hst e; simp [zipD]; omega
  go := fun i σ H env feet H2 hi W sm => by
    obtain ⟨us, h, q⟩ := dx_dB (W.pin _ hx)
    obtain ⟨vs, h2, q2⟩ := dx_dB (W.pin _ hy)
    have hi' : i < xs.length ∧ i < ys.length := by simpa [zipD, Nat.lt_min] using hi
    obtain ⟨v, hv, _⟩ := q.atD (List.getElem?_eq_getElem hi'.1)
    obtain ⟨v2, hv2, _⟩ := q2.atD (List.getElem?_eq_getElem hi'.2)
    exact ⟨_, _, v, v2, sqB_mono sm (sqB_mono hid_le h), sqB_mono sm (sqB_mono hid_le h2), hv, hv2⟩
  yld := fun i x σ H env feet H2 H' hi W sm y => by
    obtain ⟨T, z, z2, rfl, hT, rfl, y, y2⟩ := y
    obtain ⟨us, h, q⟩ := dx_dB (W.pin _ hx)
    obtain ⟨vs, h2, q2⟩ := dx_dB (W.pin _ hy)
    have hi' : i < xs.length ∧ i < ys.length := by simpa [zipD, Nat.lt_min] using hi
    obtain ⟨v, hv, hd⟩ := q.atD (List.getElem?_eq_getElem hi'.1)
    obtain ⟨v2, hv2, hd2⟩ := q2.atD (List.getElem?_eq_getElem hi'.2)
    have e := y _ (sqB_mono sm (sqB_mono hid_le h))
    have e2 := y2 _ (sqB_mono sm (sqB_mono hid_le h2))
    rw [hv] at e
    rw [hv2] at e2
    cases e
    cases e2
    refine ⟨_, by simp [zipD, List.getElem?_zip_eq_some, hi'.1, hi'.2, List.getElem?_eq_getElem], .inr ⟨T, _, [xs[i], ys[i]], rfl, hT, rfl, .cons hd (.cons hd2 .nil), rfl⟩⟩
def iZip' (st : Bool) (ta : RA) : RI := fun env Q EX => ta env (fun l e => ∃ b1 b2 xs ys, l = [dB b1 xs, dB b2 ys] ∧ (st = true → xs.length = ys.length) ∧ Q (zipD xs ys) e) EX
theorem dx_ref {K : PySem.W.Frag} {Z : Hp} {v : V} {b : Bool} {ds : List PyData} (h : Dx K Z v (dB b ds)) : ∃ a, v = .ref a := by
  cases b
  · cases h with
    | tup h q => exact ⟨_, rfl⟩
  · cases h with
    | lst h q => exact ⟨_, rfl⟩
theorem zs_si {a b : Expr} {ta : RA} {st : Bool} {pos : Pos} (h : SA X C [a, b] ta) : ∀ σ H pf env feet Q EX (R : It → Hp → Prop), Wf X.K C pf σ H env feet [] → Tk X C pf EX → iZip' st ta env Q EX →
    (∀ J H1, (∃ items env1 feet1 pf1, Wf X.K C pf1 σ H1 env1 feet1 [] ∧ (∀ p ∈ pf, p ∈ pf1) ∧ ItD X C pf1 J items ∧ Q items env1) → R J H1) → iZs X.K st (aW X [a, b]) σ H R := fun σ H pf env feet Q EX R W tk q k => by
  refine (h σ H pf env feet _ EX W tk q).imp fun vs H1 ⟨l, e1, f1, W1, h1, b1, b2, xs, ys, hl, hs, q1⟩ => ?_
  subst hl
  cases h1 with
  | cons h1 h2 =>
    cases h2 with
    | cons h2 h3 =>
      cases h3
      obtain ⟨a, rfl⟩ := dx_ref h1
      obtain ⟨b, rfl⟩ := dx_ref h2
      obtain ⟨us, p1, _⟩ := dx_dB h1
      obtain ⟨vs, p2, _⟩ := dx_dB h2
      have W2 := (W1.pinned h1).pinned h2
      exact ⟨b1, b2, a, b, us, vs, rfl, sqB_mono hid_le p1, sqB_mono hid_le p2, k _ _ ⟨_, e1, f1, _, W2, fun p hp => List.mem_cons_of_mem _ (List.mem_cons_of_mem _ hp), itd_zs (K := X.K) (by simp) (by simp) hs, q1⟩⟩
theorem si_zip {a b : Expr} {ta : RA} {elts : List Expr} {kk : Nat} {tpos p pos : Pos} (hg : Gl X "zip") (hm : X.mg "zip" = none) (h : SA X C [a, b] ta) (hs : starEach [a, b] X.env = (false, eval a X.env) :: starEach [b] X.env := by rfl) (hpl : (backTo pos (starEach [b] X.env)).any (·.1) = false := by rfl) :
    SI X C (.Tuple elts kk tpos) (.Call (.Name "zip" p) [a, b] [] pos) (iZip' false ta) := ⟨_, pi_zs0 hg hm aW.pa hs hpl, zs_si (pos := pos) h⟩
theorem si_zipS {a b : Expr} {ta : RA} {elts : List Expr} {kk c : Nat} {tpos p pos kp cp : Pos} (hg : Gl X "zip") (hm : X.mg "zip" = none) (h : SA X C [a, b] ta) (hs : starEach [a, b] X.env = (false, eval a X.env) :: starEach [b] X.env := by rfl) (hpl : (backTo pos (starEach [a, b] X.env)).any (·.1) = false := by rfl) :
    SI X C (.Tuple elts kk tpos) (.Call (.Name "zip" p) [a, b] [⟨some "strict", .Constant (.bool true) c cp, kp⟩] pos) (iZip' true ta) := ⟨_, pi_zs1 hg hm aW.pa hs hpl, zs_si (pos := pos) h⟩
end
end L3
end

section
set_option Elab.async false
set_option linter.all false
set_option maxRecDepth 100000
set_option maxHeartbeats 1000000
set_option autoImplicit false
/-! L3 part z: more calls. -/
namespace L3
open PySem PySem.Spec PyProof.Rows L2
section
variable {X : Cx} {C : Ct} {pos : Pos} {es : List Expr} {ta : RA} {a b : Expr}
def CallVs (K : PySem.W.Frag) (r : List V → Hp → VK → Prop) (g : List PyData → Option Rs) : Prop := ∀ F H xs ds rs Q, (∀ a ∈ F, H a ≠ none) → DxAll K (hid H F) xs ds → g ds = some rs → (∀ v H' f, Same H H' → RsN K F H H' v rs f → Q v H') → r xs H Q
def eFn (g : List PyData → Option Rs) (ta : RA) : RE := fun env Q EX => ta env (fun l e => ∃ z, g l = some z ∧ Q z e) EX
theorem fn_core {r : List V → Hp → VK → Prop} {g : List PyData → Option Rs} (D : CallVs X.K r g) (ha : SA X C es ta) {σ : L2.St} {H : Hp} {pf : List (V × PyData)} {env : En} {feet : List (List Addr)} {Q : Rs → En → Prop} {EX : KX}
    (W : Wf X.K C pf σ H env feet []) (tk : Tk X C pf EX) (q : eFn g ta env Q EX) : tCB r (aW X es) σ H (Po X.K C pf σ Q) :=
  (ha σ H pf env feet _ EX W tk q).imp fun xs H1 ⟨l, e1, f1, W1, h1, z, ez, q1⟩ => by
    refine D (f1.flatten ++ []) H1 xs l z _ (fun a m => W1.rel.tr a (by rw [List.append_nil] at m; exact m)) h1 ez fun v H' f sm hn => ?_
    obtain ⟨W3, h3⟩ := W1.pure sm hn
    exact ⟨z, e1, f1, f, W3, h3, q1⟩
theorem se_fnB {x : Str} {p : Pos} {id : String} {r : List V → Hp → VK → Prop} {g : List PyData → Option Rs} (hc : CallR X (.builtin id) r) (D : CallVs X.K r g) (hg : Gl X x) (hm : X.mg x = none) (hv : bootBuiltins x = some (.builtin id)) (ha : SA X C (a :: es) ta) (hn : x ≠ "__name__" := by decide)
    (hdb : (x == ("__debug__" : Str)) = false := by decide) (he : starEach (a :: es) X.env = (false, eval a X.env) :: starEach es X.env := by rfl) (hpl : (backTo pos (starEach es X.env)).any (·.1) = false := by rfl) : SE X C (.Call (.Name x p) (a :: es) [] pos) (eFn g ta) :=
  .mk fun σ H pf env feet Q EX W tk q => eW.of (pe_callB hc hg hm hv aW.pa hn hdb he hpl) (fn_core D ha W tk q)
end
section
variable {K : PySem.W.Frag}
def boolsOf : List PyData → Option (List Bool)
  | [] => some []
  | .bool b :: r => (boolsOf r).map (b :: ·)
  | _ => none
theorem boolsOf_some : ∀ {ds : List PyData} {bs : List Bool}, boolsOf ds = some bs → ds = bs.map .bool
  | [], bs, h => by cases h; rfl
  | .bool b :: r, bs, h => by
    cases e : boolsOf r with
    | none => simp [boolsOf, e] at h
    | some l =>
      simp only [boolsOf, e, Option.map_some, Option.some.injEq] at h
      rw [← h, boolsOf_some e]
      rfl
  | .none :: r, bs, h => by cases h
  | .int _ :: r, bs, h => by cases h
  | .str _ :: r, bs, h => by cases h
  | .list _ :: r, bs, h => by cases h
  | .tuple _ :: r, bs, h => by cases h
  | .dict _ :: r, bs, h => by cases h
theorem boolsOf_map : ∀ bs : List Bool, boolsOf (bs.map .bool) = some bs
  | [] => rfl
  | b :: r => by simp [boolsOf, boolsOf_map r]
def gAll : PyData → Option Rs
  | .list ds => (boolsOf ds).map fun bs => .fz (.bool (bs.all id))
  | _ => none
def gAny : PyData → Option Rs
  | .list ds => (boolsOf ds).map fun bs => .fz (.bool (bs.any id))
  | _ => none
theorem callv_all : CallV K (rAll K) gAll := fun F H x d rs Q tr h hg k => by
  unfold gAll at hg
  split at hg
  · rename_i ds
    cases e : boolsOf ds with
    | none => rw [e] at hg; cases hg
    | some bs =>
      rw [e] at hg; cases hg
      have e2 := boolsOf_some e
      subst e2
      obtain ⟨p, vs, rfl, s1, q1⟩ := h.lst
      rw [q1.toBools] at s1
      exact ⟨p, bs, rfl, s1, k _ _ [] (Same.refl _) (rsn_v (.bl _))⟩
  · cases hg
theorem callv_any : CallV K (rAny K) gAny := fun F H x d rs Q tr h hg k => by
  unfold gAny at hg
  split at hg
  · rename_i ds
    cases e : boolsOf ds with
    | none => rw [e] at hg; cases hg
    | some bs =>
      rw [e] at hg; cases hg
      have e2 := boolsOf_some e
      subst e2
      obtain ⟨p, vs, rfl, s1, q1⟩ := h.lst
      rw [q1.toBools] at s1
      exact ⟨p, bs, rfl, s1, k _ _ [] (Same.refl _) (rsn_v (.bl _))⟩
  · cases hg
/-! int(i), int(b) -/
def gIntOf : PyData → Option Rs
  | .int i => some (fzI i)
  | .bool b => some (fzI (if b then 1 else 0))
  | _ => none
def rInt1 : List V → Hp → VK → Prop := fun xs H Q => (∃ i, xs = [.int i] ∧ Q (.int i) H) ∨ ∃ k, xs = [.bl k] ∧ Q (.int (if k then 1 else 0)) H
theorem callv_int : CallV K rInt1 gIntOf := fun F H x d rs Q tr h hg k => by
  unfold gIntOf at hg
  split at hg
  · cases hg
    rcases h with h | ⟨p, vs, ds, rfl, e, _⟩
    · cases h; exact .inl ⟨_, rfl, k _ _ [] (Same.refl _) rsn_int⟩
    · cases e
  · cases hg
    rcases h with h | ⟨p, vs, ds, rfl, e, _⟩
    · cases h; exact .inr ⟨_, rfl, k _ _ [] (Same.refl _) rsn_int⟩
    · cases e
  · cases hg
/-! min(i, j), max(i, j) -/
def gMin2 : List PyData → Option Rs
  | [.int i, .int j] => some (fzI (min i j))
  | _ => none
def gMax2 : List PyData → Option Rs
  | [.int i, .int j] => some (fzI (max i j))
  | _ => none
def rMin2 : List V → Hp → VK → Prop := fun xs H Q => ∃ i j, xs = [.int i, .int j] ∧ Q (.int (if j < i then j else i)) H
def rMax2 : List V → Hp → VK → Prop := fun xs H Q => ∃ i j, xs = [.int i, .int j] ∧ Q (.int (if j > i then j else i)) H
theorem dx_int {Z : Hp} {v : V} {i : Int} (h : Dx K Z v (.int i)) : v = .int i := by cases h; rfl
theorem callv_min2 : CallVs K rMin2 gMin2 := fun F H xs ds rs Q tr h hg k => by
  unfold gMin2 at hg
  split at hg
  · cases hg
    cases h with
    | cons h1 h2 => cases h2 with
      | cons h2 h3 =>
        cases h3
        cases h1; cases h2
        rename_i i j
        refine ⟨i, j, rfl, ?_⟩
        have : (if j < i then j else i) = min i j := by split <;> omega
        rw [this]
        exact k _ _ [] (Same.refl _) rsn_int
  · cases hg
theorem callv_max2 : CallVs K rMax2 gMax2 := fun F H xs ds rs Q tr h hg k => by
  unfold gMax2 at hg
  split at hg
  · cases hg
    cases h with
    | cons h1 h2 => cases h2 with
      | cons h2 h3 =>
        cases h3
        cases h1; cases h2
        rename_i i j
        refine ⟨i, j, rfl, ?_⟩
        have : (if j > i then j else i) = max i j := by split <;> omega
        rw [this]
        exact k _ _ [] (Same.refl _) rsn_int
  · cases hg
theorem bt_all : bootBuiltins "all" = some (.builtin "all") := by decide +kernel
theorem bt_any : bootBuiltins "any" = some (.builtin "any") := by decide +kernel
theorem bt_min : bootBuiltins "min" = some (.builtin "min") := by decide +kernel
theorem bt_max : bootBuiltins "max" = some (.builtin "max") := by decide +kernel
theorem bt_set : bootBuiltins "set" = some (.type "set") := by decide +kernel
theorem bt_dict : bootBuiltins "dict" = some (.type "dict") := by decide +kernel
end
/-! ### list(range(n)), tuple(range(n)) -/
section
variable {X : Cx} {C : Ct} {pos : Pos} {a : Expr} {t : RE}
theorem rngI_vals (lo : Int) (n : Nat) : rngI lo n = ((List.range n).map fun i => lo + ((i : Nat) : Int)).map .int := by simp [rngI]
theorem dx_rg {K : PySem.W.Frag} {Z : Hp} (x y : Int) : DxAll K Z (rgV x y) (rngI x (y - x).toNat) := by
  have e : rgV x y = ((List.range (y - x).toNat).map fun i => x + ((i : Nat) : Int)).map V.int := by simp [rgV]
  rw [e, rngI_vals]
  exact .ofInts _
def eLRng (t : RE) : RE := fun env Q EX => vl t env (fun d e => ∃ n, d = .int n ∧ n ≤ 16777216 ∧ -(2 ^ 62) ≤ n ∧ Q (.nw (.ls (rngI 0 n.toNat))) e) EX
def eTRng (t : RE) : RE := fun env Q EX => vl t env (fun d e => ∃ n, d = .int n ∧ n ≤ 16777216 ∧ -(2 ^ 62) ≤ n ∧ Q (.fz (.tuple (rngI 0 n.toNat))) e) EX
theorem rg_ok {n : Int} (h : n ≤ 16777216) (h2 : -(2 ^ 62) ≤ n) : RgOk 0 n := ⟨by omega, by omega, by omega, by omega, by omega⟩
theorem se_lrng {p p2 pos2 : Pos} (hc : X.calm = true) (hg : Gl X "list") (hm : X.mg "list" = none) (hg2 : Gl X "range") (hm2 : X.mg "range" = none) (h : SE X C a t)
    (na : starEach [a] X.env = (false, eval a X.env) :: starEach [] X.env := by rfl) (nb : starEach [.Call (.Name "range" p2) [a] [] pos2] X.env = (false, eval (.Call (.Name "range" p2) [a] [] pos2) X.env) :: starEach [] X.env := by rfl) :
    SE X C (.Call (.Name "list" p) [.Call (.Name "range" p2) [a] [] pos2] [] pos) (eLRng t) := .mk fun σ H pf env feet Q EX W tk q => by
  refine eW.of (pe_listRg hc hg hm (prg_1 hg2 hm2 eW.pe na) nb) ?_
  refine (h.v σ H pf env feet _ EX W tk q).imp fun v H1 ⟨d, e1, f1, W1, h1, n, hd, l1, l2, q1⟩ => ?_
  subst hd
  cases h1
  refine ⟨n, rfl, rg_ok l1 l2, fun p hp => ?_⟩
  obtain ⟨W2, h2⟩ := W1.pure (same_new hp) (rsn_lst hp (dx_rg 0 n))
  refine ⟨_, e1, f1, _, W2, h2, ?_⟩
  rw [Int.sub_zero]
  exact q1
theorem se_trng {p p2 pos2 : Pos} (hc : X.calm = true) (hg : Gl X "tuple") (hm : X.mg "tuple" = none) (hg2 : Gl X "range") (hm2 : X.mg "range" = none) (h : SE X C a t)
    (na : starEach [a] X.env = (false, eval a X.env) :: starEach [] X.env := by rfl) (nb : starEach [.Call (.Name "range" p2) [a] [] pos2] X.env = (false, eval (.Call (.Name "range" p2) [a] [] pos2) X.env) :: starEach [] X.env := by rfl) :
    SE X C (.Call (.Name "tuple" p) [.Call (.Name "range" p2) [a] [] pos2] [] pos) (eTRng t) := .mk fun σ H pf env feet Q EX W tk q => by
  refine eW.of (pe_tupRg hc hg hm (prg_1 hg2 hm2 eW.pe na) nb) ?_
  refine (h.v σ H pf env feet _ EX W tk q).imp fun v H1 ⟨d, e1, f1, W1, h1, n, hd, l1, l2, q1⟩ => ?_
  subst hd
  cases h1
  refine ⟨n, rfl, rg_ok l1 l2, fun p hp => ?_⟩
  obtain ⟨W2, h2⟩ := W1.pure (same_new hp) (rsn_tup (fun a m => W1.rel.tr a (by rw [List.append_nil] at m; exact m)) hp (dx_rg 0 n))
  refine ⟨_, e1, f1, _, W2, h2, ?_⟩
  rw [Int.sub_zero]
  exact q1
end
end L3
end

section
set_option Elab.async false
set_option linter.all false
set_option maxRecDepth 100000
set_option maxHeartbeats 1000000
set_option autoImplicit false
/-! L3 part aa: sorted by sight. -/
namespace L3
open PySem PySem.Spec PyProof.Rows L2
section
variable {prog : Program} {w : World} {A : Around} {E : Value → Shared → Prop} {s : Shared}
theorem collect_tup {l : Addr} {vs : List Value} {Q : List Value → Shared → Prop} (hl : s.heap.IsTuple l vs.toArray)
    (h : Q vs { s with heap := (s.heap.push (seqObj "list" #[] 0)).update s.heap.objs.size (Obj.mapSeq (· ++ vs.toArray)) }) (hsz : vs.length ≤ sizeLine) :
    wpAny (model prog w) A (collect (.ref l)) Q E s := by
  obtain ⟨o, ho, hc, n, hd⟩ := id hl
  unfold collect
  refine wpAny_bind (wpAny_runValue (codeAny_builtin entry_proto_collect' ?_))
  show wpAny _ _ (do again (.builtin "list.__iadd__" ⟨[← newList [], .ref l], []⟩)) _ _ s
  refine wpAny_bind (wpAny_newList (wpAny_pure ⟨Code.quiet_builtin _ (by decide +kernel), codeAny_builtin entry_list_iadd' ?_⟩))
  show wpAny _ _ (Builtin.List.listExtendWith (.ref s.heap.objs.size) (.ref l) (.ref s.heap.objs.size)) _ _ { s with heap := s.heap.push (seqObj "list" #[] 0) }
  unfold Builtin.List.listExtendWith
  have ho' : (s.heap.push (seqObj "list" #[] 0)).get? l = some o := Heap.get?_push_of_some _ ho
  refine wpAny_bind (wpAny_typeOf (T := "tuple") ⟨o, ho', hc⟩ ?_)
  have ht : (Value.type "tuple" == Value.type "tuple") = true := by rfl
  rw [if_pos (by rw [ht]; simp)]
  refine wpAny_bind (listItems_at ho' hd ?_)
  refine wpAny_bind (listItems_at (xs := #[]) (n := 0) (Heap.get?_push_size _ rfl) rfl ?_)
  rw [if_neg (by simp)]
  refine wpAny_bind (listUpdate_at (xs := #[]) (n := 0) (Heap.get?_push_size _ rfl) rfl ?_ (Nat.zero_le _) (by show (#[] ++ vs.toArray).size ≤ sizeLine + 1; simp only [Array.size_append, List.size_toArray, List.length_nil]; omega))
  refine wpAny_pure ?_
  show wpAny (model prog w) A (do
      let o ← load s.heap.objs.size
      match o.data with
      | .seq xs _ => pure xs.toList
      | _ => unsupported "internal:collect") Q E { s with heap := (s.heap.push (seqObj "list" #[] 0)).update s.heap.objs.size (Obj.mapSeq (· ++ vs.toArray)) }
  refine wpAny_bind (wpAny_load (get?_update_seq (Heap.get?_push_size _ rfl) _) ?_)
  show wpAny _ _ (pure ((#[] : Array Value) ++ vs.toArray).toList) Q E _
  rw [show ((#[] : Array Value) ++ vs.toArray).toList = vs by simp]
  exact wpAny_pure h
open SrtO in
theorem sorted_ordT {l : Addr} {vs : List Value} {ltv : Value → Value → Bool} {Q : Value → Shared → Prop} (O : Swo ltv) (hl : s.heap.IsTuple l vs.toArray) (hz : vs.length ≤ sizeLine)
    (hS : 2 ≤ vs.length → ∀ (h₁ : Heap) (a : Addr), h₁.get? a = some (seqObj "list" vs.toArray 0) → (∀ b o, s.heap.get? b = some o → b ≠ a ∧ h₁.get? b = some o) → SortableO prog w A.in1.in1 { s with heap := h₁ } a vs ltv)
    (h : ∀ out : List Value, Srtd ltv out → Stb ltv out vs → Q (.ref (s.heap.objs.size + 1)) { s with heap := sortedAll s.heap vs out.toArray }) :
    wpAny (model prog w) A (call (.builtin "sorted") [.ref l]) Q E s := by
  refine Calls.call_function_entry kind_sorted plain_sorted entry_sorted (args_sorted1 _) ?_
  unfold Builtin.«sorted»
  refine wpAny_bind (m := checkCount "sorted" 1 1 _) (wpAny_pure ?_)
  refine wpAny_bind (collect_tup hl ?_ hz)
  refine wpAny_bind (wpAny_newList ?_ hz)
  have hsz : ((s.heap.push (seqObj "list" #[] 0)).update s.heap.objs.size (Obj.mapSeq (· ++ vs.toArray))).objs.size = s.heap.objs.size + 1 := by
    rw [Heap.size_update, size_push']
  have hoL : (((s.heap.push (seqObj "list" #[] 0)).update s.heap.objs.size (Obj.mapSeq (· ++ vs.toArray))).push (seqObj "list" vs.toArray 0)).get? (s.heap.objs.size + 1) = some (seqObj "list" vs.toArray 0) := by
    rw [← hsz]; exact Heap.get?_push_size _ rfl
  have keep : ∀ b o, s.heap.get? b = some o → b ≠ s.heap.objs.size + 1 ∧ (((s.heap.push (seqObj "list" #[] 0)).update s.heap.objs.size (Obj.mapSeq (· ++ vs.toArray))).push (seqObj "list" vs.toArray 0)).get? b = some o := fun b o q => by
    have hlt : b < s.heap.objs.size := Heap.lt_size q
    refine ⟨Nat.ne_of_lt (Nat.lt_succ_of_lt hlt), Heap.get?_push_of_some _ ?_⟩
    rw [Heap.get?_update_ne _ _ _ _ (Nat.ne_of_lt hlt)]
    exact Heap.get?_push_of_some _ q
  show wpAny _ _ _ _ _ { s with heap := ((s.heap.push (seqObj "list" #[] 0)).update s.heap.objs.size (Obj.mapSeq (· ++ vs.toArray))).push (seqObj "list" vs.toArray 0) }
  rw [hsz]
  refine wpAny_bind (wpAny_holding (wpAny_call_entry slot_list_sort ⟨_, hoL, rfl⟩ entry_list_sort (list_sort_ord O hoL hz (fun h2 => hS h2 _ _ hoL keep) fun out hs hb => ⟨_, rfl, ?_⟩) (args_list_sort _)))
  exact wpAny_pure ⟨_, rfl, h out hs hb⟩
end
/-- sorted(x), x a list or a tuple of ints -/
def rSrtI (K : PySem.W.Frag) : List V → Hp → VK → Prop := fun vs H Q => ∃ (b : Bool) (a : Addr) (ns : List Int), vs = [V.ref a] ∧ SqB K b H a (ns.map V.int) ∧
  ∀ (ns' : List Int) (p : Addr), ns'.Perm ns → ns'.Pairwise (· ≤ ·) → H p = none → Q (.ref p) (upd H p (.lst (ns'.map V.int)))
theorem cr_srtI {X : Cx} : CallR X (.builtin "sorted") (rSrtI X.K) := by
  intro pins s σ H vs us Q I r h
  obtain ⟨b, a, ns, e, hs, q⟩ := h
  cases b
  · subst e
    obtain ⟨its, rv, hl, hz⟩ := I.tuple hs
    rw [Vals.ref1 r]
    have hi := rv.ints
    refine sorted_ordT SrtO.swo_int (show s.heap.IsTuple a its.toArray from hl) (by rw [← rv.length]; exact hz) (fun h2 h₁ a' _ _ => SrtO.ints_sortable hi h2) fun out h1 h2 => ?_
    obtain ⟨k1, k2, k3⟩ := SrtO.ints_out hi h1 h2
    obtain ⟨ep, he'⟩ := PyProof.Rows.sortedAll_at s.heap its out.toArray
    have hlen : ((out.map SrtO.iv).map V.int).length ≤ sizeLine := by
      rw [List.length_map, k2.length_eq]
      rw [List.length_map] at hz
      exact hz
    exact ⟨.ref _, upd H (s.heap.objs.size + 1) (.lst ((out.map SrtO.iv).map V.int)), I.laid (t' := s.toks) (fun _ _ => PyProof.Rows.sortedAll_old) (Nat.le_succ _) ⟨hlen, out, ep, vals_of_ints k1, he'⟩, rfl, q _ _ k2 k3 (I.hok.fresh (Nat.le_succ _))⟩
  · exact cr_sortedI pins s σ H vs us Q I r ⟨a, ns, e, hs, q⟩
theorem srt_uniq : ∀ {a b : List Int}, a.Perm b → a.Pairwise (· ≤ ·) → b.Pairwise (· ≤ ·) → a = b
  | [], b, h, _, _ => (List.nil_perm.mp h).symm
  | x :: a, [], h, _, _ => by have := h.length_eq; simp at this
  | x :: a, y :: b, h, h1, h2 => by
    rw [List.pairwise_cons] at h1 h2
    have e : x = y := by
      have m1 : x ∈ y :: b := h.mem_iff.mp (List.mem_cons_self ..)
      have m2 : y ∈ x :: a := h.mem_iff.mpr (List.mem_cons_self ..)
      rcases List.mem_cons.mp m1 with e | m1
      · exact e
      · rcases List.mem_cons.mp m2 with e | m2
        · exact e.symm
        · have := h2.1 x m1
          have := h1.1 y m2
          omega
    subst e
    rw [srt_uniq (List.Perm.cons_inv h) h1.2 h2.2]
def insI (x : Int) : List Int → List Int
  | [] => [x]
  | y :: r => if x ≤ y then x :: y :: r else y :: insI x r
def srtI (ns : List Int) : List Int := ns.foldr insI []
theorem insI_perm (x : Int) : ∀ l : List Int, (insI x l).Perm (x :: l)
  | [] => .refl _
  | y :: r => by
    unfold insI
    split
    · exact .refl _
    · exact ((insI_perm x r).cons y).trans (.swap ..)
theorem insI_srt (x : Int) : ∀ l : List Int, l.Pairwise (· ≤ ·) → (insI x l).Pairwise (· ≤ ·)
  | [], _ => by simp [insI]
  | y :: r, h => by
    unfold insI
    rw [List.pairwise_cons] at h
    split
    · rename_i c
      refine List.pairwise_cons.mpr ⟨fun z hz => ?_, List.pairwise_cons.mpr h⟩
      rcases List.mem_cons.mp hz with e | m
      · omega
      · have := h.1 z m; omega
    · rename_i c
      refine List.pairwise_cons.mpr ⟨fun z hz => ?_, insI_srt x r h.2⟩
      rcases List.mem_cons.mp ((insI_perm x r).mem_iff.mp hz) with e | m
      · omega
      · exact h.1 z m
theorem srtI_perm : ∀ ns : List Int, (srtI ns).Perm ns
  | [] => .refl _
  | x :: r => (insI_perm x _).trans ((srtI_perm r).cons x)
theorem srtI_srt : ∀ ns : List Int, (srtI ns).Pairwise (· ≤ ·)
  | [] => by simp [srtI]
  | x :: r => insI_srt x _ (srtI_srt r)
theorem srtI_eq {ns ms : List Int} (h : ms.Perm ns) (s : ms.Pairwise (· ≤ ·)) : ms = srtI ns := srt_uniq (h.trans (srtI_perm ns).symm) s (srtI_srt ns)
/-- sorted(x) of ints -/
def gSorted : PyData → Option Rs
  | .list ds => (intsOf ds).map fun ns => .nw (.ls ((srtI ns).map .int))
  | .tuple ds => (intsOf ds).map fun ns => .nw (.ls ((srtI ns).map .int))
  | _ => none
theorem callv_sorted {K : PySem.W.Frag} : CallV K (rSrtI K) gSorted := fun F H x d rs Q tr h hg k => by
  unfold gSorted at hg
  split at hg
  · rename_i ds
    cases e : intsOf ds with
    | none => rw [e] at hg; cases hg
    | some ns =>
      rw [e] at hg; cases hg
      have e2 := intsOf_some e
      subst e2
      obtain ⟨p, vs, rfl, s1, q1⟩ := h.lst
      rw [q1.toInts] at s1
      refine ⟨true, p, ns, rfl, s1, fun ns' p' h1 h2 hp => ?_⟩
      rw [srtI_eq h1 h2]
      exact k _ _ _ (same_new hp) (rsn_lst hp (.ofInts _))
  · rename_i ds
    cases e : intsOf ds with
    | none => rw [e] at hg; cases hg
    | some ns =>
      rw [e] at hg; cases hg
      have e2 := intsOf_some e
      subst e2
      obtain ⟨p, vs, rfl, s1, s2, q1⟩ := h.tup
      rw [q1.toInts] at s1
      refine ⟨false, p, ns, rfl, s1, fun ns' p' h1 h2 hp => ?_⟩
      rw [srtI_eq h1 h2]
      exact k _ _ _ (same_new hp) (rsn_lst hp (.ofInts _))
  · cases hg
end L3
end

section
set_option Elab.async false
set_option linter.all false
set_option maxRecDepth 100000
set_option maxHeartbeats 1000000
set_option autoImplicit false
/-! L3 part ab: index, count by sight. -/
namespace L3
open PySem PySem.Spec PyProof.Rows L2
section
variable {X : Cx}
/-- x.index(y), x a list (b) or a tuple: the first place of an equal one -/
def rIndB (K : PySem.W.Frag) (b : Bool) : V → List V → Hp → VK → Prop := fun x xs H Q => ∃ (a : Addr) (y : V) (d : PyData) (ds : List PyData) (j : Nat) (z : PyData), x = V.ref a ∧ xs = [y] ∧ Dp K H (V.ref a) (dB b ds) ∧ Dp K H y d ∧
  SeqAt.shaped (dB b ds) = true ∧ SeqAt.shaped d = true ∧ ds[j]? = some z ∧ PyData.eqv z d = true ∧ (∀ (m : Nat) (z' : PyData), m < j → ds[m]? = some z' → PyData.eqv z' d = false) ∧ Q (.int (j : Nat)) H
theorem mt_tindexD (hu : X.A.units + 65 < cLine) : MtR X "tuple.index" (rIndB X.K false) := by
  intro pins s σ H x xs v us Q I rx rxs h
  obtain ⟨a, y, d, ds, j, z, rfl, rfl, hl, hy, sl, sd, hz, hzj, hno, q⟩ := h
  cases rx
  cases rxs with
  | cons ry rt =>
    rename_i uy ut
    cases rt
    obtain ⟨bs, r1⟩ := Dp.reads I d y uy hy ry
    have hxs : PyData.canLayAll0 ds = true := SeqAt.canLay_of_shaped sl
    have hroom : X.A.units + 1 + min (PyData.depthAll ds) d.depth < cLine := room_in_shaped sd hu
    cases hl with
    | tup hs ha =>
      obtain ⟨its, rv, ⟨⟨cls, dd, data, sls⟩, ho, hc, n, hdt⟩, hlen⟩ := I.tuple hs
      simp only at hc hdt
      subst hc hdt
      obtain ⟨as, h4⟩ := Dp.readsAll I ds _ its ha rv
      have hn : its.length = ds.length := SeqAt.ReadsAll.length ds its as h4
      have hmap : its.map (SeqAt.readOf s.heap) = ds := SeqAt.readsAll_map ds its as hxs h4
      have hvl := rv.length
      have hsl := sizeLine_eq
      obtain ⟨hjd, _⟩ := List.getElem?_eq_some_iff.mp hz
      have hjl : j < its.length := by omega
      have hj : j < its.toArray.size := by simpa using hjl
      have at_ : ∀ (m : Nat) (hm : m < its.toArray.size) (z' : PyData), ds[m]? = some z' → SeqAt.readOf s.heap its.toArray[m] = z' := by
        intro m hm z' hz'
        have hml : m < its.length := by simpa using hm
        rw [← hmap, List.getElem?_map, List.getElem?_eq_getElem hml] at hz'
        have e1 : SeqAt.readOf s.heap its[m] = z' := Option.some.inj (show some (SeqAt.readOf s.heap its[m]) = some z' from hz')
        simpa using e1
      have he := SeqAt.items_eqAt (vs := its.toArray) (show ReadsAll s.heap its.toArray.toList ds as from h4) r1 hxs (SeqAt.canLay_of_shaped sd) hroom
      refine call_meets PySem.F.slot_tuple_index ⟨_, ho, rfl⟩ PySem.F.entry_tuple_index (PySem.F.args_tuple_index_2 _ _)
        (SeqAt.tuple_index2_found a its.toArray n dd sls uy (fun u => match its.toArray[u]? with | some u => PyData.eqv (SeqAt.readOf s.heap u) d | none => false) j hj (Nat.zero_le _) hj ?_ ?_) ⟨ho, fun m hm => ?_, ?_⟩
      · simp only [Array.getElem?_eq_getElem hj]
        rw [at_ j hj z hz]
        exact hzj
      · intro m hm _ hmj
        have hmd : m < ds.length := by omega
        have hz' : ds[m]? = some ds[m] := List.getElem?_eq_getElem hmd
        simp only [Array.getElem?_eq_getElem hm]
        rw [at_ m hm _ hz']
        exact hno m _ hmj hz'
      · simp only [Array.getElem?_eq_getElem hm]
        exact he _ (Array.getElem_mem hm)
      · exact ⟨.int (j : Nat), H, I.tok _, ⟨_, rfl⟩, q⟩
end
end L3
end

section
set_option Elab.async false
set_option linter.all false
set_option maxRecDepth 100000
set_option maxHeartbeats 1000000
set_option autoImplicit false
/-! L3 part ac: dicts of int and text keys; an instance of House: its parts. -/
namespace L3
open PySem PySem.Spec PyProof.Rows L2
/-! ### dicts as data -/
abbrev DKs := List (L2.Key × PyData)
def kval (kvs : DKs) (k : L2.Key) : Option PyData := (kvs.find? fun kv => decide (kv.1 = k)).map (·.2)
def kput (kvs : DKs) (k : L2.Key) (v : PyData) : DKs := if (kvs.any fun kv => decide (kv.1 = k)) = true then kvs.map (fun kv => if kv.1 = k then (kv.1, v) else kv) else kvs ++ [(k, v)]
def kdrop (kvs : DKs) (k : L2.Key) : DKs := kvs.filter fun kv => decide (kv.1 ≠ k)
def DkR (K : PySem.W.Frag) (Z : Hp) (xs : List (L2.Key × V)) (kvs : DKs) : Prop := xs.map (·.1) = kvs.map (·.1) ∧ DxAll K Z (xs.map (·.2)) (kvs.map (·.2))
section
variable {K : PySem.W.Frag} {Z Z' : Hp}
theorem DkR.mono {xs : List (L2.Key × V)} {kvs : DKs} (h : DkR K Z xs kvs) (e : Same Z Z') : DkR K Z' xs kvs := ⟨h.1, dxAll_mono e h.2⟩
theorem DkR.len {xs : List (L2.Key × V)} {kvs : DKs} (h : DkR K Z xs kvs) : xs.length = kvs.length := by simpa using congrArg List.length h.1
theorem DkR.nil : DkR K Z [] [] := ⟨rfl, .nil⟩
theorem dk_cons {x : L2.Key × V} {p : L2.Key × PyData} {xs : List (L2.Key × V)} {kvs : DKs} : DkR K Z (x :: xs) (p :: kvs) ↔ x.1 = p.1 ∧ Dx K Z x.2 p.2 ∧ DkR K Z xs kvs := by
  constructor
  · rintro ⟨h1, h2⟩
    rw [List.map_cons, List.map_cons, List.cons.injEq] at h1
    cases h2 with
    | cons a b => exact ⟨h1.1, a, h1.2, b⟩
  · rintro ⟨h1, h2, h3, h4⟩
    exact ⟨by rw [List.map_cons, List.map_cons, h1, h3], .cons h2 h4⟩
theorem dk_any (k : L2.Key) : ∀ {xs : List (L2.Key × V)} {kvs : DKs}, DkR K Z xs kvs → (xs.any fun kv => decide (kv.1 = k)) = (kvs.any fun kv => decide (kv.1 = k))
  | [], [], _ => rfl
  | [], _ :: _, h => by cases h.2
  | _ :: _, [], h => by cases h.2
  | x :: xs, p :: kvs, h => by
    obtain ⟨h1, _, h3⟩ := dk_cons.mp h
    rw [List.any_cons, List.any_cons, h1, dk_any k h3]
theorem dk_val (k : L2.Key) : ∀ {xs : List (L2.Key × V)} {kvs : DKs}, DkR K Z xs kvs → (valV xs k = none ∧ kval kvs k = none) ∨ ∃ v d, valV xs k = some v ∧ kval kvs k = some d ∧ Dx K Z v d
  | [], [], _ => .inl ⟨rfl, rfl⟩
  | [], _ :: _, h => by cases h.2
  | _ :: _, [], h => by cases h.2
  | x :: xs, p :: kvs, h => by
    obtain ⟨h1, h2, h3⟩ := dk_cons.mp h
    by_cases e : p.1 = k
    · have e' : x.1 = k := h1.trans e
      exact .inr ⟨x.2, p.2, by simp [valV, List.find?_cons, e'], by simp [kval, List.find?_cons, e], h2⟩
    · have e' : ¬ x.1 = k := fun z => e (h1.symm.trans z)
      have a1 : valV (x :: xs) k = valV xs k := by simp [valV, List.find?_cons, e']
      have a2 : kval (p :: kvs) k = kval kvs k := by simp [kval, List.find?_cons, e]
      rw [a1, a2]
      exact dk_val k h3
theorem dk_isSome (k : L2.Key) {xs : List (L2.Key × V)} {kvs : DKs} (h : DkR K Z xs kvs) : (valV xs k).isSome = (kval kvs k).isSome := by
  rcases dk_val k h with ⟨a, b⟩ | ⟨v, d, a, b, _⟩ <;> rw [a, b] <;> rfl
theorem dk_map {k : L2.Key} {v : V} {d : PyData} (hd : Dx K Z v d) : ∀ {xs : List (L2.Key × V)} {kvs : DKs}, DkR K Z xs kvs → DkR K Z (xs.map fun kv => if kv.1 = k then (kv.1, v) else kv) (kvs.map fun kv => if kv.1 = k then (kv.1, d) else kv)
  | [], [], _ => .nil
  | [], _ :: _, h => by cases h.2
  | _ :: _, [], h => by cases h.2
  | x :: xs, p :: kvs, h => by
    obtain ⟨h1, h2, h3⟩ := dk_cons.mp h
    rw [List.map_cons, List.map_cons]
    refine dk_cons.mpr ⟨?_, ?_, dk_map hd h3⟩
    · by_cases e : p.1 = k
      · rw [if_pos e, if_pos (h1.trans e)]; exact h1
      · rw [if_neg e, if_neg fun z => e (h1.symm.trans z)]; exact h1
    · by_cases e : p.1 = k
      · rw [if_pos e, if_pos (h1.trans e)]; exact hd
      · rw [if_neg e, if_neg fun z => e (h1.symm.trans z)]; exact h2
theorem dk_put {k : L2.Key} {v : V} {d : PyData} {xs : List (L2.Key × V)} {kvs : DKs} (h : DkR K Z xs kvs) (hd : Dx K Z v d) : DkR K Z (putK xs k v) (kput kvs k d) := by
  unfold putK kput
  rw [dk_any k h]
  by_cases e : (kvs.any fun kv => decide (kv.1 = k)) = true
  · rw [if_pos e, if_pos e]
    exact dk_map hd h
  · rw [if_neg e, if_neg e]
    refine ⟨by rw [List.map_append, List.map_append, h.1]; rfl, ?_⟩
    rw [List.map_append, List.map_append]
    exact h.2.app (.one hd)
theorem dk_drop (k : L2.Key) : ∀ {xs : List (L2.Key × V)} {kvs : DKs}, DkR K Z xs kvs → DkR K Z (dropK xs k) (kdrop kvs k)
  | [], [], _ => .nil
  | [], _ :: _, h => by cases h.2
  | _ :: _, [], h => by cases h.2
  | x :: xs, p :: kvs, h => by
    obtain ⟨h1, h2, h3⟩ := dk_cons.mp h
    unfold dropK kdrop
    by_cases e : p.1 = k
    · rw [List.filter_cons_of_neg (by simp [h1.trans e]), List.filter_cons_of_neg (by simp [e])]
      exact dk_drop k h3
    · rw [List.filter_cons_of_pos (by simp only [decide_eq_true_eq]; exact fun z => e (h1.symm.trans z)), List.filter_cons_of_pos (by simp only [decide_eq_true_eq]; exact e)]
      exact dk_cons.mpr ⟨h1, h2, dk_drop k h3⟩
end
/-! ### a House in a slot -/
/-- what is known of the class House -/
structure HF (K : PySem.W.Frag) : Prop where
  cl : Cls K (He.ga K "House")
  nk : NoAttr K (He.ga K "House") "kept"
  nr : NoAttr K (He.ga K "House") "rows"
  nh : NoAttr K (He.ga K "House") "held"
def hsF (v : V) (r l : Addr) : List (Str × V) := [("kept", v), ("rows", .ref r), ("held", .ref l)]
theorem kKR : ¬ (("kept" : Str) = "rows") := by decide +kernel
theorem kKH : ¬ (("kept" : Str) = "held") := by decide +kernel
theorem kRH : ¬ (("rows" : Str) = "held") := by decide +kernel
theorem kRK : ¬ (("rows" : Str) = "kept") := by decide +kernel
theorem kHK : ¬ (("held" : Str) = "kept") := by decide +kernel
theorem kHR : ¬ (("held" : Str) = "rows") := by decide +kernel
def hsF1 (v : V) : List (Str × V) := [("kept", v)]
def hsF2 (v u : V) : List (Str × V) := [("kept", v), ("rows", u)]
def hsF3 (v u t : V) : List (Str × V) := [("kept", v), ("rows", u), ("held", t)]
theorem put_k0 (v : V) : putF "kept" v [] = hsF1 v := rfl
theorem put_r0 (v u : V) : putF "rows" u (hsF1 v) = hsF2 v u := by
  show (if ("kept" : Str) = "rows" then (("kept" : Str), u) :: [] else (("kept" : Str), v) :: putF "rows" u []) = hsF2 v u
  rw [if_neg kKR]
  rfl
theorem put_h0 (v u t : V) : putF "held" t (hsF2 v u) = hsF3 v u t := by
  show (if ("kept" : Str) = "held" then (("kept" : Str), t) :: [(("rows" : Str), u)] else (("kept" : Str), v) :: (if ("rows" : Str) = "held" then (("rows" : Str), t) :: [] else (("rows" : Str), u) :: putF "held" t [])) = hsF3 v u t
  rw [if_neg kKH, if_neg kRH]
  rfl
theorem put_k (v y : V) (r l : Addr) : putF "kept" y (hsF v r l) = hsF y r l := by
  show (if ("kept" : Str) = "kept" then (("kept" : Str), y) :: [(("rows" : Str), V.ref r), ("held", .ref l)] else (("kept" : Str), v) :: putF "kept" y [(("rows" : Str), V.ref r), ("held", .ref l)]) = hsF y r l
  rw [if_pos rfl]
  rfl
theorem put_r (v : V) (r l q : Addr) : putF "rows" (.ref q) (hsF v r l) = hsF v q l := by
  show (if ("kept" : Str) = "rows" then (("kept" : Str), V.ref q) :: [(("rows" : Str), V.ref r), ("held", .ref l)] else (("kept" : Str), v) :: (if ("rows" : Str) = "rows" then (("rows" : Str), V.ref q) :: [(("held" : Str), V.ref l)] else (("rows" : Str), V.ref r) :: putF "rows" (.ref q) [(("held" : Str), V.ref l)])) = hsF v q l
  rw [if_neg kKR, if_pos rfl]
  rfl
theorem put_h (v : V) (r l q : Addr) : putF "held" (.ref q) (hsF v r l) = hsF v r q := by
  show (if ("kept" : Str) = "held" then (("kept" : Str), V.ref q) :: [(("rows" : Str), V.ref r), ("held", .ref l)] else (("kept" : Str), v) :: (if ("rows" : Str) = "held" then (("rows" : Str), V.ref q) :: [(("held" : Str), V.ref l)] else (("rows" : Str), V.ref r) :: (if ("held" : Str) = "held" then [(("held" : Str), V.ref q)] else (("held" : Str), V.ref l) :: putF "held" (.ref q) []))) = hsF v r q
  rw [if_neg kKH, if_neg kRH, if_pos rfl]
  rfl
theorem hsF_eq (v : V) (r l : Addr) : hsF v r l = putF "held" (.ref l) (putF "rows" (.ref r) (putF "kept" v [])) := by rw [put_k0, put_r0, put_h0]; rfl
theorem hsF_k (v : V) (r l : Addr) : (hsF v r l).lookup ("kept" : Str) = some v := by rw [hsF_eq, lookup_putF, if_neg kKH, lookup_putF, if_neg kKR, lookup_putF, if_pos rfl]
theorem hsF_r (v : V) (r l : Addr) : (hsF v r l).lookup ("rows" : Str) = some (.ref r) := by rw [hsF_eq, lookup_putF, if_neg kRH, lookup_putF, if_pos rfl]
theorem hsF_h (v : V) (r l : Addr) : (hsF v r l).lookup ("held" : Str) = some (.ref l) := by rw [hsF_eq, lookup_putF, if_pos rfl]
theorem hsF_no (v : V) (r l : Addr) {m : Str} (h1 : ¬ m = "kept") (h2 : ¬ m = "rows") (h3 : ¬ m = "held") : (hsF v r l).lookup m = none := by
  rw [hsF_eq, lookup_putF, if_neg h3, lookup_putF, if_neg h2, lookup_putF, if_neg h1]
  rfl
/-- the parts of a House -/
structure HsP (K : PySem.W.Frag) (Z H : Hp) (p dx r l : Addr) (v : V) (xs : List (L2.Key × V)) (vs : List V) (kept : PyData) (rows : DKs) (held : List PyData) : Prop where
  ob : H p = some (.ins (He.ga K "House") dx (hsF v r l))
  dc : H dx = some (.own p)
  rs : H r = some (.dK xs)
  hl : H l = some (.lst vs)
  kd : Dx K Z v kept
  rd : DkR K Z xs rows
  hd : DxAll K Z vs held
theorem HsP.ow {K : PySem.W.Frag} {Z H : Hp} {p dx r l : Addr} {v : V} {xs : List (L2.Key × V)} {vs : List V} {kept : PyData} {rows : DKs} {held : List PyData} (h : HsP K Z H p dx r l v xs vs kept rows held) : OwR K Z H p (.hs kept rows held) [p, dx, r, l] :=
  ⟨dx, r, l, v, xs, vs, rfl, h.ob, h.dc, h.rs, h.hl, h.rd.1, h.kd, h.rd.2, h.hd⟩
theorem slot_hs {K : PySem.W.Frag} {C : Ct} {pf : List (V × PyData)} {σ : L2.St} {H : Hp} {env : En} {feet : List (List Addr)} {i : Nat} {kept : PyData} {rows : DKs} {held : List PyData} {ex : List Addr} (W : Wf K C pf σ H env feet ex) (h : env[i]? = some (.ow (.hs kept rows held))) :
    ∃ p dx r l v xs vs, σ[i]? = some (some (.ref p)) ∧ feet[i]? = some [p, dx, r, l] ∧ [p, dx, r, l].Nodup ∧ HsP K (hid H (feet.flatten ++ ex)) H p dx r l v xs vs kept rows held := by
  have i1 : i < env.length := (List.getElem?_eq_some_iff.mp h).1
  have i2 : i < σ.length := by rw [W.rel.l1]; exact i1
  have i3 : i < feet.length := by rw [W.rel.l2]; exact i1
  obtain ⟨p, e1, dx, r, l, v, xs, vs, e2, h1, h2, h3, h4, e3, d1, d2, d3⟩ := W.rel.sl i _ _ _ (List.getElem?_eq_getElem i2) h (List.getElem?_eq_getElem i3)
  have e4 : feet[i]? = some [p, dx, r, l] := by rw [List.getElem?_eq_getElem i3, e2]
  have nd := (List.nodup_append.mp W.nd).1
  exact ⟨p, dx, r, l, v, xs, vs, by rw [List.getElem?_eq_getElem i2, e1], e4, nodup_each nd e4, ⟨h1, h2, h3, h4, d1, ⟨e3, d2⟩, d3⟩⟩
end L3
end

section
set_option Elab.async false
set_option linter.all false
set_option maxRecDepth 100000
set_option maxHeartbeats 1000000
set_option autoImplicit false
/-! L3 part ad: what a House in a slot is asked. -/
namespace L3
open PySem PySem.Spec PyProof.Rows L2
/-! ### footprints told anew -/
section
variable {K : PySem.W.Frag} {C : Ct} {pf : List (V × PyData)} {σ : L2.St} {H H' : Hp} {env : En} {feet : List (List Addr)} {ex : List Addr}
theorem mem_of_get {feet : List (List Addr)} {i : Nat} {g : List Addr} (h : feet[i]? = some g) {a : Addr} (m : a ∈ g) : a ∈ feet.flatten := List.mem_flatten.mpr ⟨g, List.mem_of_getElem? h, m⟩
/-- the thing in slot i is told anew, with another footprint, out of the old one and ex -/
theorem Wf.reft {i : Nat} {p : Addr} {o' : Ow} {g g' : List Addr} (W : Wf K C pf σ H env feet ex) (hv : σ[i]? = some (some (.ref p))) (hg : feet[i]? = some g) (hsame : ∀ a, a ∉ g → H' a = H a) (hsub : ∀ a ∈ g', a ∈ g ∨ a ∈ ex) (hnd : g'.Nodup)
    (ho : OwR K (hid H (feet.flatten ++ ex)) H' p o' g') : Wf K C pf σ H' (env.set i (.ow o')) (feet.set i g') [] := by
  have nd := List.nodup_append.mp W.nd
  have i3 : i < feet.length := (List.getElem?_eq_some_iff.mp hg).1
  have i1 : i < env.length := by rw [← W.rel.l2]; exact i3
  have sub : ∀ a, a ∈ (feet.set i g').flatten → a ∈ feet.flatten ++ ex := fun a m => by
    rcases flatten_set_sub m with m | m
    · exact List.mem_append_left _ m
    · rcases hsub a m with m | m
      · exact List.mem_append_left _ (mem_of_get hg m)
      · exact List.mem_append_right _ m
  have sm : Same (hid H (feet.flatten ++ ex)) (hid H' ((feet.set i g').flatten ++ [])) := hid_same fun a o n q => ⟨fun m => n (by
    rw [List.append_nil] at m; exact sub a m), by
      rw [hsame a fun z => n (List.mem_append_left _ (mem_of_get hg z))]; exact q⟩
  have off : ∀ {j : Nat} {f : List Addr} {a : Addr}, ¬ i = j → feet[j]? = some f → a ∈ f → a ∉ g ∧ a ∉ ex := fun {j f a} ne e m => ⟨fun z => ne (nodup_foot nd.1 hg e z m), fun z => nd.2.2 a (mem_of_get e m) a z rfl⟩
  refine ⟨?_, ⟨by simp [W.rel.l1], by simp [W.rel.l2], fun j u t f h1 h2 h3 => ?_⟩, fun q hq => dx_mono sm (W.pin q hq), by simp, fun a o n q => ?_, fun a m => ?_, W.pr⟩
  · rw [List.append_nil]
    refine nodup_mk (fun j f e => ?_) fun j k f h a e1 e2 m1 m2 => ?_
    · by_cases ij : i = j
      · subst ij
        rw [List.getElem?_set_self i3] at e
        cases e
        exact hnd
      · rw [List.getElem?_set_ne ij] at e
        exact nodup_each nd.1 e
    · by_cases ij : i = j
      · by_cases ik : i = k
        · rw [← ij, ik]
        · subst ij
          rw [List.getElem?_set_self i3] at e1
          rw [List.getElem?_set_ne ik] at e2
          cases e1
          obtain ⟨z1, z2⟩ := off ik e2 m2
          rcases hsub a m1 with z | z
          · exact absurd z z1
          · exact absurd z z2
      · by_cases ik : i = k
        · subst ik
          rw [List.getElem?_set_self i3] at e2
          rw [List.getElem?_set_ne ij] at e1
          cases e2
          obtain ⟨z1, z2⟩ := off ij e1 m1
          rcases hsub a m2 with z | z
          · exact absurd z z1
          · exact absurd z z2
        · rw [List.getElem?_set_ne ij] at e1
          rw [List.getElem?_set_ne ik] at e2
          exact nodup_foot nd.1 e1 e2 m1 m2
  · by_cases ij : i = j
    · subst ij
      rw [hv] at h1; cases h1
      rw [List.getElem?_set_self i1] at h2
      rw [List.getElem?_set_self i3] at h3
      cases h2; cases h3
      exact ⟨p, rfl, ho.mono sm fun _ _ => rfl⟩
    · rw [List.getElem?_set_ne ij] at h2 h3
      exact (W.rel.sl j u t f h1 h2 h3).mono sm fun a ha => hsame a (off ij h3 ha).1
  · have q' := W.fr a o n q
    rw [hsame a fun z => ?_]
    · exact q'
    · rcases W.nw a (List.mem_append_left _ (mem_of_get hg z)) with m | m
      · exact n m
      · rw [m] at q; cases q
  · rw [List.append_nil] at m
    exact W.nw a (sub a m)
/-- the thing in slot j is let go: its footprint stands by itself -/
theorem Wf.release {j : Nat} {f : List Addr} (W : Wf K C pf σ H env feet []) (hf : feet[j]? = some f) : Wf K C pf σ H (env.set j .un) (feet.set j []) f ∧ hid H ((feet.set j []).flatten ++ f) = hid H (feet.flatten ++ []) := by
  have nd := W.nd
  rw [List.append_nil] at nd
  have i3 : j < feet.length := (List.getElem?_eq_some_iff.mp hf).1
  have sub1 : ∀ a, a ∈ (feet.set j []).flatten → a ∈ feet.flatten := fun a m => by
    rcases flatten_set_sub m with m | m
    · exact m
    · cases m
  have each : ∀ {k : Nat} {g : List Addr} {a : Addr}, (feet.set j [])[k]? = some g → a ∈ g → ¬ j = k ∧ feet[k]? = some g := fun {k g a} e m => by
    by_cases jk : j = k
    · subst jk
      rw [List.getElem?_set_self i3] at e
      cases e
      cases m
    · rw [List.getElem?_set_ne jk] at e
      exact ⟨jk, e⟩
  have iff : ∀ a, a ∈ (feet.set j []).flatten ++ f ↔ a ∈ feet.flatten ++ [] := fun a => by
    rw [List.append_nil]
    constructor
    · intro m
      rcases List.mem_append.mp m with m | m
      · exact sub1 a m
      · exact mem_of_get hf m
    · intro m
      obtain ⟨g, hg, hag⟩ := List.mem_flatten.mp m
      obtain ⟨k, hk, e⟩ := List.mem_iff_getElem.mp hg
      have e1 : feet[k]? = some g := by rw [List.getElem?_eq_getElem hk, e]
      by_cases jk : j = k
      · subst jk
        rw [hf] at e1
        cases e1
        exact List.mem_append_right _ hag
      · exact List.mem_append_left _ (mem_of_get (by rw [List.getElem?_set_ne jk]; exact e1) hag)
  have hh : hid H ((feet.set j []).flatten ++ f) = hid H (feet.flatten ++ []) := funext fun a => by
    by_cases m : a ∈ feet.flatten ++ []
    · rw [hid_in m, hid_in ((iff a).mpr m)]
    · rw [hid_out m, hid_out fun z => m ((iff a).mp z)]
  refine ⟨⟨?_, ⟨by simp [W.rel.l1], by simp [W.rel.l2], fun k u t g h1 h2 h3 => ?_⟩, fun p hp => by rw [hh]; exact W.pin p hp, fun a m => W.rel.tr a (mem_of_get hf m), W.fr, fun a m => W.nw a ((iff a).mp m), W.pr⟩, hh⟩
  · refine List.nodup_append.mpr ⟨nodup_mk (fun k g e => ?_) (fun k l g h a e1 e2 m1 m2 => ?_), nodup_each nd hf, fun a ha b hb e => ?_⟩
    · by_cases z : g = []
      · rw [z]; simp
      · obtain ⟨a, ha⟩ := List.exists_mem_of_ne_nil _ z
        exact nodup_each nd (each e ha).2
    · exact nodup_foot nd (each e1 m1).2 (each e2 m2).2 m1 m2
    · subst e
      obtain ⟨g, hg, hag⟩ := List.mem_flatten.mp ha
      obtain ⟨k, hk, e⟩ := List.mem_iff_getElem.mp hg
      obtain ⟨z1, z2⟩ := each (k := k) (g := g) (by rw [List.getElem?_eq_getElem hk, e]) hag
      exact z1 (nodup_foot nd hf z2 hb hag)
  · rw [hh]
    by_cases jk : j = k
    · subst jk
      have i1 : j < env.length := by rw [← W.rel.l2]; exact i3
      rw [List.getElem?_set_self i1] at h2
      rw [List.getElem?_set_self i3] at h3
      cases h2; cases h3
      rfl
    · rw [List.getElem?_set_ne jk] at h2 h3
      exact W.rel.sl k u t g h1 h2 h3
end
/-- a name in slot i -/
structure Nm (X : Cx) (i : Nat) (x : Str) : Prop where
  n : X.N[i]? = some x
  v : Vis X.env.scope x
  d : (x == ("__debug__" : Str)) = false
  c : (x == ("__classdict__" : Str)) = false
theorem Nm.pe {X : Cx} {i : Nat} {x : Str} {pos : Pos} (h : Nm X i x) : PE X (.Name x pos) (tVar i) := pe_var h.n h.v h.d h.c
theorem le65 {n : Nat} (h : n + 65 < cLine) : n + 1 < cLine := by omega
/-- o.f = .. as a target -/
def gTgt (K : PySem.W.Frag) (to : TE) (f : Str) : TG := fun v σ H Q => to σ H fun x H1 => ∃ a C dx fs, x = .ref a ∧ H1 a = some (.ins C dx fs) ∧ Cls K C ∧ NoAttr K C f ∧ fs.length < 1000 ∧ Q σ (upd H1 a (.ins C dx (putF f v fs)))
theorem pg_fld {X : Cx} {o : Expr} {f : Str} {pos : Pos} {to : TE} (ho : PE X o to) : PG X (.Attribute o f pos) (gTgt X.K to f) := by
  refine ⟨fun pins s σ H v u Q I r h => ?_⟩
  rw [PySem.assign_Attribute]
  refine wpAny_bind (wpAny_holding (thn (ho.run pins s σ H _ I h) fun ov s1 ⟨x, H1, I1, r1, a, C, dx, fs, ex, ea, c, n, l, q⟩ => ?_))
  subst ex
  obtain rfl : ov = Value.ref a := r1
  refine wpAny_bind (wpAny_standAt (wpAny_bind (wpAny_holding (setattr_ok I1 ea c n l r fun s2 I2 => ?_))))
  exact wpAny_release ⟨σ, _, I2, q⟩
/-- d[i] = v as a target -/
theorem set_dk {X : Cx} (hu : X.A.units + 1 < cLine) : PSet X (fun o i v H Q => ∃ a H4, o = .ref a ∧ DPut H a i v H4 ∧ Q H4) := by
  intro pins s σ H o i v ov iv u Q I ro ri rv h
  obtain ⟨a, H4, rfl, g, q⟩ := h
  obtain rfl : ov = Value.ref a := ro
  exact d_setItem hu I g ri rv fun s4 I4 => ⟨H4, I4, q⟩
section
variable {X : Cx} {C : Ct} {e : Expr} {t : RE} {x : Str} {px p1 p2 p3 p4 apos pos : Pos}
/-- the House's own row -/
theorem hs_fld {K : PySem.W.Frag} {Z H : Hp} {p dx r l : Addr} {v : V} {xs : List (L2.Key × V)} {vs : List V} {kept : PyData} {rows : DKs} {held : List PyData} (P : HsP K Z H p dx r l v xs vs kept rows held) (hF : HF K) {i : Nat} {σ : L2.St} (h : σ[i]? = some (some (.ref p))) :
    (∀ {Q : VK}, Q v H → tFld K (tVar i) "kept" σ H Q) ∧ (∀ {Q : VK}, Q (.ref r) H → tFld K (tVar i) "rows" σ H Q) ∧ (∀ {Q : VK}, Q (.ref l) H → tFld K (tVar i) "held" σ H Q) :=
  ⟨fun q => ⟨_, h, p, _, dx, _, _, rfl, P.ob, hF.cl, hF.nk, hsF_k v r l, q⟩, fun q => ⟨_, h, p, _, dx, _, _, rfl, P.ob, hF.cl, hF.nr, hsF_r v r l, q⟩, fun q => ⟨_, h, p, _, dx, _, _, rfl, P.ob, hF.cl, hF.nh, hsF_h v r l, q⟩⟩
/-- x.kept -/
def eHK (i : Nat) : RE := fun env Q _ => ∃ k r h, env[i]? = some (.ow (.hs k r h)) ∧ Q (.fz k) env
theorem se_hkept (i : Nat) (hF : HF X.K) (nm : Nm X i x := by exact ⟨rfl, by first | exact Or.inl rfl | exact Or.inr (Or.inl rfl) | exact Or.inr (Or.inr rfl), by decide, by decide⟩) (hb : attributeBase (.Name x px) "kept" X.env (eval (.Name x px) X.env) = eval (.Name x px) X.env := by rfl) : SE X C (.Attribute (.Name x px) "kept" pos) (eHK i) := .mk fun σ H pf env feet Q EX W tk q => by
  obtain ⟨k, r, h, h0, q⟩ := q
  obtain ⟨p, dx, r', l, v, xs, vs, g1, g2, g3, P⟩ := slot_hs W h0
  exact eW.of (pe_fld nm.pe hb) ((hs_fld P hF g1).1 ⟨.fz k, env, feet, [], W, ⟨rfl, P.kd⟩, q⟩)
/-- len(x.rows), len(x.held) -/
def eHLR (i : Nat) : RE := fun env Q _ => ∃ k r h, env[i]? = some (.ow (.hs k r h)) ∧ Q (fzI (r.length : Nat)) env
def eHLH (i : Nat) : RE := fun env Q _ => ∃ k r h, env[i]? = some (.ow (.hs k r h)) ∧ Q (fzI (h.length : Nat)) env
theorem se_hlenR (i : Nat) (hF : HF X.K) (hg : Gl X "len") (hm : X.mg "len" = none) (nm : Nm X i x := by exact ⟨rfl, by first | exact Or.inl rfl | exact Or.inr (Or.inl rfl) | exact Or.inr (Or.inr rfl), by decide, by decide⟩) (hb : attributeBase (.Name x px) "rows" X.env (eval (.Name x px) X.env) = eval (.Name x px) X.env := by rfl) : SE X C (.Call (.Name "len" p1) [.Attribute (.Name x px) "rows" p2] [] pos) (eHLR i) := .mk fun σ H pf env feet Q EX W tk q => by
  obtain ⟨k, r, h, h0, q⟩ := q
  obtain ⟨p, dx, r', l, v, xs, vs, g1, g2, g3, P⟩ := slot_hs W h0
  refine eW.of (pe_callB call_lenD hg hm boot_len (pa_cons (pe_fld nm.pe hb) pa_nil)) ((hs_fld P hF g1).2.1 ⟨r', xs, rfl, P.rs, ?_⟩)
  rw [P.rd.len]
  exact ⟨fzI _, env, feet, [], W, ⟨rfl, .int _⟩, q⟩
theorem se_hlenH (i : Nat) (hF : HF X.K) (hg : Gl X "len") (hm : X.mg "len" = none) (nm : Nm X i x := by exact ⟨rfl, by first | exact Or.inl rfl | exact Or.inr (Or.inl rfl) | exact Or.inr (Or.inr rfl), by decide, by decide⟩) (hb : attributeBase (.Name x px) "held" X.env (eval (.Name x px) X.env) = eval (.Name x px) X.env := by rfl) : SE X C (.Call (.Name "len" p1) [.Attribute (.Name x px) "held" p2] [] pos) (eHLH i) := .mk fun σ H pf env feet Q EX W tk q => by
  obtain ⟨k, r, h, h0, q⟩ := q
  obtain ⟨p, dx, r', l, v, xs, vs, g1, g2, g3, P⟩ := slot_hs W h0
  refine eW.of (pe_callB call_len hg hm boot_len (pa_cons (pe_fld nm.pe hb) pa_nil)) ((hs_fld P hF g1).2.2 ⟨.ref l, vs.length, rfl, ?_, ?_⟩)
  · exact .inl ⟨vs, .inl (.inl P.hl), rfl⟩
  · rw [P.hd.lenD]
    exact ⟨fzI _, env, feet, [], W, ⟨rfl, .int _⟩, q⟩
end
end L3
end

section
set_option Elab.async false
set_option linter.all false
set_option maxRecDepth 100000
set_option maxHeartbeats 1000000
set_option autoImplicit false
/-! L3 part ae: what is done to a House in a slot. -/
namespace L3
open PySem PySem.Spec PyProof.Rows L2
theorem nodup4 {p dx r l : Addr} (h : [p, dx, r, l].Nodup) : dx ≠ p ∧ r ≠ p ∧ l ≠ p ∧ r ≠ dx ∧ l ≠ dx ∧ l ≠ r := by
  simp only [List.nodup_cons, List.mem_cons, List.not_mem_nil, or_false, not_or, List.nodup_nil, and_true] at h
  obtain ⟨⟨a, b, c⟩, ⟨d, e⟩, f⟩ := h
  exact ⟨fun z => a z.symm, fun z => b z.symm, fun z => c z.symm, fun z => d z.symm, fun z => e z.symm, fun z => f.1 z.symm⟩
theorem keyD_inj : ∀ {a b : L2.Key}, keyD a = keyD b → a = b
  | .inl i, .inl j, h => by cases h; rfl
  | .inr i, .inr j, h => by cases h; rfl
  | .inl i, .inr j, h => by cases h
  | .inr i, .inl j, h => by cases h
theorem dkD_inj : ∀ {a b : DKs}, a.map (fun p => (keyD p.1, p.2)) = b.map (fun p => (keyD p.1, p.2)) → a = b
  | [], [], _ => rfl
  | [], _ :: _, h => by cases h
  | _ :: _, [], h => by cases h
  | x :: a, y :: b, h => by
    rw [List.map_cons, List.map_cons, List.cons.injEq, Prod.mk.injEq] at h
    rw [dkD_inj h.2, show x = y from Prod.ext (keyD_inj h.1.1) h.1.2]
section
variable {K : PySem.W.Frag} {C : Ct} {pf : List (V × PyData)} {σ : L2.St} {H H' : Hp} {env : En} {feet : List (List Addr)} {ex F : List Addr}
theorem slot_fzx {i : Nat} {d : PyData} (W : Wf K C pf σ H env feet ex) (h : env[i]? = some (.fz d)) : ∃ v, σ[i]? = some (some v) ∧ Dx K (hid H (feet.flatten ++ ex)) v d := by
  have i1 : i < env.length := (List.getElem?_eq_some_iff.mp h).1
  have i2 : i < σ.length := by rw [W.rel.l1]; exact i1
  have i3 : i < feet.length := by rw [W.rel.l2]; exact i1
  obtain ⟨_, v, e, hd⟩ := W.rel.sl i _ _ _ (List.getElem?_eq_getElem i2) h (List.getElem?_eq_getElem i3)
  exact ⟨v, by rw [List.getElem?_eq_getElem i2, e], hd⟩
theorem slot_dk {i : Nat} {kvs : DKs} (W : Wf K C pf σ H env feet ex) (h : env[i]? = some (.ow (.dk kvs))) : ∃ p xs, σ[i]? = some (some (.ref p)) ∧ feet[i]? = some [p] ∧ H p = some (.dK xs) ∧ DkR K (hid H (feet.flatten ++ ex)) xs kvs := by
  have i1 : i < env.length := (List.getElem?_eq_some_iff.mp h).1
  have i2 : i < σ.length := by rw [W.rel.l1]; exact i1
  have i3 : i < feet.length := by rw [W.rel.l2]; exact i1
  obtain ⟨p, e1, hf, xs, hp, a, b⟩ := W.rel.sl i _ _ _ (List.getElem?_eq_getElem i2) h (List.getElem?_eq_getElem i3)
  exact ⟨p, xs, by rw [List.getElem?_eq_getElem i2, e1], by rw [List.getElem?_eq_getElem i3, hf], hp, a, b⟩
theorem rsn_dk {p : Addr} {xs : List (L2.Key × V)} {kvs : DKs} (hp : H p = none) (h : DkR K (hid H F) xs kvs) : RsN K F H (upd H p (.dK xs)) (.ref p) (.nw (.dk kvs)) [p] := by
  refine ⟨by simpa using hp, by simp, p, rfl, rfl, xs, upd_same, h.1, ?_⟩
  rw [hid_upd_mem (by simp), hid_cons hp]
  exact h.2
/-- the parts, one of them anew -/
theorem HsP.setK {Z : Hp} {p dx r l : Addr} {v : V} {xs : List (L2.Key × V)} {vs : List V} {kept : PyData} {rows : DKs} {held : List PyData} (P : HsP K Z H p dx r l v xs vs kept rows held) (nd : [p, dx, r, l].Nodup) {y : V} {d : PyData} (hd : Dx K Z y d) :
    HsP K Z (upd H p (.ins (He.ga K "House") dx (putF "kept" y (hsF v r l)))) p dx r l y xs vs d rows held := by
  obtain ⟨a, b, c, _⟩ := nodup4 nd
  exact ⟨by rw [upd_same, put_k], by rw [upd_ne a]; exact P.dc, by rw [upd_ne b]; exact P.rs, by rw [upd_ne c]; exact P.hl, hd, P.rd, P.hd⟩
theorem HsP.setR {Z : Hp} {p dx r l : Addr} {v : V} {xs xs' : List (L2.Key × V)} {vs : List V} {kept : PyData} {rows rows' : DKs} {held : List PyData} (P : HsP K Z H p dx r l v xs vs kept rows held) (nd : [p, dx, r, l].Nodup) (hd : DkR K Z xs' rows') :
    HsP K Z (upd H r (.dK xs')) p dx r l v xs' vs kept rows' held := by
  obtain ⟨_, b, _, d, _, f⟩ := nodup4 nd
  exact ⟨by rw [upd_ne fun z => b z.symm]; exact P.ob, by rw [upd_ne fun z => d z.symm]; exact P.dc, upd_same, by rw [upd_ne f]; exact P.hl, P.kd, hd, P.hd⟩
theorem HsP.setH {Z : Hp} {p dx r l : Addr} {v : V} {xs : List (L2.Key × V)} {vs vs' : List V} {kept : PyData} {rows : DKs} {held held' : List PyData} (P : HsP K Z H p dx r l v xs vs kept rows held) (nd : [p, dx, r, l].Nodup) (hd : DxAll K Z vs' held') :
    HsP K Z (upd H l (.lst vs')) p dx r l v xs vs' kept rows held' := by
  obtain ⟨_, _, c, _, e, f⟩ := nodup4 nd
  exact ⟨by rw [upd_ne fun z => c z.symm]; exact P.ob, by rw [upd_ne fun z => e z.symm]; exact P.dc, by rw [upd_ne fun z => f z.symm]; exact P.rs, upd_same, P.kd, P.rd, hd⟩
theorem HsP.mono {Z Z' : Hp} {p dx r l : Addr} {v : V} {xs : List (L2.Key × V)} {vs : List V} {kept : PyData} {rows : DKs} {held : List PyData} (P : HsP K Z H p dx r l v xs vs kept rows held) (e : Same Z Z') (e2 : Same H H') : HsP K Z' H' p dx r l v xs vs kept rows held :=
  ⟨e2 _ _ P.ob, e2 _ _ P.dc, e2 _ _ P.rs, e2 _ _ P.hl, dx_mono e P.kd, P.rd.mono e, dxAll_mono e P.hd⟩
end
section
variable {X : Cx} {C : Ct} {e : Expr} {t : RE} {x y : Str} {px p1 p2 p3 p4 p5 apos pos : Pos}
/-- e in x.rows -/
def cHIn (neg : Bool) (i : Nat) (t : RE) : RT := fun env Q EX => vl t env (fun d e => ∃ z k r h, d = .str z ∧ e[i]? = some (.ow (.hs k r h)) ∧ Q (if neg then !(kval r (.inr z)).isSome else (kval r (.inr z)).isSome) e) EX
theorem st_hin (i : Nat) (hF : HF X.K) (hu : X.A.units + 65 < cLine) (he : SE X C e t) (nm : Nm X i x := by exact ⟨rfl, by first | exact Or.inl rfl | exact Or.inr (Or.inl rfl) | exact Or.inr (Or.inr rfl), by decide, by decide⟩) (hb : attributeBase (.Name x px) "rows" X.env (eval (.Name x px) X.env) = eval (.Name x px) X.env := by rfl) (hm : behindInMarks .In (.Attribute (.Name x px) "rows" p1) = false := by rfl) :
    STs X C (.Compare e [.In] [.Attribute (.Name x px) "rows" p1] pos) (cHIn false i t) := .mk fun σ H pf env feet Q EX W tk q => by
  refine tW.of (pt_cmp (pc_din (le65 hu) eW.pe (pe_fld nm.pe hb)) hm) ?_
  refine (he.v σ H pf env feet _ EX W tk q).imp fun w H1 ⟨d, e1, f1, W1, h1, z, k, r, h, hd, h0, q1⟩ => ?_
  subst hd
  cases h1
  obtain ⟨p, dx, r', l, v, xs, vs, g1, g2, g3, P⟩ := slot_hs W1 h0
  refine (hs_fld P hF g1).2.1 ⟨r', _, rfl, DGet.k (k := Sum.inr z) P.rs, _, rfl, e1, f1, W1, ?_⟩
  rw [dk_isSome _ P.rd]
  exact q1
theorem st_hnin (i : Nat) (hF : HF X.K) (hu : X.A.units + 65 < cLine) (he : SE X C e t) (nm : Nm X i x := by exact ⟨rfl, by first | exact Or.inl rfl | exact Or.inr (Or.inl rfl) | exact Or.inr (Or.inr rfl), by decide, by decide⟩) (hb : attributeBase (.Name x px) "rows" X.env (eval (.Name x px) X.env) = eval (.Name x px) X.env := by rfl) (hm : behindInMarks .NotIn (.Attribute (.Name x px) "rows" p1) = false := by rfl) :
    STs X C (.Compare e [.NotIn] [.Attribute (.Name x px) "rows" p1] pos) (cHIn true i t) := .mk fun σ H pf env feet Q EX W tk q => by
  refine tW.of (pt_cmp (pc_dnotin (le65 hu) eW.pe (pe_fld nm.pe hb)) hm) ?_
  refine (he.v σ H pf env feet _ EX W tk q).imp fun w H1 ⟨d, e1, f1, W1, h1, z, k, r, h, hd, h0, q1⟩ => ?_
  subst hd
  cases h1
  obtain ⟨p, dx, r', l, v, xs, vs, g1, g2, g3, P⟩ := slot_hs W1 h0
  refine (hs_fld P hF g1).2.1 ⟨r', _, rfl, DGet.k (k := Sum.inr z) P.rs, _, rfl, e1, f1, W1, ?_⟩
  rw [dk_isSome _ P.rd]
  exact q1
/-- x.rows[y] -/
def eHGet (i j : Nat) : RE := fun env Q _ => ∃ k r h z d, env[i]? = some (.ow (.hs k r h)) ∧ env[j]? = some (.fz (.str z)) ∧ kval r (.inr z) = some d ∧ Q (.fz d) env
theorem se_hget (i j : Nat) (hF : HF X.K) (hu : X.A.units + 65 < cLine) (nm : Nm X i x := by exact ⟨rfl, by first | exact Or.inl rfl | exact Or.inr (Or.inl rfl) | exact Or.inr (Or.inr rfl), by decide, by decide⟩) (nm2 : Nm X j y := by exact ⟨rfl, by first | exact Or.inl rfl | exact Or.inr (Or.inl rfl) | exact Or.inr (Or.inr rfl), by decide, by decide⟩) (hb : attributeBase (.Name x px) "rows" X.env (eval (.Name x px) X.env) = eval (.Name x px) X.env := by rfl) (hs : NoSl (.Name y p2) := by exact fun _ _ => rfl) :
    SE X C (.Subscript (.Attribute (.Name x px) "rows" p1) (.Name y p2) pos) (eHGet i j) := .mk fun σ H pf env feet Q EX W tk q => by
  obtain ⟨k, r, h, z, d, h0, h1, h2, q⟩ := q
  obtain ⟨p, dx, r', l, v, xs, vs, g1, g2, g3, P⟩ := slot_hs W h0
  obtain ⟨v1, b1, b2⟩ := slot_fzx W h1
  cases b2
  rcases dk_val (.inr z) P.rd with ⟨z1, z2⟩ | ⟨v0, d0, z1, z2, z3⟩
  · rw [h2] at z2; cases z2
  · rw [h2] at z2; cases z2
    refine eW.of (pe_dget (le65 hu) (pe_fld nm.pe hb) nm2.pe hs) ((hs_fld P hF g1).2.1 ⟨_, b1, r', v0, rfl, ?_, .fz d, env, feet, [], W, ⟨rfl, z3⟩, q⟩)
    rw [← z1]
    exact DGet.k (k := Sum.inr z) P.rs
/-- x.kept as a target -/
def gHK (i : Nat) : RG := fun d env Q _ => ∃ k r h, env[i]? = some (.ow (.hs k r h)) ∧ Q (env.set i (.ow (.hs d r h)))
theorem sg_hkept (i : Nat) (hF : HF X.K) (nm : Nm X i x := by exact ⟨rfl, by first | exact Or.inl rfl | exact Or.inr (Or.inl rfl) | exact Or.inr (Or.inr rfl), by decide, by decide⟩) : SG X C (.Attribute (.Name x px) "kept" pos) (gHK i) := .mk fun σ H pf env feet v d Q EX W tk hd q pins s u I r => by
  obtain ⟨k, rw', h, h0, q⟩ := q
  obtain ⟨p, dx, r', l, v0, xs, vs, g1, g2, g3, P⟩ := slot_hs W h0
  refine (pg_fld nm.pe).run pins s σ H v u _ I r ⟨.ref p, g1, p, _, dx, _, rfl, P.ob, hF.cl, hF.nk, (show 3 < 1000 by decide), ?_⟩
  exact ⟨_, feet, W.turn (o := .hs k rw' h) (o' := .hs d rw' h) g1 g2 (fun a ha => upd_ne fun z => ha (by rw [z]; simp)) (P.setK g3 hd).ow, q⟩
/-- x.rows[y] as a target -/
def gHPut (i j : Nat) : RG := fun d env Q _ => ∃ k r h z, env[i]? = some (.ow (.hs k r h)) ∧ env[j]? = some (.fz (.str z)) ∧ r.length < sizeLine ∧ Q (env.set i (.ow (.hs k (kput r (.inr z) d) h)))
theorem sg_hput (i j : Nat) (hF : HF X.K) (hu : X.A.units + 65 < cLine) (nm : Nm X i x := by exact ⟨rfl, by first | exact Or.inl rfl | exact Or.inr (Or.inl rfl) | exact Or.inr (Or.inr rfl), by decide, by decide⟩) (nm2 : Nm X j y := by exact ⟨rfl, by first | exact Or.inl rfl | exact Or.inr (Or.inl rfl) | exact Or.inr (Or.inr rfl), by decide, by decide⟩) (hb : attributeBase (.Name x px) "rows" X.env (eval (.Name x px) X.env) = eval (.Name x px) X.env := by rfl)
    (ha : ∀ v, assign (.Subscript (.Attribute (.Name x px) "rows" p1) (.Name y p2) pos) X.env v = (do
      let ov ← holding [v] (eval (.Attribute (.Name x px) "rows" p1) X.env)
      let iv ← holding [v, ov] (eval (.Name y p2) X.env)
      standAt pos
      holding [v, ov, iv] (setItem ov iv v)
      release [v, ov, iv] []) := by intro _; rfl) : SG X C (.Subscript (.Attribute (.Name x px) "rows" p1) (.Name y p2) pos) (gHPut i j) := .mk fun σ H pf env feet v d Q EX W tk hd q pins s u I r => by
  obtain ⟨k, rw', h, z, h0, h1, hl, q⟩ := q
  obtain ⟨p, dx, r', l, v0, xs, vs, g1, g2, g3, P⟩ := slot_hs W h0
  obtain ⟨v1, b1, b2⟩ := slot_fzx W h1
  cases b2
  refine (pg_sub (pe_fld nm.pe hb) nm2.pe (set_dk (le65 hu)) ha).run pins s σ H v u _ I r ((hs_fld P hF g1).2.1 ⟨_, b1, r', _, rfl, DPut.k (k := Sum.inr z) P.rs (by rw [P.rd.len]; exact hl), ?_⟩)
  exact ⟨_, feet, W.turn (o := .hs k rw' h) (o' := .hs k (kput rw' (.inr z) d) h) g1 g2 (fun a ha => upd_ne fun z => ha (by rw [z]; simp)) (P.setR g3 (dk_put P.rd hd)).ow, q⟩
/-- dict(x.rows) -/
def eHDict (i : Nat) : RE := fun env Q _ => ∃ k r h, env[i]? = some (.ow (.hs k r h)) ∧ Q (.nw (.dk r)) env
theorem se_hdict (i : Nat) (hF : HF X.K) (hg : Gl X "dict") (hm : X.mg "dict" = none) (nm : Nm X i x := by exact ⟨rfl, by first | exact Or.inl rfl | exact Or.inr (Or.inl rfl) | exact Or.inr (Or.inr rfl), by decide, by decide⟩) (hb : attributeBase (.Name x px) "rows" X.env (eval (.Name x px) X.env) = eval (.Name x px) X.env := by rfl) : SE X C (.Call (.Name "dict" p1) [.Attribute (.Name x px) "rows" p2] [] pos) (eHDict i) := .mk fun σ H pf env feet Q EX W tk q => by
  obtain ⟨k, r, h, h0, q⟩ := q
  obtain ⟨p, dx, r', l, v, xs, vs, g1, g2, g3, P⟩ := slot_hs W h0
  refine eW.of (pe_callTy call_dictD hg hm bt_dict (pa_cons (pe_fld nm.pe hb) pa_nil)) ((hs_fld P hF g1).2.1 ⟨r', xs, rfl, Rd.of P.rs, fun p' hp' => ?_⟩)
  obtain ⟨W2, h2⟩ := W.pure (same_new hp') (rsn_dk hp' P.rd)
  exact ⟨_, env, feet, _, W2, h2, q⟩
/-- dict(y), y a dict that is no more changed -/
def eDDict (j : Nat) : RE := fun env Q _ => ∃ kvs, env[j]? = some (.fz (dkD kvs)) ∧ Q (.nw (.dk kvs)) env
theorem se_ddict (j : Nat) (hg : Gl X "dict") (hm : X.mg "dict" = none) (nm : Nm X j y := by exact ⟨rfl, by first | exact Or.inl rfl | exact Or.inr (Or.inl rfl) | exact Or.inr (Or.inr rfl), by decide, by decide⟩) : SE X C (.Call (.Name "dict" p1) [.Name y p2] [] pos) (eDDict j) := .mk fun σ H pf env feet Q EX W tk q => by
  obtain ⟨kvs, h0, q⟩ := q
  obtain ⟨v, b1, b2⟩ := slot_fzx W h0
  have b2' : Dx X.K (hid H (feet.flatten ++ [])) v (.dict ((.none, .none) :: kvs.map fun p => (keyD p.1, p.2))) := b2
  cases b2' with
  | @dks a xs kvs' _ h1 h2 h3 h4 =>
    have e := dkD_inj h3
    subst e
    refine eW.of (pe_callTy call_dictD hg hm bt_dict (pa_cons nm.pe pa_nil)) ⟨_, b1, a, xs, rfl, Rd.of (hid_le _ _ h1), fun p' hp' => ?_⟩
    obtain ⟨W2, h2⟩ := W.pure (same_new hp') (rsn_dk hp' ⟨h2, h4⟩)
    exact ⟨_, env, feet, _, W2, h2, q⟩
/-- x.rows = e -/
def rHRows (i : Nat) (t : RE) : RS := fun D env => t env (fun r e => match r with
  | .nw (.dk kvs) => ∃ k r h, e[i]? = some (.ow (.hs k r h)) ∧ D.nx (e.set i (.ow (.hs k kvs h)))
  | .br j => ∃ kvs k r h, ¬ j = i ∧ e[j]? = some (.ow (.dk kvs)) ∧ e[i]? = some (.ow (.hs k r h)) ∧ D.nx ((e.set j .un).set i (.ow (.hs k kvs h)))
  | _ => False) D.ex
theorem rows_core {K : PySem.W.Frag} {C : Ct} {pf : List (V × PyData)} {σ : L2.St} {H : Hp} {env : En} {feet : List (List Addr)} {i : Nat} {q p dx r' l : Addr} {v0 : V} {xs xs' : List (L2.Key × V)} {vs : List V} {k : PyData} {r kvs : DKs} {h : List PyData} (W : Wf K C pf σ H env feet [q]) (g1 : σ[i]? = some (some (.ref p))) (g2 : feet[i]? = some [p, dx, r', l]) (g3 : [p, dx, r', l].Nodup)
    (P : HsP K (hid H (feet.flatten ++ [q])) H p dx r' l v0 xs vs k r h) (hq : H q = some (.dK xs')) (hd : DkR K (hid H (feet.flatten ++ [q])) xs' kvs) : Wf K C pf σ (upd H p (.ins (He.ga K "House") dx (putF "rows" (.ref q) (hsF v0 r' l)))) (env.set i (.ow (.hs k kvs h))) (feet.set i [p, dx, q, l]) [] := by
  have nq : ∀ a ∈ [p, dx, r', l], a ≠ q := fun a m z => (List.nodup_append.mp W.nd).2.2 a (mem_of_get g2 m) q (by simp) z
  obtain ⟨n1, n2, n3, n4, n5, n6⟩ := nodup4 g3
  refine W.reft g1 g2 (fun a ha => upd_ne fun z => ha (by rw [z]; simp)) (fun a m => ?_) ?_ ?_
  · simp only [List.mem_cons, List.not_mem_nil, or_false] at m ⊢
    rcases m with m | m | m | m
    · exact .inl (.inl m)
    · exact .inl (.inr (.inl m))
    · exact .inr m
    · exact .inl (.inr (.inr (.inr m)))
  · have m1 := nq p (by simp); have m2 := nq dx (by simp); have m3 := nq l (by simp)
    simp only [List.nodup_cons, List.mem_cons, List.not_mem_nil, or_false, not_or, List.nodup_nil, and_true]
    exact ⟨⟨fun z => n1 z.symm, m1, fun z => n3 z.symm⟩, ⟨m2, fun z => n5 z.symm⟩, fun z => m3 z.symm, fun z => z⟩
  · refine HsP.ow (r := q) (v := v0) (xs := xs') (vs := vs) ⟨by rw [upd_same, put_r], by rw [upd_ne n1]; exact P.dc, by rw [upd_ne fun z => nq p (by simp) z.symm]; exact hq, by rw [upd_ne n3]; exact P.hl, P.kd, hd, P.hd⟩
theorem ss_hrows (i : Nat) (hF : HF X.K) (he : SE X C e t) (nm : Nm X i x := by exact ⟨rfl, by first | exact Or.inl rfl | exact Or.inr (Or.inl rfl) | exact Or.inr (Or.inr rfl), by decide, by decide⟩) (hs : swapsWith e (some (.Attribute (.Name x px) "rows" p1)) pos.line X.env = pure false := by rfl) : SS X C (.Assign [.Attribute (.Name x px) "rows" p1] e pos) (rHRows i t) := .mk fun σ H pf env feet D W tk q => by
  refine sW.of (ps_fld nm.pe eW.pe hs) ?_
  refine (he σ H pf env feet _ D.ex W tk q).imp fun v H1 ⟨r, e1, f1, f, W1, rr, q1⟩ => ?_
  cases r with
  | fz d => exact False.elim q1
  | xc c g => exact False.elim q1
  | nw o =>
    cases o with
    | dk kvs =>
      obtain ⟨p, rfl, rfl, xs', hq, a, b⟩ := rr
      obtain ⟨k, r, h, h0, q1⟩ := q1
      obtain ⟨p0, dx, r', l, v0, xs, vs, g1, g2, g3, P⟩ := slot_hs W1 h0
      exact ⟨.ref p0, g1, p0, _, dx, _, rfl, P.ob, hF.cl, hF.nr, (show 3 < 1000 by decide), _, _, rows_core W1 g1 g2 g3 P hq ⟨a, b⟩, q1⟩
    | _ => exact False.elim q1
  | br j =>
    obtain ⟨kvs, k, r, h, ne, hj, hi, q1⟩ := q1
    obtain ⟨rfl, hσ, _⟩ := rr
    obtain ⟨p, xs', a1, a2, a3, a4⟩ := slot_dk W1 hj
    rw [hσ] at a1
    cases a1
    obtain ⟨W2, hh⟩ := W1.release a2
    have hi' : (e1.set j .un)[i]? = some (.ow (.hs k r h)) := by rw [List.getElem?_set_ne ne]; exact hi
    obtain ⟨p0, dx, r', l, v0, xs, vs, g1, g2, g3, P⟩ := slot_hs W2 hi'
    exact ⟨.ref p0, g1, p0, _, dx, _, rfl, P.ob, hF.cl, hF.nr, (show 3 < 1000 by decide), _, _, rows_core W2 g1 g2 g3 P a3 (by rw [hh]; exact a4), q1⟩
/-- y.pop(z), y a dict in a slot -/
def eKPop (i j : Nat) : RE := fun env Q _ => ∃ kvs z d, env[i]? = some (.ow (.dk kvs)) ∧ env[j]? = some (.fz (.str z)) ∧ kval kvs (.inr z) = some d ∧ Q (.fz d) (env.set i (.ow (.dk (kdrop kvs (.inr z)))))
theorem se_kpop (i j : Nat) (nm : Nm X i x := by exact ⟨rfl, by first | exact Or.inl rfl | exact Or.inr (Or.inl rfl) | exact Or.inr (Or.inr rfl), by decide, by decide⟩) (nm2 : Nm X j y := by exact ⟨rfl, by first | exact Or.inl rfl | exact Or.inr (Or.inl rfl) | exact Or.inr (Or.inr rfl), by decide, by decide⟩) (m : M1 X (.Name x px) "pop" apos (.Name y p1) pos := by exact ⟨rfl, rfl, rfl, rfl⟩) : SE X C (.Call (.Attribute (.Name x px) "pop" apos) [.Name y p1] [] pos) (eKPop i j) := .mk fun σ H pf env feet Q EX W tk q => by
  obtain ⟨kvs, z, d, h0, h1, h2, q⟩ := q
  obtain ⟨p, xs, a1, a2, a3, a4⟩ := slot_dk W h0
  obtain ⟨v1, b1, b2⟩ := slot_fzx W h1
  cases b2
  rcases dk_val (.inr z) a4 with ⟨z1, z2⟩ | ⟨v0, d0, z1, z2, z3⟩
  · rw [h2] at z2; cases z2
  · rw [h2] at z2; cases z2
    refine eW.of (pe_dpop1 nm.pe nm2.pe m) ⟨_, a1, p, rfl, .inl ⟨xs, .inl a3⟩, _, b1, xs, .inr z, v0, a3, rfl, z1, ?_⟩
    have pin : p ∈ feet.flatten ++ [] := List.mem_append_left _ (mem_of_get a2 (by simp))
    have W2 := W.turn (H' := upd H p (.dK (dropK xs (.inr z)))) (o := .dk kvs) (o' := .dk (kdrop kvs (.inr z))) a1 a2 (fun a ha => upd_ne (by simpa using ha)) ⟨rfl, _, upd_same, (dk_drop _ a4).1, (dk_drop _ a4).2⟩
    exact ⟨.fz d, _, feet, [], W2, ⟨rfl, by rw [hid_upd_mem pin]; exact z3⟩, q⟩
/-- sorted(x.rows) -/
def eHSort (i : Nat) : RE := fun env Q _ => ∃ k r h ks, env[i]? = some (.ow (.hs k r h)) ∧ r.map (·.1) = ks.map Sum.inr ∧ ks.length < 64 ∧ ∀ ys : List Str, ys.Perm ks → sortedS ys = true → Q (.nw (.ls (ys.map .str))) env
theorem dx_strs {K : PySem.W.Frag} {Z : Hp} : ∀ ys : List Str, DxAll K Z (ys.map V.str) (ys.map PyData.str)
  | [] => .nil
  | y :: ys => .cons (.str y) (dx_strs ys)
theorem se_hsort (i : Nat) (hF : HF X.K) (hc : X.calm = true) (hg : Gl X "sorted") (hm : X.mg "sorted" = none) (nm : Nm X i x := by exact ⟨rfl, by first | exact Or.inl rfl | exact Or.inr (Or.inl rfl) | exact Or.inr (Or.inr rfl), by decide, by decide⟩) (hb : attributeBase (.Name x px) "rows" X.env (eval (.Name x px) X.env) = eval (.Name x px) X.env := by rfl) : SE X C (.Call (.Name "sorted" p1) [.Attribute (.Name x px) "rows" p2] [] pos) (eHSort i) := .mk fun σ H pf env feet Q EX W tk q => by
  obtain ⟨k, r, h, ks, h0, h1, h2, q⟩ := q
  obtain ⟨p, dx, r', l, v, xs, vs, g1, g2, g3, P⟩ := slot_hs W h0
  refine eW.of (pe_callB (call_sortedD hc) hg hm (by rfl) (pa_cons (pe_fld nm.pe hb) pa_nil)) ((hs_fld P hF g1).2.1 ⟨r', xs, ks, rfl, Rd.of P.rs, by rw [P.rd.1]; exact h1, h2, fun ys p' e1 e2 hp' => ?_⟩)
  obtain ⟨W2, h2⟩ := W.pure (same_new hp') (rsn_lst hp' (dx_strs ys))
  exact ⟨_, env, feet, _, W2, h2, q ys e1 e2⟩
end
end L3
end

section
set_option Elab.async false
set_option linter.all false
set_option maxRecDepth 100000
set_option maxHeartbeats 1000000
set_option autoImplicit false
/-! L3 part af: a House's marks; a new House. -/
namespace L3
open PySem PySem.Spec PyProof.Rows L2
section
variable {X : Cx} {C : Ct} {e : Expr} {t : RE} {x y : Str} {px p1 p2 p3 p4 p5 p6 p7 p8 p9 apos pos : Pos}
theorem dx_dk {K : PySem.W.Frag} {Z : Hp} {a : Addr} {xs : List (L2.Key × V)} {kvs : DKs} (h : Z a = some (.dK xs)) (r : DkR K Z xs kvs) : Dx K Z (.ref a) (dkD kvs) := .dks h r.1 rfl r.2
/-- x.held.append((x.kept, dict(x.rows))) -/
def rHMark (i : Nat) : RS := fun D env => ∃ k r h, env[i]? = some (.ow (.hs k r h)) ∧ h.length < sizeLine ∧ D.nx (env.set i (.ow (.hs k r (h ++ [.tuple [k, dkD r]]))))
theorem ss_hmark {kt} (i : Nat) (hF : HF X.K) (hg : Gl X "dict") (hm : X.mg "dict" = none) (nm : Nm X i x := by exact ⟨rfl, by first | exact Or.inl rfl | exact Or.inr (Or.inl rfl) | exact Or.inr (Or.inr rfl), by decide, by decide⟩) (hb : attributeBase (.Name x p2) "kept" X.env (eval (.Name x p2) X.env) = eval (.Name x p2) X.env := by rfl)
    (hb2 : attributeBase (.Name x p3) "rows" X.env (eval (.Name x p3) X.env) = eval (.Name x p3) X.env := by rfl) (hb3 : attributeBase (.Name x p1) "held" X.env (eval (.Name x p1) X.env) = eval (.Name x p1) X.env := by rfl)
    (hbase : attributeBase (.Attribute (.Name x p1) "held" p5) "append" X.env (eval (.Attribute (.Name x p1) "held" p5) X.env) = eval (.Attribute (.Name x p1) "held" p5) X.env := by rfl)
    (hfew : ((backTo p9 (starEach [.Tuple [.Attribute (.Name x p2) "kept" p6, .Call (.Name "dict" p4) [.Attribute (.Name x p3) "rows" p7] [] p8] kt px] X.env)).all (fun x => !x.1) && (backToKw p9 (keywordEach [] X.env)).all (fun x => x.1.isSome)
      && decide (([.Tuple [.Attribute (.Name x p2) "kept" p6, .Call (.Name "dict" p4) [.Attribute (.Name x p3) "rows" p7] [] p8] kt px] : List Expr).length + ([] : List Keyword).length + (if ([] : List Keyword).isEmpty then 0 else 1) < 30)) = true := by rfl)
    (hline : (apos.endLine == p9.line) = true := by rfl)
    (hs : swapsWith (.Call (.Attribute (.Attribute (.Name x p1) "held" p5) "append" apos) [.Tuple [.Attribute (.Name x p2) "kept" p6, .Call (.Name "dict" p4) [.Attribute (.Name x p3) "rows" p7] [] p8] kt px] [] p9) none pos.line X.env = pure false := by rfl) :
    SS X C (.Expr (.Call (.Attribute (.Attribute (.Name x p1) "held" p5) "append" apos) [.Tuple [.Attribute (.Name x p2) "kept" p6, .Call (.Name "dict" p4) [.Attribute (.Name x p3) "rows" p7] [] p8] kt px] [] p9) pos) (rHMark i) := .mk fun σ H pf env feet D W tk q => by
  obtain ⟨k, r, h, h0, hz, q⟩ := q
  obtain ⟨p, dx, r', l, v, xs, vs, g1, g2, g3, P⟩ := slot_hs W h0
  refine sW.of (ps_expr (pe_bm PySem.F.plainAttrs_list PySem.F.slot_list_append PySem.F.type_list_append mt_append (pe_fld nm.pe hb3) (pa_cons (pe_tup (pa_cons (pe_fld nm.pe hb) (pa_cons (pe_callTy call_dictD hg hm bt_dict (pa_cons (pe_fld nm.pe hb2) pa_nil)) pa_nil))) pa_nil) hbase hfew hline) hs) ?_
  refine ⟨_, g1, p, _, dx, _, _, rfl, P.ob, hF.cl, hF.nh, hsF_h v r' l, .inl ⟨rfl, vs, .inl (.inl P.hl)⟩, ?_⟩
  refine ⟨_, g1, p, _, dx, _, _, rfl, P.ob, hF.cl, hF.nk, hsF_k v r' l, ?_⟩
  refine ⟨_, g1, p, _, dx, _, _, rfl, P.ob, hF.cl, hF.nr, hsF_r v r' l, ?_⟩
  refine ⟨r', xs, rfl, Rd.of P.rs, fun p' hp' => ⟨by simp [sizeLine_eq], fun T hT => ?_⟩⟩
  -- the dict at p', the tuple at T
  obtain ⟨W1, w1⟩ := W.pure (same_new hp') (rsn_dk hp' P.rd)
  have F0 : ∀ a ∈ feet.flatten ++ [], H a ≠ none := fun a m => W.rel.tr a (by rw [List.append_nil] at m; exact m)
  have np' : p' ∉ feet.flatten ++ [] := fun m => F0 p' m hp'
  have W2 : Wf X.K C pf σ (upd H p' (.dK xs)) env feet [] := W1.drop
  have dd : Dx X.K (hid (upd H p' (.dK xs)) (feet.flatten ++ [])) (.ref p') (dkD r) := dx_dk (by rw [hid_out np', upd_same]) (P.rd.mono (hid_same fun a o n q => ⟨n, same_new hp' _ _ q⟩))
  have kd : Dx X.K (hid (upd H p' (.dK xs)) (feet.flatten ++ [])) v k := dx_mono (hid_same fun a o n q => ⟨n, same_new hp' _ _ q⟩) P.kd
  obtain ⟨W3, w3⟩ := W2.pure (same_new hT) (rsn_tup (fun a m => W2.rel.tr a (by rw [List.append_nil] at m; exact m)) hT (.cons kd (.cons dd .nil)))
  obtain ⟨p0, dx0, r0, l0, v0, xs0, vs0, a1, a2, a3, P3⟩ := slot_hs W3 h0
  rw [g1] at a1; cases a1
  rw [g2] at a2; cases a2
  refine ⟨l, vs0, .ref T, rfl, rfl, P3.hl, by rw [P3.hd.lenD]; exact hz, _, feet, ?_, q⟩
  exact W3.turn (o := .hs k r h) (o' := .hs k r (h ++ [.tuple [k, dkD r]])) g1 g2 (fun a ha => upd_ne fun z => ha (by rw [z]; simp)) (P3.setH g3 (P3.hd.app (.one w3.2))).ow
/-- x.held[y] -/
def eHHeld (i j : Nat) : RE := fun env Q _ => ∃ k r h n d, env[i]? = some (.ow (.hs k r h)) ∧ env[j]? = some (.fz (.int n)) ∧ atI h n = some d ∧ Q (.fz d) env
theorem se_hheld (i j : Nat) (hF : HF X.K) (nm : Nm X i x := by exact ⟨rfl, by first | exact Or.inl rfl | exact Or.inr (Or.inl rfl) | exact Or.inr (Or.inr rfl), by decide, by decide⟩) (nm2 : Nm X j y := by exact ⟨rfl, by first | exact Or.inl rfl | exact Or.inr (Or.inl rfl) | exact Or.inr (Or.inr rfl), by decide, by decide⟩) (hb : attributeBase (.Name x px) "held" X.env (eval (.Name x px) X.env) = eval (.Name x px) X.env := by rfl) (hs : PlainIx (.Name y p2) := by exact fun _ _ => rfl) :
    SE X C (.Subscript (.Attribute (.Name x px) "held" p1) (.Name y p2) pos) (eHHeld i j) := .mk fun σ H pf env feet Q EX W tk q => by
  obtain ⟨k, r, h, n, d, h0, h1, h2, q⟩ := q
  obtain ⟨p, dx, r', l, v, xs, vs, g1, g2, g3, P⟩ := slot_hs W h0
  obtain ⟨v1, b1, b2⟩ := slot_fz W h1
  cases b2
  obtain ⟨v2, c1, c2⟩ := atI_dx P.hd h2
  refine eW.of (pe_ix ix_list (pe_fld nm.pe hb) nm2.pe hs) ((hs_fld P hF g1).2.2 ⟨_, b1, l, vs, n, v2, rfl, rfl, .inl (.inl P.hl), c1, .fz d, env, feet, [], W, ⟨rfl, c2⟩, q⟩)
/-- x.held = x.held[:y + 1] -/
def rHCut (i j : Nat) : RS := fun D env => ∃ k r h n, env[i]? = some (.ow (.hs k r h)) ∧ env[j]? = some (.fz (.int (n : Nat))) ∧ n < h.length ∧ D.nx (env.set i (.ow (.hs k r (h.take (n + 1)))))
theorem cutV_to {vs : List V} {n : Nat} (h : n < vs.length) : cutV vs none (some ((n : Int) + 1)) = vs.take (n + 1) := by
  unfold cutV
  have e0 : HT.sIx vs.length 0 none = 0 := rfl
  have e1 : HT.sIx vs.length vs.length (some ((n : Int) + 1)) = n + 1 := by
    show Nat.min (if ((n : Int) + 1) < 0 then (((n : Int) + 1) + vs.length).toNat else ((n : Int) + 1).toNat) vs.length = n + 1
    rw [if_neg (by omega)]
    have : ((n : Int) + 1).toNat = n + 1 := by omega
    rw [this]
    exact Nat.min_eq_left h
  rw [e0, e1, List.drop_zero, Nat.sub_zero]
theorem ss_hcut {c : Nat} (i j : Nat) (hF : HF X.K) (nm : Nm X i x := by exact ⟨rfl, by first | exact Or.inl rfl | exact Or.inr (Or.inl rfl) | exact Or.inr (Or.inr rfl), by decide, by decide⟩) (nm2 : Nm X j y := by exact ⟨rfl, by first | exact Or.inl rfl | exact Or.inr (Or.inl rfl) | exact Or.inr (Or.inr rfl), by decide, by decide⟩) (hb : attributeBase (.Name x p2) "held" X.env (eval (.Name x p2) X.env) = eval (.Name x p2) X.env := by rfl)
    (hs : swapsWith (.Subscript (.Attribute (.Name x p2) "held" p3) (.Slice none (some (.BinOp (.Name y p4) .Add (.Constant (.int 1) c p5) p6)) none p7) p8) (some (.Attribute (.Name x px) "held" p1)) pos.line X.env = pure false := by rfl) :
    SS X C (.Assign [.Attribute (.Name x px) "held" p1] (.Subscript (.Attribute (.Name x p2) "held" p3) (.Slice none (some (.BinOp (.Name y p4) .Add (.Constant (.int 1) c p5) p6)) none p7) p8) pos) (rHCut i j) := .mk fun σ H pf env feet D W tk q => by
  obtain ⟨k, r, h, n, h0, h1, hn, q⟩ := q
  obtain ⟨p, dx, r', l, v, xs, vs, g1, g2, g3, P⟩ := slot_hs W h0
  obtain ⟨v1, b1, b2⟩ := slot_fz W h1
  cases b2
  refine sW.of (ps_fld nm.pe (pe_slice sl_list (pe_fld nm.pe hb) po_none (po_some (pe_op op_add nm2.pe pe_int))) hs) ?_
  refine ⟨_, g1, p, _, dx, _, _, rfl, P.ob, hF.cl, hF.nh, hsF_h v r' l, ?_⟩
  refine ⟨_, b1, (n : Int), 1, rfl, rfl, (n : Int) + 1, rfl, l, vs, rfl, .inl (.inl P.hl), fun q' hq' => ?_⟩
  obtain ⟨W1, w1⟩ := W.pure (same_new hq') (rsn_lst hq' P.hd)
  rw [cutV_to (by rw [P.hd.lenD]; exact hn)]
  have sm := same_new (o := .lst (vs.take (n + 1))) hq'
  obtain ⟨W2, p2, e2, _, vs', hl', hv'⟩ := W.pure sm (rsn_lst hq' (P.hd.takeN (n + 1)))
  cases e2
  obtain ⟨p0, dx0, r0, l0, v0, xs0, vs0, a1, a2, a3, P3⟩ := slot_hs W2 h0
  rw [g1] at a1; cases a1
  rw [g2] at a2; cases a2
  refine ⟨.ref p, g1, p, _, dx, _, rfl, P3.ob, hF.cl, hF.nh, (show 3 < 1000 by decide), _, feet.set i [p, dx, r', q'], ?_, q⟩
  have nq : ∀ a ∈ [p, dx, r', l], a ≠ q' := fun a m z => (List.nodup_append.mp W2.nd).2.2 a (mem_of_get g2 m) q' (by simp) z
  obtain ⟨n1, n2, n3, n4, n5, n6⟩ := nodup4 g3
  refine W2.reft g1 g2 (fun a ha => upd_ne fun z => ha (by rw [z]; simp)) (fun a m => ?_) ?_ ?_
  · simp only [List.mem_cons, List.not_mem_nil, or_false] at m ⊢
    rcases m with m | m | m | m
    · exact .inl (.inl m)
    · exact .inl (.inr (.inl m))
    · exact .inl (.inr (.inr (.inl m)))
    · exact .inr m
  · have m1 := nq p (by simp); have m2 := nq dx (by simp); have m3 := nq r' (by simp)
    simp only [List.nodup_cons, List.mem_cons, List.not_mem_nil, or_false, not_or, List.nodup_nil, and_true]
    exact ⟨⟨fun z => n1 z.symm, fun z => n2 z.symm, m1⟩, ⟨fun z => n4 z.symm, m2⟩, m3, fun z => z⟩
  · have hl2 : (upd (upd H q' (.lst (vs.take (n + 1)))) p (.ins (He.ga X.K "House") dx (putF "held" (.ref q') (hsF v0 r' l)))) q' = some (.lst vs') := by
      rw [upd_ne fun z => nq p (by simp) z.symm]; exact hl'
    exact HsP.ow (l := q') (v := v0) (xs := xs0) (vs := vs') ⟨by rw [upd_same, put_h], by rw [upd_ne n1]; exact P3.dc, by rw [upd_ne n2]; exact P3.rs, hl2, P3.kd, P3.rd, hv'⟩
/-- x.kept = y; x.rows = {}; x.held = [] of a new one -/
def rHInit (i j : Nat) : RS := fun D env => ∃ d, env[i]? = some (.ow .ni) ∧ env[j]? = some (.fz d) ∧ D.nx (env.set i (.ow (.hs d [] [])))
theorem slot_ni {K : PySem.W.Frag} {C : Ct} {pf : List (V × PyData)} {σ : L2.St} {H : Hp} {env : En} {feet : List (List Addr)} {ex : List Addr} {i : Nat} (W : Wf K C pf σ H env feet ex) (h : env[i]? = some (.ow .ni)) : ∃ p dx, σ[i]? = some (some (.ref p)) ∧ feet[i]? = some [p, dx] ∧ p ≠ dx ∧ H p = some (.ins (He.ga K "House") dx []) ∧ H dx = some (.own p) := by
  have i1 : i < env.length := (List.getElem?_eq_some_iff.mp h).1
  have i2 : i < σ.length := by rw [W.rel.l1]; exact i1
  have i3 : i < feet.length := by rw [W.rel.l2]; exact i1
  obtain ⟨p, e1, dx, hf, h1, h2⟩ := W.rel.sl i _ _ _ (List.getElem?_eq_getElem i2) h (List.getElem?_eq_getElem i3)
  have e4 : feet[i]? = some [p, dx] := by rw [List.getElem?_eq_getElem i3, hf]
  have nd := nodup_each (List.nodup_append.mp W.nd).1 e4
  exact ⟨p, dx, by rw [List.getElem?_eq_getElem i2, e1], e4, by simpa using nd, h1, h2⟩
theorem ss_hinit (i j : Nat) (hF : HF X.K) (nm : Nm X i x := by exact ⟨rfl, by first | exact Or.inl rfl | exact Or.inr (Or.inl rfl) | exact Or.inr (Or.inr rfl), by decide, by decide⟩) (nm2 : Nm X j y := by exact ⟨rfl, by first | exact Or.inl rfl | exact Or.inr (Or.inl rfl) | exact Or.inr (Or.inr rfl), by decide, by decide⟩) (hs1 : swapsWith (.Name y p3) (some (.Attribute (.Name x p1) "kept" p2)) p4.line X.env = pure false := by rfl) (hs2 : swapsWith (.Dict [] [] p7) (some (.Attribute (.Name x p5) "rows" p6)) p8.line X.env = pure false := by rfl)
    (hs3 : swapsWith (.List [] apos) (some (.Attribute (.Name x p9) "held" px)) pos.line X.env = pure false := by rfl) :
    SSs X C [.Assign [.Attribute (.Name x p1) "kept" p2] (.Name y p3) p4, .Assign [.Attribute (.Name x p5) "rows" p6] (.Dict [] [] p7) p8, .Assign [.Attribute (.Name x p9) "held" px] (.List [] apos) pos] (rHInit i j) := .mk fun σ H pf env feet D W tk q => by
  obtain ⟨d, h0, h1, q⟩ := q
  obtain ⟨p, dx, g1, g2, ne, o1, o2⟩ := slot_ni W h0
  obtain ⟨v, b1, b2⟩ := slot_fz W h1
  refine ssW.of (pss_cons (ps_fld nm.pe nm2.pe hs1) (pss_cons (ps_fld nm.pe pe_dnewK hs2) (pss_one (ps_fld nm.pe (pe_lst pa_nil) hs3)))) ?_
  refine ⟨_, b1, .ref p, g1, p, _, dx, _, rfl, o1, hF.cl, hF.nk, (by show 0 < 1000; decide), fun r hr => ?_⟩
  have npr : p ≠ r := fun z => by subst z; rw [upd_same] at hr; cases hr
  have hr0 : H r = none := by rw [upd_ne npr.symm] at hr; exact hr
  have ndr : dx ≠ r := fun z => by subst z; rw [hr0] at o2; cases o2
  refine ⟨.ref p, g1, p, _, dx, _, rfl, by rw [upd_ne npr, upd_same], hF.cl, hF.nr, (by show 1 < 1000; decide), ⟨Nat.zero_le _, fun l hl => ?_⟩⟩
  have npl : p ≠ l := fun z => by subst z; rw [upd_same] at hl; cases hl
  have nrl : r ≠ l := fun z => by subst z; rw [upd_ne npl.symm, upd_same] at hl; cases hl
  have hl0 : H l = none := by rw [upd_ne npl.symm, upd_ne nrl.symm, upd_ne npl.symm] at hl; exact hl
  have ndl : dx ≠ l := fun z => by subst z; rw [hl0] at o2; cases o2
  refine ⟨.ref p, g1, p, _, dx, _, rfl, by rw [upd_ne npl, upd_same], hF.cl, hF.nh, (by rw [put_k0, put_r0]; show 2 < 1000; decide), ?_⟩
  rw [put_k0, put_r0, put_h0]
  have sm0 : Same H (upd (upd H r (.dK [])) l (.lst [])) := (same_new hr0).trans (same_new (by rw [upd_ne nrl.symm]; exact hl0))
  have W1 : Wf X.K C pf σ (upd (upd H r (.dK [])) l (.lst [])) env feet [r, l] := by
    refine W.grow sm0 (fun a m => ?_) ?_ (fun a m => ?_)
    · simp only [List.mem_cons, List.not_mem_nil, or_false] at m
      rcases m with rfl | rfl
      · exact hr0
      · exact hl0
    · simpa using nrl
    · simp only [List.mem_cons, List.not_mem_nil, or_false] at m
      rcases m with rfl | rfl
      · rw [upd_ne nrl, upd_same]; simp
      · rw [upd_same]; simp
  have b2' : Dx X.K (hid (upd (upd H r (.dK [])) l (.lst [])) (feet.flatten ++ [r, l])) v d := dx_mono (hid_same fun a o n q => ⟨fun m => (by
    rcases List.mem_append.mp m with m | m
    · exact n (List.mem_append_left _ m)
    · simp only [List.mem_cons, List.not_mem_nil, or_false] at m
      rcases m with m | m
      · rw [m, hr0] at q; cases q
      · rw [m, hl0] at q; cases q), sm0 _ _ q⟩) b2
  have eH : upd (upd (upd (upd (upd H p (.ins (He.ga X.K "House") dx (hsF1 v))) r (.dK [])) p (.ins (He.ga X.K "House") dx (hsF2 v (.ref r)))) l (.lst [])) p (.ins (He.ga X.K "House") dx (hsF3 v (.ref r) (.ref l))) = upd (upd (upd H r (.dK [])) l (.lst [])) p (.ins (He.ga X.K "House") dx (hsF v r l)) := funext fun a => by
    by_cases e1 : a = p
    · rw [e1, upd_same, upd_same]; rfl
    · rw [upd_ne e1, upd_ne e1]
      by_cases e2 : a = l
      · rw [e2, upd_same, upd_same]
      · rw [upd_ne e2, upd_ne e2, upd_ne e1]
        by_cases e3 : a = r
        · rw [e3, upd_same, upd_same]
        · rw [upd_ne e3, upd_ne e3, upd_ne e1]
  refine ⟨env.set i (.ow (.hs d [] [])), feet.set i [p, dx, r, l], ?_, q⟩
  have W2 := W1.reft (i := i) (p := p) (o' := .hs d [] []) (g' := [p, dx, r, l]) (H' := upd (upd (upd H r (.dK [])) l (.lst [])) p (.ins (He.ga X.K "House") dx (hsF v r l))) g1 g2 (fun a ha => upd_ne fun z => ha (by rw [z]; simp)) (fun a m => by
      simp only [List.mem_cons, List.not_mem_nil, or_false] at m ⊢
      rcases m with m | m | m | m
      · exact .inl (.inl m)
      · exact .inl (.inr m)
      · exact .inr (.inl m)
      · exact .inr (.inr m)) (by
      simp only [List.nodup_cons, List.mem_cons, List.not_mem_nil, or_false, not_or, List.nodup_nil, and_true]
      exact ⟨⟨ne, npr, npl⟩, ⟨ndr, ndl⟩, nrl, fun z => z⟩) (HsP.ow (v := v) (xs := []) (vs := []) ⟨upd_same, by rw [upd_ne ne.symm, upd_ne ndl, upd_ne ndr]; exact o2, by rw [upd_ne npr.symm, upd_ne nrl, upd_same], by rw [upd_ne npl.symm, upd_same], b2', DkR.nil, .nil⟩)
  exact eH ▸ W2
end
end L3
end

section
set_option Elab.async false
set_option linter.all false
set_option maxRecDepth 100000
set_option maxHeartbeats 1000000
set_option autoImplicit false
/-! L3 part ag: a House's methods; a House made. -/
namespace L3
open PySem PySem.Spec PyProof.Rows L2
section
variable {X : Cx} {C : Ct} {a : Expr} {es : List Expr} {tr : RR} {k : Nat} {f : Addr} {fd : FuncData} {ps : List Str} {m : M3} {x : Str} {p pos : Pos}
/-- the callee runs, whatever its arguments' form -/
theorem call_goA (G : GOk X.prog X.w X.K X.mg X.base k f fd ps m) (hr : Room k X.A) (hgd : X.A.guards = some []) {σ : L2.St} {H1 : Hp} {pf : List (V × PyData)} {e1 : En} {f1 : List (List Addr)} {Q : Rs → En → Prop} {EX : KX} {pins : List (Addr × Obj)} {s1 : Shared} {us us0 : List Value} {kw : List (Str × Value)} {vs : List V} {rs : List Rs}
    (b : BindsTo s1 fd ⟨us0, kw⟩ (ps.zip us)) (I1 : Inv X pins σ H1 s1) (r : Vals vs us) (W1 : Wf X.K C pf σ H1 e1 f1 []) (tk : Tk X C pf EX) (hp : Paired (ArR X.K (hid H1 (f1.flatten ++ [])) σ) vs rs) (hln : rs.length = ps.length) (hn : (brs rs).Nodup) (q1 : m (rs.map (slOf e1)) (fun r sls => cRes rs r (updEnv rs sls e1) Q) (fun er sls => EX er (updEnv rs sls e1))) :
    wpAny (model X.prog X.w) X.A (call (.ref f) us0 kw) (EP X pins σ (Po X.K C pf σ Q)) X.xe s1 := by
  have CI := call_in W1 hp hn
  generalize hfA : rs.map (ftOf f1) = fA at CI
  generalize hFh : (f1.flatten.filter fun a => decide (a ∉ fA.flatten)) = Fh at CI
  have hvl : vs.length = ps.length := by rw [Paired.length hp]; exact hln
  refine wpAny_call (codeAny_mono (G.run X.A X.stack s1 (hid H1 Fh) ⟨us0, kw⟩ us vs _ _ hr hgd (env0_hid I1.env0 CI.light) b r ⟨rs.map (slOf e1), fA, _, _, hvl, CI.rel, CI.nd, q1, fun v H' z => z, fun cls d H' z => z⟩) fun r s' hq => ?_)
  cases r with
  | error e =>
    refine tk.1 e s' (XE.of_call I1 (fun cls d H' hc => ?_) (raised_hid I1 CI.light hq))
    obtain ⟨H2, rfl, hf, sls', feet', er, W2, hE, q2⟩ := hc
    obtain ⟨W3, sm, _⟩ := call_out W1 hp hn CI hfA.symm W2 hf
    exact ⟨_, _, er, W3.unpin tk.2, hE.mono sm, q2⟩
  | ok fl =>
    cases fl with
    | next => exact False.elim hq
    | brk => exact False.elim hq
    | cont => exact False.elim hq
    | ret u =>
      obtain ⟨v, H3, I3, rv, H2, rfl, hf, r, sls', feet', f, W2, hR, q2⟩ := after_hid I1 CI.light hq
      obtain ⟨W3, sm, bk⟩ := call_out W1 hp hn CI hfA.symm W2 hf
      refine ⟨v, _, I3, rv, ?_⟩
      cases r with
      | fz d =>
        obtain ⟨rfl, hd⟩ := hR
        exact ⟨.fz d, _, _, [], W3, ⟨rfl, dx_mono sm hd⟩, q2⟩
      | nw o =>
        obtain ⟨p, rfl, ho⟩ := hR
        exact ⟨.nw o, _, _, f, W3, ⟨p, rfl, ho.mono sm fun a ha => bk a (List.mem_append_right _ ha)⟩, q2⟩
      | br t =>
        obtain ⟨rfl, hσ, o, ho⟩ := hR
        have q3 : (match rs[t]? with
          | some (.br i) => Q (.br i) (updEnv rs sls' e1)
          | _ => False) := q2
        cases hrt : rs[t]? with
        | none => rw [hrt] at q3; exact q3.elim
        | some rr =>
          rw [hrt] at q3
          cases rr with
          | br i =>
            have hvt : vs[t]? = some v := by
              rw [List.getElem?_map] at hσ
              cases hv : vs[t]? with
              | none => rw [hv] at hσ; cases hσ
              | some y => rw [hv] at hσ; simpa using hσ
            have har0 := Paired.at_ hp hvt hrt
            have har : σ[i]? = some (some v) := har0
            have i1 : i < e1.length := by rw [← W1.rel.l1]; exact (List.getElem?_eq_some_iff.mp har).1
            have hpz : posB rs i = some t := by
              cases hz : posB rs i with
              | none => exact absurd hrt (posB_none hz)
              | some t' =>
                have := brs_inj hn hrt (posB_some hz)
                rw [this]
            have hen : (updEnv rs sls' e1)[i]? = some (.ow o) := by
              rw [updEnv_def]
              rw [List.getElem?_mapIdx, List.getElem?_eq_getElem i1]
              simp only [Option.map_some, hpz, List.getD_eq_getElem?_getD, ho]
              rfl
            exact ⟨.br i, _, _, [], W3, ⟨rfl, har, o, hen⟩, q3⟩
          | fz d => exact q3.elim
          | nw o => exact q3.elim
          | xc c g => exact q3.elim
      | xc c g => exact hR.elim
/-- x.m(arguments), x a House in slot i -/
def eMeth (n i : Nat) (m : M3) (tr : RR) : RE := fun env Q EX => (∃ k r h, env[i]? = some (.ow (.hs k r h))) ∧ tr env (fun rs e => rs.length + 1 = n ∧ (brs (.br i :: rs)).Nodup ∧ m ((.br i :: rs).map (slOf e)) (fun r sls => cRes (.br i :: rs) r (updEnv (.br i :: rs) sls e) Q) (fun er sls => EX er (updEnv (.br i :: rs) sls e))) EX
theorem se_meth {n : Nat} {y : Str} {apos : Pos} {pl : Sem Bool} (i : Nat) (hF : HF X.K) (hm : Meth X.K (He.ga X.K "House") y f) (G : GOk X.prog X.w X.K X.mg X.base k f fd ps m) (hr : Room k X.A) (hgd : X.A.guards = some []) (hb : Binds X.K fd ps []) (ha : SB X C (a :: es) tr) (hln0 : ps.length = n := by rfl)
    (hno : ¬ y = "kept" ∧ ¬ y = "rows" ∧ ¬ y = "held" := by decide +kernel) (nm : Nm X i x := by exact ⟨rfl, by first | exact Or.inl rfl | exact Or.inr (Or.inl rfl) | exact Or.inr (Or.inr rfl), by decide, by decide⟩) (he : starEach (a :: es) X.env = (false, eval a X.env) :: starEach es X.env := by rfl) (hpl : (backTo pos (starEach es X.env)).any (·.1) = false := by rfl)
    (ht : eval (.Call (.Attribute (.Name x p) y apos) (a :: es) [] pos) X.env = (do
      let ov ← eval (.Name x p) X.env
      standAt apos.atName
      let (f, first) ← holding [ov] (getMethod ov y pl)
      callWith pos f first (backTo pos (starEach (a :: es) X.env)) (backToKw pos (keywordEach [] X.env))) := by rfl) :
    SE X C (.Call (.Attribute (.Name x p) y apos) (a :: es) [] pos) (eMeth n i m tr) := .mk fun σ H pf env feet Q EX W tk q pins s I => by
  subst hln0
  obtain ⟨⟨kk, rr, hh, h0⟩, q⟩ := q
  obtain ⟨p0, dx, r', l, v, xs, vs0, g1, g2, g3, P⟩ := slot_hs W h0
  refine PySem.W.methodCall_KW (pl := pl) (thn (nm.pe.run pins s σ H (fun v' H' => v' = .ref p0 ∧ H' = H) I ⟨_, g1, rfl, rfl⟩) fun u s1 ⟨v1, H1, I1, rx, ev, eH⟩ => ?_) ht
  subst ev eH
  obtain rfl : u = Value.ref p0 := rx
  refine getmeth_ok I1 P.ob hF.cl hm (hsF_no v r' l hno.1 hno.2.1 hno.2.2) ?_
  refine PySem.W.callWith_K (first := [.ref p0]) (h₀ := X.base) I.ok.mod.kin hm.kp (thn (ha σ H1 pf env feet _ EX W tk q pos pins s1 I1) fun us s2 ⟨vs, H2, I2, r, rs, e1, f1, W1, hp, hln, hn, q1⟩ => ⟨I2.kIn, ?_⟩) he hpl
  have hl : (Value.ref p0 :: us).length = ps.length := by
    rw [List.length_cons, ← r.length, Paired.length hp]; exact hln
  have b := hb s2 (Value.ref p0 :: us) I2.kIn (by rw [List.append_nil]; exact hl)
  rw [List.append_nil] at b
  exact call_goA G hr hgd b I2 (.cons (show RelV (.ref p0) (.ref p0) from rfl) r) W1 tk (.cons (show ArR X.K _ σ (.ref p0) (.br i) from g1) hp) hln hn q1
theorem se_meth0 {y : Str} {apos : Pos} {pl : Sem Bool} (i : Nat) (hF : HF X.K) (hm : Meth X.K (He.ga X.K "House") y f) (G : GOk X.prog X.w X.K X.mg X.base k f fd ps m) (hr : Room k X.A) (hgd : X.A.guards = some []) (hb : Binds X.K fd ps []) (hln0 : ps.length = 1 := by rfl)
    (hno : ¬ y = "kept" ∧ ¬ y = "rows" ∧ ¬ y = "held" := by decide +kernel) (nm : Nm X i x := by exact ⟨rfl, by first | exact Or.inl rfl | exact Or.inr (Or.inl rfl) | exact Or.inr (Or.inr rfl), by decide, by decide⟩)
    (ht : eval (.Call (.Attribute (.Name x p) y apos) [] [] pos) X.env = (do
      let ov ← eval (.Name x p) X.env
      standAt apos.atName
      let (f, first) ← holding [ov] (getMethod ov y pl)
      callWith pos f first (backTo pos (starEach [] X.env)) (backToKw pos (keywordEach [] X.env))) := by rfl) :
    SE X C (.Call (.Attribute (.Name x p) y apos) [] [] pos) (eMeth 1 i m bN) := .mk fun σ H pf env feet Q EX W tk q pins s I => by
  obtain ⟨⟨kk, rr, hh, h0⟩, hln, hn, q1⟩ := q
  obtain ⟨p0, dx, r', l, v, xs, vs0, g1, g2, g3, P⟩ := slot_hs W h0
  refine PySem.W.methodCall_KW (pl := pl) (thn (nm.pe.run pins s σ H (fun v' H' => v' = .ref p0 ∧ H' = H) I ⟨_, g1, rfl, rfl⟩) fun u s1 ⟨v1, H1, I1, rx, ev, eH⟩ => ?_) ht
  subst ev eH
  obtain rfl : u = Value.ref p0 := rx
  refine getmeth_ok I1 P.ob hF.cl hm (hsF_no v r' l hno.1 hno.2.1 hno.2.2) ?_
  refine PySem.W.callWith_K0 (first := [.ref p0]) I1.kIn hm.kp ?_
  have b := hb s1 [Value.ref p0] I1.kIn (by rw [List.append_nil]; exact hln0.symm)
  rw [List.append_nil] at b
  exact call_goA G hr hgd b I1 (.cons (show RelV (.ref p0) (.ref p0) from rfl) .nil) W tk (.cons (show ArR X.K _ σ (.ref p0) (.br i) from g1) .nil) (by rw [hln0]; rfl) hn q1
/-- keywords' values -/
def kW (X : Cx) (kws : List Keyword) : TA := fun σ H Q => ∀ pos pins s, Inv X pins σ H s → wpAny (model X.prog X.w) X.A (evalAll ((backToKw pos (keywordEach kws X.env)).map (·.2))) (AP X pins σ Q) X.xe s
/-- x.m(arguments, n = e) -/
def eMethK (n i : Nat) (m : M3) (tr : RR) (te : RE) : RE := fun env Q EX => (∃ k r h, env[i]? = some (.ow (.hs k r h))) ∧ tr env (fun rs e => ∃ ds : List PyData, rs = ds.map .fz ∧ vl te e (fun d e => rs.length + 2 = n ∧ (brs (.br i :: (rs ++ [.fz d]))).Nodup ∧ m ((.br i :: (rs ++ [.fz d])).map (slOf e)) (fun r sls => cRes (.br i :: (rs ++ [.fz d])) r (updEnv (.br i :: (rs ++ [.fz d])) sls e) Q) (fun er sls => EX er (updEnv (.br i :: (rs ++ [.fz d])) sls e))) EX) EX
theorem paired_fz {K : PySem.W.Frag} {Z : Hp} {σ : L2.St} : ∀ {vs : List V} {ds : List PyData}, Paired (ArR K Z σ) vs (ds.map .fz) → DxAll K Z vs ds
  | [], [], _ => .nil
  | _ :: _, _ :: _, .cons h q => .cons h (paired_fz q)
theorem fz_paired {K : PySem.W.Frag} {Z : Hp} {σ : L2.St} : ∀ {vs : List V} {ds : List PyData}, DxAll K Z vs ds → Paired (ArR K Z σ) vs (ds.map .fz)
  | _, _, .nil => .nil
  | _, _, .cons h q => .cons h (fz_paired q)
theorem Paired.snoc {α β : Type} {R : α → β → Prop} {x : α} {y : β} (h : R x y) : ∀ {l : List α} {m : List β}, Paired R l m → Paired R (l ++ [x]) (m ++ [y])
  | _, _, .nil => .cons h .nil
  | _, _, .cons a q => .cons a (Paired.snoc h q)
/-- one keyword-only value is bound last -/
def BindsK (K : PySem.W.Frag) (fd : FuncData) (ps : List Str) (kn : Str) : Prop := ∀ (s : Shared) (us : List Value) (w : Value), K.In s.heap → us.length + 1 = ps.length → BindsTo s fd ⟨us, [(kn, w)]⟩ (ps.zip (us ++ [w]))
theorem se_methK {n : Nat} {y kn : Str} {apos kpos : Pos} {e : Expr} {te : RE} {pl : Sem Bool} (i : Nat) (hF : HF X.K) (hm : Meth X.K (He.ga X.K "House") y f) (G : GOk X.prog X.w X.K X.mg X.base k f fd ps m) (hr : Room k X.A) (hgd : X.A.guards = some []) (hb : BindsK X.K fd ps kn) (ha : SB X C (a :: es) tr) (hk : SE X C e te) (hln0 : ps.length = n := by rfl)
    (hno : ¬ y = "kept" ∧ ¬ y = "rows" ∧ ¬ y = "held" := by decide +kernel) (nm : Nm X i x := by exact ⟨rfl, by first | exact Or.inl rfl | exact Or.inr (Or.inl rfl) | exact Or.inr (Or.inr rfl), by decide, by decide⟩) (he : starEach (a :: es) X.env = (false, eval a X.env) :: starEach es X.env := by rfl) 
    (hall : (backToKw pos (keywordEach [⟨some kn, e, kpos⟩] X.env)).all (·.1.isSome) = true := by rfl) (hks : (backToKw pos (keywordEach [⟨some kn, e, kpos⟩] X.env)).filterMap (·.1) = [kn] := by rfl)
    (hpl : ((backTo pos (starEach (a :: es) X.env)).any (·.1) || (backToKw pos (keywordEach [⟨some kn, e, kpos⟩] X.env)).any (·.1.isNone)) = false := by rfl)
    (ht : eval (.Call (.Attribute (.Name x p) y apos) (a :: es) [⟨some kn, e, kpos⟩] pos) X.env = (do
      let ov ← eval (.Name x p) X.env
      standAt apos.atName
      let (f, first) ← holding [ov] (getMethod ov y pl)
      callWith pos f first (backTo pos (starEach (a :: es) X.env)) (backToKw pos (keywordEach [⟨some kn, e, kpos⟩] X.env))) := by rfl) :
    SE X C (.Call (.Attribute (.Name x p) y apos) (a :: es) [⟨some kn, e, kpos⟩] pos) (eMethK n i m tr te) := .mk fun σ H pf env feet Q EX W tk q pins s I => by
  subst hln0
  obtain ⟨⟨kk, rr, hh, h0⟩, q⟩ := q
  obtain ⟨p0, dx, r', l, v, xs, vs0, g1, g2, g3, P⟩ := slot_hs W h0
  refine PySem.W.methodCall_KW (pl := pl) (thn (nm.pe.run pins s σ H (fun v' H' => v' = .ref p0 ∧ H' = H) I ⟨_, g1, rfl, rfl⟩) fun u s1 ⟨v1, H1, I1, rx, ev, eH⟩ => ?_) ht
  subst ev eH
  obtain rfl : u = Value.ref p0 := rx
  refine getmeth_ok I1 P.ob hF.cl hm (hsF_no v r' l hno.1 hno.2.1 hno.2.2) ?_
  refine PySem.W.callWith_KW (first := [.ref p0]) (h₀ := X.base) I.ok.mod.kin hm.kp hall (thn (ha σ H1 pf env feet _ EX W tk q pos pins s1 I1) fun us s2 ⟨vs, H2, I2, r, rs, e1, f1, W1, hp, ds, eds, q1⟩ => ?_) hpl he
  subst eds
  have hd := paired_fz hp
  refine thn ((pk_cons eW.pe pk_nil).run pos pins s2 σ H2 (fun zs H' => ∃ z, zs = [z] ∧ Pv X.K C (vs.zip ds ++ pf) σ (fun d e => (ds.map Rs.fz).length + 2 = ps.length ∧ (brs (.br i :: (ds.map Rs.fz ++ [.fz d]))).Nodup ∧ m ((.br i :: (ds.map Rs.fz ++ [.fz d])).map (slOf e)) (fun r sls => cRes (.br i :: (ds.map Rs.fz ++ [.fz d])) r (updEnv (.br i :: (ds.map Rs.fz ++ [.fz d])) sls e) Q) (fun er sls => EX er (updEnv (.br i :: (ds.map Rs.fz ++ [.fz d])) sls e))) z H') I2 ?_) fun ws s3 ⟨zs, H3, I3, rz, z, ez, d, e3, f3, W3, hz, hln, hn, q3⟩ => ⟨I3.kIn, ?_⟩
  · exact (hk.v σ H2 (vs.zip ds ++ pf) e1 f1 _ EX (W1.pinAll hd) tk.addL q1).imp fun z H' h => ⟨z, rfl, h⟩
  subst ez
  obtain ⟨w, rfl, rw'⟩ := Vals.one rz
  rw [hks]
  have hl : (Value.ref p0 :: us).length + 1 = ps.length := by
    have := r.length
    have := hd.lenD
    simp only [List.length_cons, List.length_map] at *
    omega
  have b := hb s3 (Value.ref p0 :: us) w I3.kIn hl
  have hd3 : DxAll X.K (hid H3 (f3.flatten ++ [])) vs ds := dpAll_pins hd.lenD fun p hp => W3.pin p (List.mem_append_left _ hp)
  refine call_goA (us0 := .ref p0 :: us) (kw := [(kn, w)]) (us := .ref p0 :: (us ++ [w])) (vs := .ref p0 :: (vs ++ [z])) (rs := .br i :: (ds.map Rs.fz ++ [.fz d])) G hr hgd b I3 (.cons (show RelV (.ref p0) (.ref p0) from rfl) (r.append (.cons rw' .nil))) (W3.unpin fun p hp => List.mem_append_right _ hp) tk (.cons (show ArR X.K _ σ (.ref p0) (.br i) from g1) (Paired.snoc (show ArR X.K (hid H3 (f3.flatten ++ [])) σ z (.fz d) from hz) (fz_paired hd3))) ?_ hn q3
  simp only [List.length_cons, List.length_append, List.length_map, List.length_nil] at *
  omega
end
end L3
end

section
set_option Elab.async false
set_option linter.all false
set_option maxRecDepth 100000
set_option maxHeartbeats 1000000
set_option autoImplicit false
/-! L3 part ah: House(..). -/
namespace L3
open PySem PySem.Spec PyProof.Rows L2
section
variable {K : PySem.W.Frag} {C : Ct} {pf : List (V × PyData)} {σ : L2.St} {H H' : Hp} {env : En} {feet : List (List Addr)}
def noBR (C : Ct) : Ct := { C with BR := [] }
theorem flat_snoc {α : Type} (l : List (List α)) (f : List α) : (l ++ [f]).flatten = l.flatten ++ f := by simp
/-- a further slot for a thing that stands in none -/
theorem Wf.ext {p : Addr} {o : Ow} {f : List Addr} (W : Wf K C pf σ H env feet f) (ho : OwR K (hid H (feet.flatten ++ f)) H p o f) : Wf K (noBR C) pf (σ ++ [some (.ref p)]) H (env ++ [.ow o]) (feet ++ [f]) [] := by
  have ff : (feet ++ [f]).flatten ++ [] = feet.flatten ++ f := by rw [List.append_nil, flat_snoc]
  have l1 := W.rel.l1
  have l2 := W.rel.l2
  refine ⟨by rw [ff]; exact W.nd, ⟨by simp [l1], by simp [l2], fun j u t g h1 h2 h3 => ?_⟩, fun q hq => by rw [ff]; exact W.pin q hq, by simp, W.fr, fun a m => W.nw a (by rw [ff] at m; exact m), fun j hj => by cases hj⟩
  rw [ff]
  by_cases hj : j < σ.length
  · rw [List.getElem?_append_left hj] at h1
    rw [List.getElem?_append_left (by omega)] at h2 h3
    exact W.rel.sl j u t g h1 h2 h3
  · have ej : j = σ.length := by
      have := (List.getElem?_eq_some_iff.mp h1).1
      simp at this
      omega
    subst ej
    rw [List.getElem?_append_right (Nat.le_refl _), Nat.sub_self] at h1
    rw [l1, List.getElem?_append_right (Nat.le_refl _), Nat.sub_self] at h2
    rw [l1, ← l2, List.getElem?_append_right (Nat.le_refl _), Nat.sub_self] at h3
    cases h1; cases h2; cases h3
    exact ⟨p, rfl, ho⟩
/-- the further slot is given up -/
theorem Wf.unext {v : Option V} {s : Sl} {g : List Addr} (W : Wf K (noBR C) pf (σ ++ [v]) H (env ++ [s]) (feet ++ [g]) []) (hl : σ.length = env.length) (pr : ∀ i ∈ C.BR, σ[i]? = C.σ0[i]?) : Wf K C pf σ H env feet g ∧ SlR K (hid H (feet.flatten ++ g)) H v s g := by
  have ff : (feet ++ [g]).flatten ++ [] = feet.flatten ++ g := by rw [List.append_nil, flat_snoc]
  have l1 := W.rel.l1
  have l2 := W.rel.l2
  simp at l1 l2
  have slr := fun j u t f (h1 : (σ ++ [v])[j]? = some u) h2 h3 => W.rel.sl j u t f h1 h2 h3
  rw [ff] at slr
  refine ⟨⟨by rw [← ff]; exact W.nd, ⟨l1, l2, fun j u t f h1 h2 h3 => slr j u t f ?_ ?_ ?_⟩, fun q hq => by rw [← ff]; exact W.pin q hq, fun a m => W.rel.tr a ?_, W.fr, fun a m => W.nw a (by rw [ff]; exact m), pr⟩, slr σ.length v s g ?_ ?_ ?_⟩
  · rw [List.getElem?_append_left (List.getElem?_eq_some_iff.mp h1).1]; exact h1
  · rw [List.getElem?_append_left (List.getElem?_eq_some_iff.mp h2).1]; exact h2
  · rw [List.getElem?_append_left (List.getElem?_eq_some_iff.mp h3).1]; exact h3
  · rw [flat_snoc]; exact List.mem_append_right _ m
  · rw [List.getElem?_append_right (Nat.le_refl _), Nat.sub_self]; rfl
  · rw [l1, List.getElem?_append_right (Nat.le_refl _), Nat.sub_self]; rfl
  · rw [l1, ← l2, List.getElem?_append_right (Nat.le_refl _), Nat.sub_self]; rfl
end
/-- House(arguments) -/
def eMake (n : Nat) (m : M3) (ta : RA) : RE := fun env Q EX => ta env (fun ds e => ds.length + 1 = n ∧ m (.ow .ni :: ds.map .fz) (fun r sls => r = .fz .none ∧ ∃ o rest, sls = .ow o :: rest ∧ Q (.nw o) e) (fun er sls => EX er e)) EX
theorem posB_fz {L : Nat} {ds : List PyData} : ∀ j, posB (.br L :: ds.map .fz) j = if L = j then some 0 else none := fun j => by
  unfold posB
  rw [List.findIdx?_cons]
  by_cases h : L = j
  · rw [if_pos h]
    have : isBr j (.br L) = true := by simp [isBr, h]
    rw [this]; rfl
  · rw [if_neg h]
    have : isBr j (.br L) = false := by simp [isBr, h]
    rw [this]
    have : (ds.map Rs.fz).findIdx? (isBr j) = none := by
      rw [List.findIdx?_eq_none_iff]
      intro r hr
      obtain ⟨d, _, rfl⟩ := List.mem_map.mp hr
      rfl
    simp [this]
theorem mapIdx_snoc {α β : Type} (g : Nat → α → β) (l : List α) (x : α) : (l ++ [x]).mapIdx g = l.mapIdx g ++ [g l.length x] := by simp
theorem mapIdx_id {α : Type} {g : Nat → α → α} : ∀ {l : List α}, (∀ j x, j < l.length → g j x = x) → l.mapIdx g = l := fun {l} h => by
  apply List.ext_getElem?
  intro i
  rw [List.getElem?_mapIdx]
  cases e : l[i]? with
  | none => rfl
  | some x => rw [Option.map_some, h i x (List.getElem?_eq_some_iff.mp e).1]
theorem updEnv_ext {L : Nat} {ds : List PyData} {sls env : List Sl} {s : Sl} (hl : env.length = L) : updEnv (.br L :: ds.map .fz) sls (env ++ [s]) = env ++ [sls.getD 0 .un] := by
  rw [updEnv_def]
  rw [mapIdx_snoc, mapIdx_id fun j x hj => by rw [posB_fz, if_neg (by omega)], posB_fz, if_pos hl.symm]
theorem updFt_ext {L : Nat} {ds : List PyData} {fA feet : List (List Addr)} {f : List Addr} (hl : feet.length = L) : updFt (.br L :: ds.map .fz) fA (feet ++ [f]) = feet ++ [fA.getD 0 []] := by
  unfold updFt
  rw [mapIdx_snoc, mapIdx_id fun j x hj => by rw [posB_fz, if_neg (by omega)], posB_fz, if_pos hl.symm]
section
variable {X : Cx} {C : Ct} {a : Expr} {es : List Expr} {ta : RA} {k : Nat} {f : Addr} {fd : FuncData} {ps : List Str} {m : M3} {p pos : Pos}
theorem se_make {n : Nat} (M : Mk X.K (He.ga X.K "House") f) (G : GOk X.prog X.w X.K X.mg X.base k f fd ps m) (hr : Room (k + 1) X.A) (hgd : X.A.guards = some []) (hg : Gl X "House") (hm : X.mg "House" = some (.ref (He.ga X.K "House"))) (hb : Binds X.K fd ps []) (ha : SA X C (a :: es) ta) (hln0 : ps.length = n := by rfl)
    (he : starEach (a :: es) X.env = (false, eval a X.env) :: starEach es X.env := by rfl) (hpl : (backTo pos (starEach es X.env)).any (·.1) = false := by rfl) : SE X C (.Call (.Name "House" p) (a :: es) [] pos) (eMake n m ta) := .mk fun σ H pf env feet Q EX W tk q pins s I => by
  subst hln0
  refine wpAny_Call_Name_kw (ld_glob I hg hm ?_ (by decide))
  refine PySem.W.callWith_K (h₀ := X.base) I.ok.mod.kin M.kp (thn (ha σ H pf env feet _ EX W tk q pos pins s I) fun us s1 ⟨vs, H1, I1, r, ds, e1, f1, W1, hd, hln, q1⟩ => ⟨I1.kIn, ?_⟩) he hpl
  have nx : H1 (s1.heap.objs.size + 1) = none := I1.hok.fresh (Nat.le_succ _)
  have nd : H1 s1.heap.objs.size = none := I1.hok.fresh (Nat.le_refl _)
  have ne : s1.heap.objs.size ≠ s1.heap.objs.size + 1 := Nat.ne_of_lt (Nat.lt_succ_self _)
  have I2 := Inv.made (C := He.ga X.K "House") I1
  generalize hx : s1.heap.objs.size + 1 = x at nx ne I2
  generalize hdx : s1.heap.objs.size = dx at nd ne I2
  generalize hH2 : upd (upd H1 dx (.own x)) x (.ins (He.ga X.K "House") dx []) = H2 at I2
  have o1 : H2 x = some (.ins (He.ga X.K "House") dx []) := by rw [← hH2, upd_same]
  have o2 : H2 dx = some (.own x) := by rw [← hH2, upd_ne ne, upd_same]
  have sm : Same H1 H2 := by
    rw [← hH2]
    exact (same_new nd).trans (same_new (by rw [upd_ne ne.symm]; exact nx))
  have W2 : Wf X.K C pf σ H2 e1 f1 [x, dx] := by
    refine W1.grow sm (fun b m => ?_) (by simpa using ne.symm) (fun b m => ?_)
    · simp only [List.mem_cons, List.not_mem_nil, or_false] at m
      rcases m with e | e
      · rw [e]; exact nx
      · rw [e]; exact nd
    · simp only [List.mem_cons, List.not_mem_nil, or_false] at m
      rcases m with e | e
      · rw [e, o1]; simp
      · rw [e, o2]; simp
  have hd2 : DxAll X.K (hid H2 (f1.flatten ++ [x, dx])) vs ds := dxAll_mono (hid_same fun b o n q => ⟨fun m => (by
    rcases List.mem_append.mp m with m | m
    · exact n (List.mem_append_left _ m)
    · simp only [List.mem_cons, List.not_mem_nil, or_false] at m
      rcases m with m | m
      · rw [m, nx] at q; cases q
      · rw [m, nd] at q; cases q), sm _ _ q⟩) hd
  have W3 := W2.ext (p := x) (o := .ni) ⟨dx, rfl, o1, o2⟩
  have ff : (f1 ++ [[x, dx]]).flatten ++ [] = f1.flatten ++ [x, dx] := by rw [List.append_nil, flat_snoc]
  have l1 := W2.rel.l1
  have l2 := W2.rel.l2
  have hp : Paired (ArR X.K (hid H2 ((f1 ++ [[x, dx]]).flatten ++ [])) (σ ++ [some (.ref x)])) (.ref x :: vs) (.br σ.length :: ds.map .fz) := by
    rw [ff]
    exact .cons (show (σ ++ [some (V.ref x)])[σ.length]? = some (some (V.ref x)) by simp) (fz_paired hd2)
  have hn : (brs (.br σ.length :: ds.map .fz)).Nodup := by
    have : brs (.br σ.length :: ds.map .fz) = [σ.length] := by
      have e : ∀ ds : List PyData, brs (ds.map .fz) = [] := fun ds => by induction ds with
        | nil => rfl
        | cons d ds ih => exact ih
      show σ.length :: brs (ds.map .fz) = _
      rw [e]
    rw [this]; simp
  have CI := call_in W3 hp hn
  generalize hfA : (Rs.br σ.length :: ds.map .fz).map (ftOf (f1 ++ [[x, dx]])) = fA at CI
  generalize hFh : ((f1 ++ [[x, dx]]).flatten.filter fun a => decide (a ∉ fA.flatten)) = Fh at CI
  have hvl : (V.ref x :: vs).length = ps.length := by rw [Paired.length hp]; simpa using hln
  have hsl : (Rs.br σ.length :: ds.map Rs.fz).map (slOf (e1 ++ [.ow .ni])) = .ow .ni :: ds.map .fz := by
    rw [List.map_cons, List.map_map]
    have : slOf (e1 ++ [Sl.ow .ni]) (.br σ.length) = .ow .ni := by
      show (e1 ++ [Sl.ow .ni]).getD σ.length .un = .ow .ni
      rw [l1, List.getD_eq_getElem?_getD]
      simp
    rw [this]
    rfl
  have hul : (Value.ref x :: us).length = ps.length := by rw [← hvl, List.length_cons, List.length_cons, r.length]
  have b := hb _ (Value.ref x :: us) I2.kIn (by rw [List.append_nil]; exact hul)
  rw [List.append_nil] at b
  have Ev := I2.env0.make (He.ga X.K "House") us []
  have hg2 : (X.A.under (.builtin "type.__call__" ⟨.ref (He.ga X.K "House") :: us, []⟩)).guards = some [] := by
    first | exact hgd | (show pushGuards _ X.A.guards = some []; rw [hgd]; rfl) | (simp [Around.under, hgd, pushGuards, Code.guards])
  rw [List.nil_append]
  refine wpAny_call (make_map (f := f) I1.kIn M.makes M.init (beq_iff_eq.mp M.fn) ?_)
  rw [hx, hdx]
  refine codeAny_mono (G.run _ X.stack _ (hid H2 Fh) ⟨Value.ref x :: us, []⟩ (Value.ref x :: us) (V.ref x :: vs) _ _ (hr.make _ us []) hg2 (env0_hid Ev CI.light) b (.cons rfl r) ⟨.ow .ni :: ds.map .fz, fA, _, _, hvl, hsl ▸ CI.rel, CI.nd, q1, fun v H' z => z, fun cls d H' z => z⟩) fun rr s' hq => ?_
  have pr := W1.pr
  cases rr with
  | error e =>
    refine tk.1 e s' (XE.of_call I2 (fun cls d H' hc => ?_) (raised_hid I2 CI.light hq))
    obtain ⟨H3, rfl, hf, sls', feet', er, W4, hE, q2⟩ := hc
    obtain ⟨W5, sm5, _⟩ := call_out W3 hp hn CI hfA.symm W4 hf
    rw [updEnv_ext l1.symm, updFt_ext (by rw [l2, l1])] at W5
    rw [updFt_ext (by rw [l2, l1])] at sm5
    obtain ⟨W6, _⟩ := W5.unext l1 pr
    have W7 := W6.drop
    refine ⟨_, _, er, W7.unpin tk.2, (hE.mono sm5).mono (hid_same fun a o n q => ⟨fun m => n ?_, q⟩), q2⟩
    rw [flat_snoc, List.append_nil]
    rw [List.append_nil] at m
    exact List.mem_append_left _ m
  | ok fl =>
    cases fl with
    | next => exact False.elim hq
    | brk => exact False.elim hq
    | cont => exact False.elim hq
    | ret u =>
      obtain ⟨v, H4, I4, rv, H3, rfl, hf, r2, sls', feet', f2, W4, hR, hrn, o, rest, hsls, q2⟩ := after_hid I2 CI.light hq
      subst hrn hsls
      obtain ⟨rfl, hdn⟩ := hR
      cases hdn
      obtain ⟨W5, sm5, _⟩ := call_out W3 hp hn CI hfA.symm W4 hf
      rw [updEnv_ext l1.symm, updFt_ext (by rw [l2, l1])] at W5
      obtain ⟨W6, p6, e6, ho⟩ := W5.unext l1 pr
      cases e6
      exact ⟨rv, V.ref x, _, I4, rfl, .nw o, _, _, _, W6, ⟨x, rfl, ho⟩, q2⟩
end
end L3
end

section
set_option Elab.async false
set_option linter.all false
set_option maxRecDepth 100000
set_option maxHeartbeats 1000000
set_option autoImplicit false
/-! L3 part ai: t[::-1], isinstance with a tuple of classes, str(int), x * n, index, count. -/
namespace L3
open PySem PySem.Spec PyProof.Rows L2
/-! ### t[::-1], t a tuple -/
section
variable {prog : Program} {w : World} {A : Around} {E : Value → Shared → Prop} {s : Shared}
theorem sliceApplied_rev {sl : Addr} {vl vu vs : Value} {n : Nat} {Q : Int × Int × Nat → Shared → Prop} (hs : s.heap.IsSliceOf sl vl vu vs) (pl : IsPart vl none) (pu : IsPart vu none) (ps : IsPart vs (some (-1)))
    (h : Q ((n : Int) - 1, -1, n) s) : wpAny (model prog w) A (Builtin.Slice.sliceApplied (.ref sl) (pure (n : Int))) Q E s := by
  obtain ⟨os, hos, hcs, hds⟩ := id hs
  unfold Builtin.Slice.sliceApplied Builtin.Slice.sliceFields
  refine wpAny_bind (wpAny_bind (wpAny_field hos hds (x := vl) rfl (wpAny_bind (wpAny_field hos hds (x := vu) rfl (wpAny_bind (wpAny_field hos hds (x := vs) rfl (wpAny_pure ?_)))))))
  refine wpAny_bind (HT.slicePart_ ps ?_)
  show wpAny _ _ (if ((-1 : Int) == 0) = true then _ else _) _ _ s
  rw [if_neg (by decide)]
  refine wpAny_bind (HT.slicePart_ pl (wpAny_bind (HT.slicePart_ pu (wpAny_bind (wpAny_pure ?_)))))
  show wpAny _ _ (match Builtin.Slice.sliceAdjust none none (-1) (n : Int) with | (lo, hi) => pure (lo, (-1 : Int), Builtin.Slice.slicePlaces lo hi (-1))) _ _ s
  have e1 : Builtin.Slice.sliceAdjust none none (-1) (n : Int) = ((n : Int) - 1, -1) := by
    simp [Builtin.Slice.sliceAdjust]
  have e2 : Builtin.Slice.slicePlaces ((n : Int) - 1) (-1) (-1) = n := by
    cases n with
    | zero => rfl
    | succ m => simp [Builtin.Slice.slicePlaces]; omega
  rw [e1]
  show wpAny _ _ (pure (((n : Int) - 1), (-1 : Int), Builtin.Slice.slicePlaces ((n : Int) - 1) (-1) (-1))) _ _ s
  rw [e2]
  exact wpAny_pure h
theorem fm_congr {α β : Type} {f g : α → Option β} : ∀ {l : List α}, (∀ a ∈ l, f a = g a) → l.filterMap f = l.filterMap g
  | [], _ => rfl
  | a :: l, h => by rw [List.filterMap_cons, List.filterMap_cons, h a (by simp), fm_congr (l := l) fun b hb => h b (by simp [hb])]
theorem pick_rev (xs : Array Value) : ((List.range xs.size).filterMap fun (m : Nat) => xs[(((xs.size : Int) - 1) + (m : Int) * (-1)).toNat]?).toArray = xs.toList.reverse.toArray := by
  congr 1
  apply List.ext_getElem?
  intro i
  have e : (List.range xs.size).filterMap (fun (m : Nat) => xs[(((xs.size : Int) - 1) + (m : Int) * (-1)).toNat]?) = (List.range xs.size).filterMap fun (m : Nat) => (xs.toList.reverse)[m]? := by
    refine fm_congr fun m hm => ?_
    have hm' : m < xs.size := List.mem_range.mp hm
    rw [List.getElem?_reverse (by simpa using hm')]
    have : (((xs.size : Int) - 1) + (m : Int) * (-1)).toNat = xs.toList.length - 1 - m := by
      rw [Array.length_toList]; omega
    rw [this, Array.getElem?_toList]
  rw [e]
  have e3 : ∀ l : List Value, (List.range l.length).filterMap (fun m => l[m]?) = l := fun l => by
    induction l with
    | nil => rfl
    | cons a l ih =>
      rw [List.length_cons, List.range_succ_eq_map, List.filterMap_cons, List.filterMap_map]
      simp only [List.getElem?_cons_zero]
      congr 1
  have e4 := e3 xs.toList.reverse
  rw [List.length_reverse, Array.length_toList] at e4
  rw [e4]
theorem getItem_tuple_rev {t sl : Addr} {items : Array Value} {vl vu vs : Value} {Q : Value → Shared → Prop} (ht : IsTup s.heap t items) (hs : s.heap.IsSliceOf sl vl vu vs) (pl : IsPart vl none) (pu : IsPart vu none) (ps : IsPart vs (some (-1)))
    (h : Q (.ref s.heap.objs.size) { s with heap := s.heap.push { cls := .type "tuple", data := .seq items.toList.reverse.toArray } })
    (hsz : items.size ≤ sizeLine) : wpAny (model prog w) A (getItem (.ref t) (.ref sl)) Q E s := by
  have htake : sizeOk (.seq items.toList.reverse.toArray) := by
    show items.toList.reverse.toArray.size ≤ sizeLine
    rw [List.size_toArray, List.length_reverse, Array.length_toList]
    exact hsz
  obtain ⟨os, hos, hcs, hds⟩ := id hs
  have hTs : s.TypeIs (.ref sl) "slice" := ⟨os, hos, hcs⟩
  unfold getItem
  try with_reducible refine wpAny_holding ?_
  first | refine wpAny_bind (wpAny_pure ?_) | skip
  refine wpAny_bind (wpAny_sequenceKey ht.typeIs (by decide) ?_)
  refine wpAny_bind (wpAny_callSpecial?_slot (name := Str.ofString "__getitem__") ht.typeIs PyProof.Rows.slot_tuple_getitem
    (wpAny_call_entry PyProof.Rows.slot_tuple_getitem ht.typeIs entry_tuple_getitem ?_ (args_tuple_getitem _ _)))
  show wpAny _ _ (Builtin.Tuple.tupleItemsOf (.ref t) >>= _) _ _ s
  refine wpAny_bind (tupleItemsOf_ ht ?_)
  refine wpAny_bind (wpAny_typeOf hTs ?_)
  rw [if_pos (by decide)]
  refine wpAny_bind (sliceApplied_rev (n := items.size) hs pl pu ps ?_)
  have hno : ¬ ((((items.size : Int) - 1) == 0 && (-1 : Int) == 1 && items.size == items.size) = true) := by
    intro q
    rw [Bool.and_eq_true, Bool.and_eq_true] at q
    exact absurd q.1.2 (by decide)
  show wpAny _ _ (if (((items.size : Int) - 1) == 0 && (-1 : Int) == 1 && items.size == items.size) = true then _ else _) _ _ s
  rw [if_neg hno, pick_rev]
  first
    | exact wpAny_bind (m := Builtin.Tuple.tupleExact _) (wpAny_newObj_type (wpAny_pure ⟨_, rfl, wpAny_pure h⟩) htake)
    | exact wpAny_bind (m := Builtin.Tuple.tupleExact _) (wpAny_newObj_type (wpAny_bind (wpAny_pure (wpAny_pure ⟨_, rfl, wpAny_pure h⟩))) htake)
    | exact wpAny_bind (wpAny_bind (m := Builtin.Tuple.tupleExact _) (wpAny_newObj_type (wpAny_pure (wpAny_pure ⟨_, rfl, wpAny_pure h⟩)) htake))
    | exact wpAny_bind (wpAny_bind (m := Builtin.Tuple.tupleExact _) (wpAny_newObj_type (wpAny_pure ⟨_, rfl, wpAny_pure h⟩) htake))
end
def tRevT (K : PySem.W.Frag) (te : TE) : TE := fun σ H Q => te σ H fun x H1 => ∃ a xs, x = .ref a ∧ SqT K H1 a xs ∧ ∀ p, H1 p = none → Q (.ref p) (upd H1 p (.tup xs.reverse))
section
variable {X : Cx} {C : Ct}
theorem pe_revT {e : Expr} {te : TE} {k : Nat} {p1 p2 p3 pos : Pos} (he : PE X e te) : PE X (.Subscript e (.Slice none none (some (.UnaryOp .USub (.Constant (.int 1) k p1) p2)) p3) pos) (tRevT X.K te) := by
  refine ⟨fun pins s σ H Q I h => ?_⟩
  refine Subscript_ (thn (he.run pins s σ H _ I h) fun v s1 ⟨x, H1, I1, r1, q1⟩ => ?_)
  obtain ⟨a, xs, ex, hx, q⟩ := q1
  subst ex
  cases r1
  have hst : PO X (some (.UnaryOp .USub (.Constant (.int 1) k p1) p2)) (tPart (tUn (rU fun i => .int (-i)) (tC (.int 1)))) := po_some (pe_un un_neg pe_int)
  refine wpAny_Slice (thn (po_none.run pins s1 σ H1 (fun o H2 => o = none ∧ H2 = H1) I1 ⟨rfl, rfl⟩) fun vl s2 ⟨l, H2, I2, pl, el, e2⟩ => ?_)
  subst el e2
  refine thn (po_none.run pins s2 σ H2 (fun o H3 => o = none ∧ H3 = H2) I2 ⟨rfl, rfl⟩) fun vu s3 ⟨u, H3, I3, pu, eu, e3⟩ => ?_
  subst eu e3
  refine thn (hst.run pins s3 σ H3 (fun o H4 => o = some (-1) ∧ H4 = H3) I3 ⟨1, rfl, -1, rfl, rfl, rfl⟩) fun vs s4 ⟨o, H4, I4, ps, eo, e4⟩ => ?_
  subst eo e4
  have I5 : Inv X pins σ H4 { s4 with heap := s4.heap.push { cls := .type "slice", data := .fields #[vl, vu, vs] } } := I4.kept (t' := s4.toks) fun b ob q => Heap.get?_push_of_some _ q
  obtain ⟨its, r, ht, hz⟩ := I5.tuple hx
  have hlen := r.length
  show wpAny (model X.prog X.w) X.A (subscriptTail e (.Slice none none (some (.UnaryOp .USub (.Constant (.int 1) k p1) p2)) p3) (.ref a) (.ref s4.heap.objs.size)) (EP X pins σ Q) X.xe { s4 with heap := s4.heap.push { cls := .type "slice", data := .fields #[vl, vu, vs] } }
  refine tail_any (ops := [.ref a, .ref s4.heap.objs.size]) ht.typeIs (PyProof.Rows.slot_tuple_getitem.lookup) ?_ (by with_unfolding_all rfl)
  refine getItem_tuple_rev ht (Heap.IsSliceOf.new _ vl vu vs) pl pu ps ?_ (by rw [List.size_toArray]; omega)
  refine ⟨.ref _, _, I5.laid (t' := s4.toks) (o := .tup xs.reverse) (fun b ob q => Heap.get?_push_of_some _ q) (Nat.le_refl _) ?_, rfl, q _ (I5.hok.fresh (Nat.le_refl _))⟩
  exact ⟨by rw [List.length_reverse]; exact hz, _, r.reverse, IsTup.new _ _⟩
def eRev (t : RE) : RE := fun env Q EX => vl t env (fun d e => ∃ ds, d = .tuple ds ∧ Q (.fz (.tuple ds.reverse)) e) EX
theorem se_revT {e : Expr} {t : RE} {k : Nat} {p1 p2 p3 pos : Pos} (he : SE X C e t) : SE X C (.Subscript e (.Slice none none (some (.UnaryOp .USub (.Constant (.int 1) k p1) p2)) p3) pos) (eRev t) := .mk fun σ H pf env feet Q EX W tk q => by
  refine eW.of (pe_revT eW.pe) ?_
  refine (he.v σ H pf env feet _ EX W tk q).imp fun x H1 ⟨d, e1, f1, W1, h1, ds, hd, q1⟩ => ?_
  subst hd
  cases h1 with
  | @tup a xs _ hs ha =>
    refine ⟨a, xs, rfl, seqT_mono hid_le hs, fun p hp => ?_⟩
    obtain ⟨W2, h2⟩ := W1.pure (same_new hp) (rsn_tup (fun a m => W1.rel.tr a (by rw [List.append_nil] at m; exact m)) hp ha.rev)
    exact ⟨_, e1, f1, _, W2, h2, q1⟩
end
end L3
end

section
set_option Elab.async false
set_option linter.all false
set_option maxRecDepth 100000
set_option maxHeartbeats 1000000
set_option autoImplicit false
/-! L3 part aj: isinstance with a tuple of classes, str(int), x * n, index, count. -/
namespace L3
open PySem PySem.Spec PyProof.Rows L2
/-! ### isinstance(e, (C, ..)) -/
def rIsXT (K : PySem.W.Frag) : List V → Hp → VK → Prop := fun xs H Q => ∃ (x : V) (tp : Addr) (cs : List V) (n : Str) (us : List Value) (b : Bool), xs = [x, .ref tp] ∧ XL K H x n ∧ XC K n ∧ H tp = some (.tup cs) ∧ Paired ClsV cs us ∧ PySem.W.kitAny K (gaV K n) us = some b ∧ Q (.bl b) H
section
variable {X : Cx} {C : Ct}
theorem call_isxT : CallR X (.builtin "isinstance") (rIsXT X.K) := by
  intro pins s σ H xs us Q I r h
  obtain ⟨x, tp, cs, n, ws, b, rfl, hx, F, hT, k, e, q⟩ := h
  obtain ⟨u1, u2, rfl, r1, r2⟩ := vals2 r
  cases (show u2 = Value.ref tp from r2)
  obtain ⟨a, oe, od, rfl, J⟩ := Inv.xat I hx
  cases r1
  obtain ⟨_, its, rv, o, h1, h2, n', h3⟩ := (show ObjOk X.prog X.w H s.heap tp (.tup cs) from I.hok tp _ hT)
  have e3 := ClsV.all k rv
  subst e3
  obtain ⟨oc, od', dt, sl⟩ := o
  simp only at h2 h3
  subst h2 h3
  exact PySem.W.kia_tup (PySem.W.kitx_exc F.hcl F.hga F.hgt F.hsub F.ha F.hn F.htk F.hm) I.kIn J h1 e (fun z => nomatch z) fun tk => ⟨.bl b, H, I.tok tk, rfl, q⟩
def gCls (xs : List Str) (es : List Str) : PyData → Option Bool := fun d => match isExc d with
  | some c => if c ∈ xs then some (es.any (isX c)) else none
  | none => none
theorem kitAny_of {K : PySem.W.Frag} {xs : List Str} (hx : xtB K xs = true) {c : Str} (hc : c ∈ xs) : ∀ es : List Str, (∀ e ∈ es, e ∈ xs) → PySem.W.kitAny K (gaV K c) (es.map (gaV K)) = some (es.any (isX c))
  | [], _ => rfl
  | e :: es, h => by
    have h1 := xtB_kit hx hc (h e (by simp))
    have h2 := kitAny_of hx hc es fun x hm => h x (by simp [hm])
    rw [List.map_cons, List.any_cons]
    unfold PySem.W.kitAny
    rw [h1]
    cases isX c e with
    | true => rfl
    | false => rw [Bool.false_or]; exact h2
theorem paired_cls {K : PySem.W.Frag} : ∀ es : List Str, Paired ClsV (es.map fun e => V.ref (He.ga K e)) (es.map (gaV K))
  | [] => .nil
  | e :: es => .cons (.own _) (paired_cls es)
theorem se_isCs {a : Expr} {ta : RE} {p tp pos : Pos} {kt} {bs : List Expr} {te : TA} (xs es : List Str) (hx : xtB X.K xs = true) (he : ∀ e ∈ es, e ∈ xs) (hl : es.length ≤ 1000) (hg : Gl X "isinstance") (hm : X.mg "isinstance" = none) (ha : SE X C a ta) (hb : PA X bs te) (hte : ∀ σ H (Q : List V → Hp → Prop), Q (es.map fun e => V.ref (He.ga X.K e)) H → te σ H Q)
    (hs : starEach [a, .Tuple bs kt tp] X.env = (false, eval a X.env) :: starEach [.Tuple bs kt tp] X.env := by rfl) (hpl : (backTo pos (starEach [.Tuple bs kt tp] X.env)).any (·.1) = false := by rfl) (hs2 : starEach [.Tuple bs kt tp] X.env = (false, eval (.Tuple bs kt tp) X.env) :: starEach [] X.env := by rfl) :
    SE X C (.Call (.Name "isinstance" p) [a, .Tuple bs kt tp] [] pos) (eUn (gIs (gCls xs es)) ta) := .mk fun σ H pf env feet Q EX W tk q => by
  refine eW.of (pe_callB call_isxT hg hm bt_isi (pa_cons eW.pe (pa_cons (pe_tup hb) pa_nil hs2) hs) (by decide) (by decide) hs hpl) ?_
  refine (ha.v σ H pf env feet _ EX W tk q).imp fun x H1 ⟨d, e1, f1, W1, h1, z, ez, q1⟩ => ?_
  unfold gIs at ez
  cases hk : gCls xs es d with
  | none => rw [hk] at ez; cases ez
  | some k =>
    rw [hk] at ez
    cases ez
    unfold gCls at hk
    cases hc : isExc d with
    | none => rw [hc] at hk; cases hk
    | some c =>
      rw [hc] at hk
      by_cases m : c ∈ xs
      · rw [show (match some c with
          | some c => if c ∈ xs then some (es.any (isX c)) else none
          | none => none) = if c ∈ xs then some (es.any (isX c)) else none from rfl, if_pos m] at hk
        cases hk
        refine hte _ _ _ ⟨by rw [List.length_map, sizeLine_eq]; omega, fun T hT => ?_⟩
        have sm := same_new (o := .tup (es.map fun e => V.ref (He.ga X.K e))) hT
        obtain ⟨W2, _⟩ := W1.pure (v := .non) (r := .fz .none) (f := []) sm ⟨by simp, by simp, rfl, .non⟩
        exact ⟨x, T, _, c, _, _, rfl, (dx_mono sm (dx_mono hid_le h1)).xl hc, xtB_cls hx m, upd_same, paired_cls es, kitAny_of hx m es he, fzB _, e1, f1, [], W2, ⟨rfl, .bl _⟩, q1⟩
      · rw [show (match some c with
          | some c => if c ∈ xs then some (es.any (isX c)) else none
          | none => none) = if c ∈ xs then some (es.any (isX c)) else none from rfl, if_neg m] at hk
        cases hk
end
/-! ### str(int) -/
section
variable {K : PySem.W.Frag}
def gStr : PyData → Option Rs
  | .int i => if i.natAbs.log2 < 1920 then some (.fz (.str (toString i))) else none
  | _ => none
theorem callv_str : CallV K (fun xs H Q => ∃ i, xs = [.int i] ∧ i.natAbs.log2 < 1920 ∧ Q (.str (toString i)) H) gStr := fun F H x d rs Q tr h hg k => by
  unfold gStr at hg
  split at hg
  · rename_i i
    by_cases e : i.natAbs.log2 < 1920
    · rw [if_pos e] at hg; cases hg
      exact ⟨i, by rw [h.int], e, k _ _ [] (Same.refl _) (rsn_v (.str _))⟩
    · rw [if_neg e] at hg; cases hg
  · cases hg
/-! ### x * n -/
def rMulV (K : PySem.W.Frag) : R2 := fun x y H Q => rI CMul (fun i j => .int (i * j)) x y H Q ∨ rRepT K x y H Q
theorem op_mulV {X : Cx} : OpR X (binaryOp .Mult) (rMulV X.K) := op_mul.or op_repT
def gMulV : PyData → PyData → Option Rs := fun x y => match x, y with
  | .tuple ds, .int k => if ds ≠ [] ∧ 2 ≤ k ∧ k ≤ 1000 ∧ ds.length ≤ 1000 then some (.fz (.tuple (List.replicate k.toNat ds).flatten)) else none
  | x, y => gMul x y
theorem DxAll.rep {Z : Hp} {vs : List V} {ds : List PyData} (h : DxAll K Z vs ds) : ∀ n : Nat, DxAll K Z (List.replicate n vs).flatten (List.replicate n ds).flatten
  | 0 => .nil
  | n + 1 => by
    rw [List.replicate_succ, List.replicate_succ, List.flatten_cons, List.flatten_cons]
    exact h.app (h.rep n)
theorem opv_mulV : OpV K (rMulV K) gMulV := fun F H x y d1 d2 rs Q tr h1 h2 hg k => by
  unfold gMulV at hg
  split at hg
  · rename_i ds n
    by_cases e : ds ≠ [] ∧ 2 ≤ n ∧ n ≤ 1000 ∧ ds.length ≤ 1000
    · rw [if_pos e] at hg; cases hg
      obtain ⟨p, vs, rfl, s1, t1, q1⟩ := h1.tup
      refine .inr ⟨p, n, vs, rfl, h2.int, s1, fun z => e.1 ?_, e.2.1, e.2.2.1, by rw [q1.lenD]; exact e.2.2.2, fun l hl => k _ _ [] (same_new hl) (rsn_tup tr hl (q1.rep _))⟩
      subst z
      cases q1; rfl
    · rw [if_neg e] at hg; cases hg
  · exact .inl (opv_mul F H x y _ _ rs Q tr h1 h2 hg k)
theorem gMulV_tp {ds : List PyData} {k : Int} (h : ds ≠ [] ∧ 2 ≤ k ∧ k ≤ 1000 ∧ ds.length ≤ 1000) : gMulV (.tuple ds) (.int k) = some (.fz (.tuple (List.replicate k.toNat ds).flatten)) := if_pos h
/-! ### x.index(y), x.count(y) of lists -/
def gIndex : PyData → PyData → Option Rs := fun x y => match x with
  | .list ds => if SeqAt.shaped (.list ds) = true ∧ SeqAt.shaped y = true then (ds.findIdx? fun z => PyData.eqv z y).map fun j => fzI (j : Nat) else none
  | _ => none
def rCntD (K : PySem.W.Frag) : V → List V → Hp → VK → Prop := fun x xs H Q => ∃ (a : Addr) (y : V) (d : PyData) (ds : List PyData), x = V.ref a ∧ xs = [y] ∧ Dp K H (V.ref a) (.list ds) ∧ Dp K H y d ∧ SeqAt.shaped d = true ∧ PyData.plainAll ds = true ∧ d.plain = true ∧ Q (.int ((ds.countP fun z => PyData.eqv z d : Nat) : Int)) H
theorem mt_lcountD {X : Cx} (hu : X.A.units + 65 < cLine) : MtR X "list.count" (rCntD X.K) := by
  intro pins s σ H x xs v us Q I rx rxs h
  obtain ⟨a, y, d, ds, rfl, rfl, hl, hy, sd, hp, hd, q⟩ := h
  cases rx
  cases rxs with
  | cons ry rt =>
    rename_i uy ut
    cases rt
    obtain ⟨bs, r1⟩ := Dp.reads I d y uy hy ry
    have hroom : X.A.units + 1 + min (PyData.depthAll ds) d.depth < cLine := room_in_shaped sd hu
    cases hl with
    | lst hs ha =>
      obtain ⟨its, rv, ⟨⟨cls, dd, data, sls⟩, n, ho, hc, hdn, hdt⟩, hlen⟩ := I.list hs
      simp only at hc hdt
      subst hc hdt
      obtain ⟨as, h4⟩ := Dp.readsAll I ds _ its ha rv
      exact PySem.SeqAt.count_list_data (vs := its.toArray) ⟨_, ho, rfl, n, rfl⟩ (show ReadsAll s.heap its.toArray.toList ds as from h4) r1 hp hd hroom ⟨.int _, H, I.tok _, ⟨_, rfl⟩, q⟩
def gCount : PyData → PyData → Option Rs := fun x y => match x with
  | .list ds => if SeqAt.shaped (.list ds) = true ∧ SeqAt.shaped y = true ∧ PyData.plainAll ds = true ∧ y.plain = true then some (fzI ((ds.countP fun z => PyData.eqv z y : Nat) : Int)) else none
  | _ => none
/-- a method with one argument that looks at two things -/
def BmV (K : PySem.W.Frag) (r : V → List V → Hp → VK → Prop) (g : PyData → PyData → Option Rs) : Prop := OpV K (fun x y H Q => r x [y] H Q) g
theorem bmv_index : BmV K (rIndexD K) gIndex := fun F H x y d1 d2 rs Q tr h1 h2 hg k => by
  unfold gIndex at hg
  split at hg
  · rename_i ds
    by_cases e : SeqAt.shaped (.list ds) = true ∧ SeqAt.shaped d2 = true
    · rw [if_pos e] at hg
      cases hj : ds.findIdx? fun z => PyData.eqv z d2 with
      | none => rw [hj] at hg; cases hg
      | some j =>
        rw [hj] at hg
        cases hg
        obtain ⟨p, vs, rfl, _, _⟩ := h1.lst
        obtain ⟨hjl, hz, hno⟩ := List.findIdx?_eq_some_iff_getElem.mp hj
        refine ⟨p, y, d2, ds, j, ds[j], rfl, rfl, h1.dpp e.1, h2.dpp e.2, e.1, e.2, List.getElem?_eq_getElem hjl, hz, fun m z' hm hz' => ?_, k _ _ [] (Same.refl _) rsn_int⟩
        have hml : m < ds.length := by omega
        rw [List.getElem?_eq_getElem hml] at hz'
        cases hz'
        simpa using hno m hm
    · rw [if_neg e] at hg; cases hg
  · cases hg
theorem bmv_count : BmV K (rCntD K) gCount := fun F H x y d1 d2 rs Q tr h1 h2 hg k => by
  unfold gCount at hg
  split at hg
  · rename_i ds
    by_cases e : SeqAt.shaped (.list ds) = true ∧ SeqAt.shaped d2 = true ∧ PyData.plainAll ds = true ∧ d2.plain = true
    · rw [if_pos e] at hg
      cases hg
      obtain ⟨p, vs, rfl, _, _⟩ := h1.lst
      exact ⟨p, y, d2, ds, rfl, rfl, h1.dpp e.1, h2.dpp e.2.1, e.2.1, e.2.2.1, e.2.2.2, k _ _ [] (Same.refl _) rsn_int⟩
    · rw [if_neg e] at hg; cases hg
  · cases hg
end
def eBm (g : PyData → PyData → Option Rs) (ta tb : RE) : RE := fun env Q EX => ar ta env (fun r e1 => (∃ ds, res r e1 = some (.list ds)) ∧ ar tb e1 (fun s e2 => ∃ x y z, res r e2 = some x ∧ res s e2 = some y ∧ g x y = some z ∧ Q z e2) EX) EX
section
variable {X : Cx} {C : Ct} {a b : Expr} {ta tb : RE} {apos pos : Pos}
theorem se_bmL {name : Str} {id : String} {r : V → List V → Hp → VK → Prop} {g : PyData → PyData → Option Rs} (slot : Slot "list" name id) (hty : typeOf (.builtin id) = pure (.type "method_descriptor")) (hm : MtR X id r) (D : BmV X.K r g) (ha : SE X C a ta) (hb : SE X C b tb)
    (hbase : attributeBase a name X.env (eval a X.env) = eval a X.env := by rfl)
    (hfew : ((backTo pos (starEach [b] X.env)).all (fun x => !x.1) && (backToKw pos (keywordEach [] X.env)).all (fun x => x.1.isSome)
      && decide (([b] : List Expr).length + ([] : List Keyword).length + (if ([] : List Keyword).isEmpty then 0 else 1) < 30)) = true := by rfl)
    (hline : (apos.endLine == pos.line) = true := by rfl) (hs : starEach [b] X.env = (false, eval b X.env) :: starEach [] X.env := by rfl) (hplain : (backTo pos (starEach [] X.env)).any (·.1) = false := by rfl) :
    SE X C (.Call (.Attribute a name apos) [b] [] pos) (eBm g ta tb) := .mk fun σ H pf env feet Q EX W tk q => by
  refine eW.of (pe_bm PySem.F.plainAttrs_list slot hty hm eW.pe (pa_cons eW.pe pa_nil hs) hbase hfew hline hs hplain) ?_
  refine (ar_ok ha σ H pf env feet _ EX W tk q).imp fun x H1 ⟨r1, e1, f1, W1, h1, ⟨ds, hds⟩, q1⟩ => ?_
  have ty : tyV X.K "list" x H1 := by
    obtain ⟨p, vs, rfl, s1, _⟩ := (res_vw W1 h1 hds).lst
    exact .inl ⟨rfl, vs, s1⟩
  refine ⟨ty, ?_⟩
  have fin : ∀ {pf' : List (V × PyData)} {H2 : Hp} {y : V} {s : Rs} {e2 : En} {f2 : List (List Addr)}, (∀ p ∈ pf, p ∈ pf') → Wf X.K C pf' σ H2 e2 f2 [] → ArR X.K (hid H2 (f2.flatten ++ [])) σ x r1 → ArR X.K (hid H2 (f2.flatten ++ [])) σ y s → (∃ x y z, res r1 e2 = some x ∧ res s e2 = some y ∧ g x y = some z ∧ Q z e2) → r x [y] H2 (Po X.K C pf σ Q) := by
    intro pf' H2 y s e2 f2 sub W2 p1 p2 ⟨dx, dy, z, ex, ey, ez, q2⟩
    refine D (f2.flatten ++ []) H2 x y dx dy z _ (fun a m => W2.rel.tr a (by rw [List.append_nil] at m; exact m)) (res_vw W2 p1 ex) (res_vw W2 p2 ey) ez fun v H' f sm hn => ?_
    obtain ⟨W3, h3⟩ := (W2.unpin sub).pure sm hn
    exact ⟨z, e2, f2, f, W3, h3, q2⟩
  cases r1 with
  | fz d =>
    refine (ar_ok hb σ H1 ((x, d) :: pf) e1 f1 _ EX (W1.pinned h1) tk.add q1).imp fun y H2 ⟨s, e2, f2, W2, h2, q2⟩ => ?_
    exact fin (fun p hp => List.mem_cons_of_mem _ hp) W2 (W2.pin (x, d) (by simp)) h2 q2
  | br i =>
    refine (ar_ok hb σ H1 pf e1 f1 _ EX W1 tk q1).imp fun y H2 ⟨s, e2, f2, W2, h2, q2⟩ => ?_
    exact fin (fun p hp => hp) W2 h1 h2 q2
  | nw o => exact h1.elim
  | xc c g => exact h1.elim
end
end L3
end

section
set_option Elab.async false
set_option linter.all false
set_option maxRecDepth 100000
set_option maxHeartbeats 1000000
set_option autoImplicit false
/-! L3 part ak: expressions that touch nothing; [..] * n; a, b = x, y. -/
namespace L3
open PySem PySem.Spec PyProof.Rows L2
/-- a thing that is looked up: names of things, constants -/
structure SP (X : Cx) (C : Ct) (e : Expr) (g : En → Option PyData) : Prop where
  run : ∀ σ H pf env feet ex d (Q : VK), Wf X.K C pf σ H env feet ex → g env = some d → (∀ v, Dx X.K (hid H (feet.flatten ++ ex)) v d → Q v H) → eW X e σ H Q
section
variable {X : Cx} {C : Ct} {e a b : Expr} {es : List Expr} {g : En → Option PyData} {x y : Str} {px pos : Pos}
theorem sp_c {v : V} {d : PyData} (h : PE X e (tC v)) (hd : ∀ Z, Dx X.K Z v d) : SP X C e (fun _ => some d) := ⟨fun σ H pf env feet ex d' Q W hg k => by cases hg; exact eW.of h (k v (hd _))⟩
theorem sp_int {i j pos} : SP X C (.Constant (.int i) j pos) (fun _ => some (.int i)) := sp_c pe_int fun _ => .int i
theorem sp_str {i j pos} : SP X C (.Constant (.str i) j pos) (fun _ => some (.str i)) := sp_c pe_str fun _ => .str i
theorem sp_non {j pos} : SP X C (.Constant .none j pos) (fun _ => some .none) := sp_c pe_non fun _ => .non
theorem sp_bl {i j pos} : SP X C (.Constant (.bool i) j pos) (fun _ => some (.bool i)) := sp_c pe_bl fun _ => .bl i
def gSlot (i : Nat) : En → Option PyData := fun env => match env[i]? with
  | some (.fz d) => some d
  | _ => none
theorem sp_name (i : Nat) (nm : Nm X i x := by exact ⟨rfl, by first | exact Or.inl rfl | exact Or.inr (Or.inl rfl) | exact Or.inr (Or.inr rfl), by decide, by decide⟩) : SP X C (.Name x pos) (gSlot i) := ⟨fun σ H pf env feet ex d Q W hg k => by
  unfold gSlot at hg
  split at hg
  · rename_i d' h
    cases hg
    obtain ⟨v, b1, b2⟩ := slot_fz W h
    exact eW.of nm.pe ⟨v, b1, k v b2⟩
  · cases hg⟩
/-- the same of several -/
structure SPs (X : Cx) (C : Ct) (es : List Expr) (g : En → Option (List PyData)) : Prop where
  run : ∀ σ H pf env feet ex d (Q : List V → Hp → Prop), Wf X.K C pf σ H env feet ex → g env = some d → (∀ v, DxAll X.K (hid H (feet.flatten ++ ex)) v d → Q v H) → aW X es σ H Q
theorem sps_nil : SPs X C [] (fun _ => some []) := ⟨fun σ H pf env feet ex d Q W hg k => by cases hg; exact aW.of pa_nil (k [] .nil)⟩
def gCons1 (g : En → Option PyData) (gs : En → Option (List PyData)) : En → Option (List PyData) := fun env => match g env, gs env with
  | some d, some ds => some (d :: ds)
  | _, _ => none
theorem sps_cons {gs : En → Option (List PyData)} (h : SP X C e g) (hr : SPs X C es gs) (hs : starEach (e :: es) X.env = (false, eval e X.env) :: starEach es X.env := by rfl) : SPs X C (e :: es) (gCons1 g gs) := ⟨fun σ H pf env feet ex d Q W hg k => by
  unfold gCons1 at hg
  cases h1 : g env with
  | none => simp [h1] at hg
  | some d1 =>
    cases h2 : gs env with
    | none => simp [h1, h2] at hg
    | some d2 =>
      simp only [h1, h2, Option.some.injEq] at hg
      subst hg
      refine aW.of (pa_cons eW.pe aW.pa hs) ?_
      exact h.run σ H pf env feet ex d1 _ W h1 fun v hv => hr.run σ H pf env feet ex d2 _ W h2 fun vs hvs => k _ (.cons hv hvs)⟩
/-- new lists out of things that are looked up, while ex stands by -/
structure SX (X : Cx) (C : Ct) (e : Expr) (t : En → (Rs → Prop) → Prop) : Prop where
  run : ∀ σ H pf env feet ex (Q : Rs → Prop), Wf X.K C pf σ H env feet ex → t env Q → eW X e σ H (fun v H' => Same H H' ∧ ∃ r f, (∀ a ∈ f, H a = none) ∧ Wf X.K C pf σ H' env feet (ex ++ f) ∧ (match r with
    | .fz d => f = [] ∧ Dx X.K (hid H' (feet.flatten ++ (ex ++ f))) v d
    | .nw o => ∃ p, v = .ref p ∧ OwR X.K (hid H' (feet.flatten ++ (ex ++ f))) H' p o f
    | _ => False) ∧ Q r)
/-- the heap grows further, while ex stands by -/
theorem Wf.grow2 {K : PySem.W.Frag} {pf : List (V × PyData)} {σ : L2.St} {H H' : Hp} {env : En} {feet : List (List Addr)} {ex f : List Addr} (W : Wf K C pf σ H env feet ex) (e : Same H H') (hn : ∀ a ∈ f, H a = none) (hf : f.Nodup) (ht : ∀ a ∈ f, H' a ≠ none) : Wf K C pf σ H' env feet (ex ++ f) := by
  have tr : ∀ a ∈ feet.flatten ++ ex, H a ≠ none := fun a m => by
    rcases List.mem_append.mp m with m | m
    · exact W.rel.tr a m
    · exact W.exT a m
  have ea : feet.flatten ++ (ex ++ f) = (feet.flatten ++ ex) ++ f := (List.append_assoc _ _ _).symm
  have sm : Same (hid H (feet.flatten ++ ex)) (hid H' (feet.flatten ++ (ex ++ f))) := hid_same fun a o n q => ⟨fun m => (by
    rw [ea] at m
    rcases List.mem_append.mp m with m | m
    · exact n m
    · rw [hn a m] at q
      cases q), e a o q⟩
  have keep : ∀ a, H a ≠ none → H' a = H a := fun a h => by
    cases q : H a with
    | none => exact absurd q h
    | some o => exact e a o q
  refine ⟨?_, W.rel.mono sm fun a ha => keep a (W.rel.tr a ha), fun p hp => dx_mono sm (W.pin p hp), fun a m => ?_, fun a o n q => e a o (W.fr a o n q), fun a ha => ?_, W.pr⟩
  · rw [ea]
    refine List.nodup_append.mpr ⟨W.nd, hf, fun a ha b hb q => tr a ha ?_⟩
    rw [q]; exact hn b hb
  · rcases List.mem_append.mp m with m | m
    · rw [keep a (W.exT a m)]; exact W.exT a m
    · exact ht a m
  · rw [ea] at ha
    rcases List.mem_append.mp ha with m | m
    · exact W.nw a m
    · by_cases q : a ∈ C.F0
      · exact .inl q
      · right
        cases z : C.H0 a with
        | none => rfl
        | some o => have := W.fr a o q z; rw [hn a m] at this; cases this
theorem new_ls {K : PySem.W.Frag} {pf : List (V × PyData)} {σ : L2.St} {H : Hp} {env : En} {feet : List (List Addr)} {ex : List Addr} {p : Addr} {vs : List V} {ds : List PyData} (W : Wf K C pf σ H env feet ex) (hp : H p = none) (hd : DxAll K (hid H (feet.flatten ++ ex)) vs ds) :
    Wf K C pf σ (upd H p (.lst vs)) env feet (ex ++ [p]) ∧ OwR K (hid (upd H p (.lst vs)) (feet.flatten ++ (ex ++ [p]))) (upd H p (.lst vs)) p (.ls ds) [p] := by
  have sm := same_new (o := .lst vs) hp
  refine ⟨W.grow2 sm (by simpa using hp) (by simp) (fun a m => by rw [List.mem_singleton.mp m, upd_same]; simp), rfl, vs, upd_same, ?_⟩
  refine dxAll_mono (hid_same fun a o n q => ⟨fun m => ?_, sm a o q⟩) hd
  rw [← List.append_assoc] at m
  rcases List.mem_append.mp m with m | m
  · exact n m
  · rw [List.mem_singleton.mp m, hp] at q; cases q
def xOf (g : En → Option PyData) : En → (Rs → Prop) → Prop := fun env Q => ∃ d, g env = some d ∧ Q (.fz d)
def xLst (g : En → Option (List PyData)) : En → (Rs → Prop) → Prop := fun env Q => ∃ ds, g env = some ds ∧ ds.length ≤ sizeLine ∧ Q (.nw (.ls ds))
def xRep (g : En → Option (List PyData)) (n : En → Option PyData) : En → (Rs → Prop) → Prop := fun env Q => ∃ ds k, g env = some ds ∧ n env = some (.int k) ∧ 0 ≤ k ∧ k ≤ 1000 ∧ ds.length ≤ 1000 ∧ Q (.nw (.ls (List.replicate k.toNat ds).flatten))
theorem sx_of (h : SP X C e g) : SX X C e (xOf g) := ⟨fun σ H pf env feet ex Q W ⟨d, hd, q⟩ => h.run σ H pf env feet ex d _ W hd fun v hv => ⟨Same.refl _, .fz d, [], by simp, by rw [List.append_nil]; exact W, ⟨rfl, by rw [List.append_nil]; exact hv⟩, q⟩⟩
theorem sx_lst {gs : En → Option (List PyData)} (h : SPs X C es gs) : SX X C (.List es pos) (xLst gs) := ⟨fun σ H pf env feet ex Q W ⟨ds, hg, hl, q⟩ => by
  refine eW.of (pe_lst aW.pa) ?_
  exact h.run σ H pf env feet ex ds _ W hg fun vs hvs => ⟨by rw [hvs.lenD]; exact hl, fun p hp => ⟨same_new hp, .nw (.ls ds), [p], by simpa using hp, (new_ls W hp hvs).1, ⟨p, rfl, (new_ls W hp hvs).2⟩, q⟩⟩⟩
theorem sx_rep {gs : En → Option (List PyData)} {n : En → Option PyData} {p2 : Pos} (h : SPs X C es gs) (hb : SP X C b n) : SX X C (.BinOp (.List es p2) .Mult b pos) (xRep gs n) := ⟨fun σ H pf env feet ex Q W ⟨ds, k, hg, hn, k0, k1, hl, q⟩ => by
  refine eW.of (pe_op op_rep (pe_lst aW.pa) eW.pe) ?_
  have z := sizeLine_eq
  refine h.run σ H pf env feet ex ds _ W hg fun vs hvs => ⟨by rw [hvs.lenD]; omega, fun p hp => ?_⟩
  have W1 := (new_ls W hp hvs).1
  refine hb.run σ _ pf env feet (ex ++ [p]) _ _ W1 hn fun v hv => ?_
  cases hv
  have hlen := hvs.lenD
  refine ⟨p, k, vs, rfl, rfl, upd_same, by omega, by omega, ?_, fun p2 hp2 => ?_⟩
  · have : vs.length * k.toNat ≤ 1000 * 1000 := Nat.mul_le_mul (by omega) (by omega)
    omega
  · have sm := same_new (o := .lst vs) hp
    -- the display is let go
    have ne : p2 ≠ p := fun e => by rw [e, upd_same] at hp2; cases hp2
    have hp2' : H p2 = none := by rw [upd_ne ne] at hp2; exact hp2
    have W1' : Wf X.K C pf σ (upd H p (.lst vs)) env feet ex := by
      have := W.grow2 (f := []) sm (by simp) (by simp) (by simp)
      rw [List.append_nil] at this
      exact this
    have hvs' : DxAll X.K (hid (upd H p (.lst vs)) (feet.flatten ++ ex)) (List.replicate k.toNat vs).flatten (List.replicate k.toNat ds).flatten := (dxAll_mono (hid_same fun a o n q => ⟨n, sm a o q⟩) hvs).rep _
    exact ⟨sm.trans (same_new hp2), .nw (.ls _), [p2], by simpa using hp2', (new_ls W1' hp2 hvs').1, ⟨p2, rfl, (new_ls W1' hp2 hvs').2⟩, q⟩⟩
/-- such an expression by itself -/
def eX (t : En → (Rs → Prop) → Prop) : RE := fun env Q _ => t env (fun r => Q r env)
theorem se_x {t : En → (Rs → Prop) → Prop} (h : SX X C e t) : SE X C e (eX t) := .mk fun σ H pf env feet Q EX W tk q => (h.run σ H pf env feet [] _ W q).imp fun v H' ⟨sm, r, f, _, W1, hr, q1⟩ => by
  rw [List.nil_append] at W1 hr
  refine ⟨r, env, feet, f, W1, ?_, q1⟩
  cases r with
  | fz d => exact hr
  | nw o => exact hr
  | br i => exact hr.elim
  | xc c g => exact hr.elim
/-! ### a, b = x, y -/
/-- slot i gets v, with s of it; g stands by -/
theorem Wf.putx {K : PySem.W.Frag} {pf : List (V × PyData)} {σ : L2.St} {H : Hp} {env : En} {feet : List (List Addr)} {f h : List Addr} {i : Nat} {v : V} {s : Sl} (W : Wf K C pf σ H env feet (f ++ h)) (hs : SlR K (hid H (feet.flatten ++ (f ++ h))) H (some v) s f) (hi : i ∉ C.BR) : Wf K C pf (σ.set i (some v)) H (env.set i s) (feet.set i f) h := by
  have sub : ∀ a, a ∈ (feet.set i f).flatten ++ h → a ∈ feet.flatten ++ (f ++ h) := fun a m => by
    rcases List.mem_append.mp m with m | m
    · rcases flatten_set_sub m with m | m
      · exact List.mem_append_left _ m
      · exact List.mem_append_right _ (List.mem_append_left _ m)
    · exact List.mem_append_right _ (List.mem_append_right _ m)
  have sm : Same (hid H (feet.flatten ++ (f ++ h))) (hid H ((feet.set i f).flatten ++ h)) := hid_same fun a o n q => ⟨fun m => n (sub a m), q⟩
  have nd := W.nd
  rw [← List.append_assoc] at nd
  have nd1 := List.nodup_append.mp nd
  refine ⟨List.nodup_append.mpr ⟨nodup_set nd1.1, nd1.2.1, fun a ha b hb e => nd1.2.2 a ?_ b hb e⟩, ⟨by simp [W.rel.l1], by simp [W.rel.l2], fun j u t g h1 h2 h3 => ?_⟩, fun p hp => dx_mono sm (W.pin p hp), fun a m => W.exT a (List.mem_append_right _ m), W.fr, fun a ha => W.nw a (sub a ha), fun j hj => ?_⟩
  · rcases flatten_set_sub ha with m | m
    · exact List.mem_append_left _ m
    · exact List.mem_append_right _ m
  · by_cases e : i = j
    · subst e
      have i1 : i < σ.length := by
        have := List.getElem?_eq_some_iff.mp h1
        simpa using this.1
      have i2 : i < env.length := by rw [← W.rel.l1]; exact i1
      have i3 : i < feet.length := by rw [W.rel.l2]; exact i2
      rw [List.getElem?_set_self i1] at h1
      rw [List.getElem?_set_self i2] at h2
      rw [List.getElem?_set_self i3] at h3
      cases h1; cases h2; cases h3
      exact hs.mono sm fun _ _ => rfl
    · rw [List.getElem?_set_ne e] at h1 h2 h3
      exact (W.rel.sl j u t g h1 h2 h3).mono sm fun _ _ => rfl
  · rw [List.getElem?_set_ne (fun e => hi (by rw [e]; exact hj))]
    exact W.pr j hj
def slR (r : Rs) : Option Sl := match r with
  | .fz d => some (.fz d)
  | .nw o => some (.ow o)
  | _ => none
/-- two values, the second out of things that are looked up -/
def rPar (i j : Nat) (ta : RE) (tb : En → (Rs → Prop) → Prop) : RS := fun D env => ta env (fun r1 e1 => ∃ s1, slR r1 = some s1 ∧ tb e1 (fun r2 => ∃ s2, slR r2 = some s2 ∧ D.nx ((e1.set i s1).set j s2))) D.ex
theorem ss_par {i j : Nat} {ta : RE} {tb : En → (Rs → Prop) → Prop} {p1 p2 pt : Pos} {kt k2 pt2} (hc : X.calm = true) (hN : X.N.Nodup) (hi : X.N[i]? = some x) (hj : X.N[j]? = some y) (hij : i ≠ j) (bi : i ∉ C.BR) (bj : j ∉ C.BR)
    (hx : X.env.scope.names.lookup x = some .local) (hy : X.env.scope.names.lookup y = some .local) (ha : SE X C a ta) (hb : SX X C b tb)
    (hw : swappedStores [.Tuple [.Name x p1, .Name y p2] kt pt] (.Tuple [a, b] k2 pt2) X.env = pure (some [x, y]) := by rfl)
    (hs : swapsWithSole [.Tuple [.Name x p1, .Name y p2] kt pt] (.Tuple [a, b] k2 pt2) pos.line X.env = pure false := by rfl)
    (hs1 : starEach [a, b] X.env = (false, eval a X.env) :: starEach [b] X.env := by rfl) (hs2 : starEach [b] X.env = (false, eval b X.env) :: starEach [] X.env := by rfl) :
    SS X C (.Assign [.Tuple [.Name x p1, .Name y p2] kt pt] (.Tuple [a, b] k2 pt2) pos) (rPar i j ta tb) := .mk fun σ H pf env feet D W tk q => by
  refine sW.of (ps_par hc hN hi hj hij hx hy (pa_cons eW.pe (pa_cons eW.pe pa_nil hs2) hs1) hw hs) ?_
  refine (ha σ H pf env feet _ D.ex W tk q).imp fun v H1 ⟨r1, e1, f1, f, W1, h1, s1, hs1, q1⟩ => ?_
  refine (hb.run σ H1 pf e1 f1 f _ W1 q1).imp fun u H2 ⟨sm, r2, g, gn, W2, h2, s2, hs2, q2⟩ => ⟨v, u, rfl, ?_⟩
  have tr : ∀ a ∈ f, H2 a = H1 a := fun a m => by
    cases e : H1 a with
    | none => exact absurd e (W1.exT a m)
    | some o => exact sm a o e
  have smh : Same (hid H1 (f1.flatten ++ f)) (hid H2 (f1.flatten ++ (f ++ g))) := hid_same fun a o n q => ⟨fun m => (by
    rw [← List.append_assoc] at m
    rcases List.mem_append.mp m with m | m
    · exact n m
    · rw [gn a m] at q; cases q), sm a o q⟩
  have k1 : SlR X.K (hid H2 (f1.flatten ++ (f ++ g))) H2 (some v) s1 f := by
    cases r1 with
    | fz d =>
      cases hs1
      obtain ⟨e, hd⟩ := h1
      exact ⟨e, v, rfl, dx_mono smh hd⟩
    | nw o =>
      cases hs1
      obtain ⟨p, e, ho⟩ := h1
      exact ⟨p, congrArg some e, ho.mono smh tr⟩
    | br i => cases hs1
    | xc c g => cases hs1
  have W3 := W2.putx k1 bi
  have sub : ∀ a, a ∈ (f1.set i f).flatten ++ g → a ∈ f1.flatten ++ (f ++ g) := fun a m => by
    rcases List.mem_append.mp m with m | m
    · rcases flatten_set_sub m with m | m
      · exact List.mem_append_left _ m
      · exact List.mem_append_right _ (List.mem_append_left _ m)
    · exact List.mem_append_right _ (List.mem_append_right _ m)
  have sm2 : Same (hid H2 (f1.flatten ++ (f ++ g))) (hid H2 ((f1.set i f).flatten ++ g)) := hid_same fun a o n q => ⟨fun m => n (sub a m), q⟩
  have k2 : SlR X.K (hid H2 ((f1.set i f).flatten ++ g)) H2 (some u) s2 g := by
    cases r2 with
    | fz d =>
      cases hs2
      obtain ⟨e, hd⟩ := h2
      exact ⟨e, u, rfl, dx_mono sm2 hd⟩
    | nw o =>
      cases hs2
      obtain ⟨p, e, ho⟩ := h2
      exact ⟨p, congrArg some e, ho.mono sm2 fun _ _ => rfl⟩
    | br i => cases hs2
    | xc c g => cases hs2
  exact ⟨_, _, W3.put k2 bj, q2⟩
/-- two things -/
def rParF (i j : Nat) (ta : RA) : RS := fun D env => ta env (fun ds e => ∃ d1 d2, ds = [d1, d2] ∧ D.nx ((e.set i (.fz d1)).set j (.fz d2))) D.ex
theorem ss_parF {i j : Nat} {ta : RA} {p1 p2 pt : Pos} {kt k2 pt2} (hc : X.calm = true) (hN : X.N.Nodup) (hi : X.N[i]? = some x) (hj : X.N[j]? = some y) (hij : i ≠ j) (bi : i ∉ C.BR) (bj : j ∉ C.BR)
    (hx : X.env.scope.names.lookup x = some .local) (hy : X.env.scope.names.lookup y = some .local) (ha : SA X C [a, b] ta)
    (hw : swappedStores [.Tuple [.Name x p1, .Name y p2] kt pt] (.Tuple [a, b] k2 pt2) X.env = pure (some [x, y]) := by rfl)
    (hs : swapsWithSole [.Tuple [.Name x p1, .Name y p2] kt pt] (.Tuple [a, b] k2 pt2) pos.line X.env = pure false := by rfl) :
    SS X C (.Assign [.Tuple [.Name x p1, .Name y p2] kt pt] (.Tuple [a, b] k2 pt2) pos) (rParF i j ta) := .mk fun σ H pf env feet D W tk q => by
  refine sW.of (ps_par hc hN hi hj hij hx hy aW.pa hw hs) ?_
  refine (ha σ H pf env feet _ D.ex W tk q).imp fun vs H1 ⟨ds, e1, f1, W1, h1, d1, d2, e, q1⟩ => ?_
  subst e
  cases h1 with
  | cons h1 h2 =>
    cases h2 with
    | cons h2 h3 =>
      cases h3
      have W2 := W1.pinned h2
      have W3 := W2.put (s := .fz d1) ⟨rfl, _, rfl, h1⟩ bi
      have h2' := W3.pin _ (List.mem_cons_self ..)
      exact ⟨_, _, rfl, _, _, (W3.unpin fun p hp => List.mem_cons_of_mem _ hp).put (s := .fz d2) ⟨rfl, _, rfl, h2'⟩ bj, q1⟩
end
end L3
end

section
set_option Elab.async false
set_option linter.all false
set_option maxRecDepth 100000
set_option maxHeartbeats 1000000
set_option autoImplicit false
/-! promises of the law's pen -/
namespace L3
open PySem PySem.Spec PyProof.Rows L2
theorem _root_.L2.Room.u64 {k : Nat} {A : Around} (r : Room k A) : A.units + 64 < cLine := by have := r.un; omega
theorem _root_.L2.Room.u65 {k : Nat} {A : Around} (r : Room k A) : A.units + 65 < cLine := by have := r.un; omega
def m_law_spread : M3 := fun sls Q E => ∃ cell at_ : Int, sls = [.fz (.int cell), .fz (.int at_)] ∧ 0 ≤ at_ ∧ at_ < 2 ^ 30 ∧ ∀ r : Int, Q (.fz (.int r)) [.un, .un]
def m_law_take : M3 := fun sls Q E => ∃ (cs : List Int) (a z many : Int), sls = [.ow (.pn cs a z), .fz (.int many)] ∧ 0 ≤ a ∧ a < 2 ^ 30 ∧ 0 < many ∧ many < 2 ^ 30 ∧ ∀ x a' z' : Int, 0 ≤ x → x < many → a ≤ a' → a' ≤ a + 1 → Q (.fz (.int x)) [.ow (.pn cs a' z'), .un]
def m_law_open : M3 := fun sls Q E => ∃ ns : List Int, sls = [.fz (.list (ns.map .int))] ∧ ns.length ≤ 63 ∧ ∀ cs, Q (.nw (.pn cs 0 0)) [.un]
def m_law_anew : M3 := fun sls Q E => ∃ (cs : List Int) (a z : Int), sls = [.ow (.pn cs a z)] ∧ Q (.br 0) [.ow (.pn cs a 0)]
def m_law_one : M3 := fun sls Q E => ∃ (cs : List Int) (a z : Int) (ds : List PyData), sls = [.ow (.pn cs a z), .fz (.list ds)] ∧ 0 ≤ a ∧ a < 2 ^ 30 ∧ 0 < ds.length ∧ ds.length < 2 ^ 30 ∧ ∀ d ∈ ds, ∀ a' z' : Int, a ≤ a' → a' ≤ a + 1 → Q (.fz d) [.ow (.pn cs a' z'), .un]
def m_law_drawn : M3 := fun sls Q E => ∃ (cs : List Int) (a z : Int) (n : Nat), sls = [.ow (.pn cs a z), .fz (.int n)] ∧ 0 ≤ a ∧ a < 2 ^ 29 ∧ n ≤ 1000 ∧ ∀ (ps : List Nat) (a' z' : Int), ps.Perm (List.range n) → a ≤ a' → a' ≤ a + n → Q (.nw (.ls (ps.map fun i => .int (i : Nat)))) [.ow (.pn cs a' z'), .un]
/-- N: 0 cell, 1 at, 2 primes, 3 mixed, 4 one, 5 two, 6 three -/
def t_law_spread : RS := (rSeq (rIf (cV (pBin gGe (rN 0) (pBin gPow (rC (.int 10)) (rC (.int 18))))) (rRet (rN 0)) rNext) (rSeq (rSet 2 (eLst (aC (rC (.int 2147483629)) (aC (rC (.int 2147483587)) (aC (rC (.int 2147483579)) (aC (rC (.int 2147483563)) (aC (rC (.int 2147483549)) (aC (rC (.int 2147483543)) (aC (rC (.int 2147483497)) aN))))))))) (rSeq (rSet 2 (pBin gAdd (rN 2) (eLst (aC (rC (.int 2147483489)) (aC (rC (.int 2147483477)) (aC (rC (.int 2147483423)) (aC (rC (.int 2147483399)) (aC (rC (.int 2147483353)) (aC (rC (.int 2147483323)) aN))))))))) (rSeq (rSet 3 (pBin gAdd (pBin gAdd (pBin gMul (pBin gMod (rN 0) (rC (.int 1000000007))) (pBin gAdd (pBin gMul (rC (.int 2)) (rN 1)) (rC (.int 69069)))) (pBin gMul (rN 1) (rC (.int 40503)))) (rC (.int 977)))) (rSeq (rSet 4 (pBin gMod (pBin gPow (rN 3) (rC (.int 3))) (pBin gIx (rN 2) (pBin gMod (rN 1) (rC (.int 13)))))) (rSeq (rSet 5 (pBin gMod (pBin gPow (pBin gAdd (pBin gAdd (pBin gMul (rN 4) (pBin gAdd (rN 1) (rC (.int 3)))) (pBin gMod (rN 0) (rC (.int 65537)))) (rC (.int 5))) (rC (.int 5))) (pBin gIx (rN 2) (pBin gMod (pBin gAdd (rN 1) (rC (.int 5))) (rC (.int 13)))))) (rSeq (rSet 6 (pBin gMod (pBin gPow (pBin gAdd (pBin gAdd (rN 5) (pBin gMod (rN 4) (rC (.int 1009)))) (rN 1)) (rC (.int 3))) (pBin gIx (rN 2) (pBin gMod (pBin gAdd (rN 1) (rC (.int 7))) (rC (.int 13)))))) (rRet (pBin gAdd (pBin gMul (pBin gAdd (pBin gMul (rN 4) (rC (.int 2147483647))) (rN 5)) (rC (.int 2147483647))) (rN 6))))))))))
/-- N: 0 script, 1 cells, 2 k, 3 cell -/
def t_law_open : RS := (rSeq (rSet 1 (pOne gList (eSl gSl (rN 0) oN (oS (rC (.int 12)))))) (rSeq (rFor (iEnm (aC (eSl gSl (rN 0) (oS (rC (.int 12))) (oS (rC (.int 63)))) aN)) (gTup' 2 (gCons' (gN 2) (gCons' (gN 3) gNil'))) (rAsg (pBin gAdd (pBin gIx (rN 1) (pBin gMod (rN 2) (rC (.int 12)))) (rN 3)) (gSubL 1 (pBin gMod (rN 2) (rC (.int 12)))))) (rRet (ePenN 1))))
/-- N: 0 pen -/
def t_law_anew : RS := (rSeq (rAsg (rC (.int 0)) (gPenS 0 2)) (rRet (rN 0)))
/-- N: 0 pen, 1 many, 2 found, 3 at, 4 cell -/
def t_law_take : RS := (rSeq (rIf (cV (pBin gLt (ePu (gPen 0 2)) (rN 1))) (rSeq (rSet 3 (ePu (gPen 0 1))) (rSeq (rSet 4 (rC (.int 0))) (rSeq (rIf (cV (pBin gLt (rN 3) (ePu (gPenL 0)))) (rSet 4 (ePu (gPenA 0 3))) (rIf (cV (pBin gGt (ePu (gPenL 0)) (rC (.int 0)))) (rSet 4 (pBin gMod (ePu (gPenB 0 3)) (pBin gAdd (pBin gPow (rC (.int 10)) (rC (.int 17))) (rN 3)))) rNext)) (rSeq (rAsg (pBin gAdd (rN 3) (rC (.int 1))) (gPenS 0 1)) (rAsg (eCall 2 m_law_spread (bC (rN 4) (bC (rN 3) bN))) (gPenS 0 2)))))) rNext) (rSeq (rSet 2 (pBin gMod (ePu (gPen 0 2)) (rN 1))) (rSeq (rAsg (pBin gFdiv (ePu (gPen 0 2)) (rN 1)) (gPenS 0 2)) (rRet (rN 2)))))
/-- N: 0 pen, 1 some -/
def t_law_one : RS := (rRet (pBin gIx (rN 1) (eCall 2 m_law_take (bC (rN 0) (bC (pOne gLen (rN 1)) bN)))))
/-- N: 0 pen, 1 many, 2 found, 3 k -/
def t_law_drawn : RS := (rSeq (rSet 2 (eLst aN)) (rSeq (rFor (iR1 (aC (rN 1) aN)) (gN 3) (rDrop (eMt gInsert 2 (aC (eCall 2 m_law_take (bC (rN 0) (bC (pBin gAdd (rN 3) (rC (.int 1))) bN))) (aC (rN 3) aN))))) (rRet (rN 2))))
end L3
end

section
set_option Elab.async false
set_option linter.all false
set_option maxRecDepth 100000
set_option maxHeartbeats 1000000
set_option autoImplicit false
namespace L3
open PySem PySem.Spec PyProof.Rows L2
theorem pl_law_anew : ∀ sls Q E, m_law_anew sls Q E → mBody [0] 1 0 t_law_anew sls Q E := by
  rintro sls Q E ⟨cs, a, z, rfl, q⟩
  exact ⟨cs, a, z, 0, rfl, rfl, q⟩
theorem pl_law_take : ∀ sls Q E, m_law_take sls Q E → mBody [0] 2 3 t_law_take sls Q E := by
  rintro sls Q E ⟨cs, a, z, many, rfl, h1, h2, h3, h4, q⟩
  have fin : ∀ (a' z' : Int) (r3 r4 : Sl), a ≤ a' → a' ≤ a + 1 → (rSeq (rSet 2 (pBin gMod (ePu (gPen 0 2)) (rN 1))) (rSeq (rAsg (pBin gFdiv (ePu (gPen 0 2)) (rN 1)) (gPenS 0 2)) (rRet (rN 2)))) { nx := fun env => Q (.fz .none) (outS [0] 2 env), rt := rFin [0] 2 Q, bk := fun _ => False, ct := fun _ => False, ex := fun er env => E er (outS [0] 2 env) } [.ow (.pn cs a' z'), .fz (.int many), .un, r3, r4] := by
    intro a' z' r3 r4 g1 g2
    refine ⟨z', ⟨cs, a', z', rfl, rfl⟩, _, _, _, rfl, rfl, if_neg (by omega), ?_⟩
    refine ⟨z', ⟨cs, a', z', rfl, rfl⟩, _, _, _, rfl, rfl, if_pos (by omega), ?_⟩
    refine ⟨cs, a', z', _, rfl, rfl, ?_⟩
    exact q _ a' _ (Int.fmod_nonneg_of_pos z' h3) (Int.fmod_lt_of_pos z' h3) g1 g2
  refine ⟨z, ⟨cs, a, z, rfl, rfl⟩, _, _, _, rfl, rfl, rfl, _, rfl, ?_⟩
  by_cases hz : z < many
  · rw [decide_eq_true hz]
    refine ⟨a, ⟨cs, a, z, rfl, rfl⟩, ?_⟩
    have rest : ∀ cell : Int, (rSeq (rAsg (pBin gAdd (rN 3) (rC (.int 1))) (gPenS 0 1)) (rAsg (eCall 2 m_law_spread (bC (rN 4) (bC (rN 3) bN))) (gPenS 0 2))) { nx := fun e => (rSeq (rSet 2 (pBin gMod (ePu (gPen 0 2)) (rN 1))) (rSeq (rAsg (pBin gFdiv (ePu (gPen 0 2)) (rN 1)) (gPenS 0 2)) (rRet (rN 2)))) { nx := fun env => Q (.fz .none) (outS [0] 2 env), rt := rFin [0] 2 Q, bk := fun _ => False, ct := fun _ => False, ex := fun er env => E er (outS [0] 2 env) } e, rt := rFin [0] 2 Q, bk := fun _ => False, ct := fun _ => False, ex := fun er env => E er (outS [0] 2 env) } [.ow (.pn cs a z), .fz (.int many), .un, .fz (.int a), .fz (.int cell)] := by
      intro cell
      refine ⟨_, _, _, rfl, rfl, rfl, cs, a, z, _, rfl, rfl, ?_⟩
      refine ⟨rfl, by simp [brs], cell, a, rfl, h1, h2, fun r => ?_⟩
      refine ⟨cs, a + 1, z, r, rfl, rfl, ?_⟩
      exact fin (a + 1) r _ _ (by omega) (by omega)
    refine ⟨_, ⟨cs, a, z, rfl, rfl⟩, _, _, _, rfl, rfl, rfl, _, rfl, ?_⟩
    by_cases ha : a < (cs.length : Nat)
    · rw [decide_eq_true ha]
      have hl : a.toNat < cs.length := by omega
      refine ⟨cs[a.toNat], ⟨cs, a, z, a, rfl, rfl, ?_⟩, rest _⟩
      unfold atI ixN
      rw [if_pos h1, if_pos ha]
      exact List.getElem?_eq_getElem hl
    · rw [decide_eq_false ha]
      refine ⟨_, ⟨cs, a, z, rfl, rfl⟩, _, _, _, rfl, rfl, rfl, _, rfl, ?_⟩
      by_cases hc : cs.length = 0
      · rw [show decide ((0 : Int) < (cs.length : Nat)) = false from decide_eq_false (by omega)]
        exact rest 0
      · have hp : (0 : Int) < (cs.length : Nat) := by omega
        rw [decide_eq_true hp]
        have m1 := Int.fmod_nonneg_of_pos (a * 5 + 3) hp
        have m2 := Int.fmod_lt_of_pos (a * 5 + 3) hp
        have hl : ((a * 5 + 3).fmod (cs.length : Nat)).toNat < cs.length := by omega
        refine ⟨cs[((a * 5 + 3).fmod (cs.length : Nat)).toNat], ⟨cs, a, z, a, rfl, rfl, fun e => hc (by rw [e]; rfl), ?_⟩, _, _, _, rfl, rfl, rfl, _, _, _, rfl, rfl, rfl, _, _, _, rfl, rfl, if_neg ?_, rest _⟩
        · unfold atI ixN
          rw [if_pos m1, if_pos m2]
          exact List.getElem?_eq_getElem hl
        · show ¬ ((10 : Int) ^ (17 : Int).toNat + a = 0)
          have : (0 : Int) < (10 : Int) ^ (17 : Int).toNat := by decide
          omega
  · rw [decide_eq_false hz]
    exact fin a z _ _ (by omega) (by omega)
theorem atI_in {α : Type} {xs : List α} {j : Int} (h0 : 0 ≤ j) (h1 : j < (xs.length : Nat)) : atI xs j = some (xs[j.toNat]'(by omega)) := by
  unfold atI ixN
  rw [if_pos h0, if_pos h1]
  exact List.getElem?_eq_getElem (by omega)
theorem ixN_in {n : Nat} {j : Int} (h0 : 0 ≤ j) (h1 : j < (n : Nat)) : ixN n j = some j.toNat := by
  unfold ixN
  rw [if_pos h0, if_pos h1]
theorem bd_mul {a b c d : Int} (h0 : 0 ≤ a) (h1 : a ≤ c) (h2 : 0 ≤ b) (h3 : b ≤ d) : 0 ≤ a * b ∧ a * b ≤ c * d :=
  ⟨Int.mul_nonneg h0 h2, Int.mul_le_mul h1 h3 h2 (by omega)⟩
def primesD : List PyData := [.int 2147483629, .int 2147483587, .int 2147483579, .int 2147483563, .int 2147483549, .int 2147483543, .int 2147483497, .int 2147483489, .int 2147483477, .int 2147483423, .int 2147483399, .int 2147483353, .int 2147483323]
theorem prime_at (j : Int) (h0 : 0 ≤ j) (h1 : j < 13) : ∃ p : Int, gIx (.list primesD) (.int j) = some (.fz (.int p)) ∧ 0 < p ∧ p < 2147483648 := by
  have : j = 0 ∨ j = 1 ∨ j = 2 ∨ j = 3 ∨ j = 4 ∨ j = 5 ∨ j = 6 ∨ j = 7 ∨ j = 8 ∨ j = 9 ∨ j = 10 ∨ j = 11 ∨ j = 12 := by omega
  rcases this with rfl | rfl | rfl | rfl | rfl | rfl | rfl | rfl | rfl | rfl | rfl | rfl | rfl <;> exact ⟨_, rfl, by decide, by decide⟩
theorem pl_law_spread : ∀ sls Q E, m_law_spread sls Q E → mBody [] 2 5 t_law_spread sls Q E := by
  rintro sls Q E ⟨cell, at_, rfl, h0, h1, q⟩
  refine ⟨_, _, _, rfl, rfl, rfl, _, _, _, rfl, rfl, rfl, _, rfl, ?_⟩
  by_cases hc : (10 : Int) ^ (18 : Int).toNat ≤ cell
  · rw [decide_eq_true hc]
    exact q cell
  · rw [decide_eq_false hc]
    refine ⟨by rw [sizeLine_eq]; decide, by rw [sizeLine_eq]; decide, _, _, _, rfl, rfl, gAdd_ls (by rw [sizeLine_eq]; decide), ?_⟩
    have c1 := Int.fmod_nonneg_of_pos cell (show (0 : Int) < 1000000007 by decide)
    have c2 := Int.fmod_lt_of_pos cell (show (0 : Int) < 1000000007 by decide)
    have e1 := Int.fmod_nonneg_of_pos cell (show (0 : Int) < 65537 by decide)
    have e2 := Int.fmod_lt_of_pos cell (show (0 : Int) < 65537 by decide)
    have j1 := Int.fmod_nonneg_of_pos at_ (show (0 : Int) < 13 by decide)
    have j2 := Int.fmod_lt_of_pos at_ (show (0 : Int) < 13 by decide)
    have k1 := Int.fmod_nonneg_of_pos (at_ + 5) (show (0 : Int) < 13 by decide)
    have k2 := Int.fmod_lt_of_pos (at_ + 5) (show (0 : Int) < 13 by decide)
    have l1 := Int.fmod_nonneg_of_pos (at_ + 7) (show (0 : Int) < 13 by decide)
    have l2 := Int.fmod_lt_of_pos (at_ + 7) (show (0 : Int) < 13 by decide)
    obtain ⟨p1, g1, a1, b1⟩ := prime_at _ j1 j2
    obtain ⟨p2, g2, a2, b2⟩ := prime_at _ k1 k2
    obtain ⟨p3, g3, a3, b3⟩ := prime_at _ l1 l2
    obtain ⟨m1, m2⟩ := bd_mul c1 (show _ ≤ 1000000006 by omega) (show 0 ≤ 2 * at_ + 69069 by omega) (show 2 * at_ + 69069 ≤ 2147552717 by omega)
    refine ⟨_, _, _, rfl, rfl, gMod_ok (by decide), _, _, _, rfl, rfl, gMul_l (by decide), _, _, _, rfl, rfl, rfl, _, _, _, rfl, rfl, gMul_l (by omega), _, _, _, rfl, rfl, gMul_l (by omega), _, _, _, rfl, rfl, rfl, _, _, _, rfl, rfl, rfl, ?_⟩
    generalize hm : cell.fmod 1000000007 * (2 * at_ + 69069) + at_ * 40503 + 977 = mixed
    have q1 : 0 ≤ mixed ∧ mixed < 2 ^ 63 := by omega
    refine ⟨_, _, _, rfl, rfl, gPow_ok ⟨by decide, by decide, by omega⟩, _, _, _, rfl, rfl, gMod_ok (by decide), _, _, _, rfl, rfl, g1, _, _, _, rfl, rfl, gMod_ok (by omega), ?_⟩
    generalize ho : (mixed ^ (3 : Int).toNat).fmod p1 = one
    have o1 : 0 ≤ one ∧ one < p1 := by
      rw [← ho]
      exact ⟨Int.fmod_nonneg_of_pos _ a1, Int.fmod_lt_of_pos _ a1⟩
    obtain ⟨m3, m4⟩ := bd_mul o1.1 (show one ≤ 2147483648 by omega) (show 0 ≤ at_ + 3 by omega) (show at_ + 3 ≤ 1073741827 by omega)
    refine ⟨_, _, _, rfl, rfl, rfl, _, _, _, rfl, rfl, gMul_l (by omega), _, _, _, rfl, rfl, gMod_ok (by decide), _, _, _, rfl, rfl, rfl, _, _, _, rfl, rfl, rfl, _, _, _, rfl, rfl, gPow_ok ⟨by decide, by decide, by omega⟩, _, _, _, rfl, rfl, rfl, _, _, _, rfl, rfl, gMod_ok (by decide), _, _, _, rfl, rfl, g2, _, _, _, rfl, rfl, gMod_ok (by omega), ?_⟩
    generalize ht : ((one * (at_ + 3) + cell.fmod 65537 + 5) ^ (5 : Int).toNat).fmod p2 = two
    have t1 : 0 ≤ two ∧ two < p2 := by
      rw [← ht]
      exact ⟨Int.fmod_nonneg_of_pos _ a2, Int.fmod_lt_of_pos _ a2⟩
    have f1 := Int.fmod_nonneg_of_pos one (show (0 : Int) < 1009 by decide)
    have f2 := Int.fmod_lt_of_pos one (show (0 : Int) < 1009 by decide)
    refine ⟨_, _, _, rfl, rfl, gMod_ok (by decide), _, _, _, rfl, rfl, rfl, _, _, _, rfl, rfl, rfl, _, _, _, rfl, rfl, gPow_ok ⟨by decide, by decide, by omega⟩, _, _, _, rfl, rfl, rfl, _, _, _, rfl, rfl, gMod_ok (by decide), _, _, _, rfl, rfl, g3, _, _, _, rfl, rfl, gMod_ok (by omega), ?_⟩
    exact ⟨_, _, _, rfl, rfl, gMul_r (by decide), _, _, _, rfl, rfl, rfl, _, _, _, rfl, rfl, gMul_r (by decide), _, _, _, rfl, rfl, rfl, q _⟩
theorem pl_law_one : ∀ sls Q E, m_law_one sls Q E → mBody [0] 2 0 t_law_one sls Q E := by
  rintro sls Q E ⟨cs, a, z, ds, rfl, h0, h1, h2, h3, q⟩
  refine ⟨_, _, rfl, rfl, rfl, by simp [brs], cs, a, z, _, rfl, h0, h1, by omega, by omega, fun x a' z' g0 g1 g2 g3 => ?_⟩
  have hx : x.toNat < ds.length := by omega
  refine ⟨_, _, _, rfl, rfl, show (atI ds x).map Rs.fz = some _ by rw [atI_in g0 g1]; rfl, ?_⟩
  exact q _ (List.getElem_mem hx) a' z' g2 g3
end L3
end

section
set_option Elab.async false
set_option linter.all false
set_option maxRecDepth 100000
set_option maxHeartbeats 1000000
set_option autoImplicit false
namespace L3
open PySem PySem.Spec PyProof.Rows L2
def enumFrom (k : Nat) (ds : List PyData) : List PyData := ds.mapIdx fun i d => .tuple [.int ((k + i : Nat) : Int), d]
theorem enumFrom_cons (k : Nat) (d : PyData) (ds : List PyData) : enumFrom k (d :: ds) = .tuple [.int (k : Nat), d] :: enumFrom (k + 1) ds := by
  unfold enumFrom
  rw [List.mapIdx_cons]
  congr 1
  refine List.ext_getElem? fun i => ?_
  simp only [List.getElem?_mapIdx]
  cases ds[i]? with
  | none => rfl
  | some x => simp; omega
theorem enumD_from (ds : List PyData) : enumD ds = enumFrom 0 ds := by
  unfold enumD enumFrom
  simp
theorem cutD_map (ns : List Int) (lo hi : Option Int) : ∃ ms : List Int, cutD (ns.map .int) lo hi = ms.map .int ∧ ms = (ns.drop (HT.sIx ns.length 0 lo)).take (HT.sIx ns.length ns.length hi - HT.sIx ns.length 0 lo) := by
  refine ⟨_, ?_, rfl⟩
  unfold cutD
  rw [List.length_map, List.map_take, List.map_drop]
theorem pl_law_open : ∀ sls Q E, m_law_open sls Q E → mBody [] 1 3 t_law_open sls Q E := by
  rintro sls Q E ⟨ns, rfl, hn, q⟩
  obtain ⟨ms, e1, f1⟩ := cutD_map ns none (some 12)
  obtain ⟨rs, e2, f2⟩ := cutD_map ns (some 12) (some 63)
  refine ⟨_, rfl, _, rfl, _, _, rfl, rfl, ?_⟩
  rw [e1]
  refine ⟨_, rfl, _, rfl, _, rfl, _, rfl, ?_⟩
  rw [e2, enumD_from]
  have hl : rs = [] ∨ ms.length = 12 := by
    rw [f1, f2]
    have a1 : HT.sIx ns.length 0 (some 12) = min 12 ns.length := HT.sIx_nat _ _ 12
    have a2 : HT.sIx ns.length ns.length (some 12) = min 12 ns.length := HT.sIx_nat _ _ 12
    rw [a1, a2, HT.sIx_none]
    by_cases h : ns.length ≤ 12
    · left
      rw [Nat.min_eq_right h, List.drop_length]
      simp
    · right
      rw [Nat.min_eq_left (by omega)]
      simp; omega
  have loop : ∀ (rs : List Int) (k : Nat) (cs : List Int) (s2 s3 : Sl), (rs = [] ∨ cs.length = 12) → rLoop (gTup' 2 (gCons' (gN 2) (gCons' (gN 3) gNil'))) (rAsg (pBin gAdd (pBin gIx (rN 1) (pBin gMod (rN 2) (rC (.int 12)))) (rN 3)) (gSubL 1 (pBin gMod (rN 2) (rC (.int 12)))))
      { nx := fun e => (rRet (ePenN 1)) { nx := fun env => Q (.fz .none) (outS [] 1 env), rt := rFin [] 1 Q, bk := fun _ => False, ct := fun _ => False, ex := fun er env => E er (outS [] 1 env) } e, rt := rFin [] 1 Q, bk := fun _ => False, ct := fun _ => False, ex := fun er env => E er (outS [] 1 env) } (enumFrom k (rs.map .int)) [.fz (.list (ns.map .int)), .ow (.ls (cs.map .int)), s2, s3] := by
    intro rs
    induction rs with
    | nil =>
      intro k cs s2 s3 _
      exact ⟨cs, rfl, q cs⟩
    | cons r rs ih =>
      intro k cs s2 s3 h
      have hc : cs.length = 12 := by
        rcases h with h | h
        · cases h
        · exact h
      rw [List.map_cons, enumFrom_cons]
      have j1 := Int.fmod_nonneg_of_pos (k : Int) (show (0 : Int) < 12 by decide)
      have j2 := Int.fmod_lt_of_pos (k : Int) (show (0 : Int) < 12 by decide)
      have hlen : (cs.map PyData.int).length = 12 := by rw [List.length_map]; exact hc
      have hj : ((k : Int).fmod 12).toNat < cs.length := by omega
      refine ⟨_, rfl, rfl, _, _, rfl, _, _, rfl, rfl, ?_⟩
      refine ⟨_, _, _, rfl, rfl, gMod_ok (by decide), _, _, _, rfl, rfl, show (atI (cs.map PyData.int) _).map Rs.fz = some _ by rw [atI_in j1 (by rw [hlen]; exact j2)]; rfl, ?_⟩
      rw [List.getElem_map]
      refine ⟨_, _, _, rfl, rfl, rfl, ⟨_, rfl⟩, _, _, _, rfl, rfl, gMod_ok (by decide), _, _, _, rfl, rfl, ixN_in j1 (by rw [hlen]; exact j2), ?_⟩
      have e : (cs.map PyData.int).set ((k : Int).fmod 12).toNat (.int (cs[((k : Int).fmod 12).toNat] + r)) = (cs.set ((k : Int).fmod 12).toNat (cs[((k : Int).fmod 12).toNat] + r)).map .int := by rw [List.map_set]
      have := ih (k + 1) (cs.set ((k : Int).fmod 12).toNat (cs[((k : Int).fmod 12).toNat] + r)) (.fz (.int k)) (.fz (.int r)) (.inr (by rw [List.length_set]; exact hc))
      rw [← e] at this
      exact this
  exact loop rs 0 ms _ _ hl
theorem perm_ins (k x : Nat) (ps : List Nat) (h : ps.Perm (List.range k)) : (ps.take x ++ [k] ++ ps.drop x).Perm (List.range (k + 1)) := by
  rw [List.range_succ]
  have e : (ps.take x ++ [k] ++ ps.drop x).Perm (k :: ps) := by
    rw [List.append_assoc]
    refine List.perm_middle.trans ?_
    show (k :: (ps.take x ++ ps.drop x)).Perm _
    rw [List.take_append_drop]
  exact e.trans ((List.perm_append_singleton k _).symm.trans (List.Perm.append_right _ h)).symm.symm
theorem pl_law_drawn : ∀ sls Q E, m_law_drawn sls Q E → mBody [0] 2 2 t_law_drawn sls Q E := by
  rintro sls Q E ⟨cs, a, z, n, rfl, h0, h1, hn, q⟩
  refine ⟨by rw [sizeLine_eq]; decide, _, rfl, by omega, by omega, ?_⟩
  have loop : ∀ (m k : Nat) (ps : List Nat) (a' z' : Int) (s3 : Sl), k + m = n → ps.Perm (List.range k) → a ≤ a' → a' ≤ a + k → rLoop (gN 3) (rDrop (eMt gInsert 2 (aC (eCall 2 m_law_take (bC (rN 0) (bC (pBin gAdd (rN 3) (rC (.int 1))) bN))) (aC (rN 3) aN))))
      { nx := fun e => (rRet (rN 2)) { nx := fun env => Q (.fz .none) (outS [0] 2 env), rt := rFin [0] 2 Q, bk := fun _ => False, ct := fun _ => False, ex := fun er env => E er (outS [0] 2 env) } e, rt := rFin [0] 2 Q, bk := fun _ => False, ct := fun _ => False, ex := fun er env => E er (outS [0] 2 env) } ((List.range m).map fun i => PyData.int ((k + i : Nat) : Int)) [.ow (.pn cs a' z'), .fz (.int n), .ow (.ls (ps.map fun i => .int (i : Nat))), s3] := by
    intro m
    induction m with
    | zero =>
      intro k ps a' z' s3 e hp g1 g2
      have e : k = n := by omega
      subst e
      exact q ps a' z' hp g1 g2
    | succ m ih =>
      intro k ps a' z' s3 e hp g1 g2
      rw [List.range_succ_eq_map, List.map_cons, List.map_map]
      have hl : ps.length = k := by rw [hp.length_eq, List.length_range]
      refine ⟨⟨_, rfl⟩, _, _, _, rfl, rfl, rfl, rfl, by simp [brs], cs, a', z', _, rfl, by omega, by omega, by omega, by omega, fun x a2 z2 x1 x2 b1 b2 => ?_⟩
      refine ⟨_, _, _, rfl, if_pos ⟨by rw [List.length_map, hl, sizeLine_eq]; omega, x1, by omega⟩, ?_⟩
      have e1 : (ps.map fun i => PyData.int (i : Nat)).take x.toNat ++ [.int ((k + 0 : Nat) : Int)] ++ (ps.map fun i => PyData.int (i : Nat)).drop x.toNat = (ps.take x.toNat ++ [k] ++ ps.drop x.toNat).map fun i => .int (i : Nat) := by simp
      have e2 : (fun i : Nat => PyData.int ((k + i : Nat) : Int)) ∘ Nat.succ = fun i : Nat => PyData.int ((k + 1 + i : Nat) : Int) := by
        funext i
        simp only [Function.comp]
        congr 2
        omega
      have := ih (k + 1) (ps.take x.toNat ++ [k] ++ ps.drop x.toNat) a2 z2 (.fz (.int ((k + 0 : Nat) : Int))) (by omega) (perm_ins k _ ps hp) (by omega) (by omega)
      rw [← e1] at this
      rw [e2]
      exact this
  have := loop n 0 [] a z .un (by omega) (by simp) (by omega) (by omega)
  have e : rngI 0 (n : Int).toNat = (List.range n).map fun i => PyData.int ((0 + i : Nat) : Int) := by
    unfold rngI
    simp
  rw [e]
  exact this
end L3
end

section
set_option Elab.async false
set_option linter.all false
set_option maxRecDepth 100000
set_option maxHeartbeats 2000000
set_option autoImplicit false
/-! loops over comprehensions, plainly -/
namespace L3
open PySem PySem.Spec PyProof.Rows L2
/-- a comprehension whose turns leave the rest as it is -/
theorem rComp_map {vs : List Nat} {g : RG} {tt : RT} {te : RE} {Q : List PyData → En → Prop} (f : PyData → PyData) (env : En) : ∀ (items acc : List PyData), (∀ d ∈ items, ∀ (R : PyData → En → Prop) (P : En → Prop), (∀ e3, wipeS .un e3 vs = env → R (f d) e3) → g d env (fun e1 => tt e1 (fun b e2 => if b = true then vl te e2 R noX else P e2) noX) noX) →
    acc.length + items.length ≤ sizeLine → Q (acc ++ items.map f) env → rComp vs g tt te Q items acc env
  | [], acc, _, _, q => by
    rw [List.map_nil, List.append_nil] at q
    exact q
  | d :: ds, acc, h, hz, q => by
    refine h d (List.mem_cons_self ..) _ _ fun e3 he => ⟨?_, ?_⟩
    · rw [List.length_cons] at hz; omega
    · rw [he]
      refine rComp_map f env ds (acc ++ [f d]) (fun x hx => h x (List.mem_cons_of_mem _ hx)) ?_ ?_
      · rw [List.length_append, List.length_singleton]; rw [List.length_cons] at hz; omega
      · rw [List.append_assoc]; exact q
/-- a comprehension whose turns draw from the pen: J n env holds ahead of it with n turns left -/
theorem rComp_inv {vs : List Nat} {g : RG} {tt : RT} {te : RE} {Q : List PyData → En → Prop} (J : Nat → List PyData → En → Prop) : ∀ (items acc : List PyData) (env : En), J items.length acc env → (∀ n acc env d, d ∈ items → J (n + 1) acc env → ∀ (R : PyData → En → Prop) (P : En → Prop), (∀ y e3, J n (acc ++ [y]) (wipeS .un e3 vs) → R y e3) → g d env (fun e1 => tt e1 (fun b e2 => if b = true then vl te e2 R noX else P e2) noX) noX) →
    acc.length + items.length ≤ sizeLine → (∀ acc env, J 0 acc env → Q acc env) → rComp vs g tt te Q items acc env
  | [], acc, env, j, _, _, q => q acc env j
  | d :: ds, acc, env, j, h, hz, q => by
    refine h ds.length acc env d (List.mem_cons_self ..) j _ _ fun y e3 j3 => ⟨?_, ?_⟩
    · rw [List.length_cons] at hz; omega
    · refine rComp_inv J ds (acc ++ [y]) _ j3 (fun n a e x hx => h n a e x (List.mem_cons_of_mem _ hx)) ?_ q
      rw [List.length_append, List.length_singleton]; rw [List.length_cons] at hz; omega
theorem rngI_len (lo : Int) (n : Nat) : (rngI lo n).length = n := by simp [rngI]
theorem gEq_sh {x y : PyData} (h : ∀ a b, ¬(x = .str a ∧ y = .str b)) (hx : SeqAt.shaped x = true) (hy : SeqAt.shaped y = true) : gEq x y = some (fzB (PyData.eqv x y)) := by
  unfold gEq
  split
  · exact absurd ⟨rfl, rfl⟩ (h _ _)
  · rw [if_pos ⟨hx, hy⟩]
theorem gNe_sh {x y : PyData} (h : ∀ a b, ¬(x = .str a ∧ y = .str b)) (hx : SeqAt.shaped x = true) (hy : SeqAt.shaped y = true) : gNe x y = some (fzB (!PyData.eqv x y)) := by
  unfold gNe
  split
  · exact absurd ⟨rfl, rfl⟩ (h _ _)
  · rw [if_pos ⟨hx, hy⟩]
theorem gEq_int {a b : Int} : gEq (.int a) (.int b) = some (fzB (a == b)) := gEq_sh (fun _ _ h => by cases h.1) rfl rfl
theorem app_ok {a b : Str} (ha : PyData.strOk a = true) (hb : PyData.strOk b = true) : PyData.strOk (a ++ b) = true := by
  obtain ⟨l⟩ := a
  obtain ⟨r⟩ := b
  unfold PyData.strOk at *
  show ((l ++ r).all _) = true
  rw [Array.all_append, ha, hb]; rfl
theorem app_len (a b : Str) : (a ++ b).length = a.length + b.length := by
  obtain ⟨l⟩ := a
  obtain ⟨r⟩ := b
  show (l ++ r).size = _
  rw [Array.size_append]; rfl
theorem join_ok : ∀ ys : List Str, (∀ y ∈ ys, y.length = 1 ∧ PyData.strOk y = true) → (Str.join "" ys).length ≤ ys.length ∧ PyData.strOk (Str.join "" ys) = true
  | [], _ => ⟨Nat.le_refl _, by decide +kernel⟩
  | [y], h => ⟨by show y.length ≤ 1; rw [(h y (by simp)).1]; exact Nat.le_refl _, (h y (by simp)).2⟩
  | y :: z :: r, h => by
    have h1 := h y (by simp)
    obtain ⟨h2, h3⟩ := join_ok (z :: r) fun x hx => h x (List.mem_cons_of_mem _ hx)
    have e : Str.join "" (y :: z :: r) = y ++ "" ++ Str.join "" (z :: r) := rfl
    rw [e]
    refine ⟨?_, app_ok (app_ok h1.2 (by decide +kernel)) h3⟩
    rw [app_len, app_len, h1.1, show ((("" : String) : Str)).length = 0 from rfl, List.length_cons]
    omega
end L3
end

section
set_option autoImplicit true
set_option Elab.async false
set_option linter.all false
set_option maxRecDepth 100000
set_option maxHeartbeats 0
namespace Hd
open PySem PySem.Spec PyProof.Rows L2 L3
def top (i : Nat) : Stmt := PySem.Challenge.pw_homerounds_k70_house_bounds.main.body.getD i (.Pass ⟨0, 0, 0, 0⟩)
abbrev s__wall : Stmt := top 0
abbrev s_NoName___init__ : Stmt := inClass (top 13) 0
abbrev s_Standing___init__ : Stmt := inClass (top 14) 0
abbrev s_Full___init__ : Stmt := inClass (top 15) 0
abbrev s_NoMark___init__ : Stmt := inClass (top 16) 0
abbrev s_is_whole : Stmt := top 18
abbrev s_is_letters : Stmt := top 19
abbrev s_is_letter : Stmt := top 20
abbrev s_need_letter : Stmt := top 21
abbrev s_is_state : Stmt := top 22
abbrev s_is_table : Stmt := top 23
abbrev s_is_machine : Stmt := top 26
abbrev s_need_machine : Stmt := top 27
abbrev s_need_state : Stmt := top 28
abbrev s_undoing : Stmt := top 31
abbrev s_is_row_of : Stmt := top 32
abbrev s_is_row : Stmt := top 33
abbrev s_need_row : Stmt := top 34
abbrev s_back_of_row : Stmt := top 35
abbrev s_plain_of : Stmt := top 36
abbrev s_is_name : Stmt := top 41
abbrev s_House___init__ : Stmt := inClass (top 42) 0
abbrev s_House_need_new : Stmt := inClass (top 42) 1
abbrev s_House_need : Stmt := inClass (top 42) 2
abbrev s_House_set_row : Stmt := inClass (top 42) 3
abbrev s_House_put : Stmt := inClass (top 42) 4
abbrev s_House_join : Stmt := inClass (top 42) 5
abbrev s_House_turn_back : Stmt := inClass (top 42) 6
abbrev s_House_take_out : Stmt := inClass (top 42) 7
abbrev s_House_set_state : Stmt := inClass (top 42) 8
abbrev s_House_exchange : Stmt := inClass (top 42) 9
abbrev s_House_lead : Stmt := inClass (top 42) 10
abbrev s_House_mark : Stmt := inClass (top 42) 11
abbrev s_House_back : Stmt := inClass (top 42) 12
abbrev s_House_machine : Stmt := inClass (top 42) 13
abbrev s_House_names : Stmt := inClass (top 42) 14
abbrev s_House_marks : Stmt := inClass (top 42) 15
abbrev s_House_row : Stmt := inClass (top 42) 16
abbrev s_House_doing : Stmt := inClass (top 42) 17
abbrev s_House_order : Stmt := inClass (top 42) 18
abbrev s_House_home : Stmt := inClass (top 42) 19
abbrev s_House_unlike : Stmt := inClass (top 42) 20
abbrev s_House_mirrored : Stmt := inClass (top 42) 21
abbrev s_House_kind : Stmt := inClass (top 42) 22
abbrev s__law_spread : Stmt := top 44
abbrev s__law_open : Stmt := top 45
abbrev s__law_anew : Stmt := top 46
abbrev s__law_take : Stmt := top 47
abbrev s__law_one : Stmt := top 48
abbrev s__law_drawn : Stmt := top 49
abbrev s__law_tables : Stmt := top 50
abbrev s__law_renamed : Stmt := top 51
abbrev s__law_any_machine : Stmt := top 52
abbrev s__law_machine : Stmt := top 53
abbrev s__law_row : Stmt := top 54
abbrev s__law_told : Stmt := top 55
abbrev s__law_no_machine : Stmt := top 56
abbrev s__law_long_right : Stmt := top 57
abbrev s__law_room_right : Stmt := top 58
abbrev s__law_marks_right : Stmt := top 59
abbrev s__law_names_right : Stmt := top 60
abbrev s_law : Stmt := top 61
def d__wall : He.DefD := ⟨("_wall", none), "_wall", "_wall", defArgs s__wall, defBody s__wall, defScope s__wall, [], []⟩
def d_NoName___init__ : He.DefD := ⟨("NoName", some "__init__"), "__init__", "NoName.__init__", defArgs s_NoName___init__, defBody s_NoName___init__, defScope s_NoName___init__, [], []⟩
def d_Standing___init__ : He.DefD := ⟨("Standing", some "__init__"), "__init__", "Standing.__init__", defArgs s_Standing___init__, defBody s_Standing___init__, defScope s_Standing___init__, [], []⟩
def d_Full___init__ : He.DefD := ⟨("Full", some "__init__"), "__init__", "Full.__init__", defArgs s_Full___init__, defBody s_Full___init__, defScope s_Full___init__, [], []⟩
def d_NoMark___init__ : He.DefD := ⟨("NoMark", some "__init__"), "__init__", "NoMark.__init__", defArgs s_NoMark___init__, defBody s_NoMark___init__, defScope s_NoMark___init__, [], []⟩
def d_is_whole : He.DefD := ⟨("is_whole", none), "is_whole", "is_whole", defArgs s_is_whole, defBody s_is_whole, defScope s_is_whole, [], []⟩
def d_is_letters : He.DefD := ⟨("is_letters", none), "is_letters", "is_letters", defArgs s_is_letters, defBody s_is_letters, defScope s_is_letters, [], []⟩
def d_is_letter : He.DefD := ⟨("is_letter", none), "is_letter", "is_letter", defArgs s_is_letter, defBody s_is_letter, defScope s_is_letter, [], []⟩
def d_need_letter : He.DefD := ⟨("need_letter", none), "need_letter", "need_letter", defArgs s_need_letter, defBody s_need_letter, defScope s_need_letter, [], []⟩
def d_is_state : He.DefD := ⟨("is_state", none), "is_state", "is_state", defArgs s_is_state, defBody s_is_state, defScope s_is_state, [], []⟩
def d_is_table : He.DefD := ⟨("is_table", none), "is_table", "is_table", defArgs s_is_table, defBody s_is_table, defScope s_is_table, [], []⟩
def d_is_machine : He.DefD := ⟨("is_machine", none), "is_machine", "is_machine", defArgs s_is_machine, defBody s_is_machine, defScope s_is_machine, [], []⟩
def d_need_machine : He.DefD := ⟨("need_machine", none), "need_machine", "need_machine", defArgs s_need_machine, defBody s_need_machine, defScope s_need_machine, [], []⟩
def d_need_state : He.DefD := ⟨("need_state", none), "need_state", "need_state", defArgs s_need_state, defBody s_need_state, defScope s_need_state, [], []⟩
def d_undoing : He.DefD := ⟨("undoing", none), "undoing", "undoing", defArgs s_undoing, defBody s_undoing, defScope s_undoing, [], []⟩
def d_is_row_of : He.DefD := ⟨("is_row_of", none), "is_row_of", "is_row_of", defArgs s_is_row_of, defBody s_is_row_of, defScope s_is_row_of, [], []⟩
def d_is_row : He.DefD := ⟨("is_row", none), "is_row", "is_row", defArgs s_is_row, defBody s_is_row, defScope s_is_row, [], []⟩
def d_need_row : He.DefD := ⟨("need_row", none), "need_row", "need_row", defArgs s_need_row, defBody s_need_row, defScope s_need_row, [], []⟩
def d_back_of_row : He.DefD := ⟨("back_of_row", none), "back_of_row", "back_of_row", defArgs s_back_of_row, defBody s_back_of_row, defScope s_back_of_row, [], []⟩
def d_plain_of : He.DefD := ⟨("plain_of", none), "plain_of", "plain_of", defArgs s_plain_of, defBody s_plain_of, defScope s_plain_of, [], []⟩
def d_is_name : He.DefD := ⟨("is_name", none), "is_name", "is_name", defArgs s_is_name, defBody s_is_name, defScope s_is_name, [], []⟩
def d_House___init__ : He.DefD := ⟨("House", some "__init__"), "__init__", "House.__init__", defArgs s_House___init__, defBody s_House___init__, defScope s_House___init__, [], []⟩
def d_House_need_new : He.DefD := ⟨("House", some "need_new"), "need_new", "House.need_new", defArgs s_House_need_new, defBody s_House_need_new, defScope s_House_need_new, [], []⟩
def d_House_need : He.DefD := ⟨("House", some "need"), "need", "House.need", defArgs s_House_need, defBody s_House_need, defScope s_House_need, [], []⟩
def d_House_set_row : He.DefD := ⟨("House", some "set_row"), "set_row", "House.set_row", defArgs s_House_set_row, defBody s_House_set_row, defScope s_House_set_row, [], []⟩
def d_House_put : He.DefD := ⟨("House", some "put"), "put", "House.put", defArgs s_House_put, defBody s_House_put, defScope s_House_put, [], []⟩
def d_House_join : He.DefD := ⟨("House", some "join"), "join", "House.join", defArgs s_House_join, defBody s_House_join, defScope s_House_join, [], []⟩
def d_House_turn_back : He.DefD := ⟨("House", some "turn_back"), "turn_back", "House.turn_back", defArgs s_House_turn_back, defBody s_House_turn_back, defScope s_House_turn_back, [], []⟩
def d_House_take_out : He.DefD := ⟨("House", some "take_out"), "take_out", "House.take_out", defArgs s_House_take_out, defBody s_House_take_out, defScope s_House_take_out, [], []⟩
def d_House_set_state : He.DefD := ⟨("House", some "set_state"), "set_state", "House.set_state", defArgs s_House_set_state, defBody s_House_set_state, defScope s_House_set_state, [], []⟩
def d_House_exchange : He.DefD := ⟨("House", some "exchange"), "exchange", "House.exchange", defArgs s_House_exchange, defBody s_House_exchange, defScope s_House_exchange, [], []⟩
def d_House_lead : He.DefD := ⟨("House", some "lead"), "lead", "House.lead", defArgs s_House_lead, defBody s_House_lead, defScope s_House_lead, [], []⟩
def d_House_mark : He.DefD := ⟨("House", some "mark"), "mark", "House.mark", defArgs s_House_mark, defBody s_House_mark, defScope s_House_mark, [], []⟩
def d_House_back : He.DefD := ⟨("House", some "back"), "back", "House.back", defArgs s_House_back, defBody s_House_back, defScope s_House_back, [], []⟩
def d_House_machine : He.DefD := ⟨("House", some "machine"), "machine", "House.machine", defArgs s_House_machine, defBody s_House_machine, defScope s_House_machine, [], []⟩
def d_House_names : He.DefD := ⟨("House", some "names"), "names", "House.names", defArgs s_House_names, defBody s_House_names, defScope s_House_names, [], []⟩
def d_House_marks : He.DefD := ⟨("House", some "marks"), "marks", "House.marks", defArgs s_House_marks, defBody s_House_marks, defScope s_House_marks, [], []⟩
def d_House_row : He.DefD := ⟨("House", some "row"), "row", "House.row", defArgs s_House_row, defBody s_House_row, defScope s_House_row, [], []⟩
def d_House_doing : He.DefD := ⟨("House", some "doing"), "doing", "House.doing", defArgs s_House_doing, defBody s_House_doing, defScope s_House_doing, [], []⟩
def d_House_order : He.DefD := ⟨("House", some "order"), "order", "House.order", defArgs s_House_order, defBody s_House_order, defScope s_House_order, [], []⟩
def d_House_home : He.DefD := ⟨("House", some "home"), "home", "House.home", defArgs s_House_home, defBody s_House_home, defScope s_House_home, [], []⟩
def d_House_unlike : He.DefD := ⟨("House", some "unlike"), "unlike", "House.unlike", defArgs s_House_unlike, defBody s_House_unlike, defScope s_House_unlike, [], []⟩
def d_House_mirrored : He.DefD := ⟨("House", some "mirrored"), "mirrored", "House.mirrored", defArgs s_House_mirrored, defBody s_House_mirrored, defScope s_House_mirrored, [], []⟩
def d_House_kind : He.DefD := ⟨("House", some "kind"), "kind", "House.kind", defArgs s_House_kind, defBody s_House_kind, defScope s_House_kind, [], []⟩
def d__law_spread : He.DefD := ⟨("_law_spread", none), "_law_spread", "_law_spread", defArgs s__law_spread, defBody s__law_spread, defScope s__law_spread, [], []⟩
def d__law_open : He.DefD := ⟨("_law_open", none), "_law_open", "_law_open", defArgs s__law_open, defBody s__law_open, defScope s__law_open, [], []⟩
def d__law_anew : He.DefD := ⟨("_law_anew", none), "_law_anew", "_law_anew", defArgs s__law_anew, defBody s__law_anew, defScope s__law_anew, [], []⟩
def d__law_take : He.DefD := ⟨("_law_take", none), "_law_take", "_law_take", defArgs s__law_take, defBody s__law_take, defScope s__law_take, [], []⟩
def d__law_one : He.DefD := ⟨("_law_one", none), "_law_one", "_law_one", defArgs s__law_one, defBody s__law_one, defScope s__law_one, [], []⟩
def d__law_drawn : He.DefD := ⟨("_law_drawn", none), "_law_drawn", "_law_drawn", defArgs s__law_drawn, defBody s__law_drawn, defScope s__law_drawn, [], []⟩
def d__law_tables : He.DefD := ⟨("_law_tables", none), "_law_tables", "_law_tables", defArgs s__law_tables, defBody s__law_tables, defScope s__law_tables, [], []⟩
def d__law_renamed : He.DefD := ⟨("_law_renamed", none), "_law_renamed", "_law_renamed", defArgs s__law_renamed, defBody s__law_renamed, defScope s__law_renamed, [], []⟩
def d__law_any_machine : He.DefD := ⟨("_law_any_machine", none), "_law_any_machine", "_law_any_machine", defArgs s__law_any_machine, defBody s__law_any_machine, defScope s__law_any_machine, [], []⟩
def d__law_machine : He.DefD := ⟨("_law_machine", none), "_law_machine", "_law_machine", defArgs s__law_machine, defBody s__law_machine, defScope s__law_machine, [], []⟩
def d__law_row : He.DefD := ⟨("_law_row", none), "_law_row", "_law_row", defArgs s__law_row, defBody s__law_row, defScope s__law_row, [], []⟩
def d__law_told : He.DefD := ⟨("_law_told", none), "_law_told", "_law_told", defArgs s__law_told, defBody s__law_told, defScope s__law_told, [], []⟩
def d__law_no_machine : He.DefD := ⟨("_law_no_machine", none), "_law_no_machine", "_law_no_machine", defArgs s__law_no_machine, defBody s__law_no_machine, defScope s__law_no_machine, [], []⟩
def d__law_long_right : He.DefD := ⟨("_law_long_right", none), "_law_long_right", "_law_long_right", defArgs s__law_long_right, defBody s__law_long_right, defScope s__law_long_right, [], []⟩
def d__law_room_right : He.DefD := ⟨("_law_room_right", none), "_law_room_right", "_law_room_right", defArgs s__law_room_right, defBody s__law_room_right, defScope s__law_room_right, [], []⟩
def d__law_marks_right : He.DefD := ⟨("_law_marks_right", none), "_law_marks_right", "_law_marks_right", defArgs s__law_marks_right, defBody s__law_marks_right, defScope s__law_marks_right, [], []⟩
def d__law_names_right : He.DefD := ⟨("_law_names_right", none), "_law_names_right", "_law_names_right", defArgs s__law_names_right, defBody s__law_names_right, defScope s__law_names_right, [], []⟩
def d_law : He.DefD := ⟨("law", none), "law", "law", defArgs s_law, defBody s_law, defScope s_law, [], []⟩
def fn : List He.DefD := [d__wall, d_NoName___init__, d_Standing___init__, d_Full___init__, d_NoMark___init__, d_is_whole, d_is_letters, d_is_letter, d_need_letter, d_is_state, d_is_table, d_is_machine, d_need_machine, d_need_state, d_undoing, d_is_row_of, d_is_row, d_need_row, d_back_of_row, d_plain_of, d_is_name, d_House___init__, d_House_need_new, d_House_need, d_House_set_row, d_House_put, d_House_join, d_House_turn_back, d_House_take_out, d_House_set_state, d_House_exchange, d_House_lead, d_House_mark, d_House_back, d_House_machine, d_House_names, d_House_marks, d_House_row, d_House_doing, d_House_order, d_House_home, d_House_unlike, d_House_mirrored, d_House_kind, d__law_spread, d__law_open, d__law_anew, d__law_take, d__law_one, d__law_drawn, d__law_tables, d__law_renamed, d__law_any_machine, d__law_machine, d__law_row, d__law_told, d__law_no_machine, d__law_long_right, d__law_room_right, d__law_marks_right, d__law_names_right, d_law]
def fa : List He.Fa := [.glo "_wall", .glo "is_whole", .glo "is_letters", .glo "is_letter", .glo "need_letter", .glo "is_state", .glo "is_table", .glo "is_machine", .glo "need_machine", .glo "need_state", .glo "undoing", .glo "is_row_of", .glo "is_row", .glo "need_row", .glo "back_of_row", .glo "plain_of", .glo "is_name", .glo "_law_spread", .glo "_law_open", .glo "_law_anew", .glo "_law_take", .glo "_law_one", .glo "_law_drawn", .glo "_law_tables", .glo "_law_renamed", .glo "_law_any_machine", .glo "_law_machine", .glo "_law_row", .glo "_law_told", .glo "_law_no_machine", .glo "_law_long_right", .glo "_law_room_right", .glo "_law_marks_right", .glo "_law_names_right", .glo "law", .free "len", .free "list", .free "tuple", .free "range", .free "enumerate", .free "sum", .free "isinstance", .free "int", .free "repr", .free "sorted", .free "set", .free "dict", .free "zip", .free "str", .free "ValueError", .free "bool", .free "all", .free "any", .free "max", .free "min", .free "abs", .int "MOST_STATES" 8, .int "LONGEST_ROW" 16, .str "SMALL" "abcdefghijklmnopqrstuvwxyz", .int "MOST_NAMES" 12, .int "MOST_MARKS" 6, .exc "TurnError", .exc "NoMachine", .exc "NoState", .exc "NoLetter", .exc "NoRow", .exc "NoNumber", .exc "NoFit", .exc "NoMirror", .exc "NoPaper", .exc "TooMany", .exc "TooLong", .glo "TurnError", .glo "NoMachine", .glo "NoState", .glo "NoLetter", .glo "NoRow", .glo "NoNumber", .glo "NoFit", .glo "NoMirror", .glo "NoPaper", .glo "TooMany", .glo "TooLong", .glo "NoName", .glo "Standing", .glo "Full", .glo "NoMark", .glo "House", .cls "House", .mkr "House", .noat "House" "kept", .noat "House" "rows", .noat "House" "held", .meth "House" "back", .meth "House" "doing", .meth "House" "exchange", .meth "House" "home", .meth "House" "join", .meth "House" "kind", .meth "House" "lead", .meth "House" "machine", .meth "House" "mark", .meth "House" "marks", .meth "House" "mirrored", .meth "House" "names", .meth "House" "need", .meth "House" "need_new", .meth "House" "order", .meth "House" "put", .meth "House" "row", .meth "House" "set_row", .meth "House" "set_state", .meth "House" "take_out", .meth "House" "turn_back", .meth "House" "unlike"]
def xcs : List Str := ["TurnError", "NoMachine", "NoState", "NoLetter", "NoRow", "NoNumber", "NoFit", "NoMirror", "NoPaper", "TooMany", "TooLong", "NoName", "Standing", "Full", "NoMark"]
def xfl : List Str := ["most", "name", "number"]
def xin : List (Str × Str) := [("NoName", "name"), ("Standing", "name"), ("Full", "most"), ("NoMark", "number")]
def xf (K : PySem.W.Frag) : Bool := xtB K xcs && ((xcs.all fun c => xfl.all fun f => He.eqO (PySem.W.findIn K (gaV K c) f) (some none)) && ((xin.all fun p => ocB K p.1 p.2) && (tiB K && xmB K xcs)))
structure Bd (K : PySem.W.Frag) (mg : Str → Option Value) : Prop where
  ex : ∃ h : Heap, K.In h ∧ h.Ns mainGlobals mg
  c : He.SaysD fa fn K
  x : xf K = true
theorem Bd.xt {K : PySem.W.Frag} {mg : Str → Option Value} (B : Bd K mg) : xtB K xcs = true := (He.ba B.x).1
theorem Bd.ti {K : PySem.W.Frag} {mg : Str → Option Value} (B : Bd K mg) : tiB K = true := (He.ba (He.ba (He.ba (He.ba B.x).2).2).2).1
theorem Bd.xm {K : PySem.W.Frag} {mg : Str → Option Value} (B : Bd K mg) : xmB K xcs = true := (He.ba (He.ba (He.ba (He.ba B.x).2).2).2).2
theorem Bd.oc {K : PySem.W.Frag} {mg : Str → Option Value} (B : Bd K mg) {c f : Str} (h : (c, f) ∈ xin) : OC K c f := ocB_ok (List.all_eq_true.mp (He.ba (He.ba (He.ba B.x).2).2).1 (c, f) h)
theorem Bd.no {K : PySem.W.Frag} {mg : Str → Option Value} (B : Bd K mg) {f : Str} (h : f ∈ xfl) : ∀ c ∈ xcs, PySem.W.findIn K (gaV K c) f = some none := fun c hc => He.eqO_ok (List.all_eq_true.mp (List.all_eq_true.mp (He.ba (He.ba B.x).2).1 c hc) f h)
section
variable {K : PySem.W.Frag} {mg : Str → Option Value}
theorem mg_wall (B : Bd K mg) : mg "_wall" = some (.ref (He.fAd K ("_wall", none))) := by
  obtain ⟨h, XK, G⟩ := B.ex
  exact He.glo_ok XK G (B.c.fact 0 (f := .glo "_wall") rfl)
theorem mg_is_whole (B : Bd K mg) : mg "is_whole" = some (.ref (He.fAd K ("is_whole", none))) := by
  obtain ⟨h, XK, G⟩ := B.ex
  exact He.glo_ok XK G (B.c.fact 1 (f := .glo "is_whole") rfl)
theorem mg_is_letters (B : Bd K mg) : mg "is_letters" = some (.ref (He.fAd K ("is_letters", none))) := by
  obtain ⟨h, XK, G⟩ := B.ex
  exact He.glo_ok XK G (B.c.fact 2 (f := .glo "is_letters") rfl)
theorem mg_is_letter (B : Bd K mg) : mg "is_letter" = some (.ref (He.fAd K ("is_letter", none))) := by
  obtain ⟨h, XK, G⟩ := B.ex
  exact He.glo_ok XK G (B.c.fact 3 (f := .glo "is_letter") rfl)
theorem mg_need_letter (B : Bd K mg) : mg "need_letter" = some (.ref (He.fAd K ("need_letter", none))) := by
  obtain ⟨h, XK, G⟩ := B.ex
  exact He.glo_ok XK G (B.c.fact 4 (f := .glo "need_letter") rfl)
theorem mg_is_state (B : Bd K mg) : mg "is_state" = some (.ref (He.fAd K ("is_state", none))) := by
  obtain ⟨h, XK, G⟩ := B.ex
  exact He.glo_ok XK G (B.c.fact 5 (f := .glo "is_state") rfl)
theorem mg_is_table (B : Bd K mg) : mg "is_table" = some (.ref (He.fAd K ("is_table", none))) := by
  obtain ⟨h, XK, G⟩ := B.ex
  exact He.glo_ok XK G (B.c.fact 6 (f := .glo "is_table") rfl)
theorem mg_is_machine (B : Bd K mg) : mg "is_machine" = some (.ref (He.fAd K ("is_machine", none))) := by
  obtain ⟨h, XK, G⟩ := B.ex
  exact He.glo_ok XK G (B.c.fact 7 (f := .glo "is_machine") rfl)
theorem mg_need_machine (B : Bd K mg) : mg "need_machine" = some (.ref (He.fAd K ("need_machine", none))) := by
  obtain ⟨h, XK, G⟩ := B.ex
  exact He.glo_ok XK G (B.c.fact 8 (f := .glo "need_machine") rfl)
theorem mg_need_state (B : Bd K mg) : mg "need_state" = some (.ref (He.fAd K ("need_state", none))) := by
  obtain ⟨h, XK, G⟩ := B.ex
  exact He.glo_ok XK G (B.c.fact 9 (f := .glo "need_state") rfl)
theorem mg_undoing (B : Bd K mg) : mg "undoing" = some (.ref (He.fAd K ("undoing", none))) := by
  obtain ⟨h, XK, G⟩ := B.ex
  exact He.glo_ok XK G (B.c.fact 10 (f := .glo "undoing") rfl)
theorem mg_is_row_of (B : Bd K mg) : mg "is_row_of" = some (.ref (He.fAd K ("is_row_of", none))) := by
  obtain ⟨h, XK, G⟩ := B.ex
  exact He.glo_ok XK G (B.c.fact 11 (f := .glo "is_row_of") rfl)
theorem mg_is_row (B : Bd K mg) : mg "is_row" = some (.ref (He.fAd K ("is_row", none))) := by
  obtain ⟨h, XK, G⟩ := B.ex
  exact He.glo_ok XK G (B.c.fact 12 (f := .glo "is_row") rfl)
theorem mg_need_row (B : Bd K mg) : mg "need_row" = some (.ref (He.fAd K ("need_row", none))) := by
  obtain ⟨h, XK, G⟩ := B.ex
  exact He.glo_ok XK G (B.c.fact 13 (f := .glo "need_row") rfl)
theorem mg_back_of_row (B : Bd K mg) : mg "back_of_row" = some (.ref (He.fAd K ("back_of_row", none))) := by
  obtain ⟨h, XK, G⟩ := B.ex
  exact He.glo_ok XK G (B.c.fact 14 (f := .glo "back_of_row") rfl)
theorem mg_plain_of (B : Bd K mg) : mg "plain_of" = some (.ref (He.fAd K ("plain_of", none))) := by
  obtain ⟨h, XK, G⟩ := B.ex
  exact He.glo_ok XK G (B.c.fact 15 (f := .glo "plain_of") rfl)
theorem mg_is_name (B : Bd K mg) : mg "is_name" = some (.ref (He.fAd K ("is_name", none))) := by
  obtain ⟨h, XK, G⟩ := B.ex
  exact He.glo_ok XK G (B.c.fact 16 (f := .glo "is_name") rfl)
theorem mg_law_spread (B : Bd K mg) : mg "_law_spread" = some (.ref (He.fAd K ("_law_spread", none))) := by
  obtain ⟨h, XK, G⟩ := B.ex
  exact He.glo_ok XK G (B.c.fact 17 (f := .glo "_law_spread") rfl)
theorem mg_law_open (B : Bd K mg) : mg "_law_open" = some (.ref (He.fAd K ("_law_open", none))) := by
  obtain ⟨h, XK, G⟩ := B.ex
  exact He.glo_ok XK G (B.c.fact 18 (f := .glo "_law_open") rfl)
theorem mg_law_anew (B : Bd K mg) : mg "_law_anew" = some (.ref (He.fAd K ("_law_anew", none))) := by
  obtain ⟨h, XK, G⟩ := B.ex
  exact He.glo_ok XK G (B.c.fact 19 (f := .glo "_law_anew") rfl)
theorem mg_law_take (B : Bd K mg) : mg "_law_take" = some (.ref (He.fAd K ("_law_take", none))) := by
  obtain ⟨h, XK, G⟩ := B.ex
  exact He.glo_ok XK G (B.c.fact 20 (f := .glo "_law_take") rfl)
theorem mg_law_one (B : Bd K mg) : mg "_law_one" = some (.ref (He.fAd K ("_law_one", none))) := by
  obtain ⟨h, XK, G⟩ := B.ex
  exact He.glo_ok XK G (B.c.fact 21 (f := .glo "_law_one") rfl)
theorem mg_law_drawn (B : Bd K mg) : mg "_law_drawn" = some (.ref (He.fAd K ("_law_drawn", none))) := by
  obtain ⟨h, XK, G⟩ := B.ex
  exact He.glo_ok XK G (B.c.fact 22 (f := .glo "_law_drawn") rfl)
theorem mg_law_tables (B : Bd K mg) : mg "_law_tables" = some (.ref (He.fAd K ("_law_tables", none))) := by
  obtain ⟨h, XK, G⟩ := B.ex
  exact He.glo_ok XK G (B.c.fact 23 (f := .glo "_law_tables") rfl)
theorem mg_law_renamed (B : Bd K mg) : mg "_law_renamed" = some (.ref (He.fAd K ("_law_renamed", none))) := by
  obtain ⟨h, XK, G⟩ := B.ex
  exact He.glo_ok XK G (B.c.fact 24 (f := .glo "_law_renamed") rfl)
theorem mg_law_any_machine (B : Bd K mg) : mg "_law_any_machine" = some (.ref (He.fAd K ("_law_any_machine", none))) := by
  obtain ⟨h, XK, G⟩ := B.ex
  exact He.glo_ok XK G (B.c.fact 25 (f := .glo "_law_any_machine") rfl)
theorem mg_law_machine (B : Bd K mg) : mg "_law_machine" = some (.ref (He.fAd K ("_law_machine", none))) := by
  obtain ⟨h, XK, G⟩ := B.ex
  exact He.glo_ok XK G (B.c.fact 26 (f := .glo "_law_machine") rfl)
theorem mg_law_row (B : Bd K mg) : mg "_law_row" = some (.ref (He.fAd K ("_law_row", none))) := by
  obtain ⟨h, XK, G⟩ := B.ex
  exact He.glo_ok XK G (B.c.fact 27 (f := .glo "_law_row") rfl)
theorem mg_law_told (B : Bd K mg) : mg "_law_told" = some (.ref (He.fAd K ("_law_told", none))) := by
  obtain ⟨h, XK, G⟩ := B.ex
  exact He.glo_ok XK G (B.c.fact 28 (f := .glo "_law_told") rfl)
theorem mg_law_no_machine (B : Bd K mg) : mg "_law_no_machine" = some (.ref (He.fAd K ("_law_no_machine", none))) := by
  obtain ⟨h, XK, G⟩ := B.ex
  exact He.glo_ok XK G (B.c.fact 29 (f := .glo "_law_no_machine") rfl)
theorem mg_law_long_right (B : Bd K mg) : mg "_law_long_right" = some (.ref (He.fAd K ("_law_long_right", none))) := by
  obtain ⟨h, XK, G⟩ := B.ex
  exact He.glo_ok XK G (B.c.fact 30 (f := .glo "_law_long_right") rfl)
theorem mg_law_room_right (B : Bd K mg) : mg "_law_room_right" = some (.ref (He.fAd K ("_law_room_right", none))) := by
  obtain ⟨h, XK, G⟩ := B.ex
  exact He.glo_ok XK G (B.c.fact 31 (f := .glo "_law_room_right") rfl)
theorem mg_law_marks_right (B : Bd K mg) : mg "_law_marks_right" = some (.ref (He.fAd K ("_law_marks_right", none))) := by
  obtain ⟨h, XK, G⟩ := B.ex
  exact He.glo_ok XK G (B.c.fact 32 (f := .glo "_law_marks_right") rfl)
theorem mg_law_names_right (B : Bd K mg) : mg "_law_names_right" = some (.ref (He.fAd K ("_law_names_right", none))) := by
  obtain ⟨h, XK, G⟩ := B.ex
  exact He.glo_ok XK G (B.c.fact 33 (f := .glo "_law_names_right") rfl)
theorem mg_law (B : Bd K mg) : mg "law" = some (.ref (He.fAd K ("law", none))) := by
  obtain ⟨h, XK, G⟩ := B.ex
  exact He.glo_ok XK G (B.c.fact 34 (f := .glo "law") rfl)
theorem mf_len (B : Bd K mg) : mg "len" = none := by
  obtain ⟨h, XK, G⟩ := B.ex
  exact He.free_ok XK G (B.c.fact 35 (f := .free "len") rfl)
theorem mf_list (B : Bd K mg) : mg "list" = none := by
  obtain ⟨h, XK, G⟩ := B.ex
  exact He.free_ok XK G (B.c.fact 36 (f := .free "list") rfl)
theorem mf_tuple (B : Bd K mg) : mg "tuple" = none := by
  obtain ⟨h, XK, G⟩ := B.ex
  exact He.free_ok XK G (B.c.fact 37 (f := .free "tuple") rfl)
theorem mf_range (B : Bd K mg) : mg "range" = none := by
  obtain ⟨h, XK, G⟩ := B.ex
  exact He.free_ok XK G (B.c.fact 38 (f := .free "range") rfl)
theorem mf_enumerate (B : Bd K mg) : mg "enumerate" = none := by
  obtain ⟨h, XK, G⟩ := B.ex
  exact He.free_ok XK G (B.c.fact 39 (f := .free "enumerate") rfl)
theorem mf_sum (B : Bd K mg) : mg "sum" = none := by
  obtain ⟨h, XK, G⟩ := B.ex
  exact He.free_ok XK G (B.c.fact 40 (f := .free "sum") rfl)
theorem mf_isinstance (B : Bd K mg) : mg "isinstance" = none := by
  obtain ⟨h, XK, G⟩ := B.ex
  exact He.free_ok XK G (B.c.fact 41 (f := .free "isinstance") rfl)
theorem mf_int (B : Bd K mg) : mg "int" = none := by
  obtain ⟨h, XK, G⟩ := B.ex
  exact He.free_ok XK G (B.c.fact 42 (f := .free "int") rfl)
theorem mf_repr (B : Bd K mg) : mg "repr" = none := by
  obtain ⟨h, XK, G⟩ := B.ex
  exact He.free_ok XK G (B.c.fact 43 (f := .free "repr") rfl)
theorem mf_sorted (B : Bd K mg) : mg "sorted" = none := by
  obtain ⟨h, XK, G⟩ := B.ex
  exact He.free_ok XK G (B.c.fact 44 (f := .free "sorted") rfl)
theorem mf_set (B : Bd K mg) : mg "set" = none := by
  obtain ⟨h, XK, G⟩ := B.ex
  exact He.free_ok XK G (B.c.fact 45 (f := .free "set") rfl)
theorem mf_dict (B : Bd K mg) : mg "dict" = none := by
  obtain ⟨h, XK, G⟩ := B.ex
  exact He.free_ok XK G (B.c.fact 46 (f := .free "dict") rfl)
theorem mf_zip (B : Bd K mg) : mg "zip" = none := by
  obtain ⟨h, XK, G⟩ := B.ex
  exact He.free_ok XK G (B.c.fact 47 (f := .free "zip") rfl)
theorem mf_str (B : Bd K mg) : mg "str" = none := by
  obtain ⟨h, XK, G⟩ := B.ex
  exact He.free_ok XK G (B.c.fact 48 (f := .free "str") rfl)
theorem mf_ValueError (B : Bd K mg) : mg "ValueError" = none := by
  obtain ⟨h, XK, G⟩ := B.ex
  exact He.free_ok XK G (B.c.fact 49 (f := .free "ValueError") rfl)
theorem mf_bool (B : Bd K mg) : mg "bool" = none := by
  obtain ⟨h, XK, G⟩ := B.ex
  exact He.free_ok XK G (B.c.fact 50 (f := .free "bool") rfl)
theorem mf_all (B : Bd K mg) : mg "all" = none := by
  obtain ⟨h, XK, G⟩ := B.ex
  exact He.free_ok XK G (B.c.fact 51 (f := .free "all") rfl)
theorem mf_any (B : Bd K mg) : mg "any" = none := by
  obtain ⟨h, XK, G⟩ := B.ex
  exact He.free_ok XK G (B.c.fact 52 (f := .free "any") rfl)
theorem mf_max (B : Bd K mg) : mg "max" = none := by
  obtain ⟨h, XK, G⟩ := B.ex
  exact He.free_ok XK G (B.c.fact 53 (f := .free "max") rfl)
theorem mf_min (B : Bd K mg) : mg "min" = none := by
  obtain ⟨h, XK, G⟩ := B.ex
  exact He.free_ok XK G (B.c.fact 54 (f := .free "min") rfl)
theorem mf_abs (B : Bd K mg) : mg "abs" = none := by
  obtain ⟨h, XK, G⟩ := B.ex
  exact He.free_ok XK G (B.c.fact 55 (f := .free "abs") rfl)
theorem mg_MOST_STATES (B : Bd K mg) : ∃ t, mg "MOST_STATES" = some (.int 8 t) := by
  obtain ⟨h, XK, G⟩ := B.ex
  exact He.int_ok XK G (B.c.fact 56 (f := .int "MOST_STATES" 8) rfl)
theorem mg_LONGEST_ROW (B : Bd K mg) : ∃ t, mg "LONGEST_ROW" = some (.int 16 t) := by
  obtain ⟨h, XK, G⟩ := B.ex
  exact He.int_ok XK G (B.c.fact 57 (f := .int "LONGEST_ROW" 16) rfl)
theorem mg_SMALL (B : Bd K mg) : ∃ t, mg "SMALL" = some (.str "abcdefghijklmnopqrstuvwxyz" t) := by
  obtain ⟨h, XK, G⟩ := B.ex
  exact He.str_ok XK G (B.c.fact 58 (f := .str "SMALL" "abcdefghijklmnopqrstuvwxyz") rfl)
theorem mg_MOST_NAMES (B : Bd K mg) : ∃ t, mg "MOST_NAMES" = some (.int 12 t) := by
  obtain ⟨h, XK, G⟩ := B.ex
  exact He.int_ok XK G (B.c.fact 59 (f := .int "MOST_NAMES" 12) rfl)
theorem mg_MOST_MARKS (B : Bd K mg) : ∃ t, mg "MOST_MARKS" = some (.int 6 t) := by
  obtain ⟨h, XK, G⟩ := B.ex
  exact He.int_ok XK G (B.c.fact 60 (f := .int "MOST_MARKS" 6) rfl)
theorem xi_TurnError (B : Bd K mg) : PySem.W.excIn K (He.ga K "TurnError") He.veBase "ValueError.__new__" = true := (He.exc_ok (B.c.fact 61 (f := .exc "TurnError") rfl)).1
theorem xi_NoMachine (B : Bd K mg) : PySem.W.excIn K (He.ga K "NoMachine") He.veBase "ValueError.__new__" = true := (He.exc_ok (B.c.fact 62 (f := .exc "NoMachine") rfl)).1
theorem xi_NoState (B : Bd K mg) : PySem.W.excIn K (He.ga K "NoState") He.veBase "ValueError.__new__" = true := (He.exc_ok (B.c.fact 63 (f := .exc "NoState") rfl)).1
theorem xi_NoLetter (B : Bd K mg) : PySem.W.excIn K (He.ga K "NoLetter") He.veBase "ValueError.__new__" = true := (He.exc_ok (B.c.fact 64 (f := .exc "NoLetter") rfl)).1
theorem xi_NoRow (B : Bd K mg) : PySem.W.excIn K (He.ga K "NoRow") He.veBase "ValueError.__new__" = true := (He.exc_ok (B.c.fact 65 (f := .exc "NoRow") rfl)).1
theorem xi_NoNumber (B : Bd K mg) : PySem.W.excIn K (He.ga K "NoNumber") He.veBase "ValueError.__new__" = true := (He.exc_ok (B.c.fact 66 (f := .exc "NoNumber") rfl)).1
theorem xi_NoFit (B : Bd K mg) : PySem.W.excIn K (He.ga K "NoFit") He.veBase "ValueError.__new__" = true := (He.exc_ok (B.c.fact 67 (f := .exc "NoFit") rfl)).1
theorem xi_NoMirror (B : Bd K mg) : PySem.W.excIn K (He.ga K "NoMirror") He.veBase "ValueError.__new__" = true := (He.exc_ok (B.c.fact 68 (f := .exc "NoMirror") rfl)).1
theorem xi_NoPaper (B : Bd K mg) : PySem.W.excIn K (He.ga K "NoPaper") He.veBase "ValueError.__new__" = true := (He.exc_ok (B.c.fact 69 (f := .exc "NoPaper") rfl)).1
theorem xi_TooMany (B : Bd K mg) : PySem.W.excIn K (He.ga K "TooMany") He.veBase "ValueError.__new__" = true := (He.exc_ok (B.c.fact 70 (f := .exc "TooMany") rfl)).1
theorem xi_TooLong (B : Bd K mg) : PySem.W.excIn K (He.ga K "TooLong") He.veBase "ValueError.__new__" = true := (He.exc_ok (B.c.fact 71 (f := .exc "TooLong") rfl)).1
theorem mx_TurnError (B : Bd K mg) : mg "TurnError" = some (.ref (He.ga K "TurnError")) := by
  obtain ⟨h, XK, G⟩ := B.ex
  exact He.glo_ok XK G (B.c.fact 72 (f := .glo "TurnError") rfl)
theorem xc_TurnError (B : Bd K mg) : XC K "TurnError" := xtB_cls B.xt (by decide)
theorem mx_NoMachine (B : Bd K mg) : mg "NoMachine" = some (.ref (He.ga K "NoMachine")) := by
  obtain ⟨h, XK, G⟩ := B.ex
  exact He.glo_ok XK G (B.c.fact 73 (f := .glo "NoMachine") rfl)
theorem xc_NoMachine (B : Bd K mg) : XC K "NoMachine" := xtB_cls B.xt (by decide)
theorem mx_NoState (B : Bd K mg) : mg "NoState" = some (.ref (He.ga K "NoState")) := by
  obtain ⟨h, XK, G⟩ := B.ex
  exact He.glo_ok XK G (B.c.fact 74 (f := .glo "NoState") rfl)
theorem xc_NoState (B : Bd K mg) : XC K "NoState" := xtB_cls B.xt (by decide)
theorem mx_NoLetter (B : Bd K mg) : mg "NoLetter" = some (.ref (He.ga K "NoLetter")) := by
  obtain ⟨h, XK, G⟩ := B.ex
  exact He.glo_ok XK G (B.c.fact 75 (f := .glo "NoLetter") rfl)
theorem xc_NoLetter (B : Bd K mg) : XC K "NoLetter" := xtB_cls B.xt (by decide)
theorem mx_NoRow (B : Bd K mg) : mg "NoRow" = some (.ref (He.ga K "NoRow")) := by
  obtain ⟨h, XK, G⟩ := B.ex
  exact He.glo_ok XK G (B.c.fact 76 (f := .glo "NoRow") rfl)
theorem xc_NoRow (B : Bd K mg) : XC K "NoRow" := xtB_cls B.xt (by decide)
theorem mx_NoNumber (B : Bd K mg) : mg "NoNumber" = some (.ref (He.ga K "NoNumber")) := by
  obtain ⟨h, XK, G⟩ := B.ex
  exact He.glo_ok XK G (B.c.fact 77 (f := .glo "NoNumber") rfl)
theorem xc_NoNumber (B : Bd K mg) : XC K "NoNumber" := xtB_cls B.xt (by decide)
theorem mx_NoFit (B : Bd K mg) : mg "NoFit" = some (.ref (He.ga K "NoFit")) := by
  obtain ⟨h, XK, G⟩ := B.ex
  exact He.glo_ok XK G (B.c.fact 78 (f := .glo "NoFit") rfl)
theorem xc_NoFit (B : Bd K mg) : XC K "NoFit" := xtB_cls B.xt (by decide)
theorem mx_NoMirror (B : Bd K mg) : mg "NoMirror" = some (.ref (He.ga K "NoMirror")) := by
  obtain ⟨h, XK, G⟩ := B.ex
  exact He.glo_ok XK G (B.c.fact 79 (f := .glo "NoMirror") rfl)
theorem xc_NoMirror (B : Bd K mg) : XC K "NoMirror" := xtB_cls B.xt (by decide)
theorem mx_NoPaper (B : Bd K mg) : mg "NoPaper" = some (.ref (He.ga K "NoPaper")) := by
  obtain ⟨h, XK, G⟩ := B.ex
  exact He.glo_ok XK G (B.c.fact 80 (f := .glo "NoPaper") rfl)
theorem xc_NoPaper (B : Bd K mg) : XC K "NoPaper" := xtB_cls B.xt (by decide)
theorem mx_TooMany (B : Bd K mg) : mg "TooMany" = some (.ref (He.ga K "TooMany")) := by
  obtain ⟨h, XK, G⟩ := B.ex
  exact He.glo_ok XK G (B.c.fact 81 (f := .glo "TooMany") rfl)
theorem xc_TooMany (B : Bd K mg) : XC K "TooMany" := xtB_cls B.xt (by decide)
theorem mx_TooLong (B : Bd K mg) : mg "TooLong" = some (.ref (He.ga K "TooLong")) := by
  obtain ⟨h, XK, G⟩ := B.ex
  exact He.glo_ok XK G (B.c.fact 82 (f := .glo "TooLong") rfl)
theorem xc_TooLong (B : Bd K mg) : XC K "TooLong" := xtB_cls B.xt (by decide)
theorem mx_NoName (B : Bd K mg) : mg "NoName" = some (.ref (He.ga K "NoName")) := by
  obtain ⟨h, XK, G⟩ := B.ex
  exact He.glo_ok XK G (B.c.fact 83 (f := .glo "NoName") rfl)
theorem xc_NoName (B : Bd K mg) : XC K "NoName" := xtB_cls B.xt (by decide)
theorem mx_Standing (B : Bd K mg) : mg "Standing" = some (.ref (He.ga K "Standing")) := by
  obtain ⟨h, XK, G⟩ := B.ex
  exact He.glo_ok XK G (B.c.fact 84 (f := .glo "Standing") rfl)
theorem xc_Standing (B : Bd K mg) : XC K "Standing" := xtB_cls B.xt (by decide)
theorem mx_Full (B : Bd K mg) : mg "Full" = some (.ref (He.ga K "Full")) := by
  obtain ⟨h, XK, G⟩ := B.ex
  exact He.glo_ok XK G (B.c.fact 85 (f := .glo "Full") rfl)
theorem xc_Full (B : Bd K mg) : XC K "Full" := xtB_cls B.xt (by decide)
theorem mx_NoMark (B : Bd K mg) : mg "NoMark" = some (.ref (He.ga K "NoMark")) := by
  obtain ⟨h, XK, G⟩ := B.ex
  exact He.glo_ok XK G (B.c.fact 86 (f := .glo "NoMark") rfl)
theorem xc_NoMark (B : Bd K mg) : XC K "NoMark" := xtB_cls B.xt (by decide)
theorem mo_House (B : Bd K mg) : mg "House" = some (.ref (He.ga K "House")) := by
  obtain ⟨h, XK, G⟩ := B.ex
  exact He.glo_ok XK G (B.c.fact 87 (f := .glo "House") rfl)
theorem cl_House (B : Bd K mg) : Cls K (He.ga K "House") := He.cls_ok (B.c.fact 88 (f := .cls "House") rfl)
theorem mk_House (B : Bd K mg) : Mk K (He.ga K "House") (He.fAd K ("House", some "__init__")) := He.mkr_ok (B.c.fact 89 (f := .mkr "House") rfl)
theorem na_kept (B : Bd K mg) : NoAttr K (He.ga K "House") "kept" := He.noat_ok (B.c.fact 90 (f := .noat "House" "kept") rfl)
theorem na_rows (B : Bd K mg) : NoAttr K (He.ga K "House") "rows" := He.noat_ok (B.c.fact 91 (f := .noat "House" "rows") rfl)
theorem na_held (B : Bd K mg) : NoAttr K (He.ga K "House") "held" := He.noat_ok (B.c.fact 92 (f := .noat "House" "held") rfl)
theorem mm_back (B : Bd K mg) : Meth K (He.ga K "House") "back" (He.fAd K ("House", some "back")) := He.meth_ok (B.c.fact 93 (f := .meth "House" "back") rfl)
theorem mm_doing (B : Bd K mg) : Meth K (He.ga K "House") "doing" (He.fAd K ("House", some "doing")) := He.meth_ok (B.c.fact 94 (f := .meth "House" "doing") rfl)
theorem mm_exchange (B : Bd K mg) : Meth K (He.ga K "House") "exchange" (He.fAd K ("House", some "exchange")) := He.meth_ok (B.c.fact 95 (f := .meth "House" "exchange") rfl)
theorem mm_home (B : Bd K mg) : Meth K (He.ga K "House") "home" (He.fAd K ("House", some "home")) := He.meth_ok (B.c.fact 96 (f := .meth "House" "home") rfl)
theorem mm_join (B : Bd K mg) : Meth K (He.ga K "House") "join" (He.fAd K ("House", some "join")) := He.meth_ok (B.c.fact 97 (f := .meth "House" "join") rfl)
theorem mm_kind (B : Bd K mg) : Meth K (He.ga K "House") "kind" (He.fAd K ("House", some "kind")) := He.meth_ok (B.c.fact 98 (f := .meth "House" "kind") rfl)
theorem mm_lead (B : Bd K mg) : Meth K (He.ga K "House") "lead" (He.fAd K ("House", some "lead")) := He.meth_ok (B.c.fact 99 (f := .meth "House" "lead") rfl)
theorem mm_machine (B : Bd K mg) : Meth K (He.ga K "House") "machine" (He.fAd K ("House", some "machine")) := He.meth_ok (B.c.fact 100 (f := .meth "House" "machine") rfl)
theorem mm_mark (B : Bd K mg) : Meth K (He.ga K "House") "mark" (He.fAd K ("House", some "mark")) := He.meth_ok (B.c.fact 101 (f := .meth "House" "mark") rfl)
theorem mm_marks (B : Bd K mg) : Meth K (He.ga K "House") "marks" (He.fAd K ("House", some "marks")) := He.meth_ok (B.c.fact 102 (f := .meth "House" "marks") rfl)
theorem mm_mirrored (B : Bd K mg) : Meth K (He.ga K "House") "mirrored" (He.fAd K ("House", some "mirrored")) := He.meth_ok (B.c.fact 103 (f := .meth "House" "mirrored") rfl)
theorem mm_names (B : Bd K mg) : Meth K (He.ga K "House") "names" (He.fAd K ("House", some "names")) := He.meth_ok (B.c.fact 104 (f := .meth "House" "names") rfl)
theorem mm_need (B : Bd K mg) : Meth K (He.ga K "House") "need" (He.fAd K ("House", some "need")) := He.meth_ok (B.c.fact 105 (f := .meth "House" "need") rfl)
theorem mm_need_new (B : Bd K mg) : Meth K (He.ga K "House") "need_new" (He.fAd K ("House", some "need_new")) := He.meth_ok (B.c.fact 106 (f := .meth "House" "need_new") rfl)
theorem mm_order (B : Bd K mg) : Meth K (He.ga K "House") "order" (He.fAd K ("House", some "order")) := He.meth_ok (B.c.fact 107 (f := .meth "House" "order") rfl)
theorem mm_put (B : Bd K mg) : Meth K (He.ga K "House") "put" (He.fAd K ("House", some "put")) := He.meth_ok (B.c.fact 108 (f := .meth "House" "put") rfl)
theorem mm_row (B : Bd K mg) : Meth K (He.ga K "House") "row" (He.fAd K ("House", some "row")) := He.meth_ok (B.c.fact 109 (f := .meth "House" "row") rfl)
theorem mm_set_row (B : Bd K mg) : Meth K (He.ga K "House") "set_row" (He.fAd K ("House", some "set_row")) := He.meth_ok (B.c.fact 110 (f := .meth "House" "set_row") rfl)
theorem mm_set_state (B : Bd K mg) : Meth K (He.ga K "House") "set_state" (He.fAd K ("House", some "set_state")) := He.meth_ok (B.c.fact 111 (f := .meth "House" "set_state") rfl)
theorem mm_take_out (B : Bd K mg) : Meth K (He.ga K "House") "take_out" (He.fAd K ("House", some "take_out")) := He.meth_ok (B.c.fact 112 (f := .meth "House" "take_out") rfl)
theorem mm_turn_back (B : Bd K mg) : Meth K (He.ga K "House") "turn_back" (He.fAd K ("House", some "turn_back")) := He.meth_ok (B.c.fact 113 (f := .meth "House" "turn_back") rfl)
theorem mm_unlike (B : Bd K mg) : Meth K (He.ga K "House") "unlike" (He.fAd K ("House", some "unlike")) := He.meth_ok (B.c.fact 114 (f := .meth "House" "unlike") rfl)
theorem hF_ (B : Bd K mg) : HF K := ⟨cl_House B, na_kept B, na_rows B, na_held B⟩
theorem xn_most (B : Bd K mg) : ∀ c ∈ xcs, PySem.W.findIn K (gaV K c) "most" = some none := B.no (by decide)
theorem xn_name (B : Bd K mg) : ∀ c ∈ xcs, PySem.W.findIn K (gaV K c) "name" = some none := B.no (by decide)
theorem xn_number (B : Bd K mg) : ∀ c ∈ xcs, PySem.W.findIn K (gaV K c) "number" = some none := B.no (by decide)
theorem oc_NoName (B : Bd K mg) : OC K "NoName" "name" := B.oc (by decide)
theorem sc_NoName___init__ : FnScope ["self", "name"] ["self", "name"] (defScope s_NoName___init__) := ⟨rfl, rfl, rfl, by decide +kernel, rfl, by decide +kernel, by decide +kernel⟩
noncomputable def fd_NoName___init__ (B : Bd K mg) : FuncData := (B.c.def_ 1 (d := d_NoName___init__) rfl).choose
theorem F_NoName___init__ (B : Bd K mg) : FunD K "__init__" "NoName.__init__" (defArgs s_NoName___init__) (defBody s_NoName___init__) (defScope s_NoName___init__) [] [] (He.fAd K ("NoName", some "__init__")) (fd_NoName___init__ B) := (B.c.def_ 1 (d := d_NoName___init__) rfl).choose_spec
theorem bd_NoName___init__ (B : Bd K mg) : Binds K (fd_NoName___init__ B) ["self", "name"] [] := FunD.bindsN (F_NoName___init__ B) fun _ _ _ _ _ _ us hl => match us, hl with | [_, _], _ => rfl
theorem ok_NoName___init__ (B : Bd K mg) {P : Program} {w : World} {base : Heap} : FnOk P w K mg base CX0 1 (He.fAd K ("NoName", some "__init__")) (fd_NoName___init__ B) ["self", "name"] (spIn (He.ga K "NoName") "name") := by
  refine (F_NoName___init__ B).ok sc_NoName___init__ (fun vs H Q E h => by obtain ⟨a, v, rfl, _⟩ := h; rfl) (fun cdv A outer s H vs Q E hr h => ⟨tIn K "name" "no such name", ?_, in_run (oc_NoName B) (xc_NoName B) h⟩)
  exact pss_cons (ps_expr (pe_teinit B.ti (by rfl) (mx_TurnError B) (pa_cons (pe_var (i := 0) rfl (Or.inl rfl)) (pa_cons pe_str pa_nil)))) (pss_one (ps_ost (pe_var (i := 0) rfl (Or.inl rfl)) (pe_var (i := 1) rfl (Or.inl rfl))))
theorem oc_Standing (B : Bd K mg) : OC K "Standing" "name" := B.oc (by decide)
theorem sc_Standing___init__ : FnScope ["self", "name"] ["self", "name"] (defScope s_Standing___init__) := ⟨rfl, rfl, rfl, by decide +kernel, rfl, by decide +kernel, by decide +kernel⟩
noncomputable def fd_Standing___init__ (B : Bd K mg) : FuncData := (B.c.def_ 2 (d := d_Standing___init__) rfl).choose
theorem F_Standing___init__ (B : Bd K mg) : FunD K "__init__" "Standing.__init__" (defArgs s_Standing___init__) (defBody s_Standing___init__) (defScope s_Standing___init__) [] [] (He.fAd K ("Standing", some "__init__")) (fd_Standing___init__ B) := (B.c.def_ 2 (d := d_Standing___init__) rfl).choose_spec
theorem bd_Standing___init__ (B : Bd K mg) : Binds K (fd_Standing___init__ B) ["self", "name"] [] := FunD.bindsN (F_Standing___init__ B) fun _ _ _ _ _ _ us hl => match us, hl with | [_, _], _ => rfl
theorem ok_Standing___init__ (B : Bd K mg) {P : Program} {w : World} {base : Heap} : FnOk P w K mg base CX0 1 (He.fAd K ("Standing", some "__init__")) (fd_Standing___init__ B) ["self", "name"] (spIn (He.ga K "Standing") "name") := by
  refine (F_Standing___init__ B).ok sc_Standing___init__ (fun vs H Q E h => by obtain ⟨a, v, rfl, _⟩ := h; rfl) (fun cdv A outer s H vs Q E hr h => ⟨tIn K "name" "stands already", ?_, in_run (oc_Standing B) (xc_Standing B) h⟩)
  exact pss_cons (ps_expr (pe_teinit B.ti (by rfl) (mx_TurnError B) (pa_cons (pe_var (i := 0) rfl (Or.inl rfl)) (pa_cons pe_str pa_nil)))) (pss_one (ps_ost (pe_var (i := 0) rfl (Or.inl rfl)) (pe_var (i := 1) rfl (Or.inl rfl))))
theorem oc_Full (B : Bd K mg) : OC K "Full" "most" := B.oc (by decide)
theorem sc_Full___init__ : FnScope ["self", "most"] ["self", "most"] (defScope s_Full___init__) := ⟨rfl, rfl, rfl, by decide +kernel, rfl, by decide +kernel, by decide +kernel⟩
noncomputable def fd_Full___init__ (B : Bd K mg) : FuncData := (B.c.def_ 3 (d := d_Full___init__) rfl).choose
theorem F_Full___init__ (B : Bd K mg) : FunD K "__init__" "Full.__init__" (defArgs s_Full___init__) (defBody s_Full___init__) (defScope s_Full___init__) [] [] (He.fAd K ("Full", some "__init__")) (fd_Full___init__ B) := (B.c.def_ 3 (d := d_Full___init__) rfl).choose_spec
theorem bd_Full___init__ (B : Bd K mg) : Binds K (fd_Full___init__ B) ["self", "most"] [] := FunD.bindsN (F_Full___init__ B) fun _ _ _ _ _ _ us hl => match us, hl with | [_, _], _ => rfl
theorem ok_Full___init__ (B : Bd K mg) {P : Program} {w : World} {base : Heap} : FnOk P w K mg base CX0 1 (He.fAd K ("Full", some "__init__")) (fd_Full___init__ B) ["self", "most"] (spIn (He.ga K "Full") "most") := by
  refine (F_Full___init__ B).ok sc_Full___init__ (fun vs H Q E h => by obtain ⟨a, v, rfl, _⟩ := h; rfl) (fun cdv A outer s H vs Q E hr h => ⟨tIn K "most" "no more room", ?_, in_run (oc_Full B) (xc_Full B) h⟩)
  exact pss_cons (ps_expr (pe_teinit B.ti (by rfl) (mx_TurnError B) (pa_cons (pe_var (i := 0) rfl (Or.inl rfl)) (pa_cons pe_str pa_nil)))) (pss_one (ps_ost (pe_var (i := 0) rfl (Or.inl rfl)) (pe_var (i := 1) rfl (Or.inl rfl))))
theorem oc_NoMark (B : Bd K mg) : OC K "NoMark" "number" := B.oc (by decide)
theorem sc_NoMark___init__ : FnScope ["self", "number"] ["self", "number"] (defScope s_NoMark___init__) := ⟨rfl, rfl, rfl, by decide +kernel, rfl, by decide +kernel, by decide +kernel⟩
noncomputable def fd_NoMark___init__ (B : Bd K mg) : FuncData := (B.c.def_ 4 (d := d_NoMark___init__) rfl).choose
theorem F_NoMark___init__ (B : Bd K mg) : FunD K "__init__" "NoMark.__init__" (defArgs s_NoMark___init__) (defBody s_NoMark___init__) (defScope s_NoMark___init__) [] [] (He.fAd K ("NoMark", some "__init__")) (fd_NoMark___init__ B) := (B.c.def_ 4 (d := d_NoMark___init__) rfl).choose_spec
theorem bd_NoMark___init__ (B : Bd K mg) : Binds K (fd_NoMark___init__ B) ["self", "number"] [] := FunD.bindsN (F_NoMark___init__ B) fun _ _ _ _ _ _ us hl => match us, hl with | [_, _], _ => rfl
theorem ok_NoMark___init__ (B : Bd K mg) {P : Program} {w : World} {base : Heap} : FnOk P w K mg base CX0 1 (He.fAd K ("NoMark", some "__init__")) (fd_NoMark___init__ B) ["self", "number"] (spIn (He.ga K "NoMark") "number") := by
  refine (F_NoMark___init__ B).ok sc_NoMark___init__ (fun vs H Q E h => by obtain ⟨a, v, rfl, _⟩ := h; rfl) (fun cdv A outer s H vs Q E hr h => ⟨tIn K "number" "no such mark", ?_, in_run (oc_NoMark B) (xc_NoMark B) h⟩)
  exact pss_cons (ps_expr (pe_teinit B.ti (by rfl) (mx_TurnError B) (pa_cons (pe_var (i := 0) rfl (Or.inl rfl)) (pa_cons pe_str pa_nil)))) (pss_one (ps_ost (pe_var (i := 0) rfl (Or.inl rfl)) (pe_var (i := 1) rfl (Or.inl rfl))))
end
end Hd
end

section
set_option Elab.async false
set_option linter.all false
set_option maxRecDepth 100000
set_option maxHeartbeats 1000000
set_option autoImplicit false
/-! plain things about tables, as data -/
namespace L3
open PySem PySem.Spec PyProof.Rows L2
theorem sz {n : Nat} (h : n ≤ 2000) : n ≤ sizeLine := by rw [sizeLine_eq]; omega
abbrev tI (xs : List Int) : PyData := .tuple (xs.map .int)
def rg (n : Nat) : List Int := (List.range n).map fun i => ((i : Nat) : Int)
theorem rngI_rg (n : Nat) : rngI 0 n = (rg n).map .int := by
  unfold rngI rg
  rw [List.map_map]
  refine List.map_congr_left fun i _ => ?_
  show PyData.int (0 + (i : Int)) = .int (i : Int)
  rw [Int.zero_add]
theorem rg_len (n : Nat) : (rg n).length = n := by simp [rg]
theorem rg_mem {n : Nat} {i : Int} (h : i ∈ rg n) : 0 ≤ i ∧ i < n := by
  obtain ⟨k, hk, rfl⟩ := List.mem_map.mp h
  have := List.mem_range.mp hk
  omega
/-! ints lists -/
theorem eqv_intsAll : ∀ a b : List Int, PyData.eqvAll (a.map .int) (b.map .int) = decide (a = b)
  | [], [] => by simp [PyData.eqvAll]
  | [], _ :: _ => by simp [PyData.eqvAll]
  | _ :: _, [] => by simp [PyData.eqvAll]
  | x :: a, y :: b => by
    rw [List.map_cons, List.map_cons]
    unfold PyData.eqvAll
    rw [eqv_intsAll a b]
    unfold PyData.eqv
    by_cases h : x = y
    · by_cases h2 : a = b
      · subst h h2; simp
      · simp [h, h2]
    · simp [h]
theorem eqv_ints (a b : List Int) : PyData.eqv (.list (a.map .int)) (.list (b.map .int)) = decide (a = b) := by
  unfold PyData.eqv
  exact eqv_intsAll a b
theorem lay_ints : ∀ a : List Int, PyData.canLayAll0 (a.map .int) = true ∧ PyData.depthAll (a.map .int) = 0
  | [] => ⟨rfl, rfl⟩
  | x :: a => by
    have ⟨h1, h2⟩ := lay_ints a
    simp [PyData.canLayAll0, PyData.canLay0, PyData.depthAll, PyData.depth, h1, h2]
theorem shaped_ints (a : List Int) : SeqAt.shaped (.list (a.map .int)) = true := by
  unfold SeqAt.shaped
  simp [PyData.canLay0, PyData.depth, (lay_ints a).1, (lay_ints a).2]
theorem gNe_ints (a b : List Int) : gNe (.list (a.map .int)) (.list (b.map .int)) = some (fzB (!decide (a = b))) := by
  rw [gNe_sh (fun _ _ h => by cases h.1) (shaped_ints a) (shaped_ints b), eqv_ints]
theorem gNe_int {a b : Int} : gNe (.int a) (.int b) = some (fzB (!(a == b))) := gNe_sh (fun _ _ h => by cases h.1) rfl rfl
theorem intsOf_ints : ∀ a : List Int, intsOf (a.map .int) = some a
  | [] => rfl
  | x :: a => by rw [List.map_cons]; unfold intsOf; rw [intsOf_ints a]; rfl
/-! what is a table -/
def wholeB : PyData → Bool
  | .int _ => true
  | _ => false
def letterB (L : Int) : PyData → Bool
  | .int i => decide (0 ≤ i) && decide (i < L)
  | _ => false
def permB (L : Int) (ts : List PyData) : Bool := match intsOf ts with
  | some is => decide (srtI is = rg L.toNat)
  | none => false
def state2 (L n : Int) (a b : PyData) : Bool := match a with
  | .tuple ts => (match b with
    | .tuple ns => decide ((ns.length : Int) = L) && (ts.all (letterB L) && (permB L ts && ns.all (letterB n)))
    | _ => false)
  | _ => false
def pair2 (f : PyData → PyData → Bool) : List PyData → Bool
  | [a, b] => f a b
  | _ => false
def stateB (L n : Int) : PyData → Bool
  | .tuple ds => pair2 (state2 L n) ds
  | _ => false
def lettersB : PyData → Bool
  | .int l => decide (2 ≤ l) && decide (l ≤ 4)
  | _ => false
def numD : PyData → Int
  | .int i => i
  | _ => 0
def table2 (most : Int) (l b : PyData) : Bool := lettersB l && (match b with
  | .tuple ss => (decide (1 ≤ (ss.length : Int)) && decide ((ss.length : Int) ≤ most)) && ss.all (stateB (numD l) ss.length)
  | _ => false)
def tableB (most : Int) : PyData → Bool
  | .tuple ds => pair2 (table2 most) ds
  | _ => false
def itemsD : PyData → List PyData
  | .tuple ds => ds
  | _ => []
/-- no dict, no great length, n levels deep -/
def ND : Nat → PyData → Prop
  | 0, d => isDict d = false
  | n + 1, d => isDict d = false ∧ (itemsD d).length ≤ 1000 ∧ ∀ x ∈ itemsD d, ND n x
theorem ND.nd : ∀ {n : Nat} {d : PyData}, ND n d → isDict d = false
  | 0, _, h => h
  | _ + 1, _, h => h.1
theorem ND.tup {n : Nat} {ds : List PyData} (h : ND (n + 1) (.tuple ds)) : ds.length ≤ 1000 ∧ ∀ x ∈ ds, ND n x := h.2
theorem nd_flat {d : PyData} (h : isDict d = false) (h2 : itemsD d = []) : ∀ n, ND n d
  | 0 => h
  | n + 1 => ⟨h, by rw [h2]; simp, by rw [h2]; simp⟩
theorem nd_tup {n : Nat} {ds : List PyData} (h : ds.length ≤ 1000) (h2 : ∀ x ∈ ds, ND n x) : ND (n + 1) (.tuple ds) := ⟨rfl, h, h2⟩
theorem nd_ints (n : Nat) {is : List Int} (h : is.length ≤ 1000) : ND n (tI is) := by
  cases n with
  | zero => rfl
  | succ n =>
    refine nd_tup (by simpa using h) fun x hx => ?_
    obtain ⟨i, _, rfl⟩ := List.mem_map.mp hx
    exact nd_flat rfl rfl n
def tupB : PyData → Bool
  | .tuple _ => true
  | _ => false
theorem is_of {xs : List Str} {d : PyData} {T : String} (h : isDict d = false) : gIs (gTy xs T) d = (kitB (tyD d) T).map fzB := by
  show Option.map fzB (if isDict d = true then _ else _) = _
  rw [if_neg (by rw [h]; decide)]
theorem is_tup {xs : List Str} {d : PyData} (h : isDict d = false) : gIs (gTy xs "tuple") d = some (fzB (tupB d)) := by
  rw [is_of h]
  cases d with
  | dict _ => cases h
  | none => show (kitB "NoneType" "tuple").map fzB = _; rw [show kitB "NoneType" "tuple" = some false by decide +kernel]; rfl
  | bool _ => show (kitB "bool" "tuple").map fzB = _; rw [show kitB "bool" "tuple" = some false by decide +kernel]; rfl
  | int _ => show (kitB "int" "tuple").map fzB = _; rw [show kitB "int" "tuple" = some false by decide +kernel]; rfl
  | str _ => show (kitB "str" "tuple").map fzB = _; rw [show kitB "str" "tuple" = some false by decide +kernel]; rfl
  | list _ => show (kitB "list" "tuple").map fzB = _; rw [show kitB "list" "tuple" = some false by decide +kernel]; rfl
  | tuple _ => show (kitB "tuple" "tuple").map fzB = _; rw [show kitB "tuple" "tuple" = some true by decide +kernel]; rfl
def strB : PyData → Bool
  | .str _ => true
  | _ => false
theorem is_str {xs : List Str} {d : PyData} (h : isDict d = false) : gIs (gTy xs "str") d = some (fzB (strB d)) := by
  rw [is_of h]
  cases d with
  | dict _ => cases h
  | none => show (kitB "NoneType" "str").map fzB = _; rw [show kitB "NoneType" "str" = some false by decide +kernel]; rfl
  | bool _ => show (kitB "bool" "str").map fzB = _; rw [show kitB "bool" "str" = some false by decide +kernel]; rfl
  | int _ => show (kitB "int" "str").map fzB = _; rw [show kitB "int" "str" = some false by decide +kernel]; rfl
  | str _ => show (kitB "str" "str").map fzB = _; rw [show kitB "str" "str" = some true by decide +kernel]; rfl
  | list _ => show (kitB "list" "str").map fzB = _; rw [show kitB "list" "str" = some false by decide +kernel]; rfl
  | tuple _ => show (kitB "tuple" "str").map fzB = _; rw [show kitB "tuple" "str" = some false by decide +kernel]; rfl
/-- isinstance(d, int), isinstance(d, bool) -/
def intB : PyData → Bool
  | .int _ => true
  | .bool _ => true
  | _ => false
def boolB : PyData → Bool
  | .bool _ => true
  | _ => false
theorem is_int {xs : List Str} {d : PyData} (h : isDict d = false) : gIs (gTy xs "int") d = some (fzB (intB d)) := by
  rw [is_of h]
  cases d with
  | dict _ => cases h
  | none => show (kitB "NoneType" "int").map fzB = _; rw [show kitB "NoneType" "int" = some false by decide +kernel]; rfl
  | bool _ => show (kitB "bool" "int").map fzB = _; rw [show kitB "bool" "int" = some true by decide +kernel]; rfl
  | int _ => show (kitB "int" "int").map fzB = _; rw [show kitB "int" "int" = some true by decide +kernel]; rfl
  | str _ => show (kitB "str" "int").map fzB = _; rw [show kitB "str" "int" = some false by decide +kernel]; rfl
  | list _ => show (kitB "list" "int").map fzB = _; rw [show kitB "list" "int" = some false by decide +kernel]; rfl
  | tuple _ => show (kitB "tuple" "int").map fzB = _; rw [show kitB "tuple" "int" = some false by decide +kernel]; rfl
theorem is_bool {xs : List Str} {d : PyData} (h : isDict d = false) : gIs (gTy xs "bool") d = some (fzB (boolB d)) := by
  rw [is_of h]
  cases d with
  | dict _ => cases h
  | none => show (kitB "NoneType" "bool").map fzB = _; rw [show kitB "NoneType" "bool" = some false by decide +kernel]; rfl
  | bool _ => show (kitB "bool" "bool").map fzB = _; rw [show kitB "bool" "bool" = some true by decide +kernel]; rfl
  | int _ => show (kitB "int" "bool").map fzB = _; rw [show kitB "int" "bool" = some false by decide +kernel]; rfl
  | str _ => show (kitB "str" "bool").map fzB = _; rw [show kitB "str" "bool" = some false by decide +kernel]; rfl
  | list _ => show (kitB "list" "bool").map fzB = _; rw [show kitB "list" "bool" = some false by decide +kernel]; rfl
  | tuple _ => show (kitB "tuple" "bool").map fzB = _; rw [show kitB "tuple" "bool" = some false by decide +kernel]; rfl
end L3
end

section
set_option Elab.async false
set_option linter.all false
set_option autoImplicit false
namespace L3
/-! lists without repeats below a number -/
theorem nodup_le : ∀ (n : Nat) (l : List Nat), l.Nodup → (∀ x ∈ l, x < n) → l.length ≤ n
  | 0, l, _, h => by
    cases l with
    | nil => simp
    | cons a l => exact absurd (h a (by simp)) (by omega)
  | n + 1, l, hd, h => by
    have h1 := nodup_le n (l.erase n) (hd.erase n) fun x hx => by
      have := h x (List.mem_of_mem_erase hx)
      have ne : x ≠ n := fun e => by
        subst e
        exact (List.Nodup.not_mem_erase hd) hx
      omega
    by_cases m : n ∈ l
    · have := List.length_erase_of_mem m
      omega
    · rw [List.erase_of_not_mem m] at h1
      omega
theorem perm_range : ∀ (n : Nat) (l : List Nat), l.Nodup → (∀ x ∈ l, x < n) → l.length = n → l.Perm (List.range n)
  | 0, l, _, _, e => by
    cases l with
    | nil => exact .refl _
    | cons a l => cases e
  | n + 1, l, hd, h, e => by
    have m : n ∈ l := by
      apply Classical.byContradiction
      intro m
      have := nodup_le n l hd fun x hx => by
        have := h x hx
        have ne : x ≠ n := fun e => m (e ▸ hx)
        omega
      omega
    have h1 := perm_range n (l.erase n) (hd.erase n) (fun x hx => by
      have := h x (List.mem_of_mem_erase hx)
      have ne : x ≠ n := fun e => by
        subst e
        exact (List.Nodup.not_mem_erase hd) hx
      omega) (by rw [List.length_erase_of_mem m, e]; rfl)
    rw [List.range_succ]
    exact ((List.perm_cons_erase m).trans (h1.cons n)).trans (List.perm_append_singleton n (List.range n)).symm
end L3
end

section
set_option autoImplicit true
set_option Elab.async false
set_option linter.all false
set_option maxRecDepth 100000
set_option maxHeartbeats 0
namespace Hd
open PySem PySem.Spec PyProof.Rows L2 L3
/-! promises of the program's defs about houses -/
def m_is_whole : M3 := fun sls Q E => ∃ d, sls = [.fz d] ∧ isDict d = false ∧ Q (.fz (.bool (wholeB d))) [.un]
def m_is_letters : M3 := fun sls Q E => ∃ d, sls = [.fz d] ∧ isDict d = false ∧ Q (.fz (.bool (lettersB d))) [.un]
def m_is_letter : M3 := fun sls Q E => ∃ (L : Int) (d : PyData), sls = [.fz (.int L), .fz d] ∧ isDict d = false ∧ Q (.fz (.bool (letterB L d))) [.un, .un]
def m_is_state : M3 := fun sls Q E => ∃ (L n : Int) (d : PyData), sls = [.fz (.int L), .fz (.int n), .fz d] ∧ 0 ≤ L ∧ L ≤ 1000 ∧ ND 2 d ∧ Q (.fz (.bool (stateB L n d))) [.un, .un, .un]
def m_is_table : M3 := fun sls Q E => ∃ (most : Int) (d : PyData), sls = [.fz d, .fz (.int most)] ∧ ND 4 d ∧ Q (.fz (.bool (tableB most d))) [.un, .un]
def m_is_machine : M3 := fun sls Q E => ∃ d, sls = [.fz d] ∧ ND 4 d ∧ Q (.fz (.bool (tableB 8 d))) [.un]
def xNoMachine : Er := ⟨"NoMachine", none⟩
def m_need_machine : M3 := fun sls Q E => ∃ d, sls = [.fz d] ∧ ND 4 d ∧ (tableB 8 d = true → Q (.fz .none) [.un]) ∧ (tableB 8 d = false → E xNoMachine [.un])
def m_House___init__ : M3 := fun sls Q E => ∃ d, sls = [.ow .ni, .fz d] ∧ ND 4 d ∧ (tableB 8 d = true → Q (.fz .none) [.ow (.hs d [] []), .un]) ∧ (tableB 8 d = false → E xNoMachine [.ow .ni, .un])
def SMALLs : Str := "abcdefghijklmnopqrstuvwxyz"
def nameB : PyData → Bool
  | .str z => (decide (1 ≤ (z.length : Int)) && decide ((z.length : Int) ≤ 8)) && z.cps.toList.all fun c => decide (c ∈ SMALLs.cps.toList)
  | _ => false
def lenB : PyData → Bool
  | .str z => decide (z.length ≤ 1000)
  | _ => true
def NmD (d : PyData) : Prop := isDict d = false ∧ lenB d = true
def m_is_name : M3 := fun sls Q E => ∃ d, sls = [.fz d] ∧ NmD d ∧ Q (.fz (.bool (nameB d))) [.un]
def hasB (r : DKs) : PyData → Bool
  | .str z => (kval r (.inr z)).isSome
  | _ => false
def xNoName (d : PyData) : Er := ⟨"NoName", some ("name", d)⟩
def xStanding (d : PyData) : Er := ⟨"Standing", some ("name", d)⟩
def xFull (n : Int) : Er := ⟨"Full", some ("most", .int n)⟩
def xNoRow : Er := ⟨"NoRow", none⟩
def xTooLong : Er := ⟨"TooLong", none⟩
def m_House_need_new : M3 := fun sls Q E => ∃ k r h d, sls = [.ow (.hs k r h), .fz d] ∧ NmD d ∧ (nameB d = false → E (xNoName d) [.ow (.hs k r h), .un]) ∧ (nameB d = true → hasB r d = true → E (xStanding d) [.ow (.hs k r h), .un]) ∧ (nameB d = true → hasB r d = false → Q (.fz .none) [.ow (.hs k r h), .un])
def m_House_need : M3 := fun sls Q E => ∃ k r h d, sls = [.ow (.hs k r h), .fz d] ∧ NmD d ∧ (nameB d = false ∨ hasB r d = false → E (xNoName d) [.ow (.hs k r h), .un]) ∧ (∀ z v, d = .str z → nameB d = true → kval r (.inr z) = some v → Q (.fz v) [.ow (.hs k r h), .un])
def m_House_set_row : M3 := fun sls Q E => ∃ k r h z d, sls = [.ow (.hs k r h), .fz (.str z), .fz d] ∧ r.length ≤ 12 ∧ (r.length = 12 → E (xFull 12) [.ow (.hs k r h), .un, .un]) ∧ (r.length ≠ 12 → Q (.fz .none) [.ow (.hs k (kput r (.inr z) d) h), .un, .un])
def signB (n : Int) : PyData → Bool
  | .int i => decide (-n ≤ i) && decide (i < n)
  | _ => false
def rowB (n : Int) : PyData → Bool
  | .tuple ds => !decide (16 < (ds.length : Int)) && ds.all (signB n)
  | _ => false
def lenT : PyData → Int
  | .tuple ss => ss.length
  | _ => 0
def stN2 : List PyData → Int
  | [_, b] => lenT b
  | _ => 0
def stN : PyData → Int
  | .tuple ds => stN2 ds
  | _ => 0
def m_is_row_of : M3 := fun sls Q E => ∃ (n : Int) (d : PyData), sls = [.fz (.int n), .fz d] ∧ ND 1 d ∧ Q (.fz (.bool (rowB n d))) [.un, .un]
def m_is_row : M3 := fun sls Q E => ∃ m d, sls = [.fz m, .fz d] ∧ ND 4 m ∧ ND 1 d ∧ (tableB 8 m = true → Q (.fz (.bool (rowB (stN m) d))) [.un, .un]) ∧ (tableB 8 m = false → E xNoMachine [.un, .un])
def m_need_row : M3 := fun sls Q E => ∃ m d, sls = [.fz m, .fz d] ∧ ND 4 m ∧ ND 1 d ∧ tableB 8 m = true ∧ (rowB (stN m) d = true → Q (.fz .none) [.un, .un]) ∧ (rowB (stN m) d = false → E xNoRow [.un, .un])
def newE (r : DKs) (d : PyData) : Option Er := if nameB d = false then some (xNoName d) else if hasB r d = true then some (xStanding d) else none
def needE (r : DKs) (d : PyData) : Er ⊕ PyData := match d with
  | .str z => if nameB (.str z) = false then .inl (xNoName d) else (match kval r (.inr z) with
    | some v => .inr v
    | none => .inl (xNoName d))
  | d => .inl (xNoName d)
def keyN : PyData → L2.Key
  | .str z => .inr z
  | _ => .inl 0
def setE (r : DKs) (nd d : PyData) : Er ⊕ DKs := if r.length = 12 then .inl (xFull 12) else .inr (kput r (keyN nd) d)
def putE (k : PyData) (r : DKs) (nd d : PyData) : Er ⊕ DKs := match newE r nd with
  | some e => .inl e
  | none => if rowB (stN k) d = false then .inl xNoRow else setE r nd d
def catD (a b : PyData) : List PyData := itemsD a ++ itemsD b
def joinE (r : DKs) (nd a b : PyData) : Er ⊕ DKs := match newE r nd with
  | some e => .inl e
  | none => (match needE r a with
    | .inl e => .inl e
    | .inr x => (match needE r b with
      | .inl e => .inl e
      | .inr y => if 16 < ((catD x y).length : Int) then .inl xTooLong else setE r nd (.tuple (catD x y))))
def plStep (acc : List Int) (s : Int) : List Int := if acc.getLast? = some (-1 - s) then acc.dropLast else acc ++ [s]
def plainI (is : List Int) : List Int := is.foldl plStep []
def intsD (d : PyData) : List Int := (intsOf (itemsD d)).getD []
def backI (is : List Int) : List Int := is.reverse.map fun i => -1 - i
def turnE (r : DKs) (nd a : PyData) : Er ⊕ DKs := match newE r nd with
  | some e => .inl e
  | none => (match needE r a with
    | .inl e => .inl e
    | .inr x => setE r nd (tI (plainI (backI (intsD x)))))
/-- what a deed leaves -/
def fin3 (k : PyData) (r : DKs) (h : List PyData) (n : Nat) (o : Er ⊕ DKs) (Q : Rs → List Sl → Prop) (E : Er → List Sl → Prop) : Prop := match o with
  | .inl e => E e (.ow (.hs k r h) :: List.replicate n .un)
  | .inr r' => Q (.fz .none) (.ow (.hs k r' h) :: List.replicate n .un)
def RowsD (r : DKs) : Prop := ∀ p ∈ r, ∃ is : List Int, p.2 = tI is ∧ is.length ≤ 16
def m_House_put : M3 := fun sls Q E => ∃ k r h nd d, sls = [.ow (.hs k r h), .fz nd, .fz d] ∧ NmD nd ∧ ND 4 k ∧ tableB 8 k = true ∧ ND 1 d ∧ r.length ≤ 12 ∧ fin3 k r h 2 (putE k r nd d) Q E
def m_House_join : M3 := fun sls Q E => ∃ k r h nd a b, sls = [.ow (.hs k r h), .fz nd, .fz a, .fz b] ∧ NmD nd ∧ NmD a ∧ NmD b ∧ RowsD r ∧ r.length ≤ 12 ∧ fin3 k r h 3 (joinE r nd a b) Q E
def m_undoing : M3 := fun sls Q E => ∃ i : Int, sls = [.fz (.int i)] ∧ Q (.fz (.int (-1 - i))) [.un]
def m_plain_of : M3 := fun sls Q E => ∃ is : List Int, sls = [.fz (tI is)] ∧ is.length ≤ 1000 ∧ Q (.fz (tI (plainI is))) [.un]
def m_back_of_row : M3 := fun sls Q E => ∃ is : List Int, sls = [.fz (tI is)] ∧ is.length ≤ 1000 ∧ Q (.fz (tI (backI is))) [.un]
def m_House_turn_back : M3 := fun sls Q E => ∃ k r h nd a, sls = [.ow (.hs k r h), .fz nd, .fz a] ∧ NmD nd ∧ NmD a ∧ RowsD r ∧ r.length ≤ 12 ∧ fin3 k r h 2 (turnE r nd a) Q E
def heldD (H : List (PyData × DKs)) : List PyData := H.map fun q => .tuple [q.1, dkD q.2]
def m_House_mark : M3 := fun sls Q E => ∃ k r H, sls = [.ow (.hs k r (heldD H))] ∧ H.length ≤ 6 ∧ (H.length = 6 → E (xFull 6) [.ow (.hs k r (heldD H))]) ∧ (H.length ≠ 6 → Q (.fz (.int (H.length : Nat))) [.ow (.hs k r (heldD (H ++ [(k, r)])))])
def m_House_back : M3 := fun sls Q E => ∃ k r H d, sls = [.ow (.hs k r (heldD H)), .fz d] ∧ H.length ≤ 6 ∧ isDict d = false ∧ (∀ (i : Nat) q, d = .int (i : Nat) → H[i]? = some q → Q (.fz .none) [.ow (.hs q.1 q.2 (heldD (H.take (i + 1)))), .un]) ∧
  ((∀ i : Nat, d = .int (i : Nat) → H[i]? = none) → E ⟨"NoMark", some ("number", d)⟩ [.ow (.hs k r (heldD H)), .un])
def m_House_take_out : M3 := fun sls Q E => ∃ k r h d, sls = [.ow (.hs k r h), .fz d] ∧ NmD d ∧ (nameB d = false ∨ hasB r d = false → E (xNoName d) [.ow (.hs k r h), .un]) ∧ (∀ z v, d = .str z → nameB d = true → kval r (.inr z) = some v → Q (.fz .none) [.ow (.hs k (kdrop r (.inr z)) h), .un])
def m_House_names : M3 := fun sls Q E => ∃ k r h ks, sls = [.ow (.hs k r h)] ∧ r.map (·.1) = ks.map Sum.inr ∧ ks.length < 64 ∧ ∀ ys : List Str, ys.Perm ks → sortedS ys = true → Q (.nw (.ls (ys.map .str))) [.ow (.hs k r h)]
def m_House_marks : M3 := fun sls Q E => ∃ k r h, sls = [.ow (.hs k r h)] ∧ h.length ≤ 1000 ∧ Q (.nw (.ls (rngI 0 h.length))) [.ow (.hs k r h)]
def m_House_machine : M3 := fun sls Q E => ∃ k r h, sls = [.ow (.hs k r h)] ∧ Q (.fz k) [.ow (.hs k r h)]
/-! machines -/
structure Mc where
  L : Int
  st : List (List Int × List Int)
def stD (s : List Int × List Int) : PyData := .tuple [tI s.1, tI s.2]
def Mc.d (m : Mc) : PyData := .tuple [.int m.L, .tuple (m.st.map stD)]
structure Mc.ok (m : Mc) : Prop where
  l2 : 2 ≤ m.L
  l4 : m.L ≤ 4
  s1 : 1 ≤ m.st.length
  s8 : m.st.length ≤ 8
  s : ∀ s ∈ m.st, s.1.Perm (rg m.L.toNat) ∧ (s.2.length : Int) = m.L ∧ ∀ i ∈ s.2, 0 ≤ i ∧ i < m.st.length
def m_need_state : M3 := fun sls Q E => ∃ (m : Mc) (d : PyData), sls = [.fz m.d, .fz d] ∧ isDict d = false ∧ (letterB m.st.length d = true → Q (.fz .none) [.un, .un]) ∧ (letterB m.st.length d = false → E ⟨"NoState", none⟩ [.un, .un])
def m_need_letter : M3 := fun sls Q E => ∃ (L : Int) (d : PyData), sls = [.fz (.int L), .fz d] ∧ isDict d = false ∧ (letterB L d = true → Q (.fz .none) [.un, .un]) ∧ (letterB L d = false → E ⟨"NoLetter", none⟩ [.un, .un])
def Mc.setS (m : Mc) (i : Nat) (s : List Int × List Int) : Mc := ⟨m.L, m.st.set i s⟩
def m_House_set_state : M3 := fun sls Q E => ∃ (m : Mc) (r : DKs) (h : List PyData) (i : Nat) (ts ns : List Int), sls = [.ow (.hs m.d r h), .fz (.int (i : Nat)), .fz (tI ts), .fz (tI ns)] ∧ i < m.st.length ∧ m.st.length ≤ 8 ∧ Q (.fz .none) [.ow (.hs (m.setS i (ts, ns)).d r h), .un, .un, .un]
def swp (ts : List Int) (a b : Nat) : List Int := (ts.set a (ts.getD b 0)).set b (ts.getD a 0)
def m_House_exchange : M3 := fun sls Q E => ∃ (m : Mc) (r : DKs) (h : List PyData) (i a b : Nat) (s : List Int × List Int), sls = [.ow (.hs m.d r h), .fz (.int (i : Nat)), .fz (.int (a : Nat)), .fz (.int (b : Nat))] ∧ m.ok ∧ m.st[i]? = some s ∧ (a : Int) < m.L ∧ (b : Int) < m.L ∧ Q (.fz .none) [.ow (.hs (m.setS i (swp s.1 a b, s.2)).d r h), .un, .un, .un]
def m_House_lead : M3 := fun sls Q E => ∃ (m : Mc) (r : DKs) (h : List PyData) (i a : Nat) (j : Int) (s : List Int × List Int), sls = [.ow (.hs m.d r h), .fz (.int (i : Nat)), .fz (.int (a : Nat)), .fz (.int j)] ∧ m.ok ∧ m.st[i]? = some s ∧ (a : Int) < m.L ∧ 0 ≤ j ∧ j < m.st.length ∧ Q (.fz .none) [.ow (.hs (m.setS i (s.1, s.2.set a j)).d r h), .un, .un, .un]
/-- N: 0 thing -/
def t_is_whole : RS := (rRet (eAnd (pOne (gIs (gTy xcs "int")) (rN 0)) (eNot (pOne (gIs (gTy xcs "bool")) (rN 0)))))
/-- N: 0 thing -/
def t_is_letters : RS := (rRet (eAnd (eCall 1 m_is_whole (bC (rN 0) bN)) (eChain gLe gLe (rC (.int 2)) (rN 0) (rC (.int 4)))))
/-- N: 0 letters, 1 thing -/
def t_is_letter : RS := (rRet (eAnd (eCall 1 m_is_whole (bC (rN 1) bN)) (eChain gLe gLt (rC (.int 0)) (rN 1) (rN 0))))
/-- N: 0 letters, 1 many, 2 thing, 3 turns, 4 nexts, 5 state, 6 letter -/
def t_is_state : RS := (rSeq (rIf (cOr (cNot (cV (pOne (gIs (gTy xcs "tuple")) (rN 2)))) (cV (pBin gNe (pOne gLen (rN 2)) (rC (.int 2))))) (rRet (rC (.bool false))) rNext) (rSeq (rAsg (rN 2) (gTup' 2 (gCons' (gN 3) (gCons' (gN 4) gNil')))) (rSeq (rIf (cOr (cNot (cV (pOne (gIs (gTy xcs "tuple")) (rN 3)))) (cOr (cNot (cV (pOne (gIs (gTy xcs "tuple")) (rN 4)))) (cV (pBin gNe (pOne gLen (rN 4)) (rN 0))))) (rRet (rC (.bool false))) rNext) (rSeq (rIf (cOr (cNot (cV (pOne gAll (eLc (iSeq (rN 3)) [6] (gN 6) cYes (eCall 2 m_is_letter (bC (rN 0) (bC (rN 6) bN))))))) (cV (pBin gNe (pOne gSorted (rN 3)) (eLRng (rN 0))))) (rRet (rC (.bool false))) rNext) (rRet (pOne gAll (eLc (iSeq (rN 4)) [5] (gN 5) cYes (eAnd (eCall 1 m_is_whole (bC (rN 5) bN)) (eChain gLe gLt (rC (.int 0)) (rN 5) (rN 1))))))))))
/-- N: 0 thing, 1 most, 2 letters, 3 states, 4 state -/
def t_is_table : RS := (rSeq (rIf (cOr (cNot (cV (pOne (gIs (gTy xcs "tuple")) (rN 0)))) (cOr (cV (pBin gNe (pOne gLen (rN 0)) (rC (.int 2)))) (cNot (cV (eCall 1 m_is_letters (bC (pBin gIx (rN 0) (rC (.int 0))) bN)))))) (rRet (rC (.bool false))) rNext) (rSeq (rAsg (rN 0) (gTup' 2 (gCons' (gN 2) (gCons' (gN 3) gNil')))) (rSeq (rIf (cOr (cNot (cV (pOne (gIs (gTy xcs "tuple")) (rN 3)))) (cNot (cV (eChain gLe gLe (rC (.int 1)) (pOne gLen (rN 3)) (rN 1))))) (rRet (rC (.bool false))) rNext) (rRet (pOne gAll (eLc (iSeq (rN 3)) [4] (gN 4) cYes (eCall 3 m_is_state (bC (rN 2) (bC (pOne gLen (rN 3)) (bC (rN 4) bN))))))))))
/-- N: 0 thing -/
def t_is_machine : RS := (rRet (eCall 2 m_is_table (bC (rN 0) (bC (rC (.int 8)) bN))))
/-- N: 0 machine -/
def t_need_machine : RS := (rIf (cNot (cV (eCall 1 m_is_machine (bC (rN 0) bN)))) (rRai "NoMachine") rNext)
/-- N: 0 self, 1 machine -/
def t_House___init__ : RS := (rSeq (rDrop (eCall 1 m_need_machine (bC (rN 1) bN))) (rHInit 0 1))
/-- N: 0 thing, 1 sign -/
def t_is_name : RS := (rRet (eAnd (pOne (gIs (gTy xcs "str")) (rN 0)) (eAnd (eChain gLe gLe (rC (.int 1)) (pOne gLen (rN 0)) (rC (.int 8))) (pOne gAll (eLc (iSeq (rN 0)) [1] (gN 1) cYes (pBin gInS (rN 1) (rC (.str "abcdefghijklmnopqrstuvwxyz"))))))))
/-- N: 0 self, 1 name -/
def t_House_need_new : RS := (rSeq (rIf (cNot (cV (eCall 1 m_is_name (bC (rN 1) bN)))) (rRai1 "NoName" "name" (rN 1)) rNext) (rIf (cHIn false 0 (rN 1)) (rRai1 "Standing" "name" (rN 1)) rNext))
/-- N: 0 self, 1 name -/
def t_House_need : RS := (rSeq (rIf (cOr (cNot (cV (eCall 1 m_is_name (bC (rN 1) bN)))) (cHIn true 0 (rN 1))) (rRai1 "NoName" "name" (rN 1)) rNext) (rRet (eHGet 0 1)))
/-- N: 0 self, 1 name, 2 row -/
def t_House_set_row : RS := (rSeq (rIf (cV (pBin gEq (eHLR 0) (rC (.int 12)))) (rRai1 "Full" "most" (rC (.int 12))) rNext) (rAsg (rN 2) (gHPut 0 1)))
/-- N: 0 many, 1 thing, 2 sign -/
def t_is_row_of : RS := (rSeq (rIf (cOr (cNot (cV (pOne (gIs (gTy xcs "tuple")) (rN 1)))) (cV (pBin gGt (pOne gLen (rN 1)) (rC (.int 16))))) (rRet (rC (.bool false))) rNext) (rRet (pOne gAll (eLc (iSeq (rN 1)) [2] (gN 2) cYes (eAnd (eCall 1 m_is_whole (bC (rN 2) bN)) (eChain gLe gLt (eUn gNeg (rN 0)) (rN 2) (rN 0)))))))
/-- N: 0 machine, 1 thing -/
def t_is_row : RS := (rSeq (rDrop (eCall 1 m_need_machine (bC (rN 0) bN))) (rRet (eCall 2 m_is_row_of (bC (pOne gLen (pBin gIx (rN 0) (rC (.int 1)))) (bC (rN 1) bN)))))
/-- N: 0 machine, 1 row -/
def t_need_row : RS := (rIf (cNot (cV (eCall 2 m_is_row (bC (rN 0) (bC (rN 1) bN))))) (rRai "NoRow") rNext)
/-- N: 0 self, 1 name, 2 row -/
def t_House_put : RS := (rSeq (rDrop (eMeth 2 0 m_House_need_new (bC (rN 1) bN))) (rSeq (rDrop (eCall 2 m_need_row (bC (eHK 0) (bC (rN 2) bN)))) (rDrop (eMeth 3 0 m_House_set_row (bC (rN 1) (bC (rN 2) bN))))))
/-- N: 0 self, 1 name, 2 one, 3 other, 4 row -/
def t_House_join : RS := (rSeq (rDrop (eMeth 2 0 m_House_need_new (bC (rN 1) bN))) (rSeq (rSet 4 (eMeth 2 0 m_House_need (bC (rN 2) bN))) (rSeq (rSet 4 (pBin gAdd (rN 4) (eMeth 2 0 m_House_need (bC (rN 3) bN)))) (rSeq (rIf (cV (pBin gGt (pOne gLen (rN 4)) (rC (.int 16)))) (rRai "TooLong") rNext) (rDrop (eMeth 3 0 m_House_set_row (bC (rN 1) (bC (rN 4) bN))))))))
/-- N: 0 sign -/
def t_undoing : RS := (rRet (pBin gSub (eUn gNeg (rC (.int 1))) (rN 0)))
/-- N: 0 row, 1 found, 2 sign -/
def t_plain_of : RS := (rSeq (rSet 1 (eLst aN)) (rSeq (rFor (iSeq (rN 0)) (gN 2) (rIf (cAnd (cV (pBin gNe (rN 1) (eLst aN))) (cV (pBin gEq (pBin gIx (rN 1) (eUn gNeg (rC (.int 1)))) (eCall 1 m_undoing (bC (rN 2) bN))))) (rDrop (eMt gPop 1 aN)) (rDrop (eMt gAppend 1 (aC (rN 2) aN))))) (rRet (pOne gTuple (rN 1)))))
/-- N: 0 row, 1 sign -/
def t_back_of_row : RS := (rRet (pOne gTuple (eLc (iSeq (eRev (rN 0))) [1] (gN 1) cYes (eCall 1 m_undoing (bC (rN 1) bN)))))
/-- N: 0 self, 1 name, 2 one -/
def t_House_turn_back : RS := (rSeq (rDrop (eMeth 2 0 m_House_need_new (bC (rN 1) bN))) (rDrop (eMeth 3 0 m_House_set_row (bC (rN 1) (bC (eCall 1 m_plain_of (bC (eCall 1 m_back_of_row (bC (eMeth 2 0 m_House_need (bC (rN 2) bN)) bN)) bN)) bN)))))
/-- N: 0 self -/
def t_House_mark : RS := (rSeq (rIf (cV (pBin gEq (eHLH 0) (rC (.int 6)))) (rRai1 "Full" "most" (rC (.int 6))) rNext) (rSeq (rHMark 0) (rRet (pBin gSub (eHLH 0) (rC (.int 1))))))
/-- N: 0 self, 1 number, 2 rows -/
def t_House_back : RS := (rSeq (rIf (cOr (cNot (cV (eCall 1 m_is_whole (bC (rN 1) bN)))) (cNot (cV (eChain gLe gLt (rC (.int 0)) (rN 1) (eHLH 0))))) (rRai1 "NoMark" "number" (rN 1)) rNext) (rSeq (rHCut 0 1) (rSeq (rAsg (eHHeld 0 1) (gTup' 2 (gCons' (gHK 0) (gCons' (gN 2) gNil')))) (rHRows 0 (eDDict 2)))))
/-- N: 0 self, 1 name, 2 rows -/
def t_House_take_out : RS := (rSeq (rDrop (eMeth 2 0 m_House_need (bC (rN 1) bN))) (rSeq (rSet 2 (eHDict 0)) (rSeq (rDrop (eKPop 2 1)) (rHRows 0 (rN 2)))))
/-- N: 0 self -/
def t_House_names : RS := (rRet (eHSort 0))
/-- N: 0 self -/
def t_House_marks : RS := (rRet (eLRng (eHLH 0)))
/-- N: 0 self -/
def t_House_machine : RS := (rRet (eHK 0))
/-- N: 0 machine, 1 state -/
def t_need_state : RS := (rIf (cOr (cNot (cV (eCall 1 m_is_whole (bC (rN 1) bN)))) (cNot (cV (eChain gLe gLt (rC (.int 0)) (rN 1) (pOne gLen (pBin gIx (rN 0) (rC (.int 1)))))))) (rRai "NoState") rNext)
/-- N: 0 letters, 1 thing -/
def t_need_letter : RS := (rIf (cNot (cV (eCall 2 m_is_letter (bC (rN 0) (bC (rN 1) bN))))) (rRai "NoLetter") rNext)
/-- N: 0 self, 1 state, 2 turns, 3 nexts, 4 letters, 5 states -/
def t_House_set_state : RS := (rSeq (rAsg (eHK 0) (gTup' 2 (gCons' (gN 4) (gCons' (gN 5) gNil')))) (rAsg (eTup (aC (rN 4) (aC (pBin gAdd (pBin gAdd (eSl gSl (rN 5) oN (oS (rN 1))) (eTup (aC (eTup (aC (rN 2) (aC (rN 3) aN))) aN))) (eSl gSl (rN 5) (oS (pBin gAdd (rN 1) (rC (.int 1)))) oN)) aN))) (gHK 0)))
/-- N: 0 self, 1 state, 2 one, 3 other, 4 row, 5 turns, 6 nexts -/
def t_House_exchange : RS := (rSeq (rDrop (eCall 2 m_need_state (bC (eHK 0) (bC (rN 1) bN)))) (rSeq (rDrop (eCall 2 m_need_letter (bC (pBin gIx (eHK 0) (rC (.int 0))) (bC (rN 2) bN)))) (rSeq (rDrop (eCall 2 m_need_letter (bC (pBin gIx (eHK 0) (rC (.int 0))) (bC (rN 3) bN)))) (rSeq (rAsg (pBin gIx (pBin gIx (eHK 0) (rC (.int 1))) (rN 1)) (gTup' 2 (gCons' (gN 5) (gCons' (gN 6) gNil')))) (rSeq (rSet 4 (pOne gList (rN 5))) (rSeq (rAsg (eTup (aC (pBin gIx (rN 5) (rN 3)) (aC (pBin gIx (rN 5) (rN 2)) aN))) (gTup' 2 (gCons' (gSubL 4 (rN 2)) (gCons' (gSubL 4 (rN 3)) gNil')))) (rDrop (eMeth 4 0 m_House_set_state (bC (rN 1) (bC (pOne gTuple (rN 4)) (bC (rN 6) bN)))))))))))
/-- N: 0 self, 1 state, 2 letter, 3 next_state, 4 turns, 5 nexts -/
def t_House_lead : RS := (rSeq (rDrop (eCall 2 m_need_state (bC (eHK 0) (bC (rN 1) bN)))) (rSeq (rDrop (eCall 2 m_need_letter (bC (pBin gIx (eHK 0) (rC (.int 0))) (bC (rN 2) bN)))) (rSeq (rDrop (eCall 2 m_need_state (bC (eHK 0) (bC (rN 3) bN)))) (rSeq (rAsg (pBin gIx (pBin gIx (eHK 0) (rC (.int 1))) (rN 1)) (gTup' 2 (gCons' (gN 4) (gCons' (gN 5) gNil')))) (rDrop (eMeth 4 0 m_House_set_state (bC (rN 1) (bC (rN 4) (bC (pBin gAdd (pBin gAdd (eSl gSl (rN 5) oN (oS (rN 2))) (eTup (aC (rN 3) aN))) (eSl gSl (rN 5) (oS (pBin gAdd (rN 2) (rC (.int 1)))) oN)) bN)))))))))
end Hd
end

section
set_option Elab.async false
set_option linter.all false
set_option maxRecDepth 100000
set_option maxHeartbeats 0
set_option autoImplicit false
namespace Hd
open PySem PySem.Spec PyProof.Rows L2 L3
theorem pl_is_whole : ∀ sls Q E, m_is_whole sls Q E → mBody [] 1 0 t_is_whole sls Q E := by
  rintro sls Q E ⟨d, rfl, hd, q⟩
  refine ⟨_, _, rfl, is_int hd, _, rfl, ?_⟩
  cases d with
  | int i =>
    refine ⟨_, _, rfl, is_bool hd, _, rfl, q⟩
  | bool b => exact ⟨_, _, rfl, is_bool hd, _, rfl, q⟩
  | none => exact q
  | str _ => exact q
  | list _ => exact q
  | tuple _ => exact q
  | dict _ => cases hd
theorem pl_is_letters : ∀ sls Q E, m_is_letters sls Q E → mBody [] 1 0 t_is_letters sls Q E := by
  rintro sls Q E ⟨d, rfl, hd, q⟩
  refine ⟨rfl, by simp [brs], d, rfl, hd, _, rfl, ?_⟩
  cases d with
  | int i =>
    refine ⟨decide (2 ≤ i), rfl, ?_⟩
    cases h : decide (2 ≤ i) with
    | true =>
      refine ⟨_, rfl, ?_⟩
      have : lettersB (.int i) = decide (i ≤ 4) := by show (decide (2 ≤ i) && decide (i ≤ 4)) = _; rw [h, Bool.true_and]
      rw [this] at q
      exact q
    | false =>
      have : lettersB (.int i) = false := by show (decide (2 ≤ i) && decide (i ≤ 4)) = _; rw [h, Bool.false_and]
      rw [this] at q
      exact q
  | none => exact q
  | bool _ => exact q
  | str _ => exact q
  | list _ => exact q
  | tuple _ => exact q
  | dict _ => cases hd
theorem pl_is_letter : ∀ sls Q E, m_is_letter sls Q E → mBody [] 2 0 t_is_letter sls Q E := by
  rintro sls Q E ⟨L, d, rfl, hd, q⟩
  refine ⟨rfl, by simp [brs], d, rfl, hd, _, rfl, ?_⟩
  cases d with
  | int i =>
    refine ⟨decide (0 ≤ i), rfl, ?_⟩
    cases h : decide (0 ≤ i) with
    | true =>
      refine ⟨_, rfl, ?_⟩
      have : letterB L (.int i) = decide (i < L) := by show (decide (0 ≤ i) && decide (i < L)) = _; rw [h, Bool.true_and]
      rw [this] at q
      exact q
    | false =>
      have : letterB L (.int i) = false := by show (decide (0 ≤ i) && decide (i < L)) = _; rw [h, Bool.false_and]
      rw [this] at q
      exact q
  | none => exact q
  | bool _ => exact q
  | str _ => exact q
  | list _ => exact q
  | tuple _ => exact q
  | dict _ => cases hd
theorem boolsOf_mapB (f : PyData → Bool) (ds : List PyData) : boolsOf (ds.map fun d => .bool (f d)) = some (ds.map f) := by
  have := boolsOf_map (ds.map f)
  rw [List.map_map] at this
  exact this
theorem gAll_map (f : PyData → Bool) (ds : List PyData) : gAll (.list (ds.map fun d => .bool (f d))) = some (fzB (ds.all f)) := by
  show (boolsOf _).map _ = _
  rw [boolsOf_mapB]
  simp
theorem ints_of_letters {L : Int} : ∀ {ts : List PyData}, ts.all (letterB L) = true → ∃ is : List Int, ts = is.map .int
  | [], _ => ⟨[], rfl⟩
  | d :: ds, h => by
    rw [List.all_cons, Bool.and_eq_true] at h
    obtain ⟨is, e⟩ := ints_of_letters h.2
    cases d with
    | int i => exact ⟨i :: is, by rw [e]; rfl⟩
    | none => cases h.1
    | bool _ => cases h.1
    | str _ => cases h.1
    | list _ => cases h.1
    | tuple _ => cases h.1
    | dict _ => cases h.1
theorem eq_len {α : Type} {l : List α} {n : Nat} : (!(((l.length : Nat) : Int) == ((n : Nat) : Int))) = !decide (l.length = n) := by
  by_cases h : l.length = n
  · rw [h]; simp
  · have : ¬ ((l.length : Int) = (n : Int)) := by omega
    simp [h, this]
theorem whole_chain {L : Int} (d : PyData) {K : Bool → Prop} : True := trivial
theorem pl_is_state : ∀ sls Q E, m_is_state sls Q E → mBody [] 3 4 t_is_state sls Q E := by
  rintro sls Q E ⟨L, n, d, rfl, L0, L1, hd, q⟩
  refine ⟨_, _, rfl, is_tup hd.nd, _, rfl, ?_⟩
  cases d with
  | none => exact q
  | bool _ => exact q
  | int _ => exact q
  | str _ => exact q
  | list _ => exact q
  | dict _ => cases hd.1
  | tuple ds =>
    refine ⟨_, _, rfl, rfl, _, _, _, rfl, rfl, gNe_int, _, rfl, ?_⟩
    match ds, hd, q with
    | [], hd, q => exact q
    | [_], hd, q => exact q
    | a :: b :: c :: ds, hd, q =>
      rw [show (!(((a :: b :: c :: ds).length : Nat) : Int) == 2) = true from by
        have : ¬ (((a :: b :: c :: ds).length : Nat) : Int) = 2 := by simp only [List.length_cons]; omega
        simp only [Bool.not_eq_true', beq_eq_false_iff_ne]; exact this]
      exact q
    | [a, b], hd, q =>
      obtain ⟨h1, h2⟩ := hd.tup
      have ha := h2 a (by simp)
      have hb := h2 b (by simp)
      refine ⟨_, rfl, rfl, _, _, rfl, _, _, rfl, rfl, ?_⟩
      refine ⟨_, _, rfl, is_tup ha.nd, _, rfl, ?_⟩
      cases a with
      | none => exact q
      | bool _ => exact q
      | int _ => exact q
      | str _ => exact q
      | list _ => exact q
      | dict _ => cases ha.1
      | tuple ts =>
        refine ⟨_, _, rfl, is_tup hb.nd, _, rfl, ?_⟩
        cases b with
        | none => exact q
        | bool _ => exact q
        | int _ => exact q
        | str _ => exact q
        | list _ => exact q
        | dict _ => cases hb.1
        | tuple ns =>
          obtain ⟨t1, t2⟩ := ha.tup
          obtain ⟨n1, n2⟩ := hb.tup
          refine ⟨_, _, rfl, rfl, _, _, _, rfl, rfl, gNe_int, _, rfl, ?_⟩
          have eN : (!(((ns.length : Nat) : Int) == L)) = !decide ((ns.length : Int) = L) := by
            by_cases h : (ns.length : Int) = L <;> simp [h]
          rw [eN]
          by_cases hn : (ns.length : Int) = L
          · rw [decide_eq_true hn]
            -- all letters
            refine ⟨ts, rfl, rfl, ?_⟩
            refine rComp_map (fun d => .bool (letterB L d)) _ _ _ (fun d hd R P hR => ?_) (by simp only [List.length_nil]; exact sz (by omega)) ?_
            · exact ⟨rfl, by simp [brs], L, d, rfl, (t2 d hd).nd, hR _ rfl⟩
            rw [List.nil_append]
            refine ⟨_, _, rfl, gAll_map _ _, _, rfl, ?_⟩
            have eS : stateB L n (.tuple [.tuple ts, .tuple ns]) = (ts.all (letterB L) && (permB L ts && ns.all (letterB n))) := by
              show (decide ((ns.length : Int) = L) && _) = _
              rw [decide_eq_true hn, Bool.true_and]
            rw [eS] at q
            cases hl : ts.all (letterB L) with
            | false => rw [hl] at q; exact q
            | true =>
              rw [hl, Bool.true_and] at q
              obtain ⟨is, rfl⟩ := ints_of_letters hl
              refine ⟨_, _, rfl, show (intsOf (is.map .int)).map _ = some _ by rw [intsOf_ints]; rfl, ?_⟩
              refine ⟨L, rfl, by omega, by omega, ?_⟩
              rw [rngI_rg]
              refine ⟨_, _, _, rfl, rfl, gNe_ints _ _, _, rfl, ?_⟩
              have eP : permB L (is.map .int) = decide (srtI is = rg L.toNat) := by
                unfold permB
                rw [intsOf_ints]
              rw [eP] at q
              cases hp : decide (srtI is = rg L.toNat) with
              | false => rw [hp] at q; exact q
              | true =>
                rw [hp, Bool.true_and] at q
                refine ⟨ns, rfl, rfl, ?_⟩
                refine rComp_map (fun d => .bool (letterB n d)) _ _ _ (fun d hd R P hR => ?_) (by simp only [List.length_nil]; exact sz (by omega)) ?_
                · refine ⟨rfl, by simp [brs], d, rfl, (n2 d hd).nd, _, rfl, ?_⟩
                  cases d with
                  | int i =>
                    refine ⟨decide (0 ≤ i), rfl, ?_⟩
                    have e0 : letterB n (.int i) = (decide (0 ≤ i) && decide (i < n)) := rfl
                    have hR' : ∀ b, letterB n (.int i) = b → ∀ e3, wipeS .un e3 [5] = _ → R (.bool b) e3 := fun b hb e3 he => by
                      have := hR e3 he
                      rw [hb] at this
                      exact this
                    cases h : decide (0 ≤ i) with
                    | true => exact ⟨_, rfl, hR' _ (by rw [e0, h, Bool.true_and]) _ rfl⟩
                    | false => exact hR' _ (by rw [e0, h, Bool.false_and]) _ rfl
                  | none => exact hR _ rfl
                  | bool _ => exact hR _ rfl
                  | str _ => exact hR _ rfl
                  | list _ => exact hR _ rfl
                  | tuple _ => exact hR _ rfl
                  | dict _ => cases (n2 _ hd).nd
                rw [List.nil_append]
                exact ⟨_, _, rfl, gAll_map _ _, q⟩
          · rw [decide_eq_false hn]
            have eS : stateB L n (.tuple [.tuple ts, .tuple ns]) = false := by
              show (decide ((ns.length : Int) = L) && _) = _
              rw [decide_eq_false hn, Bool.false_and]
            rw [eS] at q
            exact q
end Hd
end

section
set_option Elab.async false
set_option linter.all false
set_option maxRecDepth 100000
set_option maxHeartbeats 0
set_option autoImplicit false
namespace Hd
open PySem PySem.Spec PyProof.Rows L2 L3
theorem len2 (ds : List PyData) : (∃ a b, ds = [a, b] ∧ (!(((ds.length : Nat) : Int) == 2)) = false) ∨ ((∀ f, pair2 f ds = false) ∧ (!(((ds.length : Nat) : Int) == 2)) = true) := by
  match ds with
  | [] => exact .inr ⟨fun _ => rfl, rfl⟩
  | [_] => exact .inr ⟨fun _ => rfl, rfl⟩
  | [a, b] => exact .inl ⟨a, b, rfl, rfl⟩
  | a :: b :: c :: ds =>
    refine .inr ⟨fun _ => rfl, ?_⟩
    have : ¬ (((a :: b :: c :: ds).length : Nat) : Int) = 2 := by simp only [List.length_cons]; omega
    simp only [Bool.not_eq_true', beq_eq_false_iff_ne]
    exact this
theorem pl_is_table : ∀ sls Q E, m_is_table sls Q E → mBody [] 2 3 t_is_table sls Q E := by
  rintro sls Q E ⟨most, d, rfl, hd, q⟩
  refine ⟨_, _, rfl, is_tup hd.nd, _, rfl, ?_⟩
  cases d with
  | none => exact q
  | bool _ => exact q
  | int _ => exact q
  | str _ => exact q
  | list _ => exact q
  | dict _ => cases hd.1
  | tuple ds =>
    refine ⟨_, _, rfl, rfl, _, _, _, rfl, rfl, gNe_int, _, rfl, ?_⟩
    have eT : tableB most (.tuple ds) = pair2 (table2 most) ds := rfl
    rw [eT] at q
    rcases len2 ds with ⟨l, b, rfl, e⟩ | ⟨h, e⟩
    · rw [e]
      obtain ⟨_, h2⟩ := hd.tup
      have hl := h2 l (by simp)
      have hb := h2 b (by simp)
      refine ⟨_, _, _, rfl, rfl, rfl, rfl, by simp [brs], l, rfl, hl.nd, _, rfl, ?_⟩
      have eT2 : pair2 (table2 most) [l, b] = table2 most l b := rfl
      rw [eT2] at q
      unfold table2 at q
      cases hL : lettersB l with
      | false => rw [hL] at q; exact q
      | true =>
        rw [hL, Bool.true_and] at q
        refine ⟨_, rfl, rfl, _, _, rfl, _, _, rfl, rfl, ?_⟩
        refine ⟨_, _, rfl, is_tup hb.nd, _, rfl, ?_⟩
        cases b with
        | none => exact q
        | bool _ => exact q
        | int _ => exact q
        | str _ => exact q
        | list _ => exact q
        | dict _ => cases hb.1
        | tuple ss =>
          obtain ⟨s1, s2⟩ := hb.tup
          have q : Q (.fz (.bool ((decide (1 ≤ (ss.length : Int)) && decide ((ss.length : Int) ≤ most)) && ss.all (stateB (numD l) ss.length)))) [.un, .un] := q
          refine ⟨_, _, rfl, rfl, decide (1 ≤ (ss.length : Int)), rfl, ?_⟩
          cases h1 : decide (1 ≤ (ss.length : Int)) with
          | false =>
            rw [show ((decide (1 ≤ (ss.length : Int)) && decide ((ss.length : Int) ≤ most)) && ss.all (stateB (numD l) ss.length)) = false from by rw [h1]; rfl] at q
            exact ⟨_, rfl, q⟩
          | true =>
            refine ⟨_, rfl, _, rfl, ?_⟩
            cases h2 : decide ((ss.length : Int) ≤ most) with
            | false =>
              rw [show ((decide (1 ≤ (ss.length : Int)) && decide ((ss.length : Int) ≤ most)) && ss.all (stateB (numD l) ss.length)) = false from by rw [h1, h2]; rfl] at q
              exact q
            | true =>
              rw [show ((decide (1 ≤ (ss.length : Int)) && decide ((ss.length : Int) ≤ most)) && ss.all (stateB (numD l) ss.length)) = ss.all (stateB (numD l) ss.length) from by rw [h1, h2]; rfl] at q
              have hnum : ∃ i : Int, l = .int i ∧ 2 ≤ i ∧ i ≤ 4 := by
                cases l with
                | int i =>
                  have z : (decide (2 ≤ i) && decide (i ≤ 4)) = true := hL
                  rw [Bool.and_eq_true, decide_eq_true_eq, decide_eq_true_eq] at z
                  exact ⟨i, rfl, z.1, z.2⟩
                | none => cases hL
                | bool _ => cases hL
                | str _ => cases hL
                | list _ => cases hL
                | tuple _ => cases hL
                | dict _ => cases hL
              obtain ⟨L, rfl, L0, L1⟩ := hnum
              refine ⟨ss, rfl, rfl, ?_⟩
              refine rComp_map (fun d => .bool (stateB L ss.length d)) _ _ _ (fun d hd R P hR => ?_) (by simp only [List.length_nil]; exact sz (by omega)) ?_
              · exact ⟨_, _, rfl, rfl, rfl, by simp [brs], L, _, d, rfl, by omega, by omega, s2 d hd, hR _ rfl⟩
              rw [List.nil_append]
              exact ⟨_, _, rfl, gAll_map _ _, q⟩
    · rw [e]
      rw [h] at q
      exact q
theorem pl_is_machine : ∀ sls Q E, m_is_machine sls Q E → mBody [] 1 0 t_is_machine sls Q E := by
  rintro sls Q E ⟨d, rfl, hd, q⟩
  exact ⟨rfl, by simp [brs], 8, d, rfl, hd, q⟩
theorem pl_need_machine : ∀ sls Q E, m_need_machine sls Q E → mBody [] 1 0 t_need_machine sls Q E := by
  rintro sls Q E ⟨d, rfl, hd, q1, q2⟩
  refine ⟨rfl, by simp [brs], d, rfl, hd, _, rfl, ?_⟩
  cases h : tableB 8 d with
  | true => exact q1 h
  | false => exact q2 h
theorem pl_House___init__ : ∀ sls Q E, m_House___init__ sls Q E → mBody [0] 2 0 t_House___init__ sls Q E := by
  rintro sls Q E ⟨d, rfl, hd, q1, q2⟩
  exact ⟨rfl, by simp [brs], d, rfl, hd, fun h => ⟨d, rfl, rfl, q1 h⟩, fun h => q2 h⟩
theorem gInS_one (c : Nat) (z : Str) : gInS (.str ⟨#[c]⟩) (.str z) = some (fzB (decide (c ∈ z.cps.toList))) := by
  show (if (⟨#[c]⟩ : Str).cps.size = 1 then some (fzB (decide ((⟨#[c]⟩ : Str).cps.getD 0 0 ∈ z.cps.toList))) else none) = _
  rw [if_pos (by rfl)]
  rfl
theorem signs_all (z : Str) : ((signD z).map fun d => match d with
    | .str a => PyData.bool (decide (a.cps.getD 0 0 ∈ SMALLs.cps.toList))
    | _ => .none) = ((z.cps.toList.map fun c => decide (c ∈ SMALLs.cps.toList))).map .bool := by
  unfold signD
  rw [List.map_map, List.map_map]
  rfl
theorem pl_is_name : ∀ sls Q E, m_is_name sls Q E → mBody [] 1 1 t_is_name sls Q E := by
  rintro sls Q E ⟨d, rfl, ⟨hd, hl⟩, q⟩
  refine ⟨_, _, rfl, is_str hd, _, rfl, ?_⟩
  cases d with
  | none => exact q
  | bool _ => exact q
  | int _ => exact q
  | list _ => exact q
  | tuple _ => exact q
  | dict _ => cases hd
  | str z =>
    have hz : z.length ≤ 1000 := of_decide_eq_true hl
    have gl : gLen (.str z) = some (fzI (z.length : Nat)) := if_pos (sz (by omega))
    refine ⟨_, _, rfl, gl, decide (1 ≤ (z.length : Int)), rfl, ?_⟩
    have eN : nameB (.str z) = ((decide (1 ≤ (z.length : Int)) && decide ((z.length : Int) ≤ 8)) && z.cps.toList.all fun c => decide (c ∈ SMALLs.cps.toList)) := rfl
    cases h1 : decide (1 ≤ (z.length : Int)) with
    | false =>
      rw [eN, h1] at q
      exact ⟨_, rfl, q⟩
    | true =>
      refine ⟨_, rfl, _, rfl, ?_⟩
      cases h2 : decide ((z.length : Int) ≤ 8) with
      | false =>
        rw [eN, h1, h2] at q
        exact q
      | true =>
        rw [eN, h1, h2] at q
        refine ⟨signD z, rfl, rfl, ?_⟩
        have hsl : (signD z).length = z.length := by simp [signD]; rfl
        refine rComp_map (fun d => match d with
          | .str a => PyData.bool (decide (a.cps.getD 0 0 ∈ SMALLs.cps.toList))
          | _ => .none) _ _ _ (fun d hd R P hR => ?_) (by rw [hsl, List.length_nil]; exact sz (by omega)) ?_
        · unfold signD at hd
          obtain ⟨c, _, rfl⟩ := List.mem_map.mp hd
          exact ⟨_, _, _, rfl, rfl, gInS_one c SMALLs, hR _ rfl⟩
        rw [List.nil_append, signs_all]
        refine ⟨_, _, rfl, show (boolsOf _).map _ = some _ by rw [boolsOf_map]; rfl, ?_⟩
        have : (List.map (fun c => decide (c ∈ SMALLs.cps.toList)) z.cps.toList).all id = z.cps.toList.all fun c => decide (c ∈ SMALLs.cps.toList) := by
          rw [List.all_map]; rfl
        show Q (.fz (.bool ((List.map (fun c => decide (c ∈ SMALLs.cps.toList)) z.cps.toList).all id))) [.un]
        rw [this]
        exact q
theorem name_str {d : PyData} (h : nameB d = true) : ∃ z, d = .str z := by
  cases d with
  | str z => exact ⟨z, rfl⟩
  | none => cases h
  | bool _ => cases h
  | int _ => cases h
  | list _ => cases h
  | tuple _ => cases h
  | dict _ => cases h
theorem pl_House_need_new : ∀ sls Q E, m_House_need_new sls Q E → mBody [0] 2 0 t_House_need_new sls Q E := by
  rintro sls Q E ⟨k, r, h, d, rfl, hd, q1, q2, q3⟩
  refine ⟨rfl, by simp [brs], d, rfl, hd, _, rfl, ?_⟩
  cases hn : nameB d with
  | false => exact q1 hn
  | true =>
    obtain ⟨z, rfl⟩ := name_str hn
    refine ⟨z, k, r, h, rfl, rfl, ?_⟩
    cases hh : (kval r (.inr z)).isSome with
    | true => exact q2 hn hh
    | false => exact q3 hn hh
theorem pl_House_need : ∀ sls Q E, m_House_need sls Q E → mBody [0] 2 0 t_House_need sls Q E := by
  rintro sls Q E ⟨k, r, h, d, rfl, hd, q1, q2⟩
  refine ⟨rfl, by simp [brs], d, rfl, hd, _, rfl, ?_⟩
  cases hn : nameB d with
  | false => exact q1 (.inl hn)
  | true =>
    obtain ⟨z, rfl⟩ := name_str hn
    refine ⟨z, k, r, h, rfl, rfl, ?_⟩
    cases hv : kval r (.inr z) with
    | none => exact q1 (.inr (by show (kval r (.inr z)).isSome = false; rw [hv]; rfl))
    | some v => exact ⟨k, r, h, z, v, rfl, rfl, hv, q2 z v rfl hn hv⟩
theorem pl_House_set_row : ∀ sls Q E, m_House_set_row sls Q E → mBody [0] 3 0 t_House_set_row sls Q E := by
  rintro sls Q E ⟨k, r, h, z, d, rfl, hl, q1, q2⟩
  refine ⟨k, r, h, rfl, _, _, _, rfl, rfl, gEq_int, _, rfl, ?_⟩
  by_cases e : r.length = 12
  · rw [show (((r.length : Nat) : Int) == 12) = true from by rw [e]; rfl]
    exact q1 e
  · rw [show (((r.length : Nat) : Int) == 12) = false from by
      have : ¬ ((r.length : Nat) : Int) = 12 := by omega
      simp only [beq_eq_false_iff_ne]; exact this]
    exact ⟨k, r, h, z, rfl, rfl, sz (by omega), q2 e⟩
end Hd
end

section
set_option Elab.async false
set_option linter.all false
set_option maxRecDepth 100000
set_option maxHeartbeats 0
set_option autoImplicit false
namespace Hd
open PySem PySem.Spec PyProof.Rows L2 L3
theorem pl_is_row_of : ∀ sls Q E, m_is_row_of sls Q E → mBody [] 2 1 t_is_row_of sls Q E := by
  rintro sls Q E ⟨n, d, rfl, hd, q⟩
  refine ⟨_, _, rfl, is_tup hd.nd, _, rfl, ?_⟩
  cases d with
  | none => exact q
  | bool _ => exact q
  | int _ => exact q
  | str _ => exact q
  | list _ => exact q
  | dict _ => cases hd.1
  | tuple ds =>
    obtain ⟨h1, h2⟩ := hd.tup
    have q : Q (.fz (.bool (!decide (16 < (ds.length : Int)) && ds.all (signB n)))) [.un, .un] := q
    refine ⟨_, _, rfl, rfl, _, _, _, rfl, rfl, rfl, _, rfl, ?_⟩
    cases hl : decide (16 < (ds.length : Int)) with
    | true => rw [hl] at q; exact q
    | false =>
      rw [hl] at q
      refine ⟨ds, rfl, rfl, ?_⟩
      refine rComp_map (fun d => .bool (signB n d)) _ _ _ (fun d hd R P hR => ?_) (by simp only [List.length_nil]; exact sz (by omega)) ?_
      · refine ⟨rfl, by simp [brs], d, rfl, (h2 d hd).nd, _, rfl, ?_⟩
        cases d with
        | int i =>
          refine ⟨_, rfl, decide (-n ≤ i), rfl, ?_⟩
          have e0 : signB n (.int i) = (decide (-n ≤ i) && decide (i < n)) := rfl
          have hR' : ∀ b, signB n (.int i) = b → ∀ e3, wipeS .un e3 [2] = _ → R (.bool b) e3 := fun b hb e3 he => by
            have := hR e3 he
            rw [hb] at this
            exact this
          cases h : decide (-n ≤ i) with
          | true => exact ⟨_, rfl, hR' _ (by rw [e0, h, Bool.true_and]) _ rfl⟩
          | false => exact hR' _ (by rw [e0, h, Bool.false_and]) _ rfl
        | none => exact hR _ rfl
        | bool _ => exact hR _ rfl
        | str _ => exact hR _ rfl
        | list _ => exact hR _ rfl
        | tuple _ => exact hR _ rfl
        | dict _ => cases (h2 _ hd).nd
      rw [List.nil_append]
      exact ⟨_, _, rfl, gAll_map _ _, q⟩
theorem table_parts {m : PyData} (h : tableB 8 m = true) : ∃ l ss, m = .tuple [.int l, .tuple ss] ∧ 2 ≤ l ∧ l ≤ 4 ∧ 1 ≤ ss.length ∧ ss.length ≤ 8 := by
  cases m with
  | tuple ds =>
    rcases len2 ds with ⟨l, b, rfl, e⟩ | ⟨hp, e⟩
    · have h : table2 8 l b = true := h
      unfold table2 at h
      rw [Bool.and_eq_true] at h
      obtain ⟨hL, h⟩ := h
      cases b with
      | tuple ss =>
        have h : ((decide (1 ≤ (ss.length : Int)) && decide ((ss.length : Int) ≤ 8)) && ss.all (stateB (numD l) ss.length)) = true := h
        rw [Bool.and_eq_true, Bool.and_eq_true, decide_eq_true_eq, decide_eq_true_eq] at h
        cases l with
        | int i =>
          have z : (decide (2 ≤ i) && decide (i ≤ 4)) = true := hL
          rw [Bool.and_eq_true, decide_eq_true_eq, decide_eq_true_eq] at z
          exact ⟨i, ss, rfl, z.1, z.2, by omega, by omega⟩
        | none => cases hL
        | bool _ => cases hL
        | str _ => cases hL
        | list _ => cases hL
        | tuple _ => cases hL
        | dict _ => cases hL
      | none => cases h
      | bool _ => cases h
      | int _ => cases h
      | str _ => cases h
      | list _ => cases h
      | dict _ => cases h
    · have h : pair2 (table2 8) ds = true := h
      rw [hp] at h
      cases h
  | none => cases h
  | bool _ => cases h
  | int _ => cases h
  | str _ => cases h
  | list _ => cases h
  | dict _ => cases h
theorem pl_is_row : ∀ sls Q E, m_is_row sls Q E → mBody [] 2 0 t_is_row sls Q E := by
  rintro sls Q E ⟨m, d, rfl, hm, hd, q1, q2⟩
  refine ⟨rfl, by simp [brs], m, rfl, hm, fun h => ?_, fun h => q2 h⟩
  have q := q1 h
  obtain ⟨l, ss, rfl, _⟩ := table_parts h
  exact ⟨_, _, _, rfl, rfl, rfl, _, _, rfl, rfl, rfl, by simp [brs], _, d, rfl, hd, q⟩
theorem pl_need_row : ∀ sls Q E, m_need_row sls Q E → mBody [] 2 0 t_need_row sls Q E := by
  rintro sls Q E ⟨m, d, rfl, hm, hd, ht, q1, q2⟩
  refine ⟨rfl, by simp [brs], m, d, rfl, hm, hd, fun _ => ⟨_, rfl, ?_⟩, fun h => by rw [ht] at h; cases h⟩
  cases h : rowB (stN m) d with
  | true => exact q1 h
  | false => exact q2 h
theorem newE_no {r : DKs} {d : PyData} (h : nameB d = false) : newE r d = some (xNoName d) := if_pos h
theorem newE_st {r : DKs} {d : PyData} (h : nameB d = true) (h2 : hasB r d = true) : newE r d = some (xStanding d) := by
  unfold newE; rw [if_neg (by rw [h]; decide), if_pos h2]
theorem newE_ok {r : DKs} {d : PyData} (h : nameB d = true) (h2 : hasB r d = false) : newE r d = none := by
  unfold newE; rw [if_neg (by rw [h]; decide), if_neg (by rw [h2]; decide)]
theorem pl_House_put : ∀ sls Q E, m_House_put sls Q E → mBody [0] 3 0 t_House_put sls Q E := by
  rintro sls Q E ⟨k, r, h, nd, d, rfl, hn, hk, ht, hd, hl, q⟩
  refine ⟨⟨k, r, h, rfl⟩, rfl, by simp [brs], k, r, h, nd, rfl, hn, fun e => ?_, fun e1 e2 => ?_, fun e1 e2 => ?_⟩
  · unfold putE at q; rw [newE_no e] at q; exact q
  · unfold putE at q; rw [newE_st e1 e2] at q; exact q
  unfold putE at q
  rw [newE_ok e1 e2] at q
  have q : fin3 k r h 2 (if rowB (stN k) d = false then .inl xNoRow else setE r nd d) Q E := q
  refine ⟨k, r, h, rfl, rfl, by simp [brs], k, d, rfl, hk, hd, ht, fun e => ?_, fun e => ?_⟩
  · rw [if_neg (by rw [e]; decide)] at q
    obtain ⟨z, rfl⟩ := name_str e1
    refine ⟨⟨k, r, h, rfl⟩, rfl, by simp [brs], k, r, h, z, d, rfl, hl, fun e => ?_, fun e => ?_⟩
    · unfold setE at q; rw [if_pos e] at q; exact q
    · unfold setE at q; rw [if_neg e] at q; exact q
  · rw [if_pos e] at q
    exact q
theorem kval_mem {k : L2.Key} {v : PyData} {r : DKs} (h : kval r k = some v) : ∃ p ∈ r, p.2 = v := by
  unfold kval at h
  cases e : r.find? fun kv => decide (kv.1 = k) with
  | none => rw [e] at h; cases h
  | some p =>
    rw [e] at h
    cases h
    exact ⟨p, List.mem_of_find?_eq_some e, rfl⟩
theorem kval_row {k : L2.Key} {v : PyData} {r : DKs} (hr : RowsD r) (h : kval r k = some v) : ∃ is : List Int, v = tI is ∧ is.length ≤ 16 := by
  obtain ⟨p, hp, rfl⟩ := kval_mem h
  exact hr p hp
theorem needE_no {r : DKs} {d : PyData} (h : nameB d = false ∨ hasB r d = false) : needE r d = .inl (xNoName d) := by
  cases d with
  | str z =>
    rcases h with h | h
    · show (if nameB (.str z) = false then Sum.inl (xNoName (.str z)) else (match kval r (.inr z) with
          | some v => .inr v
          | none => .inl (xNoName (.str z)))) = _
      rw [if_pos h]
    · show (if nameB (.str z) = false then Sum.inl (xNoName (.str z)) else (match kval r (.inr z) with
          | some v => .inr v
          | none => .inl (xNoName (.str z)))) = _
      have h : (kval r (.inr z)).isSome = false := h
      cases e : kval r (.inr z) with
      | none => split <;> rfl
      | some v => rw [e] at h; cases h
  | none => rfl
  | bool _ => rfl
  | int _ => rfl
  | list _ => rfl
  | tuple _ => rfl
  | dict _ => rfl
theorem needE_ok {r : DKs} {z : Str} {v : PyData} (h : nameB (.str z) = true) (h2 : kval r (.inr z) = some v) : needE r (.str z) = .inr v := by
  show (if nameB (.str z) = false then Sum.inl (xNoName (.str z)) else (match kval r (.inr z) with
          | some v => .inr v
          | none => .inl (xNoName (.str z)))) = _
  rw [if_neg (by rw [h]; decide), h2]
theorem pl_House_join : ∀ sls Q E, m_House_join sls Q E → mBody [0] 4 1 t_House_join sls Q E := by
  rintro sls Q E ⟨k, r, h, nd, a, b, rfl, hn, ha, hb, hr, hl, q⟩
  refine ⟨⟨k, r, h, rfl⟩, rfl, by simp [brs], k, r, h, nd, rfl, hn, fun e => ?_, fun e1 e2 => ?_, fun e1 e2 => ?_⟩
  · unfold joinE at q; rw [newE_no e] at q; exact q
  · unfold joinE at q; rw [newE_st e1 e2] at q; exact q
  unfold joinE at q
  rw [newE_ok e1 e2] at q
  obtain ⟨z, rfl⟩ := name_str e1
  refine ⟨⟨k, r, h, rfl⟩, rfl, by simp [brs], k, r, h, a, rfl, ha, fun e => ?_, fun za va ea n1 h1 => ?_⟩
  · rw [needE_no e] at q; exact q
  subst ea
  rw [needE_ok n1 h1] at q
  obtain ⟨xs, rfl, hx⟩ := kval_row hr h1
  refine ⟨⟨k, r, h, rfl⟩, rfl, by simp [brs], k, r, h, b, rfl, hb, fun e => ?_, fun zb vb eb n2 h2 => ?_⟩
  · rw [needE_no e] at q; exact q
  subst eb
  rw [needE_ok n2 h2] at q
  obtain ⟨ys, rfl, hy⟩ := kval_row hr h2
  have q : fin3 k r h 3 (if 16 < ((xs.map PyData.int ++ ys.map PyData.int).length : Int) then .inl xTooLong else setE r (.str z) (.tuple (xs.map .int ++ ys.map .int))) Q E := q
  refine ⟨_, _, _, rfl, rfl, gAdd_tp (by rw [List.length_map, List.length_map]; exact sz (by omega)), ?_⟩
  refine ⟨_, _, rfl, rfl, _, _, _, rfl, rfl, rfl, _, rfl, ?_⟩
  by_cases hz : 16 < ((xs.map PyData.int ++ ys.map PyData.int).length : Int)
  · rw [if_pos hz] at q
    rw [decide_eq_true hz]
    exact q
  · rw [if_neg hz] at q
    rw [decide_eq_false hz]
    refine ⟨⟨k, r, h, rfl⟩, rfl, by simp [brs], k, r, h, z, _, rfl, hl, fun e => ?_, fun e => ?_⟩
    · unfold setE at q; rw [if_pos e] at q; exact q
    · unfold setE at q; rw [if_neg e] at q; exact q
theorem pl_undoing : ∀ sls Q E, m_undoing sls Q E → mBody [] 1 0 t_undoing sls Q E := by
  rintro sls Q E ⟨i, rfl, q⟩
  exact ⟨_, rfl, _, _, _, rfl, rfl, rfl, q⟩
theorem pl_back_of_row : ∀ sls Q E, m_back_of_row sls Q E → mBody [] 1 1 t_back_of_row sls Q E := by
  rintro sls Q E ⟨is, rfl, hl, q⟩
  refine ⟨_, rfl, _, rfl, rfl, ?_⟩
  refine rComp_map (fun d => .int (-1 - numD d)) _ _ _ (fun d hd R P hR => ?_) (by simp only [List.length_nil, List.length_reverse, List.length_map]; exact sz (by omega)) ?_
  · obtain ⟨i, _, rfl⟩ := List.mem_map.mp (List.mem_reverse.mp hd)
    exact ⟨rfl, by simp [brs], i, rfl, hR _ rfl⟩
  rw [List.nil_append]
  refine ⟨_, _, rfl, rfl, ?_⟩
  have : List.map (fun d => PyData.int (-1 - numD d)) (List.map PyData.int is).reverse = (backI is).map .int := by
    unfold backI
    rw [← List.map_reverse, List.map_map, List.map_map]
    rfl
  rw [this]
  exact q
theorem atI_last {α : Type} {l : List α} (h : l ≠ []) : atI l (-1) = l.getLast? := by
  have hl : 0 < l.length := List.length_pos_iff.mpr h
  unfold atI ixN
  rw [if_neg (by decide)]
  rw [if_pos (by omega)]
  rw [List.getLast?_eq_getElem?]
  show l[((-1 : Int) + (l.length : Int)).toNat]? = _
  have : ((-1 : Int) + (l.length : Int)).toNat = l.length - 1 := by omega
  rw [this]
end Hd
end

section
set_option Elab.async false
set_option linter.all false
set_option maxRecDepth 100000
set_option maxHeartbeats 0
set_option autoImplicit false
namespace Hd
open PySem PySem.Spec PyProof.Rows L2 L3
theorem plain_loop {row : Sl} {D : Ed} : ∀ (is acc : List Int) (s2 : Sl), acc.length + is.length ≤ 1000 → (∀ s, D.nx [row, .ow (.ls ((is.foldl plStep acc).map .int)), s]) →
    rLoop (gN 2) (rIf (cAnd (cV (pBin gNe (rN 1) (eLst aN))) (cV (pBin gEq (pBin gIx (rN 1) (eUn gNeg (rC (.int 1)))) (eCall 1 m_undoing (bC (rN 2) bN))))) (rDrop (eMt gPop 1 aN)) (rDrop (eMt gAppend 1 (aC (rN 2) aN)))) D (is.map .int) [row, .ow (.ls (acc.map .int)), s2]
  | [], acc, s2, _, h => h s2
  | i :: is, acc, s2, hl, h => by
    rw [List.map_cons]
    rw [List.length_cons] at hl
    have app : rLoop (gN 2) (rIf (cAnd (cV (pBin gNe (rN 1) (eLst aN))) (cV (pBin gEq (pBin gIx (rN 1) (eUn gNeg (rC (.int 1)))) (eCall 1 m_undoing (bC (rN 2) bN))))) (rDrop (eMt gPop 1 aN)) (rDrop (eMt gAppend 1 (aC (rN 2) aN)))) D (is.map .int) [row, .ow (.ls ((plStep acc i).map .int)), .fz (.int i)] :=
      plain_loop is (plStep acc i) _ (by
        have : (plStep acc i).length ≤ acc.length + 1 := by
          unfold plStep
          split
          · rw [List.length_dropLast]; omega
          · simp
        omega) h
    refine ⟨sz (by simp), _, _, _, rfl, rfl, gNe_ints acc [], _, rfl, ?_⟩
    have push : acc.getLast? ≠ some (-1 - i) → (rDrop (eMt gAppend 1 (aC (rN 2) aN))) { D with nx := rLoop (gN 2) (rIf (cAnd (cV (pBin gNe (rN 1) (eLst aN))) (cV (pBin gEq (pBin gIx (rN 1) (eUn gNeg (rC (.int 1)))) (eCall 1 m_undoing (bC (rN 2) bN))))) (rDrop (eMt gPop 1 aN)) (rDrop (eMt gAppend 1 (aC (rN 2) aN)))) D (is.map .int), ct := rLoop (gN 2) (rIf (cAnd (cV (pBin gNe (rN 1) (eLst aN))) (cV (pBin gEq (pBin gIx (rN 1) (eUn gNeg (rC (.int 1)))) (eCall 1 m_undoing (bC (rN 2) bN))))) (rDrop (eMt gPop 1 aN)) (rDrop (eMt gAppend 1 (aC (rN 2) aN)))) D (is.map .int), bk := D.nx } [row, .ow (.ls (acc.map .int)), .fz (.int i)] := fun hne => by
      unfold plStep at app
      rw [if_neg hne, List.map_append] at app
      exact ⟨⟨_, rfl⟩, _, _, _, rfl, if_pos (show (acc.map PyData.int).length < sizeLine by rw [List.length_map, sizeLine_eq]; omega), app⟩
    by_cases he : acc = []
    · subst he
      exact push (by simp)
    · rw [show (!decide (acc = [])) = true from by simp [he]]
      have hla : acc.getLast? = some (acc.getLast he) := List.getLast?_eq_some_getLast he
      have hat : gIx (.list (acc.map .int)) (.int (-1)) = some (.fz (.int (acc.getLast he))) := by
        show (atI (acc.map PyData.int) (-1)).map Rs.fz = _
        rw [atI_last (by simpa using he), List.getLast?_map, hla]
        rfl
      refine ⟨_, rfl, _, _, _, rfl, rfl, hat, rfl, by simp [brs], i, rfl, _, _, _, rfl, rfl, gEq_int, _, rfl, ?_⟩
      by_cases hq : acc.getLast he = -1 - i
      · rw [show (acc.getLast he == (-1 - i)) = true from by simp [hq]]
        unfold plStep at app
        rw [if_pos (by rw [hla, hq]), List.map_dropLast] at app
        refine ⟨⟨_, rfl⟩, _, _, PyData.int (acc.getLast he), rfl, ?_, app⟩
        show ((acc.map PyData.int)[(acc.map PyData.int).length - 1]?).map _ = _
        rw [← List.getLast?_eq_getElem?, List.getLast?_map, hla]
        rfl
      · rw [show (acc.getLast he == (-1 - i)) = false from by simp [hq]]
        exact push (by rw [hla]; simpa using hq)
theorem pl_plain_of : ∀ sls Q E, m_plain_of sls Q E → mBody [] 1 2 t_plain_of sls Q E := by
  rintro sls Q E ⟨is, rfl, hl, q⟩
  refine ⟨sz (by simp), is.map .int, rfl, ?_⟩
  exact plain_loop is [] _ (by simpa using hl) fun s => ⟨_, _, rfl, rfl, q⟩
theorem intsD_tI (xs : List Int) : intsD (tI xs) = xs := by
  unfold intsD itemsD
  rw [intsOf_ints]
  rfl
theorem pl_House_turn_back : ∀ sls Q E, m_House_turn_back sls Q E → mBody [0] 3 0 t_House_turn_back sls Q E := by
  rintro sls Q E ⟨k, r, h, nd, a, rfl, hn, ha, hr, hl, q⟩
  refine ⟨⟨k, r, h, rfl⟩, rfl, by simp [brs], k, r, h, nd, rfl, hn, fun e => ?_, fun e1 e2 => ?_, fun e1 e2 => ?_⟩
  · unfold turnE at q; rw [newE_no e] at q; exact q
  · unfold turnE at q; rw [newE_st e1 e2] at q; exact q
  unfold turnE at q
  rw [newE_ok e1 e2] at q
  obtain ⟨z, rfl⟩ := name_str e1
  refine ⟨⟨k, r, h, rfl⟩, ⟨k, r, h, rfl⟩, rfl, by simp [brs], k, r, h, a, rfl, ha, fun e => ?_, fun za va ea n1 h1 => ?_⟩
  · rw [needE_no e] at q; exact q
  subst ea
  rw [needE_ok n1 h1] at q
  obtain ⟨xs, rfl, hx⟩ := kval_row hr h1
  have q : fin3 k r h 2 (setE r (.str z) (tI (plainI (backI (intsD (tI xs)))))) Q E := q
  rw [intsD_tI] at q
  have hb : (backI xs).length = xs.length := by simp [backI]
  refine ⟨rfl, by simp [brs], xs, rfl, by omega, rfl, by simp [brs], backI xs, rfl, by omega, rfl, by simp [brs], k, r, h, z, _, rfl, hl, fun e => ?_, fun e => ?_⟩
  · unfold setE at q; rw [if_pos e] at q; exact q
  · unfold setE at q; rw [if_neg e] at q; exact q
theorem heldD_len (H : List (PyData × DKs)) : (heldD H).length = H.length := by simp [heldD]
theorem pl_House_mark : ∀ sls Q E, m_House_mark sls Q E → mBody [0] 1 0 t_House_mark sls Q E := by
  rintro sls Q E ⟨k, r, H, rfl, hl, q1, q2⟩
  refine ⟨k, r, _, rfl, _, _, _, rfl, rfl, gEq_int, _, rfl, ?_⟩
  by_cases e : H.length = 6
  · rw [show ((((heldD H).length : Nat) : Int) == 6) = true from by rw [heldD_len, e]; rfl]
    exact q1 e
  · rw [show ((((heldD H).length : Nat) : Int) == 6) = false from by
      have : ¬ (((heldD H).length : Nat) : Int) = 6 := by rw [heldD_len]; omega
      simp only [beq_eq_false_iff_ne]; exact this]
    refine ⟨k, r, _, rfl, by rw [heldD_len, sizeLine_eq]; omega, _, _, _, rfl, _, _, _, rfl, rfl, rfl, ?_⟩
    have e2 : heldD H ++ [PyData.tuple [k, dkD r]] = heldD (H ++ [(k, r)]) := by simp [heldD]
    have e3 : (((heldD H ++ [PyData.tuple [k, dkD r]]).length : Nat) : Int) - 1 = (H.length : Nat) := by
      rw [e2, heldD_len, List.length_append]; simp
    show Q (.fz (.int ((((heldD H ++ [PyData.tuple [k, dkD r]]).length : Nat) : Int) - 1))) [.ow (.hs k r (heldD H ++ [PyData.tuple [k, dkD r]]))]
    rw [e3, e2]
    exact q2 e
theorem pl_House_back : ∀ sls Q E, m_House_back sls Q E → mBody [0] 2 1 t_House_back sls Q E := by
  rintro sls Q E ⟨k, r, H, d, rfl, hl, hd, q1, q2⟩
  refine ⟨rfl, by simp [brs], d, rfl, hd, _, rfl, ?_⟩
  have no : (∀ j : Int, d = .int j → ¬ (0 ≤ j ∧ j < H.length)) → E ⟨"NoMark", some ("number", d)⟩ [.ow (.hs k r (heldD H)), .un] := fun hno => q2 fun i e => by
    by_cases hi : i < H.length
    · exact absurd ⟨by omega, by omega⟩ (hno i e)
    · exact List.getElem?_eq_none (by omega)
  cases d with
  | none => exact no fun j e => by cases e
  | bool _ => exact no fun j e => by cases e
  | str _ => exact no fun j e => by cases e
  | list _ => exact no fun j e => by cases e
  | tuple _ => exact no fun j e => by cases e
  | dict _ => cases hd
  | int j =>
    refine ⟨decide (0 ≤ j), rfl, ?_⟩
    by_cases h0 : 0 ≤ j
    · rw [decide_eq_true h0]
      refine ⟨k, r, _, rfl, _, rfl, _, rfl, ?_⟩
      by_cases h1 : j < ((heldD H).length : Nat)
      · rw [decide_eq_true h1]
        rw [heldD_len] at h1
        obtain ⟨i, rfl⟩ : ∃ i : Nat, j = (i : Nat) := ⟨j.toNat, by omega⟩
        have hi : i < H.length := by omega
        have hq := q1 i H[i] rfl (List.getElem?_eq_getElem hi)
        refine ⟨k, r, _, i, rfl, rfl, by rw [heldD_len]; exact hi, ?_⟩
        have et : (heldD H).take (i + 1) = heldD (H.take (i + 1)) := by unfold heldD; rw [List.map_take]
        have ha : atI ((heldD H).take (i + 1)) (i : Nat) = some (.tuple [H[i].1, dkD H[i].2]) := by
          rw [et]
          unfold atI ixN
          rw [if_pos (by omega), if_pos (by rw [heldD_len, List.length_take]; omega)]
          show (heldD (H.take (i + 1)))[((i : Nat) : Int).toNat]? = _
          rw [Int.toNat_natCast]
          unfold heldD
          rw [List.getElem?_map, List.getElem?_take_of_lt (Nat.lt_succ_self i), List.getElem?_eq_getElem hi]
          rfl
        refine ⟨k, r, _, i, _, rfl, rfl, ha, _, rfl, rfl, _, _, rfl, ⟨k, r, _, rfl, _, _, rfl, rfl, ?_⟩⟩
        refine ⟨H[i].2, rfl, _, _, _, rfl, ?_⟩
        rw [← et] at hq
        exact hq
      · rw [decide_eq_false h1]
        rw [heldD_len] at h1
        exact no fun j' e => by cases e; exact fun z => h1 z.2
    · rw [decide_eq_false h0]
      refine ⟨_, rfl, ?_⟩
      exact no fun j' e => by cases e; exact fun z => h0 z.1
theorem pl_House_take_out : ∀ sls Q E, m_House_take_out sls Q E → mBody [0] 2 1 t_House_take_out sls Q E := by
  rintro sls Q E ⟨k, r, h, d, rfl, hd, q1, q2⟩
  refine ⟨⟨k, r, h, rfl⟩, rfl, by simp [brs], k, r, h, d, rfl, hd, fun e => q1 e, fun z v e1 e2 e3 => ?_⟩
  subst e1
  exact ⟨k, r, h, rfl, r, z, v, rfl, rfl, e3, _, k, r, h, by decide, rfl, rfl, q2 z v rfl e2 e3⟩
theorem pl_House_names : ∀ sls Q E, m_House_names sls Q E → mBody [0] 1 0 t_House_names sls Q E := by
  rintro sls Q E ⟨k, r, h, ks, rfl, h1, h2, q⟩
  exact ⟨k, r, h, ks, rfl, h1, h2, fun ys y1 y2 => q ys y1 y2⟩
theorem pl_House_marks : ∀ sls Q E, m_House_marks sls Q E → mBody [0] 1 0 t_House_marks sls Q E := by
  rintro sls Q E ⟨k, r, h, rfl, hl, q⟩
  exact ⟨k, r, h, rfl, _, rfl, by omega, by omega, q⟩
theorem pl_House_machine : ∀ sls Q E, m_House_machine sls Q E → mBody [0] 1 0 t_House_machine sls Q E := by
  rintro sls Q E ⟨k, r, h, rfl, q⟩
  exact ⟨k, r, h, rfl, q⟩
end Hd
end

section
set_option Elab.async false
set_option linter.all false
set_option maxRecDepth 100000
set_option maxHeartbeats 0
set_option autoImplicit false
namespace Hd
open PySem PySem.Spec PyProof.Rows L2 L3
theorem pl_need_state : ∀ sls Q E, m_need_state sls Q E → mBody [] 2 0 t_need_state sls Q E := by
  rintro sls Q E ⟨m, d, rfl, hd, q1, q2⟩
  refine ⟨rfl, by simp [brs], d, rfl, hd, _, rfl, ?_⟩
  cases d with
  | none => exact q2 rfl
  | bool _ => exact q2 rfl
  | str _ => exact q2 rfl
  | list _ => exact q2 rfl
  | tuple _ => exact q2 rfl
  | dict _ => cases hd
  | int j =>
    have e0 : letterB m.st.length (.int j) = (decide (0 ≤ j) && decide (j < m.st.length)) := rfl
    refine ⟨decide (0 ≤ j), rfl, ?_⟩
    by_cases h0 : 0 ≤ j
    · rw [decide_eq_true h0]
      refine ⟨_, _, _, rfl, rfl, rfl, _, _, rfl, rfl, _, rfl, _, rfl, ?_⟩
      have el : (((m.st.map stD).length : Nat) : Int) = m.st.length := by rw [List.length_map]
      by_cases h1 : j < (((m.st.map stD).length : Nat) : Int)
      · rw [decide_eq_true h1]
        exact q1 (by rw [e0, decide_eq_true h0, decide_eq_true (by omega)]; rfl)
      · rw [decide_eq_false h1]
        exact q2 (by rw [e0, decide_eq_true h0, decide_eq_false (by omega)]; rfl)
    · rw [decide_eq_false h0]
      exact ⟨_, rfl, q2 (by rw [e0, decide_eq_false h0]; rfl)⟩
theorem pl_need_letter : ∀ sls Q E, m_need_letter sls Q E → mBody [] 2 0 t_need_letter sls Q E := by
  rintro sls Q E ⟨L, d, rfl, hd, q1, q2⟩
  refine ⟨rfl, by simp [brs], L, d, rfl, hd, _, rfl, ?_⟩
  cases h : letterB L d with
  | true => exact q1 h
  | false => exact q2 h
theorem cutD_to {α : PyData → Prop} {ds : List PyData} {i : Nat} (h : i ≤ ds.length) : L3.cutD ds none (some (i : Nat)) = ds.take i := by
  unfold L3.cutD
  have e0 : HT.sIx ds.length 0 none = 0 := rfl
  have e1 : HT.sIx ds.length ds.length (some ((i : Nat) : Int)) = i := by
    show Nat.min (if ((i : Nat) : Int) < 0 then (((i : Nat) : Int) + ds.length).toNat else ((i : Nat) : Int).toNat) ds.length = i
    rw [if_neg (by omega), Int.toNat_natCast]
    exact Nat.min_eq_left h
  rw [e0, e1, List.drop_zero, Nat.sub_zero]
theorem cutD_from {ds : List PyData} {i : Nat} (h : i + 1 ≤ ds.length) : L3.cutD ds (some ((i : Nat) + 1)) none = ds.drop (i + 1) := by
  unfold L3.cutD
  have e0 : HT.sIx ds.length ds.length none = ds.length := rfl
  have e1 : HT.sIx ds.length 0 (some (((i : Nat) : Int) + 1)) = i + 1 := by
    show Nat.min (if (((i : Nat) : Int) + 1) < 0 then ((((i : Nat) : Int) + 1) + ds.length).toNat else (((i : Nat) : Int) + 1).toNat) ds.length = i + 1
    rw [if_neg (by omega)]
    have : (((i : Nat) : Int) + 1).toNat = i + 1 := by omega
    rw [this]
    exact Nat.min_eq_left h
  rw [e0, e1]
  rw [List.take_of_length_le (by rw [List.length_drop]; exact Nat.le_refl _)]
theorem set_cut {ds : List PyData} {i : Nat} {x : PyData} (h : i < ds.length) : ds.take i ++ [x] ++ ds.drop (i + 1) = ds.set i x := by
  rw [List.set_eq_take_append_cons_drop, if_pos h]
  simp
theorem pl_House_set_state : ∀ sls Q E, m_House_set_state sls Q E → mBody [0] 4 2 t_House_set_state sls Q E := by
  rintro sls Q E ⟨m, r, h, i, ts, ns, rfl, hi, hl, q⟩
  have hz := sizeLine_eq
  have hi' : i < (m.st.map stD).length := by rw [List.length_map]; exact hi
  refine ⟨m.d, r, h, rfl, _, rfl, rfl, _, _, rfl, _, _, rfl, rfl, ?_⟩
  have c1 : gSl (.tuple (m.st.map stD)) none (some ((i : Nat) : Int)) = some (.fz (.tuple ((m.st.map stD).take i))) := by
    show some (Rs.fz (.tuple (L3.cutD _ _ _))) = _
    rw [cutD_to (α := fun _ => True) (by omega)]
  have c2 : gSl (.tuple (m.st.map stD)) (some (((i : Nat) : Int) + 1)) none = some (.fz (.tuple ((m.st.map stD).drop (i + 1)))) := by
    show some (Rs.fz (.tuple (L3.cutD _ _ _))) = _
    rw [cutD_from (by omega)]
  have la : ((m.st.map stD).take i).length + [PyData.tuple [tI ts, tI ns]].length ≤ sizeLine := by
    rw [List.length_take, List.length_map, List.length_singleton]; omega
  have lb : ((m.st.map stD).take i ++ [PyData.tuple [tI ts, tI ns]]).length + ((m.st.map stD).drop (i + 1)).length ≤ sizeLine := by
    rw [List.length_append, List.length_take, List.length_drop, List.length_map, List.length_singleton]; omega
  refine ⟨_, rfl, _, c1, sz (by simp), sz (by simp), _, _, _, rfl, rfl, gAdd_tp la, _, _, _, rfl, rfl, rfl, _, rfl, _, c2, _, _, _, rfl, rfl, gAdd_tp lb, sz (by simp), m.d, r, h, rfl, ?_⟩
  have e : (m.st.map stD).take i ++ [PyData.tuple [tI ts, tI ns]] ++ (m.st.map stD).drop (i + 1) = (m.setS i (ts, ns)).st.map stD := by
    rw [set_cut hi']
    show (m.st.map stD).set i (stD (ts, ns)) = (m.st.set i (ts, ns)).map stD
    rw [List.map_set]
  rw [e]
  exact q
theorem mc_len {m : Mc} (hm : m.ok) {i : Nat} {s : List Int × List Int} (hs : m.st[i]? = some s) : (s.1.length : Int) = m.L ∧ (s.2.length : Int) = m.L ∧ i < m.st.length := by
  obtain ⟨a, b, _⟩ := hm.s s (List.mem_of_getElem? hs)
  have := hm.l2
  refine ⟨?_, b, (List.getElem?_eq_some_iff.mp hs).1⟩
  rw [a.length_eq, rg_len]
  omega
theorem gIx_st {m : Mc} {i : Nat} {s : List Int × List Int} (hs : m.st[i]? = some s) : gIx (.tuple (m.st.map stD)) (.int (i : Nat)) = some (.fz (stD s)) := by
  have hi := (List.getElem?_eq_some_iff.mp hs).1
  show (atI _ _).map Rs.fz = _
  unfold atI ixN
  rw [if_pos (by omega), if_pos (by rw [List.length_map]; omega), Int.toNat_natCast]
  show ((m.st.map stD)[i]?).map Rs.fz = _
  rw [List.getElem?_map, hs]
  rfl
theorem gIx_int {xs : List Int} {a : Nat} (h : a < xs.length) : gIx (tI xs) (.int (a : Nat)) = some (.fz (.int (xs.getD a 0))) := by
  show (atI _ _).map Rs.fz = _
  unfold atI ixN
  rw [if_pos (by omega), if_pos (by rw [List.length_map]; omega), Int.toNat_natCast]
  show ((xs.map PyData.int)[a]?).map Rs.fz = _
  rw [List.getElem?_map, List.getD_eq_getElem?_getD, List.getElem?_eq_getElem h]
  rfl
theorem ixN_nat {n a : Nat} (h : a < n) : ixN n ((a : Nat) : Int) = some a := by
  unfold ixN
  rw [if_pos (by omega), if_pos (by omega), Int.toNat_natCast]
theorem pl_House_exchange : ∀ sls Q E, m_House_exchange sls Q E → mBody [0] 4 3 t_House_exchange sls Q E := by
  rintro sls Q E ⟨m, r, h, i, a, b, s, rfl, hm, hs, ha, hb, q⟩
  obtain ⟨l1, l2, hi⟩ := mc_len hm hs
  have lt : ∀ (L : Int) (c : Nat), (c : Int) < L → letterB L (.int (c : Nat)) = true := fun L c hc => by
    show (decide (0 ≤ ((c : Nat) : Int)) && decide (((c : Nat) : Int) < L)) = true
    rw [decide_eq_true (by omega), decide_eq_true hc]; rfl
  refine ⟨m.d, r, h, rfl, rfl, by simp [brs], m, _, rfl, rfl, fun _ => ?_, fun z => by rw [lt _ _ (by omega)] at z; cases z⟩
  refine ⟨m.d, r, h, rfl, _, _, _, rfl, rfl, rfl, rfl, by simp [brs], m.L, _, rfl, rfl, fun _ => ?_, fun z => by rw [lt _ _ ha] at z; cases z⟩
  refine ⟨m.d, r, h, rfl, _, _, _, rfl, rfl, rfl, rfl, by simp [brs], m.L, _, rfl, rfl, fun _ => ?_, fun z => by rw [lt _ _ hb] at z; cases z⟩
  refine ⟨m.d, r, h, rfl, _, _, _, rfl, rfl, rfl, _, _, _, rfl, rfl, gIx_st hs, _, rfl, rfl, _, _, rfl, _, _, rfl, rfl, ?_⟩
  refine ⟨_, _, rfl, rfl, ?_⟩
  have ga := gIx_int (xs := s.1) (a := a) (by omega)
  have gb := gIx_int (xs := s.1) (a := b) (by omega)
  refine ⟨_, _, _, rfl, rfl, gb, _, _, _, rfl, rfl, ga, sz (by simp), _, rfl, rfl, _, _, rfl, ⟨_, rfl⟩, _, _, a, rfl, rfl, ixN_nat (by rw [List.length_map]; omega), _, _, rfl, ⟨_, rfl⟩, _, _, b, rfl, rfl, ixN_nat (by rw [List.length_set, List.length_map]; omega), rfl, ?_⟩
  have e : ((s.1.map PyData.int).set a (.int (s.1.getD b 0))).set b (.int (s.1.getD a 0)) = (swp s.1 a b).map .int := by
    unfold swp
    rw [List.map_set, List.map_set]
  rw [e]
  exact ⟨⟨m.d, r, h, rfl⟩, _, _, rfl, rfl, rfl, by simp [brs], m, r, h, i, swp s.1 a b, s.2, rfl, hi, hm.s8, q⟩
theorem pl_House_lead : ∀ sls Q E, m_House_lead sls Q E → mBody [0] 4 2 t_House_lead sls Q E := by
  rintro sls Q E ⟨m, r, h, i, a, j, s, rfl, hm, hs, ha, j0, j1, q⟩
  obtain ⟨l1, l2, hi⟩ := mc_len hm hs
  have hz := sizeLine_eq
  have hL := hm.l4
  have lt : ∀ (L : Int) (c : Int), 0 ≤ c → c < L → letterB L (.int c) = true := fun L c h0 hc => by
    show (decide (0 ≤ c) && decide (c < L)) = true
    rw [decide_eq_true h0, decide_eq_true hc]; rfl
  refine ⟨m.d, r, h, rfl, rfl, by simp [brs], m, _, rfl, rfl, fun _ => ?_, fun z => by rw [lt _ _ (by omega) (by omega)] at z; cases z⟩
  refine ⟨m.d, r, h, rfl, _, _, _, rfl, rfl, rfl, rfl, by simp [brs], m.L, _, rfl, rfl, fun _ => ?_, fun z => by rw [lt _ _ (by omega) ha] at z; cases z⟩
  refine ⟨m.d, r, h, rfl, rfl, by simp [brs], m, _, rfl, rfl, fun _ => ?_, fun z => by rw [lt _ _ j0 j1] at z; cases z⟩
  refine ⟨m.d, r, h, rfl, _, _, _, rfl, rfl, rfl, _, _, _, rfl, rfl, gIx_st hs, _, rfl, rfl, _, _, rfl, _, _, rfl, rfl, ?_⟩
  have ha2 : a < (s.2.map PyData.int).length := by rw [List.length_map]; omega
  have c1 : gSl (tI s.2) none (some ((a : Nat) : Int)) = some (.fz (.tuple ((s.2.map PyData.int).take a))) := by
    show some (Rs.fz (.tuple (L3.cutD _ _ _))) = _
    rw [cutD_to (α := fun _ => True) (by omega)]
  have c2 : gSl (tI s.2) (some (((a : Nat) : Int) + 1)) none = some (.fz (.tuple ((s.2.map PyData.int).drop (a + 1)))) := by
    show some (Rs.fz (.tuple (L3.cutD _ _ _))) = _
    rw [cutD_from (by omega)]
  have la : ((s.2.map PyData.int).take a).length + [PyData.int j].length ≤ sizeLine := by
    rw [List.length_take, List.length_map, List.length_singleton]; omega
  have lb : ((s.2.map PyData.int).take a ++ [PyData.int j]).length + ((s.2.map PyData.int).drop (a + 1)).length ≤ sizeLine := by
    rw [List.length_append, List.length_take, List.length_drop, List.length_map, List.length_singleton]; omega
  refine ⟨⟨m.d, r, h, rfl⟩, _, rfl, _, c1, sz (by simp), _, _, _, rfl, rfl, gAdd_tp la, _, _, _, rfl, rfl, rfl, _, rfl, _, c2, _, _, _, rfl, rfl, gAdd_tp lb, rfl, by simp [brs], ?_⟩
  have e : (s.2.map PyData.int).take a ++ [PyData.int j] ++ (s.2.map PyData.int).drop (a + 1) = (s.2.set a j).map .int := by
    rw [set_cut ha2, List.map_set]
  rw [e]
  exact ⟨m, r, h, i, s.1, s.2.set a j, rfl, hi, hm.s8, q⟩
end Hd
end

section
set_option autoImplicit true
set_option Elab.async false
set_option linter.all false
set_option maxRecDepth 100000
set_option maxHeartbeats 0
namespace Hd
open PySem PySem.Spec PyProof.Rows L2 L3
/-! promises of the law's defs -/
def tabs : List Mc := [⟨2, [([1, 0], [1, 0]), ([0, 1], [1, 1])]⟩, ⟨2, [([1, 0], [0, 1]), ([0, 1], [0, 1])]⟩, ⟨2, [([1, 0], [4, 4]), ([0, 1], [0, 2]), ([0, 1], [0, 3]), ([0, 1], [4, 1]), ([0, 1], [4, 4])]⟩,
  ⟨2, [([1, 0], [1, 2]), ([0, 1], [0, 2]), ([0, 1], [2, 2])]⟩, ⟨2, [([1, 0], [2, 1]), ([1, 0], [1, 2]), ([0, 1], [0, 0])]⟩,
  ⟨3, [([1, 2, 0], [3, 3, 3]), ([2, 0, 1], [3, 3, 3]), ([0, 1, 2], [0, 1, 2]), ([0, 1, 2], [3, 3, 3])]⟩, ⟨3, [([1, 0, 2], [3, 3, 0]), ([2, 1, 0], [3, 1, 3]), ([0, 2, 1], [2, 3, 3]), ([0, 1, 2], [3, 3, 3])]⟩,
  ⟨3, [([1, 2, 0], [1, 1, 2]), ([1, 0, 2], [2, 2, 2]), ([0, 1, 2], [2, 2, 2])]⟩, ⟨4, [([1, 0, 2, 3], [2, 2, 0, 0]), ([0, 1, 3, 2], [1, 1, 2, 2]), ([0, 1, 2, 3], [2, 2, 2, 2])]⟩]
def m_law_tables : M3 := fun sls Q E => sls = [] ∧ Q (.nw (.ls (tabs.map Mc.d))) []
abbrev natL (xs : List Nat) : PyData := .list (xs.map fun i => .int (i : Nat))
def m_law_renamed : M3 := fun sls Q E => ∃ (m : Mc) (names spots : List Nat), sls = [.fz m.d, .fz (natL names), .fz (natL spots)] ∧ m.ok ∧ names.Perm (List.range m.L.toNat) ∧ spots.Perm (List.range m.st.length) ∧ ∀ m' : Mc, m'.ok → Q (.fz m'.d) [.un, .un, .un]
def m_law_any_machine : M3 := fun sls Q E => ∃ (cs : List Int) (a z L most : Int), sls = [.ow (.pn cs a z), .fz (.int L), .fz (.int most)] ∧ 0 ≤ a ∧ a < 2 ^ 20 ∧ 2 ≤ L ∧ L ≤ 4 ∧ 1 ≤ most ∧ most ≤ 8 ∧ ∀ (m : Mc) (a' z' : Int), m.ok → a ≤ a' → a' ≤ a + 200 → Q (.fz m.d) [.ow (.pn cs a' z'), .un, .un]
def m_law_machine : M3 := fun sls Q E => ∃ (cs : List Int) (a z most : Int), sls = [.ow (.pn cs a z), .fz (.int most)] ∧ 0 ≤ a ∧ a < 2 ^ 19 ∧ 1 ≤ most ∧ most ≤ 8 ∧ ∀ (m : Mc) (a' z' : Int), m.ok → a ≤ a' → a' ≤ a + 300 → Q (.fz m.d) [.ow (.pn cs a' z'), .un]
def m_law_no_machine : M3 := fun sls Q E => ∃ d, sls = [.fz d] ∧ ND 4 d ∧ tableB 8 d = false ∧ Q (.fz (.bool true)) [.un]
def wordE (e : Er) : Str := if e.c = "Full" then (match e.g with
  | some (_, .int n) => ("full " : Str) ++ toString n
  | _ => "") else if e.c = "NoName" then "name" else if e.c = "Standing" then "standing" else if e.c = "NoRow" then "row" else "long"
def deedE (k : PyData) (r : DKs) (s : Int) (nd one : PyData) : Er ⊕ DKs := if s = 0 then putE k r nd one else if s = 1 then joinE r nd one one else turnE r nd one
def told3 (k : PyData) (r : DKs) (h : List PyData) (o : Er ⊕ DKs) (Q : Rs → List Sl → Prop) : Prop := match o with
  | .inl e => Q (.fz (.str (wordE e))) [.ow (.hs k r h), .un, .un, .un]
  | .inr r' => Q (.fz (.str "told")) [.ow (.hs k r' h), .un, .un, .un]
def m_law_told : M3 := fun sls Q E => (∃ (k : PyData) (r : DKs) (h : List PyData) (s : Int) (nd one : PyData), sls = [.ow (.hs k r h), .fz (.int s), .fz nd, .fz one] ∧ (s = 0 ∨ s = 1 ∨ s = 2) ∧ NmD nd ∧ r.length ≤ 12 ∧ RowsD r ∧ (s = 0 → ND 4 k ∧ tableB 8 k = true ∧ ND 1 one) ∧ (s ≠ 0 → NmD one) ∧ told3 k r h (deedE k r s nd one) Q) ∨
  ∃ (k : PyData) (r : DKs) (H : List (PyData × DKs)) (nd one : PyData), sls = [.ow (.hs k r (heldD H)), .fz (.int 3), .fz nd, .fz one] ∧ H.length = 6 ∧ Q (.fz (.str "full 6")) [.ow (.hs k r (heldD H)), .un, .un, .un]
def zer (n : Nat) (x : Int) : PyData := tI (List.replicate n x)
def longR (far : Nat) (x : Int) : DKs := if far < 9 then [(.inr "long", zer far x), (.inr "twice", tI (List.replicate far x ++ List.replicate far x))] else [(.inr "long", zer far x)]
def m_law_long_right : M3 := fun sls Q E => ∃ (cs : List Int) (a z : Int) (m : Mc), sls = [.ow (.pn cs a z), .ow (.hs m.d [] []), .fz (.int m.st.length)] ∧ 0 ≤ a ∧ a < 2 ^ 20 ∧ m.ok ∧ ∀ (far : Nat) (x a' z' : Int), 7 ≤ far → far ≤ 9 → a ≤ a' → a' ≤ a + 2 → Q (.fz (.bool true)) [.ow (.pn cs a' z'), .ow (.hs m.d (longR far x) []), .un]
def m_law_names_right : M3 := fun sls Q E => ∃ (m : Mc) (r : DKs), sls = [.ow (.hs m.d r [])] ∧ m.ok ∧ r.length = 12 ∧ RowsD r ∧ kval r (.inr "a") = some (tI []) ∧ kval r (.inr "most") = some (zer 16 0) ∧ kval r (.inr "new") = none ∧ kval r (.inr "never") = none ∧ Q (.fz (.bool true)) [.ow (.hs m.d r [])]
def m_law_room_right : M3 := fun sls Q E => ∃ (cs : List Int) (a z : Int) (m : Mc), sls = [.ow (.pn cs a z), .fz m.d] ∧ 0 ≤ a ∧ a < 2 ^ 20 ∧ m.ok ∧ ∀ a' z', a ≤ a' → a' ≤ a + 4 → Q (.fz (.bool true)) [.ow (.pn cs a' z'), .un]
def m_law_marks_right : M3 := fun sls Q E => ∃ (cs : List Int) (a z : Int) (m : Mc), sls = [.ow (.pn cs a z), .fz m.d] ∧ 0 ≤ a ∧ a < 2 ^ 20 ∧ m.ok ∧ ∀ a' z', Q (.fz (.bool true)) [.ow (.pn cs a' z'), .un]
abbrev m_law : M3 := mLaw 63
/-- N: 0 some, 1 swap, 2 stay, 3 rest, 4 calm -/
def t_law_tables : RS := (rSeq (rAsg (eTup (aC (eTup (aC (rC (.int 1)) (aC (rC (.int 0)) aN))) (aC (eTup (aC (rC (.int 0)) (aC (rC (.int 1)) aN))) aN))) (gTup' 2 (gCons' (gN 1) (gCons' (gN 2) gNil')))) (rSeq (rSet 0 (eLst (aC (eTup (aC (rC (.int 2)) (aC (eTup (aC (eTup (aC (rN 1) (aC (eTup (aC (rC (.int 1)) (aC (rC (.int 0)) aN))) aN))) (aC (eTup (aC (rN 2) (aC (eTup (aC (rC (.int 1)) (aC (rC (.int 1)) aN))) aN))) aN))) aN))) (aC (eTup (aC (rC (.int 2)) (aC (eTup (aC (eTup (aC (rN 1) (aC (eTup (aC (rC (.int 0)) (aC (rC (.int 1)) aN))) aN))) (aC (eTup (aC (rN 2) (aC (eTup (aC (rC (.int 0)) (aC (rC (.int 1)) aN))) aN))) aN))) aN))) aN)))) (rSeq (rDrop (eMt gAppend 0 (aC (eTup (aC (rC (.int 2)) (aC (eTup (aC (eTup (aC (rN 1) (aC (eTup (aC (rC (.int 4)) (aC (rC (.int 4)) aN))) aN))) (aC (eTup (aC (rN 2) (aC (eTup (aC (rC (.int 0)) (aC (rC (.int 2)) aN))) aN))) (aC (eTup (aC (rN 2) (aC (eTup (aC (rC (.int 0)) (aC (rC (.int 3)) aN))) aN))) (aC (eTup (aC (rN 2) (aC (eTup (aC (rC (.int 4)) (aC (rC (.int 1)) aN))) aN))) (aC (eTup (aC (rN 2) (aC (eTup (aC (rC (.int 4)) (aC (rC (.int 4)) aN))) aN))) aN)))))) aN))) aN))) (rSeq (rDrop (eMt gAppend 0 (aC (eTup (aC (rC (.int 2)) (aC (eTup (aC (eTup (aC (rN 1) (aC (eTup (aC (rC (.int 1)) (aC (rC (.int 2)) aN))) aN))) (aC (eTup (aC (rN 2) (aC (eTup (aC (rC (.int 0)) (aC (rC (.int 2)) aN))) aN))) (aC (eTup (aC (rN 2) (aC (eTup (aC (rC (.int 2)) (aC (rC (.int 2)) aN))) aN))) aN)))) aN))) aN))) (rSeq (rDrop (eMt gAppend 0 (aC (eTup (aC (rC (.int 2)) (aC (eTup (aC (eTup (aC (rN 1) (aC (eTup (aC (rC (.int 2)) (aC (rC (.int 1)) aN))) aN))) (aC (eTup (aC (rN 1) (aC (eTup (aC (rC (.int 1)) (aC (rC (.int 2)) aN))) aN))) (aC (eTup (aC (rN 2) (aC (eTup (aC (rC (.int 0)) (aC (rC (.int 0)) aN))) aN))) aN)))) aN))) aN))) (rSeq (rAsg (eTup (aC (eTup (aC (rC (.int 3)) (aC (rC (.int 3)) (aC (rC (.int 3)) aN)))) (aC (eTup (aC (rC (.int 0)) (aC (rC (.int 1)) (aC (rC (.int 2)) aN)))) aN))) (gTup' 2 (gCons' (gN 3) (gCons' (gN 4) gNil')))) (rSeq (rDrop (eMt gAppend 0 (aC (eTup (aC (rC (.int 3)) (aC (eTup (aC (eTup (aC (eTup (aC (rC (.int 1)) (aC (rC (.int 2)) (aC (rC (.int 0)) aN)))) (aC (rN 3) aN))) (aC (eTup (aC (eTup (aC (rC (.int 2)) (aC (rC (.int 0)) (aC (rC (.int 1)) aN)))) (aC (rN 3) aN))) (aC (eTup (aC (rN 4) (aC (eTup (aC (rC (.int 0)) (aC (rC (.int 1)) (aC (rC (.int 2)) aN)))) aN))) (aC (eTup (aC (rN 4) (aC (rN 3) aN))) aN))))) aN))) aN))) (rSeq (rDrop (eMt gAppend 0 (aC (eTup (aC (rC (.int 3)) (aC (eTup (aC (eTup (aC (eTup (aC (rC (.int 1)) (aC (rC (.int 0)) (aC (rC (.int 2)) aN)))) (aC (eTup (aC (rC (.int 3)) (aC (rC (.int 3)) (aC (rC (.int 0)) aN)))) aN))) (aC (eTup (aC (eTup (aC (rC (.int 2)) (aC (rC (.int 1)) (aC (rC (.int 0)) aN)))) (aC (eTup (aC (rC (.int 3)) (aC (rC (.int 1)) (aC (rC (.int 3)) aN)))) aN))) (aC (eTup (aC (eTup (aC (rC (.int 0)) (aC (rC (.int 2)) (aC (rC (.int 1)) aN)))) (aC (eTup (aC (rC (.int 2)) (aC (rC (.int 3)) (aC (rC (.int 3)) aN)))) aN))) (aC (eTup (aC (rN 4) (aC (rN 3) aN))) aN))))) aN))) aN))) (rSeq (rDrop (eMt gAppend 0 (aC (eTup (aC (rC (.int 3)) (aC (eTup (aC (eTup (aC (eTup (aC (rC (.int 1)) (aC (rC (.int 2)) (aC (rC (.int 0)) aN)))) (aC (eTup (aC (rC (.int 1)) (aC (rC (.int 1)) (aC (rC (.int 2)) aN)))) aN))) (aC (eTup (aC (eTup (aC (rC (.int 1)) (aC (rC (.int 0)) (aC (rC (.int 2)) aN)))) (aC (eTup (aC (rC (.int 2)) (aC (rC (.int 2)) (aC (rC (.int 2)) aN)))) aN))) (aC (eTup (aC (rN 4) (aC (eTup (aC (rC (.int 2)) (aC (rC (.int 2)) (aC (rC (.int 2)) aN)))) aN))) aN)))) aN))) aN))) (rSeq (rDrop (eMt gAppend 0 (aC (eTup (aC (rC (.int 4)) (aC (eTup (aC (eTup (aC (eTup (aC (rC (.int 1)) (aC (rC (.int 0)) (aC (rC (.int 2)) (aC (rC (.int 3)) aN))))) (aC (eTup (aC (rC (.int 2)) (aC (rC (.int 2)) (aC (rC (.int 0)) (aC (rC (.int 0)) aN))))) aN))) (aC (eTup (aC (eTup (aC (rC (.int 0)) (aC (rC (.int 1)) (aC (rC (.int 3)) (aC (rC (.int 2)) aN))))) (aC (eTup (aC (rC (.int 1)) (aC (rC (.int 1)) (aC (rC (.int 2)) (aC (rC (.int 2)) aN))))) aN))) (aC (eTup (aC (eTup (aC (rC (.int 0)) (aC (rC (.int 1)) (aC (rC (.int 2)) (aC (rC (.int 3)) aN))))) (aC (eTup (aC (rC (.int 2)) (aC (rC (.int 2)) (aC (rC (.int 2)) (aC (rC (.int 2)) aN))))) aN))) aN)))) aN))) aN))) (rRet (rN 0))))))))))))
/-- N: 0 table, 1 names, 2 spots, 3 places, 4 found, 5 state, 6 letters, 7 states, 8 letter, 9 turns, 10 nexts -/
def t_law_renamed : RS := (rSeq (rAsg (rN 0) (gTup' 2 (gCons' (gN 6) (gCons' (gN 7) gNil')))) (rSeq (rSet 3 (eLc (iR1 (aC (pOne gLen (rN 7)) aN)) [5] (gN 5) cYes (eBm gIndex (rN 2) (rN 5)))) (rSeq (rSet 4 (eLst aN)) (rSeq (rFor (iSeq (rN 2)) (gN 5) (rSeq (rPar 9 10 (eX (xRep (gCons1 (fun _ => some (.int 0)) (fun _ => some [])) (gSlot 6))) (xRep (gCons1 (fun _ => some (.int 0)) (fun _ => some [])) (gSlot 6))) (rSeq (rFor (iR1 (aC (rN 6) aN)) (gN 8) (rSeq (rAsg (pBin gIx (rN 1) (pBin gIx (pBin gIx (pBin gIx (rN 7) (rN 5)) (rC (.int 0))) (rN 8))) (gSubL 9 (pBin gIx (rN 1) (rN 8)))) (rAsg (pBin gIx (rN 3) (pBin gIx (pBin gIx (pBin gIx (rN 7) (rN 5)) (rC (.int 1))) (rN 8))) (gSubL 10 (pBin gIx (rN 1) (rN 8)))))) (rDrop (eMt gAppend 4 (aC (eTup (aC (pOne gTuple (rN 9)) (aC (pOne gTuple (rN 10)) aN))) aN)))))) (rRet (eTup (aC (rN 6) (aC (pOne gTuple (rN 4)) aN))))))))
/-- N: 0 pen, 1 letters, 2 most, 3 many, 4 states, 5 state, 6 calm, 7 free, 8 turns, 9 letter, 10 own, 11 nexts, 12 later, 13 there -/
def t_law_any_machine : RS := (rSeq (rSet 3 (pBin gAdd (rC (.int 1)) (eCall 2 m_law_take (bC (rN 0) (bC (rN 2) bN))))) (rSeq (rParF 6 7 (aC (eCall 2 m_law_take (bC (rN 0) (bC (rC (.int 5)) bN))) (aC (eCall 2 m_law_take (bC (rN 0) (bC (rC (.int 8)) bN))) aN))) (rSeq (rSet 4 (eLst aN)) (rSeq (rFor (iR1 (aC (rN 3) aN)) (gN 5) (rSeq (rSet 8 (eIf (cV (pBin gGt (eCall 2 m_law_take (bC (rN 0) (bC (rC (.int 3)) bN))) (rC (.int 0)))) (eCall 2 m_law_drawn (bC (rN 0) (bC (rN 1) bN))) (eLRng (rN 1)))) (rSeq (rPar 10 11 (eCall 2 m_law_take (bC (rN 0) (bC (rN 1) bN))) (xLst (fun _ => some []))) (rSeq (rFor (iR1 (aC (rN 1) aN)) (gN 9) (rSeq (rSet 12 (pBin gAdd (pBin gAdd (rN 5) (rC (.int 1))) (eCall 2 m_law_take (bC (rN 0) (bC (pBin gSub (rN 3) (rN 5)) bN))))) (rSeq (rSet 13 (eIf (cOr (cV (pBin gEq (rN 9) (rN 10))) (cV (pBin gEq (rN 7) (rC (.int 0))))) (eCall 2 m_law_take (bC (rN 0) (bC (rN 3) bN))) (eFn gMin2 (aC (rN 12) (aC (pBin gSub (rN 3) (rC (.int 1))) aN))))) (rDrop (eMt gAppend 11 (aC (rN 13) aN)))))) (rSeq (rIf (cAnd (cV (pBin gEq (rN 5) (pBin gSub (rN 3) (rC (.int 1))))) (cV (pBin gGt (rN 6) (rC (.int 0))))) (rPar 8 11 (eLRng (rN 1)) (xRep (gCons1 (gSlot 5) (fun _ => some [])) (gSlot 1))) rNext) (rDrop (eMt gAppend 4 (aC (eTup (aC (pOne gTuple (rN 8)) (aC (pOne gTuple (rN 11)) aN))) aN)))))))) (rRet (eTup (aC (rN 1) (aC (pOne gTuple (rN 4)) aN))))))))
/-- N: 0 pen, 1 most, 2 table -/
def t_law_machine : RS := (rSeq (rIf (cV (pBin gGt (eCall 2 m_law_take (bC (rN 0) (bC (rC (.int 5)) bN))) (rC (.int 2)))) (rSeq (rSet 2 (eCall 2 m_law_one (bC (rN 0) (bC (eCall 0 m_law_tables bN) bN)))) (rRet (eCall 3 m_law_renamed (bC (rN 2) (bC (eCall 2 m_law_drawn (bC (rN 0) (bC (pBin gIx (rN 2) (rC (.int 0))) bN))) (bC (eCall 2 m_law_drawn (bC (rN 0) (bC (pOne gLen (pBin gIx (rN 2) (rC (.int 1)))) bN))) bN)))))) rNext) (rRet (eCall 3 m_law_any_machine (bC (rN 0) (bC (pBin gAdd (rC (.int 2)) (eCall 2 m_law_take (bC (rN 0) (bC (rC (.int 3)) bN)))) (bC (rN 1) bN))))))
/-- N: 0 thing, 1 caught, 2 e -/
def t_law_no_machine : RS := (rSeq (rSet 1 (rC .none)) (rSeq (rTry xcs "TurnError" 2 1 (rDrop (eMake 2 m_House___init__ (aC (rN 0) aN)))) (rRet (eAnd (pOne (gIs (gCl xcs "NoMachine")) (rN 1)) (pOne (gIs (gTy xcs "ValueError")) (rN 1))))))
/-- N: 0 house, 1 sort_of, 2 name, 3 one, 4 caught, 5 e, 6 some -/
def t_law_told : RS := (rSeq (rSet 4 (rC .none)) (rSeq (rTry xcs "TurnError" 5 4 (rIf (cV (pBin gEq (rN 1) (rC (.int 0)))) (rDrop (eMeth 3 0 m_House_put (bC (rN 2) (bC (rN 3) bN)))) (rIf (cV (pBin gEq (rN 1) (rC (.int 1)))) (rDrop (eMeth 4 0 m_House_join (bC (rN 2) (bC (rN 3) (bC (rN 3) bN))))) (rIf (cV (pBin gEq (rN 1) (rC (.int 2)))) (rDrop (eMeth 3 0 m_House_turn_back (bC (rN 2) (bC (rN 3) bN)))) (rDrop (eMeth 1 0 m_House_mark bN)))))) (rSeq (rIf (cV (pBin gIsN (rN 4) (rC .none))) (rRet (rC (.str "told"))) rNext) (rSeq (rSet 6 (eLst (aC (pOne (gIs (gCl xcs "Full")) (rN 4)) (aC (pOne (gIs (gCl xcs "NoName")) (rN 4)) (aC (pOne (gIs (gCl xcs "Standing")) (rN 4)) aN))))) (rSeq (rSet 6 (pBin gAdd (rN 6) (eLst (aC (pOne (gIs (gCl xcs "NoRow")) (rN 4)) (aC (pOne (gIs (gCl xcs "TooLong")) (rN 4)) aN))))) (rSeq (rDrop (eMt gAppend 6 (aC (eUn (gIs (gCls xcs ["TooMany", "NoNumber", "NoFit", "NoMirror", "NoPaper", "NoMachine"])) (rN 4)) aN))) (rSeq (rIf (cOr (cV (pBin gNe (eBm gCount (rN 6) (rC (.bool true))) (rC (.int 1)))) (cV (pBin gIx (rN 6) (eUn gNeg (rC (.int 1)))))) (rRet (rC (.str "odd"))) rNext) (rRet (eIf (cV (pBin gIx (rN 6) (rC (.int 0)))) (pBin gAdd (rC (.str "full ")) (pOne gStr (eFld xcs "most" (rN 4)))) (pBin gIx (eLst (aC (rC (.str "")) (aC (rC (.str "name")) (aC (rC (.str "standing")) (aC (rC (.str "row")) (aC (rC (.str "long")) aN)))))) (eBm gIndex (rN 6) (rC (.bool true)))))))))))))
/-- N: 0 pen, 1 house, 2 many, 3 far -/
def t_law_long_right : RS := (rSeq (rSet 3 (pBin gAdd (rC (.int 7)) (eCall 2 m_law_take (bC (rN 0) (bC (rC (.int 3)) bN))))) (rSeq (rDrop (eMeth 3 1 m_House_put (bC (rC (.str "long")) (bC (pBin gMulV (eTup (aC (eCall 2 m_law_take (bC (rN 0) (bC (rN 2) bN))) aN)) (rN 3)) bN)))) (rRet (pBin gEq (eCall 4 m_law_told (bC (rN 1) (bC (rC (.int 1)) (bC (rC (.str "twice")) (bC (rC (.str "long")) bN))))) (eIf (cV (pBin gLt (rN 3) (rC (.int 9)))) (rC (.str "told")) (rC (.str "long")))))))
/-- N: 0 house, 1 full, 2 some, 3 k -/
def t_law_names_right : RS := (rSeq (rSet 1 (eLst (aC (eCall 4 m_law_told (bC (rN 0) (bC (rC (.int 0)) (bC (rC (.str "new")) (bC (eTup aN) bN))))) (aC (eCall 4 m_law_told (bC (rN 0) (bC (rC (.int 1)) (bC (rC (.str "new")) (bC (rC (.str "a")) bN))))) (aC (eCall 4 m_law_told (bC (rN 0) (bC (rC (.int 2)) (bC (rC (.str "new")) (bC (rC (.str "a")) bN))))) aN))))) (rSeq (rIf (cOr (cV (pBin gNe (rN 1) (eX (xRep (gCons1 (fun _ => some (.str "full 12")) (fun _ => some [])) (fun _ => some (.int 3)))))) (cV (pBin gNe (eCall 4 m_law_told (bC (rN 0) (bC (rC (.int 0)) (bC (rC (.str "a")) (bC (rC .none) bN))))) (rC (.str "standing"))))) (rRet (rC (.bool false))) rNext) (rSeq (rSet 2 (eLst (aC (eCall 4 m_law_told (bC (rN 0) (bC (rC (.int 0)) (bC (rC (.str "new")) (bC (rC (.int 7)) bN))))) (aC (eCall 4 m_law_told (bC (rN 0) (bC (rC (.int 0)) (bC (rC (.str "new")) (bC (pBin gMulV (eTup (aC (rC (.int 0)) aN)) (rC (.int 17))) bN))))) aN)))) (rSeq (rIf (cOr (cV (pBin gNe (rN 2) (eLst (aC (rC (.str "row")) (aC (rC (.str "row")) aN))))) (cV (pBin gNe (eCall 4 m_law_told (bC (rN 0) (bC (rC (.int 1)) (bC (rC (.str "new")) (bC (rC (.str "most")) bN))))) (rC (.str "long"))))) (rRet (rC (.bool false))) rNext) (rRet (pBin gEq (pBin gAdd (eLc (iSeq (eLst (aC (rC (.int 1)) (aC (rC (.int 2)) aN)))) [3] (gN 3) cYes (eCall 4 m_law_told (bC (rN 0) (bC (rN 3) (bC (rC (.str "new")) (bC (rC (.str "never")) bN)))))) (eLst (aC (eCall 4 m_law_told (bC (rN 0) (bC (rC (.int 2)) (bC (rC (.str "N")) (bC (rC (.str "a")) bN))))) aN))) (eX (xRep (gCons1 (fun _ => some (.str "name")) (fun _ => some [])) (fun _ => some (.int 3))))))))))
/-- N: 0 pen, 1 machine, 2 house, 3 turn, 4 letters, 5 told, 6 letter -/
def t_law_room_right : RS := (rSeq (rSet 2 (eMake 2 m_House___init__ (aC (rN 1) aN))) (rSeq (rDrop (eMeth 1 2 m_House_mark bN)) (rSeq (rFor (iR1 (aC (rC (.int 2)) aN)) (gN 3) (rSeq (rSet 4 (rC (.str "abcdefghijklm"))) (rSeq (rSet 5 (eLc (iSeq (rN 4)) [6] (gN 6) cYes (eCall 4 m_law_told (bC (rN 2) (bC (rC (.int 0)) (bC (rN 6) (bC (eTup aN) bN))))))) (rSeq (rIf (cV (pBin gNe (rN 5) (pBin gAdd (eX (xRep (gCons1 (fun _ => some (.str "told")) (fun _ => some [])) (fun _ => some (.int 12)))) (eLst (aC (rC (.str "full 12")) aN))))) (rRet (rC (.bool false))) rNext) (rSeq (rIf (cAnd (cV (pBin gEq (rN 3) (rC (.int 0)))) (cV (pBin gEq (eCall 2 m_law_take (bC (rN 0) (bC (rC (.int 2)) bN))) (rC (.int 0))))) (rDrop (eMeth 2 2 m_House_take_out (bC (rC (.str "c")) bN))) rNext) (rSeq (rDrop (eMeth 2 2 m_House_back (bC (rC (.int 0)) bN))) (rIf (cOr (cV (pBin gNe (eMeth 1 2 m_House_names bN) (eLst aN))) (cV (pBin gNe (eMeth 1 2 m_House_marks bN) (eLst (aC (rC (.int 0)) aN))))) (rRet (rC (.bool false))) rNext))))))) (rRet (rC (.bool true))))))
/-- N: 0 pen, 1 machine, 2 k, 3 spot, 4 house, 5 kept, 6 letters, 7 many -/
def t_law_marks_right : RS := (rSeq (rPar 4 5 (eMake 2 m_House___init__ (aC (rN 1) aN)) (xLst (fun _ => some []))) (rSeq (rParF 6 7 (aC (pBin gIx (rN 1) (rC (.int 0))) (aC (pOne gLen (pBin gIx (rN 1) (rC (.int 1)))) aN))) (rSeq (rFor (iR1 (aC (rC (.int 6)) aN)) (gN 2) (rSeq (rDrop (eMeth 3 4 m_House_put (bC (pBin gIx (rC (.str "abcdef")) (rN 2)) (bC (eTup aN) bN)))) (rSeq (rDrop (eMethK 4 4 m_House_lead (bC (eCall 2 m_law_take (bC (rN 0) (bC (rN 7) bN))) (bC (eCall 2 m_law_take (bC (rN 0) (bC (rN 6) bN))) bN)) (eCall 2 m_law_take (bC (rN 0) (bC (rN 7) bN))))) (rSeq (rDrop (eMeth 4 4 m_House_exchange (bC (eCall 2 m_law_take (bC (rN 0) (bC (rN 7) bN))) (bC (rC (.int 0)) (bC (eCall 2 m_law_take (bC (rN 0) (bC (rN 6) bN))) bN))))) (rSeq (rDrop (eMt gAppend 5 (aC (eLst (aC (eMeth 1 4 m_House_machine bN) (aC (eMeth 1 4 m_House_names bN) aN))) aN))) (rIf (cV (pBin gNe (eMeth 1 4 m_House_mark bN) (rN 2))) (rRet (rC (.bool false))) rNext)))))) (rSeq (rDrop (eMeth 2 4 m_House_take_out (bC (rC (.str "a")) bN))) (rSeq (rIf (cV (pBin gNe (eCall 4 m_law_told (bC (rN 4) (bC (rC (.int 3)) (bC (rC .none) (bC (rC .none) bN))))) (rC (.str "full 6")))) (rRet (rC (.bool false))) rNext) (rSeq (rFor (iSeq (eLst (aC (rC (.int 5)) (aC (eCall 2 m_law_take (bC (rN 0) (bC (rC (.int 6)) bN))) (aC (rC (.int 0)) aN))))) (gN 3) (rIf (cV (pBin gLt (rN 3) (pOne gLen (eMeth 1 4 m_House_marks bN)))) (rSeq (rDrop (eMeth 2 4 m_House_back (bC (rN 3) bN))) (rIf (cOr (cV (pBin gNe (eLst (aC (eMeth 1 4 m_House_machine bN) (aC (eMeth 1 4 m_House_names bN) aN))) (pBin gIx (rN 5) (rN 3)))) (cV (pBin gNe (eMeth 1 4 m_House_marks bN) (eLRng (pBin gAdd (rN 3) (rC (.int 1))))))) (rRet (rC (.bool false))) rNext)) rNext)) (rRet (rC (.bool true)))))))))
/-- N: 0 script, 1 pen, 2 machine, 3 some, 4 house, 5 letter, 6 letters, 7 states -/
def t_law : RS := (rSeq (rSet 1 (eCall 1 m_law_open (bC (rN 0) bN))) (rSeq (rSet 2 (eCall 2 m_law_machine (bC (eCall 1 m_law_anew (bC (rN 1) bN)) (bC (rC (.int 8)) bN)))) (rSeq (rAsg (rN 2) (gTup' 2 (gCons' (gN 6) (gCons' (gN 7) gNil')))) (rSeq (rSet 3 (eLst (aC (rC .none) (aC (pOne gList (rN 2)) (aC (eTup (aC (rN 6) (aC (eTup aN) aN))) (aC (eTup (aC (rN 6) (aC (eSl gSl (pBin gAdd (rN 7) (pBin gMulV (rN 7) (rC (.int 8)))) oN (oS (rC (.int 9)))) aN))) (aC (eTup (aC (rN 6) aN)) (aC (eTup (aC (rC (.int 1)) (aC (rN 7) aN))) aN)))))))) (rSeq (rSet 3 (pBin gAdd (rN 3) (eLst (aC (eTup (aC (rC (.int 5)) (aC (rN 7) aN))) (aC (eTup (aC (rN 6) (aC (pOne gList (rN 7)) aN))) (aC (eTup (aC (rC (.bool true)) (aC (rN 7) aN))) (aC (rC (.str "machine")) (aC (eTup (aC (rN 6) (aC (rN 7) (aC (rC (.int 0)) aN)))) aN)))))))) (rSeq (rSet 3 (pBin gAdd (rN 3) (eLst (aC (eTup (aC (rC (.int 5)) (aC (eTup (aC (eTup (aC (eTup (aC (rC (.int 0)) (aC (rC (.int 1)) (aC (rC (.int 2)) (aC (rC (.int 3)) (aC (rC (.int 4)) aN)))))) (aC (pBin gMulV (eTup (aC (rC (.int 0)) aN)) (rC (.int 5))) aN))) aN)) aN))) (aC (eTup (aC (rC (.int 1)) (aC (eTup (aC (eTup (aC (eTup (aC (rC (.int 0)) aN)) (aC (eTup (aC (rC (.int 0)) aN)) aN))) aN)) aN))) (aC (eTup (aC (rC (.int 0)) (aC (eTup (aC (eTup (aC (eTup aN) (aC (eTup aN) aN))) aN)) aN))) aN)))))) (rSeq (rIf (cNot (cV (eCall 1 m_law_no_machine (bC (eCall 2 m_law_one (bC (rN 1) (bC (fzE (vl (rN 3))) bN))) bN)))) (rRet (rC (.bool false))) rNext) (rSeq (rSet 4 (eMake 2 m_House___init__ (aC (rN 2) aN))) (rSeq (rIf (cOr (cNot (cV (eCall 3 m_law_long_right (bC (rN 1) (bC (rN 4) (bC (pOne gLen (rN 7)) bN)))))) (cV (pBin gNe (eCall 4 m_law_told (bC (rN 4) (bC (rC (.int 0)) (bC (rC (.str "most")) (bC (pBin gMulV (eTup (aC (rC (.int 0)) aN)) (rC (.int 16))) bN))))) (rC (.str "told"))))) (rRet (rC (.bool false))) rNext) (rSeq (rFor (iSeq (eSl gSl (rC (.str "abcdefghijkl")) oN (oS (pBin gSub (rC (.int 12)) (pOne gLen (eMeth 1 4 m_House_names bN)))))) (gN 5) (rIf (cV (pBin gNe (eCall 4 m_law_told (bC (rN 4) (bC (rC (.int 0)) (bC (rN 5) (bC (eTup aN) bN))))) (rC (.str "told")))) (rRet (rC (.bool false))) rNext)) (rSeq (rIf (cNot (cV (eCall 1 m_law_names_right (bC (rN 4) bN)))) (rRet (rC (.bool false))) rNext) (rSeq (rDrop (eMeth 2 4 m_House_take_out (bC (rC (.str "a")) bN))) (rSeq (rIf (cV (pBin gNe (eLst (aC (eCall 4 m_law_told (bC (rN 4) (bC (rC (.int 0)) (bC (rC (.str "new")) (bC (eTup aN) bN))))) (aC (eCall 4 m_law_told (bC (rN 4) (bC (rC (.int 0)) (bC (rC (.str "newer")) (bC (eTup aN) bN))))) aN))) (eLst (aC (rC (.str "told")) (aC (rC (.str "full 12")) aN))))) (rRet (rC (.bool false))) rNext) (rRet (eAnd (eCall 2 m_law_room_right (bC (rN 1) (bC (rN 2) bN))) (eCall 2 m_law_marks_right (bC (rN 1) (bC (rN 2) bN))))))))))))))))))
end Hd
end

section
set_option Elab.async false
set_option linter.all false
set_option maxRecDepth 100000
set_option maxHeartbeats 0
set_option autoImplicit false
namespace Hd
open PySem PySem.Spec PyProof.Rows L2 L3
theorem pl_law_tables : ∀ sls Q E, m_law_tables sls Q E → mBody [] 0 5 t_law_tables sls Q E := by
  rintro sls Q E ⟨rfl, q⟩
  have l : ∀ {ds : List PyData} {y : PyData}, ds.length ≤ 100 → gAppend ds [y] = some (ds ++ [y], .none) := fun {ds y} h => if_pos (show ds.length < sizeLine by rw [sizeLine_eq]; omega)
  refine ⟨sz (by simp), sz (by simp), sz (by simp), _, rfl, rfl, _, _, rfl, _, _, rfl, rfl, ?_⟩
  iterate 13 refine ⟨sz (by simp), ?_⟩
  refine ⟨⟨_, rfl⟩, ?_⟩
  iterate 12 refine ⟨sz (by simp), ?_⟩
  refine ⟨_, _, _, rfl, l (by simp), ?_⟩
  refine ⟨⟨_, rfl⟩, ?_⟩
  iterate 8 refine ⟨sz (by simp), ?_⟩
  refine ⟨_, _, _, rfl, l (by simp), ?_⟩
  refine ⟨⟨_, rfl⟩, ?_⟩
  iterate 8 refine ⟨sz (by simp), ?_⟩
  refine ⟨_, _, _, rfl, l (by simp), ?_⟩
  refine ⟨sz (by simp), sz (by simp), sz (by simp), _, rfl, rfl, _, _, rfl, _, _, rfl, rfl, ?_⟩
  refine ⟨⟨_, rfl⟩, ?_⟩
  iterate 9 refine ⟨sz (by simp), ?_⟩
  refine ⟨_, _, _, rfl, l (by simp), ?_⟩
  refine ⟨⟨_, rfl⟩, ?_⟩
  iterate 12 refine ⟨sz (by simp), ?_⟩
  refine ⟨_, _, _, rfl, l (by simp), ?_⟩
  refine ⟨⟨_, rfl⟩, ?_⟩
  iterate 10 refine ⟨sz (by simp), ?_⟩
  refine ⟨_, _, _, rfl, l (by simp), ?_⟩
  refine ⟨⟨_, rfl⟩, ?_⟩
  iterate 11 refine ⟨sz (by simp), ?_⟩
  refine ⟨_, _, _, rfl, l (by simp), ?_⟩
  exact q
def fI (i : Nat) : PyData := .int (i : Nat)
theorem rngI_F (n : Nat) : rngI 0 n = (List.range' 0 n).map fI := by
  unfold rngI
  rw [List.range_eq_range']
  refine List.map_congr_left fun i _ => ?_
  show PyData.int (0 + (i : Int)) = .int (i : Int)
  rw [Int.zero_add]
theorem gIx_nat {xs : List Nat} {a : Nat} (h : a < xs.length) : gIx (natL xs) (.int (a : Nat)) = some (.fz (fI (xs.getD a 0))) := by
  show (atI _ _).map Rs.fz = _
  unfold atI ixN
  rw [if_pos (by omega), if_pos (by rw [List.length_map]; omega), Int.toNat_natCast]
  show ((xs.map fI)[a]?).map Rs.fz = _
  rw [List.getElem?_map, List.getD_eq_getElem?_getD, List.getElem?_eq_getElem h]
  rfl
theorem gIx_natI {xs : List Nat} {j : Int} (h0 : 0 ≤ j) (h : j < xs.length) : gIx (natL xs) (.int j) = some (.fz (fI (xs.getD j.toNat 0))) := by
  have := gIx_nat (xs := xs) (a := j.toNat) (by omega)
  rwa [Int.toNat_of_nonneg h0] at this
theorem gIndex_nat {xs : List Nat} {j : Nat} (h : j ∈ xs) : gIndex (natL xs) (.int (j : Nat)) = some (fzI ((xs.idxOf j : Nat) : Int)) := by
  have e1 : gIndex (natL xs) (.int (j : Nat)) = ((xs.map fun i => PyData.int (i : Nat)).findIdx? fun z => PyData.eqv z (.int (j : Nat))).map fun k => fzI (k : Nat) := by
    refine if_pos ⟨?_, rfl⟩
    have := shaped_ints (xs.map fun i => ((i : Nat) : Int))
    rw [List.map_map] at this
    exact this
  rw [e1, List.findIdx?_map]
  have e2 : ((fun z => PyData.eqv z (.int (j : Nat))) ∘ fun i : Nat => PyData.int (i : Nat)) = fun z : Nat => z == j := by
    funext z
    show (((z : Nat) : Int) == ((j : Nat) : Int)) = (z == j)
    by_cases e : z = j
    · subst e; exact (beq_self_eq_true _).trans (beq_self_eq_true _).symm
    · have : ¬ ((z : Nat) : Int) = ((j : Nat) : Int) := by omega
      exact (beq_eq_false_iff_ne.mpr this).trans (beq_eq_false_iff_ne.mpr e).symm
  rw [e2, List.findIdx?_eq_some_of_exists ⟨j, h, by simp⟩]
  rfl
/-- what holds of a state's rows -/
def SOK (L : Int) (N : Nat) (s : List Int × List Int) : Prop := s.1.Perm (rg L.toNat) ∧ (s.2.length : Int) = L ∧ ∀ i ∈ s.2, 0 ≤ i ∧ i < N
theorem getD_mem {xs : List Nat} {a : Nat} (h : a < xs.length) : xs.getD a 0 ∈ xs := by
  rw [List.getD_eq_getElem?_getD, List.getElem?_eq_getElem h]
  exact List.getElem_mem h
theorem getD_memI {xs : List Int} {a : Nat} (h : a < xs.length) : xs.getD a 0 ∈ xs := by
  rw [List.getD_eq_getElem?_getD, List.getElem?_eq_getElem h]
  exact List.getElem_mem h
theorem nodup_inj {α : Type} {xs : List α} (h : xs.Nodup) {i j : Nat} (hi : i < xs.length) (hj : j < xs.length) (e : xs[i] = xs[j]) : i = j := by
  have p := List.pairwise_iff_getElem.mp (List.nodup_iff_pairwise_ne.mp h)
  rcases Nat.lt_trichotomy i j with z | z | z
  · exact absurd e (p i j hi hj z)
  · exact z
  · exact absurd e.symm (p j i hj hi z)
theorem nodup_getD {xs : List Nat} (hn : xs.Nodup) {a b : Nat} (ha : a < xs.length) (hb : b < xs.length) (e : xs.getD a 0 = xs.getD b 0) : a = b := by
  rw [List.getD_eq_getElem?_getD, List.getD_eq_getElem?_getD, List.getElem?_eq_getElem ha, List.getElem?_eq_getElem hb] at e
  exact nodup_inj hn ha hb e
/-- the turned letters under other names are one to one, too -/
theorem ren_perm {L : Nat} {names us : List Nat} {t : List Int} (hn : names.Perm (List.range L)) (ht : t.Perm (rg L)) (hu : us.length = L) (hs : ∀ j < L, us[names.getD j 0]? = some (names.getD (t.getD j 0).toNat 0)) : (us.map fun i => ((i : Nat) : Int)).Perm (rg L) := by
  have nl : names.length = L := by rw [hn.length_eq, List.length_range]
  have tl : t.length = L := by rw [ht.length_eq, rg_len]
  have nd : names.Nodup := hn.nodup_iff.mpr List.nodup_range
  have tnd : t.Nodup := ht.nodup_iff.mpr (by
    unfold rg
    exact List.Pairwise.map _ (fun a b h => by omega) List.nodup_range)
  have tb : ∀ j < L, 0 ≤ t.getD j 0 ∧ t.getD j 0 < L := fun j hj => rg_mem (ht.mem_iff.mp (getD_memI (by omega)))
  have lt : ∀ j < L, names.getD j 0 < L := fun j hj => List.mem_range.mp (hn.mem_iff.mp (getD_mem (by omega)))
  have key : ∀ x ∈ us, ∃ j < L, x = names.getD (t.getD j 0).toNat 0 := fun x hx => by
    obtain ⟨i, hi, e⟩ := List.mem_iff_getElem.mp hx
    have : i ∈ names := hn.mem_iff.mpr (List.mem_range.mpr (by omega))
    obtain ⟨j, hj, e2⟩ := List.mem_iff_getElem.mp this
    have hj' : j < L := by omega
    have h1 := hs j hj'
    have e3 : names.getD j 0 = i := by rw [List.getD_eq_getElem?_getD, List.getElem?_eq_getElem hj]; exact e2
    rw [e3, List.getElem?_eq_getElem hi, e] at h1
    exact ⟨j, hj', Option.some.inj h1⟩
  refine List.Perm.map _ (perm_range L us ?_ (fun x hx => ?_) hu)
  · rw [List.nodup_iff_pairwise_ne, List.pairwise_iff_getElem]
    intro i j hi hj hij he
    have mi : i ∈ names := hn.mem_iff.mpr (List.mem_range.mpr (by omega))
    have mj : j ∈ names := hn.mem_iff.mpr (List.mem_range.mpr (by omega))
    obtain ⟨a, ha, ea⟩ := List.mem_iff_getElem.mp mi
    obtain ⟨b, hb, eb⟩ := List.mem_iff_getElem.mp mj
    have ea' : names.getD a 0 = i := by rw [List.getD_eq_getElem?_getD, List.getElem?_eq_getElem ha]; exact ea
    have eb' : names.getD b 0 = j := by rw [List.getD_eq_getElem?_getD, List.getElem?_eq_getElem hb]; exact eb
    have h1 := hs a (by omega)
    have h2 := hs b (by omega)
    rw [ea', List.getElem?_eq_getElem hi] at h1
    rw [eb', List.getElem?_eq_getElem hj] at h2
    have h3 : names.getD (t.getD a 0).toNat 0 = names.getD (t.getD b 0).toNat 0 := by
      rw [← Option.some.inj h1, ← Option.some.inj h2]; exact he
    have ba := tb a (by omega)
    have bb := tb b (by omega)
    have h4 := nodup_getD nd (by omega) (by omega) h3
    have h5 : t.getD a 0 = t.getD b 0 := by omega
    have h6 : a = b := by
      rw [List.getD_eq_getElem?_getD, List.getD_eq_getElem?_getD, List.getElem?_eq_getElem (show a < t.length by omega), List.getElem?_eq_getElem (show b < t.length by omega)] at h5
      exact nodup_inj tnd _ _ h5
    subst h6
    omega
  · obtain ⟨j, hj, rfl⟩ := key x hx
    have := tb j hj
    exact lt _ (by omega)
end Hd
end

section
set_option Elab.async false
set_option linter.all false
set_option maxRecDepth 100000
set_option maxHeartbeats 0
set_option autoImplicit false
namespace Hd
open PySem PySem.Spec PyProof.Rows L2 L3
abbrev natO (xs : List Nat) : Sl := .ow (.ls (xs.map fI))
theorem fI_set {xs : List Nat} {i x : Nat} : (xs.map fI).set i (fI x) = (xs.set i x).map fI := by rw [List.map_set]
abbrev renBody : RS := rSeq (rAsg (pBin gIx (rN 1) (pBin gIx (pBin gIx (pBin gIx (rN 7) (rN 5)) (rC (.int 0))) (rN 8))) (gSubL 9 (pBin gIx (rN 1) (rN 8)))) (rAsg (pBin gIx (rN 3) (pBin gIx (pBin gIx (pBin gIx (rN 7) (rN 5)) (rC (.int 1))) (rN 8))) (gSubL 10 (pBin gIx (rN 1) (rN 8))))
theorem ren_inner {m : Mc} (hm : m.ok) {names places : List Nat} {L i : Nat} {s : List Int × List Int} {e0 e2 e4 e6 : Sl} {D : Ed} (hL : m.L = L) (hn : names.Perm (List.range L)) (hs : m.st[i]? = some s) (hp : places.length = m.st.length) (hpl : ∀ x ∈ places, x < m.st.length) :
    ∀ (n k : Nat) (us ws : List Nat) (s8 : Sl), k + n = L → us.length = L → ws.length = L → (∀ x ∈ ws, x < m.st.length) → (∀ j < k, us[names.getD j 0]? = some (names.getD (s.1.getD j 0).toNat 0)) →
    (∀ (us ws : List Nat) (s8 : Sl), us.length = L → ws.length = L → (∀ x ∈ ws, x < m.st.length) → (∀ j < L, us[names.getD j 0]? = some (names.getD (s.1.getD j 0).toNat 0)) → D.nx [e0, .fz (natL names), e2, natO places, e4, .fz (fI i), e6, .fz (.tuple (m.st.map stD)), s8, natO us, natO ws]) →
    rLoop (gN 8) renBody D ((List.range' k n).map fI) [e0, .fz (natL names), e2, natO places, e4, .fz (fI i), e6, .fz (.tuple (m.st.map stD)), s8, natO us, natO ws]
  | 0, k, us, ws, s8, e, h1, h2, h3, h4, q => q us ws s8 h1 h2 h3 fun j hj => h4 j (by omega)
  | n + 1, k, us, ws, s8, e, h1, h2, h3, h4, q => by
    have nl : names.length = L := by rw [hn.length_eq, List.length_range]
    have nd : names.Nodup := hn.nodup_iff.mpr List.nodup_range
    obtain ⟨a, b, c⟩ := hm.s s (List.mem_of_getElem? hs)
    have hLn : m.L.toNat = L := by rw [hL]; exact Int.toNat_natCast L
    rw [hLn] at a
    have l1 : s.1.length = L := by rw [a.length_eq, rg_len]
    have l2 : s.2.length = L := by omega
    have tb : 0 ≤ s.1.getD k 0 ∧ s.1.getD k 0 < L := rg_mem (a.mem_iff.mp (getD_memI (by omega)))
    have sb : 0 ≤ s.2.getD k 0 ∧ s.2.getD k 0 < m.st.length := c _ (getD_memI (by omega))
    have nk : names.getD k 0 < L := List.mem_range.mp (hn.mem_iff.mp (getD_mem (by omega)))
    rw [List.range'_succ, List.map_cons]
    have g1 := gIx_int (xs := s.1) (a := k) (by omega)
    have g2 := gIx_natI (xs := names) tb.1 (by omega)
    have g3 := gIx_nat (xs := names) (a := k) (by omega)
    have g4 := gIx_int (xs := s.2) (a := k) (by omega)
    have g5 := gIx_natI (xs := places) sb.1 (by omega)
    refine ⟨_, _, _, rfl, rfl, gIx_st hs, _, _, _, rfl, rfl, rfl, _, _, _, rfl, rfl, g1, _, _, _, rfl, rfl, g2, ⟨_, rfl⟩, _, _, _, rfl, rfl, g3, _, _, _, rfl, rfl, ixN_nat (by rw [List.length_map]; omega), ?_⟩
    rw [fI_set]
    refine ⟨_, _, _, rfl, rfl, gIx_st hs, _, _, _, rfl, rfl, rfl, _, _, _, rfl, rfl, g4, _, _, _, rfl, rfl, g5, ⟨_, rfl⟩, _, _, _, rfl, rfl, g3, _, _, _, rfl, rfl, ixN_nat (by rw [List.length_map]; omega), ?_⟩
    rw [fI_set]
    refine ren_inner hm hL hn hs hp hpl n (k + 1) _ _ _ (by omega) (by rw [List.length_set]; exact h1) (by rw [List.length_set]; exact h2) (fun x hx => ?_) (fun j hj => ?_) q
    · rcases List.mem_or_eq_of_mem_set hx with z | z
      · exact h3 x z
      · rw [z]; exact hpl _ (getD_mem (by omega))
    · by_cases jk : j = k
      · subst jk
        rw [List.getElem?_set_self (by omega)]
      · rw [List.getElem?_set_ne fun z => jk (nodup_getD nd (by omega) (by omega) z.symm)]
        exact h4 j (by omega)
abbrev renOuter : RS := rSeq (rPar 9 10 (eX (xRep (gCons1 (fun _ => some (.int 0)) (fun _ => some [])) (gSlot 6))) (xRep (gCons1 (fun _ => some (.int 0)) (fun _ => some [])) (gSlot 6))) (rSeq (rFor (iR1 (aC (rN 6) aN)) (gN 8) renBody) (rDrop (eMt gAppend 4 (aC (eTup (aC (pOne gTuple (rN 9)) (aC (pOne gTuple (rN 10)) aN))) aN))))
theorem rep0 (L : Nat) : (List.replicate (L : Int).toNat [PyData.int 0]).flatten = (List.replicate L 0).map fI := by
  rw [Int.toNat_natCast]
  induction L with
  | zero => rfl
  | succ n ih => rw [List.replicate_succ, List.flatten_cons, ih, List.replicate_succ, List.map_cons]; rfl
theorem ren_outer {m : Mc} (hm : m.ok) {names places : List Nat} {L : Nat} {e0 e2 : Sl} {D : Ed} (hL : m.L = L) (hn : names.Perm (List.range L)) (hp : places.length = m.st.length) (hpl : ∀ x ∈ places, x < m.st.length) :
    ∀ (ss : List Nat) (acc : List (List Int × List Int)) (s5 s8 s9 s10 : Sl), (∀ x ∈ ss, x < m.st.length) → acc.length + ss.length ≤ 100 → (∀ s ∈ acc, SOK L m.st.length s) →
    (∀ (acc' : List (List Int × List Int)) (s5 s8 s9 s10 : Sl), acc'.length = acc.length + ss.length → (∀ s ∈ acc', SOK L m.st.length s) → D.nx [e0, .fz (natL names), e2, natO places, .ow (.ls (acc'.map stD)), s5, .fz (.int L), .fz (.tuple (m.st.map stD)), s8, s9, s10]) →
    rLoop (gN 5) renOuter D (ss.map fI) [e0, .fz (natL names), e2, natO places, .ow (.ls (acc.map stD)), s5, .fz (.int L), .fz (.tuple (m.st.map stD)), s8, s9, s10]
  | [], acc, s5, s8, s9, s10, _, _, h, q => q acc s5 s8 s9 s10 rfl h
  | i :: ss, acc, s5, s8, s9, s10, hss, hl, h, q => by
    have hi := hss i (by simp)
    have l4 := hm.l4
    have l2' := hm.l2
    obtain ⟨s, hs⟩ : ∃ s, m.st[i]? = some s := ⟨_, List.getElem?_eq_getElem hi⟩
    obtain ⟨a, b, c⟩ := hm.s s (List.mem_of_getElem? hs)
    have hLn : m.L.toNat = L := by rw [hL]; exact Int.toNat_natCast L
    rw [hLn] at a
    rw [List.map_cons]
    refine ⟨[.int 0], (L : Int), rfl, rfl, by omega, by omega, by simp, _, rfl, [.int 0], (L : Int), rfl, rfl, by omega, by omega, by simp, _, rfl, ?_⟩
    rw [rep0]
    refine ⟨(L : Int), rfl, by omega, by omega, ?_⟩
    rw [Int.toNat_natCast, rngI_F]
    refine ren_inner hm hL hn hs hp hpl L 0 _ _ _ (by omega) (by simp) (by simp) (fun x hx => by rw [(List.mem_replicate.mp hx).2]; have := hm.s1; omega) (fun j hj => by omega) fun us ws s8 u1 w1 w2 u2 => ?_
    refine ⟨⟨_, rfl⟩, _, _, rfl, rfl, _, _, rfl, rfl, sz (by simp), _, _, _, rfl, if_pos (show (acc.map stD).length < sizeLine by rw [List.length_map, sizeLine_eq]; omega), ?_⟩
    have ok : SOK L m.st.length (us.map (fun i => ((i : Nat) : Int)), ws.map fun i => ((i : Nat) : Int)) := by
      refine ⟨?_, by simp [w1], fun x hx => ?_⟩
      · rw [Int.toNat_natCast]; exact ren_perm hn a u1 u2
      · obtain ⟨y, hy, rfl⟩ := List.mem_map.mp hx
        have := w2 y hy
        constructor <;> omega
    have e : acc.map stD ++ [PyData.tuple [.tuple (us.map fI), .tuple (ws.map fI)]] = (acc ++ [(us.map (fun i => ((i : Nat) : Int)), ws.map fun i => ((i : Nat) : Int))]).map stD := by
      rw [List.map_append]
      congr 1
      show [PyData.tuple [.tuple (us.map fI), .tuple (ws.map fI)]] = [PyData.tuple [.tuple ((us.map fun i => ((i : Nat) : Int)).map .int), .tuple ((ws.map fun i => ((i : Nat) : Int)).map .int)]]
      rw [List.map_map, List.map_map]
      rfl
    rw [e]
    refine ren_outer hm hL hn hp hpl ss _ _ _ _ _ (fun x hx => hss x (by simp [hx])) (by simp at hl ⊢; omega) (fun s hs => ?_) fun acc' s5 s8 s9 s10 l1 ok' => q acc' s5 s8 s9 s10 (by simp at l1 ⊢; omega) ok'
    rcases List.mem_append.mp hs with z | z
    · exact h s z
    · rw [List.mem_singleton.mp z]; exact ok
theorem pl_law_renamed : ∀ sls Q E, m_law_renamed sls Q E → mBody [] 3 8 t_law_renamed sls Q E := by
  rintro sls Q E ⟨m, names, spots, rfl, hm, hn, hsp, q⟩
  have l4 := hm.l4
  have l2' := hm.l2
  have s8 := hm.s8
  obtain ⟨L, hL⟩ : ∃ L : Nat, m.L = L := ⟨m.L.toNat, by omega⟩
  have hLn : m.L.toNat = L := by omega
  rw [hLn] at hn
  have sl : spots.length = m.st.length := by rw [hsp.length_eq, List.length_range]
  refine ⟨_, rfl, rfl, _, _, rfl, _, _, rfl, rfl, ?_⟩
  refine ⟨_, _, rfl, rfl, _, rfl, by rw [List.length_map]; omega, by rw [List.length_map]; omega, rfl, ?_⟩
  rw [List.length_map, Int.toNat_natCast, rngI_F]
  refine rComp_map (fun d => fI (spots.idxOf (numD d).toNat)) _ _ _ (fun d hd R P hR => ?_) (by simp only [List.length_nil, List.length_map, List.length_range']; exact sz (by omega)) ?_
  · obtain ⟨j, hj, rfl⟩ := List.mem_map.mp hd
    have hj' : j < m.st.length := by
      have := List.mem_range'_1.mp hj
      omega
    have := gIndex_nat (xs := spots) (j := j) (hsp.mem_iff.mpr (List.mem_range.mpr hj'))
    exact ⟨⟨_, rfl⟩, _, _, _, rfl, rfl, this, hR _ rfl⟩
  have ep : ([] : List PyData) ++ List.map (fun d => fI (spots.idxOf (numD d).toNat)) (List.map fI (List.range' 0 m.st.length)) = ((List.range m.st.length).map fun j => spots.idxOf j).map fun i => .int (i : Nat) := by
    rw [List.nil_append, List.map_map, List.map_map, List.range_eq_range']
    rfl
  rw [ep]
  refine ⟨sz (by simp), _, rfl, ?_⟩
  rw [hL]
  refine ren_outer (places := (List.range m.st.length).map fun j => spots.idxOf j) hm hL hn (by simp) (fun x hx => ?_) spots [] _ _ _ _ (fun x hx => List.mem_range.mp (hsp.mem_iff.mp hx)) (by simp; omega) (by simp) fun acc s5 s8' s9 s10 l1 ok => ?_
  · obtain ⟨j, hj, rfl⟩ := List.mem_map.mp hx
    have := List.idxOf_lt_length_of_mem (hsp.mem_iff.mpr hj)
    omega
  have al : acc.length = m.st.length := by simp at l1; omega
  have q' := q ⟨L, acc⟩ ⟨by show 2 ≤ (L : Int); omega, by show (L : Int) ≤ 4; omega, by show 1 ≤ acc.length; have := hm.s1; omega, by show acc.length ≤ 8; omega, fun s hs => by
    obtain ⟨x, y, z⟩ := ok s hs
    exact ⟨x, y, fun i hi => by have := z i hi; exact ⟨this.1, by show i < (acc.length : Int); omega⟩⟩⟩
  exact ⟨_, _, rfl, rfl, sz (by simp), q'⟩
end Hd
end

section
set_option Elab.async false
set_option linter.all false
set_option maxRecDepth 100000
set_option maxHeartbeats 0
set_option autoImplicit false
namespace Hd
open PySem PySem.Spec PyProof.Rows L2 L3
abbrev intO (xs : List Int) : Sl := .ow (.ls (xs.map .int))
theorem natO_int (xs : List Nat) : xs.map fI = (xs.map fun i => ((i : Nat) : Int)).map .int := by
  rw [List.map_map]
  rfl
theorem int_push {xs : List Int} {x : Int} : xs.map PyData.int ++ [.int x] = (xs ++ [x]).map .int := by simp
abbrev anyIn : RS := rSeq (rSet 12 (pBin gAdd (pBin gAdd (rN 5) (rC (.int 1))) (eCall 2 m_law_take (bC (rN 0) (bC (pBin gSub (rN 3) (rN 5)) bN))))) (rSeq (rSet 13 (eIf (cOr (cV (pBin gEq (rN 9) (rN 10))) (cV (pBin gEq (rN 7) (rC (.int 0))))) (eCall 2 m_law_take (bC (rN 0) (bC (rN 3) bN))) (eFn gMin2 (aC (rN 12) (aC (pBin gSub (rN 3) (rC (.int 1))) aN))))) (rDrop (eMt gAppend 11 (aC (rN 13) aN))))
theorem any_inner {cs : List Int} {L N st : Nat} {own free : Int} {e1 e2 e4 e6 e8 : Sl} {D : Ed} (hN : 1 ≤ N) (hN8 : N ≤ 8) (hst : st < N) (A : Int) (hA : A < 2 ^ 21) :
    ∀ (n k : Nat) (ws : List Int) (a z : Int) (s9 s12 s13 : Sl), k + n = L → k ≤ 4 → L ≤ 4 → 0 ≤ a → a ≤ A + 2 * k → ws.length = k → (∀ x ∈ ws, 0 ≤ x ∧ x < N) →
    (∀ (ws : List Int) (a' z : Int) (s9 s12 s13 : Sl), a ≤ a' → a' ≤ A + 2 * L → ws.length = L → (∀ x ∈ ws, 0 ≤ x ∧ x < N) → D.nx [.ow (.pn cs a' z), e1, e2, .fz (.int N), e4, .fz (fI st), e6, .fz (.int free), e8, s9, .fz (.int own), intO ws, s12, s13]) →
    rLoop (gN 9) anyIn D ((List.range' k n).map fI) [.ow (.pn cs a z), e1, e2, .fz (.int N), e4, .fz (fI st), e6, .fz (.int free), e8, s9, .fz (.int own), intO ws, s12, s13]
  | 0, k, ws, a, z, s9, s12, s13, e, hk, hL, a0, a1, h1, h2, q => q ws a z s9 s12 s13 (Int.le_refl _) (by omega) (by omega) h2
  | n + 1, k, ws, a, z, s9, s12, s13, e, hk, hL, a0, a1, h1, h2, q => by
    rw [List.range'_succ, List.map_cons]
    have fin : ∀ (x a' z' : Int) (s12 : Sl), 0 ≤ x → x < N → a ≤ a' → a' ≤ a + 2 → (rDrop (eMt gAppend 11 (aC (rN 13) aN))) { D with nx := rLoop (gN 9) anyIn D ((List.range' (k + 1) n).map fI), ct := rLoop (gN 9) anyIn D ((List.range' (k + 1) n).map fI), bk := D.nx } [.ow (.pn cs a' z'), e1, e2, .fz (.int N), e4, .fz (fI st), e6, .fz (.int free), e8, .fz (fI k), .fz (.int own), intO ws, s12, .fz (.int x)] := fun x a' z' s12 x0 x1 g1 g2 => by
      refine ⟨⟨_, rfl⟩, _, _, _, rfl, if_pos (show (ws.map PyData.int).length < sizeLine by rw [List.length_map, sizeLine_eq]; omega), ?_⟩
      rw [int_push]
      refine any_inner hN hN8 hst A hA n (k + 1) _ a' z' _ _ _ (by omega) (by omega) hL (by omega) (by omega) (by simp [h1]) (fun y hy => ?_) fun ws' a2 z2 s9 s12 s13 b1 b2 b3 b4 => q ws' a2 z2 s9 s12 s13 (by omega) b2 b3 b4
      rcases List.mem_append.mp hy with m | m
      · exact h2 y m
      · rw [List.mem_singleton.mp m]; exact ⟨x0, x1⟩
    refine ⟨_, _, _, rfl, rfl, rfl, _, _, _, rfl, rfl, rfl, rfl, by simp [brs], cs, a, z, _, rfl, a0, by omega, by omega, by omega, fun y a2 z2 y0 y1 g1 g2 => ⟨_, _, _, rfl, rfl, rfl, ?_⟩⟩
    have draw : eCall 2 m_law_take (bC (rN 0) (bC (rN 3) bN)) [.ow (.pn cs a2 z2), e1, e2, .fz (.int N), e4, .fz (fI st), e6, .fz (.int free), e8, .fz (fI k), .fz (.int own), intO ws, .fz (.int (((st : Nat) : Int) + 1 + y)), s13] (fun r e => ast 13 r e fun e => (rDrop (eMt gAppend 11 (aC (rN 13) aN))) { D with nx := rLoop (gN 9) anyIn D ((List.range' (k + 1) n).map fI), ct := rLoop (gN 9) anyIn D ((List.range' (k + 1) n).map fI), bk := D.nx } e) D.ex :=
      ⟨rfl, by simp [brs], cs, a2, z2, (N : Int), rfl, by omega, by omega, by omega, by omega, fun x a3 z3 x0 x1 g3 g4 => fin x a3 z3 _ x0 x1 (by omega) (by omega)⟩
    refine ⟨_, _, _, rfl, rfl, gEq_int, _, rfl, ?_⟩
    cases hb : (((k : Nat) : Int) == own) with
    | true => exact draw
    | false =>
      refine ⟨_, _, _, rfl, rfl, gEq_int, _, rfl, ?_⟩
      cases hc : (free == 0) with
      | true => exact draw
      | false =>
        refine ⟨_, _, _, rfl, rfl, rfl, _, rfl, ?_⟩
        exact fin _ a2 z2 _ (by omega) (by omega) (by omega) (by omega)
end Hd
end

section
set_option Elab.async false
set_option linter.all false
set_option maxRecDepth 100000
set_option maxHeartbeats 0
set_option autoImplicit false
namespace Hd
open PySem PySem.Spec PyProof.Rows L2 L3
abbrev anyOut : RS := rSeq (rSet 8 (eIf (cV (pBin gGt (eCall 2 m_law_take (bC (rN 0) (bC (rC (.int 3)) bN))) (rC (.int 0)))) (eCall 2 m_law_drawn (bC (rN 0) (bC (rN 1) bN))) (eLRng (rN 1)))) (rSeq (rPar 10 11 (eCall 2 m_law_take (bC (rN 0) (bC (rN 1) bN))) (xLst (fun _ => some []))) (rSeq (rFor (iR1 (aC (rN 1) aN)) (gN 9) anyIn) (rSeq (rIf (cAnd (cV (pBin gEq (rN 5) (pBin gSub (rN 3) (rC (.int 1))))) (cV (pBin gGt (rN 6) (rC (.int 0))))) (rPar 8 11 (eLRng (rN 1)) (xRep (gCons1 (gSlot 5) (fun _ => some [])) (gSlot 1))) rNext) (rDrop (eMt gAppend 4 (aC (eTup (aC (pOne gTuple (rN 8)) (aC (pOne gTuple (rN 11)) aN))) aN))))))
theorem repN (L : Nat) (d : PyData) : (List.replicate (L : Int).toNat [d]).flatten = List.replicate L d := by
  rw [Int.toNat_natCast]
  induction L with
  | zero => rfl
  | succ n ih => rw [List.replicate_succ, List.flatten_cons, ih, List.replicate_succ]; rfl
theorem perm_cast {ps : List Nat} {L : Nat} (h : ps.Perm (List.range L)) : (ps.map fun i => ((i : Nat) : Int)).Perm (rg L) := List.Perm.map _ h
theorem any_outer {cs : List Int} {L N : Nat} {calm free : Int} {e2 : Sl} {D : Ed} (hN : 1 ≤ N) (hN8 : N ≤ 8) (hL2 : 2 ≤ L) (hL4 : L ≤ 4) (A : Int) (hA : A < 2 ^ 20 + 100) :
    ∀ (n k : Nat) (acc : List (List Int × List Int)) (a z : Int) (s5 s8 s9 s10 s11 s12 s13 : Sl), k + n = N → 0 ≤ a → a ≤ A + 14 * k → acc.length = k → (∀ s ∈ acc, SOK L N s) →
    (∀ (acc : List (List Int × List Int)) (a' z : Int) (s5 s8 s9 s10 s11 s12 s13 : Sl), a ≤ a' → a' ≤ A + 14 * N → acc.length = N → (∀ s ∈ acc, SOK L N s) → D.nx [.ow (.pn cs a' z), .fz (.int L), e2, .fz (.int N), .ow (.ls (acc.map stD)), s5, .fz (.int calm), .fz (.int free), s8, s9, s10, s11, s12, s13]) →
    rLoop (gN 5) anyOut D ((List.range' k n).map fI) [.ow (.pn cs a z), .fz (.int L), e2, .fz (.int N), .ow (.ls (acc.map stD)), s5, .fz (.int calm), .fz (.int free), s8, s9, s10, s11, s12, s13]
  | 0, k, acc, a, z, s5, s8, s9, s10, s11, s12, s13, e, a0, a1, h1, h2, q => q acc a z s5 s8 s9 s10 s11 s12 s13 (Int.le_refl _) (by omega) (by omega) h2
  | n + 1, k, acc, a, z, s5, s8, s9, s10, s11, s12, s13, e, a0, a1, h1, h2, q => by
    rw [List.range'_succ, List.map_cons]
    -- the state is kept
    have fin : ∀ (ts ns : List Int) (a' z' : Int) (s9 s10 s12 s13 : Sl), SOK L N (ts, ns) → a ≤ a' → a' ≤ a + 14 → (rDrop (eMt gAppend 4 (aC (eTup (aC (pOne gTuple (rN 8)) (aC (pOne gTuple (rN 11)) aN))) aN))) { D with nx := rLoop (gN 5) anyOut D ((List.range' (k + 1) n).map fI), ct := rLoop (gN 5) anyOut D ((List.range' (k + 1) n).map fI), bk := D.nx }
        [.ow (.pn cs a' z'), .fz (.int L), e2, .fz (.int N), .ow (.ls (acc.map stD)), .fz (fI k), .fz (.int calm), .fz (.int free), intO ts, s9, s10, intO ns, s12, s13] := fun ts ns a' z' s9 s10 s12 s13 ok g1 g2 => by
      refine ⟨⟨_, rfl⟩, _, _, rfl, rfl, _, _, rfl, rfl, sz (by simp), _, _, _, rfl, if_pos (show (acc.map stD).length < sizeLine by rw [List.length_map, sizeLine_eq]; omega), ?_⟩
      have e3 : acc.map stD ++ [PyData.tuple [.tuple (ts.map .int), .tuple (ns.map .int)]] = (acc ++ [(ts, ns)]).map stD := by
        rw [List.map_append]; rfl
      rw [e3]
      refine any_outer hN hN8 hL2 hL4 A hA n (k + 1) _ a' z' _ _ _ _ _ _ _ (by omega) (by omega) (by omega) (by simp [h1]) (fun s hs => ?_) fun acc' a2 z2 s5 s8 s9 s10 s11 s12 s13 b1 b2 b3 b4 => q acc' a2 z2 s5 s8 s9 s10 s11 s12 s13 (by omega) b2 b3 b4
      rcases List.mem_append.mp hs with m | m
      · exact h2 s m
      · rw [List.mem_singleton.mp m]; exact ok
    -- behind the letters' turns
    have rest : ∀ (ts : List Int) (a' z' : Int), ts.Perm (rg L) → a ≤ a' → a' ≤ a + 5 → (rSeq (rPar 10 11 (eCall 2 m_law_take (bC (rN 0) (bC (rN 1) bN))) (xLst (fun _ => some []))) (rSeq (rFor (iR1 (aC (rN 1) aN)) (gN 9) anyIn) (rSeq (rIf (cAnd (cV (pBin gEq (rN 5) (pBin gSub (rN 3) (rC (.int 1))))) (cV (pBin gGt (rN 6) (rC (.int 0))))) (rPar 8 11 (eLRng (rN 1)) (xRep (gCons1 (gSlot 5) (fun _ => some [])) (gSlot 1))) rNext) (rDrop (eMt gAppend 4 (aC (eTup (aC (pOne gTuple (rN 8)) (aC (pOne gTuple (rN 11)) aN))) aN)))))) { D with nx := rLoop (gN 5) anyOut D ((List.range' (k + 1) n).map fI), ct := rLoop (gN 5) anyOut D ((List.range' (k + 1) n).map fI), bk := D.nx }
        [.ow (.pn cs a' z'), .fz (.int L), e2, .fz (.int N), .ow (.ls (acc.map stD)), .fz (fI k), .fz (.int calm), .fz (.int free), intO ts, s9, s10, s11, s12, s13] := fun ts a' z' ht g1 g2 => by
      refine ⟨rfl, by simp [brs], cs, a', z', (L : Int), rfl, by omega, by omega, by omega, by omega, fun own a2 z2 _ _ g3 g4 => ⟨_, rfl, [], rfl, sz (by simp), _, rfl, ?_⟩⟩
      refine ⟨(L : Int), rfl, by omega, by omega, ?_⟩
      rw [Int.toNat_natCast, rngI_F]
      refine any_inner (L := L) (own := own) hN hN8 (show k < N by omega) a2 (by omega) L 0 [] a2 z2 _ _ _ (by omega) (by omega) (by omega) (by omega) (by omega) rfl (by simp) fun ws a3 z3 s9 s12 s13 b1 b2 b3 b4 => ?_
      have ok1 : SOK L N (ts, ws) := ⟨by rw [Int.toNat_natCast]; exact ht, by show (ws.length : Int) = L; omega, b4⟩
      refine ⟨_, _, _, rfl, rfl, rfl, _, _, _, rfl, rfl, gEq_int, _, rfl, ?_⟩
      cases hb : (((k : Nat) : Int) == ((N : Nat) : Int) - 1) with
      | false => exact fin ts ws a3 z3 _ _ _ _ ok1 (by omega) (by omega)
      | true =>
        refine ⟨_, _, _, rfl, rfl, rfl, _, rfl, ?_⟩
        cases hc : decide (0 < calm) with
        | false => exact fin ts ws a3 z3 _ _ _ _ ok1 (by omega) (by omega)
        | true =>
          refine ⟨(L : Int), rfl, by omega, by omega, _, rfl, [fI k], (L : Int), rfl, rfl, by omega, by omega, by simp, _, rfl, ?_⟩
          rw [Int.toNat_natCast, rngI_rg]
          have e4 : (List.replicate L [fI k]).flatten = (List.replicate L ((k : Nat) : Int)).map .int := by
            have := repN L (fI k)
            rw [Int.toNat_natCast] at this
            rw [this, List.map_replicate]
            rfl
          rw [e4]
          exact fin (rg L) _ a3 z3 _ _ _ _ ⟨by rw [Int.toNat_natCast], by simp, fun i hi => by rw [(List.mem_replicate.mp hi).2]; constructor <;> omega⟩ (by omega) (by omega)
    refine ⟨rfl, by simp [brs], cs, a, z, 3, rfl, a0, by omega, by decide, by decide, fun x a2 z2 _ _ g1 g2 => ⟨_, _, _, rfl, rfl, rfl, _, rfl, ?_⟩⟩
    cases hx : decide (0 < x) with
    | true =>
      refine ⟨rfl, by simp [brs], cs, a2, z2, L, rfl, by omega, by omega, by omega, fun ps a3 z3 hp b1 b2 => ?_⟩
      have := rest (ps.map fun i => ((i : Nat) : Int)) a3 z3 (perm_cast hp) (by omega) (by omega)
      unfold intO at this
      rw [← natO_int] at this
      exact this
    | false =>
      refine ⟨(L : Int), rfl, by omega, by omega, ?_⟩
      rw [Int.toNat_natCast, rngI_rg]
      exact rest (rg L) a2 z2 (.refl _) (by omega) (by omega)
theorem pl_law_any_machine : ∀ sls Q E, m_law_any_machine sls Q E → mBody [0] 3 11 t_law_any_machine sls Q E := by
  rintro sls Q E ⟨cs, a, z, L, most, rfl, a0, a1, hL2, hL4, hm1, hm8, q⟩
  obtain ⟨L, rfl⟩ : ∃ k : Nat, L = (k : Nat) := ⟨L.toNat, by omega⟩
  refine ⟨rfl, by simp [brs], cs, a, z, most, rfl, a0, by omega, by omega, by omega, fun x a2 z2 x0 x1 g1 g2 => ⟨_, _, _, rfl, rfl, rfl, ?_⟩⟩
  refine ⟨rfl, by simp [brs], cs, a2, z2, 5, rfl, by omega, by omega, by decide, by decide, fun calm a3 z3 _ _ g3 g4 => ?_⟩
  refine ⟨rfl, by simp [brs], cs, a3, z3, 8, rfl, by omega, by omega, by decide, by decide, fun free a4 z4 _ _ g5 g6 => ⟨_, _, rfl, ?_⟩⟩
  refine ⟨sz (by simp), 1 + x, rfl, by omega, by omega, ?_⟩
  obtain ⟨N, hN⟩ : ∃ k : Nat, 1 + x = (k : Nat) := ⟨(1 + x).toNat, by omega⟩
  rw [hN, Int.toNat_natCast, rngI_F]
  refine any_outer (by omega) (by omega) (by omega) (by omega) a4 (by omega) N 0 [] a4 z4 _ _ _ _ _ _ _ (by omega) (by omega) (by omega) rfl (by simp) fun acc a5 z5 s5 s8 s9 s10 s11 s12 s13 b1 b2 b3 b4 => ?_
  refine ⟨_, _, rfl, rfl, sz (by simp), ?_⟩
  exact q ⟨L, acc⟩ a5 z5 ⟨hL2, hL4, by show 1 ≤ acc.length; omega, by show acc.length ≤ 8; omega, fun s hs => by
    obtain ⟨x, y, z⟩ := b4 s hs
    exact ⟨x, y, fun i hi => by have := z i hi; exact ⟨this.1, by show i < (acc.length : Int); omega⟩⟩⟩ (by omega) (by omega)
theorem tabs_ok : ∀ m ∈ tabs, m.ok := by
  have h : ∀ m ∈ tabs, 2 ≤ m.L ∧ m.L ≤ 4 ∧ 1 ≤ m.st.length ∧ m.st.length ≤ 8 ∧ ∀ s ∈ m.st, srtI s.1 = rg m.L.toNat ∧ (s.2.length : Int) = m.L ∧ ∀ i ∈ s.2, 0 ≤ i ∧ i < m.st.length := by decide +kernel
  intro m hm
  obtain ⟨a, b, c, d, e⟩ := h m hm
  exact ⟨a, b, c, d, fun s hs => by
    obtain ⟨x, y, z⟩ := e s hs
    exact ⟨by rw [← x]; exact (srtI_perm s.1).symm, y, z⟩⟩
theorem pl_law_machine : ∀ sls Q E, m_law_machine sls Q E → mBody [0] 2 1 t_law_machine sls Q E := by
  rintro sls Q E ⟨cs, a, z, most, rfl, a0, a1, hm1, hm8, q⟩
  refine ⟨rfl, by simp [brs], cs, a, z, 5, rfl, a0, by omega, by decide, by decide, fun x a2 z2 _ _ g1 g2 => ⟨_, _, _, rfl, rfl, rfl, _, rfl, ?_⟩⟩
  cases hx : decide (2 < x) with
  | false =>
    refine ⟨rfl, by simp [brs], cs, a2, z2, 3, rfl, by omega, by omega, by decide, by decide, fun y a3 z3 y0 y1 g3 g4 => ⟨_, _, _, rfl, rfl, rfl, ?_⟩⟩
    exact ⟨rfl, by simp [brs], cs, a3, z3, 2 + y, most, rfl, by omega, by omega, by omega, by omega, hm1, hm8, fun m a4 z4 hm b1 b2 => q m a4 z4 hm (by omega) (by omega)⟩
  | true =>
    refine ⟨rfl, by simp [brs], rfl, rfl, by simp [brs], cs, a2, z2, tabs.map Mc.d, rfl, by omega, by omega, by decide, by decide, fun d hd a3 z3 g3 g4 => ?_⟩
    obtain ⟨m, hm, rfl⟩ := List.mem_map.mp hd
    have ok := tabs_ok m hm
    have l2 := ok.l2
    have l4 := ok.l4
    have s8 := ok.s8
    obtain ⟨L, hL⟩ : ∃ L : Nat, m.L = L := ⟨m.L.toNat, by omega⟩
    have hLn : m.L.toNat = L := by omega
    have eL : (PyData.int m.L) = .int (L : Nat) := by rw [hL]
    refine ⟨_, _, _, rfl, rfl, show gIx m.d (.int 0) = some (.fz (.int (L : Nat))) by rw [← eL]; rfl, rfl, by simp [brs], cs, a3, z3, L, rfl, by omega, by omega, by omega, fun names a4 z4 hn b1 b2 => ?_⟩
    refine ⟨_, _, _, rfl, rfl, rfl, _, _, rfl, rfl, rfl, by simp [brs], cs, a4, z4, m.st.length, by rw [List.length_map]; rfl, by omega, by omega, by omega, fun spots a5 z5 hs b3 b4 => ?_⟩
    exact ⟨rfl, by simp [brs], m, names, spots, rfl, ok, by rw [hLn]; exact hn, hs, fun m' ok' => q m' a5 z5 ok' (by omega) (by omega)⟩
end Hd
end

section
set_option Elab.async false
set_option linter.all false
set_option maxRecDepth 100000
set_option maxHeartbeats 0
set_option autoImplicit false
namespace Hd
open PySem PySem.Spec PyProof.Rows L2 L3
theorem isExc_exD (er : Er) : isExc (exD er) = some er.c := by
  obtain ⟨c, g⟩ := er
  cases g with
  | none => rfl
  | some p => obtain ⟨nm, y⟩ := p; rfl
theorem isDict_exD (er : Er) : isDict (exD er) = true := by
  obtain ⟨c, g⟩ := er
  cases g with
  | none => rfl
  | some p => obtain ⟨nm, y⟩ := p; rfl
theorem gCl_er' {er : Er} {e : Str} (h : er.c ∈ xcs) : gIs (gCl xcs e) (exD er) = some (fzB (isX er.c e)) := by
  unfold gIs gCl
  rw [isExc_exD]
  show Option.map fzB (if er.c ∈ xcs then some (isX er.c e) else none) = _
  rw [if_pos h]
  rfl
theorem gCls_er {er : Er} {es : List Str} (h : er.c ∈ xcs) : gIs (gCls xcs es) (exD er) = some (fzB (es.any (isX er.c))) := by
  unfold gIs gCls
  rw [isExc_exD]
  show Option.map fzB (if er.c ∈ xcs then some (es.any (isX er.c)) else none) = _
  rw [if_pos h]
  rfl
theorem gVE_er' {er : Er} (h : er.c ∈ xcs) : gIs (gTy xcs "ValueError") (exD er) = some (fzB true) := by
  unfold gIs gTy
  rw [if_pos (isDict_exD er), if_pos ⟨rfl, er.c, h, isExc_exD er⟩]
  rfl
theorem isNon_exD (er : Er) : gIsN (exD er) .none = some (fzB false) := by
  obtain ⟨c, g⟩ := er
  cases g with
  | none => rfl
  | some p => obtain ⟨nm, y⟩ := p; rfl
theorem pl_law_no_machine : ∀ sls Q E, m_law_no_machine sls Q E → mBody [] 1 2 t_law_no_machine sls Q E := by
  rintro sls Q E ⟨d, rfl, hd, ht, q⟩
  have hx : isX xNoMachine.c "TurnError" = true := show isX "NoMachine" "TurnError" = true by decide +kernel
  have hm : ("NoMachine" : Str) ∈ xcs := by decide +kernel
  refine ⟨rfl, d, rfl, hd, fun h => (by rw [ht] at h; cases h), fun _ => ⟨hm, ?_⟩⟩
  rw [if_pos hx]
  have h1 : gIs (gCl xcs "NoMachine") (exD xNoMachine) = some (fzB true) := by
    rw [gCl_er' hm, show isX xNoMachine.c "NoMachine" = true by decide +kernel]
  exact ⟨_, _, rfl, h1, _, rfl, _, _, rfl, gVE_er' hm, q⟩
theorem shapedB (bs : List Bool) : SeqAt.shaped (.list (bs.map .bool)) = true ∧ PyData.plainAll (bs.map .bool) = true := by
  have h1 : PyData.canLayAll0 (bs.map PyData.bool) = true ∧ PyData.depthAll (bs.map PyData.bool) = 0 ∧ PyData.plainAll (bs.map .bool) = true := by
    induction bs with
    | nil => exact ⟨rfl, rfl, rfl⟩
    | cons b l ih => simp [PyData.canLayAll0, PyData.canLay0, PyData.depthAll, PyData.depth, PyData.plainAll, PyData.plain, ih.1, ih.2.1, ih.2.2]
  refine ⟨?_, h1.2.2⟩
  unfold SeqAt.shaped
  simp [PyData.canLay0, PyData.depth, h1.1, h1.2.1]
theorem eqvB (b : Bool) : PyData.eqv (.bool b) (.bool true) = b := by cases b <;> rfl
theorem gCount_b (bs : List Bool) : gCount (.list (bs.map .bool)) (.bool true) = some (fzI ((bs.countP id : Nat) : Int)) := by
  show (if _ then _ else _) = _
  rw [if_pos ⟨(shapedB bs).1, rfl, (shapedB bs).2, rfl⟩, List.countP_map]
  congr 3
  congr 1
  funext b
  exact eqvB b
theorem gIndex_b (bs : List Bool) : gIndex (.list (bs.map .bool)) (.bool true) = (bs.findIdx? id).map fun j => fzI (j : Nat) := by
  show (if _ then _ else _) = _
  rw [if_pos ⟨(shapedB bs).1, rfl⟩, List.findIdx?_map]
  congr 1
  congr 1
  funext b
  exact eqvB b
/-- the refusals that are told -/
inductive Told : Er → List Bool → Prop where
  | full (n : Int) : 0 ≤ n → n ≤ 12 → Told (xFull n) [true, false, false, false, false, false]
  | name (d : PyData) : Told (xNoName d) [false, true, false, false, false, false]
  | stand (d : PyData) : Told (xStanding d) [false, false, true, false, false, false]
  | row : Told xNoRow [false, false, false, true, false, false]
  | long : Told xTooLong [false, false, false, false, true, false]
def six : List Str := ["TooMany", "NoNumber", "NoFit", "NoMirror", "NoPaper", "NoMachine"]
theorem gApp_ok {ds : List PyData} {y : PyData} (h : ds.length ≤ 1000) : gAppend ds [y] = some (ds ++ [y], .none) := if_pos (show ds.length < sizeLine by rw [sizeLine_eq]; omega)
theorem told_facts {er : Er} {bs : List Bool} (h : Told er bs) : er.c ∈ xcs ∧ [isX er.c "Full", isX er.c "NoName", isX er.c "Standing", isX er.c "NoRow", isX er.c "TooLong", six.any (isX er.c)] = bs ∧ isX er.c "TurnError" = true := by
  cases h with
  | full n _ _ => exact ⟨show ("Full" : Str) ∈ xcs by decide +kernel, show [isX "Full" "Full", isX "Full" "NoName", isX "Full" "Standing", isX "Full" "NoRow", isX "Full" "TooLong", six.any (isX "Full")] = _ by decide +kernel, show isX "Full" "TurnError" = true by decide +kernel⟩
  | name d => exact ⟨show ("NoName" : Str) ∈ xcs by decide +kernel, show [isX "NoName" "Full", isX "NoName" "NoName", isX "NoName" "Standing", isX "NoName" "NoRow", isX "NoName" "TooLong", six.any (isX "NoName")] = _ by decide +kernel, show isX "NoName" "TurnError" = true by decide +kernel⟩
  | stand d => exact ⟨show ("Standing" : Str) ∈ xcs by decide +kernel, show [isX "Standing" "Full", isX "Standing" "NoName", isX "Standing" "Standing", isX "Standing" "NoRow", isX "Standing" "TooLong", six.any (isX "Standing")] = _ by decide +kernel, show isX "Standing" "TurnError" = true by decide +kernel⟩
  | row => exact ⟨show ("NoRow" : Str) ∈ xcs by decide +kernel, show [isX "NoRow" "Full", isX "NoRow" "NoName", isX "NoRow" "Standing", isX "NoRow" "NoRow", isX "NoRow" "TooLong", six.any (isX "NoRow")] = _ by decide +kernel, show isX "NoRow" "TurnError" = true by decide +kernel⟩
  | long => exact ⟨show ("TooLong" : Str) ∈ xcs by decide +kernel, show [isX "TooLong" "Full", isX "TooLong" "NoName", isX "TooLong" "Standing", isX "TooLong" "NoRow", isX "TooLong" "TooLong", six.any (isX "TooLong")] = _ by decide +kernel, show isX "TooLong" "TurnError" = true by decide +kernel⟩
def wordsL : List PyData := [.str "", .str "name", .str "standing", .str "row", .str "long"]
theorem str_len : ("full " : Str).length = 5 := by decide +kernel
theorem n_len {n : Int} (h0 : 0 ≤ n) (h1 : n ≤ 12) : (Str.ofString (toString n)).length ≤ 100 := by
  have : n = 0 ∨ n = 1 ∨ n = 2 ∨ n = 3 ∨ n = 4 ∨ n = 5 ∨ n = 6 ∨ n = 7 ∨ n = 8 ∨ n = 9 ∨ n = 10 ∨ n = 11 ∨ n = 12 := by omega
  rcases this with h | h | h | h | h | h | h | h | h | h | h | h | h <;> subst h <;> decide +kernel
abbrev toldRest : RS := rSeq (rIf (cV (pBin gIsN (rN 4) (rC .none))) (rRet (rC (.str "told"))) rNext) (rSeq (rSet 6 (eLst (aC (pOne (gIs (gCl xcs "Full")) (rN 4)) (aC (pOne (gIs (gCl xcs "NoName")) (rN 4)) (aC (pOne (gIs (gCl xcs "Standing")) (rN 4)) aN))))) (rSeq (rSet 6 (pBin gAdd (rN 6) (eLst (aC (pOne (gIs (gCl xcs "NoRow")) (rN 4)) (aC (pOne (gIs (gCl xcs "TooLong")) (rN 4)) aN))))) (rSeq (rDrop (eMt gAppend 6 (aC (eUn (gIs (gCls xcs ["TooMany", "NoNumber", "NoFit", "NoMirror", "NoPaper", "NoMachine"])) (rN 4)) aN))) (rSeq (rIf (cOr (cV (pBin gNe (eBm gCount (rN 6) (rC (.bool true))) (rC (.int 1)))) (cV (pBin gIx (rN 6) (eUn gNeg (rC (.int 1)))))) (rRet (rC (.str "odd"))) rNext) (rRet (eIf (cV (pBin gIx (rN 6) (rC (.int 0)))) (pBin gAdd (rC (.str "full ")) (pOne gStr (eFld xcs "most" (rN 4)))) (pBin gIx (eLst (aC (rC (.str "")) (aC (rC (.str "name")) (aC (rC (.str "standing")) (aC (rC (.str "row")) (aC (rC (.str "long")) aN)))))) (eBm gIndex (rN 6) (rC (.bool true))))))))))
theorem told_rest {er : Er} {bs : List Bool} (h : Told er bs) {hs : Sl} {e1 e2 e3 e5 e6 : Sl} {D : Ed} (q : ∀ s6, D.rt (.fz (.str (wordE er))) [hs, e1, e2, e3, .fz (exD er), e5, s6]) : toldRest D [hs, e1, e2, e3, .fz (exD er), e5, e6] := by
  obtain ⟨hc, hb, _⟩ := told_facts h
  refine ⟨_, _, _, rfl, rfl, isNon_exD er, _, rfl, ?_⟩
  refine ⟨_, _, rfl, gCl_er' hc, _, _, rfl, gCl_er' hc, _, _, rfl, gCl_er' hc, sz (by simp), ?_⟩
  refine ⟨_, _, rfl, gCl_er' hc, _, _, rfl, gCl_er' hc, sz (by simp), _, _, _, rfl, rfl, gAdd_ls (sz (by simp)), ?_⟩
  refine ⟨⟨_, rfl⟩, _, gCls_er hc, _, _, _, rfl, gApp_ok (by simp), ?_⟩
  have e : [PyData.bool (isX er.c "Full"), .bool (isX er.c "NoName"), .bool (isX er.c "Standing")] ++ [.bool (isX er.c "NoRow"), .bool (isX er.c "TooLong")] ++ [.bool (six.any (isX er.c))] = bs.map .bool := by
    rw [← hb]; rfl
  have e' : ∀ (R : List PyData → Prop), R (bs.map .bool) → R ([PyData.bool (isX er.c "Full"), .bool (isX er.c "NoName"), .bool (isX er.c "Standing")] ++ [.bool (isX er.c "NoRow"), .bool (isX er.c "TooLong")] ++ [.bool (six.any (isX er.c))]) := fun R hR => by rw [e]; exact hR
  refine e' (fun l => (rSeq (rIf (cOr (cV (pBin gNe (eBm gCount (rN 6) (rC (.bool true))) (rC (.int 1)))) (cV (pBin gIx (rN 6) (eUn gNeg (rC (.int 1)))))) (rRet (rC (.str "odd"))) rNext) (rRet (eIf (cV (pBin gIx (rN 6) (rC (.int 0)))) (pBin gAdd (rC (.str "full ")) (pOne gStr (eFld xcs "most" (rN 4)))) (pBin gIx (eLst (aC (rC (.str "")) (aC (rC (.str "name")) (aC (rC (.str "standing")) (aC (rC (.str "row")) (aC (rC (.str "long")) aN)))))) (eBm gIndex (rN 6) (rC (.bool true))))))) D [hs, e1, e2, e3, .fz (exD er), e5, .ow (.ls l)]) ?_
  have gc := gCount_b bs
  have gi := gIndex_b bs
  cases h with
  | full n n0 n1 =>
    refine ⟨⟨_, rfl⟩, _, _, _, rfl, rfl, gc, _, _, _, rfl, rfl, gNe_int, _, rfl, _, rfl, _, _, _, rfl, rfl, rfl, _, rfl, ?_⟩
    refine ⟨_, _, _, rfl, rfl, rfl, _, rfl, ?_⟩
    refine ⟨_, _, rfl, ⟨"Full", by decide +kernel, rfl⟩, rfl, _, _, rfl, if_pos (by
      have : n.natAbs ≤ 12 := by omega
      exact Nat.lt_of_le_of_lt (Nat.log2_le_self _) (by omega)), ?_⟩
    refine ⟨_, _, _, rfl, rfl, gAdd_st (by have := n_len n0 n1; rw [str_len]; exact sz (by omega)), ?_⟩
    exact q _
  | name d =>
    refine ⟨⟨_, rfl⟩, _, _, _, rfl, rfl, gc, _, _, _, rfl, rfl, gNe_int, _, rfl, _, rfl, _, _, _, rfl, rfl, rfl, _, rfl, ?_⟩
    exact ⟨_, _, _, rfl, rfl, rfl, _, rfl, sz (by simp), ⟨_, rfl⟩, _, _, _, rfl, rfl, gi, _, _, _, rfl, rfl, rfl, q _⟩
  | stand d =>
    refine ⟨⟨_, rfl⟩, _, _, _, rfl, rfl, gc, _, _, _, rfl, rfl, gNe_int, _, rfl, _, rfl, _, _, _, rfl, rfl, rfl, _, rfl, ?_⟩
    exact ⟨_, _, _, rfl, rfl, rfl, _, rfl, sz (by simp), ⟨_, rfl⟩, _, _, _, rfl, rfl, gi, _, _, _, rfl, rfl, rfl, q _⟩
  | row =>
    refine ⟨⟨_, rfl⟩, _, _, _, rfl, rfl, gc, _, _, _, rfl, rfl, gNe_int, _, rfl, _, rfl, _, _, _, rfl, rfl, rfl, _, rfl, ?_⟩
    exact ⟨_, _, _, rfl, rfl, rfl, _, rfl, sz (by simp), ⟨_, rfl⟩, _, _, _, rfl, rfl, gi, _, _, _, rfl, rfl, rfl, q _⟩
  | long =>
    refine ⟨⟨_, rfl⟩, _, _, _, rfl, rfl, gc, _, _, _, rfl, rfl, gNe_int, _, rfl, _, rfl, _, _, _, rfl, rfl, rfl, _, rfl, ?_⟩
    exact ⟨_, _, _, rfl, rfl, rfl, _, rfl, sz (by simp), ⟨_, rfl⟩, _, _, _, rfl, rfl, gi, _, _, _, rfl, rfl, rfl, q _⟩
end Hd
end

section
set_option Elab.async false
set_option linter.all false
set_option maxRecDepth 100000
set_option maxHeartbeats 0
set_option autoImplicit false
namespace Hd
open PySem PySem.Spec PyProof.Rows L2 L3
theorem newE_told {r : DKs} {d : PyData} {e : Er} (h : newE r d = some e) : ∃ bs, Told e bs := by
  unfold newE at h
  split at h
  · cases h; exact ⟨_, .name d⟩
  · split at h
    · cases h; exact ⟨_, .stand d⟩
    · cases h
theorem setE_told {r : DKs} {a d : PyData} {e : Er} (h : setE r a d = .inl e) : ∃ bs, Told e bs := by
  unfold setE at h
  split at h
  · cases h; exact ⟨_, .full 12 (by decide) (by decide)⟩
  · cases h
theorem needE_told {r : DKs} {d : PyData} {e : Er} (h : needE r d = .inl e) : ∃ bs, Told e bs := by
  cases d with
  | str z =>
    have h : (if nameB (.str z) = false then Sum.inl (xNoName (.str z)) else (match kval r (.inr z) with
          | some v => .inr v
          | none => .inl (xNoName (.str z)))) = Sum.inl e := h
    split at h
    · cases h; exact ⟨_, .name _⟩
    · split at h
      · cases h
      · cases h; exact ⟨_, .name _⟩
  | none => cases h; exact ⟨_, .name _⟩
  | bool _ => cases h; exact ⟨_, .name _⟩
  | int _ => cases h; exact ⟨_, .name _⟩
  | list _ => cases h; exact ⟨_, .name _⟩
  | tuple _ => cases h; exact ⟨_, .name _⟩
  | dict _ => cases h; exact ⟨_, .name _⟩
theorem putE_told {k : PyData} {r : DKs} {a d : PyData} {e : Er} (h : putE k r a d = .inl e) : ∃ bs, Told e bs := by
  unfold putE at h
  split at h
  · rename_i e' he; cases h; exact newE_told he
  · split at h
    · cases h; exact ⟨_, .row⟩
    · exact setE_told h
theorem joinE_told {r : DKs} {a b d : PyData} {e : Er} (h : joinE r a b d = .inl e) : ∃ bs, Told e bs := by
  unfold joinE at h
  split at h
  · rename_i e' he; cases h; exact newE_told he
  · split at h
    · rename_i e' he; cases h; exact needE_told he
    · split at h
      · rename_i e' he; cases h; exact needE_told he
      · split at h
        · cases h; exact ⟨_, .long⟩
        · exact setE_told h
theorem turnE_told {r : DKs} {a b : PyData} {e : Er} (h : turnE r a b = .inl e) : ∃ bs, Told e bs := by
  unfold turnE at h
  split at h
  · rename_i e' he; cases h; exact newE_told he
  · split at h
    · rename_i e' he; cases h; exact needE_told he
    · exact setE_told h
/-- a deed within the try -/
theorem told_fin {k : PyData} {r : DKs} {h : List PyData} {o : Er ⊕ DKs} {Q : Rs → List Sl → Prop} (ho : ∀ e, o = .inl e → ∃ bs, Told e bs) (q : told3 k r h o Q) (n : Nat) {Q' : Rs → List Sl → Prop} {E' : Er → List Sl → Prop}
    (h1 : ∀ r', Q (.fz (.str "told")) [.ow (.hs k r' h), .un, .un, .un] → Q' (.fz .none) (.ow (.hs k r' h) :: List.replicate n .un))
    (h2 : ∀ e bs, Told e bs → Q (.fz (.str (wordE e))) [.ow (.hs k r h), .un, .un, .un] → E' e (.ow (.hs k r h) :: List.replicate n .un)) : fin3 k r h n o Q' E' := by
  cases o with
  | inl e =>
    obtain ⟨bs, t⟩ := ho e rfl
    exact h2 e bs t q
  | inr r' => exact h1 r' q
theorem told_yes {hs s nd one : Sl} {e5 e6 : Sl} {D : Ed} (q : D.rt (.fz (.str "told")) [hs, s, nd, one, .fz .none, e5, e6]) : toldRest D [hs, s, nd, one, .fz .none, e5, e6] := ⟨_, _, _, rfl, rfl, rfl, _, rfl, q⟩
theorem told_no {er : Er} {bs : List Bool} (t : Told er bs) {A B : Prop} (hA : A) : er.c ∈ xcs ∧ if isX er.c "TurnError" = true then A else B := by
  obtain ⟨h1, _, h3⟩ := told_facts t
  refine ⟨h1, ?_⟩
  rw [if_pos h3]
  exact hA
theorem word6 : wordE (xFull 6) = "full 6" := by decide +kernel
theorem word12 : wordE (xFull 12) = "full 12" := by decide +kernel
theorem pl_law_told : ∀ sls Q E, m_law_told sls Q E → mBody [0] 4 3 t_law_told sls Q E := by
  rintro sls Q E (⟨k, r, h, s, nd, one, rfl, hs, hn, hl, hr, h0, h12, q⟩ | ⟨k, r, H, nd, one, rfl, hl, q⟩)
  · refine ⟨_, _, _, rfl, rfl, gEq_int, _, rfl, ?_⟩
    rcases hs with rfl | rfl | rfl
    · obtain ⟨hk, ht, ho⟩ := h0 rfl
      refine ⟨⟨k, r, h, rfl⟩, rfl, by simp [brs], k, r, h, nd, one, rfl, hn, hk, ht, ho, hl, ?_⟩
      exact told_fin (fun e he => putE_told he) (show told3 k r h (putE k r nd one) Q from q) 2 (fun r' z => told_yes z) fun e bs t z => told_no t (told_rest t fun s6 => z)
    · have ho := h12 (by decide)
      refine ⟨_, _, _, rfl, rfl, gEq_int, _, rfl, ?_⟩
      refine ⟨⟨k, r, h, rfl⟩, rfl, by simp [brs], k, r, h, nd, one, one, rfl, hn, ho, ho, hr, hl, ?_⟩
      exact told_fin (fun e he => joinE_told he) (show told3 k r h (joinE r nd one one) Q from q) 3 (fun r' z => told_yes z) fun e bs t z => told_no t (told_rest t fun s6 => z)
    · have ho := h12 (by decide)
      refine ⟨_, _, _, rfl, rfl, gEq_int, _, rfl, _, _, _, rfl, rfl, gEq_int, _, rfl, ?_⟩
      refine ⟨⟨k, r, h, rfl⟩, rfl, by simp [brs], k, r, h, nd, one, rfl, hn, ho, hr, hl, ?_⟩
      exact told_fin (fun e he => turnE_told he) (show told3 k r h (turnE r nd one) Q from q) 2 (fun r' z => told_yes z) fun e bs t z => told_no t (told_rest t fun s6 => z)
  · refine ⟨_, _, _, rfl, rfl, gEq_int, _, rfl, _, _, _, rfl, rfl, gEq_int, _, rfl, _, _, _, rfl, rfl, gEq_int, _, rfl, ?_⟩
    refine ⟨⟨k, r, _, rfl⟩, rfl, by simp [brs], k, r, H, rfl, by omega, fun _ => ?_, fun ne => absurd hl ne⟩
    exact told_no (.full 6 (by decide) (by decide)) (told_rest (.full 6 (by decide) (by decide)) fun s6 => by rw [word6]; exact q)
end Hd
end

section
set_option Elab.async false
set_option linter.all false
set_option maxRecDepth 100000
set_option maxHeartbeats 0
set_option autoImplicit false
namespace Hd
open PySem PySem.Spec PyProof.Rows L2 L3
def hasK (ks : List L2.Key) (k : L2.Key) : Bool := ks.any fun j => decide (j = k)
def ksOf (r : DKs) : List L2.Key := r.map fun p => p.1
theorem kval_some (r : DKs) (k : L2.Key) : (kval r k).isSome = hasK (ksOf r) k := by
  induction r with
  | nil => rfl
  | cons p r ih =>
    have e0 : hasK (ksOf (p :: r)) k = (decide (p.1 = k) || hasK (ksOf r) k) := rfl
    rw [e0]
    by_cases e : p.1 = k
    · have : kval (p :: r) k = some p.2 := by simp [kval, List.find?_cons, e]
      rw [this, decide_eq_true e]
      rfl
    · have : kval (p :: r) k = kval r k := by simp [kval, List.find?_cons, e]
      rw [this, ih, decide_eq_false e, Bool.false_or]
theorem has_keys (r : DKs) (z : Str) : hasB r (.str z) = hasK (ksOf r) (.inr z) := kval_some r _
theorem kval_hd {k : L2.Key} {v : PyData} {r : DKs} : kval ((k, v) :: r) k = some v := by simp [kval, List.find?_cons]
theorem kval_tl {k j : L2.Key} {v : PyData} {r : DKs} (h : k ≠ j) : kval ((k, v) :: r) j = kval r j := by simp [kval, List.find?_cons, h]
theorem kval_app {r s : DKs} {k : L2.Key} {v : PyData} (h : kval r k = some v) : kval (r ++ s) k = some v := by
  unfold kval at *
  rw [List.find?_append]
  cases e : r.find? fun kv => decide (kv.1 = k) with
  | none => rw [e] at h; cases h
  | some p => rw [e] at h; exact h
theorem kput_new {r : DKs} {z : Str} {d : PyData} (h : hasB r (.str z) = false) : kput r (.inr z) d = r ++ [(.inr z, d)] := by
  unfold kput
  rw [if_neg]
  intro h2
  have h3 : (kval r (.inr z)).isSome = true := by
    rw [kval_some]
    obtain ⟨p, hp, e⟩ := List.any_eq_true.mp h2
    exact List.any_eq_true.mpr ⟨p.1, List.mem_map.mpr ⟨p, hp, rfl⟩, e⟩
  have h : (kval r (.inr z)).isSome = false := h
  rw [h] at h3
  cases h3
theorem newE_ok' {r : DKs} {z : Str} (h : nameB (.str z) = true) (h2 : hasB r (.str z) = false) : newE r (.str z) = none := newE_ok h h2
theorem put_ok {k d : PyData} {r : DKs} {z : Str} (h : nameB (.str z) = true) (h2 : hasB r (.str z) = false) (h3 : rowB (stN k) d = true) (h4 : r.length ≠ 12) : putE k r (.str z) d = .inr (r ++ [(.inr z, d)]) := by
  unfold putE
  rw [newE_ok h h2]
  show (if rowB (stN k) d = false then Sum.inl xNoRow else setE r (.str z) d) = _
  rw [if_neg (by rw [h3]; decide)]
  unfold setE
  rw [if_neg h4, ← kput_new h2]
  rfl
theorem put_full {k d : PyData} {r : DKs} {z : Str} (h : nameB (.str z) = true) (h2 : hasB r (.str z) = false) (h3 : rowB (stN k) d = true) (h4 : r.length = 12) : putE k r (.str z) d = .inl (xFull 12) := by
  unfold putE
  rw [newE_ok h h2]
  show (if rowB (stN k) d = false then Sum.inl xNoRow else setE r (.str z) d) = _
  rw [if_neg (by rw [h3]; decide)]
  exact if_pos h4
theorem put_row {k d : PyData} {r : DKs} {z : Str} (h : nameB (.str z) = true) (h2 : hasB r (.str z) = false) (h3 : rowB (stN k) d = false) : putE k r (.str z) d = .inl xNoRow := by
  unfold putE
  rw [newE_ok h h2]
  exact if_pos h3
theorem put_stand {k d : PyData} {r : DKs} {z : Str} (h : nameB (.str z) = true) (h2 : hasB r (.str z) = true) : putE k r (.str z) d = .inl (xStanding (.str z)) := by
  unfold putE
  rw [newE_st h h2]
theorem turn_name {r : DKs} {nd a : PyData} {e : Er} (h : newE r nd = some e) : turnE r nd a = .inl e := by
  unfold turnE; rw [h]
theorem join_need {r : DKs} {z : Str} {a b : PyData} {e : Er} (h : nameB (.str z) = true) (h2 : hasB r (.str z) = false) (h3 : needE r a = .inl e) : joinE r (.str z) a b = .inl e := by
  unfold joinE; rw [newE_ok h h2, h3]
theorem turn_need {r : DKs} {z : Str} {a : PyData} {e : Er} (h : nameB (.str z) = true) (h2 : hasB r (.str z) = false) (h3 : needE r a = .inl e) : turnE r (.str z) a = .inl e := by
  unfold turnE; rw [newE_ok h h2, h3]
theorem join_two {r : DKs} {z : Str} {a : PyData} {x : PyData} (h : nameB (.str z) = true) (h2 : hasB r (.str z) = false) (h3 : needE r a = .inr x) : joinE r (.str z) a a = if 16 < ((catD x x).length : Int) then .inl xTooLong else setE r (.str z) (.tuple (catD x x)) := by
  unfold joinE; rw [newE_ok h h2, h3]
theorem turn_two {r : DKs} {z : Str} {a : PyData} {x : PyData} (h : nameB (.str z) = true) (h2 : hasB r (.str z) = false) (h3 : needE r a = .inr x) : turnE r (.str z) a = setE r (.str z) (tI (plainI (backI (intsD x)))) := by
  unfold turnE; rw [newE_ok h h2, h3]
theorem needE_kv {r : DKs} {z : Str} {v : PyData} (h : nameB (.str z) = true) (h2 : kval r (.inr z) = some v) : needE r (.str z) = .inr v := needE_ok h h2
theorem nm_str {z : Str} (h : z.length ≤ 1000) : NmD (.str z) := ⟨rfl, decide_eq_true h⟩
/-! a valid machine as data -/
theorem mc_nd {m : Mc} (hm : m.ok) : ND 4 m.d := by
  have l4 := hm.l4
  have s8 := hm.s8
  refine nd_tup (by simp) fun x hx => ?_
  simp only [List.mem_cons, List.not_mem_nil, or_false] at hx
  rcases hx with rfl | rfl
  · exact nd_flat rfl rfl 3
  · refine nd_tup (by rw [List.length_map]; omega) fun y hy => ?_
    obtain ⟨s, hs, rfl⟩ := List.mem_map.mp hy
    obtain ⟨a, b, c⟩ := hm.s s hs
    have l1 : s.1.length = m.L.toNat := by rw [a.length_eq, rg_len]
    refine nd_tup (by simp) fun w hw => ?_
    simp only [List.mem_cons, List.not_mem_nil, or_false] at hw
    rcases hw with rfl | rfl
    · exact nd_ints 1 (by omega)
    · exact nd_ints 1 (by omega)
theorem letters_all {L : Int} {xs : List Int} (h : ∀ x ∈ xs, 0 ≤ x ∧ x < L) : (xs.map PyData.int).all (letterB L) = true := by
  rw [List.all_eq_true]
  intro d hd
  obtain ⟨x, hx, rfl⟩ := List.mem_map.mp hd
  obtain ⟨a, b⟩ := h x hx
  show (decide (0 ≤ x) && decide (x < L)) = true
  rw [decide_eq_true a, decide_eq_true b]; rfl
theorem rg_srt (n : Nat) : (rg n).Pairwise (· ≤ ·) := by
  unfold rg
  exact List.Pairwise.map _ (fun a b h => by omega) (List.pairwise_lt_range (n := n))
theorem mc_table {m : Mc} (hm : m.ok) : tableB 8 m.d = true := by
  have l2 := hm.l2
  have l4 := hm.l4
  have s1 := hm.s1
  have s8 := hm.s8
  show (lettersB (.int m.L) && ((decide (1 ≤ (((m.st.map stD).length : Nat) : Int)) && decide ((((m.st.map stD).length : Nat) : Int) ≤ 8)) && (m.st.map stD).all (stateB m.L ((m.st.map stD).length : Nat)))) = true
  have e1 : lettersB (.int m.L) = true := by
    show (decide (2 ≤ m.L) && decide (m.L ≤ 4)) = true
    rw [decide_eq_true l2, decide_eq_true l4]; rfl
  have e2 : (m.st.map stD).all (stateB m.L ((m.st.map stD).length : Nat)) = true := by
    rw [List.all_eq_true]
    intro d hd
    obtain ⟨s, hs, rfl⟩ := List.mem_map.mp hd
    obtain ⟨a, b, c⟩ := hm.s s hs
    show (decide ((((s.2.map PyData.int).length : Nat) : Int) = m.L) && ((s.1.map PyData.int).all (letterB m.L) && (permB m.L (s.1.map .int) && (s.2.map PyData.int).all (letterB (((m.st.map stD).length : Nat) : Int))))) = true
    rw [letters_all (L := m.L) (xs := s.1) fun x hx => (by have := rg_mem (a.mem_iff.mp hx); omega), letters_all (xs := s.2) fun x hx => (by rw [List.length_map]; exact c x hx), decide_eq_true (by rw [List.length_map]; exact b)]
    have : permB m.L (s.1.map .int) = true := by
      unfold permB
      rw [intsOf_ints]
      exact decide_eq_true (srtI_eq a.symm (rg_srt _)).symm
    rw [this]
    rfl
  rw [e1, e2, List.length_map, decide_eq_true (by omega), decide_eq_true (by omega)]
  rfl
theorem mc_stN (m : Mc) : stN m.d = m.st.length := by
  show (((m.st.map stD).length : Nat) : Int) = _
  rw [List.length_map]
theorem rowB_ints {n : Int} {xs : List Int} (hl : xs.length ≤ 16) (h : ∀ x ∈ xs, -n ≤ x ∧ x < n) : rowB n (tI xs) = true := by
  show (!decide (16 < (((xs.map PyData.int).length : Nat) : Int)) && (xs.map PyData.int).all (signB n)) = true
  rw [decide_eq_false (by rw [List.length_map]; omega)]
  have : (xs.map PyData.int).all (signB n) = true := by
    rw [List.all_eq_true]
    intro d hd
    obtain ⟨x, hx, rfl⟩ := List.mem_map.mp hd
    obtain ⟨a, b⟩ := h x hx
    show (decide (-n ≤ x) && decide (x < n)) = true
    rw [decide_eq_true a, decide_eq_true b]; rfl
  rw [this]; rfl
theorem rowB_zer {n x : Int} {k : Nat} (hk : k ≤ 16) (h0 : -n ≤ x) (h1 : x < n) : rowB n (zer k x) = true := rowB_ints (by simpa using hk) fun y hy => by
  rw [(List.mem_replicate.mp hy).2]; exact ⟨h0, h1⟩
theorem nd_zer (k : Nat) (x : Int) (hk : k ≤ 1000) : ND 1 (zer k x) := nd_ints 1 (by simpa using hk)
theorem zer_of (k : Int) (x : Int) : PyData.tuple (List.replicate k.toNat [PyData.int x]).flatten = zer k.toNat x := by
  unfold zer tI
  congr 1
  generalize k.toNat = n
  induction n with
  | zero => rfl
  | succ n ih => rw [List.replicate_succ, List.flatten_cons, ih, List.replicate_succ]; rfl
theorem n_long : nameB (.str "long") = true := by decide +kernel
theorem n_twice : nameB (.str "twice") = true := by decide +kernel
theorem pl_law_long_right : ∀ sls Q E, m_law_long_right sls Q E → mBody [0, 1] 3 1 t_law_long_right sls Q E := by
  rintro sls Q E ⟨cs, a, z, m, rfl, a0, a1, hm, q⟩
  have s1 := hm.s1
  have s8 := hm.s8
  refine ⟨rfl, by simp [brs], cs, a, z, 3, rfl, a0, by omega, by decide, by decide, fun y a2 z2 y0 y1 g1 g2 => ⟨_, _, _, rfl, rfl, rfl, ?_⟩⟩
  obtain ⟨far, hf⟩ : ∃ k : Nat, 7 + y = (k : Nat) := ⟨(7 + y).toNat, by omega⟩
  have hf' : (7 : Int) + y = (far : Nat) := hf
  rw [hf']
  refine ⟨⟨m.d, [], [], rfl⟩, rfl, by simp [brs], cs, a2, z2, (m.st.length : Nat), rfl, by omega, by omega, by omega, by omega, fun x a3 z3 x0 x1 g3 g4 => ?_⟩
  refine ⟨sz (by simp), _, _, _, rfl, rfl, gMulV_tp ⟨by simp, by omega, by omega, by simp⟩, ?_⟩
  rw [zer_of, Int.toNat_natCast]
  refine ⟨rfl, by simp [brs], m.d, [], [], .str "long", zer far x, rfl, nm_str (by decide +kernel), mc_nd hm, mc_table hm, nd_zer far x (by omega), by simp, ?_⟩
  rw [put_ok n_long rfl (by rw [mc_stN]; exact rowB_zer (by omega) (by omega) (by omega)) (by decide)]
  have hz : needE [(.inr "long", zer far x)] (.str "long") = .inr (zer far x) := needE_kv n_long kval_hd
  have hno : hasB [(.inr "long", zer far x)] (.str "twice") = false := by
    rw [has_keys]
    show hasK [Sum.inr "long"] (Sum.inr "twice") = false
    decide +kernel
  have hlen : ((catD (zer far x) (zer far x)).length : Int) = 2 * far := by
    show ((((List.replicate far x).map PyData.int ++ (List.replicate far x).map PyData.int).length : Nat) : Int) = _
    simp; omega
  have hcat : PyData.tuple (catD (zer far x) (zer far x)) = tI (List.replicate far x ++ List.replicate far x) := by
    show PyData.tuple ((List.replicate far x).map PyData.int ++ (List.replicate far x).map PyData.int) = .tuple _
    rw [List.map_append]
  have hj := join_two n_twice hno hz
  have qq := q far x a3 z3 (by omega) (by omega) (by omega) (by omega)
  refine ⟨rfl, by simp [brs], .inl ⟨m.d, [(.inr "long", zer far x)], [], 1, .str "twice", .str "long", rfl, .inr (.inl rfl), nm_str (by decide +kernel), by simp, ?_, fun h => absurd h (by decide), fun _ => nm_str (by decide +kernel), ?_⟩⟩
  · intro p hp
    rw [List.mem_singleton.mp hp]
    exact ⟨_, rfl, by simp; omega⟩
  · have ed : deedE m.d [(.inr "long", zer far x)] 1 (.str "twice") (.str "long") = joinE [(.inr "long", zer far x)] (.str "twice") (.str "long") (.str "long") := rfl
    rw [ed, hj, hlen]
    by_cases h9 : far < 9
    · rw [if_neg (by omega)]
      have es : setE [(.inr "long", zer far x)] (.str "twice") (.tuple (catD (zer far x) (zer far x))) = .inr (longR far x) := by
        unfold setE
        rw [if_neg (by simp)]
        show Sum.inr (kput _ (.inr "twice") _) = _
        rw [kput_new hno, hcat]
        unfold longR
        rw [if_pos h9]
        rfl
      rw [es]
      refine ⟨_, _, _, rfl, rfl, rfl, _, rfl, ?_⟩
      rw [decide_eq_true (show ((far : Nat) : Int) < 9 by omega)]
      exact ⟨_, _, _, rfl, rfl, rfl, qq⟩
    · rw [if_pos (by omega)]
      refine ⟨_, _, _, rfl, rfl, rfl, _, rfl, ?_⟩
      rw [decide_eq_false (show ¬ ((far : Nat) : Int) < 9 by omega)]
      refine ⟨_, _, _, rfl, rfl, rfl, ?_⟩
      have el : longR far x = [(.inr "long", zer far x)] := if_neg h9
      rw [el] at qq
      have ew : wordE xTooLong = "long" := by decide +kernel
      have : decide (wordE xTooLong = "long") = true := decide_eq_true ew
      show Q (.fz (.bool (decide (wordE xTooLong = "long")))) _
      rw [this]
      exact qq
end Hd
end

section
set_option Elab.async false
set_option linter.all false
set_option maxRecDepth 100000
set_option maxHeartbeats 0
set_option autoImplicit false
namespace Hd
open PySem PySem.Spec PyProof.Rows L2 L3
theorem gNe_s (s : Str) : gNe (.str s) (.str s) = some (fzB false) := by simp [gNe]
theorem gEq_s (s : Str) : gEq (.str s) (.str s) = some (fzB true) := by simp [gEq]
theorem lay_strs : ∀ {xs : List Str}, xs.all PyData.strOk = true → PyData.canLayAll0 (xs.map .str) = true ∧ PyData.depthAll (xs.map .str) = 0
  | [], _ => ⟨rfl, rfl⟩
  | x :: xs, h => by
    rw [List.all_cons, Bool.and_eq_true] at h
    have ⟨h1, h2⟩ := lay_strs h.2
    simp [PyData.canLayAll0, PyData.canLay0, PyData.depthAll, PyData.depth, h1, h2, h.1]
theorem shaped_strs {xs : List Str} (h : xs.all PyData.strOk = true) : SeqAt.shaped (.list (xs.map .str)) = true := by
  unfold SeqAt.shaped
  simp [PyData.canLay0, PyData.depth, (lay_strs h).1, (lay_strs h).2]
theorem gNe_same {d : PyData} (h : ∀ a, d ≠ .str a) (hs : SeqAt.shaped d = true) : gNe d d = some (fzB false) := by
  rw [gNe_sh (fun a b z => h a z.1) hs hs, SeqAt.eqv_refl _ (SeqAt.canLay_of_shaped hs)]; rfl
theorem gEq_same {d : PyData} (h : ∀ a, d ≠ .str a) (hs : SeqAt.shaped d = true) : gEq d d = some (fzB true) := by
  rw [gEq_sh (fun a b z => h a z.1) hs hs, SeqAt.eqv_refl _ (SeqAt.canLay_of_shaped hs)]
theorem gNe_strs {xs : List Str} (h : xs.all PyData.strOk = true) : gNe (.list (xs.map .str)) (.list (xs.map .str)) = some (fzB false) := gNe_same (fun _ z => by cases z) (shaped_strs h)
theorem gEq_strs {xs : List Str} (h : xs.all PyData.strOk = true) : gEq (.list (xs.map .str)) (.list (xs.map .str)) = some (fzB true) := gEq_same (fun _ z => by cases z) (shaped_strs h)
theorem told_w {k : PyData} {r : DKs} {h : List PyData} {s : Int} {nd one : PyData} {er : Er} {w : Str} {Q : Rs → List Sl → Prop} (e : deedE k r s nd one = .inl er) (hw : wordE er = w) (q : Q (.fz (.str w)) [.ow (.hs k r h), .un, .un, .un]) : told3 k r h (deedE k r s nd one) Q := by
  rw [e]
  show Q (.fz (.str (wordE er))) _
  rw [hw]
  exact q
theorem told_y {k : PyData} {r r' : DKs} {h : List PyData} {s : Int} {nd one : PyData} {Q : Rs → List Sl → Prop} (e : deedE k r s nd one = .inr r') (q : Q (.fz (.str "told")) [.ow (.hs k r' h), .un, .un, .un]) : told3 k r h (deedE k r s nd one) Q := by
  rw [e]
  exact q
theorem n_new : nameB (.str "new") = true := by decide +kernel
theorem n_a : nameB (.str "a") = true := by decide +kernel
theorem n_c : nameB (.str "c") = true := by decide +kernel
theorem n_most : nameB (.str "most") = true := by decide +kernel
theorem n_never : nameB (.str "never") = true := by decide +kernel
theorem n_N : nameB (.str "N") = false := by decide +kernel
theorem w_stand (d : PyData) : wordE (xStanding d) = "standing" := by
  unfold wordE
  rw [if_neg (show ¬ (xStanding d).c = "Full" from fun h => absurd (show ("Standing" : Str) = "Full" from h) (by decide +kernel)), if_neg (show ¬ (xStanding d).c = "NoName" from fun h => absurd (show ("Standing" : Str) = "NoName" from h) (by decide +kernel)), if_pos (show (xStanding d).c = "Standing" from rfl)]
theorem w_name (d : PyData) : wordE (xNoName d) = "name" := by
  unfold wordE
  rw [if_neg (show ¬ (xNoName d).c = "Full" from fun h => absurd (show ("NoName" : Str) = "Full" from h) (by decide +kernel)), if_pos (show (xNoName d).c = "NoName" from rfl)]
theorem w_row : wordE xNoRow = "row" := by decide +kernel
theorem w_long : wordE xTooLong = "long" := by decide +kernel
theorem rowB_nil {n : Int} : rowB n (tI []) = true := rfl
theorem rows_len {r : DKs} {v : PyData} {k : L2.Key} (h : kval r k = some v) (z : Str) (e : k = .inr z) : hasB r (.str z) = true := by
  subst e
  show (kval r (.inr z)).isSome = true
  rw [h]; rfl
theorem no_has {r : DKs} {z : Str} (h : kval r (.inr z) = none) : hasB r (.str z) = false := by
  show (kval r (.inr z)).isSome = false
  rw [h]; rfl
theorem pl_law_names_right : ∀ sls Q E, m_law_names_right sls Q E → mBody [0] 1 3 t_law_names_right sls Q E := by
  rintro sls Q E ⟨m, r, rfl, hm, hl, hr, ha, hmo, hnew, hnev, q⟩
  have nk := mc_nd hm
  have tk := mc_table hm
  have hl' : r.length ≤ 12 := by omega
  have p0 : deedE m.d r 0 (.str "new") (tI []) = .inl (xFull 12) := put_full n_new (no_has hnew) rowB_nil hl
  have p1 : deedE m.d r 1 (.str "new") (.str "a") = .inl (xFull 12) := by
    show joinE r (.str "new") (.str "a") (.str "a") = _
    rw [join_two n_new (no_has hnew) (needE_kv n_a ha)]
    exact if_pos hl
  have p2 : deedE m.d r 2 (.str "new") (.str "a") = .inl (xFull 12) := by
    show turnE r (.str "new") (.str "a") = _
    rw [turn_two n_new (no_has hnew) (needE_kv n_a ha)]
    exact if_pos hl
  have p3 : deedE m.d r 0 (.str "a") .none = .inl (xStanding (.str "a")) := put_stand n_a (rows_len ha "a" rfl)
  have p4 : deedE m.d r 0 (.str "new") (.int 7) = .inl xNoRow := put_row n_new (no_has hnew) rfl
  have p5 : deedE m.d r 0 (.str "new") (zer 17 0) = .inl xNoRow := put_row n_new (no_has hnew) rfl
  have p6 : deedE m.d r 1 (.str "new") (.str "most") = .inl xTooLong := by
    show joinE r (.str "new") (.str "most") (.str "most") = _
    rw [join_two n_new (no_has hnew) (needE_kv n_most hmo)]
    exact if_pos (show (16 : Int) < 32 by decide)
  have p7 : deedE m.d r 1 (.str "new") (.str "never") = .inl (xNoName (.str "never")) := join_need n_new (no_has hnew) (needE_no (.inr (no_has hnev)))
  have p8 : deedE m.d r 2 (.str "new") (.str "never") = .inl (xNoName (.str "never")) := turn_need n_new (no_has hnew) (needE_no (.inr (no_has hnev)))
  have p9 : deedE m.d r 2 (.str "N") (.str "a") = .inl (xNoName (.str "N")) := (turn_name (newE_no n_N) : turnE r (.str "N") (.str "a") = _)
  have nm : ∀ z : Str, z.length ≤ 10 → NmD (.str z) := fun z h => nm_str (by omega)
  have l10 : ("new" : Str).length ≤ 10 ∧ ("a" : Str).length ≤ 10 ∧ ("most" : Str).length ≤ 10 ∧ ("never" : Str).length ≤ 10 ∧ ("N" : Str).length ≤ 10 := by decide +kernel
  obtain ⟨m1, m2, m3, m4, m5⟩ := l10
  -- full
  refine ⟨sz (by simp), rfl, by simp [brs], .inl ⟨m.d, r, [], 0, .str "new", tI [], rfl, .inl rfl, nm _ m1, hl', hr, fun _ => ⟨nk, tk, nd_ints 1 (by simp)⟩, fun h => absurd rfl h, told_w p0 word12 ?_⟩⟩
  refine ⟨rfl, by simp [brs], .inl ⟨m.d, r, [], 1, .str "new", .str "a", rfl, .inr (.inl rfl), nm _ m1, hl', hr, fun h => absurd h (by decide), fun _ => nm _ m2, told_w p1 word12 ?_⟩⟩
  refine ⟨rfl, by simp [brs], .inl ⟨m.d, r, [], 2, .str "new", .str "a", rfl, .inr (.inr rfl), nm _ m1, hl', hr, fun h => absurd h (by decide), fun _ => nm _ m2, told_w p2 word12 ?_⟩⟩
  refine ⟨sz (by simp), [.str "full 12"], 3, rfl, rfl, by decide, by decide, by simp, _, _, _, rfl, rfl, gNe_strs (xs := ["full 12", "full 12", "full 12"]) (by decide +kernel), _, rfl, ?_⟩
  refine ⟨rfl, by simp [brs], .inl ⟨m.d, r, [], 0, .str "a", .none, rfl, .inl rfl, nm _ m2, hl', hr, fun _ => ⟨nk, tk, nd_flat rfl rfl 1⟩, fun h => absurd rfl h, told_w p3 (w_stand _) ?_⟩⟩
  refine ⟨_, _, _, rfl, rfl, gNe_s _, _, rfl, ?_⟩
  refine ⟨rfl, by simp [brs], .inl ⟨m.d, r, [], 0, .str "new", .int 7, rfl, .inl rfl, nm _ m1, hl', hr, fun _ => ⟨nk, tk, nd_flat rfl rfl 1⟩, fun h => absurd rfl h, told_w p4 w_row ?_⟩⟩
  refine ⟨sz (by simp), _, _, _, rfl, rfl, gMulV_tp ⟨by simp, by omega, by omega, by simp⟩, ?_⟩
  rw [zer_of]
  refine ⟨rfl, by simp [brs], .inl ⟨m.d, r, [], 0, .str "new", zer 17 0, rfl, .inl rfl, nm _ m1, hl', hr, fun _ => ⟨nk, tk, nd_zer 17 0 (by omega)⟩, fun h => absurd rfl h, told_w p5 w_row ?_⟩⟩
  refine ⟨sz (by simp), sz (by simp), _, _, _, rfl, rfl, gNe_strs (xs := ["row", "row"]) (by decide +kernel), _, rfl, ?_⟩
  refine ⟨rfl, by simp [brs], .inl ⟨m.d, r, [], 1, .str "new", .str "most", rfl, .inr (.inl rfl), nm _ m1, hl', hr, fun h => absurd h (by decide), fun _ => nm _ m3, told_w p6 w_long ?_⟩⟩
  refine ⟨_, _, _, rfl, rfl, gNe_s _, _, rfl, ?_⟩
  -- the last ones
  refine ⟨sz (by simp), [.int 1, .int 2], rfl, rfl, ?_⟩
  refine ⟨rfl, by simp [brs], .inl ⟨m.d, r, [], 1, .str "new", .str "never", rfl, .inr (.inl rfl), nm _ m1, hl', hr, fun h => absurd h (by decide), fun _ => nm _ m4, told_w p7 (w_name _) ⟨by rw [sizeLine_eq]; decide, ?_⟩⟩⟩
  refine ⟨rfl, by simp [brs], .inl ⟨m.d, r, [], 2, .str "new", .str "never", rfl, .inr (.inr rfl), nm _ m1, hl', hr, fun h => absurd h (by decide), fun _ => nm _ m4, told_w p8 (w_name _) ⟨by rw [sizeLine_eq]; decide, ?_⟩⟩⟩
  refine ⟨rfl, by simp [brs], .inl ⟨m.d, r, [], 2, .str "N", .str "a", rfl, .inr (.inr rfl), nm _ m5, hl', hr, fun h => absurd h (by decide), fun _ => nm _ m2, told_w p9 (w_name _) ?_⟩⟩
  refine ⟨sz (by simp), _, _, _, rfl, rfl, gAdd_ls (sz (by simp)), [.str "name"], 3, rfl, rfl, by decide, by decide, by simp, _, _, _, rfl, rfl, gEq_strs (xs := ["name", "name", "name"]) (by decide +kernel), q⟩
end Hd
end

section
set_option Elab.async false
set_option linter.all false
set_option maxRecDepth 100000
set_option maxHeartbeats 0
set_option autoImplicit false
namespace Hd
open PySem PySem.Spec PyProof.Rows L2 L3
def charsS (z : Str) : List Str := z.cps.toList.map fun c => ⟨#[c]⟩
theorem signD_chars (z : Str) : signD z = (charsS z).map .str := by
  unfold signD charsS
  rw [List.map_map]
  rfl
/-- names that are good, unlike one another and unlike those that stand -/
def okL : List L2.Key → List Str → Bool
  | _, [] => true
  | ks, z :: zs => (nameB (.str z) && decide (z.length ≤ 100)) && (!hasK ks (.inr z) && okL (ks ++ [.inr z]) zs)
def runW : Nat → List Str → List Str
  | _, [] => []
  | n, _ :: zs => if n < 12 then "told" :: runW (n + 1) zs else "full 12" :: runW n zs
def runR : DKs → List Str → DKs
  | r, [] => r
  | r, z :: zs => if r.length < 12 then runR (r ++ [(.inr z, tI [])]) zs else runR r zs
theorem okL_cons {ks : List L2.Key} {z : Str} {zs : List Str} (h : okL ks (z :: zs) = true) : nameB (.str z) = true ∧ z.length ≤ 100 ∧ hasK ks (.inr z) = false ∧ okL (ks ++ [.inr z]) zs = true := by
  have h : ((nameB (.str z) && decide (z.length ≤ 100)) && (!hasK ks (.inr z) && okL (ks ++ [.inr z]) zs)) = true := h
  rw [Bool.and_eq_true, Bool.and_eq_true, Bool.and_eq_true, decide_eq_true_eq] at h
  exact ⟨h.1.1, h.1.2, by simpa using h.2.1, h.2.2⟩
theorem hasK_app (ks : List L2.Key) (k j : L2.Key) : hasK (ks ++ [k]) j = (hasK ks j || decide (k = j)) := by
  unfold hasK
  rw [List.any_append]
  simp
theorem ksOf_app (r : DKs) (k : L2.Key) (v : PyData) : ksOf (r ++ [(k, v)]) = ksOf r ++ [k] := by
  unfold ksOf
  rw [List.map_append]
  rfl
theorem rows_app {r : DKs} {z : Str} {is : List Int} (hr : RowsD r) (h : is.length ≤ 16) : RowsD (r ++ [(.inr z, tI is)]) := fun p hp => by
  rcases List.mem_append.mp hp with m | m
  · exact hr p m
  · rw [List.mem_singleton.mp m]; exact ⟨is, rfl, h⟩
/-- a turn: a name put with an empty row -/
theorem put_turn {m : Mc} {r : DKs} {ks : List L2.Key} {z : Str} {zs : List Str} (ho : okL ks (z :: zs) = true) (hk : ∀ k, hasK (ksOf r) k = true → hasK ks k = true) : nameB (.str z) = true ∧ hasB r (.str z) = false ∧ z.length ≤ 1000 := by
  obtain ⟨a, b, c, d⟩ := okL_cons ho
  refine ⟨a, ?_, by omega⟩
  rw [has_keys]
  cases e : hasK (ksOf r) (.inr z) with
  | false => rfl
  | true => rw [hk _ e] at c; cases c
theorem comp_told {m : Mc} (hm : m.ok) {h : List PyData} {e0 e1 e3 e4 e5 : Sl} {Q : List PyData → En → Prop} : ∀ (zs : List Str) (ks : List L2.Key) (r : DKs) (acc : List PyData), okL ks zs = true → (∀ k, hasK (ksOf r) k = true → hasK ks k = true) → r.length ≤ 12 → RowsD r → acc.length + zs.length ≤ 1000 →
    Q (acc ++ (runW r.length zs).map .str) [e0, e1, .ow (.hs m.d (runR r zs) h), e3, e4, e5, .un] →
    rComp [6] (gN 6) cYes (eCall 4 m_law_told (bC (rN 2) (bC (rC (.int 0)) (bC (rN 6) (bC (eTup aN) bN))))) Q (zs.map .str) acc [e0, e1, .ow (.hs m.d r h), e3, e4, e5, .un]
  | [], ks, r, acc, ho, hk, hl, hr, ha, q => by
    have q : Q (acc ++ []) [e0, e1, .ow (.hs m.d r h), e3, e4, e5, .un] := q
    rw [List.append_nil] at q
    exact q
  | z :: zs, ks, r, acc, ho, hk, hl, hr, ha, q => by
    obtain ⟨n1, n2, n3⟩ := put_turn (m := m) ho hk
    obtain ⟨_, _, _, ho'⟩ := okL_cons ho
    rw [List.length_cons] at ha
    have hz : acc.length < sizeLine := by rw [sizeLine_eq]; omega
    have hk' : ∀ k, hasK (ksOf r) k = true → hasK (ks ++ [.inr z]) k = true := fun k e => by rw [hasK_app, hk k e]; rfl
    by_cases hn : r.length < 12
    · have e : deedE m.d r 0 (.str z) (tI []) = .inr (r ++ [(.inr z, tI [])]) := put_ok n1 n2 rowB_nil (by omega)
      have ew : runW r.length (z :: zs) = ("told" : Str) :: runW (r.length + 1) zs := if_pos hn
      have er : runR r (z :: zs) = runR (r ++ [(.inr z, tI [])]) zs := if_pos hn
      rw [ew, er, List.map_cons] at q
      refine ⟨sz (by simp), rfl, by simp [brs], .inl ⟨m.d, r, h, 0, .str z, tI [], rfl, .inl rfl, nm_str n3, hl, hr, fun _ => ⟨mc_nd hm, mc_table hm, nd_ints 1 (by simp)⟩, fun h => absurd rfl h, told_y e ⟨hz, ?_⟩⟩⟩
      refine comp_told hm zs (ks ++ [.inr z]) _ _ ho' (fun k e => ?_) (by simp; omega) (rows_app hr (by simp)) (by simp; omega) ?_
      · rw [ksOf_app, hasK_app] at e
        rw [hasK_app]
        rcases Bool.or_eq_true_iff.mp e with e | e
        · rw [hk k e]; rfl
        · rw [e, Bool.or_true]
      · rw [List.append_assoc, show (r ++ [((Sum.inr z : L2.Key), tI [])]).length = r.length + 1 by simp]
        exact q
    · have e : deedE m.d r 0 (.str z) (tI []) = .inl (xFull 12) := put_full n1 n2 rowB_nil (by omega)
      have ew : runW r.length (z :: zs) = ("full 12" : Str) :: runW r.length zs := if_neg hn
      have er : runR r (z :: zs) = runR r zs := if_neg hn
      rw [ew, er, List.map_cons] at q
      refine ⟨sz (by simp), rfl, by simp [brs], .inl ⟨m.d, r, h, 0, .str z, tI [], rfl, .inl rfl, nm_str n3, hl, hr, fun _ => ⟨mc_nd hm, mc_table hm, nd_ints 1 (by simp)⟩, fun h => absurd rfl h, told_w e word12 ⟨hz, ?_⟩⟩⟩
      refine comp_told hm zs (ks ++ [.inr z]) r _ ho' hk' hl hr (by simp; omega) ?_
      rw [List.append_assoc]
      exact q
def ls13 : List Str := charsS "abcdefghijklm"
theorem ls13_ok : okL [] ls13 = true := by decide +kernel
theorem ls13_w : runW 0 ls13 = List.replicate 12 ("told" : Str) ++ [("full 12" : Str)] := by decide +kernel
theorem runR_keys : ∀ (zs : List Str) (r : DKs), ksOf (runR r zs) = ksOf r ++ (zs.take (12 - r.length)).map Sum.inr
  | [], r => by simp [runR]
  | z :: zs, r => by
    by_cases hn : r.length < 12
    · have er : runR r (z :: zs) = runR (r ++ [(.inr z, tI [])]) zs := if_pos hn
      rw [er, runR_keys zs, ksOf_app, show 12 - r.length = (12 - (r ++ [((Sum.inr z : L2.Key), tI [])]).length) + 1 by simp; omega, List.take_succ_cons, List.map_cons, List.append_assoc]
      rfl
    · have er : runR r (z :: zs) = runR r zs := if_neg hn
      rw [er, runR_keys zs, show 12 - r.length = 0 by omega]
      simp
theorem ls13_c : hasB (runR [] ls13) (.str "c") = true := by
  rw [has_keys, runR_keys]
  decide +kernel
abbrev roomBody : RS := (rSeq (rSet 4 (rC (.str "abcdefghijklm"))) (rSeq (rSet 5 (eLc (iSeq (rN 4)) [6] (gN 6) cYes (eCall 4 m_law_told (bC (rN 2) (bC (rC (.int 0)) (bC (rN 6) (bC (eTup aN) bN))))))) (rSeq (rIf (cV (pBin gNe (rN 5) (pBin gAdd (eX (xRep (gCons1 (fun _ => some (.str "told")) (fun _ => some [])) (fun _ => some (.int 12)))) (eLst (aC (rC (.str "full 12")) aN))))) (rRet (rC (.bool false))) rNext) (rSeq (rIf (cAnd (cV (pBin gEq (rN 3) (rC (.int 0)))) (cV (pBin gEq (eCall 2 m_law_take (bC (rN 0) (bC (rC (.int 2)) bN))) (rC (.int 0))))) (rDrop (eMeth 2 2 m_House_take_out (bC (rC (.str "c")) bN))) rNext) (rSeq (rDrop (eMeth 2 2 m_House_back (bC (rC (.int 0)) bN))) (rIf (cOr (cV (pBin gNe (eMeth 1 2 m_House_names bN) (eLst aN))) (cV (pBin gNe (eMeth 1 2 m_House_marks bN) (eLst (aC (rC (.int 0)) aN))))) (rRet (rC (.bool false))) rNext))))))
theorem room_turn {m : Mc} (hm : m.ok) {cs : List Int} {a z : Int} {t : Nat} {e1 e4 e5 : Sl} {D : Ed} (a0 : 0 ≤ a) (a1 : a < 2 ^ 21) (q : ∀ (a' z' : Int) (e3 e4 e5 : Sl), a ≤ a' → a' ≤ a + 1 → D.nx [.ow (.pn cs a' z'), e1, .ow (.hs m.d [] (heldD [(m.d, [])])), e3, e4, e5, .un]) :
    roomBody D [.ow (.pn cs a z), e1, .ow (.hs m.d [] (heldD [(m.d, [])])), .fz (fI t), e4, e5, .un] := by
  refine ⟨signD "abcdefghijklm", rfl, rfl, ?_⟩
  rw [signD_chars]
  refine comp_told hm ls13 [] [] [] ls13_ok (fun _ h => h) (by simp) (fun p hp => by cases hp) (by decide +kernel) ?_
  rw [show ([] : DKs).length = 0 from rfl, ls13_w, List.nil_append]
  have r12 : List.map PyData.str (List.replicate 12 ("told" : Str) ++ [("full 12" : Str)]) = (List.replicate (12 : Int).toNat [PyData.str "told"]).flatten ++ [.str "full 12"] := rfl
  refine ⟨[.str "told"], 12, rfl, rfl, by decide, by decide, by simp, sz (by simp), _, _, _, rfl, rfl, gAdd_ls (sz (by decide)), _, _, _, rfl, rfl, gNe_strs (xs := List.replicate 12 ("told" : Str) ++ [("full 12" : Str)]) (by decide +kernel), _, rfl, ?_⟩
  -- back to the mark
  have back : ∀ (r : DKs) (a' z' : Int) (e3 e4 e5 : Sl), a ≤ a' → a' ≤ a + 1 → (rSeq (rDrop (eMeth 2 2 m_House_back (bC (rC (.int 0)) bN))) (rIf (cOr (cV (pBin gNe (eMeth 1 2 m_House_names bN) (eLst aN))) (cV (pBin gNe (eMeth 1 2 m_House_marks bN) (eLst (aC (rC (.int 0)) aN))))) (rRet (rC (.bool false))) rNext)) D [.ow (.pn cs a' z'), e1, .ow (.hs m.d r (heldD [(m.d, [])])), e3, e4, e5, .un] := by
    intro r a' z' e3 e4 e5 g1 g2
    refine ⟨⟨_, _, _, rfl⟩, rfl, by simp [brs], m.d, r, [(m.d, [])], .int ((0 : Nat) : Int), rfl, by simp, rfl, fun i q' hi hq => ?_, fun h => ?_⟩
    · have : i = 0 := by
        have : ((0 : Nat) : Int) = ((i : Nat) : Int) := by injection hi
        omega
      subst this
      cases hq
      refine ⟨⟨_, _, _, rfl⟩, rfl, by simp [brs], m.d, [], _, [], rfl, rfl, by decide, fun ys hp _ => ?_⟩
      have : ys = [] := List.Perm.eq_nil hp
      subst this
      refine ⟨sz (by simp), _, _, _, rfl, rfl, gNe_strs (xs := []) rfl, _, rfl, ?_⟩
      refine ⟨⟨_, _, _, rfl⟩, rfl, by simp [brs], m.d, [], _, rfl, by simp [heldD], sz (by simp), _, _, _, rfl, rfl, gNe_ints [0] [0], _, rfl, ?_⟩
      exact q a' z' _ _ _ g1 g2
    · have := h 0 rfl
      cases this
  refine ⟨_, _, _, rfl, rfl, gEq_int, _, rfl, ?_⟩
  cases hb : (((t : Nat) : Int) == 0) with
  | false => exact back _ a z _ _ _ (by omega) (by omega)
  | true =>
    refine ⟨rfl, by simp [brs], cs, a, z, 2, rfl, a0, by omega, by decide, by decide, fun x a2 z2 _ _ g1 g2 => ⟨_, _, _, rfl, rfl, gEq_int, _, rfl, ?_⟩⟩
    cases hx : (x == 0) with
    | false => exact back _ a2 z2 _ _ _ g1 g2
    | true =>
      obtain ⟨v, hv⟩ : ∃ v, kval (runR [] ls13) (.inr "c") = some v := Option.isSome_iff_exists.mp ls13_c
      refine ⟨⟨_, _, _, rfl⟩, rfl, by simp [brs], m.d, _, _, .str "c", rfl, nm_str (by decide +kernel), fun h => ?_, fun z v' e1 e2 e3 => ?_⟩
      · rcases h with h | h
        · rw [n_c] at h; cases h
        · rw [ls13_c] at h; cases h
      · exact back _ a2 z2 _ _ _ g1 g2
theorem pl_law_room_right : ∀ sls Q E, m_law_room_right sls Q E → mBody [0] 2 5 t_law_room_right sls Q E := by
  rintro sls Q E ⟨cs, a, z, m, rfl, a0, a1, hm, q⟩
  refine ⟨rfl, m.d, rfl, mc_nd hm, fun _ => ⟨rfl, _, _, rfl, ?_⟩, fun h => by rw [mc_table hm] at h; cases h⟩
  refine ⟨⟨_, _, _, rfl⟩, rfl, by simp [brs], m.d, [], [], rfl, by simp, fun h => absurd h (by decide), fun _ => ?_⟩
  refine ⟨2, rfl, by decide, by decide, ?_⟩
  rw [show (2 : Int).toNat = 2 from rfl, rngI_F]
  refine room_turn (t := 0) hm a0 (by omega) fun a2 z2 e3 e4 e5 g1 g2 => ?_
  refine room_turn (t := 1) hm (by omega) (by omega) fun a3 z3 e3 e4 e5 g3 g4 => ?_
  exact q a3 z3 (by omega) (by omega)
end Hd
end

section
set_option Elab.async false
set_option linter.all false
set_option maxRecDepth 100000
set_option maxHeartbeats 0
set_option autoImplicit false
namespace Hd
open PySem PySem.Spec PyProof.Rows L2 L3
/-! sorted names are one thing -/
def leS (a b : Str) : Prop := a.cps.toList ≤ b.cps.toList
theorem risingS_pw : ∀ (l : List Str) (p : Str), risingS p l = true → (p :: l).Pairwise leS
  | [], p, _ => by simp
  | x :: r, p, h => by
    have h : (!ltCps x.cps.toList p.cps.toList && risingS x r) = true := h
    rw [Bool.and_eq_true] at h
    have ih := risingS_pw r x h.2
    have hp : leS p x := by
      have := h.1
      rw [ltCps_eq] at this
      show p.cps.toList ≤ x.cps.toList
      exact List.not_lt.mp (by simpa using this)
    refine List.pairwise_cons.mpr ⟨fun y hy => ?_, ih⟩
    rcases List.mem_cons.mp hy with rfl | hy
    · exact hp
    · exact List.le_trans hp ((List.pairwise_cons.mp ih).1 y hy)
theorem sortedS_pw {l : List Str} (h : sortedS l = true) : l.Pairwise leS := by
  cases l with
  | nil => simp
  | cons x r => exact risingS_pw r x h
theorem sortedS_uniq {a b : List Str} (h : a.Perm b) (ha : sortedS a = true) (hb : sortedS b = true) : a = b :=
  List.Perm.eq_of_pairwise (fun x y _ _ h1 h2 => by
    have := List.le_antisymm h1 h2
    obtain ⟨⟨x⟩⟩ := x
    obtain ⟨⟨y⟩⟩ := y
    exact congrArg (fun l : List Nat => (⟨⟨l⟩⟩ : Str)) this) (sortedS_pw ha) (sortedS_pw hb) h
/-! the six names -/
def six6 : List Str := charsS "abcdef"
def nmN (n : Nat) : List Str := six6.take n
def rN6 (n : Nat) : DKs := (nmN n).map fun z => (Sum.inr z, tI [])
theorem six_len : six6.length = 6 := by decide +kernel
theorem six_ok : ∀ k < 6, nameB (.str (six6.getD k "")) = true ∧ hasK ((nmN k).map Sum.inr) (.inr (six6.getD k "")) = false ∧ (six6.getD k "").length ≤ 1000 := by decide +kernel
theorem ksOf_rN (n : Nat) : ksOf (rN6 n) = (nmN n).map Sum.inr := by
  unfold ksOf rN6
  rw [List.map_map]
  rfl
theorem six_has {k : Nat} (h : k < 6) : hasB (rN6 k) (.str (six6.getD k "")) = false := by
  rw [has_keys, ksOf_rN]
  exact (six_ok k h).2.1
theorem rN_len {n : Nat} (h : n ≤ 6) : (rN6 n).length = n := by
  unfold rN6 nmN
  rw [List.length_map, List.length_take, six_len]
  omega
theorem rN_succ {k : Nat} (h : k < 6) : rN6 k ++ [(Sum.inr (six6.getD k ""), tI [])] = rN6 (k + 1) := by
  unfold rN6 nmN
  have hl : k < six6.length := by rw [six_len]; exact h
  rw [List.take_add_one, List.map_append, List.getElem?_eq_getElem hl, List.getD_eq_getElem?_getD, List.getElem?_eq_getElem hl]
  rfl
theorem gIx_six {k : Nat} (h : k < 6) : gIx (.str "abcdef") (.int (k : Nat)) = some (.fz (.str (six6.getD k ""))) := by
  have hl : k < six6.length := by rw [six_len]; exact h
  have hl2 : k < ("abcdef" : Str).cps.toList.length := by
    have : six6.length = ("abcdef" : Str).cps.toList.length := by unfold six6 charsS; rw [List.length_map]
    omega
  show (if ("abcdef" : Str).length ≤ sizeLine then (atI ("abcdef" : Str).cps.toList ((k : Nat) : Int)).map fun c => Rs.fz (.str ⟨#[c]⟩) else none) = _
  rw [if_pos (sz (show ("abcdef" : Str).length ≤ 2000 by decide +kernel))]
  unfold atI
  rw [ixN_nat hl2]
  show (("abcdef" : Str).cps.toList[k]?).map _ = _
  rw [List.getD_eq_getElem?_getD]
  unfold six6 charsS
  rw [List.getElem?_map, List.getElem?_eq_getElem hl2]
  rfl
theorem six_str : six6.all PyData.strOk = true := by decide +kernel
/-! machines changed -/
theorem setS_ok {m : Mc} (hm : m.ok) {i : Nat} {ts ns : List Int} (h1 : ts.Perm (rg m.L.toNat)) (h2 : (ns.length : Int) = m.L) (h3 : ∀ x ∈ ns, 0 ≤ x ∧ x < m.st.length) : (m.setS i (ts, ns)).ok := by
  have e : (m.setS i (ts, ns)).st.length = m.st.length := by show (m.st.set i (ts, ns)).length = _; rw [List.length_set]
  refine ⟨hm.l2, hm.l4, by rw [e]; exact hm.s1, by rw [e]; exact hm.s8, fun s hs => ?_⟩
  rw [e]
  rcases List.mem_or_eq_of_mem_set hs with z | z
  · exact hm.s s z
  · rw [z]; exact ⟨h1, h2, h3⟩
theorem swp_perm {ts : List Int} {a b : Nat} (ha : a < ts.length) (hb : b < ts.length) : (swp ts a b).Perm ts := by
  unfold swp
  rw [List.getD_eq_getElem?_getD, List.getD_eq_getElem?_getD, List.getElem?_eq_getElem ha, List.getElem?_eq_getElem hb]
  exact List.set_set_perm ha hb
theorem lead_ok {m : Mc} (hm : m.ok) {i a : Nat} {j : Int} {s : List Int × List Int} (hs : m.st[i]? = some s) (j0 : 0 ≤ j) (j1 : j < m.st.length) : (m.setS i (s.1, s.2.set a j)).ok := by
  obtain ⟨x, y, z⟩ := hm.s s (List.mem_of_getElem? hs)
  refine setS_ok hm x (by rw [List.length_set]; exact y) fun w hw => ?_
  rcases List.mem_or_eq_of_mem_set hw with q | q
  · exact z w q
  · rw [q]; exact ⟨j0, j1⟩
theorem exch_ok {m : Mc} (hm : m.ok) {i a b : Nat} {s : List Int × List Int} (hs : m.st[i]? = some s) (ha : (a : Int) < m.L) (hb : (b : Int) < m.L) : (m.setS i (swp s.1 a b, s.2)).ok := by
  obtain ⟨x, y, z⟩ := hm.s s (List.mem_of_getElem? hs)
  obtain ⟨l1, _, _⟩ := mc_len hm hs
  exact setS_ok hm ((swp_perm (by omega) (by omega)).trans x) y z
/-! marks and what is kept beside them -/
def MkR (q : PyData × DKs) (d : PyData) : Prop := ∃ (m : Mc) (n : Nat) (ys : List Str), q = (m.d, rN6 n) ∧ m.ok ∧ n ≤ 6 ∧ ys.Perm (nmN n) ∧ sortedS ys = true ∧ d = .list [m.d, .list (ys.map .str)]
def PreM (H : List (PyData × DKs)) (K : List PyData) : Prop := ∀ (i : Nat) (q : PyData × DKs), H[i]? = some q → ∃ d, K[i]? = some d ∧ MkR q d
theorem lay_st : ∀ {ss : List (List Int × List Int)}, PyData.canLayAll0 (ss.map stD) = true ∧ PyData.depthAll (ss.map stD) ≤ 2
  | [] => ⟨rfl, by decide⟩
  | s :: ss => by
    have ⟨h1, h2⟩ := lay_st (ss := ss)
    have a := lay_ints s.1
    have b := lay_ints s.2
    simp [PyData.canLayAll0, PyData.canLay0, PyData.depthAll, PyData.depth, stD, h1, a.1, a.2, b.1, b.2]
    omega
theorem shaped_kept {m : Mc} {ys : List Str} (h : ys.all PyData.strOk = true) : SeqAt.shaped (.list [m.d, .list (ys.map .str)]) = true := by
  have ⟨h1, h2⟩ := lay_st (ss := m.st)
  have ⟨h3, h4⟩ := lay_strs h
  unfold SeqAt.shaped
  simp [PyData.canLay0, PyData.canLayAll0, PyData.depth, PyData.depthAll, Mc.d, h1, h3, h4]
  omega
theorem nm_all {n : Nat} {ys : List Str} (h : ys.Perm (nmN n)) : ys.all PyData.strOk = true := by
  rw [List.all_eq_true]
  intro y hy
  have : y ∈ six6 := List.mem_of_mem_take (h.mem_iff.mp hy)
  exact List.all_eq_true.mp six_str y this
theorem keys_rN (n : Nat) : (rN6 n).map (·.1) = (nmN n).map Sum.inr := by
  unfold rN6
  rw [List.map_map]
  rfl
theorem nm_short (n : Nat) : (nmN n).length < 64 := by
  unfold nmN
  rw [List.length_take, six_len]
  omega
theorem eq_self_int (k : Nat) : (!(((k : Nat) : Int) == ((k : Nat) : Int))) = false := by simp
abbrev mkBody : RS := (rSeq (rDrop (eMeth 3 4 m_House_put (bC (pBin gIx (rC (.str "abcdef")) (rN 2)) (bC (eTup aN) bN)))) (rSeq (rDrop (eMethK 4 4 m_House_lead (bC (eCall 2 m_law_take (bC (rN 0) (bC (rN 7) bN))) (bC (eCall 2 m_law_take (bC (rN 0) (bC (rN 6) bN))) bN)) (eCall 2 m_law_take (bC (rN 0) (bC (rN 7) bN))))) (rSeq (rDrop (eMeth 4 4 m_House_exchange (bC (eCall 2 m_law_take (bC (rN 0) (bC (rN 7) bN))) (bC (rC (.int 0)) (bC (eCall 2 m_law_take (bC (rN 0) (bC (rN 6) bN))) bN))))) (rSeq (rDrop (eMt gAppend 5 (aC (eLst (aC (eMeth 1 4 m_House_machine bN) (aC (eMeth 1 4 m_House_names bN) aN))) aN))) (rIf (cV (pBin gNe (eMeth 1 4 m_House_mark bN) (rN 2))) (rRet (rC (.bool false))) rNext)))))
theorem marks_loop {cs : List Int} {L N : Nat} {e1 e3 : Sl} {D : Ed} (hL : L ≤ 4) (hN : N ≤ 8) :
    ∀ (n : Nat) (H : List (PyData × DKs)) (K : List PyData) (m : Mc) (a z : Int) (e2 : Sl), H.length + n = 6 → K.length = H.length → PreM H K → m.ok → m.L = L → m.st.length = N → 0 ≤ a → a ≤ 2 ^ 21 + 10 * H.length →
    (∀ (H : List (PyData × DKs)) (K : List PyData) (m : Mc) (a z : Int) (e2 : Sl), H.length = 6 → K.length = 6 → PreM H K → 0 ≤ a → a ≤ 2 ^ 22 → D.nx [.ow (.pn cs a z), e1, e2, e3, .ow (.hs m.d (rN6 6) (heldD H)), .ow (.ls K), .fz (.int L), .fz (.int N)]) →
    rLoop (gN 2) mkBody D ((List.range' H.length n).map fI) [.ow (.pn cs a z), e1, e2, e3, .ow (.hs m.d (rN6 H.length) (heldD H)), .ow (.ls K), .fz (.int L), .fz (.int N)]
  | 0, H, K, m, a, z, e2, e, hK, hp, hm, mL, mN, a0, a1, q => by
    have e : H.length = 6 := by omega
    rw [e]
    exact q H K m a z e2 e (by omega) hp a0 (by omega)
  | n + 1, H, K, m, a, z, e2, e, hK, hp, hm, mL, mN, a0, a1, q => by
    have hk : H.length < 6 := by omega
    obtain ⟨n1, n2, n3⟩ := six_ok H.length hk
    have l2 := hm.l2
    have s1 := hm.s1
    rw [List.range'_succ, List.map_cons]
    refine ⟨⟨_, _, _, rfl⟩, _, _, _, rfl, rfl, gIx_six hk, sz (by simp), rfl, by simp [brs], m.d, rN6 H.length, _, .str (six6.getD H.length ""), tI [], rfl, nm_str n3, mc_nd hm, mc_table hm, nd_ints 1 (by simp), by rw [rN_len (by omega)]; omega, ?_⟩
    rw [put_ok n1 (six_has hk) rowB_nil (by rw [rN_len (by omega)]; omega), rN_succ hk]
    -- lead
    refine ⟨⟨_, _, _, rfl⟩, rfl, by simp [brs], cs, a, z, (N : Int), rfl, a0, by omega, by omega, by omega, fun i a2 z2 i0 i1 g1 g2 => ?_⟩
    obtain ⟨i, rfl⟩ : ∃ k : Nat, i = (k : Nat) := ⟨i.toNat, by omega⟩
    refine ⟨rfl, by simp [brs], cs, a2, z2, (L : Int), rfl, by omega, by omega, by omega, by omega, fun b a3 z3 b0 b1 g3 g4 => ?_⟩
    obtain ⟨b, rfl⟩ : ∃ k : Nat, b = (k : Nat) := ⟨b.toNat, by omega⟩
    refine ⟨[.int (i : Nat), .int (b : Nat)], rfl, rfl, by simp [brs], cs, a3, z3, (N : Int), rfl, by omega, by omega, by omega, by omega, fun j a4 z4 j0 j1 g5 g6 => ?_⟩
    obtain ⟨s, hs⟩ : ∃ s, m.st[i]? = some s := ⟨_, List.getElem?_eq_getElem (by omega)⟩
    refine ⟨rfl, by simp [brs], m, _, _, i, b, j, s, rfl, hm, hs, by omega, j0, by omega, ?_⟩
    have ok2 := lead_ok (a := b) hm hs j0 (by omega)
    generalize hm2 : m.setS i (s.1, s.2.set b j) = m2 at ok2
    have mL2 : m2.L = L := by rw [← hm2]; exact mL
    have mN2 : m2.st.length = N := by rw [← hm2]; show (m.st.set i _).length = N; rw [List.length_set]; exact mN
    -- exchange
    refine ⟨⟨_, _, _, rfl⟩, rfl, by simp [brs], cs, a4, z4, (N : Int), rfl, by omega, by omega, by omega, by omega, fun i' a5 z5 i0' i1' g7 g8 => ?_⟩
    obtain ⟨i', rfl⟩ : ∃ k : Nat, i' = (k : Nat) := ⟨i'.toNat, by omega⟩
    refine ⟨rfl, by simp [brs], cs, a5, z5, (L : Int), rfl, by omega, by omega, by omega, by omega, fun c a6 z6 c0 c1 g9 g10 => ?_⟩
    obtain ⟨c, rfl⟩ : ∃ k : Nat, c = (k : Nat) := ⟨c.toNat, by omega⟩
    obtain ⟨s', hs'⟩ : ∃ s, m2.st[i']? = some s := ⟨_, List.getElem?_eq_getElem (by omega)⟩
    refine ⟨rfl, by simp [brs], m2, _, _, i', 0, c, s', rfl, ok2, hs', by omega, by omega, ?_⟩
    have ok3 := exch_ok (a := 0) (b := c) ok2 hs' (by omega) (by omega)
    generalize hm3 : m2.setS i' (swp s'.1 0 c, s'.2) = m3 at ok3
    have mL3 : m3.L = L := by rw [← hm3]; exact mL2
    have mN3 : m3.st.length = N := by rw [← hm3]; show (m2.st.set i' _).length = N; rw [List.length_set]; exact mN2
    -- kept, the mark
    refine ⟨⟨_, rfl⟩, ⟨_, _, _, rfl⟩, rfl, by simp [brs], m3.d, _, _, rfl, ⟨_, _, _, rfl⟩, rfl, by simp [brs], m3.d, _, _, nmN (H.length + 1), rfl, keys_rN _, nm_short _, fun ys y1 y2 => ⟨sz (by simp), _, _, _, rfl, gApp_ok (by omega), ?_⟩⟩
    refine ⟨⟨_, _, _, rfl⟩, rfl, by simp [brs], m3.d, _, H, rfl, by omega, fun h => absurd h (by omega), fun _ => ⟨_, _, _, rfl, rfl, gNe_int, _, rfl, ?_⟩⟩
    rw [eq_self_int]
    have hl : (H ++ [(m3.d, rN6 (H.length + 1))]).length = H.length + 1 := by simp
    have := marks_loop (cs := cs) (e1 := e1) (e3 := e3) (D := D) hL hN n (H ++ [(m3.d, rN6 (H.length + 1))]) (K ++ [.list [m3.d, .list (ys.map .str)]]) m3 a6 z6 (.fz (fI H.length)) (by rw [hl]; omega) (by simp [hK]) (fun i q hi => ?_) ok3 mL3 mN3 (by omega) (by rw [hl]; omega) q
    · rw [hl] at this
      exact this
    · by_cases h : i < H.length
      · rw [List.getElem?_append_left h] at hi
        obtain ⟨d, h1, h2⟩ := hp i q hi
        exact ⟨d, by rw [List.getElem?_append_left (by omega)]; exact h1, h2⟩
      · have hi2 := (List.getElem?_eq_some_iff.mp hi).1
        rw [hl] at hi2
        have : i = H.length := by omega
        subst this
        rw [List.getElem?_append_right (Nat.le_refl _), Nat.sub_self] at hi
        cases hi
        exact ⟨_, by rw [List.getElem?_append_right (by omega), hK, Nat.sub_self]; rfl, m3, H.length + 1, ys, rfl, ok3, by omega, y1, y2, rfl⟩
abbrev spotBody : RS := (rIf (cV (pBin gLt (rN 3) (pOne gLen (eMeth 1 4 m_House_marks bN)))) (rSeq (rDrop (eMeth 2 4 m_House_back (bC (rN 3) bN))) (rIf (cOr (cV (pBin gNe (eLst (aC (eMeth 1 4 m_House_machine bN) (aC (eMeth 1 4 m_House_names bN) aN))) (pBin gIx (rN 5) (rN 3)))) (cV (pBin gNe (eMeth 1 4 m_House_marks bN) (eLRng (pBin gAdd (rN 3) (rC (.int 1))))))) (rRet (rC (.bool false))) rNext)) rNext)
theorem spot_turn {H : List (PyData × DKs)} {K : List PyData} (hp : PreM H K) (hH : H.length ≤ 6) {p : Nat} {k : PyData} {r : DKs} {e0 e1 e2 e6 e7 : Sl} {D : Ed} (q : ∀ (H' : List (PyData × DKs)) (k : PyData) (r : DKs), PreM H' K → H'.length ≤ 6 → D.nx [e0, e1, e2, .fz (fI p), .ow (.hs k r (heldD H')), .ow (.ls K), e6, e7]) :
    spotBody D [e0, e1, e2, .fz (fI p), .ow (.hs k r (heldD H)), .ow (.ls K), e6, e7] := by
  refine ⟨⟨_, _, _, rfl⟩, rfl, by simp [brs], k, r, _, rfl, by rw [heldD_len]; omega, _, _, rfl, rfl, _, _, _, rfl, rfl, rfl, _, rfl, ?_⟩
  rw [rngI_len, heldD_len]
  by_cases hlt : ((p : Nat) : Int) < ((H.length : Nat) : Int)
  · rw [decide_eq_true hlt]
    have hpl : p < H.length := by omega
    obtain ⟨x, hx⟩ : ∃ x, H[p]? = some x := ⟨_, List.getElem?_eq_getElem hpl⟩
    obtain ⟨d, hd, m', n', ys, rfl, ok', hn', y1, y2, rfl⟩ := hp p x hx
    refine ⟨⟨_, _, _, rfl⟩, rfl, by simp [brs], k, r, H, .int (p : Nat), rfl, hH, rfl, fun i q' hi hq => ?_, fun h => by rw [h p rfl] at hx; cases hx⟩
    have : i = p := by
      have : ((p : Nat) : Int) = ((i : Nat) : Int) := by injection hi
      omega
    subst this
    rw [hx] at hq
    cases hq
    refine ⟨⟨_, _, _, rfl⟩, rfl, by simp [brs], m'.d, _, _, rfl, ⟨_, _, _, rfl⟩, rfl, by simp [brs], m'.d, _, _, nmN n', rfl, keys_rN _, nm_short _, fun zs z1 z2 => ?_⟩
    have : zs = ys := sortedS_uniq (z1.trans y1.symm) z2 y2
    subst this
    have gk : gIx (.list K) (.int (i : Nat)) = some (.fz (.list [m'.d, .list (zs.map .str)])) := by
      show (atI K _).map Rs.fz = _
      unfold atI
      rw [ixN_nat (List.getElem?_eq_some_iff.mp hd).1]
      show (K[i]?).map Rs.fz = _
      rw [hd]; rfl
    refine ⟨sz (by simp), _, _, _, rfl, rfl, gk, _, _, _, rfl, rfl, gNe_same (fun _ z => by cases z) (shaped_kept (nm_all y1)), _, rfl, ?_⟩
    refine ⟨⟨_, _, _, rfl⟩, rfl, by simp [brs], m'.d, _, _, rfl, by rw [heldD_len, List.length_take]; omega, _, _, _, rfl, rfl, rfl, ((i : Nat) : Int) + 1, rfl, by omega, by omega, ?_⟩
    have e1 : (heldD (H.take (i + 1))).length = (((i : Nat) : Int) + 1).toNat := by rw [heldD_len, List.length_take]; omega
    rw [e1, rngI_rg]
    refine ⟨_, _, _, rfl, rfl, gNe_ints _ _, _, rfl, ?_⟩
    rw [decide_eq_true rfl]
    refine q (H.take (i + 1)) _ _ (fun j x hj => ?_) (by rw [List.length_take]; omega)
    have := List.getElem?_take (l := H) (i := i + 1) (j := j)
    rw [this] at hj
    split at hj
    · exact hp j x hj
    · cases hj
  · rw [decide_eq_false hlt]
    exact q H k r hp hH
theorem pl_law_marks_right : ∀ sls Q E, m_law_marks_right sls Q E → mBody [0] 2 6 t_law_marks_right sls Q E := by
  rintro sls Q E ⟨cs, a, z, m, rfl, a0, a1, hm, q⟩
  have l2 := hm.l2
  have l4 := hm.l4
  obtain ⟨L, hL⟩ : ∃ L : Nat, m.L = L := ⟨m.L.toNat, by omega⟩
  have eL : gIx m.d (.int 0) = some (.fz (.int (L : Nat))) := by
    show some (Rs.fz (.int m.L)) = _
    rw [hL]
  have eN : gLen (.tuple (m.st.map stD)) = some (fzI ((m.st.length : Nat) : Int)) := by
    show some (fzI (((m.st.map stD).length : Nat) : Int)) = _
    rw [List.length_map]
  refine ⟨rfl, m.d, rfl, mc_nd hm, fun _ => ⟨rfl, _, _, rfl, _, rfl, [], rfl, sz (by simp), _, rfl, ?_⟩, fun h => by rw [mc_table hm] at h; cases h⟩
  refine ⟨_, _, _, rfl, rfl, eL, _, _, _, rfl, rfl, rfl, _, _, rfl, eN, _, _, rfl, ?_⟩
  refine ⟨6, rfl, by decide, by decide, ?_⟩
  rw [show (6 : Int).toNat = 6 from rfl, rngI_F]
  refine marks_loop (L := L) (N := m.st.length) (by omega) hm.s8 6 [] [] m a z _ rfl rfl (fun i q hi => by cases hi) hm hL rfl a0 (by simp; omega) fun H K m2 a2 z2 e2 hH hK hp a20 a21 => ?_
  have ha : hasB (rN6 6) (.str "a") = true := by
    rw [has_keys, ksOf_rN]
    decide +kernel
  refine ⟨⟨_, _, _, rfl⟩, rfl, by simp [brs], m2.d, _, _, .str "a", rfl, nm_str (by decide +kernel), fun h => ?_, fun z v e1 e2 e3 => ?_⟩
  · rcases h with h | h
    · rw [n_a] at h; cases h
    · rw [ha] at h; cases h
  refine ⟨rfl, by simp [brs], .inr ⟨m2.d, _, H, .none, .none, rfl, hH, _, _, _, rfl, rfl, gNe_s _, _, rfl, ?_⟩⟩
  refine ⟨rfl, by simp [brs], cs, a2, z2, 6, rfl, a20, by omega, by decide, by decide, fun x a3 z3 x0 x1 _ _ => ?_⟩
  obtain ⟨x, rfl⟩ : ∃ k : Nat, x = (k : Nat) := ⟨x.toNat, by omega⟩
  refine ⟨sz (by simp), [fI 5, fI x, fI 0], rfl, ?_⟩
  refine spot_turn (p := 5) hp (by omega) fun H1 k1 r1 hp1 h1 => ?_
  refine spot_turn (p := x) hp1 h1 fun H2 k2 r2 hp2 h2 => ?_
  refine spot_turn (p := 0) hp2 h2 fun H3 k3 r3 hp3 h3 => ?_
  exact q a3 z3
end Hd
end

section
set_option Elab.async false
set_option linter.all false
set_option maxRecDepth 100000
set_option maxHeartbeats 0
set_option autoImplicit false
namespace Hd
open PySem PySem.Spec PyProof.Rows L2 L3
/-! what is no machine -/
def BadD (d : PyData) : Prop := ND 4 d ∧ tableB 8 d = false
theorem sIx_none0 (n : Nat) : HT.sIx n 0 none = 0 := rfl
def nine (ss : List PyData) : List PyData := L3.cutD (ss ++ (List.replicate (8 : Int).toNat ss).flatten) none (some 9)
theorem nine_len {ss : List PyData} (h : 1 ≤ ss.length) : (nine ss).length = 9 := by
  have e : (ss ++ (List.replicate (8 : Int).toNat ss).flatten).length = 9 * ss.length := by
    rw [List.length_append, List.length_flatten, List.map_replicate, show (8 : Int).toNat = 8 from rfl]
    simp [List.replicate]
    omega
  unfold nine L3.cutD
  rw [List.length_take, List.length_drop, e]
  have a2 : HT.sIx (9 * ss.length) (9 * ss.length) (some 9) = min 9 (9 * ss.length) := HT.sIx_nat _ _ 9
  have a1 : HT.sIx (9 * ss.length) 0 none = 0 := rfl
  rw [a1, a2]
  omega
theorem nine_mem {ss : List PyData} {x : PyData} (h : x ∈ nine ss) : x ∈ ss := by
  unfold nine L3.cutD at h
  have h := List.mem_of_mem_drop (List.mem_of_mem_take h)
  rcases List.mem_append.mp h with m | m
  · exact m
  · obtain ⟨l, hl, m⟩ := List.mem_flatten.mp m
    rw [(List.mem_replicate.mp hl).2] at m
    exact m
def someD (L : Int) (ss : List PyData) : List PyData := [.none, .list [.int L, .tuple ss], .tuple [.int L, .tuple []], .tuple [.int L, .tuple (nine ss)], .tuple [.int L], .tuple [.int 1, .tuple ss]]
  ++ [.tuple [.int 5, .tuple ss], .tuple [.int L, .list ss], .tuple [.bool true, .tuple ss], .str "machine", .tuple [.int L, .tuple ss, .int 0]]
  ++ [.tuple [.int 5, .tuple [.tuple [.tuple [.int 0, .int 1, .int 2, .int 3, .int 4], zer 5 0]]], .tuple [.int 1, .tuple [.tuple [.tuple [.int 0], .tuple [.int 0]]]], .tuple [.int 0, .tuple [.tuple [.tuple [], .tuple []]]]]
theorem some_bad {m : Mc} (hm : m.ok) : ∀ d ∈ someD m.L (m.st.map stD), BadD d := by
  have nk := mc_nd hm
  have ns : ND 3 (.tuple (m.st.map stD)) := ND.tup nk |>.2 _ (by simp)
  have ni : ∀ i : Int, ND 3 (.int i) := fun i => nd_flat rfl rfl 3
  have two : ∀ (a b : PyData), ND 3 a → ND 3 b → ND 4 (.tuple [a, b]) := fun a b ha hb => nd_tup (by simp) fun x hx => by
    simp only [List.mem_cons, List.not_mem_nil, or_false] at hx
    rcases hx with rfl | rfl
    · exact ha
    · exact hb
  have i1 : ∀ is : List Int, is.length ≤ 1000 → ND 1 (tI is) := fun is h => nd_ints 1 h
  have st1 : ∀ a b : List Int, a.length ≤ 1000 → b.length ≤ 1000 → ND 3 (.tuple [.tuple [tI a, tI b]]) := fun a b ha hb => nd_tup (by simp) fun x hx => by
    rw [List.mem_singleton.mp hx]
    refine nd_tup (by simp) fun y hy => ?_
    simp only [List.mem_cons, List.not_mem_nil, or_false] at hy
    rcases hy with rfl | rfl
    · exact i1 _ ha
    · exact i1 _ hb
  have hs1 := hm.s1
  have hs8 := hm.s8
  have hl : (m.st.map stD).length = m.st.length := List.length_map ..
  intro d hd
  have hd : d = .none ∨ d = .list [.int m.L, .tuple (m.st.map stD)] ∨ d = .tuple [.int m.L, .tuple []] ∨ d = .tuple [.int m.L, .tuple (nine (m.st.map stD))] ∨ d = .tuple [.int m.L] ∨ d = .tuple [.int 1, .tuple (m.st.map stD)]
    ∨ d = .tuple [.int 5, .tuple (m.st.map stD)] ∨ d = .tuple [.int m.L, .list (m.st.map stD)] ∨ d = .tuple [.bool true, .tuple (m.st.map stD)] ∨ d = .str "machine" ∨ d = .tuple [.int m.L, .tuple (m.st.map stD), .int 0]
    ∨ d = .tuple [.int 5, .tuple [.tuple [.tuple [.int 0, .int 1, .int 2, .int 3, .int 4], zer 5 0]]] ∨ d = .tuple [.int 1, .tuple [.tuple [.tuple [.int 0], .tuple [.int 0]]]] ∨ d = .tuple [.int 0, .tuple [.tuple [.tuple [], .tuple []]]] := by
    unfold someD at hd
    simpa only [List.cons_append, List.nil_append, List.mem_cons, List.not_mem_nil, or_false] using hd
  rcases hd with h | h | h | h | h | h | h | h | h | h | h | h | h | h <;> subst h
  · exact ⟨nd_flat rfl rfl 4, rfl⟩
  · exact ⟨nd_flat rfl rfl 4, rfl⟩
  · refine ⟨two _ _ (ni _) (nd_tup (by simp) fun x hx => by cases hx), ?_⟩
    show (lettersB (.int m.L) && _) = false
    rw [Bool.and_eq_false_iff]; right; rfl
  · refine ⟨two _ _ (ni _) (nd_tup (by rw [nine_len (by omega)]; decide) fun x hx => ns.tup.2 x (nine_mem hx)), ?_⟩
    show (lettersB (.int m.L) && ((decide (1 ≤ ((nine (m.st.map stD)).length : Int)) && decide (((nine (m.st.map stD)).length : Int) ≤ 8)) && _)) = false
    rw [nine_len (by omega), Bool.and_eq_false_iff]; right; rfl
  · exact ⟨nd_tup (by simp) fun x hx => by rw [List.mem_singleton.mp hx]; exact ni _, rfl⟩
  · exact ⟨two _ _ (ni _) ns, rfl⟩
  · exact ⟨two _ _ (ni _) ns, rfl⟩
  · refine ⟨two _ _ (ni _) (nd_flat rfl rfl 3), ?_⟩
    show (lettersB (.int m.L) && false) = false
    rw [Bool.and_false]
  · exact ⟨two _ _ (nd_flat rfl rfl 3) ns, rfl⟩
  · exact ⟨nd_flat rfl rfl 4, rfl⟩
  · refine ⟨nd_tup (by simp) fun x hx => ?_, rfl⟩
    simp only [List.mem_cons, List.not_mem_nil, or_false] at hx
    rcases hx with rfl | rfl | rfl
    · exact ni _
    · exact ns
    · exact ni _
  · exact ⟨two _ _ (ni _) (st1 [0, 1, 2, 3, 4] (List.replicate 5 0) (by simp) (by simp)), rfl⟩
  · exact ⟨two _ _ (ni _) (st1 [0] [0] (by simp) (by simp)), rfl⟩
  · exact ⟨two _ _ (ni _) (st1 [] [] (by simp) (by simp)), rfl⟩
/-! names put one by one -/
abbrev fillBody : RS := (rIf (cV (pBin gNe (eCall 4 m_law_told (bC (rN 4) (bC (rC (.int 0)) (bC (rN 5) (bC (eTup aN) bN))))) (rC (.str "told")))) (rRet (rC (.bool false))) rNext)
def addR (r : DKs) (zs : List Str) : DKs := r ++ zs.map fun z => (Sum.inr z, tI [])
theorem addR_len (r : DKs) (zs : List Str) : (addR r zs).length = r.length + zs.length := by simp [addR]
theorem addR_keys (r : DKs) (zs : List Str) : ksOf (addR r zs) = ksOf r ++ zs.map Sum.inr := by
  unfold addR ksOf
  rw [List.map_append, List.map_map]
  rfl
theorem addR_rows {r : DKs} (hr : RowsD r) (zs : List Str) : RowsD (addR r zs) := fun p hp => by
  rcases List.mem_append.mp hp with m | m
  · exact hr p m
  · obtain ⟨z, _, rfl⟩ := List.mem_map.mp m
    exact ⟨[], rfl, by simp⟩
theorem fill_loop {m : Mc} (hm : m.ok) {h : List PyData} {e0 e1 e2 e3 e6 e7 : Sl} {D : Ed} : ∀ (zs : List Str) (ks : List L2.Key) (r : DKs) (e5 : Sl), okL ks zs = true → (∀ k, hasK (ksOf r) k = true → hasK ks k = true) → r.length + zs.length ≤ 12 → RowsD r →
    (∀ e5, D.nx [e0, e1, e2, e3, .ow (.hs m.d (addR r zs) h), e5, e6, e7]) →
    rLoop (gN 5) fillBody D (zs.map .str) [e0, e1, e2, e3, .ow (.hs m.d r h), e5, e6, e7]
  | [], ks, r, e5, ho, hk, hl, hr, q => by
    have q := q e5
    unfold addR at q
    rw [List.map_nil, List.append_nil] at q
    exact q
  | z :: zs, ks, r, e5, ho, hk, hl, hr, q => by
    obtain ⟨n1, n2, n3⟩ := put_turn (m := m) ho hk
    obtain ⟨_, _, _, ho'⟩ := okL_cons ho
    rw [List.length_cons] at hl
    have e : deedE m.d r 0 (.str z) (tI []) = .inr (r ++ [(.inr z, tI [])]) := put_ok n1 n2 rowB_nil (by omega)
    rw [List.map_cons]
    refine ⟨sz (by simp), rfl, by simp [brs], .inl ⟨m.d, r, h, 0, .str z, tI [], rfl, .inl rfl, nm_str n3, by omega, hr, fun _ => ⟨mc_nd hm, mc_table hm, nd_ints 1 (by simp)⟩, fun h => absurd rfl h, told_y e ?_⟩⟩
    refine ⟨_, _, _, rfl, rfl, gNe_s _, _, rfl, ?_⟩
    refine fill_loop hm zs (ks ++ [.inr z]) _ _ ho' (fun k e => ?_) (by simp; omega) (rows_app hr (by simp)) fun e5 => ?_
    · rw [ksOf_app, hasK_app] at e
      rw [hasK_app]
      rcases Bool.or_eq_true_iff.mp e with e | e
      · rw [hk k e]; rfl
      · rw [e, Bool.or_true]
    · have q := q e5
      unfold addR at q ⊢
      rw [List.append_assoc]
      exact q
/-! the last part -/
theorem kval_app0 {r s : DKs} {k : L2.Key} (h : hasK (ksOf r) k = false) : kval (r ++ s) k = kval s k := by
  rw [← kval_some] at h
  unfold kval at *
  rw [List.find?_append]
  cases e : r.find? fun kv => decide (kv.1 = k) with
  | none => rfl
  | some p => rw [e] at h; cases h
theorem kval_non {r : DKs} {k : L2.Key} (h : hasK (ksOf r) k = false) : kval r k = none := by
  rw [← kval_some] at h
  cases e : kval r k with
  | none => rfl
  | some p => rw [e] at h; cases h
theorem ksOf_drop (r : DKs) (k : L2.Key) : ksOf (kdrop r k) = (ksOf r).filter fun j => decide (j ≠ k) := by
  unfold ksOf kdrop
  rw [List.filter_map]
  rfl
theorem ks_len (r : DKs) : (ksOf r).length = r.length := by unfold ksOf; rw [List.length_map]
def ks3 : List Str := ["long", "twice", "most"]
def ks2 : List Str := ["long", "most"]
theorem gSl_st {z : Str} {lo hi : Option Int} (h : z.length ≤ sizeLine) : L3.gSl (.str z) lo hi = some (.fz (.str (cutS z lo hi))) := if_pos h
structure Chk (ks zs : List Str) : Prop where
  n12 : ks.length + zs.length = 12
  ok : okL (ks.map Sum.inr) zs = true
  cut : charsS (cutS "abcdefghijkl" none (some (12 - (ks.length : Nat)))) = zs
  a1 : hasK (ks.map Sum.inr) (.inr "a") = false
  a2 : zs.head? = some "a"
  nw : hasK (ks.map Sum.inr ++ zs.map Sum.inr) (.inr "new") = false
  nv : hasK (ks.map Sum.inr ++ zs.map Sum.inr) (.inr "never") = false
  nr : hasK (ks.map Sum.inr ++ zs.map Sum.inr) (.inr "newer") = false
  d : ((ks.map Sum.inr ++ zs.map Sum.inr : List L2.Key).filter fun j => decide (j ≠ .inr "a")).length = 11
theorem chk3 : Chk ks3 (charsS "abcdefghi") := by
  refine ⟨?_, ?_, ?_, ?_, ?_, ?_, ?_, ?_, ?_⟩ <;> decide +kernel
theorem chk2 : Chk ks2 (charsS "abcdefghij") := by
  refine ⟨?_, ?_, ?_, ?_, ?_, ?_, ?_, ?_, ?_⟩ <;> decide +kernel
theorem n_newer : nameB (.str "newer") = true := by decide +kernel
abbrev lawEnd : RS := (rSeq (rFor (iSeq (eSl gSl (rC (.str "abcdefghijkl")) oN (oS (pBin gSub (rC (.int 12)) (pOne gLen (eMeth 1 4 m_House_names bN)))))) (gN 5) fillBody) (rSeq (rIf (cNot (cV (eCall 1 m_law_names_right (bC (rN 4) bN)))) (rRet (rC (.bool false))) rNext) (rSeq (rDrop (eMeth 2 4 m_House_take_out (bC (rC (.str "a")) bN))) (rSeq (rIf (cV (pBin gNe (eLst (aC (eCall 4 m_law_told (bC (rN 4) (bC (rC (.int 0)) (bC (rC (.str "new")) (bC (eTup aN) bN))))) (aC (eCall 4 m_law_told (bC (rN 4) (bC (rC (.int 0)) (bC (rC (.str "newer")) (bC (eTup aN) bN))))) aN))) (eLst (aC (rC (.str "told")) (aC (rC (.str "full 12")) aN))))) (rRet (rC (.bool false))) rNext) (rRet (eAnd (eCall 2 m_law_room_right (bC (rN 1) (bC (rN 2) bN))) (eCall 2 m_law_marks_right (bC (rN 1) (bC (rN 2) bN)))))))))
theorem law_end {m : Mc} (hm : m.ok) {cs : List Int} {a z : Int} {r1 : DKs} {ks zs : List Str} {e0 e3 e5 e6 e7 : Sl} {D : Ed} (c : Chk ks zs) (hk : ksOf r1 = ks.map Sum.inr) (hmo : kval r1 (.inr "most") = some (zer 16 0)) (hr : RowsD r1) (a0 : 0 ≤ a) (a1 : a < 2 ^ 19)
    (q : ∀ env, D.rt (.fz (.bool true)) (e0 :: env)) : lawEnd D [e0, .ow (.pn cs a z), .fz m.d, e3, .ow (.hs m.d r1 []), e5, e6, e7] := by
  have nk := mc_nd hm
  have tk := mc_table hm
  have hl1 : r1.length = ks.length := by rw [← ks_len, hk, List.length_map]
  have hl12 : r1.length + zs.length = 12 := by rw [hl1]; exact c.n12
  have nm : ∀ z : Str, z.length ≤ 10 → NmD (.str z) := fun z h => nm_str (by omega)
  refine ⟨⟨_, _, _, rfl⟩, rfl, by simp [brs], m.d, r1, [], ks, rfl, hk, by omega, fun ys y1 y2 => ?_⟩
  have hy : (ys.map PyData.str).length = ks.length := by rw [List.length_map, y1.length_eq]
  refine ⟨_, _, rfl, (show gLen (.list (ys.map .str)) = some (fzI ((ks.length : Nat) : Int)) from by show some (fzI (((ys.map PyData.str).length : Nat) : Int)) = _; rw [hy]), _, _, _, rfl, rfl, rfl, _, rfl, _, gSl_st (sz (by decide +kernel)), _, rfl, ?_⟩
  rw [signD_chars, c.cut]
  refine fill_loop hm zs (ks.map Sum.inr) r1 e5 c.ok (fun k h => by rw [← hk]; exact h) (by omega) hr fun e5 => ?_
  have k2 : ksOf (addR r1 zs) = ks.map Sum.inr ++ zs.map Sum.inr := by rw [addR_keys, hk]
  have l2 : (addR r1 zs).length = 12 := by rw [addR_len]; exact hl12
  have rw2 := addR_rows hr zs
  have ha : kval (addR r1 zs) (.inr "a") = some (tI []) := by
    unfold addR
    rw [kval_app0 (by rw [hk]; exact c.a1)]
    have := c.a2
    cases zs with
    | nil => cases this
    | cons z zt => cases this; exact kval_hd
  refine ⟨rfl, by simp [brs], m, _, rfl, hm, l2, rw2, ha, kval_app hmo, kval_non (by rw [k2]; exact c.nw), kval_non (by rw [k2]; exact c.nv), _, rfl, ?_⟩
  -- a taken out
  refine ⟨⟨_, _, _, rfl⟩, rfl, by simp [brs], m.d, _, _, .str "a", rfl, nm _ (by decide +kernel), fun h => ?_, fun z v e1 e2 e3 => ?_⟩
  · rcases h with h | h
    · rw [n_a] at h; cases h
    · rw [rows_len ha "a" rfl] at h; cases h
  cases e1
  generalize hr3 : kdrop (addR r1 zs) (.inr "a") = r3
  have k3 : ksOf r3 = (ks.map Sum.inr ++ zs.map Sum.inr : List L2.Key).filter fun j => decide (j ≠ .inr "a") := by rw [← hr3, ksOf_drop, k2]
  have l3 : r3.length = 11 := by rw [← ks_len, k3]; exact c.d
  have rw3 : RowsD r3 := fun p hp => by
    rw [← hr3] at hp
    exact rw2 p (List.mem_filter.mp hp).1
  have sub : ∀ k : L2.Key, hasK (ks.map Sum.inr ++ zs.map Sum.inr) k = false → hasK (ksOf r3) k = false := fun k h => by
    cases e : hasK (ksOf r3) k with
    | false => rfl
    | true =>
      rw [k3] at e
      obtain ⟨j, hj, e⟩ := List.any_eq_true.mp e
      rw [← h]
      exact (List.any_eq_true.mpr ⟨j, (List.mem_filter.mp hj).1, e⟩).symm
  have b1 : hasB r3 (.str "new") = false := by rw [has_keys]; exact sub _ c.nw
  have b2 : hasB (r3 ++ [(.inr "new", tI [])]) (.str "newer") = false := by
    rw [has_keys, ksOf_app, hasK_app, sub _ c.nr]
    decide +kernel
  have p1 : deedE m.d r3 0 (.str "new") (tI []) = .inr (r3 ++ [(.inr "new", tI [])]) := put_ok n_new b1 rowB_nil (by omega)
  have p2 : deedE m.d (r3 ++ [(.inr "new", tI [])]) 0 (.str "newer") (tI []) = .inl (xFull 12) := put_full n_newer b2 rowB_nil (by simp [l3])
  refine ⟨sz (by simp), rfl, by simp [brs], .inl ⟨m.d, r3, [], 0, .str "new", tI [], rfl, .inl rfl, nm _ (by decide +kernel), by omega, rw3, fun _ => ⟨nk, tk, nd_ints 1 (by simp)⟩, fun h => absurd rfl h, told_y p1 ?_⟩⟩
  refine ⟨sz (by simp), rfl, by simp [brs], .inl ⟨m.d, _, [], 0, .str "newer", tI [], rfl, .inl rfl, nm _ (by decide +kernel), by simp [l3], rows_app rw3 (by simp), fun _ => ⟨nk, tk, nd_ints 1 (by simp)⟩, fun h => absurd rfl h, told_w p2 word12 ?_⟩⟩
  refine ⟨sz (by simp), sz (by simp), _, _, _, rfl, rfl, gNe_strs (xs := ["told", "full 12"]) (by decide +kernel), _, rfl, ?_⟩
  refine ⟨rfl, by simp [brs], cs, a, z, m, rfl, a0, by omega, hm, fun a2 z2 g1 g2 => ⟨true, rfl, ?_⟩⟩
  exact ⟨rfl, by simp [brs], cs, a2, z2, m, rfl, by omega, by omega, hm, fun a3 z3 => q _⟩
theorem longR_keys (far : Nat) (x : Int) : ksOf (longR far x) = if far < 9 then [.inr "long", .inr "twice"] else [.inr "long"] := by
  unfold longR
  split <;> rfl
theorem longR_rows {far : Nat} {x : Int} (h : far ≤ 9) : RowsD (longR far x) := fun p hp => by
  unfold longR at hp
  split at hp
  · simp only [List.mem_cons, List.not_mem_nil, or_false] at hp
    rcases hp with rfl | rfl
    · exact ⟨_, rfl, by simp; omega⟩
    · exact ⟨_, rfl, by simp; omega⟩
  · rw [List.mem_singleton.mp hp]
    exact ⟨_, rfl, by simp; omega⟩
theorem longR_len (far : Nat) (x : Int) : (longR far x).length ≤ 2 := by
  unfold longR
  split <;> simp
theorem no_most (far : Nat) (x : Int) : hasK (ksOf (longR far x)) (.inr "most") = false := by
  rw [longR_keys]
  split <;> decide +kernel
theorem pl_law : ∀ sls Q E, m_law sls Q E → mBody [] 1 7 t_law sls Q E := by
  rintro sls Q E ⟨ns, rfl, hn, q⟩
  refine ⟨rfl, by simp [brs], ns, rfl, hn, fun cs => ?_⟩
  refine ⟨rfl, by simp [brs], cs, 0, 0, rfl, rfl, by simp [brs], cs, 0, 0, 8, rfl, by decide, by decide, by decide, by decide, fun m a z hm g1 g2 => ?_⟩
  have s1 := hm.s1
  have s8 := hm.s8
  have nk := mc_nd hm
  have tk := mc_table hm
  have hl : (m.st.map stD).length = m.st.length := List.length_map ..
  have hne : m.st.map stD ≠ [] := fun h => by rw [h] at hl; simp at hl; omega
  refine ⟨[.int m.L, .tuple (m.st.map stD)], rfl, rfl, _, _, rfl, _, _, rfl, rfl, ?_⟩
  -- what is no machine
  refine ⟨_, _, rfl, rfl, sz (by simp), sz (by simp), _, _, _, rfl, rfl, gMulV_tp ⟨hne, by decide, by decide, by omega⟩, _, _, _, rfl, rfl, gAdd_tp ?len, _, rfl, _, rfl, sz (by simp), sz (by simp), sz (by simp), sz (by simp), ?_⟩
  case len =>
    rw [List.length_flatten, List.map_replicate, show (8 : Int).toNat = 8 from rfl, hl]
    simp only [List.replicate, List.sum_cons, List.sum_nil]
    exact sz (by omega)
  refine ⟨sz (by simp), _, _, rfl, rfl, sz (by simp), sz (by simp), sz (by simp), sz (by simp), _, _, _, rfl, rfl, gAdd_ls (sz (by simp)), ?_⟩
  refine ⟨sz (by simp), sz (by simp), _, _, _, rfl, rfl, gMulV_tp ⟨by simp, by decide, by decide, by simp⟩, sz (by simp), sz (by simp), sz (by simp), ?_⟩
  refine ⟨sz (by simp), sz (by simp), sz (by simp), sz (by simp), sz (by simp), sz (by simp), sz (by simp), sz (by simp), sz (by simp), sz (by simp), sz (by simp), _, _, _, rfl, rfl, gAdd_ls (sz (by simp)), ?_⟩
  refine ⟨rfl, by simp [brs], cs, a, z, _, rfl, by omega, by omega, by simp, by simp, fun d hd a2 z2 g3 g4 => ?_⟩
  have hd : d ∈ someD m.L (m.st.map stD) := hd
  obtain ⟨d1, d2⟩ := some_bad hm d hd
  refine ⟨rfl, by simp [brs], d, rfl, d1, d2, _, rfl, ?_⟩
  -- the house
  refine ⟨rfl, m.d, rfl, nk, fun _ => ⟨rfl, _, _, rfl, ?_⟩, fun h => by rw [tk] at h; cases h⟩
  have eN : gLen (.tuple (m.st.map stD)) = some (fzI ((m.st.length : Nat) : Int)) := by
    show some (fzI (((m.st.map stD).length : Nat) : Int)) = _
    rw [hl]
  refine ⟨_, _, rfl, eN, rfl, by simp [brs], cs, a2, z2, m, rfl, by omega, by omega, hm, fun far x a3 z3 f7 f9 g5 g6 => ⟨_, rfl, ?_⟩⟩
  refine ⟨sz (by simp), _, _, _, rfl, rfl, gMulV_tp ⟨by simp, by decide, by decide, by simp⟩, ?_⟩
  rw [zer_of, show (16 : Int).toNat = 16 from rfl]
  have hb : hasB (longR far x) (.str "most") = false := by rw [has_keys]; exact no_most far x
  have hlen := longR_len far x
  have e : deedE m.d (longR far x) 0 (.str "most") (zer 16 0) = .inr (longR far x ++ [(.inr "most", zer 16 0)]) := put_ok n_most hb (rowB_zer (by decide) (by rw [mc_stN]; omega) (by rw [mc_stN]; omega)) (by omega)
  refine ⟨rfl, by simp [brs], .inl ⟨m.d, longR far x, [], 0, .str "most", zer 16 0, rfl, .inl rfl, nm_str (by decide +kernel), by omega, longR_rows f9, fun _ => ⟨nk, tk, nd_zer 16 0 (by decide)⟩, fun h => absurd rfl h, told_y e ⟨_, _, _, rfl, rfl, gNe_s _, _, rfl, ?_⟩⟩⟩
  have k1 : ksOf (longR far x ++ [(.inr "most", zer 16 0)]) = (if far < 9 then [.inr "long", .inr "twice"] else [.inr "long"]) ++ [.inr "most"] := by rw [ksOf_app, longR_keys]
  have hmo : kval (longR far x ++ [(.inr "most", zer 16 0)]) (.inr "most") = some (zer 16 0) := by rw [kval_app0 (no_most far x)]; exact kval_hd
  have rws : RowsD (longR far x ++ [(.inr "most", zer 16 0)]) := rows_app (longR_rows f9) (by simp)
  by_cases h9 : far < 9
  · rw [if_pos h9] at k1
    exact law_end hm chk3 k1 hmo rws (by omega) (by omega) fun env => q
  · rw [if_neg h9] at k1
    exact law_end hm chk2 k1 hmo rws (by omega) (by omega) fun env => q
end Hd
end

section
set_option autoImplicit true
set_option maxHeartbeats 0
namespace Hd
open PySem PySem.Spec PyProof.Rows L2 L3
theorem sc_law_open : FnScope ["script", "cells", "k", "cell"] ["script"] (defScope s__law_open) := ⟨rfl, rfl, rfl, by decide +kernel, rfl, by decide +kernel, by decide +kernel⟩
section
variable {K : PySem.W.Frag} {mg : Str → Option Value}
noncomputable def fd_law_open (B : Bd K mg) : FuncData := (B.c.def_ 45 (d := d__law_open) rfl).choose
theorem F_law_open (B : Bd K mg) : FunD K "_law_open" "_law_open" (defArgs s__law_open) (defBody s__law_open) (defScope s__law_open) [] [] (He.fAd K ("_law_open", none)) (fd_law_open B) := (B.c.def_ 45 (d := d__law_open) rfl).choose_spec
theorem bd_law_open (B : Bd K mg) : Binds K (fd_law_open B) ["script"] [] := FunD.bindsN (F_law_open B) fun _ _ _ _ _ _ us hl => match us, hl with | [_], _ => rfl
theorem ok_law_open (B : Bd K mg) {P : Program} {w : World} {base : Heap} : GOk P w K mg base 1 (He.fAd K ("_law_open", none)) (fd_law_open B) ["script"] m_law_open := by
  have mf_list := mf_list B
  have mf_enumerate := mf_enumerate B
  refine (fn3 (F_law_open B) sc_law_open [] t_law_open fun cdv A outer s H E H0 F0 σ0 hr hgd po => ?_).imp pl_law_open
  exact (ss_cons (ss_set (i := 1) (by exact sc_law_open.nd) rfl (by first | exact Or.inl rfl | exact Or.inr rfl) (show (1 : Nat) ∉ ([] : List Nat) by decide) (sp_callTy call_list_of callv_list (by rfl) (by exact mf_list) bt_list (se_slice sl_V sld (se_name 0) so_none (so_some se_int)))) (ss_cons (ss_for (by exact po) (by rfl) (si_enum (by rfl) (by exact mf_enumerate) (sa_cons (se_slice sl_V sld (se_name 0) (so_some se_int) (so_some se_int)) sa_nil)) (sg_tup (by rfl) (sgs_cons (sg_name (by exact sc_law_open.nd) (i := 2) rfl (by first | exact Or.inl rfl | exact Or.inr rfl) (show (2 : Nat) ∉ ([] : List Nat) by decide)) (sgs_cons (sg_name (by exact sc_law_open.nd) (i := 3) rfl (by first | exact Or.inl rfl | exact Or.inr rfl) (show (3 : Nat) ∉ ([] : List Nat) by decide)) sgs_nil))) (ss_one (ss_asg (sp_bin op_addV opv_add (sp_ix ix_seq opv_ix (se_name 1) (sp_bin op_modN opv_mod (se_name 2) se_int)) (se_name 3)) (sg_subL 1 (sp_bin op_modN opv_mod (se_name 2) se_int))))) (ss_one (ss_ret (se_penN 1)))))
end
theorem sc_law_spread : FnScope ["cell", "at", "primes", "mixed", "one", "two", "three"] ["cell", "at"] (defScope s__law_spread) := ⟨rfl, rfl, rfl, by decide +kernel, rfl, by decide +kernel, by decide +kernel⟩
section
variable {K : PySem.W.Frag} {mg : Str → Option Value}
noncomputable def fd_law_spread (B : Bd K mg) : FuncData := (B.c.def_ 44 (d := d__law_spread) rfl).choose
theorem F_law_spread (B : Bd K mg) : FunD K "_law_spread" "_law_spread" (defArgs s__law_spread) (defBody s__law_spread) (defScope s__law_spread) [] [] (He.fAd K ("_law_spread", none)) (fd_law_spread B) := (B.c.def_ 44 (d := d__law_spread) rfl).choose_spec
theorem bd_law_spread (B : Bd K mg) : Binds K (fd_law_spread B) ["cell", "at"] [] := FunD.bindsN (F_law_spread B) fun _ _ _ _ _ _ us hl => match us, hl with | [_, _], _ => rfl
theorem ok_law_spread (B : Bd K mg) {P : Program} {w : World} {base : Heap} : GOk P w K mg base 1 (He.fAd K ("_law_spread", none)) (fd_law_spread B) ["cell", "at"] m_law_spread := by
  refine (fn3 (F_law_spread B) sc_law_spread [] t_law_spread fun cdv A outer s H E H0 F0 σ0 hr hgd po => ?_).imp pl_law_spread
  exact (ss_cons (ss_if (sp_cmpT op_ge opv_ge (se_name 0) (sp_bin op_pow opv_pow se_int se_int) (by rfl)) (ss_one (ss_ret (se_name 0))) ss_nil) (ss_cons (ss_set (i := 2) (by exact sc_law_spread.nd) rfl (by first | exact Or.inl rfl | exact Or.inr rfl) (show (2 : Nat) ∉ ([] : List Nat) by decide) (se_lst (sa_cons se_int (sa_cons se_int (sa_cons se_int (sa_cons se_int (sa_cons se_int (sa_cons se_int (sa_cons se_int sa_nil))))))))) (ss_cons (ss_set (i := 2) (by exact sc_law_spread.nd) rfl (by first | exact Or.inl rfl | exact Or.inr rfl) (show (2 : Nat) ∉ ([] : List Nat) by decide) (sp_bin op_addV opv_add (se_name 2) (se_lst (sa_cons se_int (sa_cons se_int (sa_cons se_int (sa_cons se_int (sa_cons se_int (sa_cons se_int sa_nil))))))))) (ss_cons (ss_set (i := 3) (by exact sc_law_spread.nd) rfl (by first | exact Or.inl rfl | exact Or.inr rfl) (show (3 : Nat) ∉ ([] : List Nat) by decide) (sp_bin op_addV opv_add (sp_bin op_addV opv_add (sp_bin op_mul opv_mul (sp_bin op_modN opv_mod (se_name 0) se_int) (sp_bin op_addV opv_add (sp_bin op_mul opv_mul se_int (se_name 1)) se_int)) (sp_bin op_mul opv_mul (se_name 1) se_int)) se_int)) (ss_cons (ss_set (i := 4) (by exact sc_law_spread.nd) rfl (by first | exact Or.inl rfl | exact Or.inr rfl) (show (4 : Nat) ∉ ([] : List Nat) by decide) (sp_bin op_modN opv_mod (sp_bin op_pow opv_pow (se_name 3) se_int) (sp_ix ix_seq opv_ix (se_name 2) (sp_bin op_modN opv_mod (se_name 1) se_int)))) (ss_cons (ss_set (i := 5) (by exact sc_law_spread.nd) rfl (by first | exact Or.inl rfl | exact Or.inr rfl) (show (5 : Nat) ∉ ([] : List Nat) by decide) (sp_bin op_modN opv_mod (sp_bin op_pow opv_pow (sp_bin op_addV opv_add (sp_bin op_addV opv_add (sp_bin op_mul opv_mul (se_name 4) (sp_bin op_addV opv_add (se_name 1) se_int)) (sp_bin op_modN opv_mod (se_name 0) se_int)) se_int) se_int) (sp_ix ix_seq opv_ix (se_name 2) (sp_bin op_modN opv_mod (sp_bin op_addV opv_add (se_name 1) se_int) se_int)))) (ss_cons (ss_set (i := 6) (by exact sc_law_spread.nd) rfl (by first | exact Or.inl rfl | exact Or.inr rfl) (show (6 : Nat) ∉ ([] : List Nat) by decide) (sp_bin op_modN opv_mod (sp_bin op_pow opv_pow (sp_bin op_addV opv_add (sp_bin op_addV opv_add (se_name 5) (sp_bin op_modN opv_mod (se_name 4) se_int)) (se_name 1)) se_int) (sp_ix ix_seq opv_ix (se_name 2) (sp_bin op_modN opv_mod (sp_bin op_addV opv_add (se_name 1) se_int) se_int)))) (ss_one (ss_ret (sp_bin op_addV opv_add (sp_bin op_mul opv_mul (sp_bin op_addV opv_add (sp_bin op_mul opv_mul (se_name 4) se_int) (se_name 5)) se_int) (se_name 6)))))))))))
end
theorem sc_law_take : FnScope ["pen", "many", "found", "at", "cell"] ["pen", "many"] (defScope s__law_take) := ⟨rfl, rfl, rfl, by decide +kernel, rfl, by decide +kernel, by decide +kernel⟩
section
variable {K : PySem.W.Frag} {mg : Str → Option Value}
noncomputable def fd_law_take (B : Bd K mg) : FuncData := (B.c.def_ 47 (d := d__law_take) rfl).choose
theorem F_law_take (B : Bd K mg) : FunD K "_law_take" "_law_take" (defArgs s__law_take) (defBody s__law_take) (defScope s__law_take) [] [] (He.fAd K ("_law_take", none)) (fd_law_take B) := (B.c.def_ 47 (d := d__law_take) rfl).choose_spec
theorem bd_law_take (B : Bd K mg) : Binds K (fd_law_take B) ["pen", "many"] [] := FunD.bindsN (F_law_take B) fun _ _ _ _ _ _ us hl => match us, hl with | [_, _], _ => rfl
theorem ok_law_take (B : Bd K mg) {P : Program} {w : World} {base : Heap} : GOk P w K mg base 2 (He.fAd K ("_law_take", none)) (fd_law_take B) ["pen", "many"] m_law_take := by
  have G_law_spread := ok_law_spread B (P := P) (w := w) (base := base)
  have bd_law_spread := bd_law_spread B
  have kp_law_spread := (F_law_spread B).kp
  have mg_law_spread := mg_law_spread B
  have mf_len := mf_len B
  refine (fn3 (F_law_take B) sc_law_take [0] t_law_take fun cdv A outer s H E H0 F0 σ0 hr hgd po => ?_).imp pl_law_take
  exact (ss_cons (ss_if (sp_cmpT op_lt opv_lt (se_pen2 0) (se_name 1) (by rfl)) (ss_cons (ss_set (i := 3) (by exact sc_law_take.nd) rfl (by first | exact Or.inl rfl | exact Or.inr rfl) (show (3 : Nat) ∉ ([0] : List Nat) by decide) (se_pen1 0)) (ss_cons (ss_set (i := 4) (by exact sc_law_take.nd) rfl (by first | exact Or.inl rfl | exact Or.inr rfl) (show (4 : Nat) ∉ ([0] : List Nat) by decide) se_int) (ss_cons (ss_if (sp_cmpT op_lt opv_lt (se_name 3) (se_penL 0 (by rfl) (by exact mf_len)) (by rfl)) (ss_one (ss_set (i := 4) (by exact sc_law_take.nd) rfl (by first | exact Or.inl rfl | exact Or.inr rfl) (show (4 : Nat) ∉ ([0] : List Nat) by decide) (se_penA 0 3))) (ss_one (ss_if (sp_cmpT op_gt opv_gt (se_penL 0 (by rfl) (by exact mf_len)) se_int (by rfl)) (ss_one (ss_set (i := 4) (by exact sc_law_take.nd) rfl (by first | exact Or.inl rfl | exact Or.inr rfl) (show (4 : Nat) ∉ ([0] : List Nat) by decide) (sp_bin op_modN opv_mod (se_penB 0 3 (by rfl) (by exact mf_len)) (sp_bin op_addV opv_add (sp_bin op_pow opv_pow se_int se_int) (se_name 3))))) ss_nil))) (ss_cons (ss_asg (sp_bin op_addV opv_add (se_name 3) se_int) (sg_pen 0 1 (by decide) rfl)) (ss_one (ss_asg (se_call (by exact GOk.up (k := 1) G_law_spread (by decide)) (by exact hr) (by exact hgd) (by rfl) (by exact mg_law_spread) (by exact kp_law_spread) (by exact bd_law_spread) (sb_cons (se_name 4) (sb_cons (se_name 3) sb_nil))) (sg_pen 0 2 (by decide) rfl))))))) ss_nil) (ss_cons (ss_set (i := 2) (by exact sc_law_take.nd) rfl (by first | exact Or.inl rfl | exact Or.inr rfl) (show (2 : Nat) ∉ ([0] : List Nat) by decide) (sp_bin op_modN opv_mod (se_pen2 0) (se_name 1))) (ss_cons (ss_asg (sp_bin op_fdivN opv_fdiv (se_pen2 0) (se_name 1)) (sg_pen 0 2 (by decide) rfl)) (ss_one (ss_ret (se_name 2))))))
end
theorem sc_law_one : FnScope ["pen", "some"] ["pen", "some"] (defScope s__law_one) := ⟨rfl, rfl, rfl, by decide +kernel, rfl, by decide +kernel, by decide +kernel⟩
section
variable {K : PySem.W.Frag} {mg : Str → Option Value}
noncomputable def fd_law_one (B : Bd K mg) : FuncData := (B.c.def_ 48 (d := d__law_one) rfl).choose
theorem F_law_one (B : Bd K mg) : FunD K "_law_one" "_law_one" (defArgs s__law_one) (defBody s__law_one) (defScope s__law_one) [] [] (He.fAd K ("_law_one", none)) (fd_law_one B) := (B.c.def_ 48 (d := d__law_one) rfl).choose_spec
theorem bd_law_one (B : Bd K mg) : Binds K (fd_law_one B) ["pen", "some"] [] := FunD.bindsN (F_law_one B) fun _ _ _ _ _ _ us hl => match us, hl with | [_, _], _ => rfl
theorem ok_law_one (B : Bd K mg) {P : Program} {w : World} {base : Heap} : GOk P w K mg base 3 (He.fAd K ("_law_one", none)) (fd_law_one B) ["pen", "some"] m_law_one := by
  have G_law_take := ok_law_take B (P := P) (w := w) (base := base)
  have bd_law_take := bd_law_take B
  have kp_law_take := (F_law_take B).kp
  have mg_law_take := mg_law_take B
  have mf_len := mf_len B
  refine (fn3 (F_law_one B) sc_law_one [0] t_law_one fun cdv A outer s H E H0 F0 σ0 hr hgd po => ?_).imp pl_law_one
  exact (ss_one (ss_ret (sp_ix ix_seq opv_ix (se_name 1) (se_call (by exact GOk.up (k := 2) G_law_take (by decide)) (by exact hr) (by exact hgd) (by rfl) (by exact mg_law_take) (by exact kp_law_take) (by exact bd_law_take) (sb_cons (se_name 0) (sb_cons (sp_callB call_len callv_len (by rfl) (by exact mf_len) bt_len (se_name 1)) sb_nil))))))
end
theorem sc_law_tables : FnScope ["some", "swap", "stay", "rest", "calm"] [] (defScope s__law_tables) := ⟨rfl, rfl, rfl, by decide +kernel, rfl, by decide +kernel, by decide +kernel⟩
section
variable {K : PySem.W.Frag} {mg : Str → Option Value}
noncomputable def fd_law_tables (B : Bd K mg) : FuncData := (B.c.def_ 50 (d := d__law_tables) rfl).choose
theorem F_law_tables (B : Bd K mg) : FunD K "_law_tables" "_law_tables" (defArgs s__law_tables) (defBody s__law_tables) (defScope s__law_tables) [] [] (He.fAd K ("_law_tables", none)) (fd_law_tables B) := (B.c.def_ 50 (d := d__law_tables) rfl).choose_spec
theorem bd_law_tables (B : Bd K mg) : Binds K (fd_law_tables B) [] [] := FunD.bindsN (F_law_tables B) fun _ _ _ _ _ _ us hl => match us, hl with | [], _ => rfl
theorem ok_law_tables (B : Bd K mg) {P : Program} {w : World} {base : Heap} : GOk P w K mg base 1 (He.fAd K ("_law_tables", none)) (fd_law_tables B) [] m_law_tables := by
  refine (fn3 (F_law_tables B) sc_law_tables [] t_law_tables fun cdv A outer s H E H0 F0 σ0 hr hgd po => ?_).imp pl_law_tables
  exact (ss_cons (ss_asg (se_tup (sa_cons (se_tup (sa_cons se_int (sa_cons se_int sa_nil))) (sa_cons (se_tup (sa_cons se_int (sa_cons se_int sa_nil))) sa_nil))) (sg_tup (by rfl) (sgs_cons (sg_name (by exact sc_law_tables.nd) (i := 1) rfl (by first | exact Or.inl rfl | exact Or.inr rfl) (show (1 : Nat) ∉ ([] : List Nat) by decide)) (sgs_cons (sg_name (by exact sc_law_tables.nd) (i := 2) rfl (by first | exact Or.inl rfl | exact Or.inr rfl) (show (2 : Nat) ∉ ([] : List Nat) by decide)) sgs_nil)))) (ss_cons (ss_set (i := 0) (by exact sc_law_tables.nd) rfl (by first | exact Or.inl rfl | exact Or.inr rfl) (show (0 : Nat) ∉ ([] : List Nat) by decide) (se_lst (sa_cons (se_tup (sa_cons se_int (sa_cons (se_tup (sa_cons (se_tup (sa_cons (se_name 1) (sa_cons (se_tup (sa_cons se_int (sa_cons se_int sa_nil))) sa_nil))) (sa_cons (se_tup (sa_cons (se_name 2) (sa_cons (se_tup (sa_cons se_int (sa_cons se_int sa_nil))) sa_nil))) sa_nil))) sa_nil))) (sa_cons (se_tup (sa_cons se_int (sa_cons (se_tup (sa_cons (se_tup (sa_cons (se_name 1) (sa_cons (se_tup (sa_cons se_int (sa_cons se_int sa_nil))) sa_nil))) (sa_cons (se_tup (sa_cons (se_name 2) (sa_cons (se_tup (sa_cons se_int (sa_cons se_int sa_nil))) sa_nil))) sa_nil))) sa_nil))) sa_nil)))) (ss_cons (ss_expr (se_mt 0 PySem.F.slot_list_append PySem.F.type_list_append mt_append mtl_append (sa_cons (se_tup (sa_cons se_int (sa_cons (se_tup (sa_cons (se_tup (sa_cons (se_name 1) (sa_cons (se_tup (sa_cons se_int (sa_cons se_int sa_nil))) sa_nil))) (sa_cons (se_tup (sa_cons (se_name 2) (sa_cons (se_tup (sa_cons se_int (sa_cons se_int sa_nil))) sa_nil))) (sa_cons (se_tup (sa_cons (se_name 2) (sa_cons (se_tup (sa_cons se_int (sa_cons se_int sa_nil))) sa_nil))) (sa_cons (se_tup (sa_cons (se_name 2) (sa_cons (se_tup (sa_cons se_int (sa_cons se_int sa_nil))) sa_nil))) (sa_cons (se_tup (sa_cons (se_name 2) (sa_cons (se_tup (sa_cons se_int (sa_cons se_int sa_nil))) sa_nil))) sa_nil)))))) sa_nil))) sa_nil))) (ss_cons (ss_expr (se_mt 0 PySem.F.slot_list_append PySem.F.type_list_append mt_append mtl_append (sa_cons (se_tup (sa_cons se_int (sa_cons (se_tup (sa_cons (se_tup (sa_cons (se_name 1) (sa_cons (se_tup (sa_cons se_int (sa_cons se_int sa_nil))) sa_nil))) (sa_cons (se_tup (sa_cons (se_name 2) (sa_cons (se_tup (sa_cons se_int (sa_cons se_int sa_nil))) sa_nil))) (sa_cons (se_tup (sa_cons (se_name 2) (sa_cons (se_tup (sa_cons se_int (sa_cons se_int sa_nil))) sa_nil))) sa_nil)))) sa_nil))) sa_nil))) (ss_cons (ss_expr (se_mt 0 PySem.F.slot_list_append PySem.F.type_list_append mt_append mtl_append (sa_cons (se_tup (sa_cons se_int (sa_cons (se_tup (sa_cons (se_tup (sa_cons (se_name 1) (sa_cons (se_tup (sa_cons se_int (sa_cons se_int sa_nil))) sa_nil))) (sa_cons (se_tup (sa_cons (se_name 1) (sa_cons (se_tup (sa_cons se_int (sa_cons se_int sa_nil))) sa_nil))) (sa_cons (se_tup (sa_cons (se_name 2) (sa_cons (se_tup (sa_cons se_int (sa_cons se_int sa_nil))) sa_nil))) sa_nil)))) sa_nil))) sa_nil))) (ss_cons (ss_asg (se_tup (sa_cons (se_tup (sa_cons se_int (sa_cons se_int (sa_cons se_int sa_nil)))) (sa_cons (se_tup (sa_cons se_int (sa_cons se_int (sa_cons se_int sa_nil)))) sa_nil))) (sg_tup (by rfl) (sgs_cons (sg_name (by exact sc_law_tables.nd) (i := 3) rfl (by first | exact Or.inl rfl | exact Or.inr rfl) (show (3 : Nat) ∉ ([] : List Nat) by decide)) (sgs_cons (sg_name (by exact sc_law_tables.nd) (i := 4) rfl (by first | exact Or.inl rfl | exact Or.inr rfl) (show (4 : Nat) ∉ ([] : List Nat) by decide)) sgs_nil)))) (ss_cons (ss_expr (se_mt 0 PySem.F.slot_list_append PySem.F.type_list_append mt_append mtl_append (sa_cons (se_tup (sa_cons se_int (sa_cons (se_tup (sa_cons (se_tup (sa_cons (se_tup (sa_cons se_int (sa_cons se_int (sa_cons se_int sa_nil)))) (sa_cons (se_name 3) sa_nil))) (sa_cons (se_tup (sa_cons (se_tup (sa_cons se_int (sa_cons se_int (sa_cons se_int sa_nil)))) (sa_cons (se_name 3) sa_nil))) (sa_cons (se_tup (sa_cons (se_name 4) (sa_cons (se_tup (sa_cons se_int (sa_cons se_int (sa_cons se_int sa_nil)))) sa_nil))) (sa_cons (se_tup (sa_cons (se_name 4) (sa_cons (se_name 3) sa_nil))) sa_nil))))) sa_nil))) sa_nil))) (ss_cons (ss_expr (se_mt 0 PySem.F.slot_list_append PySem.F.type_list_append mt_append mtl_append (sa_cons (se_tup (sa_cons se_int (sa_cons (se_tup (sa_cons (se_tup (sa_cons (se_tup (sa_cons se_int (sa_cons se_int (sa_cons se_int sa_nil)))) (sa_cons (se_tup (sa_cons se_int (sa_cons se_int (sa_cons se_int sa_nil)))) sa_nil))) (sa_cons (se_tup (sa_cons (se_tup (sa_cons se_int (sa_cons se_int (sa_cons se_int sa_nil)))) (sa_cons (se_tup (sa_cons se_int (sa_cons se_int (sa_cons se_int sa_nil)))) sa_nil))) (sa_cons (se_tup (sa_cons (se_tup (sa_cons se_int (sa_cons se_int (sa_cons se_int sa_nil)))) (sa_cons (se_tup (sa_cons se_int (sa_cons se_int (sa_cons se_int sa_nil)))) sa_nil))) (sa_cons (se_tup (sa_cons (se_name 4) (sa_cons (se_name 3) sa_nil))) sa_nil))))) sa_nil))) sa_nil))) (ss_cons (ss_expr (se_mt 0 PySem.F.slot_list_append PySem.F.type_list_append mt_append mtl_append (sa_cons (se_tup (sa_cons se_int (sa_cons (se_tup (sa_cons (se_tup (sa_cons (se_tup (sa_cons se_int (sa_cons se_int (sa_cons se_int sa_nil)))) (sa_cons (se_tup (sa_cons se_int (sa_cons se_int (sa_cons se_int sa_nil)))) sa_nil))) (sa_cons (se_tup (sa_cons (se_tup (sa_cons se_int (sa_cons se_int (sa_cons se_int sa_nil)))) (sa_cons (se_tup (sa_cons se_int (sa_cons se_int (sa_cons se_int sa_nil)))) sa_nil))) (sa_cons (se_tup (sa_cons (se_name 4) (sa_cons (se_tup (sa_cons se_int (sa_cons se_int (sa_cons se_int sa_nil)))) sa_nil))) sa_nil)))) sa_nil))) sa_nil))) (ss_cons (ss_expr (se_mt 0 PySem.F.slot_list_append PySem.F.type_list_append mt_append mtl_append (sa_cons (se_tup (sa_cons se_int (sa_cons (se_tup (sa_cons (se_tup (sa_cons (se_tup (sa_cons se_int (sa_cons se_int (sa_cons se_int (sa_cons se_int sa_nil))))) (sa_cons (se_tup (sa_cons se_int (sa_cons se_int (sa_cons se_int (sa_cons se_int sa_nil))))) sa_nil))) (sa_cons (se_tup (sa_cons (se_tup (sa_cons se_int (sa_cons se_int (sa_cons se_int (sa_cons se_int sa_nil))))) (sa_cons (se_tup (sa_cons se_int (sa_cons se_int (sa_cons se_int (sa_cons se_int sa_nil))))) sa_nil))) (sa_cons (se_tup (sa_cons (se_tup (sa_cons se_int (sa_cons se_int (sa_cons se_int (sa_cons se_int sa_nil))))) (sa_cons (se_tup (sa_cons se_int (sa_cons se_int (sa_cons se_int (sa_cons se_int sa_nil))))) sa_nil))) sa_nil)))) sa_nil))) sa_nil))) (ss_one (ss_ret (se_name 0)))))))))))))
end
theorem sc_law_renamed : FnScope ["table", "names", "spots", "places", "found", "state", "letters", "states", "letter", "turns", "nexts"] ["table", "names", "spots"] (defScope s__law_renamed) := ⟨rfl, rfl, rfl, by decide +kernel, rfl, by decide +kernel, by decide +kernel⟩
section
variable {K : PySem.W.Frag} {mg : Str → Option Value}
noncomputable def fd_law_renamed (B : Bd K mg) : FuncData := (B.c.def_ 51 (d := d__law_renamed) rfl).choose
theorem F_law_renamed (B : Bd K mg) : FunD K "_law_renamed" "_law_renamed" (defArgs s__law_renamed) (defBody s__law_renamed) (defScope s__law_renamed) [] [] (He.fAd K ("_law_renamed", none)) (fd_law_renamed B) := (B.c.def_ 51 (d := d__law_renamed) rfl).choose_spec
theorem bd_law_renamed (B : Bd K mg) : Binds K (fd_law_renamed B) ["table", "names", "spots"] [] := FunD.bindsN (F_law_renamed B) fun _ _ _ _ _ _ us hl => match us, hl with | [_, _, _], _ => rfl
theorem ok_law_renamed (B : Bd K mg) {P : Program} {w : World} {base : Heap} : GOk P w K mg base 1 (He.fAd K ("_law_renamed", none)) (fd_law_renamed B) ["table", "names", "spots"] m_law_renamed := by
  have mf_len := mf_len B
  have mf_range := mf_range B
  have mf_tuple := mf_tuple B
  refine (fn3 (F_law_renamed B) sc_law_renamed [] t_law_renamed fun cdv A outer s H E H0 F0 σ0 hr hgd po => ?_).imp pl_law_renamed
  have hu := hr.u64
  have hu1 := hr.u65
  exact (ss_cons (ss_asg (se_name 0) (sg_tup (by rfl) (sgs_cons (sg_name (by exact sc_law_renamed.nd) (i := 6) rfl (by first | exact Or.inl rfl | exact Or.inr rfl) (show (6 : Nat) ∉ ([] : List Nat) by decide)) (sgs_cons (sg_name (by exact sc_law_renamed.nd) (i := 7) rfl (by first | exact Or.inl rfl | exact Or.inr rfl) (show (7 : Nat) ∉ ([] : List Nat) by decide)) sgs_nil)))) (ss_cons (ss_lc (i := 3) [("state", 5)] (by rfl) (by exact sc_law_renamed.nd) rfl rfl (sw_true rfl rfl rfl (by rfl)) (si_range1 (by rfl) (by exact mf_range) (sa_cons (sp_callB call_len callv_len (by rfl) (by exact mf_len) bt_len (se_name 7)) sa_nil)) (by exact blkOk_by (N := ["table", "names", "spots", "places", "found", "state", "letters", "states", "letter", "turns", "nexts"]) (sc := defScope s__law_renamed) (by decide +kernel)) (show ∀ i ∈ ([5] : List Nat), i ∉ ([] : List Nat) by decide) (show (3 : Nat) ∉ ([] : List Nat) by decide) (fun _ _ _ _ _ => (sgc_name (by exact sc_law_renamed.nd) (i := 5) rfl (by first | exact Or.inl rfl | exact Or.inr rfl) (show (5 : Nat) ∉ ([] : List Nat) by decide) (by decide))) (fun _ _ _ _ _ => spt_nil) (fun _ _ _ _ _ => (se_bmL PySem.F.slot_list_index PySem.F.type_list_index (mt_indexD (by exact hu1)) bmv_index (se_name 2) (se_name 5)))) (ss_cons (ss_set (i := 4) (by exact sc_law_renamed.nd) rfl (by first | exact Or.inl rfl | exact Or.inr rfl) (show (4 : Nat) ∉ ([] : List Nat) by decide) (se_lst sa_nil)) (ss_cons (ss_for (by exact po) (by rfl) (si_seq (se_name 2)) (sg_name (by exact sc_law_renamed.nd) (i := 5) rfl (by first | exact Or.inl rfl | exact Or.inr rfl) (show (5 : Nat) ∉ ([] : List Nat) by decide)) (ss_cons (ss_par (by rfl) (by exact sc_law_renamed.nd) (i := 9) (j := 10) rfl rfl (by decide) (show (9 : Nat) ∉ ([] : List Nat) by decide) (show (10 : Nat) ∉ ([] : List Nat) by decide) rfl rfl (se_x (sx_rep (sps_cons sp_int sps_nil) (sp_name 6))) (sx_rep (sps_cons sp_int sps_nil) (sp_name 6))) (ss_cons (ss_for (by exact po) (by rfl) (si_range1 (by rfl) (by exact mf_range) (sa_cons (se_name 6) sa_nil)) (sg_name (by exact sc_law_renamed.nd) (i := 8) rfl (by first | exact Or.inl rfl | exact Or.inr rfl) (show (8 : Nat) ∉ ([] : List Nat) by decide)) (ss_cons (ss_asg (sp_ix ix_seq opv_ix (se_name 1) (sp_ix ix_seq opv_ix (sp_ix ix_seq opv_ix (sp_ix ix_seq opv_ix (se_name 7) (se_name 5)) se_int) (se_name 8))) (sg_subL 9 (sp_ix ix_seq opv_ix (se_name 1) (se_name 8)))) (ss_one (ss_asg (sp_ix ix_seq opv_ix (se_name 3) (sp_ix ix_seq opv_ix (sp_ix ix_seq opv_ix (sp_ix ix_seq opv_ix (se_name 7) (se_name 5)) se_int) (se_name 8))) (sg_subL 10 (sp_ix ix_seq opv_ix (se_name 1) (se_name 8))))))) (ss_one (ss_expr (se_mt 4 PySem.F.slot_list_append PySem.F.type_list_append mt_append mtl_append (sa_cons (se_tup (sa_cons (sp_callTy call_tuple_of callv_tuple (by rfl) (by exact mf_tuple) bt_tuple (se_name 9)) (sa_cons (sp_callTy call_tuple_of callv_tuple (by rfl) (by exact mf_tuple) bt_tuple (se_name 10)) sa_nil))) sa_nil))))))) (ss_one (ss_ret (se_tup (sa_cons (se_name 6) (sa_cons (sp_callTy call_tuple_of callv_tuple (by rfl) (by exact mf_tuple) bt_tuple (se_name 4)) sa_nil)))))))))
end
theorem sc_law_drawn : FnScope ["pen", "many", "found", "k"] ["pen", "many"] (defScope s__law_drawn) := ⟨rfl, rfl, rfl, by decide +kernel, rfl, by decide +kernel, by decide +kernel⟩
section
variable {K : PySem.W.Frag} {mg : Str → Option Value}
noncomputable def fd_law_drawn (B : Bd K mg) : FuncData := (B.c.def_ 49 (d := d__law_drawn) rfl).choose
theorem F_law_drawn (B : Bd K mg) : FunD K "_law_drawn" "_law_drawn" (defArgs s__law_drawn) (defBody s__law_drawn) (defScope s__law_drawn) [] [] (He.fAd K ("_law_drawn", none)) (fd_law_drawn B) := (B.c.def_ 49 (d := d__law_drawn) rfl).choose_spec
theorem bd_law_drawn (B : Bd K mg) : Binds K (fd_law_drawn B) ["pen", "many"] [] := FunD.bindsN (F_law_drawn B) fun _ _ _ _ _ _ us hl => match us, hl with | [_, _], _ => rfl
theorem ok_law_drawn (B : Bd K mg) {P : Program} {w : World} {base : Heap} : GOk P w K mg base 3 (He.fAd K ("_law_drawn", none)) (fd_law_drawn B) ["pen", "many"] m_law_drawn := by
  have G_law_take := ok_law_take B (P := P) (w := w) (base := base)
  have bd_law_take := bd_law_take B
  have kp_law_take := (F_law_take B).kp
  have mg_law_take := mg_law_take B
  have mf_range := mf_range B
  refine (fn3 (F_law_drawn B) sc_law_drawn [0] t_law_drawn fun cdv A outer s H E H0 F0 σ0 hr hgd po => ?_).imp pl_law_drawn
  exact (ss_cons (ss_set (i := 2) (by exact sc_law_drawn.nd) rfl (by first | exact Or.inl rfl | exact Or.inr rfl) (show (2 : Nat) ∉ ([0] : List Nat) by decide) (se_lst sa_nil)) (ss_cons (ss_for (by exact po) (by rfl) (si_range1 (by rfl) (by exact mf_range) (sa_cons (se_name 1) sa_nil)) (sg_name (by exact sc_law_drawn.nd) (i := 3) rfl (by first | exact Or.inl rfl | exact Or.inr rfl) (show (3 : Nat) ∉ ([0] : List Nat) by decide)) (ss_one (ss_expr (se_mt 2 PySem.F.slot_list_insert PySem.F.type_list_insert mt_insert mtl_insert (sa_cons (se_call (by exact GOk.up (k := 2) G_law_take (by decide)) (by exact hr) (by exact hgd) (by rfl) (by exact mg_law_take) (by exact kp_law_take) (by exact bd_law_take) (sb_cons (se_name 0) (sb_cons (sp_bin op_addV opv_add (se_name 3) se_int) sb_nil))) (sa_cons (se_name 3) sa_nil)))))) (ss_one (ss_ret (se_name 2)))))
end
theorem sc_law_any_machine : FnScope ["pen", "letters", "most", "many", "states", "state", "calm", "free", "turns", "letter", "own", "nexts", "later", "there"] ["pen", "letters", "most"] (defScope s__law_any_machine) := ⟨rfl, rfl, rfl, by decide +kernel, rfl, by decide +kernel, by decide +kernel⟩
section
variable {K : PySem.W.Frag} {mg : Str → Option Value}
noncomputable def fd_law_any_machine (B : Bd K mg) : FuncData := (B.c.def_ 52 (d := d__law_any_machine) rfl).choose
theorem F_law_any_machine (B : Bd K mg) : FunD K "_law_any_machine" "_law_any_machine" (defArgs s__law_any_machine) (defBody s__law_any_machine) (defScope s__law_any_machine) [] [] (He.fAd K ("_law_any_machine", none)) (fd_law_any_machine B) := (B.c.def_ 52 (d := d__law_any_machine) rfl).choose_spec
theorem bd_law_any_machine (B : Bd K mg) : Binds K (fd_law_any_machine B) ["pen", "letters", "most"] [] := FunD.bindsN (F_law_any_machine B) fun _ _ _ _ _ _ us hl => match us, hl with | [_, _, _], _ => rfl
theorem ok_law_any_machine (B : Bd K mg) {P : Program} {w : World} {base : Heap} : GOk P w K mg base 4 (He.fAd K ("_law_any_machine", none)) (fd_law_any_machine B) ["pen", "letters", "most"] m_law_any_machine := by
  have G_law_take := ok_law_take B (P := P) (w := w) (base := base)
  have bd_law_take := bd_law_take B
  have kp_law_take := (F_law_take B).kp
  have mg_law_take := mg_law_take B
  have G_law_drawn := ok_law_drawn B (P := P) (w := w) (base := base)
  have bd_law_drawn := bd_law_drawn B
  have kp_law_drawn := (F_law_drawn B).kp
  have mg_law_drawn := mg_law_drawn B
  have mf_range := mf_range B
  have mf_list := mf_list B
  have mf_min := mf_min B
  have mf_tuple := mf_tuple B
  refine (fn3 (F_law_any_machine B) sc_law_any_machine [0] t_law_any_machine fun cdv A outer s H E H0 F0 σ0 hr hgd po => ?_).imp pl_law_any_machine
  have hu := hr.u64
  have hu1 := hr.u65
  exact (ss_cons (ss_set (i := 3) (by exact sc_law_any_machine.nd) rfl (by first | exact Or.inl rfl | exact Or.inr rfl) (show (3 : Nat) ∉ ([0] : List Nat) by decide) (sp_bin op_addV opv_add se_int (se_call (by exact GOk.up (k := 3) G_law_take (by decide)) (by exact hr) (by exact hgd) (by rfl) (by exact mg_law_take) (by exact kp_law_take) (by exact bd_law_take) (sb_cons (se_name 0) (sb_cons (se_name 2) sb_nil))))) (ss_cons (ss_parF (by rfl) (by exact sc_law_any_machine.nd) (i := 6) (j := 7) rfl rfl (by decide) (show (6 : Nat) ∉ ([0] : List Nat) by decide) (show (7 : Nat) ∉ ([0] : List Nat) by decide) rfl rfl (sa_cons (se_call (by exact GOk.up (k := 3) G_law_take (by decide)) (by exact hr) (by exact hgd) (by rfl) (by exact mg_law_take) (by exact kp_law_take) (by exact bd_law_take) (sb_cons (se_name 0) (sb_cons se_int sb_nil))) (sa_cons (se_call (by exact GOk.up (k := 3) G_law_take (by decide)) (by exact hr) (by exact hgd) (by rfl) (by exact mg_law_take) (by exact kp_law_take) (by exact bd_law_take) (sb_cons (se_name 0) (sb_cons se_int sb_nil))) sa_nil))) (ss_cons (ss_set (i := 4) (by exact sc_law_any_machine.nd) rfl (by first | exact Or.inl rfl | exact Or.inr rfl) (show (4 : Nat) ∉ ([0] : List Nat) by decide) (se_lst sa_nil)) (ss_cons (ss_for (by exact po) (by rfl) (si_range1 (by rfl) (by exact mf_range) (sa_cons (se_name 3) sa_nil)) (sg_name (by exact sc_law_any_machine.nd) (i := 5) rfl (by first | exact Or.inl rfl | exact Or.inr rfl) (show (5 : Nat) ∉ ([0] : List Nat) by decide)) (ss_cons (ss_set (i := 8) (by exact sc_law_any_machine.nd) rfl (by first | exact Or.inl rfl | exact Or.inr rfl) (show (8 : Nat) ∉ ([0] : List Nat) by decide) (se_if (sp_cmpT op_gt opv_gt (se_call (by exact GOk.up (k := 3) G_law_take (by decide)) (by exact hr) (by exact hgd) (by rfl) (by exact mg_law_take) (by exact kp_law_take) (by exact bd_law_take) (sb_cons (se_name 0) (sb_cons se_int sb_nil))) se_int (by rfl)) (se_call (by exact GOk.up (k := 3) G_law_drawn (by decide)) (by exact hr) (by exact hgd) (by rfl) (by exact mg_law_drawn) (by exact kp_law_drawn) (by exact bd_law_drawn) (sb_cons (se_name 0) (sb_cons (se_name 1) sb_nil))) (se_lrng (by rfl) (by rfl) (by exact mf_list) (by rfl) (by exact mf_range) (se_name 1)))) (ss_cons (ss_par (by rfl) (by exact sc_law_any_machine.nd) (i := 10) (j := 11) rfl rfl (by decide) (show (10 : Nat) ∉ ([0] : List Nat) by decide) (show (11 : Nat) ∉ ([0] : List Nat) by decide) rfl rfl (se_call (by exact GOk.up (k := 3) G_law_take (by decide)) (by exact hr) (by exact hgd) (by rfl) (by exact mg_law_take) (by exact kp_law_take) (by exact bd_law_take) (sb_cons (se_name 0) (sb_cons (se_name 1) sb_nil))) (sx_lst sps_nil)) (ss_cons (ss_for (by exact po) (by rfl) (si_range1 (by rfl) (by exact mf_range) (sa_cons (se_name 1) sa_nil)) (sg_name (by exact sc_law_any_machine.nd) (i := 9) rfl (by first | exact Or.inl rfl | exact Or.inr rfl) (show (9 : Nat) ∉ ([0] : List Nat) by decide)) (ss_cons (ss_set (i := 12) (by exact sc_law_any_machine.nd) rfl (by first | exact Or.inl rfl | exact Or.inr rfl) (show (12 : Nat) ∉ ([0] : List Nat) by decide) (sp_bin op_addV opv_add (sp_bin op_addV opv_add (se_name 5) se_int) (se_call (by exact GOk.up (k := 3) G_law_take (by decide)) (by exact hr) (by exact hgd) (by rfl) (by exact mg_law_take) (by exact kp_law_take) (by exact bd_law_take) (sb_cons (se_name 0) (sb_cons (sp_bin op_sub opv_sub (se_name 3) (se_name 5)) sb_nil))))) (ss_cons (ss_set (i := 13) (by exact sc_law_any_machine.nd) rfl (by first | exact Or.inl rfl | exact Or.inr rfl) (show (13 : Nat) ∉ ([0] : List Nat) by decide) (se_if (SW.st (sw_or (sp_cmpT (op_eqV (by exact hu)) opv_eq (se_name 9) (se_name 10) (by rfl)) (sw_or1 (sp_cmpT (op_eqV (by exact hu)) opv_eq (se_name 7) se_int (by rfl))))) (se_call (by exact GOk.up (k := 3) G_law_take (by decide)) (by exact hr) (by exact hgd) (by rfl) (by exact mg_law_take) (by exact kp_law_take) (by exact bd_law_take) (sb_cons (se_name 0) (sb_cons (se_name 3) sb_nil))) (se_fnB (call_min2 rfl) callv_min2 (by rfl) (by exact mf_min) bt_min (sa_cons (se_name 12) (sa_cons (sp_bin op_sub opv_sub (se_name 3) se_int) sa_nil))))) (ss_one (ss_expr (se_mt 11 PySem.F.slot_list_append PySem.F.type_list_append mt_append mtl_append (sa_cons (se_name 13) sa_nil))))))) (ss_cons (ss_if (SW.st (sw_and (sp_cmpT (op_eqV (by exact hu)) opv_eq (se_name 5) (sp_bin op_sub opv_sub (se_name 3) se_int) (by rfl)) (sw_and1 (sp_cmpT op_gt opv_gt (se_name 6) se_int (by rfl))))) (ss_one (ss_par (by rfl) (by exact sc_law_any_machine.nd) (i := 8) (j := 11) rfl rfl (by decide) (show (8 : Nat) ∉ ([0] : List Nat) by decide) (show (11 : Nat) ∉ ([0] : List Nat) by decide) rfl rfl (se_lrng (by rfl) (by rfl) (by exact mf_list) (by rfl) (by exact mf_range) (se_name 1)) (sx_rep (sps_cons (sp_name 5) sps_nil) (sp_name 1)))) ss_nil) (ss_one (ss_expr (se_mt 4 PySem.F.slot_list_append PySem.F.type_list_append mt_append mtl_append (sa_cons (se_tup (sa_cons (sp_callTy call_tuple_of callv_tuple (by rfl) (by exact mf_tuple) bt_tuple (se_name 8)) (sa_cons (sp_callTy call_tuple_of callv_tuple (by rfl) (by exact mf_tuple) bt_tuple (se_name 11)) sa_nil))) sa_nil))))))))) (ss_one (ss_ret (se_tup (sa_cons (se_name 1) (sa_cons (sp_callTy call_tuple_of callv_tuple (by rfl) (by exact mf_tuple) bt_tuple (se_name 4)) sa_nil)))))))))
end
theorem sc_law_machine : FnScope ["pen", "most", "table"] ["pen", "most"] (defScope s__law_machine) := ⟨rfl, rfl, rfl, by decide +kernel, rfl, by decide +kernel, by decide +kernel⟩
section
variable {K : PySem.W.Frag} {mg : Str → Option Value}
noncomputable def fd_law_machine (B : Bd K mg) : FuncData := (B.c.def_ 53 (d := d__law_machine) rfl).choose
theorem F_law_machine (B : Bd K mg) : FunD K "_law_machine" "_law_machine" (defArgs s__law_machine) (defBody s__law_machine) (defScope s__law_machine) [] [] (He.fAd K ("_law_machine", none)) (fd_law_machine B) := (B.c.def_ 53 (d := d__law_machine) rfl).choose_spec
theorem bd_law_machine (B : Bd K mg) : Binds K (fd_law_machine B) ["pen", "most"] [] := FunD.bindsN (F_law_machine B) fun _ _ _ _ _ _ us hl => match us, hl with | [_, _], _ => rfl
theorem ok_law_machine (B : Bd K mg) {P : Program} {w : World} {base : Heap} : GOk P w K mg base 5 (He.fAd K ("_law_machine", none)) (fd_law_machine B) ["pen", "most"] m_law_machine := by
  have G_law_take := ok_law_take B (P := P) (w := w) (base := base)
  have bd_law_take := bd_law_take B
  have kp_law_take := (F_law_take B).kp
  have mg_law_take := mg_law_take B
  have G_law_one := ok_law_one B (P := P) (w := w) (base := base)
  have bd_law_one := bd_law_one B
  have kp_law_one := (F_law_one B).kp
  have mg_law_one := mg_law_one B
  have G_law_tables := ok_law_tables B (P := P) (w := w) (base := base)
  have bd_law_tables := bd_law_tables B
  have kp_law_tables := (F_law_tables B).kp
  have mg_law_tables := mg_law_tables B
  have G_law_renamed := ok_law_renamed B (P := P) (w := w) (base := base)
  have bd_law_renamed := bd_law_renamed B
  have kp_law_renamed := (F_law_renamed B).kp
  have mg_law_renamed := mg_law_renamed B
  have G_law_drawn := ok_law_drawn B (P := P) (w := w) (base := base)
  have bd_law_drawn := bd_law_drawn B
  have kp_law_drawn := (F_law_drawn B).kp
  have mg_law_drawn := mg_law_drawn B
  have G_law_any_machine := ok_law_any_machine B (P := P) (w := w) (base := base)
  have bd_law_any_machine := bd_law_any_machine B
  have kp_law_any_machine := (F_law_any_machine B).kp
  have mg_law_any_machine := mg_law_any_machine B
  have mf_len := mf_len B
  refine (fn3 (F_law_machine B) sc_law_machine [0] t_law_machine fun cdv A outer s H E H0 F0 σ0 hr hgd po => ?_).imp pl_law_machine
  exact (ss_cons (ss_if (sp_cmpT op_gt opv_gt (se_call (by exact GOk.up (k := 4) G_law_take (by decide)) (by exact hr) (by exact hgd) (by rfl) (by exact mg_law_take) (by exact kp_law_take) (by exact bd_law_take) (sb_cons (se_name 0) (sb_cons se_int sb_nil))) se_int (by rfl)) (ss_cons (ss_set (i := 2) (by exact sc_law_machine.nd) rfl (by first | exact Or.inl rfl | exact Or.inr rfl) (show (2 : Nat) ∉ ([0] : List Nat) by decide) (se_call (by exact GOk.up (k := 4) G_law_one (by decide)) (by exact hr) (by exact hgd) (by rfl) (by exact mg_law_one) (by exact kp_law_one) (by exact bd_law_one) (sb_cons (se_name 0) (sb_cons (se_call0 (by exact GOk.up (k := 4) G_law_tables (by decide)) (by exact hr) (by exact hgd) (by rfl) (by exact mg_law_tables) (by exact kp_law_tables) (by exact bd_law_tables)) sb_nil)))) (ss_one (ss_ret (se_call (by exact GOk.up (k := 4) G_law_renamed (by decide)) (by exact hr) (by exact hgd) (by rfl) (by exact mg_law_renamed) (by exact kp_law_renamed) (by exact bd_law_renamed) (sb_cons (se_name 2) (sb_cons (se_call (by exact GOk.up (k := 4) G_law_drawn (by decide)) (by exact hr) (by exact hgd) (by rfl) (by exact mg_law_drawn) (by exact kp_law_drawn) (by exact bd_law_drawn) (sb_cons (se_name 0) (sb_cons (sp_ix ix_seq opv_ix (se_name 2) se_int) sb_nil))) (sb_cons (se_call (by exact GOk.up (k := 4) G_law_drawn (by decide)) (by exact hr) (by exact hgd) (by rfl) (by exact mg_law_drawn) (by exact kp_law_drawn) (by exact bd_law_drawn) (sb_cons (se_name 0) (sb_cons (sp_callB call_len callv_len (by rfl) (by exact mf_len) bt_len (sp_ix ix_seq opv_ix (se_name 2) se_int)) sb_nil))) sb_nil))))))) ss_nil) (ss_one (ss_ret (se_call (by exact GOk.up (k := 4) G_law_any_machine (by decide)) (by exact hr) (by exact hgd) (by rfl) (by exact mg_law_any_machine) (by exact kp_law_any_machine) (by exact bd_law_any_machine) (sb_cons (se_name 0) (sb_cons (sp_bin op_addV opv_add se_int (se_call (by exact GOk.up (k := 4) G_law_take (by decide)) (by exact hr) (by exact hgd) (by rfl) (by exact mg_law_take) (by exact kp_law_take) (by exact bd_law_take) (sb_cons (se_name 0) (sb_cons se_int sb_nil)))) (sb_cons (se_name 1) sb_nil)))))))
end
theorem sc_law_anew : FnScope ["pen"] ["pen"] (defScope s__law_anew) := ⟨rfl, rfl, rfl, by decide +kernel, rfl, by decide +kernel, by decide +kernel⟩
section
variable {K : PySem.W.Frag} {mg : Str → Option Value}
noncomputable def fd_law_anew (B : Bd K mg) : FuncData := (B.c.def_ 46 (d := d__law_anew) rfl).choose
theorem F_law_anew (B : Bd K mg) : FunD K "_law_anew" "_law_anew" (defArgs s__law_anew) (defBody s__law_anew) (defScope s__law_anew) [] [] (He.fAd K ("_law_anew", none)) (fd_law_anew B) := (B.c.def_ 46 (d := d__law_anew) rfl).choose_spec
theorem bd_law_anew (B : Bd K mg) : Binds K (fd_law_anew B) ["pen"] [] := FunD.bindsN (F_law_anew B) fun _ _ _ _ _ _ us hl => match us, hl with | [_], _ => rfl
theorem ok_law_anew (B : Bd K mg) {P : Program} {w : World} {base : Heap} : GOk P w K mg base 1 (He.fAd K ("_law_anew", none)) (fd_law_anew B) ["pen"] m_law_anew := by
  refine (fn3 (F_law_anew B) sc_law_anew [0] t_law_anew fun cdv A outer s H E H0 F0 σ0 hr hgd po => ?_).imp pl_law_anew
  exact (ss_cons (ss_asg se_int (sg_pen 0 2 (by decide) rfl)) (ss_one (ss_ret (se_name 0))))
end
theorem sc_is_whole : FnScope ["thing"] ["thing"] (defScope s_is_whole) := ⟨rfl, rfl, rfl, by decide +kernel, rfl, by decide +kernel, by decide +kernel⟩
section
variable {K : PySem.W.Frag} {mg : Str → Option Value}
noncomputable def fd_is_whole (B : Bd K mg) : FuncData := (B.c.def_ 5 (d := d_is_whole) rfl).choose
theorem F_is_whole (B : Bd K mg) : FunD K "is_whole" "is_whole" (defArgs s_is_whole) (defBody s_is_whole) (defScope s_is_whole) [] [] (He.fAd K ("is_whole", none)) (fd_is_whole B) := (B.c.def_ 5 (d := d_is_whole) rfl).choose_spec
theorem bd_is_whole (B : Bd K mg) : Binds K (fd_is_whole B) ["thing"] [] := FunD.bindsN (F_is_whole B) fun _ _ _ _ _ _ us hl => match us, hl with | [_], _ => rfl
theorem ok_is_whole (B : Bd K mg) {P : Program} {w : World} {base : Heap} : GOk P w K mg base 1 (He.fAd K ("is_whole", none)) (fd_is_whole B) ["thing"] m_is_whole := by
  have mf_isinstance := mf_isinstance B
  have mf_int := mf_int B
  have mf_bool := mf_bool B
  refine (fn3 (F_is_whole B) sc_is_whole [] t_is_whole fun cdv A outer s H E H0 F0 σ0 hr hgd po => ?_).imp pl_is_whole
  exact (ss_one (ss_ret (se_and (se_isT xcs (by exact B.xt) (by rfl) (by exact mf_isinstance) (by rfl) (by exact mf_int) bt_int (se_name 0)) (se_one (se_not (se_isT xcs (by exact B.xt) (by rfl) (by exact mf_isinstance) (by rfl) (by exact mf_bool) bt_bool (se_name 0)))))))
end
theorem sc_is_letters : FnScope ["thing"] ["thing"] (defScope s_is_letters) := ⟨rfl, rfl, rfl, by decide +kernel, rfl, by decide +kernel, by decide +kernel⟩
section
variable {K : PySem.W.Frag} {mg : Str → Option Value}
noncomputable def fd_is_letters (B : Bd K mg) : FuncData := (B.c.def_ 6 (d := d_is_letters) rfl).choose
theorem F_is_letters (B : Bd K mg) : FunD K "is_letters" "is_letters" (defArgs s_is_letters) (defBody s_is_letters) (defScope s_is_letters) [] [] (He.fAd K ("is_letters", none)) (fd_is_letters B) := (B.c.def_ 6 (d := d_is_letters) rfl).choose_spec
theorem bd_is_letters (B : Bd K mg) : Binds K (fd_is_letters B) ["thing"] [] := FunD.bindsN (F_is_letters B) fun _ _ _ _ _ _ us hl => match us, hl with | [_], _ => rfl
theorem ok_is_letters (B : Bd K mg) {P : Program} {w : World} {base : Heap} : GOk P w K mg base 2 (He.fAd K ("is_letters", none)) (fd_is_letters B) ["thing"] m_is_letters := by
  have G_is_whole := ok_is_whole B (P := P) (w := w) (base := base)
  have bd_is_whole := bd_is_whole B
  have kp_is_whole := (F_is_whole B).kp
  have mg_is_whole := mg_is_whole B
  refine (fn3 (F_is_letters B) sc_is_letters [] t_is_letters fun cdv A outer s H E H0 F0 σ0 hr hgd po => ?_).imp pl_is_letters
  exact (ss_one (ss_ret (se_and (se_call (by exact GOk.up (k := 1) G_is_whole (by decide)) (by exact hr) (by exact hgd) (by rfl) (by exact mg_is_whole) (by exact kp_is_whole) (by exact bd_is_whole) (sb_cons (se_name 0) sb_nil)) (se_one (se_chain op_le op_le opv_le.d opv_le.d se_int (se_name 0) se_int)))))
end
theorem sc_is_letter : FnScope ["letters", "thing"] ["letters", "thing"] (defScope s_is_letter) := ⟨rfl, rfl, rfl, by decide +kernel, rfl, by decide +kernel, by decide +kernel⟩
section
variable {K : PySem.W.Frag} {mg : Str → Option Value}
noncomputable def fd_is_letter (B : Bd K mg) : FuncData := (B.c.def_ 7 (d := d_is_letter) rfl).choose
theorem F_is_letter (B : Bd K mg) : FunD K "is_letter" "is_letter" (defArgs s_is_letter) (defBody s_is_letter) (defScope s_is_letter) [] [] (He.fAd K ("is_letter", none)) (fd_is_letter B) := (B.c.def_ 7 (d := d_is_letter) rfl).choose_spec
theorem bd_is_letter (B : Bd K mg) : Binds K (fd_is_letter B) ["letters", "thing"] [] := FunD.bindsN (F_is_letter B) fun _ _ _ _ _ _ us hl => match us, hl with | [_, _], _ => rfl
theorem ok_is_letter (B : Bd K mg) {P : Program} {w : World} {base : Heap} : GOk P w K mg base 2 (He.fAd K ("is_letter", none)) (fd_is_letter B) ["letters", "thing"] m_is_letter := by
  have G_is_whole := ok_is_whole B (P := P) (w := w) (base := base)
  have bd_is_whole := bd_is_whole B
  have kp_is_whole := (F_is_whole B).kp
  have mg_is_whole := mg_is_whole B
  refine (fn3 (F_is_letter B) sc_is_letter [] t_is_letter fun cdv A outer s H E H0 F0 σ0 hr hgd po => ?_).imp pl_is_letter
  exact (ss_one (ss_ret (se_and (se_call (by exact GOk.up (k := 1) G_is_whole (by decide)) (by exact hr) (by exact hgd) (by rfl) (by exact mg_is_whole) (by exact kp_is_whole) (by exact bd_is_whole) (sb_cons (se_name 1) sb_nil)) (se_one (se_chain op_le op_lt opv_le.d opv_lt.d se_int (se_name 1) (se_name 0))))))
end
theorem sc_is_state : FnScope ["letters", "many", "thing", "turns", "nexts", "state", "letter"] ["letters", "many", "thing"] (defScope s_is_state) := ⟨rfl, rfl, rfl, by decide +kernel, rfl, by decide +kernel, by decide +kernel⟩
section
variable {K : PySem.W.Frag} {mg : Str → Option Value}
noncomputable def fd_is_state (B : Bd K mg) : FuncData := (B.c.def_ 9 (d := d_is_state) rfl).choose
theorem F_is_state (B : Bd K mg) : FunD K "is_state" "is_state" (defArgs s_is_state) (defBody s_is_state) (defScope s_is_state) [] [] (He.fAd K ("is_state", none)) (fd_is_state B) := (B.c.def_ 9 (d := d_is_state) rfl).choose_spec
theorem bd_is_state (B : Bd K mg) : Binds K (fd_is_state B) ["letters", "many", "thing"] [] := FunD.bindsN (F_is_state B) fun _ _ _ _ _ _ us hl => match us, hl with | [_, _, _], _ => rfl
theorem ok_is_state (B : Bd K mg) {P : Program} {w : World} {base : Heap} : GOk P w K mg base 3 (He.fAd K ("is_state", none)) (fd_is_state B) ["letters", "many", "thing"] m_is_state := by
  have G_is_letter := ok_is_letter B (P := P) (w := w) (base := base)
  have bd_is_letter := bd_is_letter B
  have kp_is_letter := (F_is_letter B).kp
  have mg_is_letter := mg_is_letter B
  have G_is_whole := ok_is_whole B (P := P) (w := w) (base := base)
  have bd_is_whole := bd_is_whole B
  have kp_is_whole := (F_is_whole B).kp
  have mg_is_whole := mg_is_whole B
  have mf_isinstance := mf_isinstance B
  have mf_tuple := mf_tuple B
  have mf_len := mf_len B
  have mf_all := mf_all B
  have mf_sorted := mf_sorted B
  have mf_list := mf_list B
  have mf_range := mf_range B
  refine (fn3 (F_is_state B) sc_is_state [] t_is_state fun cdv A outer s H E H0 F0 σ0 hr hgd po => ?_).imp pl_is_state
  have hu := hr.u64
  have hu1 := hr.u65
  exact (ss_cons (ss_if (SW.st (sw_or (st_not (st_val (se_isT xcs (by exact B.xt) (by rfl) (by exact mf_isinstance) (by rfl) (by exact mf_tuple) bt_tuple (se_name 2)))) (sw_or1 (sp_cmpT (op_neV (by exact hu)) opv_ne (sp_callB call_len callv_len (by rfl) (by exact mf_len) bt_len (se_name 2)) se_int (by rfl))))) (ss_one (ss_ret se_bl)) ss_nil) (ss_cons (ss_asg (se_name 2) (sg_tup (by rfl) (sgs_cons (sg_name (by exact sc_is_state.nd) (i := 3) rfl (by first | exact Or.inl rfl | exact Or.inr rfl) (show (3 : Nat) ∉ ([] : List Nat) by decide)) (sgs_cons (sg_name (by exact sc_is_state.nd) (i := 4) rfl (by first | exact Or.inl rfl | exact Or.inr rfl) (show (4 : Nat) ∉ ([] : List Nat) by decide)) sgs_nil)))) (ss_cons (ss_if (SW.st (sw_or (st_not (st_val (se_isT xcs (by exact B.xt) (by rfl) (by exact mf_isinstance) (by rfl) (by exact mf_tuple) bt_tuple (se_name 3)))) (sw_or (st_not (st_val (se_isT xcs (by exact B.xt) (by rfl) (by exact mf_isinstance) (by rfl) (by exact mf_tuple) bt_tuple (se_name 4)))) (sw_or1 (sp_cmpT (op_neV (by exact hu)) opv_ne (sp_callB call_len callv_len (by rfl) (by exact mf_len) bt_len (se_name 4)) (se_name 0) (by rfl)))))) (ss_one (ss_ret se_bl)) ss_nil) (ss_cons (ss_if (SW.st (sw_or (st_not (st_val (sp_callB (cr_all rfl) callv_all (by rfl) (by exact mf_all) bt_all (se_lc [("letter", 6)] (by rfl) (by exact sc_is_state.nd) (si_seq (se_name 3)) (by exact blkOk_by (N := ["letters", "many", "thing", "turns", "nexts", "state", "letter"]) (sc := defScope s_is_state) (by decide +kernel)) (show ∀ i ∈ ([6] : List Nat), i ∉ ([] : List Nat) by decide) (fun _ _ _ _ _ => (sgc_name (by exact sc_is_state.nd) (i := 6) rfl (by first | exact Or.inl rfl | exact Or.inr rfl) (show (6 : Nat) ∉ ([] : List Nat) by decide) (by decide))) (fun _ _ _ _ _ => spt_nil) (fun _ _ _ _ _ => (se_call (by exact GOk.up (k := 2) G_is_letter (by decide)) (by exact hr) (by exact hgd) (by rfl) (by exact mg_is_letter) (by exact kp_is_letter) (by exact bd_is_letter) (sb_cons (se_name 0) (sb_cons (se_name 6) sb_nil)))))))) (sw_or1 (sp_cmpT (op_neV (by exact hu)) opv_ne (sp_callB cr_srtI callv_sorted (by rfl) (by exact mf_sorted) (by rfl) (se_name 3)) (se_lrng (by rfl) (by rfl) (by exact mf_list) (by rfl) (by exact mf_range) (se_name 0)) (by rfl))))) (ss_one (ss_ret se_bl)) ss_nil) (ss_one (ss_ret (sp_callB (cr_all rfl) callv_all (by rfl) (by exact mf_all) bt_all (se_lc [("state", 5)] (by rfl) (by exact sc_is_state.nd) (si_seq (se_name 4)) (by exact blkOk_by (N := ["letters", "many", "thing", "turns", "nexts", "state", "letter"]) (sc := defScope s_is_state) (by decide +kernel)) (show ∀ i ∈ ([5] : List Nat), i ∉ ([] : List Nat) by decide) (fun _ _ _ _ _ => (sgc_name (by exact sc_is_state.nd) (i := 5) rfl (by first | exact Or.inl rfl | exact Or.inr rfl) (show (5 : Nat) ∉ ([] : List Nat) by decide) (by decide))) (fun _ _ _ _ _ => spt_nil) (fun _ _ _ _ _ => (se_and (se_call (by exact GOk.up (k := 2) G_is_whole (by decide)) (by exact hr) (by exact hgd) (by rfl) (by exact mg_is_whole) (by exact kp_is_whole) (by exact bd_is_whole) (sb_cons (se_name 5) sb_nil)) (se_one (se_chain op_le op_lt opv_le.d opv_lt.d se_int (se_name 5) (se_name 1)))))))))))))
end
theorem sc_is_table : FnScope ["thing", "most", "letters", "states", "state"] ["thing", "most"] (defScope s_is_table) := ⟨rfl, rfl, rfl, by decide +kernel, rfl, by decide +kernel, by decide +kernel⟩
section
variable {K : PySem.W.Frag} {mg : Str → Option Value}
noncomputable def fd_is_table (B : Bd K mg) : FuncData := (B.c.def_ 10 (d := d_is_table) rfl).choose
theorem F_is_table (B : Bd K mg) : FunD K "is_table" "is_table" (defArgs s_is_table) (defBody s_is_table) (defScope s_is_table) [] [] (He.fAd K ("is_table", none)) (fd_is_table B) := (B.c.def_ 10 (d := d_is_table) rfl).choose_spec
theorem bd_is_table (B : Bd K mg) : Binds K (fd_is_table B) ["thing", "most"] [] := FunD.bindsN (F_is_table B) fun _ _ _ _ _ _ us hl => match us, hl with | [_, _], _ => rfl
theorem ok_is_table (B : Bd K mg) {P : Program} {w : World} {base : Heap} : GOk P w K mg base 4 (He.fAd K ("is_table", none)) (fd_is_table B) ["thing", "most"] m_is_table := by
  have G_is_letters := ok_is_letters B (P := P) (w := w) (base := base)
  have bd_is_letters := bd_is_letters B
  have kp_is_letters := (F_is_letters B).kp
  have mg_is_letters := mg_is_letters B
  have G_is_state := ok_is_state B (P := P) (w := w) (base := base)
  have bd_is_state := bd_is_state B
  have kp_is_state := (F_is_state B).kp
  have mg_is_state := mg_is_state B
  have mf_isinstance := mf_isinstance B
  have mf_tuple := mf_tuple B
  have mf_len := mf_len B
  have mf_all := mf_all B
  refine (fn3 (F_is_table B) sc_is_table [] t_is_table fun cdv A outer s H E H0 F0 σ0 hr hgd po => ?_).imp pl_is_table
  have hu := hr.u64
  have hu1 := hr.u65
  exact (ss_cons (ss_if (SW.st (sw_or (st_not (st_val (se_isT xcs (by exact B.xt) (by rfl) (by exact mf_isinstance) (by rfl) (by exact mf_tuple) bt_tuple (se_name 0)))) (sw_or (sp_cmpT (op_neV (by exact hu)) opv_ne (sp_callB call_len callv_len (by rfl) (by exact mf_len) bt_len (se_name 0)) se_int (by rfl)) (sw_or1 (st_not (st_val (se_call (by exact GOk.up (k := 3) G_is_letters (by decide)) (by exact hr) (by exact hgd) (by rfl) (by exact mg_is_letters) (by exact kp_is_letters) (by exact bd_is_letters) (sb_cons (sp_ix ix_seq opv_ix (se_name 0) se_int) sb_nil)))))))) (ss_one (ss_ret se_bl)) ss_nil) (ss_cons (ss_asg (se_name 0) (sg_tup (by rfl) (sgs_cons (sg_name (by exact sc_is_table.nd) (i := 2) rfl (by first | exact Or.inl rfl | exact Or.inr rfl) (show (2 : Nat) ∉ ([] : List Nat) by decide)) (sgs_cons (sg_name (by exact sc_is_table.nd) (i := 3) rfl (by first | exact Or.inl rfl | exact Or.inr rfl) (show (3 : Nat) ∉ ([] : List Nat) by decide)) sgs_nil)))) (ss_cons (ss_if (SW.st (sw_or (st_not (st_val (se_isT xcs (by exact B.xt) (by rfl) (by exact mf_isinstance) (by rfl) (by exact mf_tuple) bt_tuple (se_name 3)))) (sw_or1 (st_not (st_chain op_le op_le opv_le.d opv_le.d se_int (sp_callB call_len callv_len (by rfl) (by exact mf_len) bt_len (se_name 3)) (se_name 1)))))) (ss_one (ss_ret se_bl)) ss_nil) (ss_one (ss_ret (sp_callB (cr_all rfl) callv_all (by rfl) (by exact mf_all) bt_all (se_lc [("state", 4)] (by rfl) (by exact sc_is_table.nd) (si_seq (se_name 3)) (by exact blkOk_by (N := ["thing", "most", "letters", "states", "state"]) (sc := defScope s_is_table) (by decide +kernel)) (show ∀ i ∈ ([4] : List Nat), i ∉ ([] : List Nat) by decide) (fun _ _ _ _ _ => (sgc_name (by exact sc_is_table.nd) (i := 4) rfl (by first | exact Or.inl rfl | exact Or.inr rfl) (show (4 : Nat) ∉ ([] : List Nat) by decide) (by decide))) (fun _ _ _ _ _ => spt_nil) (fun _ _ _ _ _ => (se_call (by exact GOk.up (k := 3) G_is_state (by decide)) (by exact hr) (by exact hgd) (by rfl) (by exact mg_is_state) (by exact kp_is_state) (by exact bd_is_state) (sb_cons (se_name 2) (sb_cons (sp_callB call_len callv_len (by rfl) (by exact mf_len) bt_len (se_name 3)) (sb_cons (se_name 4) sb_nil))))))))))))
end
theorem sc_is_machine : FnScope ["thing"] ["thing"] (defScope s_is_machine) := ⟨rfl, rfl, rfl, by decide +kernel, rfl, by decide +kernel, by decide +kernel⟩
section
variable {K : PySem.W.Frag} {mg : Str → Option Value}
noncomputable def fd_is_machine (B : Bd K mg) : FuncData := (B.c.def_ 11 (d := d_is_machine) rfl).choose
theorem F_is_machine (B : Bd K mg) : FunD K "is_machine" "is_machine" (defArgs s_is_machine) (defBody s_is_machine) (defScope s_is_machine) [] [] (He.fAd K ("is_machine", none)) (fd_is_machine B) := (B.c.def_ 11 (d := d_is_machine) rfl).choose_spec
theorem bd_is_machine (B : Bd K mg) : Binds K (fd_is_machine B) ["thing"] [] := FunD.bindsN (F_is_machine B) fun _ _ _ _ _ _ us hl => match us, hl with | [_], _ => rfl
theorem ok_is_machine (B : Bd K mg) {P : Program} {w : World} {base : Heap} : GOk P w K mg base 5 (He.fAd K ("is_machine", none)) (fd_is_machine B) ["thing"] m_is_machine := by
  have G_is_table := ok_is_table B (P := P) (w := w) (base := base)
  have bd_is_table := bd_is_table B
  have kp_is_table := (F_is_table B).kp
  have mg_is_table := mg_is_table B
  have mg_MOST_STATES := mg_MOST_STATES B
  refine (fn3 (F_is_machine B) sc_is_machine [] t_is_machine fun cdv A outer s H E H0 F0 σ0 hr hgd po => ?_).imp pl_is_machine
  exact (ss_one (ss_ret (se_call (by exact GOk.up (k := 4) G_is_table (by decide)) (by exact hr) (by exact hgd) (by rfl) (by exact mg_is_table) (by exact kp_is_table) (by exact bd_is_table) (sb_cons (se_name 0) (sb_cons (se_glob (v := V.int 8) rfl mg_MOST_STATES.choose_spec ⟨_, rfl⟩ (fun _ => .int _)) sb_nil)))))
end
theorem sc_need_machine : FnScope ["machine"] ["machine"] (defScope s_need_machine) := ⟨rfl, rfl, rfl, by decide +kernel, rfl, by decide +kernel, by decide +kernel⟩
section
variable {K : PySem.W.Frag} {mg : Str → Option Value}
noncomputable def fd_need_machine (B : Bd K mg) : FuncData := (B.c.def_ 12 (d := d_need_machine) rfl).choose
theorem F_need_machine (B : Bd K mg) : FunD K "need_machine" "need_machine" (defArgs s_need_machine) (defBody s_need_machine) (defScope s_need_machine) [] [] (He.fAd K ("need_machine", none)) (fd_need_machine B) := (B.c.def_ 12 (d := d_need_machine) rfl).choose_spec
theorem bd_need_machine (B : Bd K mg) : Binds K (fd_need_machine B) ["machine"] [] := FunD.bindsN (F_need_machine B) fun _ _ _ _ _ _ us hl => match us, hl with | [_], _ => rfl
theorem ok_need_machine (B : Bd K mg) {P : Program} {w : World} {base : Heap} : GOk P w K mg base 6 (He.fAd K ("need_machine", none)) (fd_need_machine B) ["machine"] m_need_machine := by
  have G_is_machine := ok_is_machine B (P := P) (w := w) (base := base)
  have bd_is_machine := bd_is_machine B
  have kp_is_machine := (F_is_machine B).kp
  have mg_is_machine := mg_is_machine B
  refine (fn3 (F_need_machine B) sc_need_machine [] t_need_machine fun cdv A outer s H E H0 F0 σ0 hr hgd po => ?_).imp pl_need_machine
  exact (ss_one (ss_if (st_not (st_val (se_call (by exact GOk.up (k := 5) G_is_machine (by decide)) (by exact hr) (by exact hgd) (by rfl) (by exact mg_is_machine) (by exact kp_is_machine) (by exact bd_is_machine) (sb_cons (se_name 0) sb_nil)))) (ss_one (ss_raise0 (by rfl) (by exact xi_NoMachine B) (by exact xc_NoMachine B) (by exact mx_NoMachine B) (by rfl))) ss_nil))
end
theorem sc_House___init__ : FnScope ["self", "machine"] ["self", "machine"] (defScope s_House___init__) := ⟨rfl, rfl, rfl, by decide +kernel, rfl, by decide +kernel, by decide +kernel⟩
section
variable {K : PySem.W.Frag} {mg : Str → Option Value}
noncomputable def fd_House___init__ (B : Bd K mg) : FuncData := (B.c.def_ 21 (d := d_House___init__) rfl).choose
theorem F_House___init__ (B : Bd K mg) : FunD K "__init__" "House.__init__" (defArgs s_House___init__) (defBody s_House___init__) (defScope s_House___init__) [] [] (He.fAd K ("House", some "__init__")) (fd_House___init__ B) := (B.c.def_ 21 (d := d_House___init__) rfl).choose_spec
theorem bd_House___init__ (B : Bd K mg) : Binds K (fd_House___init__ B) ["self", "machine"] [] := FunD.bindsN (F_House___init__ B) fun _ _ _ _ _ _ us hl => match us, hl with | [_, _], _ => rfl
theorem ok_House___init__ (B : Bd K mg) {P : Program} {w : World} {base : Heap} : GOk P w K mg base 7 (He.fAd K ("House", some "__init__")) (fd_House___init__ B) ["self", "machine"] m_House___init__ := by
  have G_need_machine := ok_need_machine B (P := P) (w := w) (base := base)
  have bd_need_machine := bd_need_machine B
  have kp_need_machine := (F_need_machine B).kp
  have mg_need_machine := mg_need_machine B
  have hF := hF_ B
  refine (fn3 (F_House___init__ B) sc_House___init__ [0] t_House___init__ fun cdv A outer s H E H0 F0 σ0 hr hgd po => ?_).imp pl_House___init__
  exact (ss_cons (ss_expr (se_call (by exact GOk.up (k := 6) G_need_machine (by decide)) (by exact hr) (by exact hgd) (by rfl) (by exact mg_need_machine) (by exact kp_need_machine) (by exact bd_need_machine) (sb_cons (se_name 1) sb_nil))) (ss_hinit 0 1 (by exact hF)))
end
theorem sc_law_no_machine : FnScope ["thing", "caught", "e"] ["thing"] (defScope s__law_no_machine) := ⟨rfl, rfl, rfl, by decide +kernel, rfl, by decide +kernel, by decide +kernel⟩
section
variable {K : PySem.W.Frag} {mg : Str → Option Value}
noncomputable def fd_law_no_machine (B : Bd K mg) : FuncData := (B.c.def_ 56 (d := d__law_no_machine) rfl).choose
theorem F_law_no_machine (B : Bd K mg) : FunD K "_law_no_machine" "_law_no_machine" (defArgs s__law_no_machine) (defBody s__law_no_machine) (defScope s__law_no_machine) [] [] (He.fAd K ("_law_no_machine", none)) (fd_law_no_machine B) := (B.c.def_ 56 (d := d__law_no_machine) rfl).choose_spec
theorem bd_law_no_machine (B : Bd K mg) : Binds K (fd_law_no_machine B) ["thing"] [] := FunD.bindsN (F_law_no_machine B) fun _ _ _ _ _ _ us hl => match us, hl with | [_], _ => rfl
theorem ok_law_no_machine (B : Bd K mg) {P : Program} {w : World} {base : Heap} : GOk P w K mg base 9 (He.fAd K ("_law_no_machine", none)) (fd_law_no_machine B) ["thing"] m_law_no_machine := by
  have G_House___init__ := ok_House___init__ B (P := P) (w := w) (base := base)
  have bd_House___init__ := bd_House___init__ B
  have mf_isinstance := mf_isinstance B
  have mf_ValueError := mf_ValueError B
  refine (fn3 (F_law_no_machine B) sc_law_no_machine [] t_law_no_machine fun cdv A outer s H E H0 F0 σ0 hr hgd po => ?_).imp pl_law_no_machine
  exact (ss_cons (ss_set (i := 1) (by exact sc_law_no_machine.nd) rfl (by first | exact Or.inl rfl | exact Or.inr rfl) (show (1 : Nat) ∉ ([] : List Nat) by decide) se_non) (ss_cons (ss_try xcs rfl rfl rfl (by exact sc_law_no_machine.nd) (i := 2) (j := 1) rfl rfl rfl rfl rfl (by decide) (show (2 : Nat) ∉ ([] : List Nat) by decide) (show (1 : Nat) ∉ ([] : List Nat) by decide) (by rfl) (by exact mx_TurnError B) (by exact B.xm) (by decide) (fun PF pn xe po => (ss_one (ss_expr (se_make (by exact mk_House B) (by exact GOk.up (k := 7) G_House___init__ (by decide)) (by exact hr.mono (by decide)) (by exact hgd) (by rfl) (by exact mo_House B) (by exact bd_House___init__) (sa_cons (se_name 0) sa_nil)))))) (ss_one (ss_ret (se_and (se_isC xcs (by exact B.xt) (by decide) (by rfl) (by exact mf_isinstance) (by rfl) (by exact mx_NoMachine B) (se_name 1)) (se_one (se_isT xcs (by exact B.xt) (by rfl) (by exact mf_isinstance) (by rfl) (by exact mf_ValueError) bt_ValueError (se_name 1))))))))
end
theorem sc_is_name : FnScope ["thing", "sign"] ["thing"] (defScope s_is_name) := ⟨rfl, rfl, rfl, by decide +kernel, rfl, by decide +kernel, by decide +kernel⟩
section
variable {K : PySem.W.Frag} {mg : Str → Option Value}
noncomputable def fd_is_name (B : Bd K mg) : FuncData := (B.c.def_ 20 (d := d_is_name) rfl).choose
theorem F_is_name (B : Bd K mg) : FunD K "is_name" "is_name" (defArgs s_is_name) (defBody s_is_name) (defScope s_is_name) [] [] (He.fAd K ("is_name", none)) (fd_is_name B) := (B.c.def_ 20 (d := d_is_name) rfl).choose_spec
theorem bd_is_name (B : Bd K mg) : Binds K (fd_is_name B) ["thing"] [] := FunD.bindsN (F_is_name B) fun _ _ _ _ _ _ us hl => match us, hl with | [_], _ => rfl
theorem ok_is_name (B : Bd K mg) {P : Program} {w : World} {base : Heap} : GOk P w K mg base 1 (He.fAd K ("is_name", none)) (fd_is_name B) ["thing"] m_is_name := by
  have mf_isinstance := mf_isinstance B
  have mf_str := mf_str B
  have mf_len := mf_len B
  have mg_SMALL := mg_SMALL B
  have mf_all := mf_all B
  refine (fn3 (F_is_name B) sc_is_name [] t_is_name fun cdv A outer s H E H0 F0 σ0 hr hgd po => ?_).imp pl_is_name
  exact (ss_one (ss_ret (se_and (se_isT xcs (by exact B.xt) (by rfl) (by exact mf_isinstance) (by rfl) (by exact mf_str) bt_str (se_name 0)) (se_and (se_chain op_le op_le opv_le.d opv_le.d se_int (sp_callB call_len callv_len (by rfl) (by exact mf_len) bt_len (se_name 0)) se_int) (se_one (sp_callB (cr_all rfl) callv_all (by rfl) (by exact mf_all) bt_all (se_lc [("sign", 1)] (by rfl) (by exact sc_is_name.nd) (si_seq (se_name 0)) (by exact blkOk_by (N := ["thing", "sign"]) (sc := defScope s_is_name) (by decide +kernel)) (show ∀ i ∈ ([1] : List Nat), i ∉ ([] : List Nat) by decide) (fun _ _ _ _ _ => (sgc_name (by exact sc_is_name.nd) (i := 1) rfl (by first | exact Or.inl rfl | exact Or.inr rfl) (show (1 : Nat) ∉ ([] : List Nat) by decide) (by decide))) (fun _ _ _ _ _ => spt_nil) (fun _ _ _ _ _ => (sp_cmp op_inS opv_inS (se_name 1) (se_glob (v := V.str "abcdefghijklmnopqrstuvwxyz") rfl mg_SMALL.choose_spec ⟨_, rfl⟩ (fun _ => .str _)) (by rfl))))))))))
end
theorem sc_House_need_new : FnScope ["self", "name"] ["self", "name"] (defScope s_House_need_new) := ⟨rfl, rfl, rfl, by decide +kernel, rfl, by decide +kernel, by decide +kernel⟩
section
variable {K : PySem.W.Frag} {mg : Str → Option Value}
noncomputable def fd_House_need_new (B : Bd K mg) : FuncData := (B.c.def_ 22 (d := d_House_need_new) rfl).choose
theorem F_House_need_new (B : Bd K mg) : FunD K "need_new" "House.need_new" (defArgs s_House_need_new) (defBody s_House_need_new) (defScope s_House_need_new) [] [] (He.fAd K ("House", some "need_new")) (fd_House_need_new B) := (B.c.def_ 22 (d := d_House_need_new) rfl).choose_spec
theorem bd_House_need_new (B : Bd K mg) : Binds K (fd_House_need_new B) ["self", "name"] [] := FunD.bindsN (F_House_need_new B) fun _ _ _ _ _ _ us hl => match us, hl with | [_, _], _ => rfl
theorem ok_House_need_new (B : Bd K mg) {P : Program} {w : World} {base : Heap} : GOk P w K mg base 3 (He.fAd K ("House", some "need_new")) (fd_House_need_new B) ["self", "name"] m_House_need_new := by
  have G_is_name := ok_is_name B (P := P) (w := w) (base := base)
  have bd_is_name := bd_is_name B
  have kp_is_name := (F_is_name B).kp
  have mg_is_name := mg_is_name B
  have hF := hF_ B
  refine (fn3 (F_House_need_new B) sc_House_need_new [0] t_House_need_new fun cdv A outer s H E H0 F0 σ0 hr hgd po => ?_).imp pl_House_need_new
  have hu := hr.u64
  have hu1 := hr.u65
  exact (ss_cons (ss_if (st_not (st_val (se_call (by exact GOk.up (k := 2) G_is_name (by decide)) (by exact hr) (by exact hgd) (by rfl) (by exact mg_is_name) (by exact kp_is_name) (by exact bd_is_name) (sb_cons (se_name 1) sb_nil)))) (ss_one (ss_raise1 (by rfl) (by exact oc_NoName B) (by exact xc_NoName B) (by exact ok_NoName___init__ B) (by exact hr.mono (by decide)) (by exact bd_NoName___init__ B) pass0 (by rfl) (by exact mx_NoName B) (se_name 1))) ss_nil) (ss_one (ss_if (st_hin 0 (by exact hF) (by exact hu1) (se_name 1)) (ss_one (ss_raise1 (by rfl) (by exact oc_Standing B) (by exact xc_Standing B) (by exact ok_Standing___init__ B) (by exact hr.mono (by decide)) (by exact bd_Standing___init__ B) pass0 (by rfl) (by exact mx_Standing B) (se_name 1))) ss_nil)))
end
theorem sc_is_row_of : FnScope ["many", "thing", "sign"] ["many", "thing"] (defScope s_is_row_of) := ⟨rfl, rfl, rfl, by decide +kernel, rfl, by decide +kernel, by decide +kernel⟩
section
variable {K : PySem.W.Frag} {mg : Str → Option Value}
noncomputable def fd_is_row_of (B : Bd K mg) : FuncData := (B.c.def_ 15 (d := d_is_row_of) rfl).choose
theorem F_is_row_of (B : Bd K mg) : FunD K "is_row_of" "is_row_of" (defArgs s_is_row_of) (defBody s_is_row_of) (defScope s_is_row_of) [] [] (He.fAd K ("is_row_of", none)) (fd_is_row_of B) := (B.c.def_ 15 (d := d_is_row_of) rfl).choose_spec
theorem bd_is_row_of (B : Bd K mg) : Binds K (fd_is_row_of B) ["many", "thing"] [] := FunD.bindsN (F_is_row_of B) fun _ _ _ _ _ _ us hl => match us, hl with | [_, _], _ => rfl
theorem ok_is_row_of (B : Bd K mg) {P : Program} {w : World} {base : Heap} : GOk P w K mg base 2 (He.fAd K ("is_row_of", none)) (fd_is_row_of B) ["many", "thing"] m_is_row_of := by
  have G_is_whole := ok_is_whole B (P := P) (w := w) (base := base)
  have bd_is_whole := bd_is_whole B
  have kp_is_whole := (F_is_whole B).kp
  have mg_is_whole := mg_is_whole B
  have mf_isinstance := mf_isinstance B
  have mf_tuple := mf_tuple B
  have mf_len := mf_len B
  have mg_LONGEST_ROW := mg_LONGEST_ROW B
  have mf_all := mf_all B
  refine (fn3 (F_is_row_of B) sc_is_row_of [] t_is_row_of fun cdv A outer s H E H0 F0 σ0 hr hgd po => ?_).imp pl_is_row_of
  exact (ss_cons (ss_if (SW.st (sw_or (st_not (st_val (se_isT xcs (by exact B.xt) (by rfl) (by exact mf_isinstance) (by rfl) (by exact mf_tuple) bt_tuple (se_name 1)))) (sw_or1 (sp_cmpT op_gt opv_gt (sp_callB call_len callv_len (by rfl) (by exact mf_len) bt_len (se_name 1)) (se_glob (v := V.int 16) rfl mg_LONGEST_ROW.choose_spec ⟨_, rfl⟩ (fun _ => .int _)) (by rfl))))) (ss_one (ss_ret se_bl)) ss_nil) (ss_one (ss_ret (sp_callB (cr_all rfl) callv_all (by rfl) (by exact mf_all) bt_all (se_lc [("sign", 2)] (by rfl) (by exact sc_is_row_of.nd) (si_seq (se_name 1)) (by exact blkOk_by (N := ["many", "thing", "sign"]) (sc := defScope s_is_row_of) (by decide +kernel)) (show ∀ i ∈ ([2] : List Nat), i ∉ ([] : List Nat) by decide) (fun _ _ _ _ _ => (sgc_name (by exact sc_is_row_of.nd) (i := 2) rfl (by first | exact Or.inl rfl | exact Or.inr rfl) (show (2 : Nat) ∉ ([] : List Nat) by decide) (by decide))) (fun _ _ _ _ _ => spt_nil) (fun _ _ _ _ _ => (se_and (se_call (by exact GOk.up (k := 1) G_is_whole (by decide)) (by exact hr) (by exact hgd) (by rfl) (by exact mg_is_whole) (by exact kp_is_whole) (by exact bd_is_whole) (sb_cons (se_name 2) sb_nil)) (se_one (se_chain op_le op_lt opv_le.d opv_lt.d (se_un un_neg und_neg (se_name 0)) (se_name 2) (se_name 0))))))))))
end
theorem sc_is_row : FnScope ["machine", "thing"] ["machine", "thing"] (defScope s_is_row) := ⟨rfl, rfl, rfl, by decide +kernel, rfl, by decide +kernel, by decide +kernel⟩
section
variable {K : PySem.W.Frag} {mg : Str → Option Value}
noncomputable def fd_is_row (B : Bd K mg) : FuncData := (B.c.def_ 16 (d := d_is_row) rfl).choose
theorem F_is_row (B : Bd K mg) : FunD K "is_row" "is_row" (defArgs s_is_row) (defBody s_is_row) (defScope s_is_row) [] [] (He.fAd K ("is_row", none)) (fd_is_row B) := (B.c.def_ 16 (d := d_is_row) rfl).choose_spec
theorem bd_is_row (B : Bd K mg) : Binds K (fd_is_row B) ["machine", "thing"] [] := FunD.bindsN (F_is_row B) fun _ _ _ _ _ _ us hl => match us, hl with | [_, _], _ => rfl
theorem ok_is_row (B : Bd K mg) {P : Program} {w : World} {base : Heap} : GOk P w K mg base 7 (He.fAd K ("is_row", none)) (fd_is_row B) ["machine", "thing"] m_is_row := by
  have G_need_machine := ok_need_machine B (P := P) (w := w) (base := base)
  have bd_need_machine := bd_need_machine B
  have kp_need_machine := (F_need_machine B).kp
  have mg_need_machine := mg_need_machine B
  have G_is_row_of := ok_is_row_of B (P := P) (w := w) (base := base)
  have bd_is_row_of := bd_is_row_of B
  have kp_is_row_of := (F_is_row_of B).kp
  have mg_is_row_of := mg_is_row_of B
  have mf_len := mf_len B
  refine (fn3 (F_is_row B) sc_is_row [] t_is_row fun cdv A outer s H E H0 F0 σ0 hr hgd po => ?_).imp pl_is_row
  exact (ss_cons (ss_expr (se_call (by exact GOk.up (k := 6) G_need_machine (by decide)) (by exact hr) (by exact hgd) (by rfl) (by exact mg_need_machine) (by exact kp_need_machine) (by exact bd_need_machine) (sb_cons (se_name 0) sb_nil))) (ss_one (ss_ret (se_call (by exact GOk.up (k := 6) G_is_row_of (by decide)) (by exact hr) (by exact hgd) (by rfl) (by exact mg_is_row_of) (by exact kp_is_row_of) (by exact bd_is_row_of) (sb_cons (sp_callB call_len callv_len (by rfl) (by exact mf_len) bt_len (sp_ix ix_seq opv_ix (se_name 0) se_int)) (sb_cons (se_name 1) sb_nil))))))
end
theorem sc_need_row : FnScope ["machine", "row"] ["machine", "row"] (defScope s_need_row) := ⟨rfl, rfl, rfl, by decide +kernel, rfl, by decide +kernel, by decide +kernel⟩
section
variable {K : PySem.W.Frag} {mg : Str → Option Value}
noncomputable def fd_need_row (B : Bd K mg) : FuncData := (B.c.def_ 17 (d := d_need_row) rfl).choose
theorem F_need_row (B : Bd K mg) : FunD K "need_row" "need_row" (defArgs s_need_row) (defBody s_need_row) (defScope s_need_row) [] [] (He.fAd K ("need_row", none)) (fd_need_row B) := (B.c.def_ 17 (d := d_need_row) rfl).choose_spec
theorem bd_need_row (B : Bd K mg) : Binds K (fd_need_row B) ["machine", "row"] [] := FunD.bindsN (F_need_row B) fun _ _ _ _ _ _ us hl => match us, hl with | [_, _], _ => rfl
theorem ok_need_row (B : Bd K mg) {P : Program} {w : World} {base : Heap} : GOk P w K mg base 8 (He.fAd K ("need_row", none)) (fd_need_row B) ["machine", "row"] m_need_row := by
  have G_is_row := ok_is_row B (P := P) (w := w) (base := base)
  have bd_is_row := bd_is_row B
  have kp_is_row := (F_is_row B).kp
  have mg_is_row := mg_is_row B
  refine (fn3 (F_need_row B) sc_need_row [] t_need_row fun cdv A outer s H E H0 F0 σ0 hr hgd po => ?_).imp pl_need_row
  exact (ss_one (ss_if (st_not (st_val (se_call (by exact GOk.up (k := 7) G_is_row (by decide)) (by exact hr) (by exact hgd) (by rfl) (by exact mg_is_row) (by exact kp_is_row) (by exact bd_is_row) (sb_cons (se_name 0) (sb_cons (se_name 1) sb_nil))))) (ss_one (ss_raise0 (by rfl) (by exact xi_NoRow B) (by exact xc_NoRow B) (by exact mx_NoRow B) (by rfl))) ss_nil))
end
theorem sc_House_set_row : FnScope ["self", "name", "row"] ["self", "name", "row"] (defScope s_House_set_row) := ⟨rfl, rfl, rfl, by decide +kernel, rfl, by decide +kernel, by decide +kernel⟩
section
variable {K : PySem.W.Frag} {mg : Str → Option Value}
noncomputable def fd_House_set_row (B : Bd K mg) : FuncData := (B.c.def_ 24 (d := d_House_set_row) rfl).choose
theorem F_House_set_row (B : Bd K mg) : FunD K "set_row" "House.set_row" (defArgs s_House_set_row) (defBody s_House_set_row) (defScope s_House_set_row) [] [] (He.fAd K ("House", some "set_row")) (fd_House_set_row B) := (B.c.def_ 24 (d := d_House_set_row) rfl).choose_spec
theorem bd_House_set_row (B : Bd K mg) : Binds K (fd_House_set_row B) ["self", "name", "row"] [] := FunD.bindsN (F_House_set_row B) fun _ _ _ _ _ _ us hl => match us, hl with | [_, _, _], _ => rfl
theorem ok_House_set_row (B : Bd K mg) {P : Program} {w : World} {base : Heap} : GOk P w K mg base 3 (He.fAd K ("House", some "set_row")) (fd_House_set_row B) ["self", "name", "row"] m_House_set_row := by
  have mf_len := mf_len B
  have mg_MOST_NAMES := mg_MOST_NAMES B
  have hF := hF_ B
  refine (fn3 (F_House_set_row B) sc_House_set_row [0] t_House_set_row fun cdv A outer s H E H0 F0 σ0 hr hgd po => ?_).imp pl_House_set_row
  have hu := hr.u64
  have hu1 := hr.u65
  exact (ss_cons (ss_if (sp_cmpT (op_eqV (by exact hu)) opv_eq (se_hlenR 0 (by exact hF) (by rfl) (by exact mf_len)) (se_glob (v := V.int 12) rfl mg_MOST_NAMES.choose_spec ⟨_, rfl⟩ (fun _ => .int _)) (by rfl)) (ss_one (ss_raise1 (by rfl) (by exact oc_Full B) (by exact xc_Full B) (by exact ok_Full___init__ B) (by exact hr.mono (by decide)) (by exact bd_Full___init__ B) pass0 (by rfl) (by exact mx_Full B) (se_glob (v := V.int 12) rfl mg_MOST_NAMES.choose_spec ⟨_, rfl⟩ (fun _ => .int _)))) ss_nil) (ss_one (ss_asg (se_name 2) (sg_hput 0 1 (by exact hF) (by exact hu1)))))
end
theorem sc_House_put : FnScope ["self", "name", "row"] ["self", "name", "row"] (defScope s_House_put) := ⟨rfl, rfl, rfl, by decide +kernel, rfl, by decide +kernel, by decide +kernel⟩
section
variable {K : PySem.W.Frag} {mg : Str → Option Value}
noncomputable def fd_House_put (B : Bd K mg) : FuncData := (B.c.def_ 25 (d := d_House_put) rfl).choose
theorem F_House_put (B : Bd K mg) : FunD K "put" "House.put" (defArgs s_House_put) (defBody s_House_put) (defScope s_House_put) [] [] (He.fAd K ("House", some "put")) (fd_House_put B) := (B.c.def_ 25 (d := d_House_put) rfl).choose_spec
theorem bd_House_put (B : Bd K mg) : Binds K (fd_House_put B) ["self", "name", "row"] [] := FunD.bindsN (F_House_put B) fun _ _ _ _ _ _ us hl => match us, hl with | [_, _, _], _ => rfl
theorem ok_House_put (B : Bd K mg) {P : Program} {w : World} {base : Heap} : GOk P w K mg base 9 (He.fAd K ("House", some "put")) (fd_House_put B) ["self", "name", "row"] m_House_put := by
  have G_House_need_new := ok_House_need_new B (P := P) (w := w) (base := base)
  have bd_House_need_new := bd_House_need_new B
  have G_need_row := ok_need_row B (P := P) (w := w) (base := base)
  have bd_need_row := bd_need_row B
  have kp_need_row := (F_need_row B).kp
  have mg_need_row := mg_need_row B
  have G_House_set_row := ok_House_set_row B (P := P) (w := w) (base := base)
  have bd_House_set_row := bd_House_set_row B
  have hF := hF_ B
  refine (fn3 (F_House_put B) sc_House_put [0] t_House_put fun cdv A outer s H E H0 F0 σ0 hr hgd po => ?_).imp pl_House_put
  exact (ss_cons (ss_expr (se_meth 0 (by exact hF) (by exact mm_need_new B) (by exact GOk.up (k := 8) G_House_need_new (by decide)) (by exact hr) (by exact hgd) (by exact bd_House_need_new) (sb_cons (se_name 1) sb_nil))) (ss_cons (ss_expr (se_call (by exact GOk.up (k := 8) G_need_row (by decide)) (by exact hr) (by exact hgd) (by rfl) (by exact mg_need_row) (by exact kp_need_row) (by exact bd_need_row) (sb_cons (se_hkept 0 (by exact hF)) (sb_cons (se_name 2) sb_nil)))) (ss_one (ss_expr (se_meth 0 (by exact hF) (by exact mm_set_row B) (by exact GOk.up (k := 8) G_House_set_row (by decide)) (by exact hr) (by exact hgd) (by exact bd_House_set_row) (sb_cons (se_name 1) (sb_cons (se_name 2) sb_nil)))))))
end
theorem sc_House_need : FnScope ["self", "name"] ["self", "name"] (defScope s_House_need) := ⟨rfl, rfl, rfl, by decide +kernel, rfl, by decide +kernel, by decide +kernel⟩
section
variable {K : PySem.W.Frag} {mg : Str → Option Value}
noncomputable def fd_House_need (B : Bd K mg) : FuncData := (B.c.def_ 23 (d := d_House_need) rfl).choose
theorem F_House_need (B : Bd K mg) : FunD K "need" "House.need" (defArgs s_House_need) (defBody s_House_need) (defScope s_House_need) [] [] (He.fAd K ("House", some "need")) (fd_House_need B) := (B.c.def_ 23 (d := d_House_need) rfl).choose_spec
theorem bd_House_need (B : Bd K mg) : Binds K (fd_House_need B) ["self", "name"] [] := FunD.bindsN (F_House_need B) fun _ _ _ _ _ _ us hl => match us, hl with | [_, _], _ => rfl
theorem ok_House_need (B : Bd K mg) {P : Program} {w : World} {base : Heap} : GOk P w K mg base 3 (He.fAd K ("House", some "need")) (fd_House_need B) ["self", "name"] m_House_need := by
  have G_is_name := ok_is_name B (P := P) (w := w) (base := base)
  have bd_is_name := bd_is_name B
  have kp_is_name := (F_is_name B).kp
  have mg_is_name := mg_is_name B
  have hF := hF_ B
  refine (fn3 (F_House_need B) sc_House_need [0] t_House_need fun cdv A outer s H E H0 F0 σ0 hr hgd po => ?_).imp pl_House_need
  have hu := hr.u64
  have hu1 := hr.u65
  exact (ss_cons (ss_if (SW.st (sw_or (st_not (st_val (se_call (by exact GOk.up (k := 2) G_is_name (by decide)) (by exact hr) (by exact hgd) (by rfl) (by exact mg_is_name) (by exact kp_is_name) (by exact bd_is_name) (sb_cons (se_name 1) sb_nil)))) (sw_or1 (st_hnin 0 (by exact hF) (by exact hu1) (se_name 1))))) (ss_one (ss_raise1 (by rfl) (by exact oc_NoName B) (by exact xc_NoName B) (by exact ok_NoName___init__ B) (by exact hr.mono (by decide)) (by exact bd_NoName___init__ B) pass0 (by rfl) (by exact mx_NoName B) (se_name 1))) ss_nil) (ss_one (ss_ret (se_hget 0 1 (by exact hF) (by exact hu1)))))
end
theorem sc_House_join : FnScope ["self", "name", "one", "other", "row"] ["self", "name", "one", "other"] (defScope s_House_join) := ⟨rfl, rfl, rfl, by decide +kernel, rfl, by decide +kernel, by decide +kernel⟩
section
variable {K : PySem.W.Frag} {mg : Str → Option Value}
noncomputable def fd_House_join (B : Bd K mg) : FuncData := (B.c.def_ 26 (d := d_House_join) rfl).choose
theorem F_House_join (B : Bd K mg) : FunD K "join" "House.join" (defArgs s_House_join) (defBody s_House_join) (defScope s_House_join) [] [] (He.fAd K ("House", some "join")) (fd_House_join B) := (B.c.def_ 26 (d := d_House_join) rfl).choose_spec
theorem bd_House_join (B : Bd K mg) : Binds K (fd_House_join B) ["self", "name", "one", "other"] [] := FunD.bindsN (F_House_join B) fun _ _ _ _ _ _ us hl => match us, hl with | [_, _, _, _], _ => rfl
theorem ok_House_join (B : Bd K mg) {P : Program} {w : World} {base : Heap} : GOk P w K mg base 4 (He.fAd K ("House", some "join")) (fd_House_join B) ["self", "name", "one", "other"] m_House_join := by
  have G_House_need_new := ok_House_need_new B (P := P) (w := w) (base := base)
  have bd_House_need_new := bd_House_need_new B
  have G_House_need := ok_House_need B (P := P) (w := w) (base := base)
  have bd_House_need := bd_House_need B
  have G_House_set_row := ok_House_set_row B (P := P) (w := w) (base := base)
  have bd_House_set_row := bd_House_set_row B
  have mf_len := mf_len B
  have mg_LONGEST_ROW := mg_LONGEST_ROW B
  have hF := hF_ B
  refine (fn3 (F_House_join B) sc_House_join [0] t_House_join fun cdv A outer s H E H0 F0 σ0 hr hgd po => ?_).imp pl_House_join
  exact (ss_cons (ss_expr (se_meth 0 (by exact hF) (by exact mm_need_new B) (by exact GOk.up (k := 3) G_House_need_new (by decide)) (by exact hr) (by exact hgd) (by exact bd_House_need_new) (sb_cons (se_name 1) sb_nil))) (ss_cons (ss_set (i := 4) (by exact sc_House_join.nd) rfl (by first | exact Or.inl rfl | exact Or.inr rfl) (show (4 : Nat) ∉ ([0] : List Nat) by decide) (se_meth 0 (by exact hF) (by exact mm_need B) (by exact GOk.up (k := 3) G_House_need (by decide)) (by exact hr) (by exact hgd) (by exact bd_House_need) (sb_cons (se_name 2) sb_nil))) (ss_cons (ss_set (i := 4) (by exact sc_House_join.nd) rfl (by first | exact Or.inl rfl | exact Or.inr rfl) (show (4 : Nat) ∉ ([0] : List Nat) by decide) (sp_bin op_addV opv_add (se_name 4) (se_meth 0 (by exact hF) (by exact mm_need B) (by exact GOk.up (k := 3) G_House_need (by decide)) (by exact hr) (by exact hgd) (by exact bd_House_need) (sb_cons (se_name 3) sb_nil)))) (ss_cons (ss_if (sp_cmpT op_gt opv_gt (sp_callB call_len callv_len (by rfl) (by exact mf_len) bt_len (se_name 4)) (se_glob (v := V.int 16) rfl mg_LONGEST_ROW.choose_spec ⟨_, rfl⟩ (fun _ => .int _)) (by rfl)) (ss_one (ss_raise0 (by rfl) (by exact xi_TooLong B) (by exact xc_TooLong B) (by exact mx_TooLong B) (by rfl))) ss_nil) (ss_one (ss_expr (se_meth 0 (by exact hF) (by exact mm_set_row B) (by exact GOk.up (k := 3) G_House_set_row (by decide)) (by exact hr) (by exact hgd) (by exact bd_House_set_row) (sb_cons (se_name 1) (sb_cons (se_name 4) sb_nil)))))))))
end
theorem sc_undoing : FnScope ["sign"] ["sign"] (defScope s_undoing) := ⟨rfl, rfl, rfl, by decide +kernel, rfl, by decide +kernel, by decide +kernel⟩
section
variable {K : PySem.W.Frag} {mg : Str → Option Value}
noncomputable def fd_undoing (B : Bd K mg) : FuncData := (B.c.def_ 14 (d := d_undoing) rfl).choose
theorem F_undoing (B : Bd K mg) : FunD K "undoing" "undoing" (defArgs s_undoing) (defBody s_undoing) (defScope s_undoing) [] [] (He.fAd K ("undoing", none)) (fd_undoing B) := (B.c.def_ 14 (d := d_undoing) rfl).choose_spec
theorem bd_undoing (B : Bd K mg) : Binds K (fd_undoing B) ["sign"] [] := FunD.bindsN (F_undoing B) fun _ _ _ _ _ _ us hl => match us, hl with | [_], _ => rfl
theorem ok_undoing (B : Bd K mg) {P : Program} {w : World} {base : Heap} : GOk P w K mg base 1 (He.fAd K ("undoing", none)) (fd_undoing B) ["sign"] m_undoing := by
  refine (fn3 (F_undoing B) sc_undoing [] t_undoing fun cdv A outer s H E H0 F0 σ0 hr hgd po => ?_).imp pl_undoing
  exact (ss_one (ss_ret (sp_bin op_sub opv_sub (se_un un_neg und_neg se_int) (se_name 0))))
end
theorem sc_plain_of : FnScope ["row", "found", "sign"] ["row"] (defScope s_plain_of) := ⟨rfl, rfl, rfl, by decide +kernel, rfl, by decide +kernel, by decide +kernel⟩
section
variable {K : PySem.W.Frag} {mg : Str → Option Value}
noncomputable def fd_plain_of (B : Bd K mg) : FuncData := (B.c.def_ 19 (d := d_plain_of) rfl).choose
theorem F_plain_of (B : Bd K mg) : FunD K "plain_of" "plain_of" (defArgs s_plain_of) (defBody s_plain_of) (defScope s_plain_of) [] [] (He.fAd K ("plain_of", none)) (fd_plain_of B) := (B.c.def_ 19 (d := d_plain_of) rfl).choose_spec
theorem bd_plain_of (B : Bd K mg) : Binds K (fd_plain_of B) ["row"] [] := FunD.bindsN (F_plain_of B) fun _ _ _ _ _ _ us hl => match us, hl with | [_], _ => rfl
theorem ok_plain_of (B : Bd K mg) {P : Program} {w : World} {base : Heap} : GOk P w K mg base 2 (He.fAd K ("plain_of", none)) (fd_plain_of B) ["row"] m_plain_of := by
  have G_undoing := ok_undoing B (P := P) (w := w) (base := base)
  have bd_undoing := bd_undoing B
  have kp_undoing := (F_undoing B).kp
  have mg_undoing := mg_undoing B
  have mf_tuple := mf_tuple B
  refine (fn3 (F_plain_of B) sc_plain_of [] t_plain_of fun cdv A outer s H E H0 F0 σ0 hr hgd po => ?_).imp pl_plain_of
  have hu := hr.u64
  have hu1 := hr.u65
  exact (ss_cons (ss_set (i := 1) (by exact sc_plain_of.nd) rfl (by first | exact Or.inl rfl | exact Or.inr rfl) (show (1 : Nat) ∉ ([] : List Nat) by decide) (se_lst sa_nil)) (ss_cons (ss_for (by exact po) (by rfl) (si_seq (se_name 0)) (sg_name (by exact sc_plain_of.nd) (i := 2) rfl (by first | exact Or.inl rfl | exact Or.inr rfl) (show (2 : Nat) ∉ ([] : List Nat) by decide)) (ss_one (ss_if (SW.st (sw_and (sp_cmpT (op_neV (by exact hu)) opv_ne (se_name 1) (se_lst sa_nil) (by rfl)) (sw_and1 (sp_cmpT (op_eqV (by exact hu)) opv_eq (sp_ix ix_seq opv_ix (se_name 1) (se_un un_neg und_neg se_int)) (se_call (by exact GOk.up (k := 1) G_undoing (by decide)) (by exact hr) (by exact hgd) (by rfl) (by exact mg_undoing) (by exact kp_undoing) (by exact bd_undoing) (sb_cons (se_name 2) sb_nil)) (by rfl))))) (ss_one (ss_expr (se_mt0 1 PySem.F.slot_list_pop PySem.F.type_list_pop mt_pop mtl_pop))) (ss_one (ss_expr (se_mt 1 PySem.F.slot_list_append PySem.F.type_list_append mt_append mtl_append (sa_cons (se_name 2) sa_nil))))))) (ss_one (ss_ret (sp_callTy call_tuple_of callv_tuple (by rfl) (by exact mf_tuple) bt_tuple (se_name 1))))))
end
theorem sc_back_of_row : FnScope ["row", "sign"] ["row"] (defScope s_back_of_row) := ⟨rfl, rfl, rfl, by decide +kernel, rfl, by decide +kernel, by decide +kernel⟩
section
variable {K : PySem.W.Frag} {mg : Str → Option Value}
noncomputable def fd_back_of_row (B : Bd K mg) : FuncData := (B.c.def_ 18 (d := d_back_of_row) rfl).choose
theorem F_back_of_row (B : Bd K mg) : FunD K "back_of_row" "back_of_row" (defArgs s_back_of_row) (defBody s_back_of_row) (defScope s_back_of_row) [] [] (He.fAd K ("back_of_row", none)) (fd_back_of_row B) := (B.c.def_ 18 (d := d_back_of_row) rfl).choose_spec
theorem bd_back_of_row (B : Bd K mg) : Binds K (fd_back_of_row B) ["row"] [] := FunD.bindsN (F_back_of_row B) fun _ _ _ _ _ _ us hl => match us, hl with | [_], _ => rfl
theorem ok_back_of_row (B : Bd K mg) {P : Program} {w : World} {base : Heap} : GOk P w K mg base 2 (He.fAd K ("back_of_row", none)) (fd_back_of_row B) ["row"] m_back_of_row := by
  have G_undoing := ok_undoing B (P := P) (w := w) (base := base)
  have bd_undoing := bd_undoing B
  have kp_undoing := (F_undoing B).kp
  have mg_undoing := mg_undoing B
  have mf_tuple := mf_tuple B
  refine (fn3 (F_back_of_row B) sc_back_of_row [] t_back_of_row fun cdv A outer s H E H0 F0 σ0 hr hgd po => ?_).imp pl_back_of_row
  exact (ss_one (ss_ret (sp_callTy call_tuple_of callv_tuple (by rfl) (by exact mf_tuple) bt_tuple (se_lc [("sign", 1)] (by rfl) (by exact sc_back_of_row.nd) (si_seq (se_revT (se_name 0))) (by exact blkOk_by (N := ["row", "sign"]) (sc := defScope s_back_of_row) (by decide +kernel)) (show ∀ i ∈ ([1] : List Nat), i ∉ ([] : List Nat) by decide) (fun _ _ _ _ _ => (sgc_name (by exact sc_back_of_row.nd) (i := 1) rfl (by first | exact Or.inl rfl | exact Or.inr rfl) (show (1 : Nat) ∉ ([] : List Nat) by decide) (by decide))) (fun _ _ _ _ _ => spt_nil) (fun _ _ _ _ _ => (se_call (by exact GOk.up (k := 1) G_undoing (by decide)) (by exact hr) (by exact hgd) (by rfl) (by exact mg_undoing) (by exact kp_undoing) (by exact bd_undoing) (sb_cons (se_name 1) sb_nil)))))))
end
theorem sc_House_turn_back : FnScope ["self", "name", "one"] ["self", "name", "one"] (defScope s_House_turn_back) := ⟨rfl, rfl, rfl, by decide +kernel, rfl, by decide +kernel, by decide +kernel⟩
section
variable {K : PySem.W.Frag} {mg : Str → Option Value}
noncomputable def fd_House_turn_back (B : Bd K mg) : FuncData := (B.c.def_ 27 (d := d_House_turn_back) rfl).choose
theorem F_House_turn_back (B : Bd K mg) : FunD K "turn_back" "House.turn_back" (defArgs s_House_turn_back) (defBody s_House_turn_back) (defScope s_House_turn_back) [] [] (He.fAd K ("House", some "turn_back")) (fd_House_turn_back B) := (B.c.def_ 27 (d := d_House_turn_back) rfl).choose_spec
theorem bd_House_turn_back (B : Bd K mg) : Binds K (fd_House_turn_back B) ["self", "name", "one"] [] := FunD.bindsN (F_House_turn_back B) fun _ _ _ _ _ _ us hl => match us, hl with | [_, _, _], _ => rfl
theorem ok_House_turn_back (B : Bd K mg) {P : Program} {w : World} {base : Heap} : GOk P w K mg base 4 (He.fAd K ("House", some "turn_back")) (fd_House_turn_back B) ["self", "name", "one"] m_House_turn_back := by
  have G_House_need_new := ok_House_need_new B (P := P) (w := w) (base := base)
  have bd_House_need_new := bd_House_need_new B
  have G_House_set_row := ok_House_set_row B (P := P) (w := w) (base := base)
  have bd_House_set_row := bd_House_set_row B
  have G_plain_of := ok_plain_of B (P := P) (w := w) (base := base)
  have bd_plain_of := bd_plain_of B
  have kp_plain_of := (F_plain_of B).kp
  have mg_plain_of := mg_plain_of B
  have G_back_of_row := ok_back_of_row B (P := P) (w := w) (base := base)
  have bd_back_of_row := bd_back_of_row B
  have kp_back_of_row := (F_back_of_row B).kp
  have mg_back_of_row := mg_back_of_row B
  have G_House_need := ok_House_need B (P := P) (w := w) (base := base)
  have bd_House_need := bd_House_need B
  have hF := hF_ B
  refine (fn3 (F_House_turn_back B) sc_House_turn_back [0] t_House_turn_back fun cdv A outer s H E H0 F0 σ0 hr hgd po => ?_).imp pl_House_turn_back
  exact (ss_cons (ss_expr (se_meth 0 (by exact hF) (by exact mm_need_new B) (by exact GOk.up (k := 3) G_House_need_new (by decide)) (by exact hr) (by exact hgd) (by exact bd_House_need_new) (sb_cons (se_name 1) sb_nil))) (ss_one (ss_expr (se_meth 0 (by exact hF) (by exact mm_set_row B) (by exact GOk.up (k := 3) G_House_set_row (by decide)) (by exact hr) (by exact hgd) (by exact bd_House_set_row) (sb_cons (se_name 1) (sb_cons (se_call (by exact GOk.up (k := 3) G_plain_of (by decide)) (by exact hr) (by exact hgd) (by rfl) (by exact mg_plain_of) (by exact kp_plain_of) (by exact bd_plain_of) (sb_cons (se_call (by exact GOk.up (k := 3) G_back_of_row (by decide)) (by exact hr) (by exact hgd) (by rfl) (by exact mg_back_of_row) (by exact kp_back_of_row) (by exact bd_back_of_row) (sb_cons (se_meth 0 (by exact hF) (by exact mm_need B) (by exact GOk.up (k := 3) G_House_need (by decide)) (by exact hr) (by exact hgd) (by exact bd_House_need) (sb_cons (se_name 2) sb_nil)) sb_nil)) sb_nil)) sb_nil))))))
end
theorem sc_House_mark : FnScope ["self"] ["self"] (defScope s_House_mark) := ⟨rfl, rfl, rfl, by decide +kernel, rfl, by decide +kernel, by decide +kernel⟩
section
variable {K : PySem.W.Frag} {mg : Str → Option Value}
noncomputable def fd_House_mark (B : Bd K mg) : FuncData := (B.c.def_ 32 (d := d_House_mark) rfl).choose
theorem F_House_mark (B : Bd K mg) : FunD K "mark" "House.mark" (defArgs s_House_mark) (defBody s_House_mark) (defScope s_House_mark) [] [] (He.fAd K ("House", some "mark")) (fd_House_mark B) := (B.c.def_ 32 (d := d_House_mark) rfl).choose_spec
theorem bd_House_mark (B : Bd K mg) : Binds K (fd_House_mark B) ["self"] [] := FunD.bindsN (F_House_mark B) fun _ _ _ _ _ _ us hl => match us, hl with | [_], _ => rfl
theorem ok_House_mark (B : Bd K mg) {P : Program} {w : World} {base : Heap} : GOk P w K mg base 3 (He.fAd K ("House", some "mark")) (fd_House_mark B) ["self"] m_House_mark := by
  have mf_len := mf_len B
  have mg_MOST_MARKS := mg_MOST_MARKS B
  have mf_dict := mf_dict B
  have hF := hF_ B
  refine (fn3 (F_House_mark B) sc_House_mark [0] t_House_mark fun cdv A outer s H E H0 F0 σ0 hr hgd po => ?_).imp pl_House_mark
  have hu := hr.u64
  have hu1 := hr.u65
  exact (ss_cons (ss_if (sp_cmpT (op_eqV (by exact hu)) opv_eq (se_hlenH 0 (by exact hF) (by rfl) (by exact mf_len)) (se_glob (v := V.int 6) rfl mg_MOST_MARKS.choose_spec ⟨_, rfl⟩ (fun _ => .int _)) (by rfl)) (ss_one (ss_raise1 (by rfl) (by exact oc_Full B) (by exact xc_Full B) (by exact ok_Full___init__ B) (by exact hr.mono (by decide)) (by exact bd_Full___init__ B) pass0 (by rfl) (by exact mx_Full B) (se_glob (v := V.int 6) rfl mg_MOST_MARKS.choose_spec ⟨_, rfl⟩ (fun _ => .int _)))) ss_nil) (ss_cons (ss_hmark 0 (by exact hF) (by rfl) (by exact mf_dict)) (ss_one (ss_ret (sp_bin op_sub opv_sub (se_hlenH 0 (by exact hF) (by rfl) (by exact mf_len)) se_int)))))
end
theorem sc_law_told : FnScope ["house", "sort_of", "name", "one", "caught", "e", "some"] ["house", "sort_of", "name", "one"] (defScope s__law_told) := ⟨rfl, rfl, rfl, by decide +kernel, rfl, by decide +kernel, by decide +kernel⟩
section
variable {K : PySem.W.Frag} {mg : Str → Option Value}
noncomputable def fd_law_told (B : Bd K mg) : FuncData := (B.c.def_ 55 (d := d__law_told) rfl).choose
theorem F_law_told (B : Bd K mg) : FunD K "_law_told" "_law_told" (defArgs s__law_told) (defBody s__law_told) (defScope s__law_told) [] [] (He.fAd K ("_law_told", none)) (fd_law_told B) := (B.c.def_ 55 (d := d__law_told) rfl).choose_spec
theorem bd_law_told (B : Bd K mg) : Binds K (fd_law_told B) ["house", "sort_of", "name", "one"] [] := FunD.bindsN (F_law_told B) fun _ _ _ _ _ _ us hl => match us, hl with | [_, _, _, _], _ => rfl
theorem ok_law_told (B : Bd K mg) {P : Program} {w : World} {base : Heap} : GOk P w K mg base 10 (He.fAd K ("_law_told", none)) (fd_law_told B) ["house", "sort_of", "name", "one"] m_law_told := by
  have G_House_put := ok_House_put B (P := P) (w := w) (base := base)
  have bd_House_put := bd_House_put B
  have G_House_join := ok_House_join B (P := P) (w := w) (base := base)
  have bd_House_join := bd_House_join B
  have G_House_turn_back := ok_House_turn_back B (P := P) (w := w) (base := base)
  have bd_House_turn_back := bd_House_turn_back B
  have G_House_mark := ok_House_mark B (P := P) (w := w) (base := base)
  have bd_House_mark := bd_House_mark B
  have mf_isinstance := mf_isinstance B
  have mf_str := mf_str B
  have hF := hF_ B
  refine (fn3 (F_law_told B) sc_law_told [0] t_law_told fun cdv A outer s H E H0 F0 σ0 hr hgd po => ?_).imp pl_law_told
  have hu := hr.u64
  have hu1 := hr.u65
  exact (ss_cons (ss_set (i := 4) (by exact sc_law_told.nd) rfl (by first | exact Or.inl rfl | exact Or.inr rfl) (show (4 : Nat) ∉ ([0] : List Nat) by decide) se_non) (ss_cons (ss_try xcs rfl rfl rfl (by exact sc_law_told.nd) (i := 5) (j := 4) rfl rfl rfl rfl rfl (by decide) (show (5 : Nat) ∉ ([0] : List Nat) by decide) (show (4 : Nat) ∉ ([0] : List Nat) by decide) (by rfl) (by exact mx_TurnError B) (by exact B.xm) (by decide) (fun PF pn xe po => (ss_one (ss_if (sp_cmpT (op_eqV (by exact hu)) opv_eq (se_name 1) se_int (by rfl)) (ss_one (ss_expr (se_meth 0 (by exact hF) (by exact mm_put B) (by exact GOk.up (k := 9) G_House_put (by decide)) (by exact hr) (by exact hgd) (by exact bd_House_put) (sb_cons (se_name 2) (sb_cons (se_name 3) sb_nil))))) (ss_one (ss_if (sp_cmpT (op_eqV (by exact hu)) opv_eq (se_name 1) se_int (by rfl)) (ss_one (ss_expr (se_meth 0 (by exact hF) (by exact mm_join B) (by exact GOk.up (k := 9) G_House_join (by decide)) (by exact hr) (by exact hgd) (by exact bd_House_join) (sb_cons (se_name 2) (sb_cons (se_name 3) (sb_cons (se_name 3) sb_nil)))))) (ss_one (ss_if (sp_cmpT (op_eqV (by exact hu)) opv_eq (se_name 1) se_int (by rfl)) (ss_one (ss_expr (se_meth 0 (by exact hF) (by exact mm_turn_back B) (by exact GOk.up (k := 9) G_House_turn_back (by decide)) (by exact hr) (by exact hgd) (by exact bd_House_turn_back) (sb_cons (se_name 2) (sb_cons (se_name 3) sb_nil))))) (ss_one (ss_expr (se_meth0 0 (by exact hF) (by exact mm_mark B) (by exact GOk.up (k := 9) G_House_mark (by decide)) (by exact hr) (by exact hgd) (by exact bd_House_mark)))))))))))) (ss_cons (ss_if (sp_cmpT op_isN1 opv_isN (se_name 4) se_non (by rfl)) (ss_one (ss_ret se_str)) ss_nil) (ss_cons (ss_set (i := 6) (by exact sc_law_told.nd) rfl (by first | exact Or.inl rfl | exact Or.inr rfl) (show (6 : Nat) ∉ ([0] : List Nat) by decide) (se_lst (sa_cons (se_isC xcs (by exact B.xt) (by decide) (by rfl) (by exact mf_isinstance) (by rfl) (by exact mx_Full B) (se_name 4)) (sa_cons (se_isC xcs (by exact B.xt) (by decide) (by rfl) (by exact mf_isinstance) (by rfl) (by exact mx_NoName B) (se_name 4)) (sa_cons (se_isC xcs (by exact B.xt) (by decide) (by rfl) (by exact mf_isinstance) (by rfl) (by exact mx_Standing B) (se_name 4)) sa_nil))))) (ss_cons (ss_set (i := 6) (by exact sc_law_told.nd) rfl (by first | exact Or.inl rfl | exact Or.inr rfl) (show (6 : Nat) ∉ ([0] : List Nat) by decide) (sp_bin op_addV opv_add (se_name 6) (se_lst (sa_cons (se_isC xcs (by exact B.xt) (by decide) (by rfl) (by exact mf_isinstance) (by rfl) (by exact mx_NoRow B) (se_name 4)) (sa_cons (se_isC xcs (by exact B.xt) (by decide) (by rfl) (by exact mf_isinstance) (by rfl) (by exact mx_TooLong B) (se_name 4)) sa_nil))))) (ss_cons (ss_expr (se_mt 6 PySem.F.slot_list_append PySem.F.type_list_append mt_append mtl_append (sa_cons (se_isCs xcs ["TooMany", "NoNumber", "NoFit", "NoMirror", "NoPaper", "NoMachine"] (by exact B.xt) (by decide) (by decide) (by rfl) (by exact mf_isinstance) (se_name 4) (pa_cons (pe_glob (v := V.ref _) (by rfl) (by exact mx_TooMany B) rfl) (pa_cons (pe_glob (v := V.ref _) (by rfl) (by exact mx_NoNumber B) rfl) (pa_cons (pe_glob (v := V.ref _) (by rfl) (by exact mx_NoFit B) rfl) (pa_cons (pe_glob (v := V.ref _) (by rfl) (by exact mx_NoMirror B) rfl) (pa_cons (pe_glob (v := V.ref _) (by rfl) (by exact mx_NoPaper B) rfl) (pa_cons (pe_glob (v := V.ref _) (by rfl) (by exact mx_NoMachine B) rfl) pa_nil)))))) (fun _ _ _ h => h)) sa_nil))) (ss_cons (ss_if (SW.st (sw_or (sp_cmpT (op_neV (by exact hu)) opv_ne (se_bmL PySem.F.slot_list_count PySem.F.type_list_count (mt_lcountD (by exact hu1)) bmv_count (se_name 6) se_bl) se_int (by rfl)) (sw_or1 (st_val (sp_ix ix_seq opv_ix (se_name 6) (se_un un_neg und_neg se_int)))))) (ss_one (ss_ret se_str)) ss_nil) (ss_one (ss_ret (se_if (st_val (sp_ix ix_seq opv_ix (se_name 6) se_int)) (sp_bin op_addV opv_add se_str (sp_callTy call_str_int callv_str (by rfl) (by exact mf_str) bt_str (se_xfld xcs (by exact B.xt) (by exact xn_most B) (se_name 4)))) (sp_ix ix_seq opv_ix (se_lst (sa_cons se_str (sa_cons se_str (sa_cons se_str (sa_cons se_str (sa_cons se_str sa_nil)))))) (se_bmL PySem.F.slot_list_index PySem.F.type_list_index (mt_indexD (by exact hu1)) bmv_index (se_name 6) se_bl))))))))))))
end
theorem sc_law_long_right : FnScope ["pen", "house", "many", "far"] ["pen", "house", "many"] (defScope s__law_long_right) := ⟨rfl, rfl, rfl, by decide +kernel, rfl, by decide +kernel, by decide +kernel⟩
section
variable {K : PySem.W.Frag} {mg : Str → Option Value}
noncomputable def fd_law_long_right (B : Bd K mg) : FuncData := (B.c.def_ 57 (d := d__law_long_right) rfl).choose
theorem F_law_long_right (B : Bd K mg) : FunD K "_law_long_right" "_law_long_right" (defArgs s__law_long_right) (defBody s__law_long_right) (defScope s__law_long_right) [] [] (He.fAd K ("_law_long_right", none)) (fd_law_long_right B) := (B.c.def_ 57 (d := d__law_long_right) rfl).choose_spec
theorem bd_law_long_right (B : Bd K mg) : Binds K (fd_law_long_right B) ["pen", "house", "many"] [] := FunD.bindsN (F_law_long_right B) fun _ _ _ _ _ _ us hl => match us, hl with | [_, _, _], _ => rfl
theorem ok_law_long_right (B : Bd K mg) {P : Program} {w : World} {base : Heap} : GOk P w K mg base 11 (He.fAd K ("_law_long_right", none)) (fd_law_long_right B) ["pen", "house", "many"] m_law_long_right := by
  have G_law_take := ok_law_take B (P := P) (w := w) (base := base)
  have bd_law_take := bd_law_take B
  have kp_law_take := (F_law_take B).kp
  have mg_law_take := mg_law_take B
  have G_House_put := ok_House_put B (P := P) (w := w) (base := base)
  have bd_House_put := bd_House_put B
  have G_law_told := ok_law_told B (P := P) (w := w) (base := base)
  have bd_law_told := bd_law_told B
  have kp_law_told := (F_law_told B).kp
  have mg_law_told := mg_law_told B
  have hF := hF_ B
  refine (fn3 (F_law_long_right B) sc_law_long_right [0, 1] t_law_long_right fun cdv A outer s H E H0 F0 σ0 hr hgd po => ?_).imp pl_law_long_right
  have hu := hr.u64
  have hu1 := hr.u65
  exact (ss_cons (ss_set (i := 3) (by exact sc_law_long_right.nd) rfl (by first | exact Or.inl rfl | exact Or.inr rfl) (show (3 : Nat) ∉ ([0, 1] : List Nat) by decide) (sp_bin op_addV opv_add se_int (se_call (by exact GOk.up (k := 10) G_law_take (by decide)) (by exact hr) (by exact hgd) (by rfl) (by exact mg_law_take) (by exact kp_law_take) (by exact bd_law_take) (sb_cons (se_name 0) (sb_cons se_int sb_nil))))) (ss_cons (ss_expr (se_meth 1 (by exact hF) (by exact mm_put B) (by exact GOk.up (k := 10) G_House_put (by decide)) (by exact hr) (by exact hgd) (by exact bd_House_put) (sb_cons se_str (sb_cons (sp_bin op_mulV opv_mulV (se_tup (sa_cons (se_call (by exact GOk.up (k := 10) G_law_take (by decide)) (by exact hr) (by exact hgd) (by rfl) (by exact mg_law_take) (by exact kp_law_take) (by exact bd_law_take) (sb_cons (se_name 0) (sb_cons (se_name 2) sb_nil))) sa_nil)) (se_name 3)) sb_nil)))) (ss_one (ss_ret (sp_cmp (op_eqV (by exact hu)) opv_eq (se_call (by exact GOk.up (k := 10) G_law_told (by decide)) (by exact hr) (by exact hgd) (by rfl) (by exact mg_law_told) (by exact kp_law_told) (by exact bd_law_told) (sb_cons (se_name 1) (sb_cons se_int (sb_cons se_str (sb_cons se_str sb_nil))))) (se_if (sp_cmpT op_lt opv_lt (se_name 3) se_int (by rfl)) se_str se_str) (by rfl))))))
end
theorem sc_House_names : FnScope ["self"] ["self"] (defScope s_House_names) := ⟨rfl, rfl, rfl, by decide +kernel, rfl, by decide +kernel, by decide +kernel⟩
section
variable {K : PySem.W.Frag} {mg : Str → Option Value}
noncomputable def fd_House_names (B : Bd K mg) : FuncData := (B.c.def_ 35 (d := d_House_names) rfl).choose
theorem F_House_names (B : Bd K mg) : FunD K "names" "House.names" (defArgs s_House_names) (defBody s_House_names) (defScope s_House_names) [] [] (He.fAd K ("House", some "names")) (fd_House_names B) := (B.c.def_ 35 (d := d_House_names) rfl).choose_spec
theorem bd_House_names (B : Bd K mg) : Binds K (fd_House_names B) ["self"] [] := FunD.bindsN (F_House_names B) fun _ _ _ _ _ _ us hl => match us, hl with | [_], _ => rfl
theorem ok_House_names (B : Bd K mg) {P : Program} {w : World} {base : Heap} : GOk P w K mg base 1 (He.fAd K ("House", some "names")) (fd_House_names B) ["self"] m_House_names := by
  have mf_sorted := mf_sorted B
  have hF := hF_ B
  refine (fn3 (F_House_names B) sc_House_names [0] t_House_names fun cdv A outer s H E H0 F0 σ0 hr hgd po => ?_).imp pl_House_names
  exact (ss_one (ss_ret (se_hsort 0 (by exact hF) (by rfl) (by rfl) (by exact mf_sorted))))
end
theorem sc_law_names_right : FnScope ["house", "full", "some", "k"] ["house"] (defScope s__law_names_right) := ⟨rfl, rfl, rfl, by decide +kernel, rfl, by decide +kernel, by decide +kernel⟩
section
variable {K : PySem.W.Frag} {mg : Str → Option Value}
noncomputable def fd_law_names_right (B : Bd K mg) : FuncData := (B.c.def_ 60 (d := d__law_names_right) rfl).choose
theorem F_law_names_right (B : Bd K mg) : FunD K "_law_names_right" "_law_names_right" (defArgs s__law_names_right) (defBody s__law_names_right) (defScope s__law_names_right) [] [] (He.fAd K ("_law_names_right", none)) (fd_law_names_right B) := (B.c.def_ 60 (d := d__law_names_right) rfl).choose_spec
theorem bd_law_names_right (B : Bd K mg) : Binds K (fd_law_names_right B) ["house"] [] := FunD.bindsN (F_law_names_right B) fun _ _ _ _ _ _ us hl => match us, hl with | [_], _ => rfl
theorem ok_law_names_right (B : Bd K mg) {P : Program} {w : World} {base : Heap} : GOk P w K mg base 11 (He.fAd K ("_law_names_right", none)) (fd_law_names_right B) ["house"] m_law_names_right := by
  have G_law_told := ok_law_told B (P := P) (w := w) (base := base)
  have bd_law_told := bd_law_told B
  have kp_law_told := (F_law_told B).kp
  have mg_law_told := mg_law_told B
  refine (fn3 (F_law_names_right B) sc_law_names_right [0] t_law_names_right fun cdv A outer s H E H0 F0 σ0 hr hgd po => ?_).imp pl_law_names_right
  have hu := hr.u64
  have hu1 := hr.u65
  exact (ss_cons (ss_set (i := 1) (by exact sc_law_names_right.nd) rfl (by first | exact Or.inl rfl | exact Or.inr rfl) (show (1 : Nat) ∉ ([0] : List Nat) by decide) (se_lst (sa_cons (se_call (by exact GOk.up (k := 10) G_law_told (by decide)) (by exact hr) (by exact hgd) (by rfl) (by exact mg_law_told) (by exact kp_law_told) (by exact bd_law_told) (sb_cons (se_name 0) (sb_cons se_int (sb_cons se_str (sb_cons (se_tup sa_nil) sb_nil))))) (sa_cons (se_call (by exact GOk.up (k := 10) G_law_told (by decide)) (by exact hr) (by exact hgd) (by rfl) (by exact mg_law_told) (by exact kp_law_told) (by exact bd_law_told) (sb_cons (se_name 0) (sb_cons se_int (sb_cons se_str (sb_cons se_str sb_nil))))) (sa_cons (se_call (by exact GOk.up (k := 10) G_law_told (by decide)) (by exact hr) (by exact hgd) (by rfl) (by exact mg_law_told) (by exact kp_law_told) (by exact bd_law_told) (sb_cons (se_name 0) (sb_cons se_int (sb_cons se_str (sb_cons se_str sb_nil))))) sa_nil))))) (ss_cons (ss_if (SW.st (sw_or (sp_cmpT (op_neV (by exact hu)) opv_ne (se_name 1) (se_x (sx_rep (sps_cons sp_str sps_nil) sp_int)) (by rfl)) (sw_or1 (sp_cmpT (op_neV (by exact hu)) opv_ne (se_call (by exact GOk.up (k := 10) G_law_told (by decide)) (by exact hr) (by exact hgd) (by rfl) (by exact mg_law_told) (by exact kp_law_told) (by exact bd_law_told) (sb_cons (se_name 0) (sb_cons se_int (sb_cons se_str (sb_cons se_non sb_nil))))) se_str (by rfl))))) (ss_one (ss_ret se_bl)) ss_nil) (ss_cons (ss_set (i := 2) (by exact sc_law_names_right.nd) rfl (by first | exact Or.inl rfl | exact Or.inr rfl) (show (2 : Nat) ∉ ([0] : List Nat) by decide) (se_lst (sa_cons (se_call (by exact GOk.up (k := 10) G_law_told (by decide)) (by exact hr) (by exact hgd) (by rfl) (by exact mg_law_told) (by exact kp_law_told) (by exact bd_law_told) (sb_cons (se_name 0) (sb_cons se_int (sb_cons se_str (sb_cons se_int sb_nil))))) (sa_cons (se_call (by exact GOk.up (k := 10) G_law_told (by decide)) (by exact hr) (by exact hgd) (by rfl) (by exact mg_law_told) (by exact kp_law_told) (by exact bd_law_told) (sb_cons (se_name 0) (sb_cons se_int (sb_cons se_str (sb_cons (sp_bin op_mulV opv_mulV (se_tup (sa_cons se_int sa_nil)) se_int) sb_nil))))) sa_nil)))) (ss_cons (ss_if (SW.st (sw_or (sp_cmpT (op_neV (by exact hu)) opv_ne (se_name 2) (se_lst (sa_cons se_str (sa_cons se_str sa_nil))) (by rfl)) (sw_or1 (sp_cmpT (op_neV (by exact hu)) opv_ne (se_call (by exact GOk.up (k := 10) G_law_told (by decide)) (by exact hr) (by exact hgd) (by rfl) (by exact mg_law_told) (by exact kp_law_told) (by exact bd_law_told) (sb_cons (se_name 0) (sb_cons se_int (sb_cons se_str (sb_cons se_str sb_nil))))) se_str (by rfl))))) (ss_one (ss_ret se_bl)) ss_nil) (ss_one (ss_ret (sp_cmp (op_eqV (by exact hu)) opv_eq (sp_bin op_addV opv_add (se_lc [("k", 3)] (by rfl) (by exact sc_law_names_right.nd) (si_seq (se_lst (sa_cons se_int (sa_cons se_int sa_nil)))) (by exact blkOk_by (N := ["house", "full", "some", "k"]) (sc := defScope s__law_names_right) (by decide +kernel)) (show ∀ i ∈ ([3] : List Nat), i ∉ ([0] : List Nat) by decide) (fun _ _ _ _ _ => (sgc_name (by exact sc_law_names_right.nd) (i := 3) rfl (by first | exact Or.inl rfl | exact Or.inr rfl) (show (3 : Nat) ∉ ([0] : List Nat) by decide) (by decide))) (fun _ _ _ _ _ => spt_nil) (fun _ _ _ _ _ => (se_call (by exact GOk.up (k := 10) G_law_told (by decide)) (by exact hr) (by exact hgd) (by rfl) (by exact mg_law_told) (by exact kp_law_told) (by exact bd_law_told) (sb_cons (se_name 0) (sb_cons (se_name 3) (sb_cons se_str (sb_cons se_str sb_nil))))))) (se_lst (sa_cons (se_call (by exact GOk.up (k := 10) G_law_told (by decide)) (by exact hr) (by exact hgd) (by rfl) (by exact mg_law_told) (by exact kp_law_told) (by exact bd_law_told) (sb_cons (se_name 0) (sb_cons se_int (sb_cons se_str (sb_cons se_str sb_nil))))) sa_nil))) (se_x (sx_rep (sps_cons sp_str sps_nil) sp_int)) (by rfl))))))))
end
theorem sc_House_take_out : FnScope ["self", "name", "rows"] ["self", "name"] (defScope s_House_take_out) := ⟨rfl, rfl, rfl, by decide +kernel, rfl, by decide +kernel, by decide +kernel⟩
section
variable {K : PySem.W.Frag} {mg : Str → Option Value}
noncomputable def fd_House_take_out (B : Bd K mg) : FuncData := (B.c.def_ 28 (d := d_House_take_out) rfl).choose
theorem F_House_take_out (B : Bd K mg) : FunD K "take_out" "House.take_out" (defArgs s_House_take_out) (defBody s_House_take_out) (defScope s_House_take_out) [] [] (He.fAd K ("House", some "take_out")) (fd_House_take_out B) := (B.c.def_ 28 (d := d_House_take_out) rfl).choose_spec
theorem bd_House_take_out (B : Bd K mg) : Binds K (fd_House_take_out B) ["self", "name"] [] := FunD.bindsN (F_House_take_out B) fun _ _ _ _ _ _ us hl => match us, hl with | [_, _], _ => rfl
theorem ok_House_take_out (B : Bd K mg) {P : Program} {w : World} {base : Heap} : GOk P w K mg base 4 (He.fAd K ("House", some "take_out")) (fd_House_take_out B) ["self", "name"] m_House_take_out := by
  have G_House_need := ok_House_need B (P := P) (w := w) (base := base)
  have bd_House_need := bd_House_need B
  have mf_dict := mf_dict B
  have hF := hF_ B
  refine (fn3 (F_House_take_out B) sc_House_take_out [0] t_House_take_out fun cdv A outer s H E H0 F0 σ0 hr hgd po => ?_).imp pl_House_take_out
  exact (ss_cons (ss_expr (se_meth 0 (by exact hF) (by exact mm_need B) (by exact GOk.up (k := 3) G_House_need (by decide)) (by exact hr) (by exact hgd) (by exact bd_House_need) (sb_cons (se_name 1) sb_nil))) (ss_cons (ss_set (i := 2) (by exact sc_House_take_out.nd) rfl (by first | exact Or.inl rfl | exact Or.inr rfl) (show (2 : Nat) ∉ ([0] : List Nat) by decide) (se_hdict 0 (by exact hF) (by rfl) (by exact mf_dict))) (ss_cons (ss_expr (se_kpop 2 1)) (ss_one (ss_hrows 0 (by exact hF) (se_name 2))))))
end
theorem sc_House_back : FnScope ["self", "number", "rows"] ["self", "number"] (defScope s_House_back) := ⟨rfl, rfl, rfl, by decide +kernel, rfl, by decide +kernel, by decide +kernel⟩
section
variable {K : PySem.W.Frag} {mg : Str → Option Value}
noncomputable def fd_House_back (B : Bd K mg) : FuncData := (B.c.def_ 33 (d := d_House_back) rfl).choose
theorem F_House_back (B : Bd K mg) : FunD K "back" "House.back" (defArgs s_House_back) (defBody s_House_back) (defScope s_House_back) [] [] (He.fAd K ("House", some "back")) (fd_House_back B) := (B.c.def_ 33 (d := d_House_back) rfl).choose_spec
theorem bd_House_back (B : Bd K mg) : Binds K (fd_House_back B) ["self", "number"] [] := FunD.bindsN (F_House_back B) fun _ _ _ _ _ _ us hl => match us, hl with | [_, _], _ => rfl
theorem ok_House_back (B : Bd K mg) {P : Program} {w : World} {base : Heap} : GOk P w K mg base 3 (He.fAd K ("House", some "back")) (fd_House_back B) ["self", "number"] m_House_back := by
  have G_is_whole := ok_is_whole B (P := P) (w := w) (base := base)
  have bd_is_whole := bd_is_whole B
  have kp_is_whole := (F_is_whole B).kp
  have mg_is_whole := mg_is_whole B
  have mf_len := mf_len B
  have mf_dict := mf_dict B
  have hF := hF_ B
  refine (fn3 (F_House_back B) sc_House_back [0] t_House_back fun cdv A outer s H E H0 F0 σ0 hr hgd po => ?_).imp pl_House_back
  exact (ss_cons (ss_if (SW.st (sw_or (st_not (st_val (se_call (by exact GOk.up (k := 2) G_is_whole (by decide)) (by exact hr) (by exact hgd) (by rfl) (by exact mg_is_whole) (by exact kp_is_whole) (by exact bd_is_whole) (sb_cons (se_name 1) sb_nil)))) (sw_or1 (st_not (st_chain op_le op_lt opv_le.d opv_lt.d se_int (se_name 1) (se_hlenH 0 (by exact hF) (by rfl) (by exact mf_len))))))) (ss_one (ss_raise1 (by rfl) (by exact oc_NoMark B) (by exact xc_NoMark B) (by exact ok_NoMark___init__ B) (by exact hr.mono (by decide)) (by exact bd_NoMark___init__ B) pass0 (by rfl) (by exact mx_NoMark B) (se_name 1))) ss_nil) (ss_cons (ss_hcut 0 1 (by exact hF)) (ss_cons (ss_asg (se_hheld 0 1 (by exact hF)) (sg_tup (by rfl) (sgs_cons (sg_hkept 0 (by exact hF)) (sgs_cons (sg_name (by exact sc_House_back.nd) (i := 2) rfl (by first | exact Or.inl rfl | exact Or.inr rfl) (show (2 : Nat) ∉ ([0] : List Nat) by decide)) sgs_nil)))) (ss_one (ss_hrows 0 (by exact hF) (se_ddict 2 (by rfl) (by exact mf_dict)))))))
end
theorem sc_House_marks : FnScope ["self"] ["self"] (defScope s_House_marks) := ⟨rfl, rfl, rfl, by decide +kernel, rfl, by decide +kernel, by decide +kernel⟩
section
variable {K : PySem.W.Frag} {mg : Str → Option Value}
noncomputable def fd_House_marks (B : Bd K mg) : FuncData := (B.c.def_ 36 (d := d_House_marks) rfl).choose
theorem F_House_marks (B : Bd K mg) : FunD K "marks" "House.marks" (defArgs s_House_marks) (defBody s_House_marks) (defScope s_House_marks) [] [] (He.fAd K ("House", some "marks")) (fd_House_marks B) := (B.c.def_ 36 (d := d_House_marks) rfl).choose_spec
theorem bd_House_marks (B : Bd K mg) : Binds K (fd_House_marks B) ["self"] [] := FunD.bindsN (F_House_marks B) fun _ _ _ _ _ _ us hl => match us, hl with | [_], _ => rfl
theorem ok_House_marks (B : Bd K mg) {P : Program} {w : World} {base : Heap} : GOk P w K mg base 1 (He.fAd K ("House", some "marks")) (fd_House_marks B) ["self"] m_House_marks := by
  have mf_len := mf_len B
  have mf_list := mf_list B
  have mf_range := mf_range B
  have hF := hF_ B
  refine (fn3 (F_House_marks B) sc_House_marks [0] t_House_marks fun cdv A outer s H E H0 F0 σ0 hr hgd po => ?_).imp pl_House_marks
  exact (ss_one (ss_ret (se_lrng (by rfl) (by rfl) (by exact mf_list) (by rfl) (by exact mf_range) (se_hlenH 0 (by exact hF) (by rfl) (by exact mf_len)))))
end
theorem sc_law_room_right : FnScope ["pen", "machine", "house", "turn", "letters", "told", "letter"] ["pen", "machine"] (defScope s__law_room_right) := ⟨rfl, rfl, rfl, by decide +kernel, rfl, by decide +kernel, by decide +kernel⟩
section
variable {K : PySem.W.Frag} {mg : Str → Option Value}
noncomputable def fd_law_room_right (B : Bd K mg) : FuncData := (B.c.def_ 58 (d := d__law_room_right) rfl).choose
theorem F_law_room_right (B : Bd K mg) : FunD K "_law_room_right" "_law_room_right" (defArgs s__law_room_right) (defBody s__law_room_right) (defScope s__law_room_right) [] [] (He.fAd K ("_law_room_right", none)) (fd_law_room_right B) := (B.c.def_ 58 (d := d__law_room_right) rfl).choose_spec
theorem bd_law_room_right (B : Bd K mg) : Binds K (fd_law_room_right B) ["pen", "machine"] [] := FunD.bindsN (F_law_room_right B) fun _ _ _ _ _ _ us hl => match us, hl with | [_, _], _ => rfl
theorem ok_law_room_right (B : Bd K mg) {P : Program} {w : World} {base : Heap} : GOk P w K mg base 11 (He.fAd K ("_law_room_right", none)) (fd_law_room_right B) ["pen", "machine"] m_law_room_right := by
  have G_House___init__ := ok_House___init__ B (P := P) (w := w) (base := base)
  have bd_House___init__ := bd_House___init__ B
  have G_House_mark := ok_House_mark B (P := P) (w := w) (base := base)
  have bd_House_mark := bd_House_mark B
  have G_law_told := ok_law_told B (P := P) (w := w) (base := base)
  have bd_law_told := bd_law_told B
  have kp_law_told := (F_law_told B).kp
  have mg_law_told := mg_law_told B
  have G_law_take := ok_law_take B (P := P) (w := w) (base := base)
  have bd_law_take := bd_law_take B
  have kp_law_take := (F_law_take B).kp
  have mg_law_take := mg_law_take B
  have G_House_take_out := ok_House_take_out B (P := P) (w := w) (base := base)
  have bd_House_take_out := bd_House_take_out B
  have G_House_back := ok_House_back B (P := P) (w := w) (base := base)
  have bd_House_back := bd_House_back B
  have G_House_names := ok_House_names B (P := P) (w := w) (base := base)
  have bd_House_names := bd_House_names B
  have G_House_marks := ok_House_marks B (P := P) (w := w) (base := base)
  have bd_House_marks := bd_House_marks B
  have mf_range := mf_range B
  have hF := hF_ B
  refine (fn3 (F_law_room_right B) sc_law_room_right [0] t_law_room_right fun cdv A outer s H E H0 F0 σ0 hr hgd po => ?_).imp pl_law_room_right
  have hu := hr.u64
  have hu1 := hr.u65
  exact (ss_cons (ss_set (i := 2) (by exact sc_law_room_right.nd) rfl (by first | exact Or.inl rfl | exact Or.inr rfl) (show (2 : Nat) ∉ ([0] : List Nat) by decide) (se_make (by exact mk_House B) (by exact GOk.up (k := 9) G_House___init__ (by decide)) (by exact hr.mono (by decide)) (by exact hgd) (by rfl) (by exact mo_House B) (by exact bd_House___init__) (sa_cons (se_name 1) sa_nil))) (ss_cons (ss_expr (se_meth0 2 (by exact hF) (by exact mm_mark B) (by exact GOk.up (k := 10) G_House_mark (by decide)) (by exact hr) (by exact hgd) (by exact bd_House_mark))) (ss_cons (ss_for (by exact po) (by rfl) (si_range1 (by rfl) (by exact mf_range) (sa_cons se_int sa_nil)) (sg_name (by exact sc_law_room_right.nd) (i := 3) rfl (by first | exact Or.inl rfl | exact Or.inr rfl) (show (3 : Nat) ∉ ([0] : List Nat) by decide)) (ss_cons (ss_set (i := 4) (by exact sc_law_room_right.nd) rfl (by first | exact Or.inl rfl | exact Or.inr rfl) (show (4 : Nat) ∉ ([0] : List Nat) by decide) se_str) (ss_cons (ss_lc (i := 5) [("letter", 6)] (by rfl) (by exact sc_law_room_right.nd) rfl rfl (sw_true rfl rfl rfl (by rfl)) (si_seq (se_name 4)) (by exact blkOk_by (N := ["pen", "machine", "house", "turn", "letters", "told", "letter"]) (sc := defScope s__law_room_right) (by decide +kernel)) (show ∀ i ∈ ([6] : List Nat), i ∉ ([0] : List Nat) by decide) (show (5 : Nat) ∉ ([0] : List Nat) by decide) (fun _ _ _ _ _ => (sgc_name (by exact sc_law_room_right.nd) (i := 6) rfl (by first | exact Or.inl rfl | exact Or.inr rfl) (show (6 : Nat) ∉ ([0] : List Nat) by decide) (by decide))) (fun _ _ _ _ _ => spt_nil) (fun _ _ _ _ _ => (se_call (by exact GOk.up (k := 10) G_law_told (by decide)) (by exact hr) (by exact hgd) (by rfl) (by exact mg_law_told) (by exact kp_law_told) (by exact bd_law_told) (sb_cons (se_name 2) (sb_cons se_int (sb_cons (se_name 6) (sb_cons (se_tup sa_nil) sb_nil))))))) (ss_cons (ss_if (sp_cmpT (op_neV (by exact hu)) opv_ne (se_name 5) (sp_bin op_addV opv_add (se_x (sx_rep (sps_cons sp_str sps_nil) sp_int)) (se_lst (sa_cons se_str sa_nil))) (by rfl)) (ss_one (ss_ret se_bl)) ss_nil) (ss_cons (ss_if (SW.st (sw_and (sp_cmpT (op_eqV (by exact hu)) opv_eq (se_name 3) se_int (by rfl)) (sw_and1 (sp_cmpT (op_eqV (by exact hu)) opv_eq (se_call (by exact GOk.up (k := 10) G_law_take (by decide)) (by exact hr) (by exact hgd) (by rfl) (by exact mg_law_take) (by exact kp_law_take) (by exact bd_law_take) (sb_cons (se_name 0) (sb_cons se_int sb_nil))) se_int (by rfl))))) (ss_one (ss_expr (se_meth 2 (by exact hF) (by exact mm_take_out B) (by exact GOk.up (k := 10) G_House_take_out (by decide)) (by exact hr) (by exact hgd) (by exact bd_House_take_out) (sb_cons se_str sb_nil)))) ss_nil) (ss_cons (ss_expr (se_meth 2 (by exact hF) (by exact mm_back B) (by exact GOk.up (k := 10) G_House_back (by decide)) (by exact hr) (by exact hgd) (by exact bd_House_back) (sb_cons se_int sb_nil))) (ss_one (ss_if (SW.st (sw_or (sp_cmpT (op_neV (by exact hu)) opv_ne (se_meth0 2 (by exact hF) (by exact mm_names B) (by exact GOk.up (k := 10) G_House_names (by decide)) (by exact hr) (by exact hgd) (by exact bd_House_names)) (se_lst sa_nil) (by rfl)) (sw_or1 (sp_cmpT (op_neV (by exact hu)) opv_ne (se_meth0 2 (by exact hF) (by exact mm_marks B) (by exact GOk.up (k := 10) G_House_marks (by decide)) (by exact hr) (by exact hgd) (by exact bd_House_marks)) (se_lst (sa_cons se_int sa_nil)) (by rfl))))) (ss_one (ss_ret se_bl)) ss_nil)))))))) (ss_one (ss_ret se_bl)))))
end
theorem sc_need_state : FnScope ["machine", "state"] ["machine", "state"] (defScope s_need_state) := ⟨rfl, rfl, rfl, by decide +kernel, rfl, by decide +kernel, by decide +kernel⟩
section
variable {K : PySem.W.Frag} {mg : Str → Option Value}
noncomputable def fd_need_state (B : Bd K mg) : FuncData := (B.c.def_ 13 (d := d_need_state) rfl).choose
theorem F_need_state (B : Bd K mg) : FunD K "need_state" "need_state" (defArgs s_need_state) (defBody s_need_state) (defScope s_need_state) [] [] (He.fAd K ("need_state", none)) (fd_need_state B) := (B.c.def_ 13 (d := d_need_state) rfl).choose_spec
theorem bd_need_state (B : Bd K mg) : Binds K (fd_need_state B) ["machine", "state"] [] := FunD.bindsN (F_need_state B) fun _ _ _ _ _ _ us hl => match us, hl with | [_, _], _ => rfl
theorem ok_need_state (B : Bd K mg) {P : Program} {w : World} {base : Heap} : GOk P w K mg base 2 (He.fAd K ("need_state", none)) (fd_need_state B) ["machine", "state"] m_need_state := by
  have G_is_whole := ok_is_whole B (P := P) (w := w) (base := base)
  have bd_is_whole := bd_is_whole B
  have kp_is_whole := (F_is_whole B).kp
  have mg_is_whole := mg_is_whole B
  have mf_len := mf_len B
  refine (fn3 (F_need_state B) sc_need_state [] t_need_state fun cdv A outer s H E H0 F0 σ0 hr hgd po => ?_).imp pl_need_state
  exact (ss_one (ss_if (SW.st (sw_or (st_not (st_val (se_call (by exact GOk.up (k := 1) G_is_whole (by decide)) (by exact hr) (by exact hgd) (by rfl) (by exact mg_is_whole) (by exact kp_is_whole) (by exact bd_is_whole) (sb_cons (se_name 1) sb_nil)))) (sw_or1 (st_not (st_chain op_le op_lt opv_le.d opv_lt.d se_int (se_name 1) (sp_callB call_len callv_len (by rfl) (by exact mf_len) bt_len (sp_ix ix_seq opv_ix (se_name 0) se_int))))))) (ss_one (ss_raise0 (by rfl) (by exact xi_NoState B) (by exact xc_NoState B) (by exact mx_NoState B) (by rfl))) ss_nil))
end
theorem sc_need_letter : FnScope ["letters", "thing"] ["letters", "thing"] (defScope s_need_letter) := ⟨rfl, rfl, rfl, by decide +kernel, rfl, by decide +kernel, by decide +kernel⟩
section
variable {K : PySem.W.Frag} {mg : Str → Option Value}
noncomputable def fd_need_letter (B : Bd K mg) : FuncData := (B.c.def_ 8 (d := d_need_letter) rfl).choose
theorem F_need_letter (B : Bd K mg) : FunD K "need_letter" "need_letter" (defArgs s_need_letter) (defBody s_need_letter) (defScope s_need_letter) [] [] (He.fAd K ("need_letter", none)) (fd_need_letter B) := (B.c.def_ 8 (d := d_need_letter) rfl).choose_spec
theorem bd_need_letter (B : Bd K mg) : Binds K (fd_need_letter B) ["letters", "thing"] [] := FunD.bindsN (F_need_letter B) fun _ _ _ _ _ _ us hl => match us, hl with | [_, _], _ => rfl
theorem ok_need_letter (B : Bd K mg) {P : Program} {w : World} {base : Heap} : GOk P w K mg base 3 (He.fAd K ("need_letter", none)) (fd_need_letter B) ["letters", "thing"] m_need_letter := by
  have G_is_letter := ok_is_letter B (P := P) (w := w) (base := base)
  have bd_is_letter := bd_is_letter B
  have kp_is_letter := (F_is_letter B).kp
  have mg_is_letter := mg_is_letter B
  refine (fn3 (F_need_letter B) sc_need_letter [] t_need_letter fun cdv A outer s H E H0 F0 σ0 hr hgd po => ?_).imp pl_need_letter
  exact (ss_one (ss_if (st_not (st_val (se_call (by exact GOk.up (k := 2) G_is_letter (by decide)) (by exact hr) (by exact hgd) (by rfl) (by exact mg_is_letter) (by exact kp_is_letter) (by exact bd_is_letter) (sb_cons (se_name 0) (sb_cons (se_name 1) sb_nil))))) (ss_one (ss_raise0 (by rfl) (by exact xi_NoLetter B) (by exact xc_NoLetter B) (by exact mx_NoLetter B) (by rfl))) ss_nil))
end
theorem sc_House_set_state : FnScope ["self", "state", "turns", "nexts", "letters", "states"] ["self", "state", "turns", "nexts"] (defScope s_House_set_state) := ⟨rfl, rfl, rfl, by decide +kernel, rfl, by decide +kernel, by decide +kernel⟩
section
variable {K : PySem.W.Frag} {mg : Str → Option Value}
noncomputable def fd_House_set_state (B : Bd K mg) : FuncData := (B.c.def_ 29 (d := d_House_set_state) rfl).choose
theorem F_House_set_state (B : Bd K mg) : FunD K "set_state" "House.set_state" (defArgs s_House_set_state) (defBody s_House_set_state) (defScope s_House_set_state) [] [] (He.fAd K ("House", some "set_state")) (fd_House_set_state B) := (B.c.def_ 29 (d := d_House_set_state) rfl).choose_spec
theorem bd_House_set_state (B : Bd K mg) : Binds K (fd_House_set_state B) ["self", "state", "turns", "nexts"] [] := FunD.bindsN (F_House_set_state B) fun _ _ _ _ _ _ us hl => match us, hl with | [_, _, _, _], _ => rfl
theorem ok_House_set_state (B : Bd K mg) {P : Program} {w : World} {base : Heap} : GOk P w K mg base 1 (He.fAd K ("House", some "set_state")) (fd_House_set_state B) ["self", "state", "turns", "nexts"] m_House_set_state := by
  have hF := hF_ B
  refine (fn3 (F_House_set_state B) sc_House_set_state [0] t_House_set_state fun cdv A outer s H E H0 F0 σ0 hr hgd po => ?_).imp pl_House_set_state
  exact (ss_cons (ss_asg (se_hkept 0 (by exact hF)) (sg_tup (by rfl) (sgs_cons (sg_name (by exact sc_House_set_state.nd) (i := 4) rfl (by first | exact Or.inl rfl | exact Or.inr rfl) (show (4 : Nat) ∉ ([0] : List Nat) by decide)) (sgs_cons (sg_name (by exact sc_House_set_state.nd) (i := 5) rfl (by first | exact Or.inl rfl | exact Or.inr rfl) (show (5 : Nat) ∉ ([0] : List Nat) by decide)) sgs_nil)))) (ss_one (ss_asg (se_tup (sa_cons (se_name 4) (sa_cons (sp_bin op_addV opv_add (sp_bin op_addV opv_add (se_slice sl_V sld (se_name 5) so_none (so_some (se_name 1))) (se_tup (sa_cons (se_tup (sa_cons (se_name 2) (sa_cons (se_name 3) sa_nil))) sa_nil))) (se_slice sl_V sld (se_name 5) (so_some (sp_bin op_addV opv_add (se_name 1) se_int)) so_none)) sa_nil))) (sg_hkept 0 (by exact hF)))))
end
theorem sc_House_lead : FnScope ["self", "state", "letter", "next_state", "turns", "nexts"] ["self", "state", "letter", "next_state"] (defScope s_House_lead) := ⟨rfl, rfl, rfl, by decide +kernel, rfl, by decide +kernel, by decide +kernel⟩
section
variable {K : PySem.W.Frag} {mg : Str → Option Value}
noncomputable def fd_House_lead (B : Bd K mg) : FuncData := (B.c.def_ 31 (d := d_House_lead) rfl).choose
theorem F_House_lead (B : Bd K mg) : FunD K "lead" "House.lead" (defArgs s_House_lead) (defBody s_House_lead) (defScope s_House_lead) [] [] (He.fAd K ("House", some "lead")) (fd_House_lead B) := (B.c.def_ 31 (d := d_House_lead) rfl).choose_spec
theorem bk_House_lead (B : Bd K mg) : BindsK K (fd_House_lead B) ["self", "state", "letter", "next_state"] "next_state" := by
  obtain ⟨oc, od, dV, kV, doc, pm, an, cdv, ct, osl, e, lk, hcd, hD, hK⟩ := (F_House_lead B).ex
  rw [e]
  rcases hD with ⟨_, rfl⟩ | ⟨z, _⟩
  · rcases hK with z | z
    · exact fun s us w _ hl => .of_eq (match us, hl with | [_, _, _], _ => rfl)
    · exact fun s us w _ hl => .of_eq (match us, hl with | [_, _, _], _ => rfl)
  · exact absurd rfl z
theorem ok_House_lead (B : Bd K mg) {P : Program} {w : World} {base : Heap} : GOk P w K mg base 4 (He.fAd K ("House", some "lead")) (fd_House_lead B) ["self", "state", "letter", "next_state"] m_House_lead := by
  have G_need_state := ok_need_state B (P := P) (w := w) (base := base)
  have bd_need_state := bd_need_state B
  have kp_need_state := (F_need_state B).kp
  have mg_need_state := mg_need_state B
  have G_need_letter := ok_need_letter B (P := P) (w := w) (base := base)
  have bd_need_letter := bd_need_letter B
  have kp_need_letter := (F_need_letter B).kp
  have mg_need_letter := mg_need_letter B
  have G_House_set_state := ok_House_set_state B (P := P) (w := w) (base := base)
  have bd_House_set_state := bd_House_set_state B
  have hF := hF_ B
  refine (fn3 (F_House_lead B) sc_House_lead [0] t_House_lead fun cdv A outer s H E H0 F0 σ0 hr hgd po => ?_).imp pl_House_lead
  exact (ss_cons (ss_expr (se_call (by exact GOk.up (k := 3) G_need_state (by decide)) (by exact hr) (by exact hgd) (by rfl) (by exact mg_need_state) (by exact kp_need_state) (by exact bd_need_state) (sb_cons (se_hkept 0 (by exact hF)) (sb_cons (se_name 1) sb_nil)))) (ss_cons (ss_expr (se_call (by exact GOk.up (k := 3) G_need_letter (by decide)) (by exact hr) (by exact hgd) (by rfl) (by exact mg_need_letter) (by exact kp_need_letter) (by exact bd_need_letter) (sb_cons (sp_ix ix_seq opv_ix (se_hkept 0 (by exact hF)) se_int) (sb_cons (se_name 2) sb_nil)))) (ss_cons (ss_expr (se_call (by exact GOk.up (k := 3) G_need_state (by decide)) (by exact hr) (by exact hgd) (by rfl) (by exact mg_need_state) (by exact kp_need_state) (by exact bd_need_state) (sb_cons (se_hkept 0 (by exact hF)) (sb_cons (se_name 3) sb_nil)))) (ss_cons (ss_asg (sp_ix ix_seq opv_ix (sp_ix ix_seq opv_ix (se_hkept 0 (by exact hF)) se_int) (se_name 1)) (sg_tup (by rfl) (sgs_cons (sg_name (by exact sc_House_lead.nd) (i := 4) rfl (by first | exact Or.inl rfl | exact Or.inr rfl) (show (4 : Nat) ∉ ([0] : List Nat) by decide)) (sgs_cons (sg_name (by exact sc_House_lead.nd) (i := 5) rfl (by first | exact Or.inl rfl | exact Or.inr rfl) (show (5 : Nat) ∉ ([0] : List Nat) by decide)) sgs_nil)))) (ss_one (ss_expr (se_meth 0 (by exact hF) (by exact mm_set_state B) (by exact GOk.up (k := 3) G_House_set_state (by decide)) (by exact hr) (by exact hgd) (by exact bd_House_set_state) (sb_cons (se_name 1) (sb_cons (se_name 4) (sb_cons (sp_bin op_addV opv_add (sp_bin op_addV opv_add (se_slice sl_V sld (se_name 5) so_none (so_some (se_name 2))) (se_tup (sa_cons (se_name 3) sa_nil))) (se_slice sl_V sld (se_name 5) (so_some (sp_bin op_addV opv_add (se_name 2) se_int)) so_none)) sb_nil))))))))))
end
theorem sc_House_exchange : FnScope ["self", "state", "one", "other", "row", "turns", "nexts"] ["self", "state", "one", "other"] (defScope s_House_exchange) := ⟨rfl, rfl, rfl, by decide +kernel, rfl, by decide +kernel, by decide +kernel⟩
section
variable {K : PySem.W.Frag} {mg : Str → Option Value}
noncomputable def fd_House_exchange (B : Bd K mg) : FuncData := (B.c.def_ 30 (d := d_House_exchange) rfl).choose
theorem F_House_exchange (B : Bd K mg) : FunD K "exchange" "House.exchange" (defArgs s_House_exchange) (defBody s_House_exchange) (defScope s_House_exchange) [] [] (He.fAd K ("House", some "exchange")) (fd_House_exchange B) := (B.c.def_ 30 (d := d_House_exchange) rfl).choose_spec
theorem bd_House_exchange (B : Bd K mg) : Binds K (fd_House_exchange B) ["self", "state", "one", "other"] [] := FunD.bindsN (F_House_exchange B) fun _ _ _ _ _ _ us hl => match us, hl with | [_, _, _, _], _ => rfl
theorem ok_House_exchange (B : Bd K mg) {P : Program} {w : World} {base : Heap} : GOk P w K mg base 4 (He.fAd K ("House", some "exchange")) (fd_House_exchange B) ["self", "state", "one", "other"] m_House_exchange := by
  have G_need_state := ok_need_state B (P := P) (w := w) (base := base)
  have bd_need_state := bd_need_state B
  have kp_need_state := (F_need_state B).kp
  have mg_need_state := mg_need_state B
  have G_need_letter := ok_need_letter B (P := P) (w := w) (base := base)
  have bd_need_letter := bd_need_letter B
  have kp_need_letter := (F_need_letter B).kp
  have mg_need_letter := mg_need_letter B
  have G_House_set_state := ok_House_set_state B (P := P) (w := w) (base := base)
  have bd_House_set_state := bd_House_set_state B
  have mf_list := mf_list B
  have mf_tuple := mf_tuple B
  have hF := hF_ B
  refine (fn3 (F_House_exchange B) sc_House_exchange [0] t_House_exchange fun cdv A outer s H E H0 F0 σ0 hr hgd po => ?_).imp pl_House_exchange
  exact (ss_cons (ss_expr (se_call (by exact GOk.up (k := 3) G_need_state (by decide)) (by exact hr) (by exact hgd) (by rfl) (by exact mg_need_state) (by exact kp_need_state) (by exact bd_need_state) (sb_cons (se_hkept 0 (by exact hF)) (sb_cons (se_name 1) sb_nil)))) (ss_cons (ss_expr (se_call (by exact GOk.up (k := 3) G_need_letter (by decide)) (by exact hr) (by exact hgd) (by rfl) (by exact mg_need_letter) (by exact kp_need_letter) (by exact bd_need_letter) (sb_cons (sp_ix ix_seq opv_ix (se_hkept 0 (by exact hF)) se_int) (sb_cons (se_name 2) sb_nil)))) (ss_cons (ss_expr (se_call (by exact GOk.up (k := 3) G_need_letter (by decide)) (by exact hr) (by exact hgd) (by rfl) (by exact mg_need_letter) (by exact kp_need_letter) (by exact bd_need_letter) (sb_cons (sp_ix ix_seq opv_ix (se_hkept 0 (by exact hF)) se_int) (sb_cons (se_name 3) sb_nil)))) (ss_cons (ss_asg (sp_ix ix_seq opv_ix (sp_ix ix_seq opv_ix (se_hkept 0 (by exact hF)) se_int) (se_name 1)) (sg_tup (by rfl) (sgs_cons (sg_name (by exact sc_House_exchange.nd) (i := 5) rfl (by first | exact Or.inl rfl | exact Or.inr rfl) (show (5 : Nat) ∉ ([0] : List Nat) by decide)) (sgs_cons (sg_name (by exact sc_House_exchange.nd) (i := 6) rfl (by first | exact Or.inl rfl | exact Or.inr rfl) (show (6 : Nat) ∉ ([0] : List Nat) by decide)) sgs_nil)))) (ss_cons (ss_set (i := 4) (by exact sc_House_exchange.nd) rfl (by first | exact Or.inl rfl | exact Or.inr rfl) (show (4 : Nat) ∉ ([0] : List Nat) by decide) (sp_callTy call_list_of callv_list (by rfl) (by exact mf_list) bt_list (se_name 5))) (ss_cons (ss_asg (se_tup (sa_cons (sp_ix ix_seq opv_ix (se_name 5) (se_name 3)) (sa_cons (sp_ix ix_seq opv_ix (se_name 5) (se_name 2)) sa_nil))) (sg_tup (by rfl) (sgs_cons (sg_subL 4 (se_name 2)) (sgs_cons (sg_subL 4 (se_name 3)) sgs_nil)))) (ss_one (ss_expr (se_meth 0 (by exact hF) (by exact mm_set_state B) (by exact GOk.up (k := 3) G_House_set_state (by decide)) (by exact hr) (by exact hgd) (by exact bd_House_set_state) (sb_cons (se_name 1) (sb_cons (sp_callTy call_tuple_of callv_tuple (by rfl) (by exact mf_tuple) bt_tuple (se_name 4)) (sb_cons (se_name 6) sb_nil))))))))))))
end
theorem sc_House_machine : FnScope ["self"] ["self"] (defScope s_House_machine) := ⟨rfl, rfl, rfl, by decide +kernel, rfl, by decide +kernel, by decide +kernel⟩
section
variable {K : PySem.W.Frag} {mg : Str → Option Value}
noncomputable def fd_House_machine (B : Bd K mg) : FuncData := (B.c.def_ 34 (d := d_House_machine) rfl).choose
theorem F_House_machine (B : Bd K mg) : FunD K "machine" "House.machine" (defArgs s_House_machine) (defBody s_House_machine) (defScope s_House_machine) [] [] (He.fAd K ("House", some "machine")) (fd_House_machine B) := (B.c.def_ 34 (d := d_House_machine) rfl).choose_spec
theorem bd_House_machine (B : Bd K mg) : Binds K (fd_House_machine B) ["self"] [] := FunD.bindsN (F_House_machine B) fun _ _ _ _ _ _ us hl => match us, hl with | [_], _ => rfl
theorem ok_House_machine (B : Bd K mg) {P : Program} {w : World} {base : Heap} : GOk P w K mg base 1 (He.fAd K ("House", some "machine")) (fd_House_machine B) ["self"] m_House_machine := by
  have hF := hF_ B
  refine (fn3 (F_House_machine B) sc_House_machine [0] t_House_machine fun cdv A outer s H E H0 F0 σ0 hr hgd po => ?_).imp pl_House_machine
  exact (ss_one (ss_ret (se_hkept 0 (by exact hF))))
end
theorem sc_law_marks_right : FnScope ["pen", "machine", "k", "spot", "house", "kept", "letters", "many"] ["pen", "machine"] (defScope s__law_marks_right) := ⟨rfl, rfl, rfl, by decide +kernel, rfl, by decide +kernel, by decide +kernel⟩
section
variable {K : PySem.W.Frag} {mg : Str → Option Value}
noncomputable def fd_law_marks_right (B : Bd K mg) : FuncData := (B.c.def_ 59 (d := d__law_marks_right) rfl).choose
theorem F_law_marks_right (B : Bd K mg) : FunD K "_law_marks_right" "_law_marks_right" (defArgs s__law_marks_right) (defBody s__law_marks_right) (defScope s__law_marks_right) [] [] (He.fAd K ("_law_marks_right", none)) (fd_law_marks_right B) := (B.c.def_ 59 (d := d__law_marks_right) rfl).choose_spec
theorem bd_law_marks_right (B : Bd K mg) : Binds K (fd_law_marks_right B) ["pen", "machine"] [] := FunD.bindsN (F_law_marks_right B) fun _ _ _ _ _ _ us hl => match us, hl with | [_, _], _ => rfl
theorem ok_law_marks_right (B : Bd K mg) {P : Program} {w : World} {base : Heap} : GOk P w K mg base 11 (He.fAd K ("_law_marks_right", none)) (fd_law_marks_right B) ["pen", "machine"] m_law_marks_right := by
  have G_House___init__ := ok_House___init__ B (P := P) (w := w) (base := base)
  have bd_House___init__ := bd_House___init__ B
  have G_House_put := ok_House_put B (P := P) (w := w) (base := base)
  have bd_House_put := bd_House_put B
  have G_House_lead := ok_House_lead B (P := P) (w := w) (base := base)
  have bk_House_lead := bk_House_lead B
  have G_law_take := ok_law_take B (P := P) (w := w) (base := base)
  have bd_law_take := bd_law_take B
  have kp_law_take := (F_law_take B).kp
  have mg_law_take := mg_law_take B
  have G_House_exchange := ok_House_exchange B (P := P) (w := w) (base := base)
  have bd_House_exchange := bd_House_exchange B
  have G_House_machine := ok_House_machine B (P := P) (w := w) (base := base)
  have bd_House_machine := bd_House_machine B
  have G_House_names := ok_House_names B (P := P) (w := w) (base := base)
  have bd_House_names := bd_House_names B
  have G_House_mark := ok_House_mark B (P := P) (w := w) (base := base)
  have bd_House_mark := bd_House_mark B
  have G_House_take_out := ok_House_take_out B (P := P) (w := w) (base := base)
  have bd_House_take_out := bd_House_take_out B
  have G_law_told := ok_law_told B (P := P) (w := w) (base := base)
  have bd_law_told := bd_law_told B
  have kp_law_told := (F_law_told B).kp
  have mg_law_told := mg_law_told B
  have G_House_marks := ok_House_marks B (P := P) (w := w) (base := base)
  have bd_House_marks := bd_House_marks B
  have G_House_back := ok_House_back B (P := P) (w := w) (base := base)
  have bd_House_back := bd_House_back B
  have mf_len := mf_len B
  have mf_range := mf_range B
  have mf_list := mf_list B
  have hF := hF_ B
  refine (fn3 (F_law_marks_right B) sc_law_marks_right [0] t_law_marks_right fun cdv A outer s H E H0 F0 σ0 hr hgd po => ?_).imp pl_law_marks_right
  have hu := hr.u64
  have hu1 := hr.u65
  exact (ss_cons (ss_par (by rfl) (by exact sc_law_marks_right.nd) (i := 4) (j := 5) rfl rfl (by decide) (show (4 : Nat) ∉ ([0] : List Nat) by decide) (show (5 : Nat) ∉ ([0] : List Nat) by decide) rfl rfl (se_make (by exact mk_House B) (by exact GOk.up (k := 9) G_House___init__ (by decide)) (by exact hr.mono (by decide)) (by exact hgd) (by rfl) (by exact mo_House B) (by exact bd_House___init__) (sa_cons (se_name 1) sa_nil)) (sx_lst sps_nil)) (ss_cons (ss_parF (by rfl) (by exact sc_law_marks_right.nd) (i := 6) (j := 7) rfl rfl (by decide) (show (6 : Nat) ∉ ([0] : List Nat) by decide) (show (7 : Nat) ∉ ([0] : List Nat) by decide) rfl rfl (sa_cons (sp_ix ix_seq opv_ix (se_name 1) se_int) (sa_cons (sp_callB call_len callv_len (by rfl) (by exact mf_len) bt_len (sp_ix ix_seq opv_ix (se_name 1) se_int)) sa_nil))) (ss_cons (ss_for (by exact po) (by rfl) (si_range1 (by rfl) (by exact mf_range) (sa_cons se_int sa_nil)) (sg_name (by exact sc_law_marks_right.nd) (i := 2) rfl (by first | exact Or.inl rfl | exact Or.inr rfl) (show (2 : Nat) ∉ ([0] : List Nat) by decide)) (ss_cons (ss_expr (se_meth 4 (by exact hF) (by exact mm_put B) (by exact GOk.up (k := 10) G_House_put (by decide)) (by exact hr) (by exact hgd) (by exact bd_House_put) (sb_cons (sp_ix ix_seq opv_ix se_str (se_name 2)) (sb_cons (se_tup sa_nil) sb_nil)))) (ss_cons (ss_expr (se_methK 4 (by exact hF) (by exact mm_lead B) (by exact GOk.up (k := 10) G_House_lead (by decide)) (by exact hr) (by exact hgd) (by exact bk_House_lead) (sb_cons (se_call (by exact GOk.up (k := 10) G_law_take (by decide)) (by exact hr) (by exact hgd) (by rfl) (by exact mg_law_take) (by exact kp_law_take) (by exact bd_law_take) (sb_cons (se_name 0) (sb_cons (se_name 7) sb_nil))) (sb_cons (se_call (by exact GOk.up (k := 10) G_law_take (by decide)) (by exact hr) (by exact hgd) (by rfl) (by exact mg_law_take) (by exact kp_law_take) (by exact bd_law_take) (sb_cons (se_name 0) (sb_cons (se_name 6) sb_nil))) sb_nil)) (se_call (by exact GOk.up (k := 10) G_law_take (by decide)) (by exact hr) (by exact hgd) (by rfl) (by exact mg_law_take) (by exact kp_law_take) (by exact bd_law_take) (sb_cons (se_name 0) (sb_cons (se_name 7) sb_nil))))) (ss_cons (ss_expr (se_meth 4 (by exact hF) (by exact mm_exchange B) (by exact GOk.up (k := 10) G_House_exchange (by decide)) (by exact hr) (by exact hgd) (by exact bd_House_exchange) (sb_cons (se_call (by exact GOk.up (k := 10) G_law_take (by decide)) (by exact hr) (by exact hgd) (by rfl) (by exact mg_law_take) (by exact kp_law_take) (by exact bd_law_take) (sb_cons (se_name 0) (sb_cons (se_name 7) sb_nil))) (sb_cons se_int (sb_cons (se_call (by exact GOk.up (k := 10) G_law_take (by decide)) (by exact hr) (by exact hgd) (by rfl) (by exact mg_law_take) (by exact kp_law_take) (by exact bd_law_take) (sb_cons (se_name 0) (sb_cons (se_name 6) sb_nil))) sb_nil))))) (ss_cons (ss_expr (se_mt 5 PySem.F.slot_list_append PySem.F.type_list_append mt_append mtl_append (sa_cons (se_lst (sa_cons (se_meth0 4 (by exact hF) (by exact mm_machine B) (by exact GOk.up (k := 10) G_House_machine (by decide)) (by exact hr) (by exact hgd) (by exact bd_House_machine)) (sa_cons (se_meth0 4 (by exact hF) (by exact mm_names B) (by exact GOk.up (k := 10) G_House_names (by decide)) (by exact hr) (by exact hgd) (by exact bd_House_names)) sa_nil))) sa_nil))) (ss_one (ss_if (sp_cmpT (op_neV (by exact hu)) opv_ne (se_meth0 4 (by exact hF) (by exact mm_mark B) (by exact GOk.up (k := 10) G_House_mark (by decide)) (by exact hr) (by exact hgd) (by exact bd_House_mark)) (se_name 2) (by rfl)) (ss_one (ss_ret se_bl)) ss_nil))))))) (ss_cons (ss_expr (se_meth 4 (by exact hF) (by exact mm_take_out B) (by exact GOk.up (k := 10) G_House_take_out (by decide)) (by exact hr) (by exact hgd) (by exact bd_House_take_out) (sb_cons se_str sb_nil))) (ss_cons (ss_if (sp_cmpT (op_neV (by exact hu)) opv_ne (se_call (by exact GOk.up (k := 10) G_law_told (by decide)) (by exact hr) (by exact hgd) (by rfl) (by exact mg_law_told) (by exact kp_law_told) (by exact bd_law_told) (sb_cons (se_name 4) (sb_cons se_int (sb_cons se_non (sb_cons se_non sb_nil))))) se_str (by rfl)) (ss_one (ss_ret se_bl)) ss_nil) (ss_cons (ss_for (by exact po) (by rfl) (si_seq (se_lst (sa_cons se_int (sa_cons (se_call (by exact GOk.up (k := 10) G_law_take (by decide)) (by exact hr) (by exact hgd) (by rfl) (by exact mg_law_take) (by exact kp_law_take) (by exact bd_law_take) (sb_cons (se_name 0) (sb_cons se_int sb_nil))) (sa_cons se_int sa_nil))))) (sg_name (by exact sc_law_marks_right.nd) (i := 3) rfl (by first | exact Or.inl rfl | exact Or.inr rfl) (show (3 : Nat) ∉ ([0] : List Nat) by decide)) (ss_one (ss_if (sp_cmpT op_lt opv_lt (se_name 3) (sp_callB call_len callv_len (by rfl) (by exact mf_len) bt_len (se_meth0 4 (by exact hF) (by exact mm_marks B) (by exact GOk.up (k := 10) G_House_marks (by decide)) (by exact hr) (by exact hgd) (by exact bd_House_marks))) (by rfl)) (ss_cons (ss_expr (se_meth 4 (by exact hF) (by exact mm_back B) (by exact GOk.up (k := 10) G_House_back (by decide)) (by exact hr) (by exact hgd) (by exact bd_House_back) (sb_cons (se_name 3) sb_nil))) (ss_one (ss_if (SW.st (sw_or (sp_cmpT (op_neV (by exact hu)) opv_ne (se_lst (sa_cons (se_meth0 4 (by exact hF) (by exact mm_machine B) (by exact GOk.up (k := 10) G_House_machine (by decide)) (by exact hr) (by exact hgd) (by exact bd_House_machine)) (sa_cons (se_meth0 4 (by exact hF) (by exact mm_names B) (by exact GOk.up (k := 10) G_House_names (by decide)) (by exact hr) (by exact hgd) (by exact bd_House_names)) sa_nil))) (sp_ix ix_seq opv_ix (se_name 5) (se_name 3)) (by rfl)) (sw_or1 (sp_cmpT (op_neV (by exact hu)) opv_ne (se_meth0 4 (by exact hF) (by exact mm_marks B) (by exact GOk.up (k := 10) G_House_marks (by decide)) (by exact hr) (by exact hgd) (by exact bd_House_marks)) (se_lrng (by rfl) (by rfl) (by exact mf_list) (by rfl) (by exact mf_range) (sp_bin op_addV opv_add (se_name 3) se_int)) (by rfl))))) (ss_one (ss_ret se_bl)) ss_nil))) ss_nil))) (ss_one (ss_ret se_bl))))))))
end
theorem sc_law : FnScope ["script", "pen", "machine", "some", "house", "letter", "letters", "states"] ["script"] (defScope s_law) := ⟨rfl, rfl, rfl, by decide +kernel, rfl, by decide +kernel, by decide +kernel⟩
section
variable {K : PySem.W.Frag} {mg : Str → Option Value}
noncomputable def fd_law (B : Bd K mg) : FuncData := (B.c.def_ 61 (d := d_law) rfl).choose
theorem F_law (B : Bd K mg) : FunD K "law" "law" (defArgs s_law) (defBody s_law) (defScope s_law) [] [] (He.fAd K ("law", none)) (fd_law B) := (B.c.def_ 61 (d := d_law) rfl).choose_spec
theorem bd_law (B : Bd K mg) : Binds K (fd_law B) ["script"] [] := FunD.bindsN (F_law B) fun _ _ _ _ _ _ us hl => match us, hl with | [_], _ => rfl
theorem ok_law (B : Bd K mg) {P : Program} {w : World} {base : Heap} : GOk P w K mg base 12 (He.fAd K ("law", none)) (fd_law B) ["script"] m_law := by
  have G_law_open := ok_law_open B (P := P) (w := w) (base := base)
  have bd_law_open := bd_law_open B
  have kp_law_open := (F_law_open B).kp
  have mg_law_open := mg_law_open B
  have G_law_machine := ok_law_machine B (P := P) (w := w) (base := base)
  have bd_law_machine := bd_law_machine B
  have kp_law_machine := (F_law_machine B).kp
  have mg_law_machine := mg_law_machine B
  have G_law_anew := ok_law_anew B (P := P) (w := w) (base := base)
  have bd_law_anew := bd_law_anew B
  have kp_law_anew := (F_law_anew B).kp
  have mg_law_anew := mg_law_anew B
  have G_law_no_machine := ok_law_no_machine B (P := P) (w := w) (base := base)
  have bd_law_no_machine := bd_law_no_machine B
  have kp_law_no_machine := (F_law_no_machine B).kp
  have mg_law_no_machine := mg_law_no_machine B
  have G_law_one := ok_law_one B (P := P) (w := w) (base := base)
  have bd_law_one := bd_law_one B
  have kp_law_one := (F_law_one B).kp
  have mg_law_one := mg_law_one B
  have G_House___init__ := ok_House___init__ B (P := P) (w := w) (base := base)
  have bd_House___init__ := bd_House___init__ B
  have G_law_long_right := ok_law_long_right B (P := P) (w := w) (base := base)
  have bd_law_long_right := bd_law_long_right B
  have kp_law_long_right := (F_law_long_right B).kp
  have mg_law_long_right := mg_law_long_right B
  have G_law_told := ok_law_told B (P := P) (w := w) (base := base)
  have bd_law_told := bd_law_told B
  have kp_law_told := (F_law_told B).kp
  have mg_law_told := mg_law_told B
  have G_House_names := ok_House_names B (P := P) (w := w) (base := base)
  have bd_House_names := bd_House_names B
  have G_law_names_right := ok_law_names_right B (P := P) (w := w) (base := base)
  have bd_law_names_right := bd_law_names_right B
  have kp_law_names_right := (F_law_names_right B).kp
  have mg_law_names_right := mg_law_names_right B
  have G_House_take_out := ok_House_take_out B (P := P) (w := w) (base := base)
  have bd_House_take_out := bd_House_take_out B
  have G_law_room_right := ok_law_room_right B (P := P) (w := w) (base := base)
  have bd_law_room_right := bd_law_room_right B
  have kp_law_room_right := (F_law_room_right B).kp
  have mg_law_room_right := mg_law_room_right B
  have G_law_marks_right := ok_law_marks_right B (P := P) (w := w) (base := base)
  have bd_law_marks_right := bd_law_marks_right B
  have kp_law_marks_right := (F_law_marks_right B).kp
  have mg_law_marks_right := mg_law_marks_right B
  have mf_list := mf_list B
  have mf_len := mf_len B
  have hF := hF_ B
  refine (fn3 (F_law B) sc_law [] t_law fun cdv A outer s H E H0 F0 σ0 hr hgd po => ?_).imp pl_law
  have hu := hr.u64
  have hu1 := hr.u65
  exact (ss_cons (ss_set (i := 1) (by exact sc_law.nd) rfl (by first | exact Or.inl rfl | exact Or.inr rfl) (show (1 : Nat) ∉ ([] : List Nat) by decide) (se_call (by exact GOk.up (k := 11) G_law_open (by decide)) (by exact hr) (by exact hgd) (by rfl) (by exact mg_law_open) (by exact kp_law_open) (by exact bd_law_open) (sb_cons (se_name 0) sb_nil))) (ss_cons (ss_set (i := 2) (by exact sc_law.nd) rfl (by first | exact Or.inl rfl | exact Or.inr rfl) (show (2 : Nat) ∉ ([] : List Nat) by decide) (se_call (by exact GOk.up (k := 11) G_law_machine (by decide)) (by exact hr) (by exact hgd) (by rfl) (by exact mg_law_machine) (by exact kp_law_machine) (by exact bd_law_machine) (sb_cons (se_call (by exact GOk.up (k := 11) G_law_anew (by decide)) (by exact hr) (by exact hgd) (by rfl) (by exact mg_law_anew) (by exact kp_law_anew) (by exact bd_law_anew) (sb_cons (se_name 1) sb_nil)) (sb_cons se_int sb_nil)))) (ss_cons (ss_asg (se_name 2) (sg_tup (by rfl) (sgs_cons (sg_name (by exact sc_law.nd) (i := 6) rfl (by first | exact Or.inl rfl | exact Or.inr rfl) (show (6 : Nat) ∉ ([] : List Nat) by decide)) (sgs_cons (sg_name (by exact sc_law.nd) (i := 7) rfl (by first | exact Or.inl rfl | exact Or.inr rfl) (show (7 : Nat) ∉ ([] : List Nat) by decide)) sgs_nil)))) (ss_cons (ss_set (i := 3) (by exact sc_law.nd) rfl (by first | exact Or.inl rfl | exact Or.inr rfl) (show (3 : Nat) ∉ ([] : List Nat) by decide) (se_lst (sa_cons se_non (sa_cons (sp_callTy call_list_of callv_list (by rfl) (by exact mf_list) bt_list (se_name 2)) (sa_cons (se_tup (sa_cons (se_name 6) (sa_cons (se_tup sa_nil) sa_nil))) (sa_cons (se_tup (sa_cons (se_name 6) (sa_cons (se_slice sl_V sld (sp_bin op_addV opv_add (se_name 7) (sp_bin op_mulV opv_mulV (se_name 7) se_int)) so_none (so_some se_int)) sa_nil))) (sa_cons (se_tup (sa_cons (se_name 6) sa_nil)) (sa_cons (se_tup (sa_cons se_int (sa_cons (se_name 7) sa_nil))) sa_nil)))))))) (ss_cons (ss_set (i := 3) (by exact sc_law.nd) rfl (by first | exact Or.inl rfl | exact Or.inr rfl) (show (3 : Nat) ∉ ([] : List Nat) by decide) (sp_bin op_addV opv_add (se_name 3) (se_lst (sa_cons (se_tup (sa_cons se_int (sa_cons (se_name 7) sa_nil))) (sa_cons (se_tup (sa_cons (se_name 6) (sa_cons (sp_callTy call_list_of callv_list (by rfl) (by exact mf_list) bt_list (se_name 7)) sa_nil))) (sa_cons (se_tup (sa_cons se_bl (sa_cons (se_name 7) sa_nil))) (sa_cons se_str (sa_cons (se_tup (sa_cons (se_name 6) (sa_cons (se_name 7) (sa_cons se_int sa_nil)))) sa_nil)))))))) (ss_cons (ss_set (i := 3) (by exact sc_law.nd) rfl (by first | exact Or.inl rfl | exact Or.inr rfl) (show (3 : Nat) ∉ ([] : List Nat) by decide) (sp_bin op_addV opv_add (se_name 3) (se_lst (sa_cons (se_tup (sa_cons se_int (sa_cons (se_tup (sa_cons (se_tup (sa_cons (se_tup (sa_cons se_int (sa_cons se_int (sa_cons se_int (sa_cons se_int (sa_cons se_int sa_nil)))))) (sa_cons (sp_bin op_mulV opv_mulV (se_tup (sa_cons se_int sa_nil)) se_int) sa_nil))) sa_nil)) sa_nil))) (sa_cons (se_tup (sa_cons se_int (sa_cons (se_tup (sa_cons (se_tup (sa_cons (se_tup (sa_cons se_int sa_nil)) (sa_cons (se_tup (sa_cons se_int sa_nil)) sa_nil))) sa_nil)) sa_nil))) (sa_cons (se_tup (sa_cons se_int (sa_cons (se_tup (sa_cons (se_tup (sa_cons (se_tup sa_nil) (sa_cons (se_tup sa_nil) sa_nil))) sa_nil)) sa_nil))) sa_nil)))))) (ss_cons (ss_if (st_not (st_val (se_call (by exact GOk.up (k := 11) G_law_no_machine (by decide)) (by exact hr) (by exact hgd) (by rfl) (by exact mg_law_no_machine) (by exact kp_law_no_machine) (by exact bd_law_no_machine) (sb_cons (se_call (by exact GOk.up (k := 11) G_law_one (by decide)) (by exact hr) (by exact hgd) (by rfl) (by exact mg_law_one) (by exact kp_law_one) (by exact bd_law_one) (sb_cons (se_name 1) (sb_cons (SV.toE (SE.v (se_name 3))) sb_nil))) sb_nil)))) (ss_one (ss_ret se_bl)) ss_nil) (ss_cons (ss_set (i := 4) (by exact sc_law.nd) rfl (by first | exact Or.inl rfl | exact Or.inr rfl) (show (4 : Nat) ∉ ([] : List Nat) by decide) (se_make (by exact mk_House B) (by exact GOk.up (k := 10) G_House___init__ (by decide)) (by exact hr.mono (by decide)) (by exact hgd) (by rfl) (by exact mo_House B) (by exact bd_House___init__) (sa_cons (se_name 2) sa_nil))) (ss_cons (ss_if (SW.st (sw_or (st_not (st_val (se_call (by exact GOk.up (k := 11) G_law_long_right (by decide)) (by exact hr) (by exact hgd) (by rfl) (by exact mg_law_long_right) (by exact kp_law_long_right) (by exact bd_law_long_right) (sb_cons (se_name 1) (sb_cons (se_name 4) (sb_cons (sp_callB call_len callv_len (by rfl) (by exact mf_len) bt_len (se_name 7)) sb_nil)))))) (sw_or1 (sp_cmpT (op_neV (by exact hu)) opv_ne (se_call (by exact GOk.up (k := 11) G_law_told (by decide)) (by exact hr) (by exact hgd) (by rfl) (by exact mg_law_told) (by exact kp_law_told) (by exact bd_law_told) (sb_cons (se_name 4) (sb_cons se_int (sb_cons se_str (sb_cons (sp_bin op_mulV opv_mulV (se_tup (sa_cons se_int sa_nil)) se_int) sb_nil))))) se_str (by rfl))))) (ss_one (ss_ret se_bl)) ss_nil) (ss_cons (ss_for (by exact po) (by rfl) (si_seq (se_slice sl_V sld se_str so_none (so_some (sp_bin op_sub opv_sub se_int (sp_callB call_len callv_len (by rfl) (by exact mf_len) bt_len (se_meth0 4 (by exact hF) (by exact mm_names B) (by exact GOk.up (k := 11) G_House_names (by decide)) (by exact hr) (by exact hgd) (by exact bd_House_names))))))) (sg_name (by exact sc_law.nd) (i := 5) rfl (by first | exact Or.inl rfl | exact Or.inr rfl) (show (5 : Nat) ∉ ([] : List Nat) by decide)) (ss_one (ss_if (sp_cmpT (op_neV (by exact hu)) opv_ne (se_call (by exact GOk.up (k := 11) G_law_told (by decide)) (by exact hr) (by exact hgd) (by rfl) (by exact mg_law_told) (by exact kp_law_told) (by exact bd_law_told) (sb_cons (se_name 4) (sb_cons se_int (sb_cons (se_name 5) (sb_cons (se_tup sa_nil) sb_nil))))) se_str (by rfl)) (ss_one (ss_ret se_bl)) ss_nil))) (ss_cons (ss_if (st_not (st_val (se_call (by exact GOk.up (k := 11) G_law_names_right (by decide)) (by exact hr) (by exact hgd) (by rfl) (by exact mg_law_names_right) (by exact kp_law_names_right) (by exact bd_law_names_right) (sb_cons (se_name 4) sb_nil)))) (ss_one (ss_ret se_bl)) ss_nil) (ss_cons (ss_expr (se_meth 4 (by exact hF) (by exact mm_take_out B) (by exact GOk.up (k := 11) G_House_take_out (by decide)) (by exact hr) (by exact hgd) (by exact bd_House_take_out) (sb_cons se_str sb_nil))) (ss_cons (ss_if (sp_cmpT (op_neV (by exact hu)) opv_ne (se_lst (sa_cons (se_call (by exact GOk.up (k := 11) G_law_told (by decide)) (by exact hr) (by exact hgd) (by rfl) (by exact mg_law_told) (by exact kp_law_told) (by exact bd_law_told) (sb_cons (se_name 4) (sb_cons se_int (sb_cons se_str (sb_cons (se_tup sa_nil) sb_nil))))) (sa_cons (se_call (by exact GOk.up (k := 11) G_law_told (by decide)) (by exact hr) (by exact hgd) (by rfl) (by exact mg_law_told) (by exact kp_law_told) (by exact bd_law_told) (sb_cons (se_name 4) (sb_cons se_int (sb_cons se_str (sb_cons (se_tup sa_nil) sb_nil))))) sa_nil))) (se_lst (sa_cons se_str (sa_cons se_str sa_nil))) (by rfl)) (ss_one (ss_ret se_bl)) ss_nil) (ss_one (ss_ret (se_and (se_call (by exact GOk.up (k := 11) G_law_room_right (by decide)) (by exact hr) (by exact hgd) (by rfl) (by exact mg_law_room_right) (by exact kp_law_room_right) (by exact bd_law_room_right) (sb_cons (se_name 1) (sb_cons (se_name 2) sb_nil))) (se_one (se_call (by exact GOk.up (k := 11) G_law_marks_right (by decide)) (by exact hr) (by exact hgd) (by rfl) (by exact mg_law_marks_right) (by exact kp_law_marks_right) (by exact bd_law_marks_right) (sb_cons (se_name 1) (sb_cons (se_name 2) sb_nil))))))))))))))))))))
end
end Hd
end

section
set_option maxHeartbeats 0
namespace Hd
open PySem PySem.Spec PyProof.Rows L2 L3
def loose0 : List PySem.Str := ["_wall", "TurnError", "NoMachine", "NoState", "NoLetter", "NoRow", "NoNumber", "NoFit", "NoMirror", "NoPaper", "TooMany", "TooLong", "NoName", "Standing", "Full", "NoMark", "is_whole", "is_letters", "is_letter", "need_letter"]
def loose1 : List PySem.Str := ["is_state", "is_table", "MOST_STATES", "is_machine", "need_machine", "need_state", "LONGEST_ROW", "undoing", "is_row_of", "is_row", "need_row", "back_of_row", "plain_of", "SMALL", "MOST_NAMES", "MOST_MARKS", "is_name", "House", "_law_spread", "_law_open"]
def loose2 : List PySem.Str := ["_law_anew", "_law_take", "_law_one", "_law_drawn", "_law_tables", "_law_renamed", "_law_any_machine", "_law_machine", "_law_row", "_law_told", "_law_no_machine", "_law_long_right", "_law_room_right", "_law_marks_right", "_law_names_right"]
def loose : List PySem.Str := loose0 ++ loose1 ++ loose2
abbrev R : PySem.W.OpenRow := PySem.W.OpenLaw.row PySem.Challenge.rw_homerounds_k70_house_bounds
abbrev hk : PySem.W.Hook := hookX 4 fa fn xf
def ob (s : PySem.W.SharedT) : Bool × He.AlD := obsXG 4 fa fn xf (HandSHeadRun.getT s)
theorem ob_eq (s : PySem.W.SharedT) : ob s = hk.obs s.abs := obsXG_eq (HandSHeadRun.getT_eq s)
theorem run (w : World) : HandSHeadRun.RunEq R (PySem.W.view R.prog [61]) hk ob 60000 loose w := by
  intro os
  kernel_rfl
end Hd
end

section
set_option maxHeartbeats 0
open PySem PySem.W PySem.Calls PyProof.Rows
theorem PySem.Challenge.cw_homerounds_k70_house_bounds_holds : PySem.Challenge.rw_homerounds_k70_house_bounds.Holds := by
  w_on; o_law
  refine HandSHeadRun.head_any (r := OpenLaw.row PySem.Challenge.rw_homerounds_k70_house_bounds) (q := view (OpenLaw.row PySem.Challenge.rw_homerounds_k70_house_bounds).prog [61]) (H := Hd.hk) (ob := Hd.ob) (M := 60000) (loose := Hd.loose) (d := HandSHeadRun.topDef (OpenLaw.row PySem.Challenge.rw_homerounds_k70_house_bounds).prog 61) (kwd := []) Hd.ob_eq
    (by kernel_rfl) (fun s => by kernel_rfl) Hd.run (by kernel_rfl) (by kernel_rfl) (by kernel_rfl) (by rfl) (by first | assumption | decide +kernel) (by decide +kernel) ⟨rfl, rfl, rfl, rfl, rfl, by decide +kernel⟩ ?hw ?hc
  case hw => w_witness2
  case hc =>
    refine L3.walk_G (l := PySem.Challenge.rw_homerounds_k70_house_bounds) (n := 63) (k := 12) (x := "script") rfl (by decide) (by kernel_rfl) ⟨rfl, by decide, by decide⟩ ?F
    intro w mg fa h Y G hmg0
    obtain ⟨K, KX, c, x⟩ := Y
    have hmg : mg ("law" : PySem.Str) = some (.ref fa) := by
      have e : (HandSHeadRun.topDef (OpenLaw.row PySem.Challenge.rw_homerounds_k70_house_bounds).prog 61).name = ("law" : PySem.Str) := by kernel_rfl
      rw [← e]
      exact hmg0
    have B : Hd.Bd K mg := ⟨⟨h, KX, G⟩, c, x⟩
    have e := hmg.symm.trans (Hd.mg_law B)
    cases e
    have b := L2.FunD.bindsA (ps := ["script"]) (Hd.F_law B) fun _ _ _ _ _ _ us hl => match us, hl with | [_], _ => rfl
    exact ⟨K, Hd.fd_law B, KX, fun s v => b s [v] rfl, fun base => Hd.ok_law B⟩
end
