import PyProof.Rows.All
import Wide.All
import OpenK.AllK
import Wide.FinOn
import HandS.ForMost
import HandS.Exc
import HandS.TryOnly
import HandS.ExcOwn
import HandS.Flow
import HandS.Lambda
import HandS.Evl
import HandS.TupAny
import HandS.Deep
import HandS.TupMul
import HandS.StrMore
import HandS.WordsList
import HandS.WordsExc
import HandS.Comp
import HandS.Replace
import HandS.Dict
import HandS.EndTab
import HandS.TryMany
import KE.KNestM
import HandS.Style
import PyProof.StrLawsTight
import PyProof.Rows.StrFirst2
import PyProof.Rows.ChunkEnd
import PyProof.Rows.StrItems
import PyProof.Rows.StrSplitJoin
import PySem.Challenge.RW_wreckhouse_k76_dumps_of_octets
set_option Elab.async false
set_option linter.all false
set_option maxRecDepth 100000
set_option maxHeartbeats 1000000
/-! DL: readings over data alone. Values: frozen data (PyData), or a reference to a cell (a list or a dict that the def changes). -/
namespace DL
open PySem PySem.Spec PyProof.Rows L2
/-! ### data, cells -/
inductive D where
  | py (d : PyData)
  | op (j : Nat)
  | sc (ds : List PyData)
  | kt (ds : List PyData)
inductive Cell where
  | lst (ds : List PyData)
  | dk (kvs : List (PyData × PyData))
  | dt (kvs : List (PyData × PyData))
  | lk (o : Obj) (ks : List (Key × V)) (kvs : List (PyData × PyData))
  | lt (o : Obj) (ks : List (List Key × V)) (kvs : List (PyData × PyData))
def kD : Key → PyData
  | .inl i => .int i
  | .inr x => .str x
mutual
inductive Rp (K : PySem.W.Frag) (F : Hp) : V → PyData → Prop
  | non : Rp K F .non .none
  | bl (b : Bool) : Rp K F (.bl b) (.bool b)
  | int (i : Int) : Rp K F (.int i) (.int i)
  | str (x : Str) : Rp K F (.str x) (.str x)
  | lst {a : Addr} {xs : List V} {ds : List PyData} : F a = some (.lst xs) → RpAll K F xs ds → Rp K F (.ref a) (.list ds)
  | tup {a : Addr} {xs : List V} {ds : List PyData} : F a = some (.tup xs) → RpAll K F xs ds → Rp K F (.ref a) (.tuple ds)
  | dk {a : Addr} {ks : List (Key × V)} {kvs : List (PyData × PyData)} : Rd F a (.dK ks) → RpK K F ks kvs → Rp K F (.ref a) (.dict kvs)
  | dt {a : Addr} {ks : List (List Key × V)} {kvs : List (PyData × PyData)} : Rd F a (.dT ks) → RpT K F ks kvs → Rp K F (.ref a) (.dict [(.none, .dict kvs)])
inductive RpAll (K : PySem.W.Frag) (F : Hp) : List V → List PyData → Prop
  | nil : RpAll K F [] []
  | cons {v : V} {vs : List V} {d : PyData} {ds : List PyData} : Rp K F v d → RpAll K F vs ds → RpAll K F (v :: vs) (d :: ds)
inductive RpK (K : PySem.W.Frag) (F : Hp) : List (Key × V) → List (PyData × PyData) → Prop
  | nil : RpK K F [] []
  | cons {k : Key} {v : V} {vs : List (Key × V)} {d : PyData} {ds : List (PyData × PyData)} : Rp K F v d → RpK K F vs ds → RpK K F ((k, v) :: vs) ((kD k, d) :: ds)
inductive RpT (K : PySem.W.Frag) (F : Hp) : List (List Key × V) → List (PyData × PyData) → Prop
  | nil : RpT K F [] []
  | cons {k : List Key} {v : V} {vs : List (List Key × V)} {d : PyData} {ds : List (PyData × PyData)} : Rp K F v d → RpT K F vs ds → RpT K F ((k, v) :: vs) ((.tuple (k.map kD), d) :: ds)
end
abbrev Ex (H H' : Hp) : Prop := ∀ a o, H a = some o → H' a = some o
theorem Ex.refl (H : Hp) : Ex H H := fun _ _ h => h
theorem Ex.trans {H H1 H2 : Hp} (a : Ex H H1) (b : Ex H1 H2) : Ex H H2 := fun x o h => b x o (a x o h)
theorem Ex.new {H : Hp} {p : Addr} {o : HO} (h : H p = none) : Ex H (upd H p o) := fun a u e => by
  rw [upd_ne (ne_of_none e h)]
  exact e
theorem ex_rd {H H' : Hp} {a : Addr} {u : HO} (e : Ex H H') (h : Rd H a u) : Rd H' a u := by
  rcases h with h | ⟨o, h⟩
  · exact Or.inl (e a _ h)
  · exact Or.inr ⟨o, e a _ h⟩
section
variable {K : PySem.W.Frag} {F F' H H' : Hp}
theorem ex_l {a : Addr} {xs : List V} (e : Ex H H') (h : SqL K H a xs) : SqL K H' a xs := by
  rcases h with h | h
  · exact Or.inl (ex_rd e h)
  · exact Or.inr h
theorem ex_t {a : Addr} {xs : List V} (e : Ex H H') (h : SqT K H a xs) : SqT K H' a xs := by
  rcases h with h | h
  · exact Or.inl (ex_rd e h)
  · exact Or.inr h
mutual
theorem Rp.mono (e : Ex F F') : ∀ {v : V} {d : PyData}, Rp K F v d → Rp K F' v d
  | _, _, .non => .non
  | _, _, .bl b => .bl b
  | _, _, .int i => .int i
  | _, _, .str x => .str x
  | _, _, .lst h a => .lst (e _ _ h) (RpAll.mono e a)
  | _, _, .tup h a => .tup (e _ _ h) (RpAll.mono e a)
  | _, _, .dk h a => .dk (ex_rd e h) (RpK.mono e a)
  | _, _, .dt h a => .dt (ex_rd e h) (RpT.mono e a)
theorem RpAll.mono (e : Ex F F') : ∀ {v : List V} {d : List PyData}, RpAll K F v d → RpAll K F' v d
  | _, _, .nil => .nil
  | _, _, .cons h a => .cons (Rp.mono e h) (RpAll.mono e a)
theorem RpK.mono (e : Ex F F') : ∀ {v : List (Key × V)} {d : List (PyData × PyData)}, RpK K F v d → RpK K F' v d
  | _, _, .nil => .nil
  | _, _, .cons h a => .cons (Rp.mono e h) (RpK.mono e a)
theorem RpT.mono (e : Ex F F') : ∀ {v : List (List Key × V)} {d : List (PyData × PyData)}, RpT K F v d → RpT K F' v d
  | _, _, .nil => .nil
  | _, _, .cons h a => .cons (Rp.mono e h) (RpT.mono e a)
end
theorem RpAll.length : ∀ {vs : List V} {ds : List PyData}, RpAll K F vs ds → vs.length = ds.length
  | _, _, .nil => rfl
  | _, _, .cons _ a => congrArg (· + 1) a.length
theorem RpAll.app : ∀ {vs : List V} {ds : List PyData} {ws : List V} {es : List PyData}, RpAll K F vs ds → RpAll K F ws es → RpAll K F (vs ++ ws) (ds ++ es)
  | _, _, _, _, .nil, b => b
  | _, _, _, _, .cons h a, b => .cons h (a.app b)
theorem RpAll.get : ∀ {vs : List V} {ds : List PyData} {i : Nat} {v : V}, RpAll K F vs ds → vs[i]? = some v → ∃ d, ds[i]? = some d ∧ Rp K F v d
  | _, _, _, _, .nil, e => by simp at e
  | _, _, 0, _, .cons h a, e => by simp at e; subst e; exact ⟨_, rfl, h⟩
  | _, _, i + 1, _, .cons h a, e => by
    obtain ⟨d, h1, h2⟩ := a.get (i := i) (by simpa using e)
    exact ⟨d, by simpa using h1, h2⟩
theorem RpAll.get' : ∀ {vs : List V} {ds : List PyData} {i : Nat} {d : PyData}, RpAll K F vs ds → ds[i]? = some d → ∃ v, vs[i]? = some v ∧ Rp K F v d
  | _, _, _, _, .nil, e => by simp at e
  | _, _, 0, _, .cons h a, e => by simp at e; subst e; exact ⟨_, rfl, h⟩
  | _, _, i + 1, _, .cons h a, e => by
    obtain ⟨d, h1, h2⟩ := a.get' (i := i) (by simpa using e)
    exact ⟨d, by simpa using h1, h2⟩
theorem RpAll.take : ∀ {vs : List V} {ds : List PyData} (n : Nat), RpAll K F vs ds → RpAll K F (vs.take n) (ds.take n)
  | _, _, 0, _ => .nil
  | _, _, _ + 1, .nil => .nil
  | _, _, n + 1, .cons h a => .cons h (a.take n)
theorem RpAll.drop : ∀ {vs : List V} {ds : List PyData} (n : Nat), RpAll K F vs ds → RpAll K F (vs.drop n) (ds.drop n)
  | _, _, 0, a => a
  | _, _, _ + 1, .nil => .nil
  | _, _, n + 1, .cons _ a => a.drop n
theorem RpAll.set : ∀ {vs : List V} {ds : List PyData} {v : V} {d : PyData} (i : Nat), RpAll K F vs ds → Rp K F v d → RpAll K F (vs.set i v) (ds.set i d)
  | _, _, _, _, _, .nil, _ => .nil
  | _, _, _, _, 0, .cons _ a, h => .cons h a
  | _, _, _, _, i + 1, .cons h0 a, h => .cons h0 (a.set i h)
theorem RpAll.reverse : ∀ {vs : List V} {ds : List PyData}, RpAll K F vs ds → RpAll K F vs.reverse ds.reverse
  | _, _, .nil => .nil
  | _, _, .cons h a => by
    simp only [List.reverse_cons]
    exact a.reverse.app (.cons h .nil)
theorem RpAll.ints : ∀ {vs : List V} {ns : List Int}, RpAll K F vs (ns.map .int) → vs = ns.map V.int
  | _, [], h => by cases h; rfl
  | _, _ :: _, h => by
    cases h with
    | cons h a =>
      cases h
      rw [a.ints]
      rfl
theorem RpAll.strs : ∀ {vs : List V} {ns : List Str}, RpAll K F vs (ns.map .str) → vs = ns.map V.str
  | _, [], h => by cases h; rfl
  | _, _ :: _, h => by
    cases h with
    | cons h a =>
      cases h
      rw [a.strs]
      rfl
theorem RpAll.bools : ∀ {vs : List V} {ns : List Bool}, RpAll K F vs (ns.map .bool) → vs = ns.map V.bl
  | _, [], h => by cases h; rfl
  | _, _ :: _, h => by
    cases h with
    | cons h a =>
      cases h
      rw [a.bools]
      rfl
theorem RpAll.of_ints : ∀ {ns : List Int}, RpAll K F (ns.map V.int) (ns.map .int)
  | [] => .nil
  | _ :: _ => .cons (.int _) RpAll.of_ints
theorem RpAll.of_strs : ∀ {ns : List Str}, RpAll K F (ns.map V.str) (ns.map .str)
  | [] => .nil
  | _ :: _ => .cons (.str _) RpAll.of_strs
end
/-! ### the world: base (the entry's frozen part, heap, and what may be changed), the cells' addresses, the cells, the frozen part, the heap -/
/-- known: something stands there, no table -/
def Kn (H : Hp) (a : Addr) : Prop := ∃ o, H a = some o ∧ ∀ ps, o ≠ .tbl ps
theorem kn_none {H : Hp} {a : Addr} (h : H a = none) : ¬ Kn H a := fun ⟨o, e, _⟩ => by rw [h] at e; cases e
structure Base where
  F : Hp
  H : Hp
  M : List Addr
section
variable (K : PySem.W.Frag)
def Val (al : List Addr) (F : Hp) (v : V) : D → Prop
  | .py d => Rp K F v d
  | .op j => ∃ a, al[j]? = some a ∧ v = .ref a
  | .sc ds => ∃ a vs, v = .ref a ∧ SqL K F a vs ∧ RpAll K F vs ds
  | .kt ds => ∃ a vs, v = .ref a ∧ SqT K F a vs ∧ RpAll K F vs ds
def CellAt (F H : Hp) (a : Addr) : Cell → Prop
  | .lst ds => ∃ vs, H a = some (.lst vs) ∧ RpAll K F vs ds
  | .dk kvs => ∃ ks, H a = some (.dK ks) ∧ RpK K F ks kvs
  | .dt kvs => ∃ ks, H a = some (.dT ks) ∧ RpT K F ks kvs
  | .lk o ks kvs => H a = some (.frz o (.dK ks)) ∧ RpK K F ks kvs
  | .lt o ks kvs => H a = some (.frz o (.dT ks)) ∧ RpT K F ks kvs
structure Wo (T : List (Addr × Str)) (B : Base) (al : List Addr) (mu : List Cell) (F H : Hp) : Prop where
  sub : Ex F H
  up : Ex B.F F
  fresh : ∀ a, Kn B.H a → B.F a = none → F a = none
  keep : ∀ a o, B.H a = some o → (∀ ps, o ≠ .tbl ps) → a ∉ B.M → H a = some o
  dom : ∀ a, Kn B.H a → Kn H a
  len : al.length = mu.length
  nd : al.Nodup
  old : ∀ a ∈ al, ¬ Kn B.H a ∨ a ∈ B.M
  pre : B.M <+: al
  cell : ∀ (j : Nat) (c : Cell) (a : Addr), mu[j]? = some c → al[j]? = some a → F a = none ∧ CellAt K F H a c
  tab : LamX.Tabs T H
  notbl : ∀ a ps, F a ≠ some (.tbl ps)
abbrev DEnv := List (Option D)
structure En (rho : DEnv) (sg : L2.St) (al : List Addr) (F : Hp) : Prop where
  len : rho.length = sg.length
  at_ : ∀ (i : Nat) (d : D), rho[i]? = some (some d) → ∃ v, sg[i]? = some (some v) ∧ Val K al F v d
end
abbrev QD := D → List Cell → Prop
abbrev QX := Addr → List Cell → Prop
abbrev QB := Bool → List Cell → Prop
abbrev QA := List D → List Cell → Prop
/-- readings over data -/
abbrev TD := DEnv → List Cell → QD → QX → Prop
abbrev TDB := DEnv → List Cell → QB → QX → Prop
abbrev TDA := DEnv → List Cell → QA → QX → Prop
section
variable {K : PySem.W.Frag} {T : List (Addr × Str)} {B : Base} {al al' : List Addr} {mu mu' : List Cell} {F F' H H' : Hp} {v : V} {d : D} {rho : DEnv} {sg : L2.St}
theorem pre_get {α : Type} {l l' : List α} (h : l <+: l') {j : Nat} {a : α} (e : l[j]? = some a) : l'[j]? = some a := by
  obtain ⟨t, rfl⟩ := h
  obtain ⟨h1, h2⟩ := List.getElem?_eq_some_iff.mp e
  rw [List.getElem?_append_left h1]
  exact e
theorem Val.mono (e : Ex F F') (p : al <+: al') (h : Val K al F v d) : Val K al' F' v d := by
  cases d with
  | py d => exact Rp.mono e h
  | op j =>
    obtain ⟨a, h1, h2⟩ := h
    exact ⟨a, pre_get p h1, h2⟩
  | sc ds =>
    obtain ⟨a, vs, h1, h2, h3⟩ := h
    exact ⟨a, vs, h1, ex_l e h2, h3.mono e⟩
  | kt ds =>
    obtain ⟨a, vs, h1, h2, h3⟩ := h
    exact ⟨a, vs, h1, ex_t e h2, h3.mono e⟩
theorem En.mono (e : Ex F F') (p : al <+: al') (h : En K rho sg al F) : En K rho sg al' F' := ⟨h.len, fun i d hd => by
  obtain ⟨v, h1, h2⟩ := h.at_ i d hd
  exact ⟨v, h1, h2.mono e p⟩⟩
theorem En.set {i : Nat} (h : En K rho sg al F) (hv : Val K al F v d) : En K (rho.set i (some d)) (sg.set i (some v)) al F := ⟨by simp [h.len], fun j e hj => by
  by_cases hij : i = j
  · subst hij
    rw [List.getElem?_set] at hj
    by_cases hl : i < rho.length
    · simp [hl] at hj
      subst hj
      refine ⟨v, ?_, hv⟩
      rw [List.getElem?_set]
      simp [← h.len, hl]
    · simp [hl] at hj
  · rw [List.getElem?_set_ne hij] at hj
    obtain ⟨w, h1, h2⟩ := h.at_ j e hj
    exact ⟨w, by rw [List.getElem?_set_ne hij]; exact h1, h2⟩⟩
theorem En.wipe1 {i : Nat} (h : En K rho sg al F) : En K (rho.set i none) (sg.set i none) al F := ⟨by simp [h.len], fun j e hj => by
  by_cases hij : i = j
  · subst hij
    rw [List.getElem?_set] at hj
    by_cases hl : i < rho.length <;> simp [hl] at hj
  · rw [List.getElem?_set_ne hij] at hj
    obtain ⟨w, h1, h2⟩ := h.at_ j e hj
    exact ⟨w, by rw [List.getElem?_set_ne hij]; exact h1, h2⟩⟩
/-- forgetting slots -/
theorem En.weak {rho' : DEnv} (h : En K rho sg al F) (hl : rho'.length = rho.length) (w : ∀ (i : Nat) (d : D), rho'[i]? = some (some d) → rho[i]? = some (some d)) : En K rho' sg al F :=
  ⟨hl.trans h.len, fun i d hd => h.at_ i d (w i d hd)⟩
theorem CellAt.mono {a : Addr} {c : Cell} (e : Ex F F') (h : CellAt K F H a c) (hk : H' a = H a) : CellAt K F' H' a c := by
  cases c with
  | lst ds => obtain ⟨vs, h1, h2⟩ := h; exact ⟨vs, hk.trans h1, h2.mono e⟩
  | dk kvs => obtain ⟨vs, h1, h2⟩ := h; exact ⟨vs, hk.trans h1, h2.mono e⟩
  | dt kvs => obtain ⟨vs, h1, h2⟩ := h; exact ⟨vs, hk.trans h1, h2.mono e⟩
  | lk o ks kvs => exact ⟨hk.trans h.1, h.2.mono e⟩
  | lt o ks kvs => exact ⟨hk.trans h.1, h.2.mono e⟩
theorem CellAt.there {a : Addr} {c : Cell} (h : CellAt K F H a c) : ∃ o, H a = some o ∧ (∀ ps, o ≠ .tbl ps) := by
  cases c with
  | lst ds => obtain ⟨vs, h1, h2⟩ := h; exact ⟨_, h1, fun _ z => by cases z⟩
  | dk kvs => obtain ⟨vs, h1, h2⟩ := h; exact ⟨_, h1, fun _ z => by cases z⟩
  | dt kvs => obtain ⟨vs, h1, h2⟩ := h; exact ⟨_, h1, fun _ z => by cases z⟩
  | lk o ks kvs => exact ⟨_, h.1, fun _ z => by cases z⟩
  | lt o ks kvs => exact ⟨_, h.1, fun _ z => by cases z⟩
theorem Wo.at_ (w : Wo K T B al mu F H) {a : Addr} (h : a ∈ al) : ∃ (j : Nat) (c : Cell), al[j]? = some a ∧ mu[j]? = some c ∧ F a = none ∧ CellAt K F H a c := by
  obtain ⟨j, hj, e⟩ := List.getElem_of_mem h
  have hm : j < mu.length := by rw [← w.len]; exact hj
  refine ⟨j, mu[j], by rw [List.getElem?_eq_getElem hj, e], List.getElem?_eq_getElem hm, ?_⟩
  exact w.cell j _ a (List.getElem?_eq_getElem hm) (by rw [List.getElem?_eq_getElem hj, e])
theorem Wo.here (w : Wo K T B al mu F H) {a : Addr} (h : a ∈ al) : Kn H a := by
  obtain ⟨j, c, _, _, _, hc⟩ := w.at_ h
  exact hc.there
/-- the world seen from here: its own base -/
theorem Wo.self (w : Wo K T B al mu F H) : Wo K T ⟨F, H, al⟩ al mu F H := ⟨w.sub, Ex.refl _, fun _ _ h => h, fun _ _ h _ _ => h, fun _ h => h, w.len, w.nd, fun _ h => .inr h, List.prefix_refl _, w.cell, w.tab, w.notbl⟩
/-- what went on from here, seen from the base -/
theorem Wo.back (w : Wo K T B al mu F H) (w' : Wo K T ⟨F, H, al⟩ al' mu' F' H') : Wo K T B al' mu' F' H' := by
  refine ⟨w'.sub, fun a o h => w'.up a o (w.up a o h), fun a h1 h2 => w'.fresh a (w.dom a h1) (w.fresh a h1 h2), fun a o h1 h2 h3 => ?_, fun a h => w'.dom a (w.dom a h), w'.len, w'.nd, fun a h => ?_, w.pre.trans w'.pre, w'.cell, w'.tab, w'.notbl⟩
  · refine w'.keep a o (w.keep a o h1 h2 h3) h2 fun z => ?_
    rcases w.old a z with q | q
    · exact q ⟨o, h1, h2⟩
    · exact h3 q
  · rcases w'.old a h with q | q
    · exact .inl fun z => q (w.dom a z)
    · exact w.old a q
/-- a callee that gets none of the cells -/
theorem Wo.callee (w : Wo K T B al mu F H) : Wo K T ⟨F, H, []⟩ [] [] F H := ⟨w.sub, Ex.refl _, fun _ _ h => h, fun _ _ h _ _ => h, fun _ h => h, rfl, .nil, fun _ h => absurd h (by simp), List.prefix_refl _, fun j c a h => by simp at h, w.tab, w.notbl⟩
theorem Wo.back0 {al1 : List Addr} {mu1 : List Cell} (w : Wo K T B al mu F H) (w' : Wo K T ⟨F, H, []⟩ al1 mu1 F' H') : Wo K T B al mu F' H' := by
  have kp : ∀ a o, H a = some o → (∀ ps, o ≠ .tbl ps) → H' a = some o := fun a o h1 h2 => w'.keep a o h1 h2 (by simp)
  refine ⟨w'.sub, fun a o h => w'.up a o (w.up a o h), fun a h1 h2 => w'.fresh a (w.dom a h1) (w.fresh a h1 h2), fun a o h1 h2 h3 => kp a o (w.keep a o h1 h2 h3) h2, fun a h => w'.dom a (w.dom a h), w.len, w.nd, w.old, w.pre, fun j c a h1 h2 => ?_, w'.tab, w'.notbl⟩
  obtain ⟨q1, q2⟩ := w.cell j c a h1 h2
  obtain ⟨o, q3, q4⟩ := q2.there
  exact ⟨w'.fresh a ⟨o, q3, q4⟩ q1, q2.mono w'.up ((kp a o q3 q4).trans q3.symm)⟩
/-- a new frozen object -/
theorem Wo.new {p : Addr} {o : HO} (w : Wo K T B al mu F H) (h : H p = none) (ho : ∀ ps, o ≠ .tbl ps) : Wo K T B al mu (upd F p o) (upd H p o) := by
  have fn : F p = none := by
    cases e : F p with
    | none => rfl
    | some u => rw [w.sub p u e] at h; cases h
  have bn : ¬ Kn B.H p := fun z => kn_none h (w.dom p z)
  have eH : Ex H (upd H p o) := Ex.new h
  refine ⟨fun a u e => ?_, Ex.trans w.up (Ex.new fn), fun a h1 h2 => ?_, fun a u h1 h2 h3 => eH _ _ (w.keep a u h1 h2 h3), fun a h1 => ?_, w.len, w.nd, w.old, w.pre, fun j c a h1 h2 => ?_, LamX.Tabs.ext w.tab eH, fun a ps => ?_⟩
  · by_cases hb : a = p
    · subst hb; rw [upd_same] at e ⊢; exact e
    · rw [upd_ne hb] at e ⊢; exact w.sub a u e
  · have hb : a ≠ p := fun z => by rw [z] at h1; exact bn h1
    rw [upd_ne hb]; exact w.fresh a h1 h2
  · obtain ⟨u, q1, q2⟩ := w.dom a h1
    exact ⟨u, eH _ _ q1, q2⟩
  · obtain ⟨q1, q2⟩ := w.cell j c a h1 h2
    obtain ⟨u, q3, _⟩ := q2.there
    have hb : a ≠ p := ne_of_none q3 h
    exact ⟨by rw [upd_ne hb]; exact q1, q2.mono (Ex.new fn) (upd_ne hb)⟩
  · by_cases hb : a = p
    · subst hb; rw [upd_same]; exact fun z => ho ps (Option.some.inj z)
    · rw [upd_ne hb]; exact w.notbl a ps
theorem Wo.fnone (w : Wo K T B al mu F H) {p : Addr} (h : H p = none) : F p = none := by
  cases e : F p with
  | none => rfl
  | some u => rw [w.sub p u e] at h; cases h
theorem Wo.bnone (w : Wo K T B al mu F H) {p : Addr} (h : H p = none) : ¬ Kn B.H p := fun z => kn_none h (w.dom p z)
theorem Wo.bkn (w : Wo K T B al mu F H) {p : Addr} (h : ¬ Kn H p) : ¬ Kn B.H p ∧ p ∉ al := ⟨fun z => h (w.dom p z), fun z => h (w.here z)⟩
theorem Wo.notin (w : Wo K T B al mu F H) {p : Addr} (h : H p = none) : p ∉ al := fun z => kn_none h (w.here z)
def Cell.ho : HO → Prop
  | .lst _ => True
  | .dK _ => True
  | .dT _ => True
  | _ => False
/-- a new cell -/
theorem Wo.alloc {p : Addr} {o : HO} {c : Cell} (w : Wo K T B al mu F H) (h : H p = none) (ho : ∀ ps, o ≠ .tbl ps) (hc : CellAt K F (upd H p o) p c) : Wo K T B (al ++ [p]) (mu ++ [c]) F (upd H p o) := by
  have fn := w.fnone h
  have bn := w.bnone h
  have eH : Ex H (upd H p o) := Ex.new h
  refine ⟨fun a u e => eH a u (w.sub a u e), w.up, w.fresh, fun a u h1 h2 h3 => eH _ _ (w.keep a u h1 h2 h3), fun a h1 => ?_, by simp [w.len], ?_, fun a ha => ?_, w.pre.trans (List.prefix_append _ _), fun j c' a h1 h2 => ?_, LamX.Tabs.ext w.tab eH, w.notbl⟩
  · obtain ⟨u, q1, q2⟩ := w.dom a h1
    exact ⟨u, eH _ _ q1, q2⟩
  · rw [List.nodup_append]
    refine ⟨w.nd, by simp, fun a ha b hb => ?_⟩
    simp at hb
    subst hb
    rintro rfl
    exact w.notin h ha
  · rcases List.mem_append.mp ha with q | q
    · exact w.old a q
    · simp at q; subst q; exact .inl bn
  · by_cases hj : j < al.length
    · rw [List.getElem?_append_left hj] at h2
      rw [List.getElem?_append_left (by rw [← w.len]; exact hj)] at h1
      obtain ⟨q1, q2⟩ := w.cell j c' a h1 h2
      obtain ⟨u, q3, _⟩ := q2.there
      exact ⟨q1, q2.mono (Ex.refl _) (upd_ne (ne_of_none q3 h))⟩
    · rw [List.getElem?_append_right (by omega)] at h2
      rw [List.getElem?_append_right (by rw [← w.len]; omega), ← w.len] at h1
      have hz : j - al.length = 0 := by
        cases e : j - al.length with
        | zero => rfl
        | succ n => rw [e] at h2; simp at h2
      rw [hz] at h1 h2
      simp at h1 h2
      subst h1 h2
      exact ⟨fn, hc⟩
/-- a cell is changed -/
theorem Wo.set {j : Nat} {a : Addr} {o : HO} {c : Cell} (w : Wo K T B al mu F H) (hj : al[j]? = some a) (ho : ∀ ps, o ≠ .tbl ps) (hc : CellAt K F (upd H a o) a c) : Wo K T B al (mu.set j c) F (upd H a o) := by
  have ha : a ∈ al := List.mem_of_getElem? hj
  obtain ⟨j0, c0, e1, e2, f0, hc0⟩ := w.at_ ha
  obtain ⟨u0, hu0, hut⟩ := hc0.there
  have hjl : j < al.length := (List.getElem?_eq_some_iff.mp hj).1
  refine ⟨fun b u e => ?_, w.up, w.fresh, fun b u h1 h2 h3 => ?_, fun b h1 => ?_, by simp [w.len], w.nd, w.old, w.pre, fun i c' b h1 h2 => ?_, fun p hp => ?_, w.notbl⟩
  · rw [upd_ne (fun z => by rw [z, f0] at e; cases e)]; exact w.sub b u e
  · have hb : b ≠ a := fun z => by
      rcases w.old a ha with q | q
      · exact q (z ▸ ⟨u, h1, h2⟩)
      · exact h3 (z ▸ q)
    rw [upd_ne hb]; exact w.keep b u h1 h2 h3
  · by_cases hb : b = a
    · rw [hb]; exact ⟨o, upd_same, ho⟩
    · obtain ⟨u, q1, q2⟩ := w.dom b h1
      exact ⟨u, by rw [upd_ne hb]; exact q1, q2⟩
  · by_cases hi : i = j
    · subst hi
      rw [hj] at h2; cases h2
      rw [List.getElem?_set] at h1
      simp [← w.len, hjl] at h1
      subst h1
      exact ⟨f0, hc⟩
    · rw [List.getElem?_set_ne (Ne.symm hi)] at h1
      obtain ⟨q1, q2⟩ := w.cell i c' b h1 h2
      have hb : b ≠ a := fun z => by
        subst z
        have i1 := (List.getElem?_eq_some_iff.mp h2)
        have i2 := (List.getElem?_eq_some_iff.mp hj)
        obtain ⟨l1, g1⟩ := i1
        obtain ⟨l2, g2⟩ := i2
        exact hi ((List.getElem_inj w.nd).mp (g1.trans g2.symm))
      exact ⟨q1, q2.mono (Ex.refl _) (upd_ne hb)⟩
  · obtain ⟨ps, h1, h2, h3⟩ := w.tab p hp
    have hb : p.1 ≠ a := fun z => by rw [z, hu0] at h1; exact hut ps (Option.some.inj h1)
    refine ⟨ps, by rw [upd_ne hb]; exact h1, h2, fun pos cv hcv => ?_⟩
    obtain ⟨c1, e1, e2⟩ := h3 pos cv hcv
    refine ⟨c1, e1, ?_⟩
    have hb2 : c1 ≠ a := fun z => by
      rw [z, hu0] at e2
      have z2 := Option.some.inj e2
      subst z2
      cases c0 with
      | lst ds => obtain ⟨vs, q, _⟩ := hc0; rw [hu0] at q; unfold LamX.CodeO at q; cases q
      | dk ds => obtain ⟨vs, q, _⟩ := hc0; rw [hu0] at q; unfold LamX.CodeO at q; cases q
      | dt ds => obtain ⟨vs, q, _⟩ := hc0; rw [hu0] at q; unfold LamX.CodeO at q; cases q
      | lk o ks ds => obtain ⟨q, _⟩ := hc0; rw [hu0] at q; unfold LamX.CodeO at q; cases q
      | lt o ks ds => obtain ⟨q, _⟩ := hc0; rw [hu0] at q; unfold LamX.CodeO at q; cases q
    rw [upd_ne hb2]
    exact e2
end
end DL
set_option Elab.async false
set_option linter.all false
set_option maxRecDepth 100000
set_option maxHeartbeats 1000000
/-! DL, expressions. -/
namespace DL
open PySem PySem.Spec PyProof.Rows L2
section
variable (K : PySem.W.Frag) (T : List (Addr × Str))
/-- how it goes on: with a value, with an exception -/
def KQ (B : Base) (al : List Addr) (F : Hp) (Qd : QD) (Q : VK) : Prop := ∀ v H' al' mu' F' d, Wo K T B al' mu' F' H' → Ex F F' → al <+: al' → Val K al' F' v d → Qd d mu' → Q v H'
def KB (B : Base) (al : List Addr) (F : Hp) (Qd : QB) (Q : Bool → Hp → Prop) : Prop := ∀ b H' al' mu' F', Wo K T B al' mu' F' H' → Ex F F' → al <+: al' → Qd b mu' → Q b H'
def Vls (al : List Addr) (F : Hp) (vs : List V) (ds : List D) : Prop := Paired (fun v d => Val K al F v d) vs ds
def KA (B : Base) (al : List Addr) (F : Hp) (Qd : QA) (Q : List V → Hp → Prop) : Prop := ∀ vs H' al' mu' F' ds, Wo K T B al' mu' F' H' → Ex F F' → al <+: al' → Vls K al' F' vs ds → Qd ds mu' → Q vs H'
def KX (B : Base) (al : List Addr) (F : Hp) (sg : L2.St) (Zd : QX) (W : WX) : Prop := ∀ C H' al' mu' F', Wo K T B al' mu' F' H' → Ex F F' → al <+: al' → Zd C mu' → W (.ref C) none sg H'
def liftE (W : WX) (t : TD) : TE := fun sg H Q => ∃ B rho al mu F Qd Zd, Wo K T B al mu F H ∧ En K rho sg al F ∧ t rho mu Qd Zd ∧ KQ K T B al F Qd Q ∧ KX K T B al F sg Zd W
def liftT (W : WX) (t : TDB) : TT := fun sg H Q => ∃ B rho al mu F Qd Zd, Wo K T B al mu F H ∧ En K rho sg al F ∧ t rho mu Qd Zd ∧ KB K T B al F Qd Q ∧ KX K T B al F sg Zd W
def liftA (W : WX) (t : TDA) : TA := fun sg H Q => ∃ B rho al mu F Qd Zd, Wo K T B al mu F H ∧ En K rho sg al F ∧ t rho mu Qd Zd ∧ KA K T B al F Qd Q ∧ KX K T B al F sg Zd W
end
abbrev DE (X : Cx) (T : List (Addr × Str)) (W : WX) (e : Expr) (t : TD) : Prop := PE X e (liftE X.K T W t)
abbrev DT (X : Cx) (T : List (Addr × Str)) (W : WX) (e : Expr) (t : TDB) : Prop := PT X e (liftT X.K T W t)
abbrev DA (X : Cx) (T : List (Addr × Str)) (W : WX) (es : List Expr) (t : TDA) : Prop := PA X es (liftA X.K T W t)
theorem pe_imp {X : Cx} {e : Expr} {t t' : TE} (h : PE X e t) (i : ∀ sg H Q, t' sg H Q → t sg H Q) : PE X e t' := ⟨fun pins s sg H Q I q => h.run pins s sg H Q I (i _ _ _ q)⟩
theorem pt_imp {X : Cx} {e : Expr} {t t' : TT} (h : PT X e t) (i : ∀ sg H Q, t' sg H Q → t sg H Q) : PT X e t' := ⟨fun pins s sg H Q I q => h.run pins s sg H Q I (i _ _ _ q)⟩
theorem pa_imp {X : Cx} {e : List Expr} {t t' : TA} (h : PA X e t) (i : ∀ sg H Q, t' sg H Q → t sg H Q) : PA X e t' := ⟨fun pos pins s sg H Q I q => h.run pos pins s sg H Q I (i _ _ _ q)⟩
section
variable {K : PySem.W.Frag} {T : List (Addr × Str)} {B : Base} {al al' : List Addr} {mu mu' : List Cell} {F F' H H' : Hp} {v : V} {d : D} {rho : DEnv} {sg : L2.St} {W : WX}
theorem KQ.mono {Qd : QD} {Q : VK} (k : KQ K T B al F Qd Q) (e : Ex F F') (p : al <+: al') : KQ K T B al' F' Qd Q := fun v H' al2 mu2 F2 d w x y h q => k v H' al2 mu2 F2 d w (e.trans x) (p.trans y) h q
theorem KB.mono {Qd : QB} {Q : Bool → Hp → Prop} (k : KB K T B al F Qd Q) (e : Ex F F') (p : al <+: al') : KB K T B al' F' Qd Q := fun v H' al2 mu2 F2 w x y q => k v H' al2 mu2 F2 w (e.trans x) (p.trans y) q
theorem KA.mono {Qd : QA} {Q : List V → Hp → Prop} (k : KA K T B al F Qd Q) (e : Ex F F') (p : al <+: al') : KA K T B al' F' Qd Q := fun v H' al2 mu2 F2 d w x y h q => k v H' al2 mu2 F2 d w (e.trans x) (p.trans y) h q
theorem KX.mono {Zd : QX} (k : KX K T B al F sg Zd W) (e : Ex F F') (p : al <+: al') : KX K T B al' F' sg Zd W := fun C H' al2 mu2 F2 w x y q => k C H' al2 mu2 F2 w (e.trans x) (p.trans y) q
/-- the end of a rule that leaves the world -/
theorem KQ.go {Qd : QD} {Q : VK} (k : KQ K T B al F Qd Q) (w : Wo K T B al mu F H) (h : Val K al F v d) (q : Qd d mu) : Q v H := k v H al mu F d w (Ex.refl F) (List.prefix_refl _) h q
theorem KB.go {Qd : QB} {Q : Bool → Hp → Prop} {b : Bool} (k : KB K T B al F Qd Q) (w : Wo K T B al mu F H) (q : Qd b mu) : Q b H := k b H al mu F w (Ex.refl F) (List.prefix_refl _) q
/-- .. that makes a frozen object -/
theorem KQ.new {Qd : QD} {Q : VK} {p : Addr} {o : HO} {x : PyData} (k : KQ K T B al F Qd Q) (w : Wo K T B al mu F H) (hp : H p = none) (ho : ∀ ps, o ≠ .tbl ps) (h : Rp K (upd F p o) (.ref p) x) (q : Qd (.py x) mu) : Q (.ref p) (upd H p o) :=
  k _ _ al mu (upd F p o) (.py x) (w.new hp ho) (Ex.new (w.fnone hp)) (List.prefix_refl _) h q
/-- .. that makes a cell -/
theorem KQ.alloc {Qd : QD} {Q : VK} {p : Addr} {o : HO} {c : Cell} (k : KQ K T B al F Qd Q) (w : Wo K T B al mu F H) (hp : H p = none) (ho : ∀ ps, o ≠ .tbl ps) (hc : CellAt K F (upd H p o) p c) (q : Qd (.op mu.length) (mu ++ [c])) : Q (.ref p) (upd H p o) :=
  k _ _ (al ++ [p]) (mu ++ [c]) F (.op mu.length) (w.alloc hp ho hc) (Ex.refl F) (List.prefix_append _ _) ⟨p, by rw [← w.len]; simp, rfl⟩ q
theorem Vls.mono {vs : List V} {ds : List D} (e : Ex F F') (p : al <+: al') (h : Vls K al F vs ds) : Vls K al' F' vs ds := Paired.mapP h fun v d q => Val.mono e p q
/-! ### views -/
/-- a value as data: a cell's contents -/
def vw (mu : List Cell) : D → Option PyData
  | .py d => some d
  | .op j => match mu[j]? with
    | some (.lst ds) => some (.list ds)
    | some (.dk kvs) => some (.dict kvs)
    | some (.dt kvs) => some (.dict [(.none, .dict kvs)])
    | some (.lk _ _ kvs) => some (.dict kvs)
    | some (.lt _ _ kvs) => some (.dict [(.none, .dict kvs)])
    | none => none
  | .sc _ => none
  | .kt _ => none
/-- .. a written tuple too -/
def vk (mu : List Cell) : D → Option PyData
  | .kt ds => some (.tuple ds)
  | d => vw mu d
theorem vw_py {mu : List Cell} {d : PyData} : vw mu (.py d) = some d := rfl
/-- no tuple -/
def nt : PyData → Bool
  | .tuple _ => false
  | _ => true
/-- neither a list nor a dict -/
def fz : PyData → Bool
  | .list _ => false
  | .dict _ => false
  | _ => true
/-- lists -/
def lsOf : Option PyData → Option (List PyData)
  | some (.list ds) => some ds
  | _ => none
theorem view_list (w : Wo K T B al mu F H) (h : Val K al F v d) {ds : List PyData} (e : vw mu d = some (.list ds)) : ∃ a vs, v = .ref a ∧ H a = some (.lst vs) ∧ RpAll K F vs ds := by
  cases d with
  | sc _ => cases e
  | kt _ => cases e
  | py d =>
    cases e
    cases h with
    | lst h1 h2 => exact ⟨_, _, rfl, w.sub _ _ h1, h2⟩
  | op j =>
    obtain ⟨a, h1, h2⟩ := h
    cases hc : mu[j]? with
    | none => simp [vw, hc] at e
    | some c =>
      cases c with
      | lst xs =>
        simp [vw, hc] at e
        subst e
        obtain ⟨_, vs, h3, h4⟩ := w.cell j _ a hc h1
        exact ⟨a, vs, h2, h3, h4⟩
      | dk xs => simp [vw, hc] at e
      | dt xs => simp [vw, hc] at e
      | lk _ _ xs => simp [vw, hc] at e
      | lt _ _ xs => simp [vw, hc] at e
theorem view_tuple (w : Wo K T B al mu F H) (h : Val K al F v d) {ds : List PyData} (e : vw mu d = some (.tuple ds)) : ∃ a vs, v = .ref a ∧ SqT K H a vs ∧ RpAll K F vs ds ∧ F a = some (.tup vs) := by
  cases d with
  | sc _ => cases e
  | kt _ => cases e
  | py d =>
    cases e
    cases h with
    | tup h1 h2 => exact ⟨_, _, rfl, SqT.of (w.sub _ _ h1), h2, h1⟩
  | op j =>
    cases hc : mu[j]? with
    | none => simp [vw, hc] at e
    | some c => cases c <;> simp [vw, hc] at e
theorem view_flat {x : PyData} (h : Val K al F v d) (e : vw mu d = some x) (hx : fz x = true) : Rp K F v x := by
  cases d with
  | sc _ => cases e
  | kt _ => cases e
  | py d => cases e; exact h
  | op j =>
    cases hc : mu[j]? with
    | none => simp [vw, hc] at e
    | some c => cases c <;> simp [vw, hc] at e <;> subst e <;> simp [fz] at hx
theorem view_int {i : Int} (h : Val K al F v d) (e : vw mu d = some (.int i)) : v = .int i := by
  cases view_flat h e rfl
  rfl
theorem view_str {i : Str} (h : Val K al F v d) (e : vw mu d = some (.str i)) : v = .str i := by
  cases view_flat h e rfl
  rfl
theorem view_bool {i : Bool} (h : Val K al F v d) (e : vw mu d = some (.bool i)) : v = .bl i := by
  cases view_flat h e rfl
  rfl
mutual
theorem Rp.dp (e : Ex F H) : ∀ {v : V} {d : PyData}, Rp K F v d → PyData.canLay0 d = true → Dp K H v d
  | _, _, .non, _ => .non
  | _, _, .bl b, _ => .bl b
  | _, _, .int i, _ => .int i
  | _, _, .str x, _ => .str x
  | _, _, .lst h a, q => .lst (SqL.of (e _ _ h)) (RpAll.dp e a (by simpa [PyData.canLay0] using q))
  | _, _, .tup h a, q => .tup (SqT.of (e _ _ h)) (RpAll.dp e a (by simpa [PyData.canLay0] using q))
  | _, _, .dk h a, q => by simp [PyData.canLay0] at q
  | _, _, .dt h a, q => by simp [PyData.canLay0] at q
theorem RpAll.dp (e : Ex F H) : ∀ {v : List V} {d : List PyData}, RpAll K F v d → PyData.canLayAll0 d = true → DpAll K H v d
  | _, _, .nil, _ => .nil
  | _, _, .cons h a, q => by
    simp only [PyData.canLayAll0, Bool.and_eq_true] at q
    exact .cons (Rp.dp e h q.1) (RpAll.dp e a q.2)
end
theorem view_dp (w : Wo K T B al mu F H) (h : Val K al F v d) {x : PyData} (e : vw mu d = some x) (q : PyData.canLay0 x = true) : Dp K H v x := by
  cases d with
  | sc _ => cases e
  | kt _ => cases e
  | py d => cases e; exact Rp.dp w.sub h q
  | op j =>
    cases x with
    | list ds =>
      obtain ⟨a, vs, rfl, h1, h2⟩ := view_list w h e
      exact .lst (SqL.of h1) (RpAll.dp w.sub h2 (by simpa [PyData.canLay0] using q))
    | dict _ => simp [PyData.canLay0] at q
    | none => exact absurd e (by simp only [vw]; split <;> simp)
    | bool _ => exact absurd e (by simp only [vw]; split <;> simp)
    | int _ => exact absurd e (by simp only [vw]; split <;> simp)
    | str _ => exact absurd e (by simp only [vw]; split <;> simp)
    | tuple _ => exact absurd e (by simp only [vw]; split <;> simp)
end
section
variable {K : PySem.W.Frag} {T : List (Addr × Str)} {B : Base} {al : List Addr} {mu : List Cell} {F H : Hp} {v : V} {d : D}
theorem vk_tuple (w : Wo K T B al mu F H) (h : Val K al F v d) {ds : List PyData} (e : vk mu d = some (.tuple ds)) : ∃ a vs, v = .ref a ∧ SqT K H a vs ∧ RpAll K F vs ds ∧ SqT K F a vs := by
  cases d with
  | kt xs =>
    cases e
    obtain ⟨a, vs, h1, h2, h3⟩ := h
    exact ⟨a, vs, h1, ex_t w.sub h2, h3, h2⟩
  | py x =>
    obtain ⟨a, vs, h1, h2, h3, h4⟩ := view_tuple w h e
    exact ⟨a, vs, h1, h2, h3, SqT.of h4⟩
  | op x =>
    obtain ⟨a, vs, h1, h2, h3, h4⟩ := view_tuple w h e
    exact ⟨a, vs, h1, h2, h3, SqT.of h4⟩
  | sc x => cases e
theorem vk_vw {x : PyData} (e : vk mu d = some x) (hx : nt x = true) : vw mu d = some x := by
  cases d with
  | kt xs => cases e; cases hx
  | py x => exact e
  | op x => exact e
  | sc x => exact e
theorem vk_dp (w : Wo K T B al mu F H) (h : Val K al F v d) {x : PyData} (e : vk mu d = some x) (q : PyData.canLay0 x = true) : Dp K H v x := by
  cases d with
  | kt xs =>
    cases e
    obtain ⟨a, vs, rfl, h2, h3⟩ := h
    exact .tup (ex_t w.sub h2) (RpAll.dp w.sub h3 (by simpa [PyData.canLay0] using q))
  | py x => exact view_dp w h e q
  | op x => exact view_dp w h e q
  | sc x => cases e
end
/-! ### names, constants -/
def dVar (i : Nat) : TD := fun rho mu Q _ => match rho[i]? with
  | some (some d) => Q d mu
  | _ => False
def dC (d : PyData) : TD := fun _ mu Q _ => Q (.py d) mu
section
variable {X : Cx} {T : List (Addr × Str)} {W : WX} {pos : Pos}
theorem de_var {i : Nat} {x : Str} (hN : X.N[i]? = some x) (hv : Vis X.env.scope x) (hd : (x == ("__debug__" : Str)) = false := by decide) (hcd : (x == ("__classdict__" : Str)) = false := by decide) : DE X T W (.Name x pos) (dVar i) :=
  pe_imp (pe_var (i := i) hN hv hd hcd) fun sg H Q ⟨B, rho, al, mu, F, Qd, Zd, w, e, h, k, _⟩ => by
    unfold dVar at h
    split at h
    · rename_i d hd
      obtain ⟨v, h1, h2⟩ := e.at_ i d hd
      exact ⟨v, h1, k.go w h2 h⟩
    · exact h.elim
theorem de_c {e : Expr} {v : V} {d : PyData} (h : PE X e (tC v)) (r : ∀ F, Rp X.K F v d) : DE X T W e (dC d) :=
  pe_imp h fun sg H Q ⟨B, rho, al, mu, F, Qd, Zd, w, e, h, k, _⟩ => k.go (d := .py d) w (r F) h
theorem de_int {i : Int} {j} : DE X T W (.Constant (.int i) j pos) (dC (.int i)) := de_c pe_int fun _ => .int i
theorem de_bl {b : Bool} {j} : DE X T W (.Constant (.bool b) j pos) (dC (.bool b)) := de_c pe_bl fun _ => .bl b
theorem de_non {j} : DE X T W (.Constant .none j pos) (dC .none) := de_c pe_non fun _ => .non
theorem de_str {x : Str} {j} : DE X T W (.Constant (.str x) j pos) (dC (.str x)) := de_c pe_str fun _ => .str x
/-- a module's constant -/
theorem de_glob {x : Str} {u : Value} {v : V} {d : PyData} (hg : Gl X x) (hm : X.mg x = some u) (r : RelV v u) (hr : ∀ F, Rp X.K F v d) (hd : (x == ("__debug__" : Str)) = false := by decide) : DE X T W (.Name x pos) (dC d) :=
  de_c (pe_glob hg hm r hd) hr
end
/-! ### two-place operations -/
abbrev O2 := D → D → List Cell → QD → Prop
section
variable (K : PySem.W.Frag) (T : List (Addr × Str))
def OpD (r : R2) (o : O2) : Prop := ∀ (B : Base) (al : List Addr) (mu : List Cell) (F H : Hp) (x y : V) (d1 d2 : D) (Qd : QD) (Q : VK), Wo K T B al mu F H → Val K al F x d1 → Val K al F y d2 → o d1 d2 mu Qd → KQ K T B al F Qd Q → r x y H Q
end
def dOp (o : O2) (ta tb : TD) : TD := fun rho mu Q Z => ta rho mu (fun x mu1 => tb rho mu1 (fun y mu2 => o x y mu2 Q) Z) Z
section
variable {X : Cx} {T : List (Addr × Str)} {W : WX} {pos : Pos} {a b c : Expr} {ta tb tc : TD} {r r' : R2} {o o' : O2}
theorem bin_imp {R : V → V → Hp → Prop} {K : PySem.W.Frag} {T : List (Addr × Str)} {B : Base} {al : List Addr} {mu : List Cell} {F H : Hp} {rho : DEnv} {sg : L2.St} {G : D → D → List Cell → Prop} {Zd : QX}
    (w : Wo K T B al mu F H) (e : En K rho sg al F) (kx : KX K T B al F sg Zd W) (h : ta rho mu (fun x mu1 => tb rho mu1 (fun y mu2 => G x y mu2) Zd) Zd)
    (k : ∀ x y H' al' mu' F' d1 d2, Wo K T B al' mu' F' H' → Ex F F' → al <+: al' → Val K al' F' x d1 → Val K al' F' y d2 → G d1 d2 mu' → R x y H') :
    liftE K T W ta sg H fun x H1 => liftE K T W tb sg H1 fun y H2 => R x y H2 :=
  ⟨B, rho, al, mu, F, _, Zd, w, e, h, fun v H1 al1 mu1 F1 d1 w1 e1 p1 v1 h1 =>
    ⟨B, rho, al1, mu1, F1, _, Zd, w1, e.mono e1 p1, h1, fun u H2 al2 mu2 F2 d2 w2 e2 p2 v2 h2 => k v u H2 al2 mu2 F2 d1 d2 w2 (e1.trans e2) (p1.trans p2) (v1.mono e2 p2) v2 h2, kx.mono e1 p1⟩, kx⟩
theorem op_imp (ho : OpD X.K T r o) (sg : L2.St) (H : Hp) (Q : VK) (h : liftE X.K T W (dOp o ta tb) sg H Q) : tOp r (liftE X.K T W ta) (liftE X.K T W tb) sg H Q := by
  obtain ⟨B, rho, al, mu, F, Qd, Zd, w, e, h, k, kx⟩ := h
  exact bin_imp (R := fun x y H2 => r x y H2 Q) w e kx h fun x y H' al' mu' F' d1 d2 w' e' p' v1 v2 q => ho B al' mu' F' H' x y d1 d2 Qd Q w' v1 v2 q (k.mono e' p')
theorem de_op {op : Operator} (hr : OpR X (binaryOp op) r) (ho : OpD X.K T r o) (ha : DE X T W a ta) (hb : DE X T W b tb) : DE X T W (.BinOp a op b pos) (dOp o ta tb) :=
  pe_imp (pe_op hr ha hb) (op_imp ho)
theorem de_cmp {op : CmpOp} (hr : OpR X (compareOp op) r) (ho : OpD X.K T r o) (ha : DE X T W a ta) (hb : DE X T W b tb) (hm : behindInMarks op b = false) : DE X T W (.Compare a [op] [b] pos) (dOp o ta tb) :=
  pe_imp (pe_cmpR hr ha hb hm) (op_imp ho)
/-- an expression's bool as a test -/
def dTb (t : TD) : TDB := fun rho mu Q Z => t rho mu (fun d mu1 => match d with
  | .py (.bool b) => Q b mu1
  | _ => False) Z
theorem tb_imp {t : TD} (sg : L2.St) (H : Hp) (Q : Bool → Hp → Prop) (h : liftT X.K T W (dTb t) sg H Q) : tTest (liftE X.K T W t) sg H Q := by
  obtain ⟨B, rho, al, mu, F, Qd, Zd, w, e, h, k, kx⟩ := h
  refine ⟨B, rho, al, mu, F, _, Zd, w, e, h, fun v H1 al1 mu1 F1 d1 w1 e1 p1 v1 h1 => ?_, kx⟩
  try dsimp only at h1
  split at h1
  · rename_i b
    cases v1
    exact ⟨b, rfl, (k.mono e1 p1).go w1 h1⟩
  · exact h1.elim
theorem dt_cmp {op : CmpOp} (hr : OpR X (compareOp op) r) (ho : OpD X.K T r o) (ha : DE X T W a ta) (hb : DE X T W b tb) (hm : behindInMarks op b = false) : DT X T W (.Compare a [op] [b] pos) (dTb (dOp o ta tb)) :=
  pt_imp (pt_cmpR hr ha hb hm) fun sg H Q h => by
    have h2 := tb_imp sg H Q h
    exact op_imp ho sg H _ h2
theorem dt_val {t : TD} (h : DE X T W a t) (he : ∀ whole, isTrue a X.env whole = (do let v ← whole; standAt a.pos; holding [v] (truthy v)) := by intro _; rfl) : DT X T W a (dTb t) :=
  pt_imp (pt_val h he) fun sg H Q h => tb_imp sg H Q h
/-- a op b op' c -/
def dChain (o o' : O2) (ta tb tc : TD) : TD := fun rho mu Q Z => ta rho mu (fun x mu1 => tb rho mu1 (fun y mu2 => o x y mu2 fun z mu3 => match z with
  | .py (.bool b) => if b = true then tc rho mu3 (fun u mu4 => o' y u mu4 Q) Z else Q (.py (.bool false)) mu3
  | _ => False) Z) Z
theorem chain_imp (ho : OpD X.K T r o) (ho' : OpD X.K T r' o') (sg : L2.St) (H : Hp) (Q : VK) (h : liftE X.K T W (dChain o o' ta tb tc) sg H Q) : tChain r r' (liftE X.K T W ta) (liftE X.K T W tb) (liftE X.K T W tc) sg H Q := by
  obtain ⟨B, rho, al, mu, F, Qd, Zd, w, e, h, k, kx⟩ := h
  refine bin_imp (R := fun x y H2 => r x y H2 fun z H3 => ∃ k, z = .bl k ∧ (if k = true then liftE X.K T W tc sg H3 fun w' H4 => r' y w' H4 Q else Q (.bl false) H3)) w e kx h fun x y H' al' mu' F' d1 d2 w' e' p' v1 v2 q => ?_
  refine ho B al' mu' F' H' x y d1 d2 _ _ w' v1 v2 q fun z H3 al3 mu3 F3 dz w3 e3 p3 v3 h3 => ?_
  try dsimp only at h3
  split at h3
  · rename_i b
    cases v3
    refine ⟨b, rfl, ?_⟩
    cases b with
    | true =>
      rw [if_pos rfl] at h3 ⊢
      refine ⟨B, rho, al3, mu3, F3, _, Zd, w3, (e.mono e' p').mono e3 p3, h3, fun u H4 al4 mu4 F4 d4 w4 e4 p4 v4 h4 => ?_, (kx.mono e' p').mono e3 p3⟩
      exact ho' B al4 mu4 F4 H4 y u d2 d4 Qd Q w4 ((v2.mono e3 p3).mono e4 p4) v4 h4 (((k.mono e' p').mono e3 p3).mono e4 p4)
    | false =>
      rw [if_neg Bool.false_ne_true] at h3 ⊢
      exact ((k.mono e' p').mono e3 p3).go (d := .py (.bool false)) w3 (.bl false) h3
  · exact h3.elim
theorem de_chain {op op' : CmpOp} (hr : OpR X (compareOp op) r) (hr' : OpR X (compareOp op') r') (ho : OpD X.K T r o) (ho' : OpD X.K T r' o') (ha : DE X T W a ta) (hb : DE X T W b tb) (hc : DE X T W c tc)
    (hm : lastMarks [op, op'] [b, c] = false := by with_unfolding_all rfl) : DE X T W (.Compare a [op, op'] [b, c] pos) (dChain o o' ta tb tc) :=
  pe_imp (pe_chain hr hr' ha hb hc hm) (chain_imp ho ho')
theorem dt_chain {op op' : CmpOp} (hr : OpR X (compareOp op) r) (hr' : OpR X (compareOp op') r') (ho : OpD X.K T r o) (ho' : OpD X.K T r' o') (ha : DE X T W a ta) (hb : DE X T W b tb) (hc : DE X T W c tc)
    (hm : lastMarks [op, op'] [b, c] = false := by with_unfolding_all rfl) : DT X T W (.Compare a [op, op'] [b, c] pos) (dTb (dChain o o' ta tb tc)) :=
  pt_imp (pt_chain hr hr' ha hb hc hm) fun sg H Q h => by
    have h2 := tb_imp sg H Q h
    exact chain_imp ho ho' sg H _ h2
end
/-! ### the operations -/
def oII (f : Int → Int → PyData) : O2 := fun x y mu Q => match x, y with
  | .py (.int a), .py (.int b) => Q (.py (f a b)) mu
  | _, _ => False
def oIIc (C : Int → Int → Prop) (f : Int → Int → PyData) : O2 := fun x y mu Q => match x, y with
  | .py (.int a), .py (.int b) => C a b ∧ Q (.py (f a b)) mu
  | _, _ => False
section
variable {K : PySem.W.Frag} {T : List (Addr × Str)}
theorem od_I0 {g : Int → Int → V} {f : Int → Int → PyData} (hg : ∀ F i j, Rp K F (g i j) (f i j)) : OpD K T (rI0 g) (oII f) := by
  intro B al mu F H x y d1 d2 Qd Q w v1 v2 h k
  unfold oII at h
  split at h
  · cases v1; cases v2
    exact ⟨_, _, rfl, rfl, k.go (d := .py _) w (hg F _ _) h⟩
  · exact h.elim
theorem od_I {C : Int → Int → Prop} {g : Int → Int → V} {f : Int → Int → PyData} (hg : ∀ F i j, Rp K F (g i j) (f i j)) : OpD K T (rI C g) (oIIc C f) := by
  intro B al mu F H x y d1 d2 Qd Q w v1 v2 h k
  unfold oIIc at h
  split at h
  · cases v1; cases v2
    exact ⟨_, _, rfl, rfl, h.1, k.go (d := .py _) w (hg F _ _) h.2⟩
  · exact h.elim
end
abbrev oSub : O2 := oII fun a b => .int (a - b)
abbrev oMul : O2 := oIIc CMul fun a b => .int (a * b)
abbrev oDiv : O2 := oIIc CDiv fun a b => .int (a / b)
abbrev oMod : O2 := oIIc (fun _ b => 0 < b) fun a b => .int (a % b)
abbrev oXor : O2 := oII fun a b => .int (Builtin.bitXor a b)
abbrev oLt : O2 := oII fun a b => .bool (decide (a < b))
abbrev oLe : O2 := oII fun a b => .bool (decide (a ≤ b))
abbrev oGt : O2 := oII fun a b => .bool (decide (b < a))
abbrev oGe : O2 := oII fun a b => .bool (decide (b ≤ a))
section
variable {K : PySem.W.Frag} {T : List (Addr × Str)}
theorem od_sub : OpD K T (rI0 fun i j => .int (i - j)) oSub := od_I0 fun _ _ _ => .int _
theorem od_mul : OpD K T (rI CMul fun i j => .int (i * j)) oMul := od_I fun _ _ _ => .int _
theorem od_div : OpD K T (rI CDiv fun i j => .int (i / j)) oDiv := od_I fun _ _ _ => .int _
theorem od_mod : OpD K T (rI (fun _ j => 0 < j) fun i j => .int (i % j)) oMod := od_I fun _ _ _ => .int _
theorem od_xor : OpD K T (rI0 fun i j => .int (Builtin.bitXor i j)) oXor := od_I0 fun _ _ _ => .int _
theorem od_lt : OpD K T (rI0 fun i j => .bl (decide (i < j))) oLt := od_I0 fun _ _ _ => .bl _
theorem od_le : OpD K T (rI0 fun i j => .bl (decide (i ≤ j))) oLe := od_I0 fun _ _ _ => .bl _
theorem od_gt : OpD K T (rI0 fun i j => .bl (decide (j < i))) oGt := od_I0 fun _ _ _ => .bl _
theorem od_ge : OpD K T (rI0 fun i j => .bl (decide (j ≤ i))) oGe := od_I0 fun _ _ _ => .bl _
end
/-- + : ints, texts, tuples, lists (a new list) -/
def oAdd : O2 := fun x y mu Q => match vw mu x, vw mu y with
  | some (.int a), some (.int b) => Q (.py (.int (a + b))) mu
  | some (.str a), some (.str b) => a.length + b.length ≤ sizeLine ∧ Q (.py (.str (a ++ b))) mu
  | some (.tuple a), some (.tuple b) => a.length + b.length ≤ sizeLine ∧ Q (.py (.tuple (a ++ b))) mu
  | some (.list a), some (.list b) => a.length + b.length ≤ sizeLine ∧ Q (.py (.list (a ++ b))) mu
  | _, _ => False
section
variable {K : PySem.W.Frag} {T : List (Addr × Str)}
abbrev rAddS : R2 := fun x y H Q => ∃ i j, x = V.str i ∧ y = V.str j ∧ i.length + j.length ≤ sizeLine ∧ Q (.str (i ++ j)) H
def rAdd4 (K : PySem.W.Frag) : R2 := fun x y H Q => rI0 (fun i j => .int (i + j)) x y H Q ∨ rAddS x y H Q ∨ rCatA K x y H Q ∨ rCat x y H Q
theorem op_add4 {X : Cx} : OpR X (binaryOp .Add) (rAdd4 X.K) := op_add.or (op_add_str.or (op_catA.or op_cat))
theorem RpAll.nil_iff {F : Hp} {vs : List V} {ds : List PyData} (h : RpAll K F vs ds) : vs = [] ↔ ds = [] := by
  cases h with
  | nil => simp
  | cons _ _ => simp
theorem view_tupF {B : Base} {al : List Addr} {mu : List Cell} {F H : Hp} {v : V} {d : D} (w : Wo K T B al mu F H) (h : Val K al F v d) {ds : List PyData} (e : vw mu d = some (.tuple ds)) : Rp K F v (.tuple ds) := view_flat h e rfl
theorem od_add : OpD K T (rAdd4 K) oAdd := by
  intro B al mu F H x y d1 d2 Qd Q w v1 v2 h k
  unfold oAdd at h
  split at h
  · rename_i a b e1 e2
    cases view_int v1 e1
    cases view_int v2 e2
    exact .inl ⟨_, _, rfl, rfl, k.go (d := .py _) w (.int _) h⟩
  · rename_i a b e1 e2
    cases view_str v1 e1
    cases view_str v2 e2
    exact .inr (.inl ⟨_, _, rfl, rfl, h.1, k.go (d := .py _) w (.str _) h.2⟩)
  · rename_i a b e1 e2
    obtain ⟨p, vs, rfl, h1, h2, h3⟩ := view_tuple w v1 e1
    obtain ⟨q, us, rfl, g1, g2, g3⟩ := view_tuple w v2 e2
    refine .inr (.inr (.inl ⟨p, q, vs, us, rfl, rfl, h1, g1, by rw [h2.length, g2.length]; exact h.1, fun z => ?_, fun z1 z2 => ?_, fun z1 z2 n hn => ?_⟩))
    · have z' := h2.nil_iff.mp z
      subst z'
      exact k.go (d := .py _) w (view_tupF w v2 e2) h.2
    · have z' := g2.nil_iff.mp z2
      subst z'
      rw [List.append_nil] at h
      exact k.go (d := .py _) w (view_tupF w v1 e1) h.2
    · exact k.new w hn (fun _ z => by cases z) (.tup upd_same ((h2.app g2).mono (Ex.new (w.fnone hn)))) h.2
  · rename_i a b e1 e2
    obtain ⟨p, vs, rfl, h1, h2⟩ := view_list w v1 e1
    obtain ⟨q, us, rfl, g1, g2⟩ := view_list w v2 e2
    refine .inr (.inr (.inr ⟨p, q, vs, us, rfl, rfl, h1, g1, by rw [h2.length, g2.length]; exact h.1, fun n hn => ?_⟩))
    exact k.new w hn (fun _ z => by cases z) (.lst upd_same ((h2.app g2).mono (Ex.new (w.fnone hn)))) h.2
  · exact h.elim
end
/-! ### == and !=: data without dicts -/
/-- plain data: a None, a bool, an int, a text: no more is asked -/
def scP : PyData → PyData → Bool
  | .int _, .int _ => true
  | .str _, .str _ => true
  | .bool _, .bool _ => true
  | .none, .none => true
  | .none, .int _ => true
  | .int _, .none => true
  | .none, .str _ => true
  | .str _, .none => true
  | .none, .bool _ => true
  | .bool _, .none => true
  | .int _, .str _ => true
  | .str _, .int _ => true
  | .bool _, .str _ => true
  | .str _, .bool _ => true
  | _, _ => false
def eqOk (a b : PyData) : Prop := scP a b = true ∨ (SeqAt.shaped a = true ∧ SeqAt.shaped b = true)
def oEqB (neg : Bool) : O2 := fun x y mu Q => match vk mu x, vk mu y with
  | some a, some b => eqOk a b ∧ Q (.py (.bool (if neg then !PyData.eqv a b else PyData.eqv a b))) mu
  | _, _ => False
abbrev oEq : O2 := oEqB false
abbrev oNe : O2 := oEqB true
section
variable {K : PySem.W.Frag} {T : List (Addr × Str)}
def rEq2 (K : PySem.W.Frag) : R2 := fun x y H Q => rEq x y H Q ∨ rEqD K x y H Q
def rNe2 (K : PySem.W.Frag) : R2 := fun x y H Q => rNe x y H Q ∨ rNeD K x y H Q
theorem op_eq2 {X : Cx} (hu : X.A.units + 64 < cLine) : OpR X (compareOp .Eq) (rEq2 X.K) := op_eq.or (op_eqD hu)
theorem op_ne2 {X : Cx} (hu : X.A.units + 64 < cLine) : OpR X (compareOp .NotEq) (rNe2 X.K) := op_ne.or (op_neD hu)
theorem scP_eq {F : Hp} {x y : V} {a b : PyData} (h : scP a b = true) (r1 : Rp K F x a) (r2 : Rp K F y b) : scal x y = true ∧ PyData.eqv a b = decide (x = y) := by
  cases r1 <;> cases r2 <;> simp [scP] at h <;> (refine ⟨rfl, ?_⟩; simp [PyData.eqv]; try rw [Bool.eq_iff_iff]; try simp)
theorem shaped_lay {a : PyData} (h : SeqAt.shaped a = true) : PyData.canLay0 a = true := SeqAt.canLay_of_shaped h
theorem scP_flat {a b : PyData} (h : scP a b = true) : fz a = true ∧ fz b = true := by
  cases a <;> cases b <;> simp [scP, fz] at h ⊢
theorem scP_nt {a b : PyData} (h : scP a b = true) : nt a = true ∧ nt b = true := by
  cases a <;> cases b <;> simp [scP, nt] at h ⊢
theorem od_eqB {neg : Bool} {r r' : R2} (hr : r = if neg then rNe else rEq) (hr' : r' = if neg then rNeD K else rEqD K) : OpD K T (fun x y H Q => r x y H Q ∨ r' x y H Q) (oEqB neg) := by
  intro B al mu F H x y d1 d2 Qd Q w v1 v2 h k
  unfold oEqB at h
  split at h
  · rename_i a b e1 e2
    obtain ⟨hk, hq⟩ := h
    rcases hk with hk | ⟨s1, s2⟩
    · refine .inl ?_
      obtain ⟨f1, f2⟩ := scP_flat hk
      obtain ⟨q1, q2⟩ := scP_eq hk (view_flat v1 (vk_vw e1 (scP_nt hk).1) f1) (view_flat v2 (vk_vw e2 (scP_nt hk).2) f2)
      subst hr
      rw [q2] at hq
      cases neg with
      | false => exact ⟨q1, k.go (d := .py _) w (.bl _) hq⟩
      | true => exact ⟨q1, k.go (d := .py _) w (.bl _) hq⟩
    · refine .inr ?_
      have p1 := vk_dp w v1 e1 (shaped_lay s1)
      have p2 := vk_dp w v2 e2 (shaped_lay s2)
      subst hr'
      cases neg with
      | false => exact ⟨a, b, p1, p2, s1, s2, k.go (d := .py _) w (.bl _) hq⟩
      | true => exact ⟨a, b, p1, p2, s1, s2, k.go (d := .py _) w (.bl _) hq⟩
  · exact h.elim
theorem od_eq : OpD K T (rEq2 K) oEq := od_eqB (neg := false) rfl rfl
theorem od_ne : OpD K T (rNe2 K) oNe := od_eqB (neg := true) rfl rfl
end
/-! ### is None -/
def isNon : D → Bool
  | .py .none => true
  | _ => false
def oIsN : O2 := fun x y mu Q => match y with
  | .py .none => Q (.py (.bool (isNon x))) mu
  | _ => False
def oNotN : O2 := fun x y mu Q => match y with
  | .py .none => Q (.py (.bool (!isNon x))) mu
  | _ => False
section
variable {K : PySem.W.Frag} {T : List (Addr × Str)}
theorem none_val {al : List Addr} {F : Hp} {v : V} {d : D} (h : Val K al F v d) : decide (v = .non) = isNon d := by
  cases d with
  | py d => cases h <;> simp [isNon]
  | op j => obtain ⟨a, _, rfl⟩ := h; simp [isNon]
  | sc ds => obtain ⟨a, _, rfl, _⟩ := h; simp [isNon]
  | kt ds => obtain ⟨a, _, rfl, _⟩ := h; simp [isNon]
theorem od_isN : OpD K T (fun x y H Q => y = .non ∧ Q (.bl (decide (x = .non))) H) oIsN := by
  intro B al mu F H x y d1 d2 Qd Q w v1 v2 h k
  unfold oIsN at h
  split at h
  · cases v2
    refine ⟨rfl, ?_⟩
    rw [none_val v1]
    exact k.go (d := .py _) w (.bl _) h
  · exact h.elim
theorem od_notN : OpD K T (fun x y H Q => y = .non ∧ Q (.bl (!decide (x = .non))) H) oNotN := by
  intro B al mu F H x y d1 d2 Qd Q w v1 v2 h k
  unfold oNotN at h
  split at h
  · cases v2
    refine ⟨rfl, ?_⟩
    rw [none_val v1]
    exact k.go (d := .py _) w (.bl _) h
  · exact h.elim
end
/-! ### in: lists and tuples of flat things, lists of any data, signs and texts in texts -/
def flatD : PyData → Bool
  | .none => true
  | .bool _ => true
  | .int _ => true
  | .str _ => true
  | _ => false
def inD (x : PyData) (ds : List PyData) : Bool := ds.any fun z => PyData.eqv z x
def oInB (neg : Bool) : O2 := fun x y mu Q => match vw mu x, vk mu y with
  | some a, some (.list ds) => ((flatD a = true ∧ ds.all flatD = true) ∨ (SeqAt.shaped a = true ∧ SeqAt.shaped (.list ds) = true)) ∧ Q (.py (.bool (if neg then !inD a ds else inD a ds))) mu
  | some a, some (.tuple ds) => (flatD a = true ∧ ds.all flatD = true) ∧ Q (.py (.bool (if neg then !inD a ds else inD a ds))) mu
  | some (.str a), some (.str b) => ∃ c : Nat, a = ⟨#[c]⟩ ∧ Q (.py (.bool (if neg then !decide (c ∈ b.cps.toList) else decide (c ∈ b.cps.toList)))) mu
  | _, _ => False
abbrev oIn : O2 := oInB false
abbrev oNotIn : O2 := oInB true
section
variable {K : PySem.W.Frag} {T : List (Addr × Str)}
abbrev rInC : R2 := fun x y H Q => ∃ (c : Nat) (z : Str), x = V.str ⟨#[c]⟩ ∧ y = V.str z ∧ Q (.bl (decide (c ∈ z.cps.toList))) H
abbrev rNotInC : R2 := fun x y H Q => ∃ (c : Nat) (z : Str), x = V.str ⟨#[c]⟩ ∧ y = V.str z ∧ Q (.bl (!decide (c ∈ z.cps.toList))) H
def rIn3 (K : PySem.W.Frag) : R2 := fun x y H Q => rIn K false x y H Q ∨ rInD K x y H Q ∨ rInC x y H Q
def rNotIn3 (K : PySem.W.Frag) : R2 := fun x y H Q => rIn K true x y H Q ∨ rNotInD K x y H Q ∨ rNotInC x y H Q
theorem op_in3 {X : Cx} (hu : X.A.units + 65 < cLine) : OpR X (compareOp .In) (rIn3 X.K) := op_in_seq.or ((op_inD hu).or op_in_sign)
theorem op_notin3 {X : Cx} (hu : X.A.units + 65 < cLine) : OpR X (compareOp .NotIn) (rNotIn3 X.K) := op_notIn_seq.or ((op_notInD hu).or op_notIn_sign)
theorem rp_flat {F : Hp} {v : V} {d : PyData} (h : Rp K F v d) (e : flatD d = true) : flatV v = true := by
  cases h <;> first | rfl | simp [flatD] at e
theorem rp_flats {F : Hp} : ∀ {vs : List V} {ds : List PyData}, RpAll K F vs ds → ds.all flatD = true → vs.all flatV = true
  | _, _, .nil, _ => rfl
  | _, _, .cons h a, e => by
    simp only [List.all_cons, Bool.and_eq_true] at e ⊢
    exact ⟨rp_flat h e.1, rp_flats a e.2⟩
theorem eqv_flat {F : Hp} {x y : V} {a b : PyData} (r1 : Rp K F x a) (r2 : Rp K F y b) (h1 : flatD a = true) (h2 : flatD b = true) : eqV x y = PyData.eqv a b := by
  cases r1 <;> simp [flatD] at h1 <;> cases r2 <;> simp [flatD] at h2 <;> first | rfl | simp [eqV, PyData.eqv]
theorem inV_flat {F : Hp} {x : V} {a : PyData} (r1 : Rp K F x a) (h1 : flatD a = true) : ∀ {vs : List V} {ds : List PyData}, RpAll K F vs ds → ds.all flatD = true → inV x vs = inD a ds
  | _, _, .nil, _ => rfl
  | _, _, .cons h r, e => by
    simp only [List.all_cons, Bool.and_eq_true] at e
    have ih := inV_flat r1 h1 r e.2
    unfold inV inD at ih ⊢
    rw [List.any_cons, List.any_cons, ih, eqv_flat h r1 e.1 h1]
theorem od_inB {neg : Bool} {r : R2} (hr : r = fun x y H Q => rIn K neg x y H Q ∨ (if neg then rNotInD K else rInD K) x y H Q ∨ (if neg then rNotInC else rInC) x y H Q) : OpD K T r (oInB neg) := by
  subst hr
  intro B al mu F H x y d1 d2 Qd Q w v1 v2 h k
  unfold oInB at h
  split at h
  · rename_i a ds e1 e2
    obtain ⟨hc, hq⟩ := h
    rcases hc with ⟨c1, c2⟩ | ⟨c1, c2⟩
    · obtain ⟨p, vs, rfl, h1, h2⟩ := view_list w v2 (vk_vw e2 rfl)
      have f1 := view_flat v1 e1 (by cases a <;> simp [flatD, fz] at c1 ⊢)
      refine .inl ⟨p, vs, rfl, .inl (SqL.of h1), rp_flat f1 c1, rp_flats h2 c2, ?_⟩
      rw [inV_flat f1 c1 h2 c2]
      exact k.go (d := .py _) w (.bl _) hq
    · refine .inr (.inl ?_)
      have p1 := view_dp w v1 e1 (shaped_lay c1)
      have p2 := vk_dp w v2 e2 (shaped_lay c2)
      cases neg with
      | false => exact ⟨a, ds, p1, p2, c1, c2, k.go (d := .py _) w (.bl _) hq⟩
      | true => exact ⟨a, ds, p1, p2, c1, c2, k.go (d := .py _) w (.bl _) hq⟩
  · rename_i a ds e1 e2
    obtain ⟨⟨c1, c2⟩, hq⟩ := h
    obtain ⟨p, vs, rfl, h1, h2, _⟩ := vk_tuple w v2 e2
    have f1 := view_flat v1 e1 (by cases a <;> simp [flatD, fz] at c1 ⊢)
    refine .inl ⟨p, vs, rfl, .inr h1, rp_flat f1 c1, rp_flats h2 c2, ?_⟩
    rw [inV_flat f1 c1 h2 c2]
    exact k.go (d := .py _) w (.bl _) hq
  · rename_i a b e1 e2
    obtain ⟨c, hc, hq⟩ := h
    subst hc
    cases view_str v1 e1
    cases view_str v2 (vk_vw e2 rfl)
    refine .inr (.inr ?_)
    cases neg with
    | false => exact ⟨c, b, rfl, rfl, k.go (d := .py _) w (.bl _) hq⟩
    | true => exact ⟨c, b, rfl, rfl, k.go (d := .py _) w (.bl _) hq⟩
  · exact h.elim
theorem od_in : OpD K T (rIn3 K) oIn := od_inB (neg := false) rfl
theorem od_notin : OpD K T (rNotIn3 K) oNotIn := od_inB (neg := true) rfl
end
end DL
set_option Elab.async false
set_option linter.all false
set_option maxRecDepth 100000
set_option maxHeartbeats 1000000
/-! DL, expressions, further: tests, displays, subscripts, slices, built-ins by name, methods. -/
namespace DL
open PySem PySem.Spec PyProof.Rows L2
/-! ### tests -/
def dAnd (t u : TDB) : TDB := fun rho mu Q Z => t rho mu (fun b mu1 => if b = true then u rho mu1 Q Z else Q false mu1) Z
def dOr (t u : TDB) : TDB := fun rho mu Q Z => t rho mu (fun b mu1 => if b = true then Q true mu1 else u rho mu1 Q Z) Z
def dNot (t : TDB) : TDB := fun rho mu Q Z => t rho mu (fun b mu1 => Q (!b) mu1) Z
abbrev DW (X : Cx) (T : List (Addr × Str)) (W : WX) (e : Expr) (t : TDB) : Prop := PW X e (liftT X.K T W t)
theorem pw_imp {X : Cx} {e : Expr} {t t' : TT} (h : PW X e t) (i : ∀ sg H Q, t' sg H Q → t sg H Q) : PW X e t' := ⟨fun wh pins s sg H Q I q => h.run wh pins s sg H Q I (i _ _ _ q)⟩
section
variable {X : Cx} {T : List (Addr × Str)} {W : WX} {pos : Pos} {a b c : Expr} {rest : List Expr} {t u : TDB} {ta tb : TD}
theorem if_imp {K : PySem.W.Frag} {B : Base} {al : List Addr} {mu : List Cell} {F H : Hp} {rho : DEnv} {sg : L2.St} {P1 P2 : List Cell → Prop} {R1 R2 : Hp → Prop} {Zd : QX}
    (w : Wo K T B al mu F H) (e : En K rho sg al F) (kx : KX K T B al F sg Zd W) (h : t rho mu (fun b mu1 => if b = true then P1 mu1 else P2 mu1) Zd)
    (k1 : ∀ H' al' mu' F', Wo K T B al' mu' F' H' → Ex F F' → al <+: al' → P1 mu' → R1 H') (k2 : ∀ H' al' mu' F', Wo K T B al' mu' F' H' → Ex F F' → al <+: al' → P2 mu' → R2 H') :
    liftT K T W t sg H fun b H1 => if b = true then R1 H1 else R2 H1 :=
  ⟨B, rho, al, mu, F, _, Zd, w, e, h, fun b H1 al1 mu1 F1 w1 e1 p1 h1 => by
    cases b with
    | true => rw [if_pos rfl] at h1 ⊢; exact k1 H1 al1 mu1 F1 w1 e1 p1 h1
    | false => rw [if_neg Bool.false_ne_true] at h1 ⊢; exact k2 H1 al1 mu1 F1 w1 e1 p1 h1, kx⟩
theorem dw_and1 (h : DT X T W a t) : DW X T W (.BoolOp .And [a] pos) t := pw_and1 h
theorem dw_or1 (h : DT X T W a t) : DW X T W (.BoolOp .Or [a] pos) t := pw_or1 h
theorem dw_and (ha : DT X T W a t) (hb : DW X T W (.BoolOp .And (b :: rest) pos) u) : DW X T W (.BoolOp .And (a :: b :: rest) pos) (dAnd t u) :=
  pw_imp (pw_and ha hb) fun sg H Q ⟨B, rho, al, mu, F, Qd, Zd, w, e, h, k, kx⟩ =>
    if_imp w e kx h (fun H' al' mu' F' w' e' p' q => ⟨B, rho, al', mu', F', Qd, Zd, w', e.mono e' p', q, k.mono e' p', kx.mono e' p'⟩) fun H' al' mu' F' w' e' p' q => (k.mono e' p').go w' q
theorem dw_or (ha : DT X T W a t) (hb : DW X T W (.BoolOp .Or (b :: rest) pos) u) : DW X T W (.BoolOp .Or (a :: b :: rest) pos) (dOr t u) :=
  pw_imp (pw_or ha hb) fun sg H Q ⟨B, rho, al, mu, F, Qd, Zd, w, e, h, k, kx⟩ =>
    if_imp w e kx h (fun H' al' mu' F' w' e' p' q => (k.mono e' p').go w' q) fun H' al' mu' F' w' e' p' q => ⟨B, rho, al', mu', F', Qd, Zd, w', e.mono e' p', q, k.mono e' p', kx.mono e' p'⟩
theorem dt_not (ha : DT X T W a t) : DT X T W (.UnaryOp .Not a pos) (dNot t) :=
  pt_imp (pt_not ha) fun sg H Q ⟨B, rho, al, mu, F, Qd, Zd, w, e, h, k, kx⟩ => ⟨B, rho, al, mu, F, _, Zd, w, e, h, fun b H1 al1 mu1 F1 w1 e1 p1 h1 => (k.mono e1 p1).go w1 h1, kx⟩
/-- values: and, or, not of truth values -/
def dAndV (ta tb : TD) : TD := fun rho mu Q Z => ta rho mu (fun d mu1 => match d with
  | .py (.bool b) => if b = true then tb rho mu1 Q Z else Q (.py (.bool false)) mu1
  | _ => False) Z
def dOrV (ta tb : TD) : TD := fun rho mu Q Z => ta rho mu (fun d mu1 => match d with
  | .py (.bool b) => if b = true then Q (.py (.bool true)) mu1 else tb rho mu1 Q Z
  | _ => False) Z
def dNotV (ta : TD) : TD := fun rho mu Q Z => ta rho mu (fun d mu1 => match d with
  | .py (.bool b) => Q (.py (.bool (!b))) mu1
  | _ => False) Z
theorem de_and1 {op : BoolOp} (h : DE X T W a ta) : DE X T W (.BoolOp op [a] pos) ta := pe_one h
theorem de_and (ha : DE X T W a ta) (hb : DE X T W (.BoolOp .And (b :: rest) pos) tb) : DE X T W (.BoolOp .And (a :: b :: rest) pos) (dAndV ta tb) :=
  pe_imp (pe_and ha hb) fun sg H Q ⟨B, rho, al, mu, F, Qd, Zd, w, e, h, k, kx⟩ => ⟨B, rho, al, mu, F, _, Zd, w, e, h, fun v H1 al1 mu1 F1 d1 w1 e1 p1 v1 h1 => by
    try dsimp only at h1
    split at h1
    · rename_i b
      cases v1
      refine ⟨b, rfl, ?_⟩
      cases b with
      | true => rw [if_pos rfl] at h1 ⊢; exact ⟨B, rho, al1, mu1, F1, Qd, Zd, w1, e.mono e1 p1, h1, k.mono e1 p1, kx.mono e1 p1⟩
      | false => rw [if_neg Bool.false_ne_true] at h1 ⊢; exact (k.mono e1 p1).go (d := .py _) w1 (.bl _) h1
    · exact h1.elim, kx⟩
theorem de_or (ha : DE X T W a ta) (hb : DE X T W (.BoolOp .Or (b :: rest) pos) tb) : DE X T W (.BoolOp .Or (a :: b :: rest) pos) (dOrV ta tb) :=
  pe_imp (pe_or ha hb) fun sg H Q ⟨B, rho, al, mu, F, Qd, Zd, w, e, h, k, kx⟩ => ⟨B, rho, al, mu, F, _, Zd, w, e, h, fun v H1 al1 mu1 F1 d1 w1 e1 p1 v1 h1 => by
    try dsimp only at h1
    split at h1
    · rename_i b
      cases v1
      refine ⟨b, rfl, ?_⟩
      cases b with
      | false => rw [if_neg Bool.false_ne_true] at h1 ⊢; exact ⟨B, rho, al1, mu1, F1, Qd, Zd, w1, e.mono e1 p1, h1, k.mono e1 p1, kx.mono e1 p1⟩
      | true => rw [if_pos rfl] at h1 ⊢; exact (k.mono e1 p1).go (d := .py _) w1 (.bl _) h1
    · exact h1.elim, kx⟩
theorem de_not (ha : DE X T W a ta) : DE X T W (.UnaryOp .Not a pos) (dNotV ta) :=
  pe_imp (pe_not ha) fun sg H Q ⟨B, rho, al, mu, F, Qd, Zd, w, e, h, k, kx⟩ => ⟨B, rho, al, mu, F, _, Zd, w, e, h, fun v H1 al1 mu1 F1 d1 w1 e1 p1 v1 h1 => by
    try dsimp only at h1
    split at h1
    · rename_i b
      cases v1
      exact ⟨b, rfl, (k.mono e1 p1).go (d := .py _) w1 (.bl _) h1⟩
    · exact h1.elim, kx⟩
def dIf (t : TDB) (ta tb : TD) : TD := fun rho mu Q Z => t rho mu (fun b mu1 => if b = true then ta rho mu1 Q Z else tb rho mu1 Q Z) Z
theorem de_if (hc : DT X T W c t) (ha : DE X T W a ta) (hb : DE X T W b tb) : DE X T W (.IfExp c a b pos) (dIf t ta tb) :=
  pe_imp (pe_ifExp hc ha hb) fun sg H Q ⟨B, rho, al, mu, F, Qd, Zd, w, e, h, k, kx⟩ =>
    if_imp w e kx h (fun H' al' mu' F' w' e' p' q => ⟨B, rho, al', mu', F', Qd, Zd, w', e.mono e' p', q, k.mono e' p', kx.mono e' p'⟩) fun H' al' mu' F' w' e' p' q => ⟨B, rho, al', mu', F', Qd, Zd, w', e.mono e' p', q, k.mono e' p', kx.mono e' p'⟩
/-- truth of any value -/
def tru (mu : List Cell) (d : D) (Q : Bool → Prop) : Prop := match vw mu d with
  | some .none => Q false
  | some (.bool b) => Q b
  | some (.int i) => Q (i != 0)
  | some (.str x) => x.length ≤ sizeLine ∧ Q ((x.length : Int) != 0)
  | some (.list ds) => Q (!ds.isEmpty)
  | some (.tuple ds) => Q (!ds.isEmpty)
  | _ => False
def dTru (ta : TD) : TDB := fun rho mu Q Z => ta rho mu (fun d mu1 => tru mu1 d fun b => Q b mu1) Z
theorem empty_all {K : PySem.W.Frag} {F : Hp} {vs : List V} {ds : List PyData} (h : RpAll K F vs ds) : (!vs.isEmpty) = !ds.isEmpty := by
  cases h <;> rfl
theorem tru_imp {K : PySem.W.Frag} {B : Base} {al : List Addr} {mu : List Cell} {F H : Hp} {v : V} {d : D} {Qd : QB} {Q : Bool → Hp → Prop} (w : Wo K T B al mu F H) (hv : Val K al F v d) (h : tru mu d fun b => Qd b mu) (k : KB K T B al F Qd Q) : ∃ b, TruV K v H b ∧ Q b H := by
  unfold tru at h
  split at h
  · rename_i e
    cases view_flat hv e rfl
    exact ⟨false, rfl, k.go w h⟩
  · rename_i b e
    cases view_bool hv e
    exact ⟨b, rfl, k.go w h⟩
  · rename_i i e
    cases view_int hv e
    exact ⟨_, rfl, k.go w h⟩
  · rename_i x e
    cases view_str hv e
    exact ⟨_, ⟨h.1, rfl⟩, k.go w h.2⟩
  · rename_i ds e
    obtain ⟨p, vs, rfl, h1, h2⟩ := view_list w hv e
    exact ⟨_, .inl ⟨vs, SqL.of h1, rfl⟩, by rw [empty_all h2]; exact k.go w h⟩
  · rename_i ds e
    obtain ⟨p, vs, rfl, h1, h2, _⟩ := view_tuple w hv e
    exact ⟨_, .inr (.inl ⟨vs, h1, rfl⟩), by rw [empty_all h2]; exact k.go w h⟩
  · exact h.elim
theorem dt_tru (ha : DE X T W a ta) (he : ∀ whole, isTrue a X.env whole = (do let v ← whole; standAt a.pos; holding [v] (truthy v)) := by intro _; rfl) : DT X T W a (dTru ta) :=
  pt_imp (pt_truth ha he) fun sg H Q ⟨B, rho, al, mu, F, Qd, Zd, w, e, h, k, kx⟩ => ⟨B, rho, al, mu, F, _, Zd, w, e, h, fun v H1 al1 mu1 F1 d1 w1 e1 p1 v1 h1 => tru_imp w1 v1 h1 (k.mono e1 p1), kx⟩
end
/-! ### argument lists, displays -/
def dNil : TDA := fun _ mu Q _ => Q [] mu
def dCons (ta : TD) (tr : TDA) : TDA := fun rho mu Q Z => ta rho mu (fun d mu1 => tr rho mu1 (fun ds mu2 => Q (d :: ds) mu2) Z) Z
/-- frozen data, all of them -/
def pys : List D → Option (List PyData)
  | [] => some []
  | .py d :: r => (pys r).map (d :: ·)
  | _ :: _ => none
/-- a new list: a cell, or frozen -/
def rst (c : Bool) (ds : List PyData) (mu : List Cell) (Q : QD) : Prop := if c then Q (.op mu.length) (mu ++ [.lst ds]) else Q (.py (.list ds)) mu
section
variable {X : Cx} {T : List (Addr × Str)} {W : WX} {pos : Pos} {a b c : Expr} {es : List Expr} {t u : TDB} {ta tb : TD} {tr : TDA}
theorem da_nil : DA X T W [] dNil := pa_imp pa_nil fun sg H Q ⟨B, rho, al, mu, F, Qd, Zd, w, e, h, k, kx⟩ => k [] H al mu F [] w (Ex.refl F) (List.prefix_refl _) .nil h
theorem da_cons (ha : DE X T W a ta) (hr : DA X T W es tr) (hs : starEach (a :: es) X.env = (false, eval a X.env) :: starEach es X.env := by rfl) : DA X T W (a :: es) (dCons ta tr) :=
  pa_imp (pa_cons ha hr hs) fun sg H Q ⟨B, rho, al, mu, F, Qd, Zd, w, e, h, k, kx⟩ => ⟨B, rho, al, mu, F, _, Zd, w, e, h, fun v H1 al1 mu1 F1 d1 w1 e1 p1 v1 h1 =>
    ⟨B, rho, al1, mu1, F1, _, Zd, w1, e.mono e1 p1, h1, fun vs H2 al2 mu2 F2 ds w2 e2 p2 v2 h2 => k (v :: vs) H2 al2 mu2 F2 (d1 :: ds) w2 (e1.trans e2) (p1.trans p2) (.cons (v1.mono e2 p2) v2) h2, kx.mono e1 p1⟩, kx⟩
theorem pys_all {K : PySem.W.Frag} {al : List Addr} {F : Hp} : ∀ {vs : List V} {ds : List D} {xs : List PyData}, Vls K al F vs ds → pys ds = some xs → RpAll K F vs xs
  | _, _, _, .nil, e => by cases e; exact .nil
  | _, _, _, .cons (b := d) h r, e => by
    cases d with
    | py d =>
      cases q : pys _ with
      | none => rw [pys, q] at e; cases e
      | some ys =>
        rw [pys, q] at e
        cases e
        exact .cons h (pys_all r q)
    | op j => cases e
    | sc j => cases e
    | kt j => cases e
theorem KQ.list {K : PySem.W.Frag} {B : Base} {al : List Addr} {mu : List Cell} {F H : Hp} {Qd : QD} {Q : VK} {p : Addr} {vs : List V} {xs : List PyData} {c : Bool} (k : KQ K T B al F Qd Q) (w : Wo K T B al mu F H) (hp : H p = none) (r : RpAll K F vs xs) (q : rst c xs mu Qd) :
    Q (.ref p) (upd H p (.lst vs)) := by
  unfold rst at q
  cases c with
  | true =>
    rw [if_pos rfl] at q
    exact k.alloc (c := .lst xs) w hp (fun _ z => by cases z) ⟨vs, upd_same, r⟩ q
  | false =>
    rw [if_neg Bool.false_ne_true] at q
    exact k.new w hp (fun _ z => by cases z) (.lst upd_same (r.mono (Ex.new (w.fnone hp)))) q
theorem KQ.tup {K : PySem.W.Frag} {B : Base} {al : List Addr} {mu : List Cell} {F H : Hp} {Qd : QD} {Q : VK} {p : Addr} {vs : List V} {xs : List PyData} (k : KQ K T B al F Qd Q) (w : Wo K T B al mu F H) (hp : H p = none) (r : RpAll K F vs xs) (q : Qd (.py (.tuple xs)) mu) :
    Q (.ref p) (upd H p (.tup vs)) := k.new w hp (fun _ z => by cases z) (.tup upd_same (r.mono (Ex.new (w.fnone hp)))) q
def dTup (ta : TDA) : TD := fun rho mu Q Z => ta rho mu (fun ds mu1 => match pys ds with
  | some xs => xs.length ≤ sizeLine ∧ Q (.py (.tuple xs)) mu1
  | none => False) Z
def dLst (c : Bool) (ta : TDA) : TD := fun rho mu Q Z => ta rho mu (fun ds mu1 => match pys ds with
  | some xs => xs.length ≤ sizeLine ∧ rst c xs mu1 Q
  | none => False) Z
theorem de_tup {x1} (h : DA X T W es tr) : DE X T W (.Tuple es x1 pos) (dTup tr) :=
  pe_imp (pe_tup h) fun sg H Q ⟨B, rho, al, mu, F, Qd, Zd, w, e, h, k, kx⟩ => ⟨B, rho, al, mu, F, _, Zd, w, e, h, fun vs H1 al1 mu1 F1 ds w1 e1 p1 v1 h1 => by
    try dsimp only at h1
    split at h1
    · rename_i xs hx
      have r := pys_all v1 hx
      exact ⟨by rw [r.length]; exact h1.1, fun p hp => (k.mono e1 p1).tup w1 hp r h1.2⟩
    · exact h1.elim, kx⟩
theorem de_lst (c : Bool) (h : DA X T W es tr) : DE X T W (.List es pos) (dLst c tr) :=
  pe_imp (pe_lst h) fun sg H Q ⟨B, rho, al, mu, F, Qd, Zd, w, e, h, k, kx⟩ => ⟨B, rho, al, mu, F, _, Zd, w, e, h, fun vs H1 al1 mu1 F1 ds w1 e1 p1 v1 h1 => by
    try dsimp only at h1
    split at h1
    · rename_i xs hx
      have r := pys_all v1 hx
      exact ⟨by rw [r.length]; exact h1.1, fun p hp => (k.mono e1 p1).list w1 hp r h1.2⟩
    · exact h1.elim, kx⟩
/-! ### subscripts and slices -/
def oIx : O2 := fun x y mu Q => match vk mu x, y with
  | some (.list ds), .py (.int i) => match atI ds i with
    | some d => Q (.py d) mu
    | none => False
  | some (.tuple ds), .py (.int i) => match atI ds i with
    | some d => Q (.py d) mu
    | none => False
  | some (.str z), .py (.int i) => z.length ≤ sizeLine ∧ match atI z.cps.toList i with
    | some c => Q (.py (.str ⟨#[c]⟩)) mu
    | none => False
  | _, _ => False
theorem atI_get' {K : PySem.W.Frag} {F : Hp} {vs : List V} {ds : List PyData} {i : Int} {d : PyData} (h : RpAll K F vs ds) (e : atI ds i = some d) : ∃ v, atI vs i = some v ∧ Rp K F v d := by
  unfold atI at e ⊢
  rw [h.length]
  cases q : ixN ds.length i with
  | none => rw [q] at e; cases e
  | some j =>
    rw [q] at e
    obtain ⟨v, h1, h2⟩ := h.get' (i := j) e
    exact ⟨v, h1, h2⟩
theorem od_ix {K : PySem.W.Frag} {T : List (Addr × Str)} : OpD K T (rIx K) oIx := by
  intro B al mu F H x y d1 d2 Qd Q w v1 v2 h k
  unfold oIx at h
  split at h
  · rename_i ds i e1
    cases v2
    obtain ⟨p, vs, rfl, h1, h2⟩ := view_list w v1 (vk_vw e1 rfl)
    split at h
    · rename_i d hd
      obtain ⟨v, g1, g2⟩ := atI_get' h2 hd
      exact .inl ⟨p, vs, i, v, rfl, rfl, SqL.of h1, g1, k.go (d := .py _) w g2 h⟩
    · exact h.elim
  · rename_i ds i e1
    cases v2
    obtain ⟨p, vs, rfl, h1, h2, _⟩ := vk_tuple w v1 e1
    split at h
    · rename_i d hd
      obtain ⟨v, g1, g2⟩ := atI_get' h2 hd
      exact .inr (.inl ⟨p, vs, i, v, rfl, rfl, h1, g1, k.go (d := .py _) w g2 h⟩)
    · exact h.elim
  · rename_i z i e1
    cases v2
    cases view_str v1 (vk_vw e1 rfl)
    obtain ⟨hz, h⟩ := h
    split at h
    · rename_i c hc
      exact .inr (.inr ⟨z, i, c, rfl, rfl, hz, hc, k.go (d := .py _) w (.str _) h⟩)
    · exact h.elim
  · exact h.elim
theorem de_ix (ha : DE X T W a ta) (hb : DE X T W b tb) (hs : PlainIx b := by intro _ _; rfl) : DE X T W (.Subscript a b pos) (dOp oIx ta tb) :=
  pe_imp (pe_ix ix_seq ha hb hs) (op_imp od_ix)
def cutD (xs : List PyData) (lo hi : Option Int) : List PyData := (xs.drop (HT.sIx xs.length 0 lo)).take (HT.sIx xs.length xs.length hi - HT.sIx xs.length 0 lo)
theorem cut_all {K : PySem.W.Frag} {F : Hp} {vs : List V} {ds : List PyData} (h : RpAll K F vs ds) (lo hi : Option Int) : RpAll K F (cutV vs lo hi) (cutD ds lo hi) := by
  unfold cutV cutD
  rw [h.length]
  exact (h.drop _).take _
abbrev QO := Option Int → List Cell → Prop
abbrev TDO := DEnv → List Cell → QO → QX → Prop
def KO (K : PySem.W.Frag) (T : List (Addr × Str)) (B : Base) (al : List Addr) (F : Hp) (Qd : QO) (Q : Option Int → Hp → Prop) : Prop := ∀ b H' al' mu' F', Wo K T B al' mu' F' H' → Ex F F' → al <+: al' → Qd b mu' → Q b H'
def liftO (K : PySem.W.Frag) (T : List (Addr × Str)) (W : WX) (t : TDO) : TO := fun sg H Q => ∃ B rho al mu F Qd Zd, Wo K T B al mu F H ∧ En K rho sg al F ∧ t rho mu Qd Zd ∧ KO K T B al F Qd Q ∧ KX K T B al F sg Zd W
abbrev DO (X : Cx) (T : List (Addr × Str)) (W : WX) (e : Option Expr) (t : TDO) : Prop := PO X e (liftO X.K T W t)
theorem po_imp {X : Cx} {e : Option Expr} {t t' : TO} (h : PO X e t) (i : ∀ sg H Q, t' sg H Q → t sg H Q) : PO X e t' := ⟨fun pins s sg H Q I q => h.run pins s sg H Q I (i _ _ _ q)⟩
def dNoPart : TDO := fun _ mu Q _ => Q none mu
def dPart (ta : TD) : TDO := fun rho mu Q Z => ta rho mu (fun d mu1 => match d with
  | .py (.int i) => Q (some i) mu1
  | _ => False) Z
theorem do_none : DO X T W none dNoPart := po_imp po_none fun sg H Q ⟨B, rho, al, mu, F, Qd, Zd, w, e, h, k, kx⟩ => k none H al mu F w (Ex.refl F) (List.prefix_refl _) h
theorem do_some (ha : DE X T W a ta) : DO X T W (some a) (dPart ta) := po_imp (po_some ha) fun sg H Q ⟨B, rho, al, mu, F, Qd, Zd, w, e, h, k, kx⟩ => ⟨B, rho, al, mu, F, _, Zd, w, e, h, fun v H1 al1 mu1 F1 d1 w1 e1 p1 v1 h1 => by
  try dsimp only at h1
  split at h1
  · cases v1
    exact ⟨_, rfl, k _ H1 al1 mu1 F1 w1 e1 p1 h1⟩
  · exact h1.elim, kx⟩
/-- x[lo:hi] -/
def dSl (c : Bool) (ta : TD) (tl th : TDO) : TD := fun rho mu Q Z => ta rho mu (fun x mu1 => tl rho mu1 (fun lo mu2 => th rho mu2 (fun hi mu3 => match vw mu3 x with
  | some (.list ds) => rst c (cutD ds lo hi) mu3 Q
  | some (.tuple ds) => Q (.py (.tuple (cutD ds lo hi))) mu3
  | some (.str z) => z.length ≤ sizeLine ∧ Q (.py (.str (cutS z lo hi))) mu3
  | _ => False) Z) Z) Z
theorem de_sl {lo hi : Option Expr} {tl th : TDO} {p2 : Pos} (c : Bool) (ha : DE X T W a ta) (hl : DO X T W lo tl) (hh : DO X T W hi th) : DE X T W (.Subscript a (.Slice lo hi none p2) pos) (dSl c ta tl th) :=
  pe_imp (pe_slice (sl_list.or (sl_tupA.or sl_str)) ha hl hh) fun sg H Q ⟨B, rho, al, mu, F, Qd, Zd, w, e, h, k, kx⟩ => ⟨B, rho, al, mu, F, _, Zd, w, e, h, fun v H1 al1 mu1 F1 d1 w1 e1 p1 v1 h1 =>
    ⟨B, rho, al1, mu1, F1, _, Zd, w1, e.mono e1 p1, h1, fun l H2 al2 mu2 F2 w2 e2 p2 h2 =>
      ⟨B, rho, al2, mu2, F2, _, Zd, w2, (e.mono e1 p1).mono e2 p2, h2, fun u H3 al3 mu3 F3 w3 e3 p3 h3 => by
        have v3 := (v1.mono e2 p2).mono e3 p3
        have k3 := ((k.mono e1 p1).mono e2 p2).mono e3 p3
        try dsimp only at h3
        split at h3
        · rename_i ds ed
          obtain ⟨p, vs, rfl, g1, g2⟩ := view_list w3 v3 ed
          exact .inl ⟨p, vs, rfl, SqL.of g1, fun n hn => k3.list w3 hn (cut_all g2 l u) h3⟩
        · rename_i ds ed
          obtain ⟨p, vs, rfl, g1, g2, _⟩ := view_tuple w3 v3 ed
          refine .inr (.inl ⟨p, vs, rfl, g1, fun z => ?_, fun z n hn => k3.tup w3 hn (cut_all g2 l u) h3⟩)
          have ec : cutD ds l u = ds := by
            rw [g2.length] at z
            unfold cutD
            rw [z.1, z.2]
            simp
          rw [ec] at h3
          exact k3.go (d := .py _) w3 (view_flat v3 ed rfl) h3
        · rename_i z ed
          cases view_str v3 ed
          exact .inr (.inr ⟨z, rfl, h3.1, k3.go (d := .py _) w3 (.str _) h3.2⟩)
        · exact h3.elim, (kx.mono e1 p1).mono e2 p2⟩, kx.mono e1 p1⟩, kx⟩
/-! ### built-ins by name, methods of built-in types -/
abbrev O1 := List D → List Cell → QD → Prop
def CallD (K : PySem.W.Frag) (T : List (Addr × Str)) (r : List V → Hp → VK → Prop) (o : O1) : Prop := ∀ (B : Base) (al : List Addr) (mu : List Cell) (F H : Hp) (xs : List V) (ds : List D) (Qd : QD) (Q : VK), Wo K T B al mu F H → Vls K al F xs ds → o ds mu Qd → KQ K T B al F Qd Q → r xs H Q
def dCB (o : O1) (ta : TDA) : TD := fun rho mu Q Z => ta rho mu (fun ds mu1 => o ds mu1 Q) Z
variable {x : Str} {p : Pos} {id : String} {r : List V → Hp → VK → Prop} {o : O1}
theorem cb_imp (ho : CallD X.K T r o) (sg : L2.St) (H : Hp) (Q : VK) (h : liftE X.K T W (dCB o tr) sg H Q) : tCB r (liftA X.K T W tr) sg H Q := by
  obtain ⟨B, rho, al, mu, F, Qd, Zd, w, e, h, k, kx⟩ := h
  exact ⟨B, rho, al, mu, F, _, Zd, w, e, h, fun vs H1 al1 mu1 F1 ds w1 e1 p1 v1 h1 => ho B al1 mu1 F1 H1 vs ds Qd Q w1 v1 h1 (k.mono e1 p1), kx⟩
theorem de_callB (hc : CallR X (.builtin id) r) (ho : CallD X.K T r o) (hg : Gl X x) (hm : X.mg x = none) (hv : bootBuiltins x = some (.builtin id)) (ha : DA X T W (a :: es) tr) (hn : x ≠ "__name__" := by decide) (hdb : (x == ("__debug__" : Str)) = false := by decide)
    (he : starEach (a :: es) X.env = (false, eval a X.env) :: starEach es X.env := by rfl) (hpl : (backTo pos (starEach es X.env)).any (·.1) = false := by rfl) : DE X T W (.Call (.Name x p) (a :: es) [] pos) (dCB o tr) :=
  pe_imp (pe_callB hc hg hm hv ha hn hdb he hpl) (cb_imp ho)
theorem de_callTy {Ty : String} (hc : CallR X (.type Ty) r) (ho : CallD X.K T r o) (hg : Gl X x) (hm : X.mg x = none) (hv : bootBuiltins x = some (.type Ty)) (ha : DA X T W (a :: es) tr) (hn : x ≠ "__name__" := by decide) (hdb : (x == ("__debug__" : Str)) = false := by decide)
    (he : starEach (a :: es) X.env = (false, eval a X.env) :: starEach es X.env := by rfl) (hpl : (backTo pos (starEach es X.env)).any (·.1) = false := by rfl) : DE X T W (.Call (.Name x p) (a :: es) [] pos) (dCB o tr) :=
  pe_imp (pe_callTy hc hg hm hv ha hn hdb he hpl) (cb_imp ho)
/-- methods: the receiver's reading, then the arguments -/
abbrev OM := D → List D → List Cell → QD → Prop
def MtD (K : PySem.W.Frag) (T : List (Addr × Str)) (Ty : String) (r : V → List V → Hp → VK → Prop) (o : OM) : Prop := ∀ (B : Base) (al : List Addr) (mu : List Cell) (F H : Hp) (x : V) (d : D) (xs : List V) (ds : List D) (Qd : QD) (Q : VK), Wo K T B al mu F H → Val K al F x d → Vls K al F xs ds → o d ds mu Qd → KQ K T B al F Qd Q → r x xs H Q
/-- the receiver's type -/
def isTy (Ty : String) (mu : List Cell) (d : D) : Prop := match vw mu d with
  | some (.list _) => Ty = "list"
  | some (.str _) => Ty = "str"
  | _ => False
def dM (Ty : String) (o : OM) (ta : TD) (tr : TDA) : TD := fun rho mu Q Z => ta rho mu (fun x mu1 => isTy Ty mu1 x ∧ tr rho mu1 (fun ds mu2 => o x ds mu2 Q) Z) Z
def dM0 (Ty : String) (o : OM) (ta : TD) : TD := fun rho mu Q Z => ta rho mu (fun x mu1 => isTy Ty mu1 x ∧ o x [] mu1 Q) Z
theorem isTy_V {K : PySem.W.Frag} {B : Base} {al : List Addr} {mu : List Cell} {F H : Hp} {v : V} {d : D} {Ty : String} (w : Wo K T B al mu F H) (hv : Val K al F v d) (h : isTy Ty mu d) : tyV K Ty v H := by
  unfold isTy at h
  split at h
  · rename_i ds e
    obtain ⟨p, vs, rfl, h1, h2⟩ := view_list w hv e
    exact .inl ⟨h, vs, SqL.of h1⟩
  · rename_i s e
    cases view_str hv e
    exact h
  · exact h.elim
variable {ob e1 : Expr} {to : TD} {name : Str} {apos cpos : Pos} {Ty : String} {rm : V → List V → Hp → VK → Prop} {om : OM}
theorem de_m0 (pa : PlainAttrs Ty) (slot : Slot Ty name id) (hty : typeOf (.builtin id) = pure (.type "method_descriptor")) (hm : MtR X id rm) (hd : MtD X.K T Ty rm om) (ho : DE X T W ob to)
    (hbase : attributeBase ob name X.env (eval ob X.env) = eval ob X.env := by rfl) (hline : (apos.endLine == cpos.line) = true := by rfl) : DE X T W (.Call (.Attribute ob name apos) [] [] cpos) (dM0 Ty om to) :=
  pe_imp (pe_bm0 pa slot hty hm ho hbase hline) fun sg H Q ⟨B, rho, al, mu, F, Qd, Zd, w, e, h, k, kx⟩ => ⟨B, rho, al, mu, F, _, Zd, w, e, h, fun v H1 al1 mu1 F1 d1 w1 e1 p1 v1 h1 =>
    ⟨isTy_V w1 v1 h1.1, hd B al1 mu1 F1 H1 v d1 [] [] Qd Q w1 v1 .nil h1.2 (k.mono e1 p1)⟩, kx⟩
theorem de_m (pa : PlainAttrs Ty) (slot : Slot Ty name id) (hty : typeOf (.builtin id) = pure (.type "method_descriptor")) (hm : MtR X id rm) (hd : MtD X.K T Ty rm om) (ho : DE X T W ob to) (ha : DA X T W (e1 :: es) tr)
    (hbase : attributeBase ob name X.env (eval ob X.env) = eval ob X.env := by rfl)
    (hfew : ((backTo cpos (starEach (e1 :: es) X.env)).all (fun x => !x.1) && (backToKw cpos (keywordEach [] X.env)).all (fun x => x.1.isSome)
      && decide ((e1 :: es).length + ([] : List Keyword).length + (if ([] : List Keyword).isEmpty then 0 else 1) < 30)) = true := by rfl)
    (hline : (apos.endLine == cpos.line) = true := by rfl) (hs : starEach (e1 :: es) X.env = (false, eval e1 X.env) :: starEach es X.env := by rfl) (hplain : (backTo cpos (starEach es X.env)).any (·.1) = false := by rfl) :
    DE X T W (.Call (.Attribute ob name apos) (e1 :: es) [] cpos) (dM Ty om to tr) :=
  pe_imp (pe_bm pa slot hty hm ho ha hbase hfew hline hs hplain) fun sg H Q ⟨B, rho, al, mu, F, Qd, Zd, w, e, h, k, kx⟩ => ⟨B, rho, al, mu, F, _, Zd, w, e, h, fun v H1 al1 mu1 F1 d1 w1 e1 p1 v1 h1 =>
    ⟨isTy_V w1 v1 h1.1, ⟨B, rho, al1, mu1, F1, _, Zd, w1, e.mono e1 p1, h1.2, fun vs H2 al2 mu2 F2 ds w2 e2 p2 v2 h2 =>
      hd B al2 mu2 F2 H2 v d1 vs ds Qd Q w2 (v1.mono e2 p2) v2 h2 ((k.mono e1 p1).mono e2 p2), kx.mono e1 p1⟩⟩, kx⟩
end
end DL
set_option Elab.async false
set_option linter.all false
set_option maxRecDepth 100000
set_option maxHeartbeats 1000000
/-! DL, statements. -/
namespace DL
open PySem PySem.Spec PyProof.Rows L2
structure EndsD where
  nx : DEnv → List Cell → Prop
  rt : D → List Cell → Prop
  bk : DEnv → List Cell → Prop := fun _ _ => False
  ct : DEnv → List Cell → Prop := fun _ _ => False
  ex : Addr → DEnv → List Cell → Prop := fun _ _ _ => False
abbrev TSD := EndsD → DEnv → List Cell → Prop
/-- exceptions of an expression, at the slots as they are -/
abbrev EndsD.xz (E : EndsD) (rho : DEnv) : QX := fun C mu => E.ex C rho mu
section
variable (K : PySem.W.Frag) (T : List (Addr × Str))
structure EndsOk (B : Base) (E : EndsD) (Dn : Ends) (W : WX) : Prop where
  nx : ∀ rho sg al mu F H, Wo K T B al mu F H → En K rho sg al F → E.nx rho mu → Dn.nx sg H
  bk : ∀ rho sg al mu F H, Wo K T B al mu F H → En K rho sg al F → E.bk rho mu → Dn.bk sg H
  ct : ∀ rho sg al mu F H, Wo K T B al mu F H → En K rho sg al F → E.ct rho mu → Dn.ct sg H
  rt : ∀ d v al mu F H, Wo K T B al mu F H → Val K al F v d → E.rt d mu → Dn.rt v H
  ex : ∀ C rho sg al mu F H, Wo K T B al mu F H → En K rho sg al F → E.ex C rho mu → W (.ref C) none sg H
def liftS (W : WX) (t : TSD) : TS := fun Dn sg H => ∃ B rho al mu F E, Wo K T B al mu F H ∧ En K rho sg al F ∧ t E rho mu ∧ EndsOk K T B E Dn W
end
abbrev DS (X : Cx) (T : List (Addr × Str)) (W : WX) (st : Stmt) (t : TSD) : Prop := PS X st (liftS X.K T W t)
abbrev DSs (X : Cx) (T : List (Addr × Str)) (W : WX) (st : List Stmt) (t : TSD) : Prop := PSs X st (liftS X.K T W t)
theorem ps_imp {X : Cx} {e : Stmt} {t t' : TS} (h : PS X e t) (i : ∀ Dn sg H, t' Dn sg H → t Dn sg H) : PS X e t' := ⟨fun pins s sg H Dn I q => h.run pins s sg H Dn I (i _ _ _ q)⟩
theorem pss_imp {X : Cx} {e : List Stmt} {t t' : TS} (h : PSs X e t) (i : ∀ Dn sg H, t' Dn sg H → t Dn sg H) : PSs X e t' := ⟨fun pins s sg H Dn I q => h.run pins s sg H Dn I (i _ _ _ q)⟩
section
variable {K : PySem.W.Frag} {T : List (Addr × Str)} {B : Base} {al al' : List Addr} {mu mu' : List Cell} {F F' H H' : Hp} {v : V} {d : D} {rho : DEnv} {sg : L2.St} {W : WX} {E : EndsD} {Dn : Ends}
theorem EndsOk.kx (k : EndsOk K T B E Dn W) (e : En K rho sg al F) : KX K T B al F sg (E.xz rho) W := fun C H' al' mu' F' w x p h => k.ex C rho sg al' mu' F' H' w (e.mono x p) h
/-- seen from a nearer base -/
theorem EndsOk.self (w : Wo K T B al mu F H) (k : EndsOk K T B E Dn W) : EndsOk K T ⟨F, H, al⟩ E Dn W :=
  ⟨fun rho sg al' mu' F' H' w' e q => k.nx rho sg al' mu' F' H' (w.back w') e q, fun rho sg al' mu' F' H' w' e q => k.bk rho sg al' mu' F' H' (w.back w') e q, fun rho sg al' mu' F' H' w' e q => k.ct rho sg al' mu' F' H' (w.back w') e q,
    fun d v al' mu' F' H' w' e q => k.rt d v al' mu' F' H' (w.back w') e q, fun C rho sg al' mu' F' H' w' e q => k.ex C rho sg al' mu' F' H' (w.back w') e q⟩
end
def dNext : TSD := fun E rho mu => E.nx rho mu
def dSeq (t u : TSD) : TSD := fun E rho mu => t { E with nx := fun rho mu => u E rho mu } rho mu
def dBreak : TSD := fun E rho mu => E.bk rho mu
def dCont : TSD := fun E rho mu => E.ct rho mu
def dDrop (te : TD) : TSD := fun E rho mu => te rho mu (fun _ mu1 => E.nx rho mu1) (E.xz rho)
def dRet (te : TD) : TSD := fun E rho mu => te rho mu E.rt (E.xz rho)
def dRetN : TSD := fun E _ mu => E.rt (.py .none) mu
def dIfS (c : TDB) (t u : TSD) : TSD := fun E rho mu => c rho mu (fun b mu1 => if b = true then t E rho mu1 else u E rho mu1) (E.xz rho)
def dNever : TSD := fun _ _ _ => False
section
variable {X : Cx} {T : List (Addr × Str)} {W : WX} {st : Stmt} {rest : List Stmt} {t u : TSD} {e c : Expr} {te : TD} {tc : TDB} {pos : Pos}
theorem dss_nil : DSs X T W [] dNext := pss_imp pss_nil fun Dn sg H ⟨B, rho, al, mu, F, E, w, e, h, k⟩ => k.nx rho sg al mu F H w e h
theorem dss_cons (h1 : DS X T W st t) (h2 : DSs X T W rest u) : DSs X T W (st :: rest) (dSeq t u) :=
  pss_imp (pss_cons h1 h2) fun Dn sg H ⟨B, rho, al, mu, F, E, w, e, h, k⟩ => ⟨B, rho, al, mu, F, _, w, e, h, ⟨fun rho' sg' al' mu' F' H' w' e' q => ⟨B, rho', al', mu', F', E, w', e', q, k⟩, k.bk, k.ct, k.rt, k.ex⟩⟩
theorem dss_one (h1 : DS X T W st t) : DSs X T W [st] t := pss_one h1
theorem ds_pass : DS X T W (.Pass pos) dNext := ps_imp ps_pass fun Dn sg H ⟨B, rho, al, mu, F, E, w, e, h, k⟩ => k.nx rho sg al mu F H w e h
theorem ds_break : DS X T W (.Break pos) dBreak := ps_imp ps_break fun Dn sg H ⟨B, rho, al, mu, F, E, w, e, h, k⟩ => k.bk rho sg al mu F H w e h
theorem ds_continue : DS X T W (.Continue pos) dCont := ps_imp ps_continue fun Dn sg H ⟨B, rho, al, mu, F, E, w, e, h, k⟩ => k.ct rho sg al mu F H w e h
theorem ds_expr (he : DE X T W e te) (hs : swapsWith e none pos.line X.env = pure false := by rfl) : DS X T W (.Expr e pos) (dDrop te) :=
  ps_imp (ps_expr he hs) fun Dn sg H ⟨B, rho, al, mu, F, E, w, e, h, k⟩ => ⟨B, rho, al, mu, F, _, _, w, e, h, fun v H1 al1 mu1 F1 d1 w1 e1 p1 v1 h1 => k.nx rho sg al1 mu1 F1 H1 w1 (e.mono e1 p1) h1, k.kx e⟩
theorem ds_ret (he : DE X T W e te) : DS X T W (.Return (some e) pos) (dRet te) :=
  ps_imp (ps_ret he) fun Dn sg H ⟨B, rho, al, mu, F, E, w, e, h, k⟩ => ⟨B, rho, al, mu, F, _, _, w, e, h, fun v H1 al1 mu1 F1 d1 w1 e1 p1 v1 h1 => k.rt d1 v al1 mu1 F1 H1 w1 v1 h1, k.kx e⟩
theorem ds_retN : DS X T W (.Return none pos) dRetN := ps_imp ps_retN fun Dn sg H ⟨B, rho, al, mu, F, E, w, e, h, k⟩ => k.rt (.py .none) .non al mu F H w .non h
theorem ds_if {a b : List Stmt} (hc : DT X T W c tc) (ha : DSs X T W a t) (hb : DSs X T W b u) : DS X T W (.If c a b pos) (dIfS tc t u) :=
  ps_imp (ps_if hc ha hb) fun Dn sg H ⟨B, rho, al, mu, F, E, w, e, h, k⟩ =>
    if_imp w e (k.kx e) h (fun H' al' mu' F' w' e' p' q => ⟨B, rho, al', mu', F', E, w', e.mono e' p', q, k⟩) fun H' al' mu' F' w' e' p' q => ⟨B, rho, al', mu', F', E, w', e.mono e' p', q, k⟩
theorem ds_never : DS X T W st dNever := ps_imp ps_never fun Dn sg H ⟨B, rho, al, mu, F, E, w, e, h, k⟩ => h.elim
end
/-! ### targets -/
abbrev TGD := D → DEnv → List Cell → (DEnv → List Cell → Prop) → QX → Prop
abbrev TGDs := List PyData → DEnv → List Cell → (DEnv → List Cell → Prop) → QX → Prop
section
variable (K : PySem.W.Frag) (T : List (Addr × Str))
def KG (B : Base) (al : List Addr) (F : Hp) (Qd : DEnv → List Cell → Prop) (Q : L2.St → Hp → Prop) : Prop := ∀ rho' sg' al' mu' F' H', Wo K T B al' mu' F' H' → Ex F F' → al <+: al' → En K rho' sg' al' F' → Qd rho' mu' → Q sg' H'
def liftG (W : WX) (t : TGD) : TG := fun v sg H Q => ∃ B rho al mu F d Qd Zd, Wo K T B al mu F H ∧ En K rho sg al F ∧ Val K al F v d ∧ t d rho mu Qd Zd ∧ KG K T B al F Qd Q ∧ (∀ sg', KX K T B al F sg' Zd W)
def liftGs (W : WX) (t : TGDs) : TGs := fun vs sg H Q => ∃ B rho al mu F ds Qd Zd, Wo K T B al mu F H ∧ En K rho sg al F ∧ RpAll K F vs ds ∧ t ds rho mu Qd Zd ∧ KG K T B al F Qd Q ∧ (∀ sg', KX K T B al F sg' Zd W)
end
abbrev DG (X : Cx) (T : List (Addr × Str)) (W : WX) (e : Expr) (t : TGD) : Prop := PG X e (liftG X.K T W t)
abbrev DGs (X : Cx) (T : List (Addr × Str)) (W : WX) (es : List Expr) (t : TGDs) : Prop := PGs X es (liftGs X.K T W t)
theorem pg_imp {X : Cx} {e : Expr} {t t' : TG} (h : PG X e t) (i : ∀ v sg H Q, t' v sg H Q → t v sg H Q) : PG X e t' := ⟨fun pins s sg H v u Q I r q => h.run pins s sg H v u Q I r (i _ _ _ _ q)⟩
theorem pgs_imp {X : Cx} {e : List Expr} {t t' : TGs} (h : PGs X e t) (i : ∀ v sg H Q, t' v sg H Q → t v sg H Q) : PGs X e t' := ⟨fun pins s sg H v u Q I r q => h.run pins s sg H v u Q I r (i _ _ _ _ q)⟩
def gdName (i : Nat) : TGD := fun d rho mu Q _ => Q (rho.set i (some d)) mu
def gdNil : TGDs := fun ds rho mu Q _ => ds = [] ∧ Q rho mu
def gdCons (t : TGD) (u : TGDs) : TGDs := fun ds rho mu Q Z => match ds with
  | d :: r => t (.py d) rho mu (fun rho1 mu1 => u r rho1 mu1 Q Z) Z
  | [] => False
def gdTup (n : Nat) (t : TGDs) : TGD := fun d rho mu Q Z => match d with
  | .py (.tuple ds) => ds.length = n ∧ t ds rho mu Q Z
  | _ => False
/-- xs[i] = v, xs a cell -/
def gdSub (to ti : TD) : TGD := fun d rho mu Q Z => to rho mu (fun o mu1 => ti rho mu1 (fun i mu2 => match o, i, d with
  | .op j, .py (.int k), .py x => match mu2[j]? with
    | some (.lst ds) => match ixN ds.length k with
      | some n => Q rho (mu2.set j (.lst (ds.set n x)))
      | none => False
    | _ => False
  | _, _, _ => False) Z) Z
section
variable {X : Cx} {T : List (Addr × Str)} {W : WX} {pos : Pos}
theorem KG.mono {K : PySem.W.Frag} {T : List (Addr × Str)} {B : Base} {al al' : List Addr} {F F' : Hp} {Qd : DEnv → List Cell → Prop} {Q : L2.St → Hp → Prop} (k : KG K T B al F Qd Q) (e : Ex F F') (p : al <+: al') : KG K T B al' F' Qd Q :=
  fun rho' sg' al2 mu2 F2 H2 w x y en q => k rho' sg' al2 mu2 F2 H2 w (e.trans x) (p.trans y) en q
theorem dg_name {i : Nat} {x : Str} (hN : X.N.Nodup) (hi : X.N[i]? = some x) (hx : Loc X.env.scope x) (hf : X.fn x = true ∨ X.env.scope.names.lookup x = some .local := by first | exact .inl rfl | exact .inr rfl | assumption) : DG X T W (.Name x pos) (gdName i) :=
  pg_imp (pg_name hN hi hx hf) fun v sg H Q ⟨B, rho, al, mu, F, d, Qd, Zd, w, e, hv, h, k, _⟩ => k _ _ al mu F H w (Ex.refl F) (List.prefix_refl _) (e.set hv) h
theorem dgs_nil : DGs X T W [] gdNil := pgs_imp pgs_nil fun vs sg H Q ⟨B, rho, al, mu, F, ds, Qd, Zd, w, e, hv, h, k, _⟩ => by
  obtain ⟨rfl, h⟩ := h
  cases hv
  exact ⟨rfl, k _ _ al mu F H w (Ex.refl F) (List.prefix_refl _) e h⟩
theorem dgs_cons {e : Expr} {es : List Expr} {t : TGD} {u : TGDs} (h1 : DG X T W e t) (h2 : DGs X T W es u) (hs : (assignEach (e :: es) X.env).map (·.2) = assign e X.env :: (assignEach es X.env).map (·.2) := by rfl) : DGs X T W (e :: es) (gdCons t u) :=
  pgs_imp (pgs_cons h1 h2 hs) fun vs sg H Q ⟨B, rho, al, mu, F, ds, Qd, Zd, w, e, hv, h, k, kx⟩ => by
    cases hv with
    | nil => exact h.elim
    | cons hd hr =>
      refine ⟨_, _, rfl, B, rho, al, mu, F, .py _, _, Zd, w, e, hd, h, fun rho' sg' al' mu' F' H' w' e' p' en' q => ?_, kx⟩
      exact ⟨B, rho', al', mu', F', _, Qd, Zd, w', en', hr.mono e', q, k.mono e' p', fun sg2 => (kx sg2).mono e' p'⟩
theorem dg_tup {es : List Expr} {kk : Nat} {t : TGDs} {n : Nat} (hc : X.calm = true) (h : DGs X T W es t) (hn : (assignEach es X.env).length = n := by rfl) (hst : (assignEach es X.env).findIdx? (·.1) = none := by rfl) : DG X T W (.Tuple es kk pos) (gdTup n t) :=
  pg_imp (pg_tup hc h hn hst) fun v sg H Q ⟨B, rho, al, mu, F, d, Qd, Zd, w, e, hv, h, k, kx⟩ => by
    unfold gdTup at h
    split at h
    · rename_i ds
      obtain ⟨p, vs, rfl, h1, h2, _⟩ := view_tuple (mu := mu) (ds := ds) w hv rfl
      exact ⟨p, vs, rfl, h1, by rw [h2.length]; exact h.1, B, rho, al, mu, F, ds, Qd, Zd, w, e, h2, h.2, k, kx⟩
    · exact h.elim
theorem dg_sub {o i : Expr} {to ti : TD} (ho : DE X T W o to) (hi : DE X T W i ti)
    (ha : ∀ v, assign (.Subscript o i pos) X.env v = (do
      let ov ← holding [v] (eval o X.env)
      let iv ← holding [v, ov] (eval i X.env)
      standAt pos
      holding [v, ov, iv] (setItem ov iv v)
      release [v, ov, iv] []) := by intro _; rfl) : DG X T W (.Subscript o i pos) (gdSub to ti) :=
  pg_imp (pg_sub ho hi set_list ha) fun v sg H Q ⟨B, rho, al, mu, F, d, Qd, Zd, w, e, hv, h, k, kx⟩ =>
    ⟨B, rho, al, mu, F, _, Zd, w, e, h, fun ov H1 al1 mu1 F1 d1 w1 e1 p1 v1 h1 => ⟨B, rho, al1, mu1, F1, _, Zd, w1, e.mono e1 p1, h1, fun iv H2 al2 mu2 F2 d2 w2 e2 p2 v2 h2 => by
      try dsimp only at h2
      split at h2
      · rename_i j k2 x
        split at h2
        · rename_i ds hj
          split at h2
          · rename_i n hn
            cases v2
            obtain ⟨a, ha1, rfl⟩ := v1.mono e2 p2
            obtain ⟨_, vs, hc1, hc2⟩ := w2.cell _ _ _ hj ha1
            have v3 : Rp X.K F2 v x := (hv.mono e1 p1).mono e2 p2
            refine ⟨a, vs, _, n, rfl, rfl, hc1, by rw [hc2.length]; exact hn, ?_⟩
            exact k rho sg al2 _ F2 _ (w2.set (c := .lst (ds.set n x)) ha1 (fun _ z => by cases z) ⟨_, upd_same, hc2.set n v3⟩) (e1.trans e2) (p1.trans p2) (e.mono (e1.trans e2) (p1.trans p2)) h2
          · exact h2.elim
        · exact h2.elim
      · exact h2.elim, (kx sg).mono e1 p1⟩, kx sg⟩
/-! ### assignments -/
def noX : QX := fun _ _ => False
def dAsg (te : TD) (g : TGD) : TSD := fun E rho mu => te rho mu (fun d mu1 => g d rho mu1 E.nx noX) (E.xz rho)
def dSet (i : Nat) (te : TD) : TSD := fun E rho mu => te rho mu (fun d mu1 => E.nx (rho.set i (some d)) mu1) (E.xz rho)
theorem noX_kx {K : PySem.W.Frag} {T : List (Addr × Str)} {B : Base} {al : List Addr} {F : Hp} {W : WX} (sg' : L2.St) : KX K T B al F sg' noX W := fun _ _ _ _ _ _ _ _ z => z.elim
theorem EndsOk.kg {K : PySem.W.Frag} {T : List (Addr × Str)} {B : Base} {al : List Addr} {F : Hp} {W : WX} {E : EndsD} {Dn : Ends} (k : EndsOk K T B E Dn W) : KG K T B al F E.nx Dn.nx := fun rho' sg' al' mu' F' H' w _ _ e q => k.nx rho' sg' al' mu' F' H' w e q
theorem ds_asg {tg e : Expr} {te : TD} {g : TGD} (he : DE X T W e te) (hg : DG X T W tg g) (hs : swapsWithSole [tg] e pos.line X.env = pure false := by rfl) (hw : swappedStores [tg] e X.env = pure none := by rfl)
    (h1 : (assignEach [tg] X.env).map (·.2) = [assign tg X.env] := by rfl) : DS X T W (.Assign [tg] e pos) (dAsg te g) :=
  ps_imp (ps_asg he hg hs hw h1) fun Dn sg H ⟨B, rho, al, mu, F, E, w, e, h, k⟩ => ⟨B, rho, al, mu, F, _, _, w, e, h, fun v H1 al1 mu1 F1 d1 w1 e1 p1 v1 h1 =>
    ⟨B, rho, al1, mu1, F1, d1, _, noX, w1, e.mono e1 p1, v1, h1, k.kg, noX_kx⟩, k.kx e⟩
theorem ds_set {i : Nat} {x : Str} {e : Expr} {te : TD} {pos' : Pos} (hN : X.N.Nodup) (hi : X.N[i]? = some x) (hx : Loc X.env.scope x) (he : DE X T W e te) (hs : swapsWith e (some (.Name x pos')) pos.line X.env = pure false := by rfl)
    (hf : X.fn x = true ∨ X.env.scope.names.lookup x = some .local := by first | exact .inl rfl | exact .inr rfl | assumption) : DS X T W (.Assign [.Name x pos'] e pos) (dSet i te) :=
  ps_imp (ps_set hN hi hx he hs hf) fun Dn sg H ⟨B, rho, al, mu, F, E, w, e, h, k⟩ => ⟨B, rho, al, mu, F, _, _, w, e, h, fun v H1 al1 mu1 F1 d1 w1 e1 p1 v1 h1 =>
    k.nx _ _ al1 mu1 F1 H1 w1 ((e.mono e1 p1).set v1) h1, k.kx e⟩
/-- a, b = x, y, both names plain locals -/
def dPar (i j : Nat) (ta : TDA) : TSD := fun E rho mu => ta rho mu (fun ds mu1 => match ds with
  | [x, y] => E.nx ((rho.set i (some x)).set j (some y)) mu1
  | _ => False) (E.xz rho)
theorem ds_par {i j : Nat} {x y : Str} {a b : Expr} {ta : TDA} {px py pt : Pos} {kt k2 pt2} (hc : X.calm = true) (hN : X.N.Nodup) (hi : X.N[i]? = some x) (hj : X.N[j]? = some y) (hij : i ≠ j)
    (hx : X.env.scope.names.lookup x = some .local) (hy : X.env.scope.names.lookup y = some .local) (ha : DA X T W [a, b] ta)
    (hw : swappedStores [.Tuple [.Name x px, .Name y py] kt pt] (.Tuple [a, b] k2 pt2) X.env = pure (some [x, y]))
    (hs : swapsWithSole [.Tuple [.Name x px, .Name y py] kt pt] (.Tuple [a, b] k2 pt2) pos.line X.env = pure false := by rfl) :
    DS X T W (.Assign [.Tuple [.Name x px, .Name y py] kt pt] (.Tuple [a, b] k2 pt2) pos) (dPar i j ta) :=
  ps_imp (ps_par hc hN hi hj hij hx hy ha hw hs) fun Dn sg H ⟨B, rho, al, mu, F, E, w, e, h, k⟩ => ⟨B, rho, al, mu, F, _, _, w, e, h, fun vs H1 al1 mu1 F1 ds w1 e1 p1 v1 h1 => by
    try dsimp only at h1
    split at h1
    · rename_i x y
      cases v1 with
      | cons va v1 =>
        cases v1 with
        | cons vb v1 =>
          cases v1
          exact ⟨_, _, rfl, k.nx _ _ al1 mu1 F1 H1 w1 (((e.mono e1 p1).set va).set vb) h1⟩
    · exact h1.elim, k.kx e⟩
/-- x op= e, ints -/
def dAug (f : Int → Int → Int) (i : Nat) (te : TD) : TSD := fun E rho mu => match rho[i]? with
  | some (some (.py (.int a))) => te rho mu (fun d mu1 => match d with
    | .py (.int b) => E.nx (rho.set i (some (.py (.int (f a b))))) mu1
    | _ => False) (E.xz rho)
  | _ => False
theorem ds_aug {f : Int → Int → Int} {i : Nat} {x : Str} {e : Expr} {te : TD} {op : Operator} {pos' : Pos} (ho : PIp X op (ipI f)) (hN : X.N.Nodup) (hi : X.N[i]? = some x) (hx : Loc X.env.scope x) (he : DE X T W e te)
    (hf : X.fn x = true ∨ X.env.scope.names.lookup x = some .local := by first | exact .inl rfl | exact .inr rfl | assumption) : DS X T W (.AugAssign (.Name x pos') op e pos) (dAug f i te) :=
  ps_imp (ps_aug hN hi hx he ho hf) fun Dn sg H ⟨B, rho, al, mu, F, E, w, e, h, k⟩ => by
    unfold dAug at h
    split at h
    · rename_i a ha
      obtain ⟨v0, g1, g2⟩ := e.at_ i _ ha
      cases g2
      refine ⟨_, g1, B, rho, al, mu, F, _, _, w, e, h, fun v H1 al1 mu1 F1 d1 w1 e1 p1 v1 h1 => ?_, k.kx e⟩
      try dsimp only at h1
      split at h1
      · cases v1
        exact ⟨_, _, rfl, rfl, k.nx _ _ al1 mu1 F1 H1 w1 ((e.mono e1 p1).set (d := .py (.int (f a _))) (.int _)) h1⟩
      · exact h1.elim
    · exact h.elim
/-! ### while -/
def dWhile (c : TDB) (b : TSD) : TSD := fun E rho mu => ∃ I : Nat → DEnv → List Cell → Prop, (∃ m, I m rho mu) ∧ ∀ m rho mu, I m rho mu →
  c rho mu (fun k mu1 => if k = true then b { E with nx := fun r u => ∃ m', m' < m ∧ I m' r u, ct := fun r u => ∃ m', m' < m ∧ I m' r u, bk := E.nx } rho mu1 else E.nx rho mu1) (E.xz rho)
theorem ds_while {c : Expr} {body : List Stmt} {tc : TDB} {tb : TSD} (hp : PassesOwn (model X.prog X.w) X.A X.env X.xe) (hc : DT X T W c tc) (hb : DSs X T W body tb) : DS X T W (.While c body [] pos) (dWhile tc tb) :=
  ps_imp (ps_while hp hc hb) fun Dn sg H ⟨B, rho, al, mu, F, E, w, e, h, k⟩ => by
    obtain ⟨I, ⟨m0, h0⟩, turn⟩ := h
    refine ⟨fun m sg H => ∃ rho al mu F, Wo X.K T B al mu F H ∧ En X.K rho sg al F ∧ I m rho mu, ⟨m0, rho, al, mu, F, w, e, h0⟩, ?_⟩
    rintro m sg1 H1 ⟨rho1, al1, mu1, F1, w1, e1, hI⟩
    refine if_imp w1 e1 (k.kx e1) (turn m rho1 mu1 hI) (fun H' al' mu' F' w' e' p' q => ?_) fun H' al' mu' F' w' e' p' q => k.nx _ _ al' mu' F' H' w' (e1.mono e' p') q
    refine ⟨fun sg' H' => ∃ m', m' < m ∧ ∃ rho al mu F, Wo X.K T B al mu F H' ∧ En X.K rho sg' al F ∧ I m' rho mu, fun _ _ z => z, B, rho1, al', mu', F', _, w', e1.mono e' p', q, ⟨?_, k.nx, ?_, k.rt, k.ex⟩⟩
    · rintro rho2 sg2 al2 mu2 F2 H2 w2 e2 ⟨m', hm, hI'⟩
      exact ⟨m', hm, rho2, al2, mu2, F2, w2, e2, hI'⟩
    · rintro rho2 sg2 al2 mu2 F2 H2 w2 e2 ⟨m', hm, hI'⟩
      exact ⟨m', hm, rho2, al2, mu2, F2, w2, e2, hI'⟩
/-! ### what a loop walks -/
/-- items; what must stay of the cells meanwhile -/
abbrev QI := List PyData → (List Cell → Prop) → List Cell → Prop
abbrev TID := DEnv → List Cell → QI → QX → Prop
def ItOk (K : PySem.W.Frag) (T : List (Addr × Str)) (J : It) (xs : List PyData) (pin : List Cell → Prop) (F0 : Hp) (al0 : List Addr) : Prop :=
  ∀ (B : Base) (al : List Addr) (mu : List Cell) (F H : Hp), Wo K T B al mu F H → Ex F0 F → al0 <+: al → pin mu →
    (∀ (i : Nat) (x : PyData), xs[i]? = some x → J.go i H ∧ ∀ v H', J.yld i H v H' → ∃ F', Wo K T B al mu F' H' ∧ Ex F F' ∧ Rp K F' v x) ∧ J.stop xs.length H
def KI (K : PySem.W.Frag) (T : List (Addr × Str)) (B : Base) (al : List Addr) (F : Hp) (Qi : QI) (R : It → Hp → Prop) : Prop := ∀ J H' al' mu' F' xs pin, Wo K T B al' mu' F' H' → Ex F F' → al <+: al' → ItOk K T J xs pin F' al' → Qi xs pin mu' → R J H'
def liftI (K : PySem.W.Frag) (T : List (Addr × Str)) (W : WX) (t : TID) : TI := fun sg H R => ∃ B rho al mu F Qi Zd, Wo K T B al mu F H ∧ En K rho sg al F ∧ t rho mu Qi Zd ∧ KI K T B al F Qi R ∧ KX K T B al F sg Zd W
abbrev DI (X : Cx) (T : List (Addr × Str)) (W : WX) (tg e : Expr) (t : TID) : Prop := PI X tg e (liftI X.K T W t)
theorem pi_imp {X : Cx} {tg e : Expr} {t t' : TI} (h : PI X tg e t) (i : ∀ sg H R, t' sg H R → t sg H R) : PI X tg e t' := ⟨fun pins s sg H R I q => h.run pins s sg H R I (i _ _ _ q)⟩
/-! targets of loops: names, tuples of such -/
mutual
inductive Tgt where
  | nm (i : Nat)
  | tp (ts : Tgts)
inductive Tgts where
  | nil
  | cons (t : Tgt) (ts : Tgts)
end
mutual
def tgV (K : PySem.W.Frag) : Tgt → TG
  | .nm i => gName i
  | .tp ts => gTup K (tgN ts) (tgVs K ts)
def tgVs (K : PySem.W.Frag) : Tgts → TGs
  | .nil => gNil
  | .cons t ts => gCons (tgV K t) (tgVs K ts)
def tgN : Tgts → Nat
  | .nil => 0
  | .cons _ ts => tgN ts + 1
end
mutual
def tgD : Tgt → PyData → DEnv → Option DEnv
  | .nm i, x, rho => some (rho.set i (some (.py x)))
  | .tp ts, .tuple xs, rho => tgDs ts xs rho
  | .tp _, _, _ => none
def tgDs : Tgts → List PyData → DEnv → Option DEnv
  | .nil, [], rho => some rho
  | .cons t ts, x :: xs, rho => match tgD t x rho with
    | some r => tgDs ts xs r
    | none => none
  | _, _, _ => none
end
mutual
def tgS : Tgt → List Nat
  | .nm i => [i]
  | .tp ts => tgSs ts
def tgSs : Tgts → List Nat
  | .nil => []
  | .cons t ts => tgS t ++ tgSs ts
end
theorem tgDs_len : ∀ {ts : Tgts} {xs : List PyData} {rho r : DEnv}, tgDs ts xs rho = some r → xs.length = tgN ts
  | .nil, [], _, _, _ => rfl
  | .nil, _ :: _, _, _, e => by simp [tgDs] at e
  | .cons t ts, [], _, _, e => by simp [tgDs] at e
  | .cons t ts, x :: xs, rho, r, e => by
    rw [tgDs] at e
    split at e
    · rename_i r1 h1
      show xs.length + 1 = tgN ts + 1
      rw [tgDs_len e]
    · cases e
mutual
theorem tg_ok {K : PySem.W.Frag} {B : Base} {al : List Addr} {mu : List Cell} {F H : Hp} {Q : L2.St → Hp → Prop} (w : Wo K T B al mu F H) : ∀ {t : Tgt} {v : V} {x : PyData} {rho r : DEnv} {sg : L2.St}, Rp K F v x → En K rho sg al F → tgD t x rho = some r →
    (∀ sg', En K r sg' al F → (∀ j, j ∉ tgS t → sg'[j]? = sg[j]?) → Q sg' H) → tgV K t v sg H Q
  | .nm i, v, x, rho, r, sg, hv, e, h, k => by
    rw [tgD] at h
    cases h
    exact k _ (e.set (d := .py x) hv) fun j hj => List.getElem?_set_ne (fun z => hj (by simp [tgS, z]))
  | .tp ts, v, x, rho, r, sg, hv, e, h, k => by
    cases x with
    | tuple xs =>
      rw [tgD] at h
      cases hv with
      | tup h1 h2 => exact ⟨_, _, rfl, SqT.of (w.sub _ _ h1), by rw [h2.length, tgDs_len h], tgs_ok w h2 e h k⟩
    | _ => simp [tgD] at h
theorem tgs_ok {K : PySem.W.Frag} {B : Base} {al : List Addr} {mu : List Cell} {F H : Hp} {Q : L2.St → Hp → Prop} (w : Wo K T B al mu F H) : ∀ {t : Tgts} {v : List V} {x : List PyData} {rho r : DEnv} {sg : L2.St}, RpAll K F v x → En K rho sg al F → tgDs t x rho = some r →
    (∀ sg', En K r sg' al F → (∀ j, j ∉ tgSs t → sg'[j]? = sg[j]?) → Q sg' H) → tgVs K t v sg H Q
  | .nil, v, x, rho, r, sg, hv, e, h, k => by
    cases hv with
    | nil =>
      rw [tgDs] at h
      cases h
      exact ⟨rfl, k _ e fun _ _ => rfl⟩
    | cons _ _ => simp [tgDs] at h
  | .cons t ts, v, x, rho, r, sg, hv, e, h, k => by
    cases hv with
    | nil => simp [tgDs] at h
    | cons h1 h2 =>
      rw [tgDs] at h
      split at h
      · rename_i r1 hr1
        refine ⟨_, _, rfl, tg_ok w h1 e hr1 fun sg1 e1 k1 => tgs_ok w h2 e1 h fun sg2 e2 k2 => k sg2 e2 fun j hj => ?_⟩
        simp only [tgSs, List.mem_append, not_or] at hj
        rw [k2 j hj.2, k1 j hj.1]
      · cases h
end
theorem pgt_name {i : Nat} {x : Str} (hN : X.N.Nodup) (hi : X.N[i]? = some x) (hx : Loc X.env.scope x) (hf : X.fn x = true ∨ X.env.scope.names.lookup x = some .local := by first | exact .inl rfl | exact .inr rfl | assumption) : PG X (.Name x pos) (tgV X.K (.nm i)) := pg_name hN hi hx hf
theorem pgts_nil : PGs X [] (tgVs X.K .nil) := pgs_nil
theorem pgts_cons {e : Expr} {es : List Expr} {t : Tgt} {ts : Tgts} (h1 : PG X e (tgV X.K t)) (h2 : PGs X es (tgVs X.K ts)) (hs : (assignEach (e :: es) X.env).map (·.2) = assign e X.env :: (assignEach es X.env).map (·.2) := by rfl) : PGs X (e :: es) (tgVs X.K (.cons t ts)) := pgs_cons h1 h2 hs
theorem pgt_tup {es : List Expr} {kk : Nat} {ts : Tgts} (hc : X.calm = true) (h : PGs X es (tgVs X.K ts)) (hn : (assignEach es X.env).length = tgN ts := by rfl) (hst : (assignEach es X.env).findIdx? (·.1) = none := by rfl) : PG X (.Tuple es kk pos) (tgV X.K (.tp ts)) := pg_tup hc h hn hst
/-- the body over the items -/
def dForL (g : Tgt) (b : TSD) (E : EndsD) (pin : List Cell → Prop) : List PyData → DEnv → List Cell → Prop
  | [], rho, mu => pin mu ∧ E.nx rho mu
  | x :: xs, rho, mu => pin mu ∧ match tgD g x rho with
    | some r => b { E with nx := dForL g b E pin xs, ct := dForL g b E pin xs, bk := E.nx } r mu
    | none => False
def dFor (it : TID) (g : Tgt) (b : TSD) : TSD := fun E rho mu => it rho mu (fun xs pin mu1 => dForL g b E pin xs rho mu1) (E.xz rho)
theorem ds_for {tg iter : Expr} {body : List Stmt} {it : TID} {g : Tgt} {b : TSD} (hp : PassesOwn (model X.prog X.w) X.A X.env X.xe) (hc : X.calm = true) (hi : DI X T W tg iter it) (hg : PG X tg (tgV X.K g)) (hb : DSs X T W body b)
    (hs : ∀ x, foldedSetIterable iter X.env x = pure x := by intro _; rfl) : DS X T W (.For tg iter body [] pos) (dFor it g b) :=
  ps_imp (ps_for hp hc hi hg hb hs) fun Dn sg H ⟨B, rho, al, mu, F, E, w, e, h, k⟩ => by
    refine ⟨B, rho, al, mu, F, _, _, w, e, h, fun J H1 al1 mu1 F1 xs pin w1 e1 p1 ok h1 => ?_, k.kx e⟩
    have k1 := k.self w1
    have W1 := w1.self
    refine ⟨fun i m sg H => m = xs.length - i ∧ i ≤ xs.length ∧ ∃ rho al mu F, Wo X.K T ⟨F1, H1, al1⟩ al mu F H ∧ En X.K rho sg al F ∧ dForL g b E pin (xs.drop i) rho mu, ⟨xs.length, by simp, Nat.zero_le _, rho, al1, mu1, F1, W1, e.mono e1 p1, by simpa using h1⟩, ?_⟩
    rintro i m sg2 H2 ⟨rfl, hil, rho2, al2, mu2, F2, w2, e2, h2⟩
    have up : Ex F1 F2 := w2.up
    have pre : al1 <+: al2 := w2.pre
    by_cases hlt : i < xs.length
    · rw [List.drop_eq_getElem_cons hlt] at h2
      obtain ⟨hpin, h2⟩ := h2
      obtain ⟨o1, o2⟩ := ok _ al2 mu2 F2 H2 w2 up pre hpin
      obtain ⟨go, yld⟩ := o1 i xs[i] (List.getElem?_eq_getElem hlt)
      refine .inr ⟨go, fun sg H => ∃ rho al mu F, Wo X.K T ⟨F1, H1, al1⟩ al mu F H ∧ En X.K rho sg al F ∧ dForL g b E pin (xs.drop (i + 1)) rho mu, fun sg' H' z => ⟨xs.length - (i + 1), by omega, rfl, hlt, z⟩, fun v H' y => ?_⟩
      obtain ⟨F3, w3, e3, r3⟩ := yld v H' y
      split at h2
      · rename_i r hr
        refine tg_ok w3 r3 (e2.mono e3 (List.prefix_refl _)) hr fun sg4 en4 _ => ?_
        exact ⟨_, r, al2, mu2, F3, _, w3, en4, h2, ⟨fun rho5 sg5 al5 mu5 F5 H5 w5 en5 q5 => ⟨rho5, al5, mu5, F5, w5, en5, q5⟩, k1.nx, fun rho5 sg5 al5 mu5 F5 H5 w5 en5 q5 => ⟨rho5, al5, mu5, F5, w5, en5, q5⟩, k1.rt, k1.ex⟩⟩
      · exact h2.elim
    · have ei : i = xs.length := by omega
      subst ei
      rw [List.drop_length] at h2
      obtain ⟨hpin, h2⟩ := h2
      obtain ⟨o1, o2⟩ := ok _ al2 mu2 F2 H2 w2 up pre hpin
      exact .inl ⟨o2, k1.nx _ _ al2 mu2 F2 H2 w2 e2 h2⟩
/-! ### iterables -/
theorem itOk_list {K : PySem.W.Frag} {a : Addr} {vs : List V} {ds : List PyData} {pin : List Cell → Prop} {F0 : Hp} {al0 : List Addr}
    (h : ∀ (B : Base) (al : List Addr) (mu : List Cell) (F H : Hp), Wo K T B al mu F H → Ex F0 F → al0 <+: al → pin mu → ∃ vs, SqL K H a vs ∧ RpAll K F vs ds) : ItOk K T (Itl K a) ds pin F0 al0 := by
  intro B al mu F H w e p hp
  obtain ⟨vs, h1, h2⟩ := h B al mu F H w e p hp
  refine ⟨fun i x hx => ?_, vs, h1, by rw [h2.length]; exact Nat.le_refl _⟩
  obtain ⟨v, g1, g2⟩ := h2.get' hx
  refine ⟨⟨vs, v, h1, g1⟩, fun u H' y => ?_⟩
  obtain ⟨rfl, y⟩ := y
  have := y vs h1
  rw [g1] at this
  cases this
  exact ⟨F, w, Ex.refl F, g2⟩
theorem itOk_tup {K : PySem.W.Frag} {a : Addr} {vs : List V} {ds : List PyData} {pin : List Cell → Prop} {F0 : Hp} {al0 : List Addr} (h1 : SqT K F0 a vs) (h2 : RpAll K F0 vs ds) : ItOk K T (Itt K a) ds pin F0 al0 := by
  intro B al mu F H w e p hp
  have h1' : SqT K H a vs := ex_t w.sub (ex_t e h1)
  have h2' := h2.mono e
  refine ⟨fun i x hx => ?_, vs, h1', by rw [h2.length]; exact Nat.le_refl _⟩
  obtain ⟨v, g1, g2⟩ := h2'.get' hx
  refine ⟨⟨vs, v, h1', g1⟩, fun u H' y => ?_⟩
  obtain ⟨rfl, y⟩ := y
  have := y vs h1'
  rw [g1] at this
  cases this
  exact ⟨F, w, Ex.refl F, g2⟩
/-- a value that is a list, by what it is (frozen, a cell, the script) -/
def lsv (mu : List Cell) : D → Option (List PyData × (List Cell → Prop))
  | .py (.list ds) => some (ds, fun _ => True)
  | .sc ds => some (ds, fun _ => True)
  | .op j => match mu[j]? with
    | some (.lst ds) => some (ds, fun m => m[j]? = some (.lst ds))
    | _ => none
  | _ => none
theorem lsv_ok {K : PySem.W.Frag} {B : Base} {al : List Addr} {mu : List Cell} {F H : Hp} {v : V} {d : D} {ds : List PyData} {pin : List Cell → Prop} (w : Wo K T B al mu F H) (hv : Val K al F v d) (e : lsv mu d = some (ds, pin)) :
    ∃ a vs, v = .ref a ∧ SqL K H a vs ∧ vs.length = ds.length ∧ ∀ (B : Base) (al' : List Addr) (mu' : List Cell) (F' H' : Hp), Wo K T B al' mu' F' H' → Ex F F' → al <+: al' → pin mu' → ∃ vs, SqL K H' a vs ∧ RpAll K F' vs ds := by
  cases d with
  | py d =>
    cases d with
    | list xs =>
      cases e
      cases hv with
      | lst h1 h2 => exact ⟨_, _, rfl, SqL.of (w.sub _ _ h1), h2.length, fun B al' mu' F' H' w' e' p' _ => ⟨_, SqL.of (w'.sub _ _ (e' _ _ h1)), h2.mono e'⟩⟩
    | _ => cases e
  | kt xs => cases e
  | sc xs =>
    cases e
    obtain ⟨a, vs, h1, h2, h3⟩ := hv
    exact ⟨a, vs, h1, ex_l w.sub h2, h3.length, fun B al' mu' F' H' w' e' p' _ => ⟨vs, ex_l w'.sub (ex_l e' h2), h3.mono e'⟩⟩
  | op j =>
    obtain ⟨a, h1, h2⟩ := hv
    cases hx : mu[j]? with
    | none => simp [lsv, hx] at e
    | some c =>
      cases c with
      | lst xs =>
        simp only [lsv, hx, Option.some.injEq, Prod.mk.injEq] at e
        obtain ⟨e1, e2⟩ := e
        subst e1 e2
        obtain ⟨_, vs, h3, h4⟩ := w.cell j _ a hx h1
        refine ⟨a, vs, h2, SqL.of h3, h4.length, fun B al' mu' F' H' w' e' p' hpin => ?_⟩
        obtain ⟨_, vs', h5, h6⟩ := w'.cell j _ a hpin (pre_get p' h1)
        exact ⟨vs', SqL.of h5, h6⟩
      | _ => simp [lsv, hx] at e
/-- a value that is a list or a tuple or a text -/
def diSeq (te : TD) : TID := fun rho mu Q Z => te rho mu (fun d mu1 => match lsv mu1 d, d with
  | some (ds, pin), _ => Q ds pin mu1
  | none, .kt ds => Q ds (fun _ => True) mu1
  | none, .py (.tuple ds) => Q ds (fun _ => True) mu1
  | none, .py (.str z) => Q (z.cps.toList.map fun c => .str ⟨#[c]⟩) (fun _ => True) mu1
  | _, _ => False) Z
def iSeq (K : PySem.W.Frag) (tl : TE) : TI := fun sg H R => tl sg H fun x H1 => (∃ a, x = .ref a ∧ (∃ xs, SqL K H1 a xs) ∧ R (Itl K a) H1) ∨ (∃ a, x = .ref a ∧ (∃ xs, SqT K H1 a xs) ∧ R (Itt K a) H1) ∨ ∃ z, x = .str z ∧ R (Its z) H1
theorem pi_seq {l tg : Expr} {tl : TE} (hl : PE X l tl) : PI X tg l (iSeq X.K tl) := by
  refine ⟨fun pins s sg H R I h => ?_⟩
  refine thn (hl.run pins s sg H _ I h) fun v s1 ⟨x, H1, I1, r1, q1⟩ => ?_
  rcases q1 with ⟨a, e, ⟨xs, hq⟩, q⟩ | ⟨a, e, ⟨xs, hq⟩, q⟩ | ⟨z, e, q⟩
  · subst e
    cases r1
    obtain ⟨its, rv, p, hz⟩ := I1.list hq
    refine wpAny_pyIter_list p.isList ?_
    refine ⟨s1.heap.objs.size, [s1.heap.objs.size], _, _, H1, rfl, I1.kept (t' := s1.toks) fun b o e => Heap.get?_push_of_some _ e, turn_list a _, ⟨_, Heap.get?_push_size _ rfl, rfl, rfl⟩, fun b hb => ?_, q⟩
    have e : b = s1.heap.objs.size := by simpa using hb
    subst e
    exact I1.fpOk (Nat.le_refl _) (I1.hok.fresh (Nat.le_refl _))
  · subst e
    cases r1
    obtain ⟨its, rv, p, hz⟩ := I1.tuple hq
    refine wpAny_pyIter_tuple (show s1.heap.IsTuple a its.toArray from p) ?_
    refine ⟨s1.heap.objs.size, [s1.heap.objs.size], _, _, H1, rfl, I1.kept (t' := s1.toks) fun b o e => Heap.get?_push_of_some _ e, turn_tuple a _, ⟨_, Heap.get?_push_size _ rfl, rfl, rfl⟩, fun b hb => ?_, q⟩
    have e : b = s1.heap.objs.size := by simpa using hb
    subst e
    exact I1.fpOk (Nat.le_refl _) (I1.hok.fresh (Nat.le_refl _))
  · subst e
    obtain ⟨t, rfl⟩ := r1
    cases ha : z.cps.all (· < 128)
    · exact wpAny_pyIter_wide ha (pi_one (tk := s1.toks) I1 _ (turn_str _ z t "str_iterator" (.inr rfl)) ⟨_, Heap.get?_push_size _ rfl, rfl, rfl⟩ q)
    · exact wpAny_pyIter_ascii ha (pi_one (tk := s1.toks) I1 _ (turn_str _ z t "str_ascii_iterator" (.inl rfl)) ⟨_, Heap.get?_push_size _ rfl, rfl, rfl⟩ q)
theorem itOk_str {K : PySem.W.Frag} {z : Str} {pin : List Cell → Prop} {F0 : Hp} {al0 : List Addr} : ItOk K T (Its z) (z.cps.toList.map fun c => .str ⟨#[c]⟩) pin F0 al0 := by
  intro B al mu F H w e p hp
  refine ⟨fun i x hx => ?_, ?_⟩
  · rw [List.getElem?_map] at hx
    cases q : z.cps.toList[i]? with
    | none => rw [q] at hx; cases hx
    | some c =>
      rw [q] at hx
      cases hx
      have q2 : z.cps[i]? = some c := by simpa using q
      refine ⟨(Array.getElem?_eq_some_iff.mp q2).1, fun u H' y => ?_⟩
      obtain ⟨rfl, c', hc, rfl⟩ := y
      rw [q2] at hc
      cases hc
      exact ⟨F, w, Ex.refl F, .str _⟩
  · show z.cps.size ≤ _
    simp
theorem di_seq {tg e : Expr} {te : TD} (h : DE X T W e te) : DI X T W tg e (diSeq te) :=
  pi_imp (pi_seq h) fun sg H R ⟨B, rho, al, mu, F, Qi, Zd, w, e, h, k, kx⟩ => ⟨B, rho, al, mu, F, _, Zd, w, e, h, fun v H1 al1 mu1 F1 d1 w1 e1 p1 v1 h1 => by
    try dsimp only at h1
    split at h1
    · rename_i ds pin hl
      obtain ⟨a, vs, rfl, g1, g2, g3⟩ := lsv_ok w1 v1 hl
      exact .inl ⟨a, rfl, ⟨vs, g1⟩, k _ H1 al1 mu1 F1 ds pin w1 e1 p1 (itOk_list (vs := vs) g3) h1⟩
    · rename_i ds _
      obtain ⟨a, vs, rfl, g1, g2, g3⟩ := vk_tuple (ds := ds) w1 v1 rfl
      exact .inr (.inl ⟨a, rfl, ⟨vs, g1⟩, k _ H1 al1 mu1 F1 ds _ w1 e1 p1 (itOk_tup g3 g2) h1⟩)
    · rename_i ds _
      obtain ⟨a, vs, rfl, g1, g2, g3⟩ := vk_tuple (ds := ds) w1 v1 rfl
      exact .inr (.inl ⟨a, rfl, ⟨vs, g1⟩, k _ H1 al1 mu1 F1 ds _ w1 e1 p1 (itOk_tup g3 g2) h1⟩)
    · rename_i z _
      cases v1
      exact .inr (.inr ⟨z, rfl, k _ H1 al1 mu1 F1 _ _ w1 e1 p1 itOk_str h1⟩)
    · exact h1.elim, kx⟩
/-- range -/
def rangeD (lo : Int) (n : Nat) (c : Int) : List PyData := (List.range n).map fun (i : Nat) => .int (lo + (i : Int) * c)
theorem itOk_rng {K : PySem.W.Frag} {lo : Int} {n : Nat} {pin : List Cell → Prop} {F0 : Hp} {al0 : List Addr} : ItOk K T (Itr lo n) (rangeD lo n 1) pin F0 al0 := by
  intro B al mu F H w e p hp
  refine ⟨fun i x hx => ?_, ?_⟩
  · unfold rangeD at hx
    rw [List.getElem?_map] at hx
    by_cases hi : i < n
    · rw [List.getElem?_range hi] at hx
      cases hx
      refine ⟨hi, fun u H' y => ?_⟩
      obtain ⟨rfl, rfl⟩ := y
      refine ⟨F, w, Ex.refl F, ?_⟩
      show Rp K F _ (.int (lo + (i : Int) * 1))
      rw [Int.mul_one]
      exact .int _
    · rw [List.getElem?_eq_none (by simpa using hi)] at hx
      cases hx
  · show n ≤ _
    simp [rangeD]
theorem itOk_rngC {K : PySem.W.Frag} {lo c : Int} {n : Nat} {pin : List Cell → Prop} {F0 : Hp} {al0 : List Addr} : ItOk K T (Itc lo c n) (rangeD lo n c) pin F0 al0 := by
  intro B al mu F H w e p hp
  refine ⟨fun i x hx => ?_, ?_⟩
  · unfold rangeD at hx
    rw [List.getElem?_map] at hx
    by_cases hi : i < n
    · rw [List.getElem?_range hi] at hx
      cases hx
      refine ⟨hi, fun u H' y => ?_⟩
      obtain ⟨rfl, rfl⟩ := y
      exact ⟨F, w, Ex.refl F, .int _⟩
    · rw [List.getElem?_eq_none (by simpa using hi)] at hx
      cases hx
  · show n ≤ _
    simp [rangeD]
def tT : List Cell → Prop := fun _ => True
def diR1 (ta : TDA) : TID := fun rho mu Q Z => ta rho mu (fun ds mu1 => match ds with
  | [.py (.int j)] => (-(2 ^ 62) ≤ j ∧ j < 2 ^ 62) ∧ Q (rangeD 0 j.toNat 1) tT mu1
  | _ => False) Z
def diR2 (ta : TDA) : TID := fun rho mu Q Z => ta rho mu (fun ds mu1 => match ds with
  | [.py (.int i), .py (.int j)] => (-(2 ^ 62) ≤ i ∧ i < 2 ^ 62 ∧ -(2 ^ 62) ≤ j ∧ j < 2 ^ 62) ∧ Q (rangeD i (j - i).toNat 1) tT mu1
  | _ => False) Z
/-- the step is not nought -/
def diR3 (ta : TDA) : TID := fun rho mu Q Z => ta rho mu (fun ds mu1 => match ds with
  | [.py (.int i), .py (.int j), .py (.int c)] => ∃ n, RgC i j c n ∧ Q (rangeD i n c) tT mu1
  | _ => False) Z
theorem di_r1 {tg a : Expr} {ta : TDA} {p : Pos} (hg : Gl X "range") (hm : X.mg "range" = none) (ha : DA X T W [a] ta) (hs : starEach [a] X.env = [(false, eval a X.env)] := by rfl) : DI X T W tg (.Call (.Name "range" p) [a] [] pos) (diR1 ta) :=
  pi_imp (pi_range1 hg hm ha hs) fun sg H R ⟨B, rho, al, mu, F, Qi, Zd, w, e, h, k, kx⟩ => ⟨B, rho, al, mu, F, _, Zd, w, e, h, fun vs H1 al1 mu1 F1 ds w1 e1 p1 v1 h1 => by
    try dsimp only at h1
    split at h1
    · cases v1 with
      | cons v v1 =>
        cases v1
        cases v
        exact ⟨_, rfl, h1.1.1, h1.1.2, k _ H1 al1 mu1 F1 _ _ w1 e1 p1 itOk_rng h1.2⟩
    · exact h1.elim, kx⟩
theorem di_r2 {tg a b : Expr} {ta : TDA} {p : Pos} (hg : Gl X "range") (hm : X.mg "range" = none) (ha : DA X T W [a, b] ta) (hs : starEach [a, b] X.env = [(false, eval a X.env), (false, eval b X.env)] := by rfl) (hs2 : starEach [b] X.env = [(false, eval b X.env)] := by rfl) :
    DI X T W tg (.Call (.Name "range" p) [a, b] [] pos) (diR2 ta) :=
  pi_imp (pi_range2 hg hm ha hs hs2) fun sg H R ⟨B, rho, al, mu, F, Qi, Zd, w, e, h, k, kx⟩ => ⟨B, rho, al, mu, F, _, Zd, w, e, h, fun vs H1 al1 mu1 F1 ds w1 e1 p1 v1 h1 => by
    try dsimp only at h1
    split at h1
    · cases v1 with
      | cons v v1 =>
        cases v1 with
        | cons v2 v1 =>
          cases v1
          cases v
          cases v2
          exact ⟨_, _, rfl, h1.1, k _ H1 al1 mu1 F1 _ _ w1 e1 p1 itOk_rng h1.2⟩
    · exact h1.elim, kx⟩
theorem di_r3 {tg a b c : Expr} {ta : TDA} {p : Pos} (hg : Gl X "range") (hm : X.mg "range" = none) (ha : DA X T W [a, b, c] ta) (hs : starEach [a, b, c] X.env = (false, eval a X.env) :: starEach [b, c] X.env := by rfl) (hpl : (backTo pos (starEach [b, c] X.env)).any (·.1) = false := by rfl) :
    DI X T W tg (.Call (.Name "range" p) [a, b, c] [] pos) (diR3 ta) :=
  pi_imp (pi_range3 hg hm ha hs hpl) fun sg H R ⟨B, rho, al, mu, F, Qi, Zd, w, e, h, k, kx⟩ => ⟨B, rho, al, mu, F, _, Zd, w, e, h, fun vs H1 al1 mu1 F1 ds w1 e1 p1 v1 h1 => by
    try dsimp only at h1
    split at h1
    · cases v1 with
      | cons v v1 =>
        cases v1 with
        | cons v2 v1 =>
          cases v1 with
          | cons v3 v1 =>
            cases v1
            cases v
            cases v2
            cases v3
            obtain ⟨n, hn, hq⟩ := h1
            exact ⟨_, _, _, n, rfl, hn, k _ H1 al1 mu1 F1 _ _ w1 e1 p1 itOk_rngC hq⟩
    · exact h1.elim, kx⟩
end
end DL
set_option Elab.async false
set_option linter.all false
set_option maxRecDepth 100000
set_option maxHeartbeats 1000000
/-! DL, defs: their promises over data, their calls, raise. -/
namespace DL
open PySem PySem.Spec PyProof.Rows L2
/-- a def's promise over data: arguments, the cells it may reach, what is wanted of the value, of an exception's class -/
abbrev SpD := List D → List Cell → QD → QX → Prop
def spOf (K : PySem.W.Frag) (T : List (Addr × Str)) (sd : SpD) : Sp := fun vs H Q E => ∃ al mu F ds Qd Zd, Wo K T ⟨F, H, al⟩ al mu F H ∧ Vls K al F vs ds ∧ sd ds mu Qd Zd ∧
  (∀ v H' al' mu' F' d, Wo K T ⟨F, H, al⟩ al' mu' F' H' → Val K al' F' v d → Qd d mu' → Q v H') ∧ (∀ C H' al' mu' F', Wo K T ⟨F, H, al⟩ al' mu' F' H' → Zd C mu' → E (.ref C) none H')
abbrev FnD (P : Program) (w : World) (K : PySem.W.Frag) (mg : Str → Option Value) (base : Heap) (T : List (Addr × Str)) (k : Nat) (f : Addr) (fd : FuncData) (ps : List Str) (sd : SpD) : Prop :=
  FnOk P w K mg base (L2.CX P w) k f fd ps (spOf K T sd)
/-- the slots at the entry -/
def startD (N : List Str) (ds : List D) : DEnv := ds.map some ++ List.replicate (N.length - ds.length) none
def endD (Qd : QD) (Zd : QX) : EndsD where
  nx := fun _ mu => Qd (.py .none) mu
  rt := Qd
  ex := fun C _ mu => Zd C mu
/-- what the body of a def wishes of exceptions -/
abbrev wE (E : XK) : WX := fun cls d _ H => E cls d H
section
variable {K : PySem.W.Frag} {T : List (Addr × Str)} {al : List Addr} {F : Hp}
theorem Vls.length {vs : List V} {ds : List D} (h : Vls K al F vs ds) : vs.length = ds.length := Paired.length h
theorem Vls.get : ∀ {vs : List V} {ds : List D} {i : Nat} {d : D}, Vls K al F vs ds → ds[i]? = some d → ∃ v, vs[i]? = some v ∧ Val K al F v d
  | _, _, _, _, .nil, e => by simp at e
  | _, _, 0, _, .cons h a, e => by simp at e; subst e; exact ⟨_, rfl, h⟩
  | _, _, i + 1, _, .cons h a, e => by
    obtain ⟨d, h1, h2⟩ := Vls.get (i := i) a (by simpa using e)
    exact ⟨d, by simpa using h1, h2⟩
theorem en_start {N : List Str} {vs : List V} {ds : List D} (h : Vls K al F vs ds) : En K (startD N ds) (L2.start N vs) al F := by
  unfold startD L2.start
  refine ⟨by simp [h.length], fun i d hd => ?_⟩
  by_cases hi : i < ds.length
  · rw [List.getElem?_append_left (by simpa using hi), List.getElem?_map] at hd
    cases q : ds[i]? with
    | none => rw [q] at hd; cases hd
    | some d0 =>
      rw [q] at hd
      cases hd
      obtain ⟨v, h1, h2⟩ := h.get q
      exact ⟨v, by rw [List.getElem?_append_left (by simpa [h.length] using hi), List.getElem?_map, h1]; rfl, h2⟩
  · rw [List.getElem?_append_right (by simpa using hi)] at hd
    rw [List.getElem?_replicate] at hd
    split at hd <;> cases hd
end
section
variable {P : Program} {w : World} {K : PySem.W.Frag} {mg : Str → Option Value} {base : Heap} {T : List (Addr × Str)}
/-- THE RULE for a def -/
theorem fn_ok {x qual : Str} {st : Stmt} {f : Addr} {fd : FuncData} {N ps : List Str} {k : Nat} {sd : SpD} {t : TSD} (Fn : Fun K x qual st f fd) (S : FnScope N ps (defScope st)) (len : ∀ ds mu Qd Zd, sd ds mu Qd Zd → ds.length = ps.length)
    (hbody : ∀ (cdv : Value) (A : Around) (outer : List Env) (s : Shared) (H : Hp) (E : XK), Room k (A.deeper (envOfC qual (defScope st) s.heap.objs.size f cdv)) →
      DSs (cxOf (L2.CX P w) P w K mg base N qual (defScope st) f cdv A outer s H E) T (wE E) (defBody st) t)
    (hread : ∀ ds mu Qd Zd, sd ds mu Qd Zd → t (endD Qd Zd) (startD N ds) mu) : FnD P w K mg base T (k + 1) f fd ps sd := by
  refine Fn.okX S (fun vs H Q E h => ?_) (fun cdv A outer s H vs Q E hr h => ?_)
  · obtain ⟨al, mu, F, ds, Qd, Zd, w1, hv, hs, _⟩ := h
    rw [hv.length]
    exact len ds mu Qd Zd hs
  · obtain ⟨al, mu, F, ds, Qd, Zd, w1, hv, hs, kq, kx⟩ := h
    refine ⟨_, hbody cdv A outer s H E hr, ⟨F, H, al⟩, _, al, mu, F, endD Qd Zd, w1, en_start hv, hread ds mu Qd Zd hs, ⟨?_, fun _ _ _ _ _ _ _ _ z => z.elim, fun _ _ _ _ _ _ _ _ z => z.elim, ?_, ?_⟩⟩
    · exact fun rho sg al' mu' F' H' w' e' q => kq .non H' al' mu' F' (.py .none) w' .non q
    · exact fun d v al' mu' F' H' w' hv' q => kq v H' al' mu' F' d w' hv' q
    · exact fun C rho sg al' mu' F' H' w' e' q => kx C H' al' mu' F' w' q
end
/-! ### freezing what a callee leaves -/
section
variable {K : PySem.W.Frag} {T : List (Addr × Str)} {B : Base} {al al' : List Addr} {mu mu' : List Cell} {F F' H H' : Hp} {v : V} {d : D}
/-- an object that the base does not know becomes frozen -/
theorem Wo.freeze {a : Addr} {o : HO} (w : Wo K T B al mu F H) (h : H a = some o) (ho : ∀ ps, o ≠ .tbl ps) (hf : F a = none) (hb : ¬ Kn B.H a) (hn : a ∉ al) : Wo K T B al mu (upd F a o) H := by
  refine ⟨fun b u e => ?_, Ex.trans w.up (Ex.new hf), fun b h1 h2 => ?_, w.keep, w.dom, w.len, w.nd, w.old, w.pre, fun j c b h1 h2 => ?_, w.tab, fun b ps => ?_⟩
  · by_cases q : b = a
    · subst q; rw [upd_same] at e; cases e; exact h
    · rw [upd_ne q] at e; exact w.sub b u e
  · have q : b ≠ a := fun z => by rw [z] at h1; exact hb h1
    rw [upd_ne q]; exact w.fresh b h1 h2
  · obtain ⟨q1, q2⟩ := w.cell j c b h1 h2
    have q : b ≠ a := fun z => hn (z ▸ List.mem_of_getElem? h2)
    exact ⟨by rw [upd_ne q]; exact q1, q2.mono (Ex.new hf) rfl⟩
  · by_cases q : b = a
    · subst q; rw [upd_same]; exact fun z => ho ps (Option.some.inj z)
    · rw [upd_ne q]; exact w.notbl b ps
/-- what a callee that got none of the cells hands back: frozen data, or a cell of its own -/
inductive resP : D → List Cell → PyData → Prop
  | py (x : PyData) (mu : List Cell) : resP (.py x) mu x
  | lst {j : Nat} {mu : List Cell} {ds : List PyData} : mu[j]? = some (.lst ds) → resP (.op j) mu (.list ds)
  | dk {j : Nat} {mu : List Cell} {ds : List (PyData × PyData)} : mu[j]? = some (.dk ds) → resP (.op j) mu (.dict ds)
  | dt {j : Nat} {mu : List Cell} {ds : List (PyData × PyData)} : mu[j]? = some (.dt ds) → resP (.op j) mu (.dict [(.none, .dict ds)])
inductive resL : D → List Cell → List PyData → Prop
  | lst {j : Nat} {mu : List Cell} {ds : List PyData} : mu[j]? = some (.lst ds) → resL (.op j) mu ds
/-- .. taken by the caller as frozen data -/
theorem take_frozen {al1 : List Addr} {mu1 : List Cell} {x : PyData} {F0 : Hp} (wb : Wo K T B al mu F' H') (h0 : ∀ a, ¬ Kn H a → ¬ Kn B.H a ∧ a ∉ al) (w' : Wo K T ⟨F0, H, []⟩ al1 mu1 F' H') (hv : Val K al1 F' v d) (hx : resP d mu1 x) : ∃ F2, Wo K T B al mu F2 H' ∧ Ex F' F2 ∧ Rp K F2 v x := by
  have go : ∀ {j : Nat} {c : Cell} {a : Addr}, mu1[j]? = some c → al1[j]? = some a → ∃ o, H' a = some o ∧ (∀ ps, o ≠ .tbl ps) ∧ F' a = none ∧ CellAt K F' H' a c ∧ Wo K T B al mu (upd F' a o) H' := fun {j c a} hc ha => by
    obtain ⟨f0, hc1⟩ := w'.cell j c a hc ha
    have ha0 : ¬ Kn H a := by
      rcases w'.old a (List.mem_of_getElem? ha) with q | q
      · exact q
      · simp at q
    obtain ⟨hb, hn⟩ := h0 a ha0
    obtain ⟨o, ho, hot⟩ := hc1.there
    exact ⟨o, ho, hot, f0, hc1, wb.freeze ho hot f0 hb hn⟩
  cases hx with
  | py x mu => exact ⟨F', wb, Ex.refl _, hv⟩
  | lst hc =>
    obtain ⟨a, ha, rfl⟩ := hv
    obtain ⟨o, ho, hot, f0, hc1, wf⟩ := go hc ha
    obtain ⟨vs, g1, g2⟩ := hc1
    rw [ho] at g1; cases g1
    exact ⟨_, wf, Ex.new f0, .lst upd_same (g2.mono (Ex.new f0))⟩
  | dk hc =>
    obtain ⟨a, ha, rfl⟩ := hv
    obtain ⟨o, ho, hot, f0, hc1, wf⟩ := go hc ha
    obtain ⟨vs, g1, g2⟩ := hc1
    rw [ho] at g1; cases g1
    exact ⟨_, wf, Ex.new f0, .dk (.inl upd_same) (g2.mono (Ex.new f0))⟩
  | dt hc =>
    obtain ⟨a, ha, rfl⟩ := hv
    obtain ⟨o, ho, hot, f0, hc1, wf⟩ := go hc ha
    obtain ⟨vs, g1, g2⟩ := hc1
    rw [ho] at g1; cases g1
    exact ⟨_, wf, Ex.new f0, .dt (.inl upd_same) (g2.mono (Ex.new f0))⟩
/-- .. taken by the caller as a new cell -/
theorem take_cell {al1 : List Addr} {mu1 : List Cell} {ds : List PyData} {F0 : Hp} (wb : Wo K T B al mu F' H') (h0 : ∀ a, ¬ Kn H a → ¬ Kn B.H a ∧ a ∉ al) (w' : Wo K T ⟨F0, H, []⟩ al1 mu1 F' H') (hv : Val K al1 F' v d) (hx : resL d mu1 ds) :
    ∃ a, v = .ref a ∧ Wo K T B (al ++ [a]) (mu ++ [.lst ds]) F' H' := by
  cases hx with
  | lst hc =>
    obtain ⟨a, ha, rfl⟩ := hv
    obtain ⟨f0, hc1⟩ := w'.cell _ _ a hc ha
    have ha0 : ¬ Kn H a := by
      rcases w'.old a (List.mem_of_getElem? ha) with q | q
      · exact q
      · simp at q
    obtain ⟨hb, hn⟩ := h0 a ha0
    refine ⟨a, rfl, wb.sub, wb.up, wb.fresh, wb.keep, wb.dom, by simp [wb.len], ?_, fun b hb' => ?_, wb.pre.trans (List.prefix_append _ _), fun j c b h1 h2 => ?_, wb.tab, wb.notbl⟩
    · rw [List.nodup_append]
      refine ⟨wb.nd, by simp, fun b hb' c hc' => ?_⟩
      simp at hc'
      subst hc'
      rintro rfl
      exact hn hb'
    · rcases List.mem_append.mp hb' with q | q
      · exact wb.old b q
      · simp at q; subst q; exact .inl hb
    · by_cases hj : j < al.length
      · rw [List.getElem?_append_left hj] at h2
        rw [List.getElem?_append_left (by rw [← wb.len]; exact hj)] at h1
        exact wb.cell j c b h1 h2
      · rw [List.getElem?_append_right (by omega)] at h2
        rw [List.getElem?_append_right (by rw [← wb.len]; omega), ← wb.len] at h1
        have hz : j - al.length = 0 := by
          cases e : j - al.length with
          | zero => rfl
          | succ n => rw [e] at h2; simp at h2
        rw [hz] at h1 h2
        simp at h1 h2
        subst h1 h2
        exact ⟨f0, hc1⟩
theorem resL.resP (h : resL d mu ds) : resP d mu (.list ds) := by
  cases h with
  | lst h => exact .lst h
/-! ### cells handed to a callee that only reads them: frozen for the while -/
def chill (al : List Addr) (F H : Hp) : Hp := fun a => if a ∈ al then H a else F a
def thaw (al : List Addr) (F : Hp) : Hp := fun a => if a ∈ al then none else F a
theorem chill_ex (w : Wo K T B al mu F H) : Ex F (chill al F H) := fun a o h => by
  unfold chill
  by_cases q : a ∈ al
  · rw [if_pos q]; exact w.sub a o h
  · rw [if_neg q]; exact h
theorem chill_wo (w : Wo K T B al mu F H) : Wo K T ⟨chill al F H, H, []⟩ [] [] (chill al F H) H := by
  refine ⟨fun a o h => ?_, Ex.refl _, fun _ _ h => h, fun _ _ h _ _ => h, fun _ h => h, rfl, .nil, fun _ h => absurd h (by simp), List.prefix_refl _, fun j c a h => by simp at h, w.tab, fun a ps h => ?_⟩
  · unfold chill at h
    split at h
    · exact h
    · exact w.sub a o h
  · unfold chill at h
    split at h
    · rename_i q
      obtain ⟨j, c, _, _, _, hc⟩ := w.at_ q
      obtain ⟨o, ho, hot⟩ := hc.there
      rw [ho] at h
      exact hot ps (Option.some.inj h)
    · exact w.notbl a ps h
theorem thaw_wo {al1 : List Addr} {mu1 : List Cell} (w : Wo K T B al mu F H) (w' : Wo K T ⟨chill al F H, H, []⟩ al1 mu1 F' H') : Wo K T B al mu (thaw al F') H' ∧ Ex F (thaw al F') := by
  have ft : ∀ a, a ∈ al → F a = none := fun a h => by
    obtain ⟨j, c, _, _, f0, _⟩ := w.at_ h
    exact f0
  have e1 : Ex F (thaw al F') := fun a o h => by
    have q : a ∉ al := fun z => by rw [ft a z] at h; cases h
    unfold thaw
    rw [if_neg q]
    exact w'.up a o (chill_ex w a o h)
  have kp : ∀ a o, H a = some o → (∀ ps, o ≠ .tbl ps) → H' a = some o := fun a o h1 h2 => w'.keep a o h1 h2 (by simp)
  refine ⟨⟨fun a o h => ?_, Ex.trans w.up e1, fun a h1 h2 => ?_, fun a o h1 h2 h3 => kp a o (w.keep a o h1 h2 h3) h2, fun a h => w'.dom a (w.dom a h), w.len, w.nd, w.old, w.pre, fun j c a h1 h2 => ?_, w'.tab, fun a ps h => ?_⟩, e1⟩
  · unfold thaw at h
    split at h
    · cases h
    · exact w'.sub a o h
  · unfold thaw
    by_cases q : a ∈ al
    · rw [if_pos q]
    · rw [if_neg q]
      refine w'.fresh a (w.dom a h1) ?_
      show chill al F H a = none
      unfold chill
      rw [if_neg q]
      exact w.fresh a h1 h2
  · obtain ⟨q1, q2⟩ := w.cell j c a h1 h2
    obtain ⟨o, q3, q4⟩ := q2.there
    refine ⟨?_, q2.mono e1 ((kp a o q3 q4).trans q3.symm)⟩
    unfold thaw
    rw [if_pos (List.mem_of_getElem? h2)]
  · unfold thaw at h
    split at h
    · cases h
    · exact w'.notbl a ps h
mutual
/-- no list, no dict in it -/
def clean : PyData → Bool
  | .list _ => false
  | .dict _ => false
  | .tuple xs => cleans xs
  | .none => true
  | .bool _ => true
  | .int _ => true
  | .str _ => true
def cleans : List PyData → Bool
  | [] => true
  | x :: xs => clean x && cleans xs
end
mutual
theorem thaw_rp (hl : ∀ a, a ∈ al → ∀ vs, F a ≠ some (.tup vs)) : ∀ {v : V} {x : PyData}, Rp K F v x → clean x = true → Rp K (thaw al F) v x
  | _, _, .non, _ => .non
  | _, _, .bl b, _ => .bl b
  | _, _, .int i, _ => .int i
  | _, _, .str x, _ => .str x
  | _, _, .lst h a, q => by simp [clean] at q
  | _, _, .dk h a, q => by simp [clean] at q
  | _, _, .dt h a, q => by simp [clean] at q
  | _, _, .tup (a := b) h r, q => .tup (by
      unfold thaw
      rw [if_neg fun z => hl b z _ h]
      exact h) (thaw_rps hl r (by simpa [clean] using q))
theorem thaw_rps (hl : ∀ a, a ∈ al → ∀ vs, F a ≠ some (.tup vs)) : ∀ {v : List V} {x : List PyData}, RpAll K F v x → cleans x = true → RpAll K (thaw al F) v x
  | _, _, .nil, _ => .nil
  | _, _, .cons h a, q => by
    simp only [cleans, Bool.and_eq_true] at q
    exact .cons (thaw_rp hl h q.1) (thaw_rps hl a q.2)
end
theorem chill_nt {al1 : List Addr} {mu1 : List Cell} (w : Wo K T B al mu F H) (w' : Wo K T ⟨chill al F H, H, []⟩ al1 mu1 F' H') : ∀ a, a ∈ al → ∀ vs, F' a ≠ some (.tup vs) := fun a h vs z => by
  obtain ⟨j, c, _, _, _, hc⟩ := w.at_ h
  obtain ⟨o, ho, hot⟩ := hc.there
  have q0 : chill al F H a = some o := by unfold chill; rw [if_pos h]; exact ho
  have q : F' a = some o := w'.up a o q0
  rw [z] at q
  cases q
  cases c with
  | lst ds => obtain ⟨vs, q, _⟩ := hc; rw [ho] at q; cases q
  | dk ds => obtain ⟨vs, q, _⟩ := hc; rw [ho] at q; cases q
  | dt ds => obtain ⟨vs, q, _⟩ := hc; rw [ho] at q; cases q
  | lk o ks ds => obtain ⟨q, _⟩ := hc; rw [ho] at q; cases q
  | lt o ks ds => obtain ⟨q, _⟩ := hc; rw [ho] at q; cases q
/-- arguments as data: cells by their contents -/
def vws (mu : List Cell) : List D → Option (List PyData)
  | [] => some []
  | d :: r => match vw mu d, vws mu r with
    | some x, some xs => some (x :: xs)
    | _, _ => none
theorem chill_val (w : Wo K T B al mu F H) (hv : Val K al F v d) {x : PyData} (e : vw mu d = some x) : Rp K (chill al F H) v x := by
  have ex := chill_ex w
  cases d with
  | py y => cases e; exact Rp.mono ex hv
  | sc y => cases e
  | kt y => cases e
  | op j =>
    obtain ⟨a, ha, rfl⟩ := hv
    have hm : a ∈ al := List.mem_of_getElem? ha
    have hq : chill al F H a = H a := by unfold chill; rw [if_pos hm]
    cases hc : mu[j]? with
    | none => simp [vw, hc] at e
    | some c =>
      obtain ⟨_, h1⟩ := w.cell j c a hc ha
      cases c with
      | lst ds => simp [vw, hc] at e; subst e; obtain ⟨vs, g1, g2⟩ := h1; exact .lst (hq.trans g1) (g2.mono ex)
      | dk ds => simp [vw, hc] at e; subst e; obtain ⟨vs, g1, g2⟩ := h1; exact .dk (.inl (hq.trans g1)) (g2.mono ex)
      | dt ds => simp [vw, hc] at e; subst e; obtain ⟨vs, g1, g2⟩ := h1; exact .dt (.inl (hq.trans g1)) (g2.mono ex)
      | lk o ks ds => simp [vw, hc] at e; subst e; obtain ⟨g1, g2⟩ := h1; exact .dk (.inr ⟨o, hq.trans g1⟩) (g2.mono ex)
      | lt o ks ds => simp [vw, hc] at e; subst e; obtain ⟨g1, g2⟩ := h1; exact .dt (.inr ⟨o, hq.trans g1⟩) (g2.mono ex)
theorem chill_vals (w : Wo K T B al mu F H) : ∀ {vs : List V} {ds : List D} {xs : List PyData}, Vls K al F vs ds → vws mu ds = some xs → Vls K [] (chill al F H) vs (xs.map .py)
  | _, _, _, .nil, e => by cases e; exact .nil
  | _, _, _, .cons (b := d) h r, e => by
    rw [vws] at e
    split at e
    · rename_i x xs h1 h2
      cases e
      exact .cons (chill_val w h h1) (chill_vals w r h2)
    · cases e
theorem pys_map : ∀ xs : List PyData, pys (xs.map D.py) = some xs
  | [] => rfl
  | x :: xs => by rw [List.map_cons, pys, pys_map xs] <;> rfl
theorem vals_pys : ∀ {vs : List V} {ds : List D} {xs : List PyData}, Vls K al F vs ds → pys ds = some xs → Vls K [] F vs (xs.map .py)
  | _, _, _, .nil, e => by cases e; exact .nil
  | _, _, _, .cons (b := d) h r, e => by
    cases d with
    | py d =>
      cases q : pys _ with
      | none => rw [pys, q] at e; cases e
      | some ys =>
        rw [pys, q] at e
        cases e
        exact .cons h (vals_pys r q)
    | op j => cases e
    | sc j => cases e
    | kt j => cases e
end
/-! ### promises of defs that get none of the cells -/
abbrev SpP := List PyData → (PyData → Prop) → (Addr → Prop) → Prop
abbrev SpL := List PyData → (List PyData → Prop) → (Addr → Prop) → Prop
def spP (sp : SpP) : SpD := fun ds mu Qd Zd => mu = [] ∧ ∃ xs q z, ds = xs.map .py ∧ sp xs q z ∧ (∀ x, q x → ∀ d mu', resP d mu' x → Qd d mu') ∧ (∀ C, z C → ∀ mu', Zd C mu')
/-- .. that hand back a new list -/
def spL (sp : SpL) : SpD := fun ds mu Qd Zd => mu = [] ∧ ∃ xs q z, ds = xs.map .py ∧ sp xs q z ∧ (∀ x, q x → ∀ d mu', resL d mu' x → Qd d mu') ∧ (∀ C, z C → ∀ mu', Zd C mu')
def callP (sp : SpP) (ds : List D) (mu : List Cell) (Q : QD) (Z : QX) : Prop := match pys ds with
  | some xs => sp xs (fun x => Q (.py x) mu) (fun C => Z C mu)
  | none => match vws mu ds with
    | some xs => sp xs (fun x => clean x = true ∧ Q (.py x) mu) (fun C => Z C mu)
    | none => False
def callL (c : Bool) (sp : SpL) (ds : List D) (mu : List Cell) (Q : QD) (Z : QX) : Prop := match pys ds with
  | some xs => sp xs (fun x => rst c x mu Q) (fun C => Z C mu)
  | none => match vws mu ds with
    | some xs => sp xs (fun x => cleans x = true ∧ rst c x mu Q) (fun C => Z C mu)
    | none => False
def dCallP (sp : SpP) (ta : TDA) : TD := fun rho mu Q Z => ta rho mu (fun ds mu1 => callP sp ds mu1 Q Z) Z
def dCallL (c : Bool) (sp : SpL) (ta : TDA) : TD := fun rho mu Q Z => ta rho mu (fun ds mu1 => callL c sp ds mu1 Q Z) Z
section
variable {K : PySem.W.Frag} {T : List (Addr × Str)} {B : Base} {al al' : List Addr} {mu mu' : List Cell} {F F' H H' : Hp} {v : V} {d : D}
theorem KQ.frozen {Qd : QD} {Q : VK} {x : PyData} {F2 : Hp} (k : KQ K T B al F Qd Q) (w : Wo K T B al mu F2 H') (e : Ex F F2) (r : Rp K F2 v x) (q : Qd (.py x) mu) : Q v H' := k v H' al mu F2 (.py x) w e (List.prefix_refl _) r q
theorem callP_ok {sp : SpP} {vs : List V} {ds : List D} {Qd : QD} {Zd : QX} {Q : VK} {sg : L2.St} {W : WX} (w : Wo K T B al mu F H) (hv : Vls K al F vs ds) (h : callP sp ds mu Qd Zd) (k : KQ K T B al F Qd Q) (kx : KX K T B al F sg Zd W) :
    spOf K T (spP sp) vs H Q (WE W sg) := by
  have h0 : ∀ a, ¬ Kn H a → ¬ Kn B.H a ∧ a ∉ al := fun a q => w.bkn q
  unfold callP at h
  split at h
  · rename_i xs hx
    refine ⟨[], [], F, xs.map .py, fun d mu' => ∃ x, resP d mu' x ∧ Qd (.py x) mu, fun C _ => Zd C mu, w.callee, vals_pys hv hx, ⟨rfl, xs, _, _, rfl, h, fun x hq d mu' hr => ⟨x, hr, hq⟩, fun C hz mu' => hz⟩, ?_, ?_⟩
    · rintro v H' al' mu' F' d w' hv' ⟨x, hr, hq⟩
      obtain ⟨F2, w2, e2, r2⟩ := take_frozen (w.back0 w') h0 w' hv' hr
      exact k.frozen w2 (Ex.trans w'.up e2) r2 hq
    · intro C H' al' mu' F' w' hz
      exact kx C H' al mu F' (w.back0 w') w'.up (List.prefix_refl _) hz
  · split at h
    · rename_i xs hx
      refine ⟨[], [], chill al F H, xs.map .py, fun d mu' => ∃ x, resP d mu' x ∧ clean x = true ∧ Qd (.py x) mu, fun C _ => Zd C mu, chill_wo w, chill_vals w hv hx, ⟨rfl, xs, _, _, rfl, h, fun x hq d mu' hr => ⟨x, hr, hq⟩, fun C hz mu' => hz⟩, ?_, ?_⟩
      · rintro v H' al' mu' F' d w' hv' ⟨x, hr, hc, hq⟩
        obtain ⟨w2, e2⟩ := thaw_wo w w'
        cases hr with
        | py x mu => exact k.frozen w2 e2 (thaw_rp (chill_nt w w') hv' hc) hq
        | lst h => simp [clean] at hc
        | dk h => simp [clean] at hc
        | dt h => simp [clean] at hc
      · intro C H' al' mu' F' w' hz
        obtain ⟨w2, e2⟩ := thaw_wo w w'
        exact kx C H' al mu _ w2 e2 (List.prefix_refl _) hz
    · exact h.elim
theorem take_list {al1 : List Addr} {mu1 : List Cell} {ds : List PyData} {F0 : Hp} {c : Bool} {Qd : QD} {Q : VK} (k : KQ K T B al F Qd Q) (e : Ex F F') (wb : Wo K T B al mu F' H') (h0 : ∀ a, ¬ Kn H a → ¬ Kn B.H a ∧ a ∉ al) (w' : Wo K T ⟨F0, H, []⟩ al1 mu1 F' H') (hv : Val K al1 F' v d) (hx : resL d mu1 ds) (q : rst c ds mu Qd) : Q v H' := by
  cases c with
  | true =>
    unfold rst at q
    rw [if_pos rfl] at q
    obtain ⟨a, rfl, w2⟩ := take_cell wb h0 w' hv hx
    exact k _ _ (al ++ [a]) (mu ++ [.lst ds]) F' (.op mu.length) w2 e (List.prefix_append _ _) ⟨a, by rw [← wb.len]; simp, rfl⟩ q
  | false =>
    unfold rst at q
    rw [if_neg Bool.false_ne_true] at q
    obtain ⟨F2, w2, e2, r2⟩ := take_frozen wb h0 w' hv hx.resP
    exact k.frozen w2 (Ex.trans e e2) r2 q
theorem thaw_cell {j : Nat} {al1 : List Addr} {mu1 : List Cell} {ds : List PyData} {a : Addr} (w : Wo K T B al mu F H) (w' : Wo K T ⟨chill al F H, H, []⟩ al1 mu1 F' H') (ha : al1[j]? = some a) (hj : mu1[j]? = some (.lst ds)) (hc : cleans ds = true) :
    ∃ vs, H' a = some (.lst vs) ∧ RpAll K (thaw al F') vs ds ∧ thaw al F' a = none ∧ a ∉ al ∧ ¬ Kn B.H a := by
  obtain ⟨f0, vs, g1, g2⟩ := w'.cell j _ a hj ha
  have ha0 : ¬ Kn H a := by
    rcases w'.old a (List.mem_of_getElem? ha) with q | q
    · exact q
    · simp at q
  refine ⟨vs, g1, thaw_rps (chill_nt w w') g2 hc, ?_, (w.bkn ha0).2, (w.bkn ha0).1⟩
  unfold thaw
  split
  · rfl
  · exact f0
theorem Wo.adopt {a : Addr} {c : Cell} (wb : Wo K T B al mu F H) (hn : a ∉ al) (hb : ¬ Kn B.H a) (f0 : F a = none) (hc1 : CellAt K F H a c) : Wo K T B (al ++ [a]) (mu ++ [c]) F H := by
  refine ⟨wb.sub, wb.up, wb.fresh, wb.keep, wb.dom, by simp [wb.len], ?_, fun b hb' => ?_, wb.pre.trans (List.prefix_append _ _), fun j c b h1 h2 => ?_, wb.tab, wb.notbl⟩
  · rw [List.nodup_append]
    refine ⟨wb.nd, by simp, fun b hb' c hc' => ?_⟩
    simp at hc'
    subst hc'
    rintro rfl
    exact hn hb'
  · rcases List.mem_append.mp hb' with q | q
    · exact wb.old b q
    · simp at q; subst q; exact .inl hb
  · by_cases hj : j < al.length
    · rw [List.getElem?_append_left hj] at h2
      rw [List.getElem?_append_left (by rw [← wb.len]; exact hj)] at h1
      exact wb.cell j c b h1 h2
    · rw [List.getElem?_append_right (by omega)] at h2
      rw [List.getElem?_append_right (by rw [← wb.len]; omega), ← wb.len] at h1
      have hz : j - al.length = 0 := by
        cases e : j - al.length with
        | zero => rfl
        | succ n => rw [e] at h2; simp at h2
      rw [hz] at h1 h2
      simp at h1 h2
      subst h1 h2
      exact ⟨f0, hc1⟩
theorem callL_ok {c : Bool} {sp : SpL} {vs : List V} {ds : List D} {Qd : QD} {Zd : QX} {Q : VK} {sg : L2.St} {W : WX} (w : Wo K T B al mu F H) (hv : Vls K al F vs ds) (h : callL c sp ds mu Qd Zd) (k : KQ K T B al F Qd Q) (kx : KX K T B al F sg Zd W) :
    spOf K T (spL sp) vs H Q (WE W sg) := by
  have h0 : ∀ a, ¬ Kn H a → ¬ Kn B.H a ∧ a ∉ al := fun a q => w.bkn q
  unfold callL at h
  split at h
  · rename_i xs hx
    refine ⟨[], [], F, xs.map .py, fun d mu' => ∃ x, resL d mu' x ∧ rst c x mu Qd, fun C _ => Zd C mu, w.callee, vals_pys hv hx, ⟨rfl, xs, _, _, rfl, h, fun x hq d mu' hr => ⟨x, hr, hq⟩, fun C hz mu' => hz⟩, ?_, ?_⟩
    · rintro v H' al' mu' F' d w' hv' ⟨x, hr, hq⟩
      exact take_list k w'.up (w.back0 w') h0 w' hv' hr hq
    · intro C H' al' mu' F' w' hz
      exact kx C H' al mu F' (w.back0 w') w'.up (List.prefix_refl _) hz
  · split at h
    · rename_i xs hx
      refine ⟨[], [], chill al F H, xs.map .py, fun d mu' => ∃ x, resL d mu' x ∧ cleans x = true ∧ rst c x mu Qd, fun C _ => Zd C mu, chill_wo w, chill_vals w hv hx, ⟨rfl, xs, _, _, rfl, h, fun x hq d mu' hr => ⟨x, hr, hq⟩, fun C hz mu' => hz⟩, ?_, ?_⟩
      · rintro v H' al' mu' F' d w' hv' ⟨x, hr, hc, hq⟩
        obtain ⟨w2, e2⟩ := thaw_wo w w'
        cases hr with
        | lst hj =>
          obtain ⟨a, ha, rfl⟩ := hv'
          obtain ⟨vs, g1, g2, g3, g4, g5⟩ := thaw_cell w w' ha hj hc
          cases c with
          | true =>
            unfold rst at hq
            rw [if_pos rfl] at hq
            exact k _ _ (al ++ [a]) (mu ++ [.lst x]) _ (.op mu.length) (w2.adopt (c := .lst x) g4 g5 g3 ⟨vs, g1, g2⟩) e2 (List.prefix_append _ _) ⟨a, by rw [← w.len]; simp, rfl⟩ hq
          | false =>
            unfold rst at hq
            rw [if_neg Bool.false_ne_true] at hq
            exact k.frozen (w2.freeze g1 (fun _ z => by cases z) g3 g5 g4) (Ex.trans e2 (Ex.new g3)) (.lst upd_same (g2.mono (Ex.new g3))) hq
      · intro C H' al' mu' F' w' hz
        obtain ⟨w2, e2⟩ := thaw_wo w w'
        exact kx C H' al mu _ w2 e2 (List.prefix_refl _) hz
    · exact h.elim
end
section
variable {X : Cx} {T : List (Addr × Str)} {W : WX} {k : Nat} {f : Addr} {fd : FuncData} {ps : List Str} {x : Str} {p pos : Pos} {e : Expr} {es : List Expr} {ta : TDA}
/-- f(..), f gets none of the cells -/
theorem de_callP {sp : SpP} (Fd : FnD X.prog X.w X.K X.mg X.base T k f fd ps (spP sp)) (hr : Room k X.A) (hg : Gl X x) (hm : X.mg x = some (.ref f)) (hk : PySem.W.keepIn X.K (.ref f) = true) (hb : Binds X.K fd ps []) (tk : Takes X W)
    (ha : DA X T W (e :: es) ta) (hdb : (x == ("__debug__" : Str)) = false := by decide) (he : starEach (e :: es) X.env = (false, eval e X.env) :: starEach es X.env := by rfl) (hpl : (backTo pos (starEach es X.env)).any (·.1) = false := by rfl) :
    DE X T W (.Call (.Name x p) (e :: es) [] pos) (dCallP sp ta) :=
  pe_imp (pe_callS (E := WE W) Fd hr hg hm hk hb (passAt tk) ha hdb he hpl) fun sg H Q ⟨B, rho, al, mu, F, Qd, Zd, w, e, h, k, kx⟩ => ⟨B, rho, al, mu, F, _, Zd, w, e, h, fun vs H1 al1 mu1 F1 ds w1 e1 p1 v1 h1 =>
    callP_ok w1 v1 h1 (k.mono e1 p1) (kx.mono e1 p1), kx⟩
theorem de_callL {sp : SpL} (c : Bool) (Fd : FnD X.prog X.w X.K X.mg X.base T k f fd ps (spL sp)) (hr : Room k X.A) (hg : Gl X x) (hm : X.mg x = some (.ref f)) (hk : PySem.W.keepIn X.K (.ref f) = true) (hb : Binds X.K fd ps []) (tk : Takes X W)
    (ha : DA X T W (e :: es) ta) (hdb : (x == ("__debug__" : Str)) = false := by decide) (he : starEach (e :: es) X.env = (false, eval e X.env) :: starEach es X.env := by rfl) (hpl : (backTo pos (starEach es X.env)).any (·.1) = false := by rfl) :
    DE X T W (.Call (.Name x p) (e :: es) [] pos) (dCallL c sp ta) :=
  pe_imp (pe_callS (E := WE W) Fd hr hg hm hk hb (passAt tk) ha hdb he hpl) fun sg H Q ⟨B, rho, al, mu, F, Qd, Zd, w, e, h, k, kx⟩ => ⟨B, rho, al, mu, F, _, Zd, w, e, h, fun vs H1 al1 mu1 F1 ds w1 e1 p1 v1 h1 =>
    callL_ok w1 v1 h1 (k.mono e1 p1) (kx.mono e1 p1), kx⟩
/-- f(..), f may reach all the cells -/
def dCallA (sd : SpD) (ta : TDA) : TD := fun rho mu Q Z => ta rho mu (fun ds mu1 => sd ds mu1 Q Z) Z
theorem callA_ok {K : PySem.W.Frag} {B : Base} {al : List Addr} {mu : List Cell} {F H : Hp} {sd : SpD} {vs : List V} {ds : List D} {Qd : QD} {Zd : QX} {Q : VK} {sg : L2.St} (w : Wo K T B al mu F H) (hv : Vls K al F vs ds) (h : sd ds mu Qd Zd) (k : KQ K T B al F Qd Q) (kx : KX K T B al F sg Zd W) :
    spOf K T sd vs H Q (WE W sg) :=
  ⟨al, mu, F, ds, Qd, Zd, w.self, hv, h, fun v H' al' mu' F' d w' hv' q => k v H' al' mu' F' d (w.back w') w'.up w'.pre hv' q, fun C H' al' mu' F' w' q => kx C H' al' mu' F' (w.back w') w'.up w'.pre q⟩
theorem de_callA {sd : SpD} (Fd : FnD X.prog X.w X.K X.mg X.base T k f fd ps sd) (hr : Room k X.A) (hg : Gl X x) (hm : X.mg x = some (.ref f)) (hk : PySem.W.keepIn X.K (.ref f) = true) (hb : Binds X.K fd ps []) (tk : Takes X W)
    (ha : DA X T W (e :: es) ta) (hdb : (x == ("__debug__" : Str)) = false := by decide) (he : starEach (e :: es) X.env = (false, eval e X.env) :: starEach es X.env := by rfl) (hpl : (backTo pos (starEach es X.env)).any (·.1) = false := by rfl) :
    DE X T W (.Call (.Name x p) (e :: es) [] pos) (dCallA sd ta) :=
  pe_imp (pe_callS (E := WE W) Fd hr hg hm hk hb (passAt tk) ha hdb he hpl) fun sg H Q ⟨B, rho, al, mu, F, Qd, Zd, w, e, h, k, kx⟩ => ⟨B, rho, al, mu, F, _, Zd, w, e, h, fun vs H1 al1 mu1 F1 ds w1 e1 p1 v1 h1 =>
    callA_ok w1 v1 h1 (k.mono e1 p1) (kx.mono e1 p1), kx⟩
/-! ### raise -/
def dRaise (C : Addr) : TSD := fun E rho mu => E.ex C rho mu
theorem ds_raise {C : Addr} {x m : Str} {j : Nat} {p2 pos2 : Pos} (hc : X.calm = true) (tk : Takes X W) (mk : PMk X (.Call (.Name x p) [.Constant (.str m) j p2] [] pos) (fun _ H Q => Q (.ref C) none H)) : DS X T W (.Raise (some (.Call (.Name x p) [.Constant (.str m) j p2] [] pos)) none pos2) (dRaise C) :=
  ps_imp (ps_raise hc tk mk) fun Dn sg H ⟨B, rho, al, mu, F, E, w, e, h, k⟩ => k.ex C rho sg al mu F H w e h
end
end DL
set_option Elab.async false
set_option linter.all false
set_option maxRecDepth 100000
set_option maxHeartbeats 1000000
/-! DL, comprehensions. -/
namespace DL
open PySem PySem.Spec PyProof.Rows L2
def wipeD (rho : DEnv) : List Nat → DEnv
  | [] => rho
  | v :: vs => (wipeD rho vs).set v none
theorem wipe_get {sg sg' : L2.St} : ∀ (vs : List Nat), sg'.length = sg.length → (∀ j, j ∉ vs → sg'[j]? = sg[j]?) → wipe sg' vs = wipe sg vs := by
  intro vs hl h
  refine List.ext_getElem? fun j => ?_
  by_cases hj : j ∈ vs
  · have go : ∀ (s : L2.St) (vs : List Nat), j ∈ vs → (wipe s vs)[j]? = if j < s.length then some none else none := by
      intro s vs
      induction vs with
      | nil => intro z; cases z
      | cons v vs ih =>
        intro z
        show ((wipe s vs).set v none)[j]? = _
        rw [List.getElem?_set]
        by_cases hv : v = j
        · subst hv
          simp [wipe_length]
        · rw [if_neg hv]
          exact ih (by cases z with | head => exact absurd rfl hv | tail _ z => exact z)
    rw [go sg' vs hj, go sg vs hj, hl]
  · have go : ∀ (s : L2.St) (vs : List Nat), j ∉ vs → (wipe s vs)[j]? = s[j]? := by
      intro s vs
      induction vs with
      | nil => intro _; rfl
      | cons v vs ih =>
        intro z
        show ((wipe s vs).set v none)[j]? = _
        simp only [List.mem_cons, not_or] at z
        rw [List.getElem?_set_ne (Ne.symm z.1)]
        exact ih z.2
    rw [go sg' vs hj, go sg vs hj, h j hj]
section
variable {K : PySem.W.Frag} {T : List (Addr × Str)} {B : Base} {al al' : List Addr} {mu mu' : List Cell} {F F' H H' : Hp} {v : V} {d : D} {rho : DEnv} {sg : L2.St}
theorem En.wipe (e : En K rho sg al F) : ∀ vs : List Nat, En K (wipeD rho vs) (wipe sg vs) al F
  | [] => e
  | _ :: vs => (En.wipe e vs).wipe1
theorem wipe_wipe (sg : L2.St) (vs : List Nat) : (L2.wipe sg vs).length = sg.length := wipe_length sg vs
/-- an object that nobody speaks of -/
theorem Wo.junk {p : Addr} {o : HO} (w : Wo K T B al mu F H) (h : H p = none) : Wo K T B al mu F (upd H p o) := by
  have eH : Ex H (upd H p o) := Ex.new h
  have bn := w.bnone h
  refine ⟨fun a u e => eH a u (w.sub a u e), w.up, w.fresh, fun a u h1 h2 h3 => eH _ _ (w.keep a u h1 h2 h3), fun a h1 => ?_, w.len, w.nd, w.old, w.pre, fun j c a h1 h2 => ?_, LamX.Tabs.ext w.tab eH, w.notbl⟩
  · obtain ⟨u, q1, q2⟩ := w.dom a h1
    exact ⟨u, eH _ _ q1, q2⟩
  · obtain ⟨q1, q2⟩ := w.cell j c a h1 h2
    obtain ⟨u, q3, _⟩ := q2.there
    exact ⟨q1, q2.mono (Ex.refl _) (upd_ne (ne_of_none q3 h))⟩
theorem Wo.junkset {p : Addr} {o u0 : HO} (w : Wo K T B al mu F H) (hp : H p = some u0) (h0 : (∀ ps, u0 ≠ .tbl ps) ∧ ∀ φ, u0 ≠ .ext φ) (ho : ∀ ps, o ≠ .tbl ps) (hf : F p = none) (hn : p ∉ al) (hb : ¬ Kn B.H p) : Wo K T B al mu F (upd H p o) := by
  refine ⟨fun a u e => ?_, w.up, w.fresh, fun a u h1 h2 h3 => ?_, fun a h1 => ?_, w.len, w.nd, w.old, w.pre, fun j c a h1 h2 => ?_, fun q hq => ?_, w.notbl⟩
  · rw [upd_ne (fun z => by rw [z, hf] at e; cases e)]; exact w.sub a u e
  · rw [upd_ne (fun (z : a = p) => hb (by rw [← z]; exact ⟨u, h1, h2⟩))]; exact w.keep a u h1 h2 h3
  · by_cases hb' : a = p
    · rw [hb']; exact ⟨o, upd_same, ho⟩
    · obtain ⟨u, q1, q2⟩ := w.dom a h1
      exact ⟨u, by rw [upd_ne hb']; exact q1, q2⟩
  · obtain ⟨q1, q2⟩ := w.cell j c a h1 h2
    exact ⟨q1, q2.mono (Ex.refl _) (upd_ne fun z => hn (z ▸ List.mem_of_getElem? h2))⟩
  · obtain ⟨ps, h1, h2, h3⟩ := w.tab q hq
    have hb : q.1 ≠ p := fun z => by rw [z, hp] at h1; exact h0.1 ps (Option.some.inj h1)
    refine ⟨ps, by rw [upd_ne hb]; exact h1, h2, fun pos cv hcv => ?_⟩
    obtain ⟨c1, e1, e2⟩ := h3 pos cv hcv
    refine ⟨c1, e1, ?_⟩
    have hb2 : c1 ≠ p := fun z => by
      rw [z, hp] at e2
      exact h0.2 _ (Option.some.inj e2)
    rw [upd_ne hb2]
    exact e2
end
mutual
theorem tgD_len : ∀ {g : Tgt} {x : PyData} {r0 r : DEnv}, tgD g x r0 = some r → r.length = r0.length
  | .nm i, x, r0, r, h => by
    rw [tgD] at h
    cases h
    simp
  | .tp ts, x, r0, r, h => by
    cases x with
    | tuple xs =>
      rw [tgD] at h
      exact tgDs_len2 h
    | _ => simp [tgD] at h
theorem tgDs_len2 : ∀ {g : Tgts} {x : List PyData} {r0 r : DEnv}, tgDs g x r0 = some r → r.length = r0.length
  | .nil, [], r0, r, h => by
    rw [tgDs] at h
    cases h
    rfl
  | .nil, _ :: _, r0, r, h => by simp [tgDs] at h
  | .cons t ts, [], r0, r, h => by simp [tgDs] at h
  | .cons t ts, x :: xs, r0, r, h => by
    rw [tgDs] at h
    split at h
    · rename_i r1 h1
      exact (tgDs_len2 h).trans (tgD_len h1)
    · cases h
end
/-- the items, one after the other: acc what is made so far -/
def lcL (g : Tgt) (tt : TDB) (te : TD) (rw_ : DEnv) (pin : List Cell → Prop) (Q : List PyData → List Cell → Prop) : List PyData → List PyData → List Cell → Prop
  | [], acc, mu => pin mu ∧ Q acc mu
  | x :: xs, acc, mu => pin mu ∧ match tgD g x rw_ with
    | some r => tt r mu (fun b mu1 => if b = true then te r mu1 (fun d mu2 => match d with
        | .py y => lcL g tt te rw_ pin Q xs (acc ++ [y]) mu2
        | _ => False) noX else lcL g tt te rw_ pin Q xs acc mu1) noX
    | none => False
def dLc (c : Bool) (it : TID) (g : Tgt) (tt : TDB) (te : TD) (vs : List Nat) : TD := fun rho mu Q Z => it rho mu (fun xs pin mu1 => xs.length ≤ sizeLine ∧ lcL g tt te (wipeD rho vs) pin (fun acc mu2 => rst c acc mu2 Q) xs [] mu1) Z
def dYes : TDB := fun _ mu Q _ => Q true mu
abbrev DTs (X : Cx) (T : List (Addr × Str)) (W : WX) (ifs : List Expr) (t : TDB) : Prop := PTs X ifs (liftT X.K T W t)
abbrev wF : WX := fun _ _ _ _ => False
section
variable {X : Cx} {T : List (Addr × Str)} {W : WX} {pos : Pos}
theorem dts_nil : DTs X T W [] dYes := ⟨fun pins s sg H Q I ⟨B, rho, al, mu, F, Qd, Zd, w, e, h, k, kx⟩ => pts_nil.run pins s sg H Q I (k.go w h)⟩
theorem dts_one {c : Expr} {t : TDB} (h : DT X T W c t) : DTs X T W [c] t := pts_one h
theorem lc_imp {c : Bool} {it : TID} {g : Tgt} {tt : TDB} {te : TD} {vs : List Nat} (hgs : ∀ j ∈ tgS g, j ∈ vs) (sg : L2.St) (H : Hp) (Q : VK) (h : liftE X.K T W (dLc c it g tt te vs) sg H Q) :
    tLc (liftI X.K T W it) (tgV X.K g) (liftT X.K T wF tt) (liftE X.K T wF te) vs sg H Q := by
  obtain ⟨B, rho, al, mu, F, Qd, Zd, w, e, h, k, kx⟩ := h
  refine ⟨B, rho, al, mu, F, _, Zd, w, e, h, fun J H1 al1 mu1 F1 xs pin w1 e1 p1 ok h1 => ?_, kx⟩
  obtain ⟨hz, h1⟩ := h1
  have k1 := k.mono e1 p1
  have en1 := e.mono e1 p1
  intro D hD
  have hF1 : F1 D = none := w1.fnone hD
  have nx : ∀ (C : Addr) (ψ : L2.St → Hp → Prop), True := fun _ _ => trivial
  refine ⟨fun i m H => m = xs.length - i ∧ i ≤ xs.length ∧ ∃ acc avs al mu F, Wo X.K T ⟨F1, H1, al1⟩ al mu F H ∧ H D = some (.lst avs) ∧ RpAll X.K F avs acc ∧ F D = none ∧ D ∉ al ∧ acc.length ≤ i ∧ lcL g tt te (wipeD rho vs) pin (fun acc mu2 => rst c acc mu2 Qd) (xs.drop i) acc mu,
    ⟨xs.length, by simp, Nat.zero_le _, [], [], al1, mu1, F1, w1.self.junk hD, upd_same, .nil, hF1, w1.notin hD, Nat.le_refl _, by simpa using h1⟩, ?_⟩
  rintro i m H2 ⟨rfl, hil, acc, avs, al2, mu2, F2, w2, hD2, rD, fD, nD, hal, h2⟩
  have up : Ex F1 F2 := w2.up
  have pre : al1 <+: al2 := w2.pre
  by_cases hlt : i < xs.length
  · rw [List.drop_eq_getElem_cons hlt] at h2
    obtain ⟨hpin, h2⟩ := h2
    obtain ⟨o1, o2⟩ := ok _ al2 mu2 F2 H2 w2.self up pre hpin
    obtain ⟨go, yld⟩ := o1 i xs[i] (List.getElem?_eq_getElem hlt)
    refine .inr ⟨go, fun H => ∃ acc avs al mu F, Wo X.K T ⟨F1, H1, al1⟩ al mu F H ∧ H D = some (.lst avs) ∧ RpAll X.K F avs acc ∧ F D = none ∧ D ∉ al ∧ acc.length ≤ i + 1 ∧ lcL g tt te (wipeD rho vs) pin (fun acc mu2 => rst c acc mu2 Qd) (xs.drop (i + 1)) acc mu,
      fun H' z => ⟨xs.length - (i + 1), by omega, rfl, hlt, z⟩, fun v H' y => ?_⟩
    obtain ⟨F3, w3, e3, r3⟩ := yld v H' y
    split at h2
    · rename_i r hr
      -- what stays of D through a run from here
      have stay : ∀ {al4 : List Addr} {mu4 : List Cell} {F4 H4 : Hp}, Wo X.K T ⟨F2, H2, al2⟩ al4 mu4 F4 H4 → H4 D = some (.lst avs) ∧ RpAll X.K F4 avs acc ∧ F4 D = none ∧ D ∉ al4 := fun {al4 mu4 F4 H4} w4 => by
        refine ⟨w4.keep D _ hD2 (fun _ z => by cases z) nD, rD.mono w4.up, w4.fresh D ⟨_, hD2, fun _ z => by cases z⟩ fD, fun z => ?_⟩
        rcases w4.old D z with q | q
        · exact q ⟨_, hD2, fun _ z => by cases z⟩
        · exact nD q
      refine tg_ok w3 r3 ((en1.wipe vs).mono (Ex.trans up e3) pre) hr fun sg4 en4 k4 => ?_
      refine ⟨?_, ⟨F2, H2, al2⟩, r, al2, mu2, F3, _, noX, w3, en4, h2, fun b H4 al4 mu4 F4 w4 e4 p4 h4 => ?_, noX_kx _⟩
      · refine (wipe_get vs ?_ fun j hj => (k4 j fun z => hj (hgs j z))).trans ?_
        · have z := en4.len
          have z2 := tgD_len hr
          have z3 := (en1.wipe vs).len
          rw [wipe_length] at z3 ⊢
          omega
        · refine wipe_get vs (wipe_length _ _) fun j hj => ?_
          have go : ∀ (s : L2.St) (vs : List Nat), j ∉ vs → (L2.wipe s vs)[j]? = s[j]? := by
            intro s vs
            induction vs with
            | nil => intro _; rfl
            | cons v vs ih =>
              intro z
              show ((L2.wipe s vs).set v none)[j]? = _
              simp only [List.mem_cons, not_or] at z
              rw [List.getElem?_set_ne (Ne.symm z.1)]
              exact ih z.2
          exact go sg vs hj
      · try dsimp only at h4
        cases b with
        | true =>
          rw [if_pos rfl] at h4 ⊢
          refine ⟨⟨F2, H2, al2⟩, r, al4, mu4, F4, _, noX, w4, en4.mono e4 p4, h4, fun u H5 al5 mu5 F5 d5 w5 e5 p5 v5 h5 => ?_, noX_kx _⟩
          try dsimp only at h5
          split at h5
          · rename_i y
            obtain ⟨s1, s2, s3, s4⟩ := stay w5
            refine ⟨avs, s1, ?_, acc ++ [y], avs ++ [u], al5, mu5, F5, ?_, upd_same, s2.app (.cons v5 .nil), s3, s4, by simp; omega, h5⟩
            · rw [rD.length]
              exact Nat.lt_of_le_of_lt hal (Nat.lt_of_lt_of_le hlt hz)
            · exact (w2.back w5).junkset s1 ⟨fun _ z => (by cases z), fun _ z => (by cases z)⟩ (fun _ z => by cases z) s3 s4 (kn_none hD)
          · exact h5.elim
        | false =>
          rw [if_neg Bool.false_ne_true] at h4 ⊢
          obtain ⟨s1, s2, s3, s4⟩ := stay w4
          exact ⟨acc, avs, al4, mu4, F4, w2.back w4, s1, s2, s3, s4, by omega, h4⟩
    · exact h2.elim
  · have ei : i = xs.length := by omega
    subst ei
    rw [List.drop_length] at h2
    obtain ⟨hpin, h2⟩ := h2
    obtain ⟨o1, o2⟩ := ok _ al2 mu2 F2 H2 w2.self up pre hpin
    refine .inl ⟨o2, ?_⟩
    have wB := w1.back w2
    have bD : ¬ Kn B.H D := w1.bnone hD
    have k2 := k1.mono up pre
    cases c with
    | true =>
      unfold rst at h2
      rw [if_pos rfl] at h2
      exact k2 _ _ (al2 ++ [D]) (mu2 ++ [.lst acc]) F2 (.op mu2.length) (wB.adopt (c := .lst acc) nD bD fD ⟨avs, hD2, rD⟩) (Ex.refl _) (List.prefix_append _ _) ⟨D, by rw [← w2.len]; simp, rfl⟩ h2
    | false =>
      unfold rst at h2
      rw [if_neg Bool.false_ne_true] at h2
      exact k2.frozen (wB.freeze hD2 (fun _ z => by cases z) fD bD nD) (Ex.new fD) (.lst upd_same (rD.mono (Ex.new fD))) h2
/-- [elt for tg in iter ifs] -/
theorem de_lc {elt tg iter : Expr} {ifs : List Expr} {scope : Scope} {own : List (Str × Nat)} {it : TID} {g : Tgt} {tt : TDB} {te : TD} (c : Bool) (hc : X.calm = true) (hN : X.N.Nodup) (hi : DI X T W tg iter it) (ok : BlkOk X.N X.env.scope scope own)
    (hg : ∀ (s : Shared) (H : Hp) (C : Addr) (cl : List (Str × Addr)) (fp : List Addr), PG (X.blk s H scope (compEnvC scope cl C X.env) fp) tg (tgV X.K g)) (hgs : ∀ j ∈ tgS g, j ∈ own.map (·.2))
    (ht : ∀ (s : Shared) (H : Hp) (C : Addr) (cl : List (Str × Addr)) (fp : List Addr), DTs (X.blk s H scope (compEnvC scope cl C X.env) fp) T wF ifs tt)
    (he : ∀ (s : Shared) (H : Hp) (C : Addr) (cl : List (Str × Addr)) (fp : List Addr), DE (X.blk s H scope (compEnvC scope cl C X.env) fp) T wF elt te) (hs : ∀ x, foldedSetIterable iter X.env x = pure x := by intro _; rfl) :
    DE X T W (.ListComp elt [⟨tg, iter, ifs, 0⟩] scope pos) (dLc c it g tt te (own.map (·.2))) :=
  pe_imp (pe_lc hc hN hi ok hg ht he hs) (lc_imp hgs)
/-- y = [..], y a plain local and no name of the comprehension -/
theorem ds_setLc {i : Nat} {y : Str} {py : Pos} {elt tg iter : Expr} {ifs : List Expr} {scope : Scope} {own : List (Str × Nat)} {it : TID} {g : Tgt} {tt : TDB} {te : TD} {spos : Pos} (c : Bool) (hc : X.calm = true) (hN : X.N.Nodup) (hy : X.N[i]? = some y) (hyl : X.env.scope.names.lookup y = some .local)
    (hsw : swapsWith (.ListComp elt [⟨tg, iter, ifs, 0⟩] scope pos) (some (.Name y py)) spos.line X.env = pure true) (hi : DI X T W tg iter it) (ok : BlkOk X.N X.env.scope scope own)
    (hg : ∀ (s : Shared) (H : Hp) (C : Addr) (cl : List (Str × Addr)) (fp : List Addr), PG (X.blk s H scope (compEnvC scope cl C X.env) fp) tg (tgV X.K g)) (hgs : ∀ j ∈ tgS g, j ∈ own.map (·.2))
    (ht : ∀ (s : Shared) (H : Hp) (C : Addr) (cl : List (Str × Addr)) (fp : List Addr), DTs (X.blk s H scope (compEnvC scope cl C X.env) fp) T wF ifs tt)
    (he : ∀ (s : Shared) (H : Hp) (C : Addr) (cl : List (Str × Addr)) (fp : List Addr), DE (X.blk s H scope (compEnvC scope cl C X.env) fp) T wF elt te) (hs : ∀ x, foldedSetIterable iter X.env x = pure x := by intro _; rfl) :
    DS X T W (.Assign [.Name y py] (.ListComp elt [⟨tg, iter, ifs, 0⟩] scope pos) spos) (dSet i (dLc c it g tt te (own.map (·.2)))) :=
  ps_imp (ps_setLc hc hN hy hyl hsw hi ok hg ht he hs) fun Dn sg H ⟨B, rho, al, mu, F, E, w, e, h, k⟩ => by
    refine lc_imp hgs sg H _ ⟨B, rho, al, mu, F, _, _, w, e, h, fun v H1 al1 mu1 F1 d1 w1 e1 p1 v1 h1 => ?_, k.kx e⟩
    exact k.nx _ _ al1 mu1 F1 H1 w1 ((e.mono e1 p1).set v1) h1
end
end DL
set_option Elab.async false
set_option linter.all false
set_option maxRecDepth 100000
set_option maxHeartbeats 1000000
/-! DL, built-ins and methods by name. -/
namespace DL
open PySem PySem.Spec PyProof.Rows L2
theorem gl_of {X : Cx} {x : Str} (h : X.env.kindOf x = some .globalImplicit) : Gl X x := h
section
variable {K : PySem.W.Frag} {T : List (Addr × Str)} {B : Base} {al : List Addr} {mu : List Cell} {F H : Hp} {v : V} {d : D}
theorem vls1 {vs : List V} {d : D} (h : Vls K al F vs [d]) : ∃ v, vs = [v] ∧ Val K al F v d := by
  cases h with
  | cons a b => cases b; exact ⟨_, rfl, a⟩
theorem vls2 {vs : List V} {d e : D} (h : Vls K al F vs [d, e]) : ∃ v u, vs = [v, u] ∧ Val K al F v d ∧ Val K al F u e := by
  cases h with
  | cons a b =>
    obtain ⟨u, rfl, h2⟩ := vls1 b
    exact ⟨_, _, rfl, a, h2⟩
/-- a list or a tuple of any kind, read -/
def sqv (mu : List Cell) : D → Option (List PyData)
  | .sc ds => some ds
  | d => match vk mu d with
    | some (.list ds) => some ds
    | some (.tuple ds) => some ds
    | _ => none
theorem sqv_ok (w : Wo K T B al mu F H) (hv : Val K al F v d) {ds : List PyData} (e : sqv mu d = some ds) : ∃ a vs, v = .ref a ∧ (SqL K H a vs ∨ SqT K H a vs) ∧ RpAll K F vs ds := by
  have go : (∃ ds', vk mu d = some (.list ds') ∧ ds' = ds) ∨ (∃ ds', vk mu d = some (.tuple ds') ∧ ds' = ds) → ∃ a vs, v = .ref a ∧ (SqL K H a vs ∨ SqT K H a vs) ∧ RpAll K F vs ds := by
    rintro (⟨ds', h, rfl⟩ | ⟨ds', h, rfl⟩)
    · obtain ⟨a, vs, h1, h2, h3⟩ := view_list w hv (vk_vw h rfl)
      exact ⟨a, vs, h1, .inl (SqL.of h2), h3⟩
    · obtain ⟨a, vs, h1, h2, h3, _⟩ := vk_tuple w hv h
      exact ⟨a, vs, h1, .inr h2, h3⟩
  cases d with
  | sc xs =>
    cases e
    obtain ⟨a, vs, h1, h2, h3⟩ := hv
    exact ⟨a, vs, h1, .inl (ex_l w.sub h2), h3⟩
  | py x =>
    refine go ?_
    cases x <;> simp [sqv, vk, vw] at e ⊢ <;> assumption
  | kt x =>
    refine go ?_
    simp [sqv, vk] at e ⊢
    assumption
  | op j =>
    refine go ?_
    unfold sqv at e
    split at e
    · rename_i q; cases q
    · split at e
      · rename_i xs h; cases e; exact .inl ⟨_, h, rfl⟩
      · rename_i xs h; cases e; exact .inr ⟨_, h, rfl⟩
      · cases e
end
def oLen : O1 := fun ds mu Q => match ds with
  | [d] => match sqv mu d with
    | some xs => Q (.py (.int xs.length)) mu
    | none => match d with
      | .py (.str z) => z.length ≤ sizeLine ∧ Q (.py (.int z.length)) mu
      | _ => False
  | _ => False
def oAbs : O1 := fun ds mu Q => match ds with
  | [.py (.int i)] => Q (.py (.int (if i < 0 then -i else i))) mu
  | _ => False
def oInt : O1 := fun ds mu Q => match ds with
  | [.py (.int i)] => Q (.py (.int i)) mu
  | [.py (.bool b)] => Q (.py (.int (if b then 1 else 0))) mu
  | _ => False
def oMax2 : O1 := fun ds mu Q => match ds with
  | [.py (.int i), .py (.int j)] => Q (.py (.int (max i j))) mu
  | _ => False
def oMin2 : O1 := fun ds mu Q => match ds with
  | [.py (.int i), .py (.int j)] => Q (.py (.int (min i j))) mu
  | _ => False
/-- str of an int -/
def oStrI : O1 := fun ds mu Q => match ds with
  | [.py (.int i)] => i.natAbs.log2 < 1920 ∧ Q (.py (.str (toString i))) mu
  | _ => False
def oList (c : Bool) : O1 := fun ds mu Q => match ds with
  | [d] => match sqv mu d with
    | some xs => rst c xs mu Q
    | none => False
  | _ => False
def oTuple : O1 := fun ds mu Q => match ds with
  | [d] => match vw mu d with
    | some (.list xs) => Q (.py (.tuple xs)) mu
    | some (.tuple xs) => Q (.py (.tuple xs)) mu
    | _ => False
  | _ => False
def boolsOf : List PyData → Option (List Bool)
  | [] => some []
  | .bool b :: r => (boolsOf r).map (b :: ·)
  | _ => none
def intsOf : List PyData → Option (List Int)
  | [] => some []
  | .int b :: r => (intsOf r).map (b :: ·)
  | _ => none
def strsOf : List PyData → Option (List Str)
  | [] => some []
  | .str b :: r => (strsOf r).map (b :: ·)
  | _ => none
theorem boolsOf_map : ∀ bs : List Bool, boolsOf (bs.map .bool) = some bs
  | [] => rfl
  | b :: bs => by rw [List.map_cons, boolsOf, boolsOf_map bs] <;> rfl
theorem intsOf_map : ∀ bs : List Int, intsOf (bs.map .int) = some bs
  | [] => rfl
  | b :: bs => by rw [List.map_cons, intsOf, intsOf_map bs] <;> rfl
theorem strsOf_map : ∀ bs : List Str, strsOf (bs.map .str) = some bs
  | [] => rfl
  | b :: bs => by rw [List.map_cons, strsOf, strsOf_map bs] <;> rfl
theorem boolsOf_eq : ∀ {ds : List PyData} {bs : List Bool}, boolsOf ds = some bs → ds = bs.map .bool
  | [], _, e => by cases e; rfl
  | .bool b :: r, bs, e => by
    cases q : boolsOf r with
    | none => rw [boolsOf, q] at e; cases e
    | some cs => rw [boolsOf, q] at e; cases e; rw [boolsOf_eq q]; rfl
  | .none :: _, _, e => by cases e
  | .int _ :: _, _, e => by cases e
  | .str _ :: _, _, e => by cases e
  | .list _ :: _, _, e => by cases e
  | .tuple _ :: _, _, e => by cases e
  | .dict _ :: _, _, e => by cases e
theorem intsOf_eq : ∀ {ds : List PyData} {bs : List Int}, intsOf ds = some bs → ds = bs.map .int
  | [], _, e => by cases e; rfl
  | .int b :: r, bs, e => by
    cases q : intsOf r with
    | none => rw [intsOf, q] at e; cases e
    | some cs => rw [intsOf, q] at e; cases e; rw [intsOf_eq q]; rfl
  | .none :: _, _, e => by cases e
  | .bool _ :: _, _, e => by cases e
  | .str _ :: _, _, e => by cases e
  | .list _ :: _, _, e => by cases e
  | .tuple _ :: _, _, e => by cases e
  | .dict _ :: _, _, e => by cases e
theorem strsOf_eq : ∀ {ds : List PyData} {bs : List Str}, strsOf ds = some bs → ds = bs.map .str
  | [], _, e => by cases e; rfl
  | .str b :: r, bs, e => by
    cases q : strsOf r with
    | none => rw [strsOf, q] at e; cases e
    | some cs => rw [strsOf, q] at e; cases e; rw [strsOf_eq q]; rfl
  | .none :: _, _, e => by cases e
  | .bool _ :: _, _, e => by cases e
  | .int _ :: _, _, e => by cases e
  | .list _ :: _, _, e => by cases e
  | .tuple _ :: _, _, e => by cases e
  | .dict _ :: _, _, e => by cases e
def oBools (f : List Bool → Bool) : O1 := fun ds mu Q => match ds with
  | [d] => match vw mu d with
    | some (.list xs) => match boolsOf xs with
      | some bs => Q (.py (.bool (f bs))) mu
      | none => False
    | _ => False
  | _ => False
abbrev oAll : O1 := oBools fun bs => bs.all id
abbrev oAny : O1 := oBools fun bs => bs.any id
def oSum : O1 := fun ds mu Q => match ds with
  | [d] => match vw mu d with
    | some (.list xs) => match intsOf xs with
      | some bs => Q (.py (.int bs.sum)) mu
      | none => False
    | _ => False
  | _ => False
section
variable {K : PySem.W.Frag} {T : List (Addr × Str)}
theorem cd_len : CallD K T (fun xs H Q => (∃ p ys, xs = [V.ref p] ∧ (SqL K H p ys ∨ SqT K H p ys) ∧ Q (.int ys.length) H) ∨ ∃ z, xs = [V.str z] ∧ z.length ≤ sizeLine ∧ Q (.int z.length) H) oLen := by
  intro B al mu F H xs ds Qd Q w hv h k
  unfold oLen at h
  split at h
  · rename_i d
    obtain ⟨v, rfl, hx⟩ := vls1 hv
    split at h
    · rename_i ys hq
      obtain ⟨a, vs, rfl, h1, h2⟩ := sqv_ok w hx hq
      refine .inl ⟨a, vs, rfl, h1, ?_⟩
      rw [h2.length]
      exact k.go (d := .py _) w (.int _) h
    · split at h
      · rename_i z
        cases hx
        exact .inr ⟨_, rfl, h.1, k.go (d := .py _) w (.int _) h.2⟩
      · exact h.elim
  · exact h.elim
theorem CallR.or {X : Cx} {f : Value} {r r' : List V → Hp → VK → Prop} (h : CallR X f r) (h' : CallR X f r') : CallR X f (fun xs H Q => r xs H Q ∨ r' xs H Q) := by
  intro pins s sg H xs us Q I rv q
  rcases q with q | q
  · exact h pins s sg H xs us Q I rv q
  · exact h' pins s sg H xs us Q I rv q
theorem cr_len {X : Cx} : CallR X (.builtin "len") (fun xs H Q => (∃ p ys, xs = [V.ref p] ∧ (SqL X.K H p ys ∨ SqT X.K H p ys) ∧ Q (.int ys.length) H) ∨ ∃ z, xs = [V.str z] ∧ z.length ≤ sizeLine ∧ Q (.int z.length) H) := CallR.or call_len_seq call_len_str
theorem cd_abs : CallD K T (fun xs H Q => ∃ i, xs = [V.int i] ∧ Q (.int (if i < 0 then -i else i)) H) oAbs := by
  intro B al mu F H xs ds Qd Q w hv h k
  unfold oAbs at h
  split at h
  · obtain ⟨v, rfl, hx⟩ := vls1 hv
    cases hx
    exact ⟨_, rfl, k.go (d := .py _) w (.int _) h⟩
  · exact h.elim
theorem cd_int : CallD K T (fun xs H Q => (∃ i, xs = [V.int i] ∧ Q (.int i) H) ∨ ∃ k, xs = [V.bl k] ∧ Q (.int (if k then 1 else 0)) H) oInt := by
  intro B al mu F H xs ds Qd Q w hv h k
  unfold oInt at h
  split at h
  · obtain ⟨v, rfl, hx⟩ := vls1 hv
    cases hx
    exact .inl ⟨_, rfl, k.go (d := .py _) w (.int _) h⟩
  · obtain ⟨v, rfl, hx⟩ := vls1 hv
    cases hx
    exact .inr ⟨_, rfl, k.go (d := .py _) w (.int _) h⟩
  · exact h.elim
theorem cd_max2 : CallD K T (fun xs H Q => ∃ i j, xs = [V.int i, V.int j] ∧ Q (.int (if j > i then j else i)) H) oMax2 := by
  intro B al mu F H xs ds Qd Q w hv h k
  unfold oMax2 at h
  split at h
  · rename_i i j
    obtain ⟨v, u, rfl, hx, hu⟩ := vls2 hv
    cases hx
    cases hu
    refine ⟨_, _, rfl, ?_⟩
    have e : (if j > i then j else i) = max i j := by
      rw [Int.max_def]
      split <;> split <;> omega
    rw [e]
    exact k.go (d := .py _) w (.int _) h
  · exact h.elim
theorem cd_min2 : CallD K T (fun xs H Q => ∃ i j, xs = [V.int i, V.int j] ∧ Q (.int (if j < i then j else i)) H) oMin2 := by
  intro B al mu F H xs ds Qd Q w hv h k
  unfold oMin2 at h
  split at h
  · rename_i i j
    obtain ⟨v, u, rfl, hx, hu⟩ := vls2 hv
    cases hx
    cases hu
    refine ⟨_, _, rfl, ?_⟩
    have e : (if j < i then j else i) = min i j := by
      rw [Int.min_def]
      split <;> split <;> omega
    rw [e]
    exact k.go (d := .py _) w (.int _) h
  · exact h.elim
theorem cd_strI : CallD K T (fun xs H Q => ∃ i, xs = [V.int i] ∧ i.natAbs.log2 < 1920 ∧ Q (.str (toString i)) H) oStrI := by
  intro B al mu F H xs ds Qd Q w hv h k
  unfold oStrI at h
  split at h
  · obtain ⟨v, rfl, hx⟩ := vls1 hv
    cases hx
    exact ⟨_, rfl, h.1, k.go (d := .py _) w (.str _) h.2⟩
  · exact h.elim
theorem cd_list {c : Bool} : CallD K T (fun xs H Q => ∃ p ys, xs = [V.ref p] ∧ (SqL K H p ys ∨ SqT K H p ys) ∧ ∀ l, H l = none → Q (.ref l) (upd H l (.lst ys))) (oList c) := by
  intro B al mu F H xs ds Qd Q w hv h k
  unfold oList at h
  split at h
  · obtain ⟨v, rfl, hx⟩ := vls1 hv
    split at h
    · rename_i ys hq
      obtain ⟨a, vs, rfl, h1, h2⟩ := sqv_ok w hx hq
      exact ⟨a, vs, rfl, h1, fun l hl => k.list w hl h2 h⟩
    · exact h.elim
  · exact h.elim
theorem cd_tuple : CallD K T (fun xs H Q => ∃ p ys, xs = [V.ref p] ∧ ((SqL K H p ys ∧ ∀ l, H l = none → Q (.ref l) (upd H l (.tup ys))) ∨ (SqT K H p ys ∧ Q (.ref p) H))) oTuple := by
  intro B al mu F H xs ds Qd Q w hv h k
  unfold oTuple at h
  split at h
  · obtain ⟨v, rfl, hx⟩ := vls1 hv
    split at h
    · rename_i ys hq
      obtain ⟨a, vs, rfl, h1, h2⟩ := view_list w hx hq
      exact ⟨a, vs, rfl, .inl ⟨SqL.of h1, fun l hl => k.tup w hl h2 h⟩⟩
    · rename_i ys hq
      obtain ⟨a, vs, rfl, h1, h2, _⟩ := view_tuple w hx hq
      exact ⟨a, vs, rfl, .inr ⟨h1, k.go (d := .py _) w (view_flat hx hq rfl) h⟩⟩
    · exact h.elim
  · exact h.elim
theorem cd_bools {f : List Bool → Bool} : CallD K T (fun vs H Q => ∃ (a : Addr) (bs : List Bool), vs = [V.ref a] ∧ SqL K H a (bs.map V.bl) ∧ Q (.bl (f bs)) H) (oBools f) := by
  intro B al mu F H xs ds Qd Q w hv h k
  unfold oBools at h
  split at h
  · obtain ⟨v, rfl, hx⟩ := vls1 hv
    split at h
    · rename_i ys hq
      obtain ⟨a, vs, rfl, h1, h2⟩ := view_list w hx hq
      split at h
      · rename_i bs hb
        rw [boolsOf_eq hb] at h2
        rw [h2.bools] at h1
        exact ⟨a, bs, rfl, SqL.of h1, k.go (d := .py _) w (.bl _) h⟩
      · exact h.elim
    · exact h.elim
  · exact h.elim
theorem cd_sum : CallD K T (rSum K) oSum := by
  intro B al mu F H xs ds Qd Q w hv h k
  unfold oSum at h
  split at h
  · obtain ⟨v, rfl, hx⟩ := vls1 hv
    split at h
    · rename_i ys hq
      obtain ⟨a, vs, rfl, h1, h2⟩ := view_list w hx hq
      split at h
      · rename_i bs hb
        rw [intsOf_eq hb] at h2
        rw [h2.ints] at h1
        exact ⟨a, bs, rfl, SqL.of h1, k.go (d := .py _) w (.int _) h⟩
      · exact h.elim
    · exact h.elim
  · exact h.elim
end
theorem bt_len : bootBuiltins "len" = some (.builtin "len") := by decide +kernel
theorem bt_abs : bootBuiltins "abs" = some (.builtin "abs") := by decide +kernel
theorem bt_int : bootBuiltins "int" = some (.type "int") := by decide +kernel
theorem bt_str : bootBuiltins "str" = some (.type "str") := by decide +kernel
theorem bt_max : bootBuiltins "max" = some (.builtin "max") := by decide +kernel
theorem bt_min : bootBuiltins "min" = some (.builtin "min") := by decide +kernel
theorem bt_sum : bootBuiltins "sum" = some (.builtin "sum") := by decide +kernel
theorem bt_all : bootBuiltins "all" = some (.builtin "all") := by decide +kernel
theorem bt_any : bootBuiltins "any" = some (.builtin "any") := by decide +kernel
theorem bt_list : bootBuiltins "list" = some (.type "list") := by decide +kernel
theorem bt_tuple : bootBuiltins "tuple" = some (.type "tuple") := by decide +kernel
section
variable {X : Cx} {T : List (Addr × Str)} {W : WX} {pos p : Pos} {a b : Expr} {ta : TDA}
theorem de_len (hm : X.mg "len" = none) (ha : DA X T W [a] ta) (hg : Gl X "len" := by exact gl_of (by kernel_rfl)) (he : starEach [a] X.env = (false, eval a X.env) :: starEach [] X.env := by rfl) : DE X T W (.Call (.Name "len" p) [a] [] pos) (dCB oLen ta) := de_callB cr_len cd_len hg hm bt_len ha (he := he)
theorem de_abs (hm : X.mg "abs" = none) (ha : DA X T W [a] ta) (hg : Gl X "abs" := by exact gl_of (by kernel_rfl)) (he : starEach [a] X.env = (false, eval a X.env) :: starEach [] X.env := by rfl) : DE X T W (.Call (.Name "abs" p) [a] [] pos) (dCB oAbs ta) := de_callB call_abs cd_abs hg hm bt_abs ha (he := he)
theorem de_intc (hm : X.mg "int" = none) (ha : DA X T W [a] ta) (hg : Gl X "int" := by exact gl_of (by kernel_rfl)) (he : starEach [a] X.env = (false, eval a X.env) :: starEach [] X.env := by rfl) : DE X T W (.Call (.Name "int" p) [a] [] pos) (dCB oInt ta) := de_callTy call_int1 cd_int hg hm bt_int ha (he := he)
theorem de_strI (hm : X.mg "str" = none) (ha : DA X T W [a] ta) (hg : Gl X "str" := by exact gl_of (by kernel_rfl)) (he : starEach [a] X.env = (false, eval a X.env) :: starEach [] X.env := by rfl) : DE X T W (.Call (.Name "str" p) [a] [] pos) (dCB oStrI ta) := de_callTy call_str_int cd_strI hg hm bt_str ha (he := he)
theorem de_max2 (hc : X.calm = true) (hm : X.mg "max" = none) (ha : DA X T W [a, b] ta) (hg : Gl X "max" := by exact gl_of (by kernel_rfl)) (he : starEach [a, b] X.env = (false, eval a X.env) :: starEach [b] X.env := by rfl) (hpl : (backTo pos (starEach [b] X.env)).any (·.1) = false := by rfl) : DE X T W (.Call (.Name "max" p) [a, b] [] pos) (dCB oMax2 ta) := de_callB (call_max2 hc) cd_max2 hg hm bt_max ha (he := he) (hpl := hpl)
theorem de_min2 (hc : X.calm = true) (hm : X.mg "min" = none) (ha : DA X T W [a, b] ta) (hg : Gl X "min" := by exact gl_of (by kernel_rfl)) (he : starEach [a, b] X.env = (false, eval a X.env) :: starEach [b] X.env := by rfl) (hpl : (backTo pos (starEach [b] X.env)).any (·.1) = false := by rfl) : DE X T W (.Call (.Name "min" p) [a, b] [] pos) (dCB oMin2 ta) := de_callB (call_min2 hc) cd_min2 hg hm bt_min ha (he := he) (hpl := hpl)
theorem de_list (c : Bool) (hm : X.mg "list" = none) (ha : DA X T W [a] ta) (hg : Gl X "list" := by exact gl_of (by kernel_rfl)) (he : starEach [a] X.env = (false, eval a X.env) :: starEach [] X.env := by rfl) : DE X T W (.Call (.Name "list" p) [a] [] pos) (dCB (oList c) ta) := de_callTy call_list_of cd_list hg hm bt_list ha (he := he)
theorem de_tuple (hm : X.mg "tuple" = none) (ha : DA X T W [a] ta) (hg : Gl X "tuple" := by exact gl_of (by kernel_rfl)) (he : starEach [a] X.env = (false, eval a X.env) :: starEach [] X.env := by rfl) : DE X T W (.Call (.Name "tuple" p) [a] [] pos) (dCB oTuple ta) := de_callTy call_tuple_of cd_tuple hg hm bt_tuple ha (he := he)
theorem de_all (hc : X.calm = true) (hm : X.mg "all" = none) (ha : DA X T W [a] ta) (hg : Gl X "all" := by exact gl_of (by kernel_rfl)) (he : starEach [a] X.env = (false, eval a X.env) :: starEach [] X.env := by rfl) : DE X T W (.Call (.Name "all" p) [a] [] pos) (dCB oAll ta) := de_callB (cr_all hc) cd_bools hg hm bt_all ha (he := he)
theorem de_any (hc : X.calm = true) (hm : X.mg "any" = none) (ha : DA X T W [a] ta) (hg : Gl X "any" := by exact gl_of (by kernel_rfl)) (he : starEach [a] X.env = (false, eval a X.env) :: starEach [] X.env := by rfl) : DE X T W (.Call (.Name "any" p) [a] [] pos) (dCB oAny ta) := de_callB (cr_any hc) cd_bools hg hm bt_any ha (he := he)
theorem de_sum (hc : X.calm = true) (hm : X.mg "sum" = none) (ha : DA X T W [a] ta) (hg : Gl X "sum" := by exact gl_of (by kernel_rfl)) (he : starEach [a] X.env = (false, eval a X.env) :: starEach [] X.env := by rfl) : DE X T W (.Call (.Name "sum" p) [a] [] pos) (dCB oSum ta) := de_callB (cr_sum hc) cd_sum hg hm bt_sum ha (he := he)
end
/-! ### methods -/
def mAppend : OM := fun x ds mu Q => match x, ds with
  | .op j, [.py y] => match mu[j]? with
    | some (.lst xs) => xs.length < sizeLine ∧ Q (.py .none) (mu.set j (.lst (xs ++ [y])))
    | _ => False
  | _, _ => False
def mExtend : OM := fun x ds mu Q => match x, ds with
  | .op j, [e] => match mu[j]?, vw mu e with
    | some (.lst xs), some (.list ys) => xs.length + ys.length ≤ sizeLine ∧ Q (.py .none) (mu.set j (.lst (xs ++ ys)))
    | _, _ => False
  | _, _ => False
def mPop : OM := fun x ds mu Q => match x, ds with
  | .op j, [] => match mu[j]? with
    | some (.lst xs) => match xs[xs.length - 1]? with
      | some y => Q (.py y) (mu.set j (.lst xs.dropLast))
      | none => False
    | _ => False
  | _, _ => False
/-- pop(i), i at least nought -/
def mPopAt : OM := fun x ds mu Q => match x, ds with
  | .op j, [.py (.int i)] => match mu[j]? with
    | some (.lst xs) => (0 ≤ i ∧ i < 2 ^ 63) ∧ match xs[i.toNat]? with
      | some y => Q (.py y) (mu.set j (.lst (xs.eraseIdx i.toNat)))
      | none => False
    | _ => False
  | _, _ => False
def mJoin : OM := fun x ds mu Q => match x, ds with
  | .py (.str a), [e] => match vw mu e with
    | some (.list xs) => match strsOf xs with
      | some ys => (ys.map (·.length)).sum + ys.length * a.length ≤ 16777216 ∧ Q (.py (.str (Txt.join a ys))) mu
      | none => False
    | _ => False
  | _, _ => False
def mSplit (c : Bool) : OM := fun x ds mu Q => match x, ds with
  | .py (.str a), [.py (.str b)] => (b.length == 0) = false ∧ a.length + 2 ≤ sizeLine ∧ rst c ((Txt.split a b).map .str) mu Q
  | _, _ => False
/-- s.index(t), found -/
def mSIndex : OM := fun x ds mu Q => match x, ds with
  | .py (.str a), [.py (.str b)] => match Builtin.Str.occurrences a b 0 a.length 1 with
    | i :: _ => Q (.py (.int (i : Nat))) mu
    | [] => False
  | _, _ => False
section
variable {K : PySem.W.Frag} {T : List (Addr × Str)}
theorem md_append : MtD K T "list" rAppend mAppend := by
  intro B al mu F H x d xs ds Qd Q w hv hvs h k
  unfold mAppend at h
  split at h
  · rename_i j y
    obtain ⟨u, rfl, hu⟩ := vls1 hvs
    split at h
    · rename_i zs hj
      obtain ⟨a, ha, rfl⟩ := hv
      obtain ⟨f0, vs, g1, g2⟩ := w.cell j _ a hj ha
      exact ⟨a, vs, u, rfl, rfl, g1, by rw [g2.length]; exact h.1, k _ _ al _ F (.py .none) (w.set (c := .lst (zs ++ [y])) ha (fun _ z => by cases z) ⟨_, upd_same, g2.app (.cons hu .nil)⟩) (Ex.refl F) (List.prefix_refl _) .non h.2⟩
    · exact h.elim
  · exact h.elim
theorem md_extend : MtD K T "list" rExtend mExtend := by
  intro B al mu F H x d xs ds Qd Q w hv hvs h k
  unfold mExtend at h
  split at h
  · rename_i j e
    obtain ⟨u, rfl, hu⟩ := vls1 hvs
    split at h
    · rename_i zs ys hj he
      obtain ⟨a, ha, rfl⟩ := hv
      obtain ⟨f0, vs, g1, g2⟩ := w.cell j _ a hj ha
      obtain ⟨b, us, rfl, h1, h2⟩ := view_list w hu he
      exact ⟨a, b, vs, us, rfl, rfl, g1, h1, by rw [g2.length, h2.length]; exact h.1, k _ _ al _ F (.py .none) (w.set (c := .lst (zs ++ ys)) ha (fun _ z => by cases z) ⟨_, upd_same, g2.app h2⟩) (Ex.refl F) (List.prefix_refl _) .non h.2⟩
    · exact h.elim
  · exact h.elim
theorem RpAll.dropLast {F : Hp} {vs : List V} {ds : List PyData} (h : RpAll K F vs ds) : RpAll K F vs.dropLast ds.dropLast := by
  rw [List.dropLast_eq_take, List.dropLast_eq_take, h.length]
  exact h.take _
theorem RpAll.eraseIdx {F : Hp} {vs : List V} {ds : List PyData} (h : RpAll K F vs ds) (i : Nat) : RpAll K F (vs.eraseIdx i) (ds.eraseIdx i) := by
  rw [List.eraseIdx_eq_take_drop_succ, List.eraseIdx_eq_take_drop_succ]
  exact (h.take _).app (h.drop _)
theorem md_pop : MtD K T "list" rPop mPop := by
  intro B al mu F H x d xs ds Qd Q w hv hvs h k
  unfold mPop at h
  split at h
  · rename_i j
    cases hvs
    split at h
    · rename_i zs hj
      obtain ⟨a, ha, rfl⟩ := hv
      obtain ⟨f0, vs, g1, g2⟩ := w.cell j _ a hj ha
      split at h
      · rename_i y hy
        obtain ⟨u, h1, h2⟩ := g2.get' hy
        exact ⟨a, vs, u, rfl, rfl, g1, by rw [g2.length]; exact h1, k _ _ al _ F (.py y) (w.set (c := .lst zs.dropLast) ha (fun _ z => by cases z) ⟨_, upd_same, g2.dropLast⟩) (Ex.refl F) (List.prefix_refl _) h2 h⟩
      · exact h.elim
    · exact h.elim
  · exact h.elim
theorem md_popAt : MtD K T "list" rPopAt mPopAt := by
  intro B al mu F H x d xs ds Qd Q w hv hvs h k
  unfold mPopAt at h
  split at h
  · rename_i j i
    obtain ⟨u, rfl, hu⟩ := vls1 hvs
    cases hu
    split at h
    · rename_i zs hj
      obtain ⟨a, ha, rfl⟩ := hv
      obtain ⟨f0, vs, g1, g2⟩ := w.cell j _ a hj ha
      obtain ⟨⟨i0, i1⟩, h⟩ := h
      split at h
      · rename_i y hy
        obtain ⟨u, h1, h2⟩ := g2.get' hy
        have hl := (List.getElem?_eq_some_iff.mp h1).1
        exact ⟨a, vs, i, i.toNat, u, rfl, rfl, g1, by omega, i1, by rw [seqIndex_of i0 (by omega)], h1, k _ _ al _ F (.py y) (w.set (c := .lst (zs.eraseIdx i.toNat)) ha (fun _ z => by cases z) ⟨_, upd_same, g2.eraseIdx _⟩) (Ex.refl F) (List.prefix_refl _) h2 h⟩
      · exact h.elim
    · exact h.elim
  · exact h.elim
theorem md_join : MtD K T "str" (fun x xs H Q => ∃ a p, ∃ ys : List Str, x = V.str a ∧ xs = [V.ref p] ∧ (SqL K H p (ys.map V.str) ∨ SqT K H p (ys.map V.str)) ∧ (ys.map (·.length)).sum + ys.length * a.length ≤ 16777216 ∧ Q (.str (Txt.join a ys)) H) mJoin := by
  intro B al mu F H x d xs ds Qd Q w hv hvs h k
  unfold mJoin at h
  split at h
  · rename_i a e
    obtain ⟨u, rfl, hu⟩ := vls1 hvs
    cases hv
    split at h
    · rename_i zs he
      obtain ⟨b, us, rfl, h1, h2⟩ := view_list w hu he
      split at h
      · rename_i ys hy
        rw [strsOf_eq hy] at h2
        rw [h2.strs] at h1
        exact ⟨a, b, ys, rfl, rfl, .inl (SqL.of h1), h.1, k.go (d := .py _) w (.str _) h.2⟩
      · exact h.elim
    · exact h.elim
  · exact h.elim
theorem md_split {c : Bool} : MtD K T "str" (fun x xs H Q => ∃ a b, x = V.str a ∧ xs = [V.str b] ∧ (b.length == 0) = false ∧ a.length + 2 ≤ sizeLine ∧ rNewStrs (Txt.split a b) H Q) (mSplit c) := by
  intro B al mu F H x d xs ds Qd Q w hv hvs h k
  unfold mSplit at h
  split at h
  · rename_i a b
    obtain ⟨u, rfl, hu⟩ := vls1 hvs
    cases hv
    cases hu
    exact ⟨a, b, rfl, rfl, h.1, h.2.1, fun p hp => k.list w hp RpAll.of_strs h.2.2⟩
  · exact h.elim
theorem md_sindex : MtD K T "str" (fun x xs H Q => ∃ a b i rest, x = V.str a ∧ xs = [V.str b] ∧ Builtin.Str.occurrences a b 0 a.length 1 = i :: rest ∧ Q (.int (i : Nat)) H) mSIndex := by
  intro B al mu F H x d xs ds Qd Q w hv hvs h k
  unfold mSIndex at h
  split at h
  · rename_i a b
    obtain ⟨u, rfl, hu⟩ := vls1 hvs
    cases hv
    cases hu
    split at h
    · rename_i i r hr
      exact ⟨a, b, i, r, rfl, rfl, hr, k.go (d := .py _) w (.int _) h⟩
    · exact h.elim
  · exact h.elim
end
/-! ### dicts: keys ints and texts, or tuples of them -/
def lkD (kvs : List (PyData × PyData)) (x : PyData) : Option PyData := (kvs.find? fun p => PyData.eqv p.1 x).map (·.2)
def stD (kvs : List (PyData × PyData)) (x d : PyData) : List (PyData × PyData) := if (kvs.any fun p => PyData.eqv p.1 x) = true then kvs.map (fun p => if PyData.eqv p.1 x = true then (p.1, d) else p) else kvs ++ [(x, d)]
def dlD (kvs : List (PyData × PyData)) (x : PyData) : List (PyData × PyData) := kvs.filter fun p => !PyData.eqv p.1 x
theorem eqv_kD (a b : Key) : PyData.eqv (kD a) (kD b) = decide (a = b) := by
  cases a <;> cases b <;> simp [kD, PyData.eqv, Bool.beq_eq_decide_eq]
theorem eqv_kDs : ∀ a b : List Key, PyData.eqvAll (a.map kD) (b.map kD) = decide (a = b)
  | [], [] => rfl
  | [], _ :: _ => rfl
  | _ :: _, [] => rfl
  | x :: a, y :: b => by
    simp only [List.map_cons, PyData.eqvAll, eqv_kD, eqv_kDs a b]
    by_cases h1 : x = y <;> by_cases h2 : a = b <;> simp [h1, h2]
section
variable {K : PySem.W.Frag} {F : Hp}
theorem RpK.get : ∀ {ks : List (Key × V)} {kvs : List (PyData × PyData)} (k : Key), RpK K F ks kvs → (lkD kvs (kD k) = none ∧ valV ks k = none) ∨ ∃ d v, lkD kvs (kD k) = some d ∧ valV ks k = some v ∧ Rp K F v d
  | _, _, k, .nil => .inl ⟨rfl, rfl⟩
  | _, _, k, .cons (k := k0) (v := v0) (vs := vs) (d := d0) (ds := ds) h r => by
    by_cases e : k0 = k
    · refine .inr ⟨d0, v0, ?_, valV_pos e, h⟩
      simp [lkD, List.find?_cons, eqv_kD, e]
    · have e1 : lkD ((kD k0, d0) :: ds) (kD k) = lkD ds (kD k) := by simp [lkD, List.find?_cons, eqv_kD, e]
      rw [e1, valV_neg (p := (k0, v0)) (r := vs) e]
      exact RpK.get k r
theorem RpT.get : ∀ {ks : List (List Key × V)} {kvs : List (PyData × PyData)} (k : List Key), RpT K F ks kvs → (lkD kvs (.tuple (k.map kD)) = none ∧ valV ks k = none) ∨ ∃ d v, lkD kvs (.tuple (k.map kD)) = some d ∧ valV ks k = some v ∧ Rp K F v d
  | _, _, k, .nil => .inl ⟨rfl, rfl⟩
  | _, _, k, .cons (k := k0) (v := v0) (vs := vs) (d := d0) (ds := ds) h r => by
    by_cases e : k0 = k
    · refine .inr ⟨d0, v0, ?_, valV_pos e, h⟩
      simp [lkD, List.find?_cons, PyData.eqv, eqv_kDs, e]
    · have e1 : lkD ((.tuple (k0.map kD), d0) :: ds) (.tuple (k.map kD)) = lkD ds (.tuple (k.map kD)) := by simp [lkD, List.find?_cons, PyData.eqv, eqv_kDs, e]
      rw [e1, valV_neg (p := (k0, v0)) (r := vs) e]
      exact RpT.get k r
theorem RpK.any (k : Key) : ∀ {ks : List (Key × V)} {kvs : List (PyData × PyData)}, RpK K F ks kvs → (kvs.any fun p => PyData.eqv p.1 (kD k)) = ks.any fun kv => decide (kv.1 = k)
  | _, _, .nil => rfl
  | _, _, .cons h r => by rw [List.any_cons, List.any_cons, RpK.any k r, eqv_kD]
theorem RpT.any (k : List Key) : ∀ {ks : List (List Key × V)} {kvs : List (PyData × PyData)}, RpT K F ks kvs → (kvs.any fun p => PyData.eqv p.1 (.tuple (k.map kD))) = ks.any fun kv => decide (kv.1 = k)
  | _, _, .nil => rfl
  | _, _, .cons h r => by rw [List.any_cons, List.any_cons, RpT.any k r, PyData.eqv, eqv_kDs]
theorem RpK.snoc {k : Key} {v : V} {d : PyData} (hv : Rp K F v d) : ∀ {ks : List (Key × V)} {kvs : List (PyData × PyData)}, RpK K F ks kvs → RpK K F (ks ++ [(k, v)]) (kvs ++ [(kD k, d)])
  | _, _, .nil => .cons hv .nil
  | _, _, .cons h r => .cons h (RpK.snoc hv r)
theorem RpT.snoc {k : List Key} {v : V} {d : PyData} (hv : Rp K F v d) : ∀ {ks : List (List Key × V)} {kvs : List (PyData × PyData)}, RpT K F ks kvs → RpT K F (ks ++ [(k, v)]) (kvs ++ [(.tuple (k.map kD), d)])
  | _, _, .nil => .cons hv .nil
  | _, _, .cons h r => .cons h (RpT.snoc hv r)
theorem RpK.mapv {k : Key} {v : V} {d : PyData} (hv : Rp K F v d) : ∀ {ks : List (Key × V)} {kvs : List (PyData × PyData)}, RpK K F ks kvs → RpK K F (ks.map fun kv => if kv.1 = k then (kv.1, v) else kv) (kvs.map fun p => if PyData.eqv p.1 (kD k) = true then (p.1, d) else p)
  | _, _, .nil => .nil
  | _, _, .cons (k := k0) h r => by
    simp only [List.map_cons, eqv_kD]
    by_cases e : k0 = k
    · simp only [e, decide_true, if_true]
      exact .cons hv (RpK.mapv hv r)
    · simp only [e, decide_false, if_false, Bool.false_eq_true]
      exact .cons h (RpK.mapv hv r)
theorem RpT.mapv {k : List Key} {v : V} {d : PyData} (hv : Rp K F v d) : ∀ {ks : List (List Key × V)} {kvs : List (PyData × PyData)}, RpT K F ks kvs → RpT K F (ks.map fun kv => if kv.1 = k then (kv.1, v) else kv) (kvs.map fun p => if PyData.eqv p.1 (.tuple (k.map kD)) = true then (p.1, d) else p)
  | _, _, .nil => .nil
  | _, _, .cons (k := k0) h r => by
    simp only [List.map_cons, PyData.eqv, eqv_kDs]
    by_cases e : k0 = k
    · simp only [e, decide_true, if_true]
      refine .cons hv ?_
      have := RpT.mapv (k := k) hv r
      simpa only [PyData.eqv, eqv_kDs] using this
    · simp only [e, decide_false, if_false, Bool.false_eq_true]
      refine .cons h ?_
      have := RpT.mapv (k := k) hv r
      simpa only [PyData.eqv, eqv_kDs] using this
theorem RpK.put {k : Key} {v : V} {d : PyData} {ks : List (Key × V)} {kvs : List (PyData × PyData)} (h : RpK K F ks kvs) (hv : Rp K F v d) : RpK K F (putK ks k v) (stD kvs (kD k) d) := by
  unfold putK stD
  rw [h.any k]
  split
  · exact h.mapv hv
  · exact h.snoc hv
theorem RpT.put {k : List Key} {v : V} {d : PyData} {ks : List (List Key × V)} {kvs : List (PyData × PyData)} (h : RpT K F ks kvs) (hv : Rp K F v d) : RpT K F (putK ks k v) (stD kvs (.tuple (k.map kD)) d) := by
  unfold putK stD
  rw [h.any k]
  split
  · exact h.mapv hv
  · exact h.snoc hv
theorem RpK.length : ∀ {ks : List (Key × V)} {kvs : List (PyData × PyData)}, RpK K F ks kvs → ks.length = kvs.length
  | _, _, .nil => rfl
  | _, _, .cons _ r => congrArg (· + 1) r.length
theorem RpT.length : ∀ {ks : List (List Key × V)} {kvs : List (PyData × PyData)}, RpT K F ks kvs → ks.length = kvs.length
  | _, _, .nil => rfl
  | _, _, .cons _ r => congrArg (· + 1) r.length
theorem RpK.del (k : Key) : ∀ {ks : List (Key × V)} {kvs : List (PyData × PyData)}, RpK K F ks kvs → RpK K F (dropK ks k) (dlD kvs (kD k))
  | _, _, .nil => .nil
  | _, _, .cons (k := k0) (v := v0) (vs := vs) (d := d0) (ds := ds) h r => by
    have ih := RpK.del k r
    unfold dropK dlD at ih ⊢
    simp only [List.filter_cons, eqv_kD]
    by_cases e : k0 = k
    · simp only [e, decide_true, Bool.not_true, Bool.false_eq_true, if_false, ne_eq, not_true_eq_false, decide_false]
      exact ih
    · simp only [e, decide_false, Bool.not_false, if_true, ne_eq, not_false_eq_true, decide_true]
      exact .cons h ih
end
/-- keys of tuples -/
def keyOf : PyData → Option Key
  | .int i => some (.inl i)
  | .str x => some (.inr x)
  | _ => none
def keysOf : List PyData → Option (List Key)
  | [] => some []
  | x :: r => match keyOf x, keysOf r with
    | some k, some ks => some (k :: ks)
    | _, _ => none
theorem keyOf_eq {x : PyData} {k : Key} (h : keyOf x = some k) : x = kD k := by
  cases x <;> simp [keyOf] at h <;> subst h <;> rfl
theorem keysOf_eq : ∀ {xs : List PyData} {ks : List Key}, keysOf xs = some ks → xs = ks.map kD
  | [], _, h => by cases h; rfl
  | x :: r, ks, h => by
    rw [keysOf] at h
    split at h
    · rename_i k ks' h1 h2
      cases h
      rw [keyOf_eq h1, keysOf_eq h2]
      rfl
    · cases h
theorem rp_keys {K : PySem.W.Frag} {F : Hp} : ∀ {vs : List V} {ks : List Key}, RpAll K F vs (ks.map kD) → vs = ks.map kV
  | _, [], h => by cases h; rfl
  | _, k :: ks, h => by
    cases h with
    | cons h r =>
      rw [rp_keys r]
      cases k <;> cases h <;> rfl
theorem rp_key {K : PySem.W.Frag} {F : Hp} {v : V} {k : Key} (h : Rp K F v (kD k)) : v = kV k := by
  cases k <;> cases h <;> rfl
/-- a dict (a cell, or frozen) by its entries: keys ints and texts; keys tuples of them -/
def isTd : List (PyData × PyData) → Bool
  | [(.none, .dict _)] => true
  | _ => false
def dcK (mu : List Cell) : D → Option (List (PyData × PyData))
  | .py (.dict kvs) => if isTd kvs = true then none else some kvs
  | .op j => match mu[j]? with
    | some (.dk kvs) => some kvs
    | some (.lk _ _ kvs) => some kvs
    | _ => none
  | _ => none
def dcT (mu : List Cell) : D → Option (List (PyData × PyData))
  | .py (.dict [(.none, .dict kvs)]) => some kvs
  | .op j => match mu[j]? with
    | some (.dt kvs) => some kvs
    | some (.lt _ _ kvs) => some kvs
    | _ => none
  | _ => none
section
variable {K : PySem.W.Frag} {T : List (Addr × Str)} {B : Base} {al : List Addr} {mu : List Cell} {F H : Hp} {v : V} {d : D}
theorem dcK_ok (w : Wo K T B al mu F H) (hv : Val K al F v d) {kvs : List (PyData × PyData)} (e : dcK mu d = some kvs) : ∃ a ks, v = .ref a ∧ Rd H a (.dK ks) ∧ RpK K F ks kvs := by
  cases d with
  | sc x => cases e
  | kt x => cases e
  | py x =>
    cases x with
    | dict kvs' =>
      unfold dcK at e
      by_cases ht : isTd kvs' = true
      · simp [ht] at e
      · simp [ht] at e
        subst e
        cases hv with
        | dk h1 h2 => exact ⟨_, _, rfl, ex_rd w.sub h1, h2⟩
        | dt h1 h2 => exact absurd rfl ht
    | _ => simp [dcK] at e
  | op j =>
    obtain ⟨a, ha, rfl⟩ := hv
    cases hc : mu[j]? with
    | none => simp [dcK, hc] at e
    | some c =>
      obtain ⟨_, h1⟩ := w.cell j c a hc ha
      cases c with
      | lst ds => simp [dcK, hc] at e
      | dk ds => simp [dcK, hc] at e; subst e; obtain ⟨ks, g1, g2⟩ := h1; exact ⟨a, ks, rfl, .inl g1, g2⟩
      | dt ds => simp [dcK, hc] at e
      | lk o ks ds => simp [dcK, hc] at e; subst e; obtain ⟨g1, g2⟩ := h1; exact ⟨a, ks, rfl, .inr ⟨o, g1⟩, g2⟩
      | lt o ks ds => simp [dcK, hc] at e
theorem dcT_ok (w : Wo K T B al mu F H) (hv : Val K al F v d) {kvs : List (PyData × PyData)} (e : dcT mu d = some kvs) : ∃ a ks, v = .ref a ∧ Rd H a (.dT ks) ∧ RpT K F ks kvs := by
  cases d with
  | sc x => cases e
  | kt x => cases e
  | py x =>
    unfold dcT at e
    split at e
    · rename_i kvs' hx
      cases hx
      cases e
      cases hv with
      | dk h1 h2 =>
        exfalso
        generalize hk : [((PyData.none : PyData), PyData.dict _)] = l at h2
        cases h2 with
        | nil => cases hk
        | cons a b =>
          rename_i k _ _ _ _
          cases k <;> simp [kD] at hk
      | dt h1 h2 => exact ⟨_, _, rfl, ex_rd w.sub h1, h2⟩
    · rename_i hx; cases hx
    · cases e
  | op j =>
    obtain ⟨a, ha, rfl⟩ := hv
    cases hc : mu[j]? with
    | none => simp [dcT, hc] at e
    | some c =>
      obtain ⟨_, h1⟩ := w.cell j c a hc ha
      cases c with
      | lst ds => simp [dcT, hc] at e
      | dt ds => simp [dcT, hc] at e; subst e; obtain ⟨ks, g1, g2⟩ := h1; exact ⟨a, ks, rfl, .inl g1, g2⟩
      | dk ds => simp [dcT, hc] at e
      | lt o ks ds => simp [dcT, hc] at e; subst e; obtain ⟨g1, g2⟩ := h1; exact ⟨a, ks, rfl, .inr ⟨o, g1⟩, g2⟩
      | lk o ks ds => simp [dcT, hc] at e
/-- the entry at a key: the answer, none where it is not there -/
def oLook (x y : D) (mu : List Cell) (P : Option PyData → Prop) : Prop := match y with
  | .py (.int i) => match dcK mu x with
    | some kvs => P (lkD kvs (.int i))
    | none => False
  | .py (.str s) => match dcK mu x with
    | some kvs => P (lkD kvs (.str s))
    | none => False
  | .py (.tuple ts) => match dcT mu x, keysOf ts with
    | some kvs, some _ => P (lkD kvs (.tuple ts))
    | _, _ => False
  | _ => False
theorem look_ok {y : V} {e : D} {P : Option PyData → Prop} (w : Wo K T B al mu F H) (hv : Val K al F v d) (hy : Val K al F y e) (h : oLook d e mu P) : ∃ a o, v = .ref a ∧ DGet H a y o ∧ ((o = none ∧ P none) ∨ ∃ u x, o = some u ∧ Rp K F u x ∧ P (some x)) := by
  have goK : ∀ (kvs : List (PyData × PyData)) (k : Key), dcK mu d = some kvs → y = kV k → P (lkD kvs (kD k)) → ∃ a o, v = .ref a ∧ DGet H a y o ∧ ((o = none ∧ P none) ∨ ∃ u x, o = some u ∧ Rp K F u x ∧ P (some x)) := by
    intro kvs k h1 h2 h3
    obtain ⟨a, ks, rfl, g1, g2⟩ := dcK_ok w hv h1
    refine ⟨a, valV ks k, rfl, .inl ⟨ks, k, g1, h2, rfl⟩, ?_⟩
    rcases g2.get k with ⟨e1, e2⟩ | ⟨x, u, e1, e2, e3⟩
    · rw [e1] at h3; exact .inl ⟨e2, h3⟩
    · rw [e1] at h3; exact .inr ⟨u, x, e2, e3, h3⟩
  unfold oLook at h
  split at h
  · rename_i i
    split at h
    · rename_i kvs hk
      cases hy
      exact goK kvs (.inl i) hk rfl h
    · exact h.elim
  · rename_i s
    split at h
    · rename_i kvs hk
      cases hy
      exact goK kvs (.inr s) hk rfl h
    · exact h.elim
  · rename_i ts
    split at h
    · rename_i kvs ks hk hks
      obtain ⟨a, kk, rfl, g1, g2⟩ := dcT_ok w hv hk
      have et := keysOf_eq hks
      subst et
      cases hy with
      | tup h1 h2 =>
        rw [rp_keys h2] at h1
        refine ⟨a, valV kk ks, rfl, .inr ⟨kk, ks, _, g1, rfl, w.sub _ _ h1, rfl⟩, ?_⟩
        rcases g2.get ks with ⟨e1, e2⟩ | ⟨x, u, e1, e2, e3⟩
        · rw [e1] at h; exact .inl ⟨e2, h⟩
        · rw [e1] at h; exact .inr ⟨u, x, e2, e3, h⟩
    · exact h.elim
  · exact h.elim
end
def dDGet (td ty : TD) : TD := fun rho mu Q Z => td rho mu (fun x mu1 => ty rho mu1 (fun y mu2 => oLook x y mu2 fun o => match o with
  | some d => Q (.py d) mu2
  | none => False) Z) Z
def dDIn (neg : Bool) (ty td : TD) : TD := fun rho mu Q Z => ty rho mu (fun y mu1 => td rho mu1 (fun x mu2 => oLook x y mu2 fun o => Q (.py (.bool (if neg then !o.isSome else o.isSome))) mu2) Z) Z
/-- d.get(k), d.get(k, x) -/
def dDGet1 (td ty : TD) : TD := fun rho mu Q Z => td rho mu (fun x mu1 => ((dcK mu1 x).isSome = true ∨ (dcT mu1 x).isSome = true) ∧ ty rho mu1 (fun y mu2 => oLook x y mu2 fun o => Q (.py (o.getD .none)) mu2) Z) Z
def dDGet2 (td ty tx : TD) : TD := fun rho mu Q Z => td rho mu (fun x mu1 => ((dcK mu1 x).isSome = true ∨ (dcT mu1 x).isSome = true) ∧ ty rho mu1 (fun y mu2 => tx rho mu2 (fun z mu3 => match z with
  | .py zd => oLook x y mu3 fun o => Q (.py (o.getD zd)) mu3
  | _ => False) Z) Z) Z
/-- d[k] = v, d a cell -/
def putC (mu : List Cell) (x y : D) (d : PyData) (P : List Cell → Prop) : Prop := match x with
  | .op j => match mu[j]?, y with
    | some (.dk kvs), .py (.int i) => kvs.length < sizeLine ∧ P (mu.set j (.dk (stD kvs (.int i) d)))
    | some (.dk kvs), .py (.str s) => kvs.length < sizeLine ∧ P (mu.set j (.dk (stD kvs (.str s) d)))
    | some (.dt kvs), .py (.tuple ts) => match keysOf ts with
      | some _ => kvs.length < sizeLine ∧ P (mu.set j (.dt (stD kvs (.tuple ts) d)))
      | none => False
    | _, _ => False
  | _ => False
def dDPut (td ty tv : TD) : TSD := fun E rho mu => tv rho mu (fun v mu1 => td rho mu1 (fun x mu2 => ty rho mu2 (fun y mu3 => match v with
  | .py d => putC mu3 x y d fun mu4 => E.nx rho mu4
  | _ => False) (E.xz rho)) (E.xz rho)) (E.xz rho)
section
variable {K : PySem.W.Frag} {T : List (Addr × Str)} {B : Base} {al : List Addr} {mu : List Cell} {F H : Hp} {v : V} {d : D}
theorem put_ok {y z : V} {e : D} {x : PyData} {P : List Cell → Prop} (w : Wo K T B al mu F H) (hv : Val K al F v d) (hy : Val K al F y e) (hz : Rp K F z x) (h : putC mu d e x P) : ∃ a H' mu', v = .ref a ∧ DPut H a y z H' ∧ Wo K T B al mu' F H' ∧ P mu' := by
  unfold putC at h
  split at h
  · rename_i j
    split at h
    · rename_i kvs i hj
      obtain ⟨a, ha, rfl⟩ := hv
      obtain ⟨f0, ks, g1, g2⟩ := w.cell j _ a hj ha
      cases hy
      exact ⟨a, _, _, rfl, DPut.k (k := .inl i) g1 (by rw [g2.length]; exact h.1), w.set (c := .dk (stD kvs (.int i) x)) ha (fun _ z => by cases z) ⟨_, upd_same, g2.put (k := .inl i) hz⟩, h.2⟩
    · rename_i kvs i hj
      obtain ⟨a, ha, rfl⟩ := hv
      obtain ⟨f0, ks, g1, g2⟩ := w.cell j _ a hj ha
      cases hy
      exact ⟨a, _, _, rfl, DPut.k (k := .inr i) g1 (by rw [g2.length]; exact h.1), w.set (c := .dk (stD kvs (.str i) x)) ha (fun _ z => by cases z) ⟨_, upd_same, g2.put (k := .inr i) hz⟩, h.2⟩
    · rename_i kvs ts hj
      split at h
      · rename_i kk hks
        obtain ⟨a, ha, rfl⟩ := hv
        obtain ⟨f0, ks, g1, g2⟩ := w.cell j _ a hj ha
        have et := keysOf_eq hks
        subst et
        cases hy with
        | tup h1 h2 =>
          rw [rp_keys h2] at h1
          exact ⟨a, _, _, rfl, DPut.t (k := kk) g1 (w.sub _ _ h1) (by rw [g2.length]; exact h.1), w.set (c := .dt (stD kvs (.tuple (kk.map kD)) x)) ha (fun _ z => by cases z) ⟨_, upd_same, g2.put (k := kk) hz⟩, h.2⟩
      · exact h.elim
    · exact h.elim
  · exact h.elim
theorem isD_ok (w : Wo K T B al mu F H) (hv : Val K al F v d) (h : (dcK mu d).isSome = true ∨ (dcT mu d).isSome = true) : ∃ a, v = .ref a ∧ IsD H a := by
  rcases h with h | h
  · obtain ⟨kvs, hk⟩ := Option.isSome_iff_exists.mp h
    obtain ⟨a, ks, rfl, g1, _⟩ := dcK_ok w hv hk
    exact ⟨a, rfl, .inl ⟨ks, g1⟩⟩
  · obtain ⟨kvs, hk⟩ := Option.isSome_iff_exists.mp h
    obtain ⟨a, ks, rfl, g1, _⟩ := dcT_ok w hv hk
    exact ⟨a, rfl, .inr ⟨ks, g1⟩⟩
end
section
variable {X : Cx} {T : List (Addr × Str)} {W : WX} {pos apos cpos : Pos} {o i f : Expr} {td ty tx : TD}
theorem de_dget (hu : X.A.units + 1 < cLine) (ho : DE X T W o td) (hi : DE X T W i ty) (hs : NoSl i := by intro _ _; rfl) : DE X T W (.Subscript o i pos) (dDGet td ty) :=
  pe_imp (pe_dget hu ho hi hs) fun sg H Q ⟨B, rho, al, mu, F, Qd, Zd, w, e, h, k, kx⟩ => by
    refine bin_imp (R := fun x y H2 => ∃ a v, x = V.ref a ∧ DGet H2 a y (some v) ∧ Q v H2) (G := fun x y mu2 => oLook x y mu2 fun o => match o with | some d => Qd (.py d) mu2 | none => False) w e kx h fun x y H' al' mu' F' d1 d2 w' e' p' v1 v2 q => ?_
    obtain ⟨a, ov, rfl, g, hq⟩ := look_ok w' v1 v2 q
    rcases hq with ⟨_, hq⟩ | ⟨u, x, rfl, hr, hq⟩
    · exact hq.elim
    · exact ⟨a, u, rfl, g, (k.mono e' p').go (d := .py x) w' hr hq⟩
theorem din_imp {neg : Bool} (sg : L2.St) (H : Hp) (Q : VK) (h : liftE X.K T W (dDIn neg ty td) sg H Q) : (if neg then tDNotIn else tDIn) (liftE X.K T W ty) (liftE X.K T W td) sg H Q := by
  obtain ⟨B, rho, al, mu, F, Qd, Zd, w, e, h, k, kx⟩ := h
  cases neg with
  | false =>
    refine bin_imp (R := fun y x H2 => ∃ a o, x = V.ref a ∧ DGet H2 a y o ∧ Q (.bl o.isSome) H2) (G := fun y x mu2 => oLook x y mu2 fun o => Qd (.py (.bool (if false = true then !o.isSome else o.isSome))) mu2) w e kx h fun y x H' al' mu' F' d2 d1 w' e' p' v2 v1 q => ?_
    obtain ⟨a, ov, rfl, g, hq⟩ := look_ok w' v1 v2 q
    rcases hq with ⟨rfl, hq⟩ | ⟨u, x, rfl, hr, hq⟩
    · exact ⟨a, _, rfl, g, (k.mono e' p').go (d := .py _) w' (.bl _) hq⟩
    · exact ⟨a, _, rfl, g, (k.mono e' p').go (d := .py _) w' (.bl _) hq⟩
  | true =>
    refine bin_imp (R := fun y x H2 => ∃ a o, x = V.ref a ∧ DGet H2 a y o ∧ Q (.bl (!o.isSome)) H2) (G := fun y x mu2 => oLook x y mu2 fun o => Qd (.py (.bool (if true = true then !o.isSome else o.isSome))) mu2) w e kx h fun y x H' al' mu' F' d2 d1 w' e' p' v2 v1 q => ?_
    obtain ⟨a, ov, rfl, g, hq⟩ := look_ok w' v1 v2 q
    rcases hq with ⟨rfl, hq⟩ | ⟨u, x, rfl, hr, hq⟩
    · exact ⟨a, _, rfl, g, (k.mono e' p').go (d := .py _) w' (.bl _) hq⟩
    · exact ⟨a, _, rfl, g, (k.mono e' p').go (d := .py _) w' (.bl _) hq⟩
theorem de_din (hu : X.A.units + 1 < cLine) (hi : DE X T W i ty) (ho : DE X T W o td) (h1 : behindInMarks .In o = false := by first | exact nobehind _ (by decide) (by decide) | rfl) : DE X T W (.Compare i [.In] [o] pos) (dDIn false ty td) :=
  pe_imp (pe_cmp (pc_din hu hi ho) h1) (din_imp (neg := false))
theorem de_dnotin (hu : X.A.units + 1 < cLine) (hi : DE X T W i ty) (ho : DE X T W o td) (h1 : behindInMarks .NotIn o = false := by first | exact nobehind _ (by decide) (by decide) | rfl) : DE X T W (.Compare i [.NotIn] [o] pos) (dDIn true ty td) :=
  pe_imp (pe_cmp (pc_dnotin hu hi ho) h1) (din_imp (neg := true))
theorem dt_din (hu : X.A.units + 1 < cLine) (hi : DE X T W i ty) (ho : DE X T W o td) (h1 : behindInMarks .In o = false := by first | exact nobehind _ (by decide) (by decide) | rfl) : DT X T W (.Compare i [.In] [o] pos) (dTb (dDIn false ty td)) :=
  pt_imp (pt_cmp (pc_din hu hi ho) h1) fun sg H Q h => din_imp (neg := false) sg H _ (tb_imp sg H Q h)
theorem dt_dnotin (hu : X.A.units + 1 < cLine) (hi : DE X T W i ty) (ho : DE X T W o td) (h1 : behindInMarks .NotIn o = false := by first | exact nobehind _ (by decide) (by decide) | rfl) : DT X T W (.Compare i [.NotIn] [o] pos) (dTb (dDIn true ty td)) :=
  pt_imp (pt_cmp (pc_dnotin hu hi ho) h1) fun sg H Q h => din_imp (neg := true) sg H _ (tb_imp sg H Q h)
theorem de_dget1 (hu : X.A.units + 1 < cLine) (ho : DE X T W o td) (hi : DE X T W i ty) (m : M1 X o "get" apos i cpos) : DE X T W (.Call (.Attribute o "get" apos) [i] [] cpos) (dDGet1 td ty) :=
  pe_imp (pe_dget1 hu ho hi m) fun sg H Q ⟨B, rho, al, mu, F, Qd, Zd, w, e, h, k, kx⟩ => ⟨B, rho, al, mu, F, _, Zd, w, e, h, fun v H1 al1 mu1 F1 d1 w1 e1 p1 v1 h1 => by
    obtain ⟨a, rfl, hd⟩ := isD_ok w1 v1 h1.1
    refine ⟨a, rfl, hd, B, rho, al1, mu1, F1, _, Zd, w1, e.mono e1 p1, h1.2, fun u H2 al2 mu2 F2 d2 w2 e2 p2 v2 h2 => ?_, kx.mono e1 p1⟩
    obtain ⟨a', ov, ea, g, hq⟩ := look_ok w2 (v1.mono e2 p2) v2 h2
    cases ea
    refine ⟨ov, g, ?_⟩
    rcases hq with ⟨rfl, hq⟩ | ⟨u, x, rfl, hr, hq⟩
    · exact ((k.mono e1 p1).mono e2 p2).go (d := .py .none) w2 .non hq
    · exact ((k.mono e1 p1).mono e2 p2).go (d := .py x) w2 hr hq, kx⟩
theorem de_dget2 (hu : X.A.units + 1 < cLine) (ho : DE X T W o td) (hi : DE X T W i ty) (hf : DE X T W f tx) (m : M2 X o "get" apos i f cpos) : DE X T W (.Call (.Attribute o "get" apos) [i, f] [] cpos) (dDGet2 td ty tx) :=
  pe_imp (pe_dget2 hu ho hi hf m) fun sg H Q ⟨B, rho, al, mu, F, Qd, Zd, w, e, h, k, kx⟩ => ⟨B, rho, al, mu, F, _, Zd, w, e, h, fun v H1 al1 mu1 F1 d1 w1 e1 p1 v1 h1 => by
    obtain ⟨a, rfl, hd⟩ := isD_ok w1 v1 h1.1
    refine ⟨a, rfl, hd, B, rho, al1, mu1, F1, _, Zd, w1, e.mono e1 p1, h1.2, fun u H2 al2 mu2 F2 d2 w2 e2 p2 v2 h2 => ?_, kx.mono e1 p1⟩
    refine ⟨B, rho, al2, mu2, F2, _, Zd, w2, (e.mono e1 p1).mono e2 p2, h2, fun z H3 al3 mu3 F3 d3 w3 e3 p3 v3 h3 => ?_, (kx.mono e1 p1).mono e2 p2⟩
    try dsimp only at h3
    split at h3
    · rename_i zd
      obtain ⟨a', ov, ea, g, hq⟩ := look_ok w3 ((v1.mono e2 p2).mono e3 p3) (v2.mono e3 p3) h3
      cases ea
      refine ⟨ov, g, ?_⟩
      have k3 := ((k.mono e1 p1).mono e2 p2).mono e3 p3
      rcases hq with ⟨rfl, hq⟩ | ⟨u, x, rfl, hr, hq⟩
      · exact k3.go (d := .py zd) w3 v3 hq
      · exact k3.go (d := .py x) w3 hr hq
    · exact h3.elim, kx⟩
theorem ds_dput {value : Expr} {tv : TD} {pos' : Pos} (hu : X.A.units + 1 < cLine) (ho : DE X T W o td) (hi : DE X T W i ty) (hv : DE X T W value tv) (hs : swapsWith value (some (.Subscript o i pos')) pos.line X.env = pure false := by rfl) :
    DS X T W (.Assign [.Subscript o i pos'] value pos) (dDPut td ty tv) :=
  ps_imp (ps_dput hu ho hi hv hs) fun Dn sg H ⟨B, rho, al, mu, F, E, w, e, h, k⟩ => ⟨B, rho, al, mu, F, _, _, w, e, h, fun v H1 al1 mu1 F1 d1 w1 e1 p1 v1 h1 =>
    ⟨B, rho, al1, mu1, F1, _, _, w1, e.mono e1 p1, h1, fun x H2 al2 mu2 F2 d2 w2 e2 p2 v2 h2 =>
      ⟨B, rho, al2, mu2, F2, _, _, w2, (e.mono e1 p1).mono e2 p2, h2, fun y H3 al3 mu3 F3 d3 w3 e3 p3 v3 h3 => by
        try dsimp only at h3
        split at h3
        · rename_i dd
          obtain ⟨a, H', mu', rfl, g1, w4, hq⟩ := put_ok w3 (v2.mono e3 p3) v3 (x := dd) (((show Val X.K al1 F1 v (.py dd) from v1).mono e2 p2).mono e3 p3) h3
          exact ⟨a, H', rfl, g1, k.nx rho sg al3 mu' F3 H' w4 (((e.mono e1 p1).mono e2 p2).mono e3 p3) hq⟩
        · exact h3.elim, k.kx ((e.mono e1 p1).mono e2 p2)⟩, k.kx (e.mono e1 p1)⟩, k.kx e⟩
/-- {} -/
theorem de_dnewK : DE X T W (.Dict [] [] pos) (fun _ mu Q _ => Q (.op mu.length) (mu ++ [.dk []])) :=
  pe_imp pe_dnewK fun sg H Q ⟨B, rho, al, mu, F, Qd, Zd, w, e, h, k, kx⟩ => fun p hp => k.alloc (c := .dk []) w hp (fun _ z => by cases z) ⟨[], upd_same, .nil⟩ h
theorem de_dnewT : DE X T W (.Dict [] [] pos) (fun _ mu Q _ => Q (.op mu.length) (mu ++ [.dt []])) :=
  pe_imp pe_dnewT fun sg H Q ⟨B, rho, al, mu, F, Qd, Zd, w, e, h, k, kx⟩ => fun p hp => k.alloc (c := .dt []) w hp (fun _ z => by cases z) ⟨[], upd_same, .nil⟩ h
end
end DL
set_option Elab.async false
set_option linter.all false
set_option maxRecDepth 100000
set_option maxHeartbeats 1000000
/-! DL: defs by their names, try, a lambda handed on, the law's end. -/
namespace DL
open PySem PySem.Spec PyProof.Rows L2
section
variable (K : PySem.W.Frag) (mg : Str → Option Value)
/-- what the top has made of a def -/
def AtD (x : Str) (st : Stmt) (ps : List Str) : Prop := ∃ f fd, Fun K x x st f fd ∧ mg x = some (.ref f) ∧ Binds K fd ps []
/-- .. with its code object -/
def AtC (x : Str) (st : Stmt) (ps : List Str) (c : Addr) : Prop := ∃ (f : Addr) (oc kV doc pm ct : Value) (od an : Option Addr) (osl : Array (Option Value)),
  K.lookup f = some ⟨oc, od, .func (PySem.W.fnOf x x (defArgs st) (defBody st) (defScope st) .none kV doc pm an (.ref c) ct), osl⟩ ∧ PySem.W.codeIn K (.ref c) x = true ∧ PySem.W.keepIn K (.ref f) = true ∧ mg x = some (.ref f) ∧
    Binds K (PySem.W.fnOf x x (defArgs st) (defBody st) (defScope st) .none kV doc pm an (.ref c) ct) ps []
/-- an exception class of the program's own -/
structure ExcD (x : Str) (C : Addr) : Prop where
  q : ∃ bmB B newId initId, ExcBaseFacts B newId initId bmB ∧ PySem.W.excIn K C bmB newId = true
  g : mg x = some (.ref C)
  k : PySem.W.keepIn K (.ref C) = true
  s : PySem.W.subIn K (.ref C) (.type "BaseException") = some true
  t : PySem.W.typeIn K (.ref C) = some (.type "type")
end
theorem AtC.d {K : PySem.W.Frag} {mg : Str → Option Value} {x : Str} {st : Stmt} {ps : List Str} {c : Addr} (h : AtC K mg x st ps c) : AtD K mg x st ps := by
  obtain ⟨f, oc, kV, doc, pm, ct, od, an, osl, h1, h2, h3, h4, h5⟩ := h
  exact ⟨f, _, fun_mk h1 h2 h3, h4, h5⟩
/-- a def by its name keeps its promise -/
def Has (P : Program) (w : World) (K : PySem.W.Frag) (mg : Str → Option Value) (base : Heap) (T : List (Addr × Str)) (k : Nat) (x : Str) (ps : List Str) (sd : SpD) : Prop :=
  ∃ f fd, mg x = some (.ref f) ∧ PySem.W.keepIn K (.ref f) = true ∧ Binds K fd ps [] ∧ FnD P w K mg base T k f fd ps sd
section
variable {P : Program} {w : World} {K : PySem.W.Frag} {mg : Str → Option Value} {base : Heap} {T : List (Addr × Str)}
theorem has_of {x : Str} {st : Stmt} {N ps : List Str} {k : Nat} {sd : SpD} {t : TSD} (a : AtD K mg x st ps) (S : FnScope N ps (defScope st)) (len : ∀ ds mu Qd Zd, sd ds mu Qd Zd → ds.length = ps.length)
    (hbody : ∀ (f : Addr) (cdv : Value) (A : Around) (outer : List Env) (s : Shared) (H : Hp) (E : XK), Room k (A.deeper (envOfC x (defScope st) s.heap.objs.size f cdv)) →
      DSs (cxOf (L2.CX P w) P w K mg base N x (defScope st) f cdv A outer s H E) T (wE E) (defBody st) t)
    (hread : ∀ ds mu Qd Zd, sd ds mu Qd Zd → t (endD Qd Zd) (startD N ds) mu) : Has P w K mg base T (k + 1) x ps sd := by
  obtain ⟨f, fd, h1, h2, h3⟩ := a
  exact ⟨f, fd, h2, h1.kp, h3, fn_ok h1 S len (fun cdv A outer s H E hr => hbody f cdv A outer s H E hr) hread⟩
/-- for a def with lambdas -/
theorem has_ofC {x : Str} {st : Stmt} {N ps : List Str} {k : Nat} {c : Addr} {sd : SpD} {t : TSD} (a : AtC K mg x st ps c) (S : FnScope N ps (defScope st)) (len : ∀ ds mu Qd Zd, sd ds mu Qd Zd → ds.length = ps.length)
    (hbody : ∀ (f : Addr) (A : Around) (outer : List Env) (s : Shared) (H : Hp) (E : XK), Room k (A.deeper (envOfC x (defScope st) s.heap.objs.size f (.ref c))) →
      DSs (cxOf (L2.CX P w) P w K mg base N x (defScope st) f (.ref c) A outer s H E) T (wE E) (defBody st) t)
    (hread : ∀ ds mu Qd Zd, sd ds mu Qd Zd → t (endD Qd Zd) (startD N ds) mu) : Has P w K mg base T (k + 1) x ps sd := by
  obtain ⟨f, oc, kV, doc, pm, ct, od, an, osl, h1, h2, h3, h4, h5⟩ := a
  refine ⟨f, _, h4, h3, h5, fn_of h1 h2 S (fun vs H Q E h => ?_) fun A outer s H vs Q E hr h => ?_⟩
  · obtain ⟨al, mu, F, ds, Qd, Zd, w1, hv, hs, _⟩ := h
    rw [hv.length]
    exact len ds mu Qd Zd hs
  · obtain ⟨al, mu, F, ds, Qd, Zd, w1, hv, hs, kq, kx⟩ := h
    refine ⟨_, hbody f A outer s H E hr, ⟨F, H, al⟩, _, al, mu, F, endD Qd Zd, w1, en_start hv, hread ds mu Qd Zd hs, ⟨?_, fun _ _ _ _ _ _ _ _ z => z.elim, fun _ _ _ _ _ _ _ _ z => z.elim, ?_, ?_⟩⟩
    · exact fun rho sg al' mu' F' H' w' e' q => kq .non H' al' mu' F' (.py .none) w' .non q
    · exact fun d v al' mu' F' H' w' hv' q => kq v H' al' mu' F' d w' hv' q
    · exact fun C rho sg al' mu' F' H' w' e' q => kx C H' al' mu' F' w' q
theorem Has.mono {x : Str} {ps : List Str} {j k : Nat} {sd : SpD} (h : Has P w K mg base T j x ps sd) (hjk : j ≤ k) : Has P w K mg base T k x ps sd := by
  obtain ⟨f, fd, h1, h2, h3, h4⟩ := h
  exact ⟨f, fd, h1, h2, h3, h4.mono hjk⟩
/-- a weaker promise -/
theorem Has.weak {x : Str} {ps : List Str} {k : Nat} {sd sd' : SpD} (h : Has P w K mg base T k x ps sd) (i : ∀ ds mu Q Z, sd' ds mu Q Z → sd ds mu Q Z) : Has P w K mg base T k x ps sd' := by
  obtain ⟨f, fd, h1, h2, h3, h4⟩ := h
  have j : ∀ vs H Q E, spOf K T sd' vs H Q E → spOf K T sd vs H Q E := fun vs H Q E ⟨al, mu, F, ds, Qd, Zd, w1, hv, hs, r⟩ => ⟨al, mu, F, ds, Qd, Zd, w1, hv, i _ _ _ _ hs, r⟩
  exact ⟨f, fd, h1, h2, h3, ⟨fun vs H Q E hh => h4.len vs H Q E (j _ _ _ _ hh), fun A outer s H args us vs Q E hr e0 hb r hh => h4.run A outer s H args us vs Q E hr e0 hb r (j _ _ _ _ hh)⟩⟩
end
section
variable {X : Cx} {T : List (Addr × Str)} {W : WX} {k n : Nat} {ps : List Str} {x : Str} {p pos : Pos} {e : Expr} {es : List Expr} {ta : TDA}
theorem dc_P {sp : SpP} (h : Has X.prog X.w X.K X.mg X.base T k x ps (spP sp)) (hr : Room n X.A) (tk : Takes X W) (ha : DA X T W (e :: es) ta) (hk : k ≤ n := by decide) (hg : Gl X x := by exact gl_of (by kernel_rfl))
    (hdb : (x == ("__debug__" : Str)) = false := by decide) (he : starEach (e :: es) X.env = (false, eval e X.env) :: starEach es X.env := by rfl) (hpl : (backTo pos (starEach es X.env)).any (·.1) = false := by rfl) :
    DE X T W (.Call (.Name x p) (e :: es) [] pos) (dCallP sp ta) := by
  obtain ⟨f, fd, h1, h2, h3, h4⟩ := h
  exact de_callP h4 (hr.mono hk) hg h1 h2 h3 tk ha hdb he hpl
theorem dc_L {sp : SpL} (c : Bool) (h : Has X.prog X.w X.K X.mg X.base T k x ps (spL sp)) (hr : Room n X.A) (tk : Takes X W) (ha : DA X T W (e :: es) ta) (hk : k ≤ n := by decide) (hg : Gl X x := by exact gl_of (by kernel_rfl))
    (hdb : (x == ("__debug__" : Str)) = false := by decide) (he : starEach (e :: es) X.env = (false, eval e X.env) :: starEach es X.env := by rfl) (hpl : (backTo pos (starEach es X.env)).any (·.1) = false := by rfl) :
    DE X T W (.Call (.Name x p) (e :: es) [] pos) (dCallL c sp ta) := by
  obtain ⟨f, fd, h1, h2, h3, h4⟩ := h
  exact de_callL c h4 (hr.mono hk) hg h1 h2 h3 tk ha hdb he hpl
theorem dc_A {sd : SpD} (h : Has X.prog X.w X.K X.mg X.base T k x ps sd) (hr : Room n X.A) (tk : Takes X W) (ha : DA X T W (e :: es) ta) (hk : k ≤ n := by decide) (hg : Gl X x := by exact gl_of (by kernel_rfl))
    (hdb : (x == ("__debug__" : Str)) = false := by decide) (he : starEach (e :: es) X.env = (false, eval e X.env) :: starEach es X.env := by rfl) (hpl : (backTo pos (starEach es X.env)).any (·.1) = false := by rfl) :
    DE X T W (.Call (.Name x p) (e :: es) [] pos) (dCallA sd ta) := by
  obtain ⟨f, fd, h1, h2, h3, h4⟩ := h
  exact de_callA h4 (hr.mono hk) hg h1 h2 h3 tk ha hdb he hpl
/-- raise X('m') -/
theorem ds_exc {C : Addr} {m : Str} {j : Nat} {p2 pos2 : Pos} (hc : X.calm = true) (h : ExcD X.K X.mg x C) (tk : Takes X W) (hg : Gl X x := by exact gl_of (by kernel_rfl)) (hdb : (x == ("__debug__" : Str)) = false := by decide) :
    DS X T W (.Raise (some (.Call (.Name x p) [.Constant (.str m) j p2] [] pos)) none pos2) (dRaise C) := by
  obtain ⟨bmB, B, newId, initId, h1, h2⟩ := h.q
  exact ds_raise hc tk (pmk_own h1 h2 h.g h.k (raises_own h.s h.t) hg hdb)
end
/-! ### names in short -/
section
variable {X : Cx} {T : List (Addr × Str)} {W : WX} {x : Str} {pos : Pos}
theorem dvl (i : Nat) (hN : X.N[i]? = some x := by rfl) (hv : X.env.scope.names.lookup x = some .local := by kernel_rfl) (hd : (x == ("__debug__" : Str)) = false := by decide) (hcd : (x == ("__classdict__" : Str)) = false := by decide) : DE X T W (.Name x pos) (dVar i) := de_var hN (.inl hv) hd hcd
theorem dvc (i : Nat) (hN : X.N[i]? = some x := by rfl) (hv : X.env.scope.names.lookup x = some .cell := by kernel_rfl) (hd : (x == ("__debug__" : Str)) = false := by decide) (hcd : (x == ("__classdict__" : Str)) = false := by decide) : DE X T W (.Name x pos) (dVar i) := de_var hN (.inr (.inl hv)) hd hcd
theorem dvf (i : Nat) (hN : X.N[i]? = some x := by rfl) (hv : X.env.scope.names.lookup x = some .free := by kernel_rfl) (hd : (x == ("__debug__" : Str)) = false := by decide) (hcd : (x == ("__classdict__" : Str)) = false := by decide) : DE X T W (.Name x pos) (dVar i) := de_var hN (.inr (.inr hv)) hd hcd
/-- a module's constant: an int, a text -/
def CI (mg : Str → Option Value) (x : Str) (i : Int) : Prop := ∃ t, mg x = some (.int i t)
def CS (mg : Str → Option Value) (x : Str) (i : Str) : Prop := ∃ t, mg x = some (.str i t)
theorem dgi {i : Int} (h : CI X.mg x i) (hg : Gl X x := by exact gl_of (by kernel_rfl)) (hd : (x == ("__debug__" : Str)) = false := by decide) : DE X T W (.Name x pos) (dC (.int i)) := by
  obtain ⟨t, h⟩ := h
  exact de_glob hg h (v := .int i) ⟨t, rfl⟩ (fun _ => .int i) hd
theorem dgs {i : Str} (h : CS X.mg x i) (hg : Gl X x := by exact gl_of (by kernel_rfl)) (hd : (x == ("__debug__" : Str)) = false := by decide) : DE X T W (.Name x pos) (dC (.str i)) := by
  obtain ⟨t, h⟩ := h
  exact de_glob hg h (v := .str i) ⟨t, rfl⟩ (fun _ => .str i) hd
theorem hu64 {A : Around} {k : Nat} (r : Room k A) : A.units + 64 < cLine := r.units
theorem hu65 {A : Around} {k : Nat} (r : Room k A) : A.units + 65 < cLine := by have := r.un; omega
end
/-! ### try: .. except X: -/
def dTry (m : Addr → Option Bool) (tb ts : TSD) : TSD := fun E rho mu => tb { E with ex := fun C rho mu => ∃ b, m C = some b ∧ if b = true then ts E rho mu else E.ex C rho mu } rho mu
def exM (K : PySem.W.Frag) (CS C : Addr) : Option Bool := PySem.W.exmOne K (.ref C) (.ref CS)
section
variable {X : Cx} {T : List (Addr × Str)} {W : WX} {x : Str} {np pos pos' : Pos} {CS : Addr} {body suite : List Stmt} {b₀ : Stmt} {tb ts : TSD}
theorem ds_try (hs : X.stack = X.env :: X.outer) (hf : X.env.frame = some X.env.locals) (hm : X.mg x = some (.ref CS)) (tk : Takes X W)
    (hb : ∀ (W' : WX) (pn : List (Addr × Obj)) (xe : Value → Shared → Prop), Takes (X.tr pn xe) W' → PassesOwn (model X.prog X.w) X.A X.env xe → DSs (X.tr pn xe) T W' body tb)
    (hsu : ∀ (a : Addr) (pn : List (Addr × Obj)), DSs (X.suite a pn) T W (b₀ :: suite) ts) (hg : Gl X x := by exact gl_of (by kernel_rfl)) (hdb : (x == ("__debug__" : Str)) = false := by decide) :
    DS X T W (.Try body [.ExceptHandler (some (.Name x np)) none (b₀ :: suite) pos'] [] [] pos) (dTry (exM X.K CS) tb ts) :=
  ps_imp (ps_try_only (tb := fun W' => liftS X.K T W' tb) (ts := fun _ _ _ => liftS X.K T W ts) hs hf ⟨hg, hdb, .inl hm⟩ tk (fun W' pn xe h1 h2 => hb W' pn xe h1 h2) (fun a oe cls d pn _ _ => hsu a ((a, oe) :: pn)))
    fun Dn sg H ⟨B, rho, al, mu, F, E, w, e, h, k⟩ => by
      refine ⟨B, rho, al, mu, F, _, w, e, h, ⟨k.nx, k.bk, k.ct, k.rt, fun C rho' sg' al' mu' F' H' w' e' q => ?_⟩⟩
      obtain ⟨b, h1, h2⟩ := q
      refine ⟨b, h1, fun hb a _ => ?_, fun hb => ?_⟩
      · subst hb
        rw [if_pos rfl] at h2
        exact ⟨B, rho', al', mu', F', E, w', e', h2, k⟩
      · subst hb
        rw [if_neg Bool.false_ne_true] at h2
        exact k.ex C rho' sg' al' mu' F' H' w' e' h2
end
/-! ### x(lambda: ..), x tells whether an exception left it -/
def dRefused (m : Addr → Option Bool) (t : TD) : TD := fun rho mu Q Z => t rho mu (fun _ mu1 => Q (.py (.bool false)) mu1) (fun C mu1 => m C = some true ∧ Q (.py (.bool true)) mu1)
def TRef (K : PySem.W.Frag) (CS : Addr) : (XK → Hp → VK → Prop) → Hp → VK → Prop := fun tl H Q =>
  tl (fun cls _ H' => PySem.W.exmOne K cls (.ref CS) = some true ∧ Q (.bl true) H') H fun _ H' => Q (.bl false) H'
section
open LamX
variable {X : Cx}
theorem ref_gives {Ng : List Str} {x a e q : Str} {sg : Scope} {g CS : Addr} {cdg : Value} {j j2 : Nat} {p1 p2 p3 p4 p5 p6 p7 p8 p9 p10 : Pos} (hge : sg.names.lookup e = some .globalImplicit) (hme : X.mg e = some (.ref CS)) (hde : (e == ("__debug__" : Str)) = false) (h0 : ∀ f : Addr, (L2.start Ng [V.ref f])[0]? = some (some (V.ref f))) :
    GivesTo X Ng x sg g cdg [.Try [.Expr (.Call (.Name a p1) [] [] p2) p3] [.ExceptHandler (some (.Name e p4)) none [.Return (some (.Constant (.bool true) j p5)) p6] p7] [] [] p8, .Return (some (.Constant (.bool false) j2 p9)) p10] a q (TRef X.K CS) := by
  intro f c' s H Q tl act hc h
  have hgl : Gl (cxOf C8.CX0 X.prog X.w X.K X.mg X.base Ng x sg g cdg X.A X.stack s H C8.E0).nox e := hge
  refine ⟨_, pss_cons (ps_try_only (X := (cxOf C8.CX0 X.prog X.w X.K X.mg X.base Ng x sg g cdg X.A X.stack s H C8.E0).nox) (c := .ref CS)
      (tb := fun W D σ H => ∃ Ech : XK, (∀ cls d σ' H', Ech cls d H' → W cls d σ' H') ∧ σ[0]? = some (some (.ref f)) ∧ H c' = some (CodeO c' q) ∧ tl Ech H fun _ H1 => D.nx σ H1)
      rfl rfl ⟨hgl, hde, .inl hme⟩ LamX.takes0 (fun W pn xe tk _ => ?_) (fun a oe cls d pn _ _ => pss_one (ps_ret pe_bl))) (pss_one (ps_ret pe_bl)), ?_⟩
  · refine ⟨fun pins s' σ H' D I h' => ?_⟩
    obtain ⟨Ech, hW, h1, h2, h3⟩ := h'
    have hp := act W pn xe Ech p1 p2 tk hW
    have hq := pss_one (ps_expr (pos := p3) hp)
    exact hq.run pins s' σ H' D I ⟨h1, h2, h3⟩
  · exact ⟨fun cls _ H' => PySem.W.exmOne X.K cls (.ref CS) = some true ∧ Q (.bl true) H', fun cls d σ' H' ⟨e1, e2⟩ => ⟨true, e1, fun _ a _ => e2, fun hb => by cases hb⟩, h0 f, hc, h⟩
theorem Wo.ext {K : PySem.W.Frag} {T : List (Addr × Str)} {B : Base} {al : List Addr} {mu : List Cell} {F H H1 : Hp} (w : Wo K T B al mu F H) (e : ExtN H H1) (t : Tabs T H1) : Wo K T B al mu F H1 := by
  refine ⟨fun a o h => e a o (w.sub a o h) fun ps z => w.notbl a ps (z ▸ h), w.up, w.fresh, fun a o h1 h2 h3 => e a o (w.keep a o h1 h2 h3) h2, fun a h => ?_, w.len, w.nd, w.old, w.pre, fun j c a h1 h2 => ?_, t, w.notbl⟩
  · obtain ⟨u, q1, q2⟩ := w.dom a h
    exact ⟨u, e a u q1 q2, q2⟩
  · obtain ⟨q1, q2⟩ := w.cell j c a h1 h2
    obtain ⟨u, q3, q4⟩ := q2.there
    exact ⟨q1, q2.mono (Ex.refl _) ((e a u q3 q4).trans q3.symm)⟩
theorem de_refused {T : List (Addr × Str)} {W : WX} {x a e : Str} {c P CS : Addr} {k : Nat} {st : Stmt} {Ng : List Str} {params : Arguments} {body : Expr} {scope : Scope} {t : TD} {p lpos pos : Pos} {j j2 : Nat} {p1 p2 p3 p4 p5 p6 p7 p8 p9 p10 : Pos}
    (hd : AtD X.K X.mg x st [a]) (hst : defBody st = [.Try [.Expr (.Call (.Name a p1) [] [] p2) p3] [.ExceptHandler (some (.Name e p4)) none [.Return (some (.Constant (.bool true) j p5)) p6] p7] [] [] p8, .Return (some (.Constant (.bool false) j2 p9)) p10])
    (Sg : FnScope Ng [a] (defScope st)) (hNg : Ng[0]? = some a) (hva : Vis (defScope st) a) (h0 : ∀ f : Addr, (L2.start Ng [V.ref f])[0]? = some (some (V.ref f))) (hge : (defScope st).names.lookup e = some .globalImplicit) (hme : X.mg e = some (.ref CS))
    (TB : TabB X.base X.mg c P) (hmT : (P, X.env.qual ++ "<lambda>") ∈ T) (hu : ∀ p ∈ T, p.1 = P → p.2 = X.env.qual ++ "<lambda>") (hr : Room (k + 2) X.A)
    (hbody : ∀ (A : Around) (outer : List Env) (s : Shared) (H : Hp) (E : XK) (f c' : Addr), Room k (A.deeper (lamEnv X scope s.heap.objs.size f c')) → DE (lamCx X A outer s H E scope f c') T (wE E) body t)
    (L : LamS X.env.scope scope) (hcode : X.env.code = .ref c := by rfl) (hg : Gl X x := by exact gl_of (by kernel_rfl)) (hdef : defaultsOf params X.env = ([], []) := by rfl)
    (hbind : ∀ (q : Str) (cl : List (Str × Addr)) (pm cv ctv : Value), bindArgs (PySem.W.kla_fn "<lambda>" q params body scope cl pm cv ctv) ⟨[], []⟩ = pure [] := by intros; rfl)
    (hdb : (x == ("__debug__" : Str)) = false := by decide) (hda : (a == ("__debug__" : Str)) = false := by decide) (hcd : (a == ("__classdict__" : Str)) = false := by decide) (hde : (e == ("__debug__" : Str)) = false := by decide) :
    DE X T W (.Call (.Name x p) [.Lambda params body scope lpos] [] pos) (dRefused (exM X.K CS) t) := by
  obtain ⟨g, fd, hf, hm, hb⟩ := hd
  obtain ⟨⟨oc, od, kV, doc, pm, an, cdv, ct, osl, rfl, lk, hcg⟩, hk⟩ := hf
  rw [hst] at lk hb
  refine pe_imp (pe_lamcall (TT := TRef X.K CS) (t := fun E => liftE X.K T (wE E) t) hg hm hk lk hcg hb Sg hNg hva (ref_gives hge hme hde h0) TB hcode hmT hu hr L hdef hbind (fun A outer s H E f c' hr2 => hbody A outer s H E f c' hr2) hdb hda hcd) fun sg H Q ⟨B, rho, al, mu, F, Qd, Zd, w, e, h, k, kx⟩ => ?_
  refine ⟨w.tab, fun H1 hE hT => ?_⟩
  have w1 := w.ext hE hT
  refine ⟨B, rho, al, mu, F, _, _, w1, e, h, fun v H2 al2 mu2 F2 d2 w2 e2 p2 v2 h2 => ?_, fun C H2 al2 mu2 F2 w2 e2 p2 h2 => ?_⟩
  · exact (k.mono e2 p2).go (d := .py (.bool false)) w2 (.bl false) h2
  · exact ⟨h2.1, (k.mono e2 p2).go (d := .py (.bool true)) w2 (.bl true) h2.2⟩
end
end DL
set_option Elab.async false
set_option linter.all false
set_option maxRecDepth 100000
set_option maxHeartbeats 1000000
/-! DL: the law's end. -/
namespace DL
open PySem PySem.Spec PyProof.Rows L2 LamX
/-- a heap without its tables -/
def untab (H : Hp) : Hp := fun a => match H a with
  | some (.tbl _) => none
  | o => o
theorem untab_sub {H : Hp} : Ex (untab H) H := fun a o h => by
  unfold untab at h
  split at h
  · cases h
  · exact h
theorem untab_of {H : Hp} {a : Addr} {o : HO} (h : H a = some o) (ho : ∀ ps, o ≠ .tbl ps) : untab H a = some o := by
  unfold untab
  split
  · rename_i ps hq
    rw [hq] at h
    exact absurd (Option.some.inj h).symm (ho ps)
  · exact h
theorem untab_no {H : Hp} {a : Addr} {ps : Array Value} : untab H a ≠ some (.tbl ps) := fun h => by
  unfold untab at h
  split at h
  · cases h
  · rename_i hq
    exact hq ps h
theorem untab_rd {H : Hp} {a : Addr} {vs : List V} (h : Rd H a (.lst vs)) : Rd (untab H) a (.lst vs) := by
  rcases h with h | ⟨o, h⟩
  · exact .inl (untab_of h fun _ z => by cases z)
  · exact .inr ⟨o, untab_of h fun _ z => by cases z⟩
/-- what is asked of the law's def: over every script, True -/
def sdLaw : SpD := fun ds mu Qd _ => ∃ ns : List Int, ns.length ≤ 63 ∧ (∀ z ∈ ns, Builtin.Int.intBits z ≤ 1048576) ∧ ds = [.sc (ns.map .int)] ∧ mu = [] ∧ ∀ mu', Qd (.py (.bool true)) mu'
theorem lawS {l : PySem.W.OpenLaw} {w : World} {K : PySem.W.Frag} {mg : Str → Option Value} {fa : Addr} {h : Heap} {x : Str} {st : Stmt} {N : List Str} {k : Nat} {t : TSD} {cs : List (Addr × Addr)} {q : Str} {oc kV doc pm cdv ct : Value} {od an : Option Addr} {osl : Array (Option Value)}
    (lk : K.lookup fa = some ⟨oc, od, .func (PySem.W.fnOf x x (defArgs st) (defBody st) (defScope st) .none kV doc pm an cdv ct), osl⟩) (hcd : PySem.W.codeIn K cdv x = true)
    (hT : ∀ p ∈ cs, h.get? p.2 = some { cls := .none, data := .fields #[] }) (nT : ∀ p ∈ cs, K.lookup p.2 = none) (C : ∀ p ∈ cs, PySem.W.CodeHd h p.1 p.2)
    (hb : ∀ (s : Shared) (u : Value), BindsTo s (PySem.W.fnOf x x (defArgs st) (defBody st) (defScope st) .none kV doc pm an cdv ct) ⟨[u], []⟩ [("script", u)])
    (S : FnScope N ["script"] (defScope st))
    (hbody : ∀ base : Heap, K.In base → base.Ns mainGlobals mg → (∀ p ∈ cs, TabB base mg p.1 p.2) → ∀ (A : Around) (outer : List Env) (s : Shared) (H : Hp) (E : XK), Room k (A.deeper (envOfC x (defScope st) s.heap.objs.size fa cdv)) →
      DSs (cxOf (L2.CX l.prog w) l.prog w K mg base N x (defScope st) fa cdv A outer s H E) (cs.map fun p => (p.2, q)) (wE E) (defBody st) t)
    (hread : ∀ ds mu Qd Zd, sdLaw ds mu Qd Zd → t (endD Qd Zd) (startD N ds) mu) : LawAtS l w K (L2.CX l.prog w) (k + 1) 63 "script" mg fa h := by
  refine ⟨_, cs, spOf K (cs.map fun p => (p.2, q)) sdLaw, hT, nT, C, hb, fun H a ns hn hbits hH hS => ?_, fun base hK hN hTB => ?_⟩
  · have lk2 : SqL K (untab H) a (ns.map V.int) := by
      rcases hS with z | z
      · exact .inl (untab_rd z)
      · exact .inr z
    refine ⟨[], [], untab H, [.sc (ns.map .int)], fun d _ => d = .py (.bool true), fun _ _ => False, ⟨untab_sub, Ex.refl _, fun _ _ h => h, fun _ _ h _ _ => h, fun _ h => h, rfl, .nil, fun _ h => absurd h (by simp), List.prefix_refl _, fun j c a h => by simp at h, fun p hp => ?_, fun a ps => untab_no⟩,
      .cons ⟨a, ns.map V.int, rfl, lk2, RpAll.of_ints⟩ .nil, ⟨ns, hn, hbits, rfl, rfl, fun _ => rfl⟩, fun v H' al' mu' F' d w' hv hd => ?_, fun C H' al' mu' F' w' z => z.elim⟩
    · obtain ⟨p0, hp0, e⟩ := List.mem_map.mp hp
      subst e
      exact TabS.nil (hH p0 hp0)
    · subst hd
      cases hv
      rfl
  · refine fn_of lk hcd S (fun vs H Q E h => ?_) fun A outer s H vs Q E hr h => ?_
    · obtain ⟨al, mu, F, ds, Qd, Zd, w1, hv, hs, _⟩ := h
      rw [hv.length]
      obtain ⟨ns, _, _, rfl, _⟩ := hs
      rfl
    · obtain ⟨al, mu, F, ds, Qd, Zd, w1, hv, hs, kq, kx⟩ := h
      refine ⟨_, hbody base hK hN hTB A outer s H E hr, ⟨F, H, al⟩, _, al, mu, F, endD Qd Zd, w1, en_start hv, hread ds mu Qd Zd hs, ⟨?_, fun _ _ _ _ _ _ _ _ z => z.elim, fun _ _ _ _ _ _ _ _ z => z.elim, ?_, ?_⟩⟩
      · exact fun rho sg al' mu' F' H' w' e' q => kq .non H' al' mu' F' (.py .none) w' .non q
      · exact fun d v al' mu' F' H' w' hv' q => kq v H' al' mu' F' d w' hv' q
      · exact fun C rho sg al' mu' F' H' w' e' q => kx C H' al' mu' F' w' q
theorem noCX {P : Program} (w : World) (H : Hp) (s : Shared) (e : Value) (s' : Shared) : L2.CX P w [] H s (fun _ _ _ => False) e s' → False := fun ⟨_, _, _, _, _, _, _, _, _, _, _, _, z⟩ => z
/-! ### what the top has written -/
section
variable {K : PySem.W.Frag} {h : Heap} {mg : Str → Option Value} {x : Str}
theorem atD_mk {st : Stmt} {ps : List Str} {f : Addr} {oc kV doc pm cdv ct : Value} {od an : Option Addr} {osl : Array (Option Value)} (X : K.In h) (G : h.Ns mainGlobals mg) (a : PySem.W.nsIn K mainGlobals x = some (some (.ref f)))
    (l : K.lookup f = some ⟨oc, od, .func (PySem.W.fnOf x x (defArgs st) (defBody st) (defScope st) .none kV doc pm an cdv ct), osl⟩) (c : PySem.W.codeIn K cdv x = true) (k : PySem.W.keepIn K (.ref f) = true)
    (b : ∀ fd, Fun K x x st f fd → Binds K fd ps []) : AtD K mg x st ps := ⟨f, _, fun_mk l c k, PySem.W.mg_of X G a, b _ (fun_mk l c k)⟩
theorem excD_mk {C : Addr} {bmB : List Value} {B newId initId : String} (X : K.In h) (G : h.Ns mainGlobals mg) (F : ExcBaseFacts B newId initId bmB) (a : PySem.W.nsIn K mainGlobals x = some (some (.ref C))) (q : PySem.W.excIn K C bmB newId = true) (k : PySem.W.keepIn K (.ref C) = true)
    (s : PySem.W.subIn K (.ref C) (.type "BaseException") = some true) (t : PySem.W.typeIn K (.ref C) = some (.type "type")) : ExcD K mg x C := ⟨⟨bmB, B, newId, initId, F, q⟩, PySem.W.mg_of X G a, k, s, t⟩
theorem ci_mk {i : Int} {t : Tok} (X : K.In h) (G : h.Ns mainGlobals mg) (a : PySem.W.nsIn K mainGlobals x = some (some (.int i t))) : CI mg x i := ⟨t, PySem.W.mg_of X G a⟩
theorem cs_mk {i : Str} {t : Tok} (X : K.In h) (G : h.Ns mainGlobals mg) (a : PySem.W.nsIn K mainGlobals x = some (some (.str i t))) : CS mg x i := ⟨t, PySem.W.mg_of X G a⟩
end
/-- an exception of the class at C, asked by «except» of the class at S -/
theorem exm_of {K : PySem.W.Frag} {C S : Addr} {b : Bool} (h1 : PySem.W.subIn K (.ref S) (.type "BaseException") = some true) (h2 : PySem.W.isClsIn K S = true) (h3 : PySem.W.typeIn K (.ref S) = some (.type "type")) (h4 : PySem.W.subIn K (.ref C) (.ref S) = some b) : exM K S C = some b := by
  have e1 : (PySem.W.subIn K (.ref S) (.type "BaseException") == some true) = true := by rw [h1] <;> rfl
  have e2 : ((PySem.W.clsIn K S).isSome && PySem.W.typeIn K (.ref S) == some (.type "type")) = true := by
    have h2' : (PySem.W.clsIn K S).isSome = true := h2
    rw [h2', h3] <;> rfl
  show (if (PySem.W.subIn K (.ref S) (.type "BaseException") == some true) = true then (if ((PySem.W.clsIn K S).isSome && PySem.W.typeIn K (.ref S) == some (.type "type")) = true then PySem.W.subIn K (.ref C) (.ref S) else none) else none) = some b
  rw [if_pos e1, if_pos e2]
  exact h4
end DL
set_option Elab.async false
set_option linter.all false
set_option maxRecDepth 100000
set_option maxHeartbeats 1000000
/-! DL: dict displays. -/
namespace DL
open PySem PySem.Spec PyProof.Rows L2
def dPairs : List (TD × TD) → DEnv → List Cell → (List (PyData × PyData) → List Cell → Prop) → QX → Prop
  | [], _, mu, Q, _ => Q [] mu
  | (tk, tv) :: r, rho, mu, Q, Z => tk rho mu (fun x mu1 => tv rho mu1 (fun y mu2 => dPairs r rho mu2 (fun ds mu3 => match x, y with
    | .py a, .py b => Q ((a, b) :: ds) mu3
    | _, _ => False) Z) Z) Z
def kOf : PyData → Option Key
  | .int i => some (.inl i)
  | .str x => some (.inr x)
  | _ => none
def mergeD (kvs more : List (PyData × PyData)) : List (PyData × PyData) := more.foldl (fun acc kv => stD acc kv.1 kv.2) kvs
/-- a new dict: a cell, or frozen -/
def rstK (c : Bool) (kvs : List (PyData × PyData)) (mu : List Cell) (Q : QD) : Prop := if c then Q (.op mu.length) (mu ++ [.dk kvs]) else Q (.py (.dict kvs)) mu
def dDisp (c : Bool) (trs : List (TD × TD)) : TD := fun rho mu Q Z => dPairs trs rho mu (fun ds mu1 => ((ds.all fun p => (kOf p.1).isSome) = true ∧ ds.length ≤ 15) ∧ rstK c (mergeD [] ds) mu1 Q) Z
abbrev PrV (K : PySem.W.Frag) (F : Hp) : List (V × V) → List (PyData × PyData) → Prop := Paired fun p d => Rp K F p.1 d.1 ∧ Rp K F p.2 d.2
section
variable {K : PySem.W.Frag} {T : List (Addr × Str)} {B : Base} {W : WX}
theorem pairs_imp {Qd : List (PyData × PyData) → List Cell → Prop} {Zd : QX} {sg : L2.St} {rho : DEnv} : ∀ (trs : List (TD × TD)) (R : List (V × V) → Hp → Prop) (al : List Addr) (mu : List Cell) (F H : Hp), Wo K T B al mu F H → En K rho sg al F → dPairs trs rho mu Qd Zd → KX K T B al F sg Zd W →
    (∀ ps H' al' mu' F' ds, Wo K T B al' mu' F' H' → Ex F F' → al <+: al' → PrV K F' ps ds → Qd ds mu' → R ps H') → tPairs (trs.map fun p => (liftE K T W p.1, liftE K T W p.2)) sg H R := by
  intro trs
  induction trs generalizing Qd with
  | nil => intro R al mu F H w e h kx k; exact k [] H al mu F [] w (Ex.refl _) (List.prefix_refl _) .nil h
  | cons p r ih =>
    obtain ⟨tk, tv⟩ := p
    intro R al mu F H w e h kx k
    refine ⟨B, rho, al, mu, F, _, Zd, w, e, h, fun x H1 al1 mu1 F1 d1 w1 e1 p1 v1 h1 => ?_, kx⟩
    refine ⟨B, rho, al1, mu1, F1, _, Zd, w1, e.mono e1 p1, h1, fun y H2 al2 mu2 F2 d2 w2 e2 p2 v2 h2 => ?_, kx.mono e1 p1⟩
    refine ih _ al2 mu2 F2 H2 w2 ((e.mono e1 p1).mono e2 p2) h2 ((kx.mono e1 p1).mono e2 p2) fun ps H3 al3 mu3 F3 ds w3 e3 p3 v3 h3 => ?_
    try dsimp only at h3
    split at h3
    · rename_i a b
      exact k _ H3 al3 mu3 F3 ((a, b) :: ds) w3 ((e1.trans e2).trans e3) ((p1.trans p2).trans p3) (.cons ⟨Rp.mono (Ex.trans e2 e3) v1, Rp.mono e3 v2⟩ v3) h3
    · exact h3.elim
theorem keyed {F : Hp} : ∀ {ps : List (V × V)} {ds : List (PyData × PyData)}, PrV K F ps ds → (ds.all fun p => (kOf p.1).isSome) = true → ∃ kvs : List (Key × V), ps = kvs.map (fun kv => (kV kv.1, kv.2)) ∧ kvs.length = ds.length ∧ RpK K F kvs ds
  | _, _, .nil, _ => ⟨[], rfl, rfl, .nil⟩
  | _, _, .cons (a := p) (b := d) h r, e => by
    obtain ⟨x, y⟩ := p
    obtain ⟨a, b⟩ := d
    simp only [List.all_cons, Bool.and_eq_true] at e
    obtain ⟨kvs, e1, e2, e3⟩ := keyed r e.2
    obtain ⟨h1, h2⟩ := h
    have h1 : Rp K F x a := h1
    have h2 : Rp K F y b := h2
    cases h1 with
    | int i => exact ⟨(.inl i, y) :: kvs, by rw [e1]; rfl, by simp [e2], .cons h2 e3⟩
    | str i => exact ⟨(.inr i, y) :: kvs, by rw [e1]; rfl, by simp [e2], .cons h2 e3⟩
    | _ => simp [kOf] at e
theorem merge_rp {F : Hp} : ∀ {more : List (Key × V)} {ds : List (PyData × PyData)} {kvs : List (Key × V)} {es : List (PyData × PyData)}, RpK K F more ds → RpK K F kvs es → RpK K F (mergeK kvs more) (mergeD es ds)
  | _, _, _, _, .nil, h => h
  | _, _, _, _, .cons (k := k0) h r, h2 => by
    have q := merge_rp r (h2.put (k := k0) h)
    exact q
end
section
variable {X : Cx} {T : List (Addr × Str)} {W : WX} {pos : Pos}
abbrev DPs (X : Cx) (T : List (Addr × Str)) (W : WX) (pos : Pos) (keys : List (Option Expr)) (values : List Expr) (trs : List (TD × TD)) : Prop := PPs X pos keys values (trs.map fun p => (liftE X.K T W p.1, liftE X.K T W p.2))
theorem dps_nil : DPs X T W pos [] [] [] := pps_nil
theorem dps_cons {k v : Expr} {ks : List (Option Expr)} {vs : List Expr} {tk tv : TD} {trs : List (TD × TD)} (hk : DE X T W k tk) (hv : DE X T W v tv) (hr : DPs X T W pos ks vs trs) : DPs X T W pos (some k :: ks) (v :: vs) ((tk, tv) :: trs) := pps_cons hk hv hr
theorem de_disp {keys : List (Option Expr)} {values : List Expr} {trs : List (TD × TD)} (c : Bool) (h : DPs X T W pos keys values trs) (hall : keys.all (·.isSome) = true := by rfl) (hl : keys.length = values.length := by rfl) (h0 : keys ≠ [] := by exact List.cons_ne_nil _ _)
    (h15 : keys.length ≤ 15 := by decide) : DE X T W (.Dict keys values pos) (dDisp c trs) :=
  pe_imp (pe_disp h hall hl h0 h15) fun sg H Q ⟨B, rho, al, mu, F, Qd, Zd, w, e, h, k, kx⟩ => by
    intro p hp
    have wj := w.junk (o := .dK []) hp
    have nF := w.fnone hp
    have nal := w.notin hp
    refine pairs_imp (B := ⟨F, upd H p (.dK []), al⟩) trs _ al mu F _ wj.self e h (fun C H' al' mu' F' w' e' p' q => kx C H' al' mu' F' (wj.back w') e' p' q) fun ps H' al' mu' F' ds w' e' p' hv h1 => ?_
    obtain ⟨⟨c1, c2⟩, h1⟩ := h1
    have s1 : H' p = some (.dK []) := w'.keep p _ upd_same (fun _ z => by cases z) nal
    have s3 : F' p = none := w'.fresh p ⟨_, upd_same, fun _ z => by cases z⟩ nF
    have s4 : p ∉ al' := fun z => by
      rcases w'.old p z with q | q
      · exact q ⟨_, upd_same, fun _ z => by cases z⟩
      · exact nal q
    have nb : ¬ Kn B.H p := w.bnone hp
    obtain ⟨kvs, e1, e2, e3⟩ := keyed hv c1
    refine ⟨s1, kvs, e1, by omega, ?_⟩
    have wB := (wj.back w').junkset (o := .dK (mergeK [] kvs)) s1 ⟨fun _ z => (by cases z), fun _ z => (by cases z)⟩ (fun _ z => by cases z) s3 s4 nb
    have hm := merge_rp (kvs := []) (es := []) e3 .nil
    have k1 := k.mono e' p'
    unfold rstK at h1
    cases c with
    | true =>
      rw [if_pos rfl] at h1
      exact k1 _ _ (al' ++ [p]) (mu' ++ [.dk (mergeD [] ds)]) F' (.op mu'.length) (wB.adopt (c := .dk (mergeD [] ds)) s4 nb s3 ⟨_, upd_same, hm⟩) (Ex.refl _) (List.prefix_append _ _) ⟨p, by rw [← w'.len]; simp, rfl⟩ h1
    | false =>
      rw [if_neg Bool.false_ne_true] at h1
      exact k1.frozen (wB.freeze upd_same (fun _ z => by cases z) s3 nb s4) (Ex.new s3) (.dk (.inl upd_same) (hm.mono (Ex.new s3))) h1
end
end DL
set_option Elab.async false
set_option linter.all false
set_option maxRecDepth 100000
set_option maxHeartbeats 1000000
/-! DL: rules in short, for the printed derivations. -/
namespace DL
open PySem PySem.Spec PyProof.Rows L2
section
variable {X : Cx} {T : List (Addr × Str)} {W : WX} {pos apos cpos p : Pos} {a b e1 o i f ob : Expr} {es : List Expr} {ta tb to td ty tx : TD} {tr : TDA}
theorem de_append (ho : DE X T W ob to) (ha : DA X T W (e1 :: es) tr) (hbase : attributeBase ob "append" X.env (eval ob X.env) = eval ob X.env := by rfl)
    (hfew : ((backTo cpos (starEach (e1 :: es) X.env)).all (fun x => !x.1) && (backToKw cpos (keywordEach [] X.env)).all (fun x => x.1.isSome) && decide ((e1 :: es).length + ([] : List Keyword).length + (if ([] : List Keyword).isEmpty then 0 else 1) < 30)) = true := by rfl)
    (hline : (apos.endLine == cpos.line) = true := by rfl) (hs : starEach (e1 :: es) X.env = (false, eval e1 X.env) :: starEach es X.env := by rfl) (hplain : (backTo cpos (starEach es X.env)).any (·.1) = false := by rfl) :
    DE X T W (.Call (.Attribute ob "append" apos) (e1 :: es) [] cpos) (dM "list" mAppend to tr) := de_m PySem.F.plainAttrs_list PySem.F.slot_list_append PySem.F.type_list_append mt_append md_append ho ha hbase hfew hline hs hplain
theorem de_extend (ho : DE X T W ob to) (ha : DA X T W (e1 :: es) tr) (hbase : attributeBase ob "extend" X.env (eval ob X.env) = eval ob X.env := by rfl)
    (hfew : ((backTo cpos (starEach (e1 :: es) X.env)).all (fun x => !x.1) && (backToKw cpos (keywordEach [] X.env)).all (fun x => x.1.isSome) && decide ((e1 :: es).length + ([] : List Keyword).length + (if ([] : List Keyword).isEmpty then 0 else 1) < 30)) = true := by rfl)
    (hline : (apos.endLine == cpos.line) = true := by rfl) (hs : starEach (e1 :: es) X.env = (false, eval e1 X.env) :: starEach es X.env := by rfl) (hplain : (backTo cpos (starEach es X.env)).any (·.1) = false := by rfl) :
    DE X T W (.Call (.Attribute ob "extend" apos) (e1 :: es) [] cpos) (dM "list" mExtend to tr) := de_m PySem.F.plainAttrs_list PySem.F.slot_list_extend PySem.F.type_list_extend mt_extend md_extend ho ha hbase hfew hline hs hplain
theorem de_pop (ho : DE X T W ob to) (hbase : attributeBase ob "pop" X.env (eval ob X.env) = eval ob X.env := by rfl) (hline : (apos.endLine == cpos.line) = true := by rfl) : DE X T W (.Call (.Attribute ob "pop" apos) [] [] cpos) (dM0 "list" mPop to) :=
  de_m0 PySem.F.plainAttrs_list PySem.F.slot_list_pop PySem.F.type_list_pop mt_pop md_pop ho hbase hline
theorem de_popAt (ho : DE X T W ob to) (ha : DA X T W (e1 :: es) tr) (hbase : attributeBase ob "pop" X.env (eval ob X.env) = eval ob X.env := by rfl)
    (hfew : ((backTo cpos (starEach (e1 :: es) X.env)).all (fun x => !x.1) && (backToKw cpos (keywordEach [] X.env)).all (fun x => x.1.isSome) && decide ((e1 :: es).length + ([] : List Keyword).length + (if ([] : List Keyword).isEmpty then 0 else 1) < 30)) = true := by rfl)
    (hline : (apos.endLine == cpos.line) = true := by rfl) (hs : starEach (e1 :: es) X.env = (false, eval e1 X.env) :: starEach es X.env := by rfl) (hplain : (backTo cpos (starEach es X.env)).any (·.1) = false := by rfl) :
    DE X T W (.Call (.Attribute ob "pop" apos) (e1 :: es) [] cpos) (dM "list" mPopAt to tr) := de_m PySem.F.plainAttrs_list PySem.F.slot_list_pop PySem.F.type_list_pop mt_popAt md_popAt ho ha hbase hfew hline hs hplain
theorem de_join (ho : DE X T W ob to) (ha : DA X T W (e1 :: es) tr) (hbase : attributeBase ob "join" X.env (eval ob X.env) = eval ob X.env := by rfl)
    (hfew : ((backTo cpos (starEach (e1 :: es) X.env)).all (fun x => !x.1) && (backToKw cpos (keywordEach [] X.env)).all (fun x => x.1.isSome) && decide ((e1 :: es).length + ([] : List Keyword).length + (if ([] : List Keyword).isEmpty then 0 else 1) < 30)) = true := by rfl)
    (hline : (apos.endLine == cpos.line) = true := by rfl) (hs : starEach (e1 :: es) X.env = (false, eval e1 X.env) :: starEach es X.env := by rfl) (hplain : (backTo cpos (starEach es X.env)).any (·.1) = false := by rfl) :
    DE X T W (.Call (.Attribute ob "join" apos) (e1 :: es) [] cpos) (dM "str" mJoin to tr) := de_m PySem.F.plainAttrs_str PySem.F.slot_str_join PySem.F.type_str_join mt_join md_join ho ha hbase hfew hline hs hplain
theorem de_split (c : Bool) (ho : DE X T W ob to) (ha : DA X T W (e1 :: es) tr) (hbase : attributeBase ob "split" X.env (eval ob X.env) = eval ob X.env := by rfl)
    (hfew : ((backTo cpos (starEach (e1 :: es) X.env)).all (fun x => !x.1) && (backToKw cpos (keywordEach [] X.env)).all (fun x => x.1.isSome) && decide ((e1 :: es).length + ([] : List Keyword).length + (if ([] : List Keyword).isEmpty then 0 else 1) < 30)) = true := by rfl)
    (hline : (apos.endLine == cpos.line) = true := by rfl) (hs : starEach (e1 :: es) X.env = (false, eval e1 X.env) :: starEach es X.env := by rfl) (hplain : (backTo cpos (starEach es X.env)).any (·.1) = false := by rfl) :
    DE X T W (.Call (.Attribute ob "split" apos) (e1 :: es) [] cpos) (dM "str" (mSplit c) to tr) := de_m PySem.F.plainAttrs_str PySem.F.slot_str_split PySem.F.type_str_split mt_split md_split ho ha hbase hfew hline hs hplain
theorem de_sindex (ho : DE X T W ob to) (ha : DA X T W (e1 :: es) tr) (hbase : attributeBase ob "index" X.env (eval ob X.env) = eval ob X.env := by rfl)
    (hfew : ((backTo cpos (starEach (e1 :: es) X.env)).all (fun x => !x.1) && (backToKw cpos (keywordEach [] X.env)).all (fun x => x.1.isSome) && decide ((e1 :: es).length + ([] : List Keyword).length + (if ([] : List Keyword).isEmpty then 0 else 1) < 30)) = true := by rfl)
    (hline : (apos.endLine == cpos.line) = true := by rfl) (hs : starEach (e1 :: es) X.env = (false, eval e1 X.env) :: starEach es X.env := by rfl) (hplain : (backTo cpos (starEach es X.env)).any (·.1) = false := by rfl) :
    DE X T W (.Call (.Attribute ob "index" apos) (e1 :: es) [] cpos) (dM "str" mSIndex to tr) := de_m PySem.F.plainAttrs_str PySem.F.slot_str_index PySem.F.type_str_index mt_sindex md_sindex ho ha hbase hfew hline hs hplain
theorem de_get1 (hu : X.A.units + 1 < cLine) (ho : DE X T W o td) (hi : DE X T W i ty) (h1 : attributeBase o "get" X.env (eval o X.env) = eval o X.env := by rfl)
    (h2 : ((backTo cpos (starEach [i] X.env)).all (fun x => !x.1) && (backToKw cpos (keywordEach [] X.env)).all (fun x => x.1.isSome) && decide (([i] : List Expr).length + ([] : List Keyword).length + (if ([] : List Keyword).isEmpty then 0 else 1) < 30)) = true := by rfl)
    (h3 : (apos.endLine == cpos.line) = true := by rfl) (h4 : backTo cpos (starEach [i] X.env) = [(false, eval i X.env)] := by rfl) : DE X T W (.Call (.Attribute o "get" apos) [i] [] cpos) (dDGet1 td ty) := de_dget1 hu ho hi ⟨h1, h2, h3, h4⟩
theorem de_get2 (hu : X.A.units + 1 < cLine) (ho : DE X T W o td) (hi : DE X T W i ty) (hf : DE X T W f tx) (h1 : attributeBase o "get" X.env (eval o X.env) = eval o X.env := by rfl)
    (h2 : ((backTo cpos (starEach [i, f] X.env)).all (fun x => !x.1) && (backToKw cpos (keywordEach [] X.env)).all (fun x => x.1.isSome) && decide (([i, f] : List Expr).length + ([] : List Keyword).length + (if ([] : List Keyword).isEmpty then 0 else 1) < 30)) = true := by rfl)
    (h3 : (apos.endLine == cpos.line) = true := by rfl) (h4 : backTo cpos (starEach [i, f] X.env) = [(false, eval i X.env), (false, eval f X.env)] := by rfl) : DE X T W (.Call (.Attribute o "get" apos) [i, f] [] cpos) (dDGet2 td ty tx) := de_dget2 hu ho hi hf ⟨h1, h2, h3, h4⟩
/-- - e -/
def dNeg (ta : TD) : TD := fun rho mu Q Z => ta rho mu (fun d mu1 => match d with
  | .py (.int i) => Q (.py (.int (-i))) mu1
  | _ => False) Z
theorem de_neg (ha : DE X T W a ta) : DE X T W (.UnaryOp .USub a pos) (dNeg ta) :=
  pe_imp (pe_un un_neg ha) fun sg H Q ⟨B, rho, al, mu, F, Qd, Zd, w, e, h, k, kx⟩ => ⟨B, rho, al, mu, F, _, Zd, w, e, h, fun v H1 al1 mu1 F1 d1 w1 e1 p1 v1 h1 => by
    try dsimp only at h1
    split at h1
    · cases v1
      exact ⟨_, rfl, (k.mono e1 p1).go (d := .py _) w1 (.int _) h1⟩
    · exact h1.elim, kx⟩
theorem de_negc {i : Int} {j : Nat} {p2 : Pos} : DE X T W (.UnaryOp .USub (.Constant (.int i) j p2) pos) (dC (.int (-i))) := pe_imp (de_neg de_int) fun sg H Q h => h
def dDnewK : TD := fun _ mu Q _ => Q (.op mu.length) (mu ++ [.dk []])
def dDnewT : TD := fun _ mu Q _ => Q (.op mu.length) (mu ++ [.dt []])
end
/-! ### a list times an int -/
theorem rep_all {K : PySem.W.Frag} {F : Hp} {vs : List V} {ds : List PyData} (h : RpAll K F vs ds) : ∀ n : Nat, RpAll K F (List.replicate n vs).flatten (List.replicate n ds).flatten
  | 0 => .nil
  | n + 1 => h.app (rep_all h n)
def oRep (c : Bool) : O2 := fun x y mu Q => match vw mu x, y with
  | some (.list ds), .py (.int k) => (-(2 ^ 63) ≤ k ∧ k < 2 ^ 63 ∧ ds.length * k.toNat ≤ sizeLine) ∧ rst c (List.replicate k.toNat ds).flatten mu Q
  | _, _ => False
theorem od_rep {K : PySem.W.Frag} {T : List (Addr × Str)} (c : Bool) : OpD K T rRep (oRep c) := by
  intro B al mu F H x y d1 d2 Qd Q w v1 v2 h k
  unfold oRep at h
  split at h
  · rename_i ds i e1
    cases v2
    obtain ⟨p, vs, rfl, h1, h2⟩ := view_list w v1 e1
    exact ⟨p, _, vs, rfl, rfl, h1, h.1.1, h.1.2.1, by rw [h2.length]; exact h.1.2.2, fun n hn => k.list w hn (rep_all h2 _) h.2⟩
  · exact h.elim
theorem tkL0 {X : Cx} {A : Around} {outer : List Env} {s : Shared} {H : Hp} {E : XK} {scope : Scope} {f c' : Addr} : Takes (LamX.lamCx X A outer s H E scope f c') (wE E) := takes_of rfl rfl rfl rfl
end DL
set_option Elab.async false
set_option linter.all false
set_option maxRecDepth 100000
set_option maxHeartbeats 1000000
/-! DL: reading: loops by invariants; the law's tape. -/
namespace DL
open PySem PySem.Spec PyProof.Rows L2
/-! ### loops -/
theorem forL_inv {g : Tgt} {b : TSD} {E : EndsD} {pin : List Cell → Prop} {xs : List PyData} (I : Nat → DEnv → List Cell → Prop) {rho : DEnv} {mu : List Cell} (h0 : I 0 rho mu)
    (hs : ∀ (i : Nat) (x : PyData) (rho : DEnv) (mu : List Cell) (N : DEnv → List Cell → Prop), xs[i]? = some x → I i rho mu → (∀ rho mu, I (i + 1) rho mu → N rho mu) → pin mu ∧ match tgD g x rho with
      | some r => b { E with nx := N, ct := N, bk := E.nx } r mu
      | none => False)
    (he : ∀ rho mu, I xs.length rho mu → pin mu ∧ E.nx rho mu) : dForL g b E pin xs rho mu := by
  have go : ∀ (n i : Nat) (rho : DEnv) (mu : List Cell), n = xs.length - i → i ≤ xs.length → I i rho mu → dForL g b E pin (xs.drop i) rho mu := by
    intro n
    induction n with
    | zero =>
      intro i rho mu hn hi h
      have e : i = xs.length := by omega
      subst e
      rw [List.drop_length]
      exact he rho mu h
    | succ n ih =>
      intro i rho mu hn hi h
      have hlt : i < xs.length := by omega
      rw [List.drop_eq_getElem_cons hlt]
      obtain ⟨h1, h2⟩ := hs i xs[i] rho mu (dForL g b E pin (xs.drop (i + 1))) (List.getElem?_eq_getElem hlt) h fun r u hr => ih (i + 1) r u (by omega) (by omega) hr
      exact ⟨h1, h2⟩
  have q := go xs.length 0 rho mu (by omega) (Nat.zero_le _) h0
  simpa using q
/-- a comprehension by what is done and what is made -/
theorem lcL_inv {g : Tgt} {tt : TDB} {te : TD} {rw_ : DEnv} {pin : List Cell → Prop} {Q : List PyData → List Cell → Prop} {xs : List PyData} (I : Nat → List PyData → List Cell → Prop) {mu : List Cell} (h0 : I 0 [] mu)
    (hs : ∀ (i : Nat) (x : PyData) (acc : List PyData) (mu : List Cell) (N : List PyData → List Cell → Prop), xs[i]? = some x → I i acc mu → (∀ acc mu, I (i + 1) acc mu → N acc mu) → pin mu ∧ match tgD g x rw_ with
      | some r => tt r mu (fun b mu1 => if b = true then te r mu1 (fun d mu2 => match d with
        | .py y => N (acc ++ [y]) mu2
        | _ => False) noX else N acc mu1) noX
      | none => False)
    (he : ∀ acc mu, I xs.length acc mu → pin mu ∧ Q acc mu) : lcL g tt te rw_ pin Q xs [] mu := by
  have go : ∀ (n i : Nat) (acc : List PyData) (mu : List Cell), n = xs.length - i → i ≤ xs.length → I i acc mu → lcL g tt te rw_ pin Q (xs.drop i) acc mu := by
    intro n
    induction n with
    | zero =>
      intro i acc mu hn hi h
      have e : i = xs.length := by omega
      subst e
      rw [List.drop_length]
      exact he acc mu h
    | succ n ih =>
      intro i acc mu hn hi h
      have hlt : i < xs.length := by omega
      rw [List.drop_eq_getElem_cons hlt]
      obtain ⟨h1, h2⟩ := hs i xs[i] acc mu (fun acc mu => lcL g tt te rw_ pin Q (xs.drop (i + 1)) acc mu) (List.getElem?_eq_getElem hlt) h fun r u hr => ih (i + 1) r u (by omega) (by omega) hr
      exact ⟨h1, h2⟩
  have q := go xs.length 0 [] mu (by omega) (Nat.zero_le _) h0
  simpa using q
/-- .. whose items are told by a function; the cells stay -/
theorem lcL_map {g : Tgt} {te : TD} {rw_ : DEnv} {pin : List Cell → Prop} {Q : List PyData → List Cell → Prop} {xs : List PyData} {mu : List Cell} (f : PyData → PyData)
    (hs : ∀ x ∈ xs, ∃ r, tgD g x rw_ = some r ∧ ∀ N : QD, N (.py (f x)) mu → te r mu N noX) (hp : pin mu) (hq : Q (xs.map f) mu) : lcL g dYes te rw_ pin Q xs [] mu := by
  refine lcL_inv (fun i acc m => m = mu ∧ acc = (xs.take i).map f) ⟨rfl, rfl⟩ ?_ ?_
  · rintro i x acc m N hx ⟨rfl, rfl⟩ k
    refine ⟨hp, ?_⟩
    obtain ⟨r, h1, h2⟩ := hs x (List.mem_of_getElem? hx)
    rw [h1]
    simp only [dYes, reduceIte]
    refine h2 _ ?_
    show N _ _
    refine k _ _ ⟨rfl, ?_⟩
    rw [List.take_add_one, hx, List.map_append]
    rfl
  · rintro acc m ⟨rfl, rfl⟩
    rw [List.take_length]
    exact ⟨hp, hq⟩
/-! ### the tape -/
def tp (cells : List Int) (at_ left seed salt : Int) : List (PyData × PyData) := [(.str "cells", .list (cells.map .int)), (.str "at", .int at_), (.str "left", .int left), (.str "seed", .int seed), (.str "salt", .int salt)]
def TapeOk (kvs : List (PyData × PyData)) : Prop := ∃ cells at_ left seed salt, kvs = tp cells at_ left seed salt ∧ (∀ z ∈ cells, (0 : Int) ≤ z) ∧ 0 ≤ at_ ∧ 0 ≤ left
section
variable {cells : List Int} {a l s t x : Int}
theorem tp_cells : lkD (tp cells a l s t) (.str "cells") = some (.list (cells.map .int)) := by kernel_rfl
theorem tp_at : lkD (tp cells a l s t) (.str "at") = some (.int a) := by kernel_rfl
theorem tp_left : lkD (tp cells a l s t) (.str "left") = some (.int l) := by kernel_rfl
theorem tp_seed : lkD (tp cells a l s t) (.str "seed") = some (.int s) := by kernel_rfl
theorem tp_salt : lkD (tp cells a l s t) (.str "salt") = some (.int t) := by kernel_rfl
theorem st_at : stD (tp cells a l s t) (.str "at") (.int x) = tp cells x l s t := by kernel_rfl
theorem st_left : stD (tp cells a l s t) (.str "left") (.int x) = tp cells a x s t := by kernel_rfl
theorem st_salt : stD (tp cells a l s t) (.str "salt") (.int x) = tp cells a l s x := by kernel_rfl
theorem tp_len : (tp cells a l s t).length = 5 := rfl
theorem tp_mk {l0 : List PyData} : mergeD [] [(PyData.str "cells", PyData.list l0), (.str "at", .int 0), (.str "left", .int 0), (.str "seed", .int s), (.str "salt", .int 0)] = [(.str "cells", .list l0), (.str "at", .int 0), (.str "left", .int 0), (.str "seed", .int s), (.str "salt", .int 0)] := by kernel_rfl
end
end DL
set_option Elab.async false
set_option linter.all false
set_option maxRecDepth 100000
set_option maxHeartbeats 1000000
/-! DL: expressions that only tell a value. -/
namespace DL
open PySem PySem.Spec PyProof.Rows L2
def Ev (t : TD) (rho : DEnv) (mu : List Cell) (d : D) : Prop := ∀ (Q : QD) (Z : QX), Q d mu → t rho mu Q Z
def EvB (t : TDB) (rho : DEnv) (mu : List Cell) (b : Bool) : Prop := ∀ (Q : QB) (Z : QX), Q b mu → t rho mu Q Z
def EvA (t : TDA) (rho : DEnv) (mu : List Cell) (ds : List D) : Prop := ∀ (Q : QA) (Z : QX), Q ds mu → t rho mu Q Z
def EvP (t : TDO) (rho : DEnv) (mu : List Cell) (o : Option Int) : Prop := ∀ (Q : QO) (Z : QX), Q o mu → t rho mu Q Z
def EvI (t : TID) (rho : DEnv) (mu : List Cell) (xs : List PyData) (pin : List Cell → Prop) : Prop := ∀ (Q : QI) (Z : QX), Q xs pin mu → t rho mu Q Z
/-- raises -/
def EvX (t : TD) (rho : DEnv) (mu : List Cell) (C : Addr) : Prop := ∀ (Q : QD) (Z : QX), Z C mu → t rho mu Q Z
def EvO (o : O2) (x y : D) (mu : List Cell) (d : D) : Prop := ∀ Q : QD, Q d mu → o x y mu Q
def EvC (o : O1) (ds : List D) (mu : List Cell) (d : D) : Prop := ∀ Q : QD, Q d mu → o ds mu Q
def EvM (o : OM) (x : D) (ds : List D) (mu : List Cell) (d : D) : Prop := ∀ Q : QD, Q d mu → o x ds mu Q
section
variable {rho : DEnv} {mu : List Cell} {d x y z : D} {ta tb tc : TD} {o o' : O2} {a b : Int} {p q : PyData} {s t : Str} {ds es : List PyData}
theorem ev_var {i : Nat} (h : rho[i]? = some (some d)) : Ev (dVar i) rho mu d := fun Q Z k => by
  unfold dVar
  rw [h]
  exact k
theorem ev_c : Ev (dC p) rho mu (.py p) := fun Q Z k => k
theorem ev_op (ha : Ev ta rho mu x) (hb : Ev tb rho mu y) (ho : EvO o x y mu d) : Ev (dOp o ta tb) rho mu d := fun Q Z k => ha _ _ (hb _ _ (ho _ k))
theorem evo_add : EvO oAdd (.py (.int a)) (.py (.int b)) mu (.py (.int (a + b))) := fun Q k => k
theorem evo_addS (h : s.length + t.length ≤ sizeLine) : EvO oAdd (.py (.str s)) (.py (.str t)) mu (.py (.str (s ++ t))) := fun Q k => ⟨h, k⟩
theorem evo_addT (h : ds.length + es.length ≤ sizeLine) : EvO oAdd (.py (.tuple ds)) (.py (.tuple es)) mu (.py (.tuple (ds ++ es))) := fun Q k => ⟨h, k⟩
theorem evo_addL (h : ds.length + es.length ≤ sizeLine) : EvO oAdd (.py (.list ds)) (.py (.list es)) mu (.py (.list (ds ++ es))) := fun Q k => ⟨h, k⟩
theorem evo_sub : EvO oSub (.py (.int a)) (.py (.int b)) mu (.py (.int (a - b))) := fun Q k => k
theorem evo_xor : EvO oXor (.py (.int a)) (.py (.int b)) mu (.py (.int (Builtin.bitXor a b))) := fun Q k => k
theorem evo_mul (h : CMul a b) : EvO oMul (.py (.int a)) (.py (.int b)) mu (.py (.int (a * b))) := fun Q k => ⟨h, k⟩
theorem evo_div (h : CDiv a b) : EvO oDiv (.py (.int a)) (.py (.int b)) mu (.py (.int (a / b))) := fun Q k => ⟨h, k⟩
theorem evo_mod (h : 0 < b) : EvO oMod (.py (.int a)) (.py (.int b)) mu (.py (.int (a % b))) := fun Q k => ⟨h, k⟩
theorem evo_lt : EvO oLt (.py (.int a)) (.py (.int b)) mu (.py (.bool (decide (a < b)))) := fun Q k => k
theorem evo_le : EvO oLe (.py (.int a)) (.py (.int b)) mu (.py (.bool (decide (a ≤ b)))) := fun Q k => k
theorem evo_gt : EvO oGt (.py (.int a)) (.py (.int b)) mu (.py (.bool (decide (b < a)))) := fun Q k => k
theorem evo_ge : EvO oGe (.py (.int a)) (.py (.int b)) mu (.py (.bool (decide (b ≤ a)))) := fun Q k => k
theorem evo_eq (h1 : vk mu x = some p) (h2 : vk mu y = some q) (h : eqOk p q) : EvO oEq x y mu (.py (.bool (PyData.eqv p q))) := fun Q k => by
  unfold oEq oEqB
  rw [h1, h2]
  exact ⟨h, k⟩
theorem evo_ne (h1 : vk mu x = some p) (h2 : vk mu y = some q) (h : eqOk p q) : EvO oNe x y mu (.py (.bool (!PyData.eqv p q))) := fun Q k => by
  unfold oNe oEqB
  rw [h1, h2]
  exact ⟨h, k⟩
theorem eqv_int : PyData.eqv (.int a) (.int b) = decide (a = b) := by
  rw [Bool.eq_iff_iff]
  simp [PyData.eqv]
theorem eqv_str : PyData.eqv (.str s) (.str t) = decide (s = t) := by
  rw [Bool.eq_iff_iff]
  simp [PyData.eqv]
theorem evo_eqI : EvO oEq (.py (.int a)) (.py (.int b)) mu (.py (.bool (decide (a = b)))) := fun Q k => ⟨.inl rfl, by rw [← eqv_int] at k; exact k⟩
theorem evo_neI : EvO oNe (.py (.int a)) (.py (.int b)) mu (.py (.bool (!decide (a = b)))) := fun Q k => ⟨.inl rfl, by rw [← eqv_int] at k; exact k⟩
theorem evo_eqS : EvO oEq (.py (.str s)) (.py (.str t)) mu (.py (.bool (decide (s = t)))) := fun Q k => ⟨.inl rfl, by rw [← eqv_str] at k; exact k⟩
theorem evo_neS : EvO oNe (.py (.str s)) (.py (.str t)) mu (.py (.bool (!decide (s = t)))) := fun Q k => ⟨.inl rfl, by rw [← eqv_str] at k; exact k⟩
theorem evo_isN : EvO oIsN x (.py .none) mu (.py (.bool (isNon x))) := fun Q k => k
theorem evo_notN : EvO oNotN x (.py .none) mu (.py (.bool (!isNon x))) := fun Q k => k
theorem evo_ixL {i : Int} (h : atI ds i = some p) : EvO oIx (.py (.list ds)) (.py (.int i)) mu (.py p) := fun Q k => by
  unfold oIx
  show (match atI ds i with | some d => Q (.py d) mu | none => False)
  rw [h]
  exact k
theorem evo_ixT {i : Int} (h : atI ds i = some p) : EvO oIx (.py (.tuple ds)) (.py (.int i)) mu (.py p) := fun Q k => by
  unfold oIx
  show (match atI ds i with | some d => Q (.py d) mu | none => False)
  rw [h]
  exact k
theorem evo_ixO {i : Int} {j : Nat} (hj : mu[j]? = some (.lst ds)) (h : atI ds i = some p) : EvO oIx (.op j) (.py (.int i)) mu (.py p) := fun Q k => by
  unfold oIx
  have e : vk mu (.op j) = some (.list ds) := by simp [vk, vw, hj]
  rw [e]
  show (match atI ds i with | some d => Q (.py d) mu | none => False)
  rw [h]
  exact k
theorem evo_ixS {i : Int} {c : Nat} (hz : s.length ≤ sizeLine) (h : atI s.cps.toList i = some c) : EvO oIx (.py (.str s)) (.py (.int i)) mu (.py (.str ⟨#[c]⟩)) := fun Q k => by
  unfold oIx
  refine ⟨hz, ?_⟩
  show (match atI s.cps.toList i with | some d => Q (.py (.str ⟨#[d]⟩)) mu | none => False)
  rw [h]
  exact k
theorem evo_inC {c : Nat} : EvO oIn (.py (.str ⟨#[c]⟩)) (.py (.str s)) mu (.py (.bool (decide (c ∈ s.cps.toList)))) := fun Q k => ⟨c, rfl, k⟩
theorem evo_inL (h : (flatD p = true ∧ ds.all flatD = true) ∨ (SeqAt.shaped p = true ∧ SeqAt.shaped (.list ds) = true)) : EvO oIn (.py p) (.py (.list ds)) mu (.py (.bool (inD p ds))) := fun Q k => by
  cases p <;> exact ⟨h, k⟩
theorem evo_inT (h : flatD p = true ∧ ds.all flatD = true) : EvO oIn (.py p) (.py (.tuple ds)) mu (.py (.bool (inD p ds))) := fun Q k => by
  cases p <;> exact ⟨h, k⟩
theorem evo_notinL (h : (flatD p = true ∧ ds.all flatD = true) ∨ (SeqAt.shaped p = true ∧ SeqAt.shaped (.list ds) = true)) : EvO oNotIn (.py p) (.py (.list ds)) mu (.py (.bool (!inD p ds))) := fun Q k => by
  cases p <;> exact ⟨h, k⟩
theorem evo_notinT (h : flatD p = true ∧ ds.all flatD = true) : EvO oNotIn (.py p) (.py (.tuple ds)) mu (.py (.bool (!inD p ds))) := fun Q k => by
  cases p <;> exact ⟨h, k⟩
theorem evo_rep {i : Int} (h : -(2 ^ 63) ≤ i ∧ i < 2 ^ 63 ∧ ds.length * i.toNat ≤ sizeLine) : EvO (oRep false) (.py (.list ds)) (.py (.int i)) mu (.py (.list (List.replicate i.toNat ds).flatten)) := fun Q k => ⟨h, k⟩
theorem ev_chain {b1 b2 : Bool} (ha : Ev ta rho mu x) (hb : Ev tb rho mu y) (h1 : EvO o x y mu (.py (.bool b1))) (hc : b1 = true → Ev tc rho mu z) (h2 : b1 = true → EvO o' y z mu (.py (.bool b2))) : Ev (dChain o o' ta tb tc) rho mu (.py (.bool (b1 && b2))) := fun Q Z k => by
  refine ha _ _ (hb _ _ (h1 _ ?_))
  show (if b1 = true then _ else _)
  cases b1 with
  | true => rw [if_pos rfl]; exact hc rfl _ _ (h2 rfl _ k)
  | false => rw [if_neg Bool.false_ne_true]; exact k
theorem ev_not {b : Bool} (h : Ev ta rho mu (.py (.bool b))) : Ev (dNotV ta) rho mu (.py (.bool (!b))) := fun Q Z k => h _ _ k
theorem ev_neg {i : Int} (h : Ev ta rho mu (.py (.int i))) : Ev (dNeg ta) rho mu (.py (.int (-i))) := fun Q Z k => h _ _ k
theorem ev_and {b1 b2 : Bool} (h1 : Ev ta rho mu (.py (.bool b1))) (h2 : b1 = true → Ev tb rho mu (.py (.bool b2))) : Ev (dAndV ta tb) rho mu (.py (.bool (b1 && b2))) := fun Q Z k => by
  refine h1 _ _ ?_
  show (if b1 = true then _ else _)
  cases b1 with
  | true => rw [if_pos rfl]; exact h2 rfl _ _ k
  | false => rw [if_neg Bool.false_ne_true]; exact k
theorem ev_or {b1 b2 : Bool} (h1 : Ev ta rho mu (.py (.bool b1))) (h2 : b1 = false → Ev tb rho mu (.py (.bool b2))) : Ev (dOrV ta tb) rho mu (.py (.bool (b1 || b2))) := fun Q Z k => by
  refine h1 _ _ ?_
  show (if b1 = true then _ else _)
  cases b1 with
  | true => rw [if_pos rfl]; exact k
  | false => rw [if_neg Bool.false_ne_true]; exact h2 rfl _ _ k
theorem ev_if {c : TDB} {b : Bool} (hc : EvB c rho mu b) (h1 : b = true → Ev ta rho mu (.py p)) (h2 : b = false → Ev tb rho mu (.py q)) : Ev (dIf c ta tb) rho mu (.py (if b = true then p else q)) := fun Q Z k => by
  refine hc _ _ ?_
  cases b with
  | true => rw [if_pos rfl] at k ⊢; exact h1 rfl _ _ k
  | false => rw [if_neg Bool.false_ne_true] at k ⊢; exact h2 rfl _ _ k
/-! tests -/
theorem evb_tb {b : Bool} (h : Ev ta rho mu (.py (.bool b))) : EvB (dTb ta) rho mu b := fun Q Z k => h _ _ k
theorem evb_not {t : TDB} {b : Bool} (h : EvB t rho mu b) : EvB (dNot t) rho mu (!b) := fun Q Z k => h _ _ k
theorem evb_and {t u : TDB} {b1 b2 : Bool} (h1 : EvB t rho mu b1) (h2 : b1 = true → EvB u rho mu b2) : EvB (dAnd t u) rho mu (b1 && b2) := fun Q Z k => by
  refine h1 _ _ ?_
  cases b1 with
  | true => rw [if_pos rfl]; exact h2 rfl _ _ k
  | false => rw [if_neg Bool.false_ne_true]; exact k
theorem evb_or {t u : TDB} {b1 b2 : Bool} (h1 : EvB t rho mu b1) (h2 : b1 = false → EvB u rho mu b2) : EvB (dOr t u) rho mu (b1 || b2) := fun Q Z k => by
  refine h1 _ _ ?_
  cases b1 with
  | true => rw [if_pos rfl]; exact k
  | false => rw [if_neg Bool.false_ne_true]; exact h2 rfl _ _ k
def truB (mu : List Cell) (d : D) : Option Bool := match vw mu d with
  | some .none => some false
  | some (.bool b) => some b
  | some (.int i) => some (i != 0)
  | some (.str x) => if x.length ≤ sizeLine then some ((x.length : Int) != 0) else none
  | some (.list ds) => some (!ds.isEmpty)
  | some (.tuple ds) => some (!ds.isEmpty)
  | _ => none
theorem evb_tru {b : Bool} (h : Ev ta rho mu d) (e : truB mu d = some b) : EvB (dTru ta) rho mu b := fun Q Z k => by
  refine h _ _ ?_
  unfold tru
  unfold truB at e
  cases hv : vw mu d with
  | none => simp [hv] at e
  | some v =>
    rw [hv] at e
    cases v with
    | str x =>
      simp only at e ⊢
      split at e
      · rename_i hx
        cases e
        exact ⟨hx, k⟩
      · cases e
    | dict _ => cases e
    | _ => cases e; exact k
theorem evb_yes : EvB dYes rho mu true := fun Q Z k => k
/-! argument lists -/
theorem eva_nil : EvA dNil rho mu [] := fun Q Z k => k
theorem eva_cons {tr : TDA} {xs : List D} (h : Ev ta rho mu d) (hr : EvA tr rho mu xs) : EvA (dCons ta tr) rho mu (d :: xs) := fun Q Z k => h _ _ (hr _ _ k)
variable {tr : TDA} {xs : List D}
theorem ev_tup (h : EvA tr rho mu xs) (hp : pys xs = some ds) (hl : ds.length ≤ sizeLine) : Ev (dTup tr) rho mu (.py (.tuple ds)) := fun Q Z k => h _ _ (by
  show (match pys xs with | some xs => _ | none => False)
  rw [hp]
  exact ⟨hl, k⟩)
theorem ev_lst (h : EvA tr rho mu xs) (hp : pys xs = some ds) (hl : ds.length ≤ sizeLine) : Ev (dLst false tr) rho mu (.py (.list ds)) := fun Q Z k => h _ _ (by
  show (match pys xs with | some xs => _ | none => False)
  rw [hp]
  exact ⟨hl, k⟩)
theorem ev_cb {f : O1} (h : EvA tr rho mu xs) (hc : EvC f xs mu d) : Ev (dCB f tr) rho mu d := fun Q Z k => h _ _ (hc _ k)
theorem evc_len (h : sqv mu d = some ds) : EvC oLen [d] mu (.py (.int ds.length)) := fun Q k => by
  unfold oLen
  show (match sqv mu d with | some xs => _ | none => _)
  rw [h]
  exact k
theorem evc_lenS (h : s.length ≤ sizeLine) : EvC oLen [.py (.str s)] mu (.py (.int s.length)) := fun Q k => ⟨h, k⟩
theorem evc_abs : EvC oAbs [.py (.int a)] mu (.py (.int (if a < 0 then -a else a))) := fun Q k => k
theorem evc_int : EvC oInt [.py (.int a)] mu (.py (.int a)) := fun Q k => k
theorem evc_intB {b : Bool} : EvC oInt [.py (.bool b)] mu (.py (.int (if b then 1 else 0))) := fun Q k => k
theorem evc_max2 : EvC oMax2 [.py (.int a), .py (.int b)] mu (.py (.int (max a b))) := fun Q k => k
theorem evc_min2 : EvC oMin2 [.py (.int a), .py (.int b)] mu (.py (.int (min a b))) := fun Q k => k
theorem evc_strI (h : a.natAbs.log2 < 1920) : EvC oStrI [.py (.int a)] mu (.py (.str (toString a))) := fun Q k => ⟨h, k⟩
theorem evc_list (h : sqv mu d = some ds) : EvC (oList false) [d] mu (.py (.list ds)) := fun Q k => by
  unfold oList
  show (match sqv mu d with | some xs => _ | none => _)
  rw [h]
  exact k
theorem evc_tupleL (h : vw mu d = some (.list ds)) : EvC oTuple [d] mu (.py (.tuple ds)) := fun Q k => by
  unfold oTuple
  show (match vw mu d with | some (.list xs) => _ | some (.tuple xs) => _ | _ => _)
  rw [h]
  exact k
theorem evc_tupleT (h : vw mu d = some (.tuple ds)) : EvC oTuple [d] mu (.py (.tuple ds)) := fun Q k => by
  unfold oTuple
  show (match vw mu d with | some (.list xs) => _ | some (.tuple xs) => _ | _ => _)
  rw [h]
  exact k
theorem evc_bools {f : List Bool → Bool} {bs : List Bool} (h : vw mu d = some (.list (bs.map .bool))) : EvC (oBools f) [d] mu (.py (.bool (f bs))) := fun Q k => by
  unfold oBools
  show (match vw mu d with | some (.list xs) => _ | _ => False)
  rw [h]
  show (match boolsOf (bs.map PyData.bool) with | some bs => _ | none => False)
  rw [boolsOf_map]
  exact k
theorem evc_sum {bs : List Int} (h : vw mu d = some (.list (bs.map .int))) : EvC oSum [d] mu (.py (.int bs.sum)) := fun Q k => by
  unfold oSum
  show (match vw mu d with | some (.list xs) => _ | _ => False)
  rw [h]
  show (match intsOf (bs.map PyData.int) with | some bs => _ | none => False)
  rw [intsOf_map]
  exact k
theorem evp_none : EvP dNoPart rho mu none := fun Q Z k => k
theorem evp_some {i : Int} (h : Ev ta rho mu (.py (.int i))) : EvP (dPart ta) rho mu (some i) := fun Q Z k => h _ _ k
theorem ev_slT {tl th : TDO} {lo hi : Option Int} (h : Ev ta rho mu x) (hv : vw mu x = some (.tuple ds)) (hl : EvP tl rho mu lo) (hh : EvP th rho mu hi) : Ev (dSl false ta tl th) rho mu (.py (.tuple (cutD ds lo hi))) := fun Q Z k => h _ _ (hl _ _ (hh _ _ (by
  show (match vw mu x with | some (.list ds) => _ | some (.tuple ds) => _ | some (.str z) => _ | _ => False)
  rw [hv]
  exact k)))
theorem ev_slL {tl th : TDO} {lo hi : Option Int} (h : Ev ta rho mu x) (hv : vw mu x = some (.list ds)) (hl : EvP tl rho mu lo) (hh : EvP th rho mu hi) : Ev (dSl false ta tl th) rho mu (.py (.list (cutD ds lo hi))) := fun Q Z k => h _ _ (hl _ _ (hh _ _ (by
  show (match vw mu x with | some (.list ds) => _ | some (.tuple ds) => _ | some (.str z) => _ | _ => False)
  rw [hv]
  exact k)))
theorem ev_slS {tl th : TDO} {lo hi : Option Int} (h : Ev ta rho mu (.py (.str s))) (hl : EvP tl rho mu lo) (hh : EvP th rho mu hi) (hz : s.length ≤ sizeLine) : Ev (dSl false ta tl th) rho mu (.py (.str (cutS s lo hi))) := fun Q Z k => h _ _ (hl _ _ (hh _ _ ⟨hz, k⟩))
theorem ev_m {Ty : String} {om : OM} (h : Ev ta rho mu x) (ht : isTy Ty mu x) (hr : EvA tr rho mu xs) (hm : EvM om x xs mu d) : Ev (dM Ty om ta tr) rho mu d := fun Q Z k => h _ _ ⟨ht, hr _ _ (hm _ k)⟩
theorem evm_join {ys : List Str} (hv : vw mu d = some (.list (ys.map .str))) (hz : (ys.map (·.length)).sum + ys.length * s.length ≤ 16777216) : EvM mJoin (.py (.str s)) [d] mu (.py (.str (Txt.join s ys))) := fun Q k => by
  unfold mJoin
  show (match vw mu d with | some (.list xs) => _ | _ => False)
  rw [hv]
  show (match strsOf (ys.map PyData.str) with | some bs => _ | none => False)
  rw [strsOf_map]
  exact ⟨hz, k⟩
theorem evm_split (h1 : (t.length == 0) = false) (h2 : s.length + 2 ≤ sizeLine) : EvM (mSplit false) (.py (.str s)) [.py (.str t)] mu (.py (.list ((Txt.split s t).map .str))) := fun Q k => ⟨h1, h2, k⟩
theorem evm_sindex {i : Nat} {r : List Nat} (h : Builtin.Str.occurrences s t 0 s.length 1 = i :: r) : EvM mSIndex (.py (.str s)) [.py (.str t)] mu (.py (.int (i : Nat))) := fun Q k => by
  show (match Builtin.Str.occurrences s t 0 s.length 1 with | i :: _ => _ | [] => False)
  rw [h]
  exact k
/-! calls -/
theorem ev_callP {sp : SpP} (h : EvA tr rho mu xs) (hp : pys xs = some ds) (hs : ∀ (q : PyData → Prop) (z : Addr → Prop), q p → sp ds q z) : Ev (dCallP sp tr) rho mu (.py p) := fun Q Z k => h _ _ (by
  show callP sp xs mu Q Z
  unfold callP
  rw [hp]
  exact hs _ _ k)
theorem ev_callL {sp : SpL} (h : EvA tr rho mu xs) (hp : pys xs = some ds) (hs : ∀ (q : List PyData → Prop) (z : Addr → Prop), q es → sp ds q z) : Ev (dCallL false sp tr) rho mu (.py (.list es)) := fun Q Z k => h _ _ (by
  show callL false sp xs mu Q Z
  unfold callL
  rw [hp]
  exact hs _ _ k)
theorem evx_callP {sp : SpP} {C : Addr} (h : EvA tr rho mu xs) (hp : pys xs = some ds) (hs : ∀ (q : PyData → Prop) (z : Addr → Prop), z C → sp ds q z) : EvX (dCallP sp tr) rho mu C := fun Q Z k => h _ _ (by
  show callP sp xs mu Q Z
  unfold callP
  rw [hp]
  exact hs _ _ k)
/-! iterables -/
theorem evi_seqL (h : Ev ta rho mu (.py (.list ds))) : EvI (diSeq ta) rho mu ds (fun _ => True) := fun Q Z k => h _ _ k
theorem evi_seqT (h : Ev ta rho mu (.py (.tuple ds))) : EvI (diSeq ta) rho mu ds (fun _ => True) := fun Q Z k => h _ _ k
theorem evi_seqC (h : Ev ta rho mu (.sc ds)) : EvI (diSeq ta) rho mu ds (fun _ => True) := fun Q Z k => h _ _ k
theorem evi_seqO {j : Nat} (h : Ev ta rho mu (.op j)) (hj : mu[j]? = some (.lst ds)) : EvI (diSeq ta) rho mu ds (fun m => m[j]? = some (.lst ds)) := fun Q Z k => h _ _ (by
  have e : lsv mu (.op j) = some (ds, fun m => m[j]? = some (.lst ds)) := by simp [lsv, hj]
  rw [e]
  exact k)
theorem evi_r1 {j : Int} (h : EvA tr rho mu [.py (.int j)]) (hj : -(2 ^ 62) ≤ j ∧ j < 2 ^ 62) : EvI (diR1 tr) rho mu (rangeD 0 j.toNat 1) tT := fun Q Z k => h _ _ ⟨hj, k⟩
theorem evi_r2 {i j : Int} (h : EvA tr rho mu [.py (.int i), .py (.int j)]) (hj : -(2 ^ 62) ≤ i ∧ i < 2 ^ 62 ∧ -(2 ^ 62) ≤ j ∧ j < 2 ^ 62) : EvI (diR2 tr) rho mu (rangeD i (j - i).toNat 1) tT := fun Q Z k => h _ _ ⟨hj, k⟩
theorem evi_r3 {i j c : Int} {n : Nat} (h : EvA tr rho mu [.py (.int i), .py (.int j), .py (.int c)]) (hj : RgC i j c n) : EvI (diR3 tr) rho mu (rangeD i n c) tT := fun Q Z k => h _ _ ⟨n, hj, k⟩
/-! comprehensions that tell a value -/
theorem ev_lc {it : TID} {g : Tgt} {te : TD} {vs : List Nat} {pin : List Cell → Prop} (f : PyData → PyData) (hi : EvI it rho mu ds pin) (hl : ds.length ≤ sizeLine) (hp : pin mu) (hs : ∀ x ∈ ds, ∃ r, tgD g x (wipeD rho vs) = some r ∧ Ev te r mu (.py (f x))) :
    Ev (dLc false it g dYes te vs) rho mu (.py (.list (ds.map f))) := fun Q Z k => hi _ _ ⟨hl, lcL_map f (fun x hx => by
  obtain ⟨r, h1, h2⟩ := hs x hx
  exact ⟨r, h1, fun N hn => h2 _ _ hn⟩) hp k⟩
theorem ev_lcF {it : TID} {g : Tgt} {tt : TDB} {te : TD} {vs : List Nat} {pin : List Cell → Prop} (f : PyData → PyData) (pr : PyData → Bool) (hi : EvI it rho mu ds pin) (hl : ds.length ≤ sizeLine) (hp : pin mu)
    (hs : ∀ x ∈ ds, ∃ r, tgD g x (wipeD rho vs) = some r ∧ EvB tt r mu (pr x) ∧ (pr x = true → Ev te r mu (.py (f x)))) : Ev (dLc false it g tt te vs) rho mu (.py (.list ((ds.filter pr).map f))) := fun Q Z k => hi _ _ ⟨hl, by
  refine lcL_inv (fun i acc m => m = mu ∧ acc = ((ds.take i).filter pr).map f) ⟨rfl, rfl⟩ ?_ ?_
  · rintro i x acc m N hx ⟨rfl, rfl⟩ hn
    refine ⟨hp, ?_⟩
    obtain ⟨r, h1, h2, h3⟩ := hs x (List.mem_of_getElem? hx)
    rw [h1]
    refine h2 _ _ ?_
    have et : ((ds.take (i + 1)).filter pr).map f = ((ds.take i).filter pr).map f ++ (if pr x = true then [f x] else []) := by
      rw [List.take_add_one, hx, List.filter_append, List.map_append]
      by_cases hpx : pr x = true <;> simp [hpx]
    cases hpx : pr x with
    | true =>
      rw [if_pos rfl]
      refine h3 hpx _ _ (hn _ _ ⟨rfl, ?_⟩)
      rw [et, if_pos hpx]
    | false =>
      rw [if_neg Bool.false_ne_true]
      refine hn _ _ ⟨rfl, ?_⟩
      rw [et, hpx]
      simp
  · rintro acc m ⟨rfl, rfl⟩
    rw [List.take_length]
    exact ⟨hp, k⟩⟩
end
/-! ### statements -/
section
variable {rho : DEnv} {mu : List Cell} {d x y : D} {ta te : TD} {E : EndsD} {t u : TSD}
theorem sq (h : t { E with nx := fun rho mu => u E rho mu } rho mu) : dSeq t u E rho mu := h
/-- a statement by what holds behind it -/
theorem sq_by (P : DEnv → List Cell → Prop) (h1 : ∀ N : DEnv → List Cell → Prop, (∀ rho mu, P rho mu → N rho mu) → t { E with nx := N } rho mu) (h2 : ∀ rho mu, P rho mu → u E rho mu) : dSeq t u E rho mu := h1 _ h2
theorem st_set {i : Nat} (h : Ev te rho mu d) (k : E.nx (rho.set i (some d)) mu) : dSet i te E rho mu := h _ _ k
theorem st_ret (h : Ev te rho mu d) (k : E.rt d mu) : dRet te E rho mu := h _ _ k
theorem st_drop (h : Ev te rho mu d) (k : E.nx rho mu) : dDrop te E rho mu := h _ _ k
theorem st_dropX {C : Addr} (h : EvX te rho mu C) (k : E.ex C rho mu) : dDrop te E rho mu := h _ _ k
theorem st_if {c : TDB} {b : Bool} (h : EvB c rho mu b) (h1 : b = true → t E rho mu) (h2 : b = false → u E rho mu) : dIfS c t u E rho mu := h _ _ (by
  cases b with
  | true => rw [if_pos rfl]; exact h1 rfl
  | false => rw [if_neg Bool.false_ne_true]; exact h2 rfl)
/-- xs.append(e), xs a cell -/
theorem st_append {i j : Nat} {ds : List PyData} {p : PyData} (hi : rho[i]? = some (some (.op j))) (hj : mu[j]? = some (.lst ds)) (h : Ev te rho mu (.py p)) (hl : ds.length < sizeLine) (k : E.nx rho (mu.set j (.lst (ds ++ [p])))) : dDrop (dM "list" mAppend (dVar i) (dCons te dNil)) E rho mu := by
  have e : vw mu (.op j) = some (.list ds) := by simp [vw, hj]
  show dVar i rho mu (fun x mu1 => isTy "list" mu1 x ∧ te rho mu1 (fun d mu2 => mAppend x [d] mu2 (fun _ m => E.nx rho m)) (E.xz rho)) (E.xz rho)
  refine ev_var hi _ _ ⟨?_, ?_⟩
  · unfold isTy
    rw [e]
  · refine h _ _ ?_
    show mAppend (.op j) [.py p] mu _
    unfold mAppend
    simp only [hj]
    exact ⟨hl, k⟩
theorem st_extend {i j : Nat} {ds es : List PyData} (hi : rho[i]? = some (some (.op j))) (hj : mu[j]? = some (.lst ds)) (h : Ev te rho mu d) (hd : vw mu d = some (.list es)) (hl : ds.length + es.length ≤ sizeLine) (k : E.nx rho (mu.set j (.lst (ds ++ es)))) :
    dDrop (dM "list" mExtend (dVar i) (dCons te dNil)) E rho mu := by
  have e : vw mu (.op j) = some (.list ds) := by simp [vw, hj]
  show dVar i rho mu (fun x mu1 => isTy "list" mu1 x ∧ te rho mu1 (fun d mu2 => mExtend x [d] mu2 (fun _ m => E.nx rho m)) (E.xz rho)) (E.xz rho)
  refine ev_var hi _ _ ⟨?_, ?_⟩
  · unfold isTy
    rw [e]
  · refine h _ _ ?_
    show mExtend (.op j) [d] mu _
    unfold mExtend
    simp only [hj, hd]
    exact ⟨hl, k⟩
theorem st_lst {i : Nat} {tr : TDA} {xs : List D} {ds : List PyData} (h : EvA tr rho mu xs) (hp : pys xs = some ds) (hl : ds.length ≤ sizeLine) (k : E.nx (rho.set i (some (.op mu.length))) (mu ++ [.lst ds])) : dSet i (dLst true tr) E rho mu := h _ _ (by
  show (match pys xs with | some xs => _ | none => False)
  rw [hp]
  exact ⟨hl, k⟩)
theorem st_setO {i j : Nat} {ds : List PyData} {p : PyData} {n : Nat} {k0 : Int} {ti tv : TD} (hv : Ev tv rho mu (.py p)) (hi : rho[i]? = some (some (.op j))) (hj : mu[j]? = some (.lst ds)) (hk : Ev ti rho mu (.py (.int k0))) (hn : ixN ds.length k0 = some n) (k : E.nx rho (mu.set j (.lst (ds.set n p)))) :
    dAsg tv (gdSub (dVar i) ti) E rho mu := by
  refine hv _ _ ?_
  refine ev_var hi _ _ ?_
  refine hk _ _ ?_
  simp only [hj, hn]
  exact k
/-! dicts -/
theorem ev_dget {td ty : TD} {j : Nat} {kvs : List (PyData × PyData)} {z : Str} {p : PyData} (ho : Ev td rho mu (.op j)) (hj : mu[j]? = some (.dk kvs)) (hk : Ev ty rho mu (.py (.str z))) (h : lkD kvs (.str z) = some p) : Ev (dDGet td ty) rho mu (.py p) := fun Q Z k => ho _ _ (hk _ _ (by
  have e : dcK mu (.op j) = some kvs := by simp [dcK, hj]
  unfold oLook
  show (match dcK mu (.op j) with | some kvs => _ | none => False)
  rw [e]
  show (match lkD kvs (.str z) with | some d => _ | none => False)
  rw [h]
  exact k))
theorem ev_dgetI {td ty : TD} {j : Nat} {kvs : List (PyData × PyData)} {z : Int} {p : PyData} (ho : Ev td rho mu (.op j)) (hj : mu[j]? = some (.dk kvs)) (hk : Ev ty rho mu (.py (.int z))) (h : lkD kvs (.int z) = some p) : Ev (dDGet td ty) rho mu (.py p) := fun Q Z k => ho _ _ (hk _ _ (by
  have e : dcK mu (.op j) = some kvs := by simp [dcK, hj]
  unfold oLook
  show (match dcK mu (.op j) with | some kvs => _ | none => False)
  rw [e]
  show (match lkD kvs (.int z) with | some d => _ | none => False)
  rw [h]
  exact k))
theorem st_dput {td ty tv : TD} {j : Nat} {kvs : List (PyData × PyData)} {z : Str} {p : PyData} (hv : Ev tv rho mu (.py p)) (ho : Ev td rho mu (.op j)) (hj : mu[j]? = some (.dk kvs)) (hk : Ev ty rho mu (.py (.str z))) (hl : kvs.length < sizeLine) (k : E.nx rho (mu.set j (.dk (stD kvs (.str z) p)))) : dDPut td ty tv E rho mu := by
  refine hv _ _ (ho _ _ (hk _ _ ?_))
  show putC mu (.op j) (.py (.str z)) p fun mu4 => E.nx rho mu4
  unfold putC
  simp only [hj]
  exact ⟨hl, k⟩
theorem st_dputI {td ty tv : TD} {j : Nat} {kvs : List (PyData × PyData)} {z : Int} {p : PyData} (hv : Ev tv rho mu (.py p)) (ho : Ev td rho mu (.op j)) (hj : mu[j]? = some (.dk kvs)) (hk : Ev ty rho mu (.py (.int z))) (hl : kvs.length < sizeLine) (k : E.nx rho (mu.set j (.dk (stD kvs (.int z) p)))) : dDPut td ty tv E rho mu := by
  refine hv _ _ (ho _ _ (hk _ _ ?_))
  show putC mu (.op j) (.py (.int z)) p fun mu4 => E.nx rho mu4
  unfold putC
  simp only [hj]
  exact ⟨hl, k⟩
theorem set_get {j : Nat} {c c' : Cell} (h : mu[j]? = some c) : (mu.set j c')[j]? = some c' := by
  obtain ⟨h1, _⟩ := List.getElem?_eq_some_iff.mp h
  simp [h1]
theorem set_set {j : Nat} {c c' : Cell} : (mu.set j c).set j c' = mu.set j c' := by rw [List.set_set]
/-! a statement, then the rest -/
theorem sq_set {i : Nat} (h : Ev te rho mu d) (k : u E (rho.set i (some d)) mu) : dSeq (dSet i te) u E rho mu := h _ _ k
theorem sq_drop (h : Ev te rho mu d) (k : u E rho mu) : dSeq (dDrop te) u E rho mu := h _ _ k
theorem sq_dropX {C : Addr} (h : EvX te rho mu C) (k : E.ex C rho mu) : dSeq (dDrop te) u E rho mu := h _ _ k
theorem sq_lst {i : Nat} {tr : TDA} {xs : List D} {ds : List PyData} (h : EvA tr rho mu xs) (hp : pys xs = some ds) (hl : ds.length ≤ sizeLine) (k : u E (rho.set i (some (.op mu.length))) (mu ++ [.lst ds])) : dSeq (dSet i (dLst true tr)) u E rho mu := st_lst h hp hl k
theorem sq_append {i j : Nat} {ds : List PyData} {p : PyData} (hi : rho[i]? = some (some (.op j))) (hj : mu[j]? = some (.lst ds)) (h : Ev te rho mu (.py p)) (hl : ds.length < sizeLine) (k : u E rho (mu.set j (.lst (ds ++ [p])))) : dSeq (dDrop (dM "list" mAppend (dVar i) (dCons te dNil))) u E rho mu := st_append hi hj h hl k
theorem sq_extend {i j : Nat} {ds es : List PyData} (hi : rho[i]? = some (some (.op j))) (hj : mu[j]? = some (.lst ds)) (h : Ev te rho mu d) (hd : vw mu d = some (.list es)) (hl : ds.length + es.length ≤ sizeLine) (k : u E rho (mu.set j (.lst (ds ++ es)))) : dSeq (dDrop (dM "list" mExtend (dVar i) (dCons te dNil))) u E rho mu := st_extend hi hj h hd hl k
theorem sq_dput {td ty tv : TD} {j : Nat} {kvs : List (PyData × PyData)} {z : Str} {p : PyData} (hv : Ev tv rho mu (.py p)) (ho : Ev td rho mu (.op j)) (hj : mu[j]? = some (.dk kvs)) (hk : Ev ty rho mu (.py (.str z))) (hl : kvs.length < sizeLine) (k : u E rho (mu.set j (.dk (stD kvs (.str z) p)))) : dSeq (dDPut td ty tv) u E rho mu := st_dput hv ho hj hk hl k
/-- if c: (an end) -/
theorem sq_if {t2 : TSD} {c : TDB} {b : Bool} (h : EvB c rho mu b) (h1 : b = true → t { E with nx := fun rho mu => u E rho mu } rho mu) (h2 : b = false → t2 { E with nx := fun rho mu => u E rho mu } rho mu) : dSeq (dIfS c t t2) u E rho mu := st_if h h1 h2
theorem sq_guard {c : TDB} {b : Bool} (h : EvB c rho mu b) (h1 : b = true → t { E with nx := fun rho mu => u E rho mu } rho mu) (h2 : b = false → u E rho mu) : dSeq (dIfS c t dNext) u E rho mu := st_if h h1 h2
/-- for: an invariant -/
theorem sq_for {it : TID} {g : Tgt} {b : TSD} {xs : List PyData} {pin : List Cell → Prop} (hi : EvI it rho mu xs pin) (I : Nat → DEnv → List Cell → Prop) (h0 : I 0 rho mu)
    (hs : ∀ (i : Nat) (x : PyData) (rho : DEnv) (mu : List Cell) (N : DEnv → List Cell → Prop), xs[i]? = some x → I i rho mu → (∀ rho mu, I (i + 1) rho mu → N rho mu) → pin mu ∧ match tgD g x rho with
      | some r => b { E with nx := N, ct := N, bk := fun rho mu => u E rho mu } r mu
      | none => False)
    (hp : ∀ rho mu, I xs.length rho mu → pin mu) (k : ∀ rho mu, I xs.length rho mu → u E rho mu) : dSeq (dFor it g b) u E rho mu :=
  hi _ _ (forL_inv I h0 hs fun rho mu h => ⟨hp rho mu h, k rho mu h⟩)
/-! displays of dicts -/
def EvPs (trs : List (TD × TD)) (rho : DEnv) (mu : List Cell) (ds : List (PyData × PyData)) : Prop := ∀ (Q : List (PyData × PyData) → List Cell → Prop) (Z : QX), Q ds mu → dPairs trs rho mu Q Z
theorem evps_nil : EvPs [] rho mu [] := fun Q Z k => k
theorem evps_cons {tk tv : TD} {a b : PyData} {r : List (TD × TD)} {ds : List (PyData × PyData)} (hk : Ev tk rho mu (.py a)) (hv : Ev tv rho mu (.py b)) (hr : EvPs r rho mu ds) : EvPs ((tk, tv) :: r) rho mu ((a, b) :: ds) := fun Q Z k => hk _ _ (hv _ _ (hr _ _ k))
theorem st_retDisp {trs : List (TD × TD)} {ds : List (PyData × PyData)} (h : EvPs trs rho mu ds) (hk : (ds.all fun p => (kOf p.1).isSome) = true) (hl : ds.length ≤ 15) (k : E.rt (.op mu.length) (mu ++ [.dk (mergeD [] ds)])) : dRet (dDisp true trs) E rho mu := h _ _ ⟨⟨hk, hl⟩, k⟩
/-- while: an invariant with a measure -/
theorem sq_while {c : TDB} {b : TSD} (I : Nat → DEnv → List Cell → Prop) (m0 : Nat) (h0 : I m0 rho mu)
    (hs : ∀ (m : Nat) (rho : DEnv) (mu : List Cell), I m rho mu → ∃ bb, EvB c rho mu bb ∧ (bb = true → ∀ N : DEnv → List Cell → Prop, (∀ m' rho mu, m' < m → I m' rho mu → N rho mu) → b { E with nx := N, ct := N, bk := fun rho mu => u E rho mu } rho mu) ∧ (bb = false → u E rho mu)) :
    dSeq (dWhile c b) u E rho mu := ⟨I, ⟨m0, h0⟩, fun m rho mu hI => by
  obtain ⟨bb, h1, h2, h3⟩ := hs m rho mu hI
  refine h1 _ _ ?_
  cases bb with
  | true => rw [if_pos rfl]; exact h2 rfl _ fun m' rho mu h h' => ⟨m', h, h'⟩
  | false => rw [if_neg Bool.false_ne_true]; exact h3 rfl⟩
/-! calls whose answer is not told by a function -/
theorem callP_go {sp : SpP} {xs : List D} {ds : List PyData} {Q : QD} {Z : QX} (hp : pys xs = some ds) (k : sp ds (fun x => Q (.py x) mu) (fun C => Z C mu)) : callP sp xs mu Q Z := by
  unfold callP
  rw [hp]
  exact k
theorem st_retP {sp : SpP} {tr : TDA} {xs : List D} {ds : List PyData} (h : EvA tr rho mu xs) (hp : pys xs = some ds) (k : sp ds (fun x => E.rt (.py x) mu) (fun C => E.ex C rho mu)) : dRet (dCallP sp tr) E rho mu := h _ _ (callP_go (Q := E.rt) (Z := E.xz rho) hp k)
theorem st_setP {sp : SpP} {tr : TDA} {xs : List D} {ds : List PyData} {i : Nat} (h : EvA tr rho mu xs) (hp : pys xs = some ds) (k : sp ds (fun x => E.nx (rho.set i (some (.py x))) mu) (fun C => E.ex C rho mu)) : dSet i (dCallP sp tr) E rho mu := h _ _ (callP_go (Q := fun d mu1 => E.nx (rho.set i (some d)) mu1) (Z := E.xz rho) hp k)
theorem sq_setP {sp : SpP} {tr : TDA} {xs : List D} {ds : List PyData} {i : Nat} (h : EvA tr rho mu xs) (hp : pys xs = some ds) (k : sp ds (fun x => u E (rho.set i (some (.py x))) mu) (fun C => E.ex C rho mu)) : dSeq (dSet i (dCallP sp tr)) u E rho mu := st_setP h hp k
/-! one step into a construct, for values that are not told by a function -/
section
variable {Q : QD} {Z : QX} {QAs : QA} {o : O2} {tb : TD} {tr : TDA} {i : Nat}
theorem go_set (h : te rho mu (fun d mu1 => u E (rho.set i (some d)) mu1) (fun C m => E.ex C rho m)) : dSeq (dSet i te) u E rho mu := h
theorem go_setL (h : te rho mu (fun d mu1 => E.nx (rho.set i (some d)) mu1) (fun C m => E.ex C rho m)) : dSet i te E rho mu := h
theorem go_ret (h : te rho mu E.rt (fun C m => E.ex C rho m)) : dRet te E rho mu := h
theorem go_op (h : ta rho mu (fun x mu1 => tb rho mu1 (fun y mu2 => o x y mu2 Q) Z) Z) : dOp o ta tb rho mu Q Z := h
theorem go_cb {f : O1} (h : tr rho mu (fun ds mu1 => f ds mu1 Q) Z) : dCB f tr rho mu Q Z := h
theorem go_cons (h : ta rho mu (fun d mu1 => tr rho mu1 (fun ds mu2 => QAs (d :: ds) mu2) Z) Z) : dCons ta tr rho mu QAs Z := h
theorem go_nil (h : QAs [] mu) : dNil rho mu QAs Z := h
theorem go_callA {sd : SpD} (h : tr rho mu (fun ds mu1 => sd ds mu1 Q Z) Z) : dCallA sd tr rho mu Q Z := h
theorem go_lc {c : Bool} {it : TID} {g : Tgt} {tt : TDB} {vs : List Nat} (h : it rho mu (fun xs pin mu1 => xs.length ≤ sizeLine ∧ lcL g tt te (wipeD rho vs) pin (fun acc mu2 => rst c acc mu2 Q) xs [] mu1) Z) : dLc c it g tt te vs rho mu Q Z := h
theorem go_r1 {Qi : QI} (h : tr rho mu (fun ds mu1 => match ds with
  | [.py (.int j)] => (-(2 ^ 62) ≤ j ∧ j < 2 ^ 62) ∧ Qi (rangeD 0 j.toNat 1) tT mu1
  | _ => False) Z) : diR1 tr rho mu Qi Z := h
theorem go_for {it : TID} {g : Tgt} {b : TSD} (h : it rho mu (fun xs pin mu1 => dForL g b { E with nx := fun rho mu => u E rho mu } pin xs rho mu1) (fun C m => E.ex C rho m)) : dSeq (dFor it g b) u E rho mu := h
theorem go_lst {c : Bool} (h : tr rho mu (fun ds mu1 => match pys ds with
  | some xs => xs.length ≤ sizeLine ∧ rst c xs mu1 Q
  | none => False) Z) : dLst c tr rho mu Q Z := h
theorem go_tup (h : tr rho mu (fun ds mu1 => match pys ds with
  | some xs => xs.length ≤ sizeLine ∧ Q (.py (.tuple xs)) mu1
  | none => False) Z) : dTup tr rho mu Q Z := h
theorem go_sl {c : Bool} {tl th : TDO} (h : ta rho mu (fun x mu1 => tl rho mu1 (fun lo mu2 => th rho mu2 (fun hi mu3 => match vw mu3 x with
  | some (.list ds) => rst c (cutD ds lo hi) mu3 Q
  | some (.tuple ds) => Q (.py (.tuple (cutD ds lo hi))) mu3
  | some (.str z) => z.length ≤ sizeLine ∧ Q (.py (.str (cutS z lo hi))) mu3
  | _ => False) Z) Z) Z) : dSl c ta tl th rho mu Q Z := h
theorem go_asg {g : TGD} (h : te rho mu (fun d mu1 => g d rho mu1 E.nx noX) (fun C m => E.ex C rho m)) : dAsg te g E rho mu := h
theorem go_sub {tk : TD} {p : PyData} {Qr : DEnv → List Cell → Prop} {j : Nat} {P : QX} (hi : rho[i]? = some (some (.op j))) (h : tk rho mu (fun k mu2 => match k with
  | .py (.int k) => match mu2[j]? with
    | some (.lst ds) => match ixN ds.length k with
      | some n => Qr rho (mu2.set j (.lst (ds.set n p)))
      | none => False
    | _ => False
  | _ => False) P) : gdSub (dVar i) tk (.py p) rho mu Qr P := by
  unfold gdSub
  refine ev_var hi _ _ ?_
  refine cast ?_ h
  congr 1
  funext k mu2
  cases k with
  | py k => cases k <;> rfl
  | _ => rfl
/-- the items of a range, as an invariant -/
theorem forL_end {g : Tgt} {b : TSD} {xs : List PyData} {pin : List Cell → Prop} (I : Nat → DEnv → List Cell → Prop) (h0 : I 0 rho mu)
    (hs : ∀ (i : Nat) (x : PyData) (rho : DEnv) (mu : List Cell) (N : DEnv → List Cell → Prop), xs[i]? = some x → I i rho mu → (∀ rho mu, I (i + 1) rho mu → N rho mu) → pin mu ∧ match tgD g x rho with
      | some r => b { E with nx := N, ct := N, bk := fun rho mu => u E rho mu } r mu
      | none => False)
    (hp : ∀ rho mu, I xs.length rho mu → pin mu) (k : ∀ rho mu, I xs.length rho mu → u E rho mu) : dForL g b { E with nx := fun rho mu => u E rho mu } pin xs rho mu :=
  forL_inv I h0 hs fun rho mu h => ⟨hp rho mu h, k rho mu h⟩
end
end
end DL
set_option Elab.async false
set_option linter.all false
set_option maxRecDepth 100000
set_option maxHeartbeats 1000000
/-! DL: texts as lists of numbers; cuts; small mathematics. -/
namespace DL
open PySem PySem.Spec PyProof.Rows L2
def mkS (l : List Nat) : Str := ⟨l.toArray⟩
theorem mkS_app (a b : List Nat) : mkS a ++ mkS b = mkS (a ++ b) := Str.ext' (by simp [mkS, Str.cps_append])
theorem mkS_len (a : List Nat) : (mkS a).length = a.length := by simp [mkS, Str.length]
theorem mkS_list (a : List Nat) : (mkS a).cps.toList = a := rfl
theorem mkS_of (s : Str) : mkS s.cps.toList = s := rfl
theorem mkS_inj {a b : List Nat} (h : mkS a = mkS b) : a = b := by
  have := congrArg (fun s : Str => s.cps.toList) h
  exact this
theorem str_list_len (s : Str) : s.length = s.cps.toList.length := by simp [Str.length]
def joinL (s : List Nat) : List (List Nat) → List Nat
  | [] => []
  | [x] => x
  | x :: y :: r => x ++ s ++ joinL s (y :: r)
theorem joinL_cons {s x : List Nat} {r : List (List Nat)} (h : r ≠ []) : joinL s (x :: r) = x ++ s ++ joinL s r := by
  cases r with
  | nil => exact absurd rfl h
  | cons y r => rfl
theorem joinL_nil_sep : ∀ ps : List (List Nat), joinL [] ps = ps.flatten
  | [] => rfl
  | [x] => by simp [joinL]
  | x :: y :: r => by
    rw [joinL, joinL_nil_sep (y :: r)]
    simp
theorem join_mk (s : List Nat) : ∀ ps : List (List Nat), Str.join (mkS s) (ps.map mkS) = mkS (joinL s ps)
  | [] => rfl
  | [x] => rfl
  | x :: y :: r => by
    have ih := join_mk s (y :: r)
    show mkS x ++ mkS s ++ Str.join (mkS s) ((y :: r).map mkS) = _
    rw [ih, mkS_app, mkS_app]
    rfl
theorem tjoin_mk (s : List Nat) (ps : List (List Nat)) : Txt.join (mkS s) (ps.map mkS) = mkS (joinL s ps) := by
  show Builtin.Str.glued _ _ = _
  rw [StrLaws.glued_eq_join, join_mk]
theorem cut_inj {c : Nat} : ∀ {x y a b : List Nat}, c ∉ x → c ∉ y → x ++ c :: a = y ++ c :: b → x = y ∧ a = b
  | [], [], a, b, _, _, h => by simpa using h
  | [], z :: y, a, b, _, hy, h => by
    simp at h hy
    exact absurd h.1 hy.1
  | z :: x, [], a, b, hx, _, h => by
    simp at h hx
    exact absurd h.1.symm hx.1
  | z :: x, w :: y, a, b, hx, hy, h => by
    simp only [List.cons_append, List.cons.injEq] at h
    simp only [List.mem_cons, not_or] at hx hy
    obtain ⟨h1, h2⟩ := cut_inj hx.2 hy.2 h.2
    exact ⟨by rw [h.1, h1], h2⟩
theorem joinL_inj {c : Nat} : ∀ {ps qs : List (List Nat)}, ps ≠ [] → qs ≠ [] → (∀ p ∈ ps, c ∉ p) → (∀ p ∈ qs, c ∉ p) → joinL [c] ps = joinL [c] qs → ps = qs
  | [], _, h, _, _, _, _ => absurd rfl h
  | _ :: _, [], _, h, _, _, _ => absurd rfl h
  | [x], [y], _, _, _, _, h => by simpa [joinL] using h
  | [x], y :: z :: r, _, _, h1, _, h => by
    exfalso
    apply h1 x (by simp)
    have e : x = y ++ [c] ++ joinL [c] (z :: r) := h
    rw [e]
    simp
  | x :: z :: r, [y], _, _, _, h1, h => by
    exfalso
    apply h1 y (by simp)
    have e : x ++ [c] ++ joinL [c] (z :: r) = y := h
    rw [← e]
    simp
  | x :: z :: r, y :: z2 :: r2, _, _, h1, h2, h => by
    have e : x ++ c :: joinL [c] (z :: r) = y ++ c :: joinL [c] (z2 :: r2) := by
      have e : x ++ [c] ++ joinL [c] (z :: r) = y ++ [c] ++ joinL [c] (z2 :: r2) := h
      simpa using e
    obtain ⟨e1, e2⟩ := cut_inj (h1 x (by simp)) (h2 y (by simp)) e
    have ih := joinL_inj (ps := z :: r) (qs := z2 :: r2) (by simp) (by simp) (fun p hp => h1 p (by simp at hp ⊢; exact .inr hp)) (fun p hp => h2 p (by simp at hp ⊢; exact .inr hp)) e2
    rw [e1, ih]
/-- a text of pieces without the sign, split at it -/
theorem split_mk {c : Nat} {ps : List (List Nat)} (h0 : ps ≠ []) (h : ∀ p ∈ ps, c ∉ p) : Txt.split (mkS (joinL [c] ps)) (mkS [c]) = ps.map mkS := by
  have h1 := StrLaws.join_split (mkS (joinL [c] ps)) (mkS [c])
  have h2 := StrLaws.split_free (mkS (joinL [c] ps)) c
  have h3 := PyProof.Rows.split_pos (mkS (joinL [c] ps)) (mkS [c])
  have em : Txt.split (mkS (joinL [c] ps)) (mkS [c]) = ((Txt.split (mkS (joinL [c] ps)) (mkS [c])).map fun s => s.cps.toList).map mkS := by
    rw [List.map_map]
    exact (List.map_id _).symm
  generalize hq : (Txt.split (mkS (joinL [c] ps)) (mkS [c])).map (fun s => s.cps.toList) = qs at em
  rw [em, join_mk] at h1
  have h1 := mkS_inj h1
  have q0 : qs ≠ [] := by
    intro z
    rw [em, z] at h3
    simp at h3
  have qf : ∀ p ∈ qs, c ∉ p := by
    intro p hp
    rw [← hq] at hp
    obtain ⟨s, hs, rfl⟩ := List.mem_map.mp hp
    exact h2 s hs
  rw [em, joinL_inj q0 h0 qf h h1]
theorem subAt_mk {x y : List Nat} {i : Nat} : Builtin.Str.subAt (mkS x) (mkS y) i = ((x.drop i).take y.length == y) := by
  rw [StrLaws.subAt_eq]
  simp [mkS_list, mkS_len]
/-- the first piece, at two equal signs -/
theorem split2_head {c : Nat} {t r : List Nat} (hc : c < 256) (h : ∀ k, k < t.length → ((t ++ c :: c :: r).drop k).take 2 ≠ [c, c]) : (Txt.split (mkS (t ++ c :: c :: r)) (mkS [c, c]))[0]? = some (mkS t) := by
  have hp := PyProof.Rows.split_pos (mkS (t ++ c :: c :: r)) (mkS [c, c])
  cases hz : (Txt.split (mkS (t ++ c :: c :: r)) (mkS [c, c]))[0]? with
  | none =>
    have := List.getElem?_eq_none_iff.mp hz
    omega
  | some z =>
    have hk : Builtin.Str.strKind (mkS [c, c]) = 1 := by simp [Builtin.Str.strKind, mkS, hc]
    have here : StrLaws.At (mkS (t ++ c :: c :: r)) (mkS [c, c]) (mkS (t ++ c :: c :: r)).length t.length := by
      refine ⟨by simp [mkS_len], ?_⟩
      rw [subAt_mk]
      simp
    rcases PyProof.Rows.split_head _ _ hk z hz with ⟨_, h2⟩ | ⟨i, rfl, h1, h2⟩
    · exact absurd here (h2 _)
    · have e : i = t.length := by
        rcases Nat.lt_trichotomy i t.length with q | q | q
        · exfalso
          refine h i q ?_
          have := h1.2
          rw [subAt_mk] at this
          exact eq_of_beq this
        · exact q
        · exact absurd here (h2 _ q)
      subst e
      refine congrArg some (Str.ext' (Array.toList_inj.mp ?_))
      rw [StrLaws.strSub_toList]
      simp [mkS_list]
/-! cuts -/
theorem cut_nn (ds : List PyData) (a b : Nat) : cutD ds (some (a : Int)) (some (b : Int)) = (ds.drop a).take (b - a) := by
  unfold cutD
  rw [HT.sIx_nat, HT.sIx_nat]
  by_cases ha : a ≤ ds.length
  · rw [Nat.min_eq_left ha]
    by_cases hb : b ≤ ds.length
    · rw [Nat.min_eq_left hb]
    · rw [show min b ds.length = ds.length by omega]
      rw [List.take_of_length_le (by simp), List.take_of_length_le (by simp; omega)]
  · rw [show min a ds.length = ds.length by omega, List.drop_length, List.drop_of_length_le (by omega)]
    simp
theorem cut_n0 (ds : List PyData) (a : Nat) : cutD ds (some (a : Int)) none = ds.drop a := by
  unfold cutD
  rw [HT.sIx_nat, HT.sIx_none]
  by_cases ha : a ≤ ds.length
  · rw [Nat.min_eq_left ha, List.take_of_length_le (by simp)]
  · rw [Nat.min_eq_right (by omega), List.drop_length, List.drop_of_length_le (by omega)]
    simp
theorem cut_0n (ds : List PyData) (b : Nat) : cutD ds none (some (b : Int)) = ds.take b := by
  unfold cutD
  rw [HT.sIx_nat, HT.sIx_none]
  by_cases hb : b ≤ ds.length
  · rw [Nat.min_eq_left hb]; simp
  · rw [Nat.min_eq_right (by omega), List.take_of_length_le (by simp), List.take_of_length_le (by omega)]
    simp
theorem cut_0m1 (ds : List PyData) : cutD ds none (some (-1)) = ds.dropLast := by
  unfold cutD
  rw [HT.sIx_none, List.dropLast_eq_take]
  show (ds.drop 0).take (((-1 : Int) + (ds.length : Int)).toNat - 0) = _
  congr 1
  omega
theorem cutS_n0 (l : List Nat) (a : Nat) : cutS (mkS l) (some (a : Int)) none = mkS (l.drop a) := by
  unfold cutS
  rw [mkS_len, HT.sIx_nat, HT.sIx_none, mkS_list]
  by_cases ha : a ≤ l.length
  · rw [Nat.min_eq_left ha, List.take_of_length_le (by simp)]
    rfl
  · rw [Nat.min_eq_right (by omega), List.drop_length, List.drop_of_length_le (by omega)]
    simp [mkS]
theorem cutS_0n (l : List Nat) (b : Nat) : cutS (mkS l) none (some (b : Int)) = mkS (l.take b) := by
  unfold cutS
  rw [mkS_len, HT.sIx_nat, HT.sIx_none, mkS_list]
  by_cases hb : b ≤ l.length
  · rw [Nat.min_eq_left hb]; simp [mkS]
  · rw [Nat.min_eq_right (by omega), List.take_of_length_le (by simp), List.take_of_length_le (by omega)]
    simp [mkS]
/-! ranges -/
theorem rgc_pos {n w : Nat} (hw : 1 ≤ w) (hw2 : w < 1073741824) (hn : n < 2 ^ 61) : RgC 0 (n : Int) (w : Int) ((n + w - 1) / w) := by
  refine ⟨by omega, by omega, ?_, ?_⟩
  · have h0 : (0 : Int) ≤ ((n : Int) + w - 1) / w := Int.ediv_nonneg (by omega) (by omega)
    have h1 : ((n : Int) + w - 1) / w ≤ n := by
      have : ((n : Int) + w - 1) / w < n + 1 := Int.ediv_lt_of_lt_mul (by omega) (by
        have h2 : (n : Int) * 1 ≤ n * w := Int.mul_le_mul_of_nonneg_left (by omega) (by omega)
        have h3 : ((n : Int) + 1) * w = n * w + w := by rw [Int.add_mul, Int.one_mul]
        omega)
      omega
    unfold Builtin.Range.small
    rw [rangeSize_pos (by omega) (by omega)]
    generalize ((n : Int) + w - 1) / w = q at h0 h1
    simp only [Builtin.Range.rangeFitsLong, Bool.and_eq_true, Bool.or_eq_true, decide_eq_true_eq, beq_iff_eq, show (w : Int) > 0 by omega, if_true]
    omega
  · rw [rangeSize_pos (by omega) (by omega)]
    have e : ((n : Int) + w - 1) = ((n + w - 1 : Nat) : Int) := by omega
    rw [e]
    rfl
theorem range_get {lo c : Int} {n i : Nat} {x : PyData} (h : (rangeD lo n c)[i]? = some x) : i < n ∧ x = .int (lo + (i : Int) * c) := by
  unfold rangeD at h
  rw [List.getElem?_map] at h
  by_cases hi : i < n
  · rw [List.getElem?_range hi] at h
    exact ⟨hi, (Option.some.inj h).symm⟩
  · rw [List.getElem?_eq_none (by simpa using hi)] at h
    cases h
theorem range_len {lo c : Int} {n : Nat} : (rangeD lo n c).length = n := by simp [rangeD]
/-- a function of ints, on data -/
def fI (g : Int → PyData) : PyData → PyData := fun d => match d with
  | .int i => g i
  | _ => .none
theorem map_fI (g : Int → PyData) (os : List Int) : (os.map PyData.int).map (fI g) = os.map g := by
  rw [List.map_map]; rfl
def fS (g : Str → PyData) : PyData → PyData := fun d => match d with
  | .str i => g i
  | _ => .none
theorem map_fS (g : Str → PyData) (os : List Str) : (os.map PyData.str).map (fS g) = os.map g := by
  rw [List.map_map]; rfl
theorem rstF {ds : List PyData} {mu : List Cell} {Q : QD} (h : Q (.py (.list ds)) mu) : rst false ds mu Q := h
theorem rstT {ds : List PyData} {mu : List Cell} {Q : QD} (h : Q (.op mu.length) (mu ++ [.lst ds])) : rst true ds mu Q := h
theorem go_part {ta : TD} {rho : DEnv} {mu : List Cell} {Q : QO} {Z : QX} (h : ta rho mu (fun d mu1 => match d with
  | .py (.int i) => Q (some i) mu1
  | _ => False) Z) : dPart ta rho mu Q Z := h
theorem ev_ref {t : TD} {m : Addr → Option Bool} {rho : DEnv} {mu : List Cell} {C : Addr} (h : EvX t rho mu C) (hm : m C = some true) : Ev (dRefused m t) rho mu (.py (.bool true)) := fun Q Z k => h _ _ ⟨hm, k⟩
theorem ev_refN {t : TD} {m : Addr → Option Bool} {rho : DEnv} {mu : List Cell} {d : D} (h : Ev t rho mu d) : Ev (dRefused m t) rho mu (.py (.bool false)) := fun Q Z k => h _ _ k
theorem ixN_in {n : Nat} {i : Int} (h0 : 0 ≤ i) (h1 : i < n) : ixN n i = some i.toNat := by
  unfold ixN
  rw [if_pos h0, if_pos h1]
theorem oListT {d : D} {ds : List PyData} {mu : List Cell} {Q : QD} (h : sqv mu d = some ds) (k : Q (.op mu.length) (mu ++ [.lst ds])) : oList true [d] mu Q := by
  unfold oList
  show (match sqv mu d with | some xs => _ | none => _)
  rw [h]
  exact k
end DL
set_option Elab.async false
set_option linter.all false
set_option maxRecDepth 100000
set_option maxHeartbeats 4000000
namespace Law
open PySem PySem.Spec PyProof.Rows L2 DL
structure Cls where
  InvalidText : Addr
structure Mro (K : PySem.W.Frag) (c : Cls) : Prop where
  m_InvalidText_InvalidText : exM K c.InvalidText c.InvalidText = some true
end Law
set_option Elab.async false
set_option linter.all false
set_option maxRecDepth 100000
set_option maxHeartbeats 4000000
namespace Law
open PySem PySem.Spec PyProof.Rows L2 DL
/-! ### what the defs tell -/
def sgn (i : Int) : Nat := if i < 10 then (48 + i).toNat else (87 + i).toNat
def two (o : Int) : List Nat := [sgn (o / 16), sgn (o % 16)]
def place (p : Int) : List Nat := two (p / 256) ++ two (p % 256)
def shw (o : Int) : Nat := if 33 ≤ o ∧ o ≤ 126 then (if o = 37 then 46 else o.toNat) else 46
def told (row : List Int) : List Nat := joinL [32] (row.map two)
def lineL (p : Int) (row : List Int) : List Nat := place p ++ [58, 32] ++ told row ++ [32, 32] ++ row.map shw ++ [10]
def nRows (n w : Nat) : Nat := (n + w - 1) / w
def rowAt (os : List Int) (w k : Nat) : List Int := (os.drop (k * w)).take w
def linesL (os : List Int) (w : Nat) : List (List Nat) := (List.range (nRows os.length w)).map fun k => lineL ((k * w : Nat) : Int) (rowAt os w k)
def dumpL (os : List Int) (w : Nat) : List Nat := (linesL os w).flatten
def octOk (o : Int) : Bool := decide (0 ≤ o) && decide (o ≤ 255)
def okO (os : List Int) (w : Int) : Bool := (decide (1 ≤ w) && decide (w ≤ 32)) && (!decide ((65536 : Int) < (os.length : Int)) && (os.map octOk).all id)
/-! ### promises -/
def sp_law_tape (c : Cls) : SpD := fun ds mu Qd _ => ∃ ns : List Int, ds = [.sc (ns.map .int)] ∧ ns.length ≤ 63 ∧ ∀ kvs, TapeOk kvs → Qd (.op mu.length) (mu ++ [.dk kvs])
def sp_law_take (c : Cls) : SpD := fun ds mu Qd _ => ∃ j kvs many, ds = [.op j, .py (.int many)] ∧ mu[j]? = some (.dk kvs) ∧ TapeOk kvs ∧ 0 < many ∧ many < 1073741824 ∧ ∀ d kvs', 0 ≤ d → d < many → TapeOk kvs' → Qd (.py (.int d)) (mu.set j (.dk kvs'))
def sp_check_octets (c : Cls) : SpP := fun xs q z => ∃ os w, xs = [.tuple (os.map .int), .int w] ∧ os.length ≤ sizeLine ∧ (okO os w = true → q .none) ∧ (okO os w = false → z c.InvalidText)
def sp_two_signs (c : Cls) : SpP := fun xs q _ => ∃ o, xs = [.int o] ∧ 0 ≤ o ∧ o < 256 ∧ q (.str (mkS (two o)))
def sp_place_signs (c : Cls) : SpP := fun xs q _ => ∃ o, xs = [.int o] ∧ 0 ≤ o ∧ o < 65536 ∧ q (.str (mkS (place o)))
def sp_dump_text (c : Cls) : SpP := fun xs q z => ∃ os w, xs = [.tuple (os.map .int), .int w] ∧ os.length ≤ sizeLine ∧ (okO os w = true → q (.str (mkS (dumpL os w.toNat)))) ∧ (okO os w = false → z c.InvalidText)
/-- what is read is the octets whose text it is; other texts are refused -/
def sp_parse_dump (c : Cls) : SpP := fun xs q z => ∃ t w, xs = [.str (mkS t), .int w] ∧ t.length ≤ 100000 ∧ (∀ os, okO os w = true → t = dumpL os w.toNat → q (.tuple (os.map .int))) ∧ ((∀ os, ¬ (okO os w = true ∧ t = dumpL os w.toNat)) → z c.InvalidText)
def sp_law_read (c : Cls) : SpP := fun xs q z => ∃ t w, xs = [.str (mkS t), .int w] ∧ t.length ≤ 100000 ∧ (∀ os, okO os w = true → t = dumpL os w.toNat → q (.tuple (os.map .int))) ∧ ((∀ os, ¬ (okO os w = true ∧ t = dumpL os w.toNat)) → q .none)
def sp_law_signs (c : Cls) : SpP := fun xs q _ => (∃ o, xs = [.int o, .int 4] ∧ 0 ≤ o ∧ o < 65536 ∧ q (.str (mkS (place o)))) ∨ (∃ o, xs = [.int o, .int 2] ∧ 0 ≤ o ∧ o < 256 ∧ q (.str (mkS (two o))))
def sp_law_text (c : Cls) : SpP := fun xs q _ => ∃ os w, xs = [.tuple (os.map .int), .int w] ∧ okO os w = true ∧ q (.str (mkS (dumpL os w.toNat)))
/-- the places at which two rows differ, as stretches -/
def stre (a b : List Int) : Nat → List (Nat × Nat)
  | 0 => []
  | n + 1 => if a[n]? = b[n]? then stre a b n else match (stre a b n).getLast? with
      | some (x, y) => if y = n then (stre a b n).dropLast ++ [(x, n + 1)] else stre a b n ++ [(n, n + 1)]
      | none => stre a b n ++ [(n, n + 1)]
def strP (l : List (Nat × Nat)) : List PyData := l.map fun p => .tuple [.int p.1, .int p.2]
def sp_differences (c : Cls) : SpL := fun xs q _ => ∃ a b, xs = [.tuple (a.map .int), .tuple (b.map .int)] ∧ a.length ≤ 1000 ∧ b.length ≤ 1000 ∧ q (strP (stre a b (max a.length b.length)))
end Law
set_option Elab.async false
set_option linter.all false
set_option maxRecDepth 100000
set_option maxHeartbeats 4000000
namespace Law
open PySem PySem.Spec PyProof.Rows L2 DL
/-! the bodies as readings; printed by law.py -/
def N_check_octets : List Str := ["octets", "width", "octet"]
def N_two_signs : List Str := ["octet"]
def N_place_signs : List Str := ["place"]
def N_dump_text : List Str := ["octets", "width", "lines", "at", "row", "told", "shown", "octet"]
def N_parse_dump : List Str := ["text", "width", "octets", "line", "words", "word"]
def N_law_read : List Str := ["text", "width"]
def N_law_take : List Str := ["tape", "many", "drawn", "mixed"]
def N_law_tape : List Str := ["script", "cells", "seed", "cell"]
def N_law_signs : List Str := ["number", "many", "found", "k"]
def N_law_text : List Str := ["octets", "width", "found", "at", "shown", "row", "octet"]
def N_differences : List Str := ["first", "second", "found", "at"]
def N_law : List Str := ["script", "tape", "width", "octets", "text", "k", "at", "sign", "bent", "told", "other", "stretches", "one", "two"]
def t_check_octets (K : PySem.W.Frag) (c : Cls) : TSD := dIfS (dOr (dNot (dTb (dChain oLe oLe (dC (.int 1)) (dVar 1) (dC (.int 32))))) (dOr (dTb (dOp oGt (dCB oLen (dCons (dVar 0) (dNil))) (dC (.int 65536)))) (dNot (dTru (dCB oAll (dCons (dLc false (diSeq (dVar 0)) (.nm 2) (dYes) (dChain oLe oLe (dC (.int 0)) (dVar 2) (dC (.int 255))) [2]) (dNil))))))) (dRaise c.InvalidText) (dNext)
def t_two_signs (K : PySem.W.Frag) (c : Cls) : TSD := dRet (dOp oAdd (dOp oIx (dC (.str "0123456789abcdef")) (dOp oDiv (dVar 0) (dC (.int 16)))) (dOp oIx (dC (.str "0123456789abcdef")) (dOp oMod (dVar 0) (dC (.int 16)))))
def t_place_signs (K : PySem.W.Frag) (c : Cls) : TSD := dRet (dOp oAdd (dCallP (sp_two_signs c) (dCons (dOp oDiv (dVar 0) (dC (.int 256))) (dNil))) (dCallP (sp_two_signs c) (dCons (dOp oMod (dVar 0) (dC (.int 256))) (dNil))))
def t_dump_text_0 (K : PySem.W.Frag) (c : Cls) : TSD := dDrop (dCallP (sp_check_octets c) (dCons (dVar 0) (dCons (dVar 1) (dNil))))
def t_dump_text_1 (K : PySem.W.Frag) (c : Cls) : TSD := dSet 2 (dLst true (dNil))
def t_dump_text_2 (K : PySem.W.Frag) (c : Cls) : TSD := dFor (diR3 (dCons (dC (.int 0)) (dCons (dCB oLen (dCons (dVar 0) (dNil))) (dCons (dVar 1) (dNil))))) (.nm 3) (dSeq (dSet 4 (dSl false (dVar 0) (dPart (dVar 3)) (dPart (dOp oAdd (dVar 3) (dVar 1))))) (dSeq (dSet 5 (dM "str" mJoin (dC (.str " ")) (dCons (dLc false (diSeq (dVar 4)) (.nm 7) (dYes) (dCallP (sp_two_signs c) (dCons (dVar 7) (dNil))) [7]) (dNil)))) (dSeq (dSet 6 (dM "str" mJoin (dC (.str "")) (dCons (dLc false (diSeq (dVar 4)) (.nm 7) (dYes) (dIf (dTb (dChain oLe oLe (dC (.int 33)) (dVar 7) (dC (.int 126)))) (dOp oIx (dC (.str "!\"#$.&'()*+,-./0123456789:;<=>?@ABCDEFGHIJKLMNOPQRSTUVWXYZ[\\]^_`abcdefghijklmnopqrstuvwxyz{|}~")) (dOp oSub (dVar 7) (dC (.int 33)))) (dC (.str "."))) [7]) (dNil)))) (dDrop (dM "list" mAppend (dVar 2) (dCons (dOp oAdd (dOp oAdd (dOp oAdd (dOp oAdd (dOp oAdd (dCallP (sp_place_signs c) (dCons (dVar 3) (dNil))) (dC (.str ": "))) (dVar 5)) (dC (.str "  "))) (dVar 6)) (dC (.str "\n"))) (dNil)))))))
def t_dump_text_3 (K : PySem.W.Frag) (c : Cls) : TSD := dRet (dM "str" mJoin (dC (.str "")) (dCons (dVar 2) (dNil)))
def t_dump_text (K : PySem.W.Frag) (c : Cls) : TSD := dSeq (t_dump_text_0 K c) (dSeq (t_dump_text_1 K c) (dSeq (t_dump_text_2 K c) (t_dump_text_3 K c)))
def t_parse_dump_0 (K : PySem.W.Frag) (c : Cls) : TSD := dDrop (dCallP (sp_check_octets c) (dCons (dTup (dNil)) (dCons (dVar 1) (dNil))))
def t_parse_dump_1 (K : PySem.W.Frag) (c : Cls) : TSD := dSet 2 (dLst true (dNil))
def t_parse_dump_2 (K : PySem.W.Frag) (c : Cls) : TSD := dFor (diSeq (dSl false (dM "str" (mSplit false) (dVar 0) (dCons (dC (.str "\n")) (dNil))) (dNoPart) (dPart (dC (.int (-1)))))) (.nm 3) (dSeq (dSet 4 (dM "str" (mSplit false) (dOp oIx (dM "str" (mSplit false) (dSl false (dVar 3) (dPart (dC (.int 6))) (dNoPart)) (dCons (dC (.str "  ")) (dNil))) (dC (.int 0))) (dCons (dC (.str " ")) (dNil)))) (dSeq (dIfS (dNot (dTru (dCB oAll (dCons (dLc false (diSeq (dVar 4)) (.nm 5) (dYes) (dAndV (dOp oEq (dCB oLen (dCons (dVar 5) (dNil))) (dC (.int 2))) (dAndV (dOp oIn (dOp oIx (dVar 5) (dC (.int 0))) (dC (.str "0123456789abcdef"))) (dOp oIn (dOp oIx (dVar 5) (dC (.int 1))) (dC (.str "0123456789abcdef"))))) [5]) (dNil))))) (dRaise c.InvalidText) (dNext)) (dDrop (dM "list" mExtend (dVar 2) (dCons (dLc false (diSeq (dVar 4)) (.nm 5) (dYes) (dOp oAdd (dOp oMul (dC (.int 16)) (dM "str" mSIndex (dC (.str "0123456789abcdef")) (dCons (dOp oIx (dVar 5) (dC (.int 0))) (dNil)))) (dM "str" mSIndex (dC (.str "0123456789abcdef")) (dCons (dOp oIx (dVar 5) (dC (.int 1))) (dNil)))) [5]) (dNil))))))
def t_parse_dump_3 (K : PySem.W.Frag) (c : Cls) : TSD := dIfS (dOr (dTb (dOp oGt (dCB oLen (dCons (dVar 2) (dNil))) (dC (.int 65536)))) (dTb (dOp oNe (dCallP (sp_dump_text c) (dCons (dCB oTuple (dCons (dVar 2) (dNil))) (dCons (dVar 1) (dNil)))) (dVar 0)))) (dRaise c.InvalidText) (dNext)
def t_parse_dump_4 (K : PySem.W.Frag) (c : Cls) : TSD := dRet (dCB oTuple (dCons (dVar 2) (dNil)))
def t_parse_dump (K : PySem.W.Frag) (c : Cls) : TSD := dSeq (t_parse_dump_0 K c) (dSeq (t_parse_dump_1 K c) (dSeq (t_parse_dump_2 K c) (dSeq (t_parse_dump_3 K c) (t_parse_dump_4 K c))))
def t_law_read (K : PySem.W.Frag) (c : Cls) : TSD := dTry (exM K c.InvalidText) (dRet (dCallP (sp_parse_dump c) (dCons (dVar 0) (dCons (dVar 1) (dNil))))) (dRet (dC .none))
def t_law_take_0 (K : PySem.W.Frag) (c : Cls) : TSD := dIfS (dAnd (dTb (dOp oEq (dDGet (dVar 0) (dC (.str "left"))) (dC (.int 0)))) (dTb (dOp oLt (dDGet (dVar 0) (dC (.str "at"))) (dCB oLen (dCons (dDGet (dVar 0) (dC (.str "cells"))) (dNil)))))) (dSeq (dDPut (dVar 0) (dC (.str "left")) (dOp oIx (dDGet (dVar 0) (dC (.str "cells"))) (dDGet (dVar 0) (dC (.str "at"))))) (dDPut (dVar 0) (dC (.str "at")) (dOp oAdd (dDGet (dVar 0) (dC (.str "at"))) (dC (.int 1))))) (dNext)
def t_law_take_1 (K : PySem.W.Frag) (c : Cls) : TSD := dIfS (dTb (dOp oGt (dDGet (dVar 0) (dC (.str "left"))) (dC (.int 0)))) (dSeq (dSet 2 (dOp oMod (dCB oInt (dCons (dDGet (dVar 0) (dC (.str "left"))) (dNil))) (dVar 1))) (dSeq (dDPut (dVar 0) (dC (.str "left")) (dOp oDiv (dDGet (dVar 0) (dC (.str "left"))) (dVar 1))) (dRet (dVar 2)))) (dNext)
def t_law_take_2 (K : PySem.W.Frag) (c : Cls) : TSD := dDPut (dVar 0) (dC (.str "salt")) (dOp oAdd (dDGet (dVar 0) (dC (.str "salt"))) (dC (.int 1)))
def t_law_take_3 (K : PySem.W.Frag) (c : Cls) : TSD := dSet 3 (dOp oMod (dCB oInt (dCons (dOp oAdd (dOp oMul (dDGet (dVar 0) (dC (.str "seed"))) (dC (.int 48271))) (dOp oMul (dDGet (dVar 0) (dC (.str "salt"))) (dC (.int 69621)))) (dNil))) (dC (.int 2147483647)))
def t_law_take_4 (K : PySem.W.Frag) (c : Cls) : TSD := dSet 3 (dOp oMod (dCB oInt (dCons (dOp oAdd (dOp oAdd (dOp oMul (dVar 3) (dVar 3)) (dOp oMul (dDGet (dVar 0) (dC (.str "salt"))) (dC (.int 40692)))) (dC (.int 12345))) (dNil))) (dC (.int 2147483399)))
def t_law_take_5 (K : PySem.W.Frag) (c : Cls) : TSD := dRet (dOp oMod (dCB oInt (dCons (dVar 3) (dNil))) (dVar 1))
def t_law_take (K : PySem.W.Frag) (c : Cls) : TSD := dSeq (t_law_take_0 K c) (dSeq (t_law_take_1 K c) (dSeq (t_law_take_2 K c) (dSeq (t_law_take_3 K c) (dSeq (t_law_take_4 K c) (t_law_take_5 K c)))))
def t_law_tape_0 (K : PySem.W.Frag) (c : Cls) : TSD := dSet 1 (dLc false (diSeq (dVar 0)) (.nm 3) (dYes) (dCB oAbs (dCons (dCB oInt (dCons (dVar 3) (dNil))) (dNil))) [3])
def t_law_tape_1 (K : PySem.W.Frag) (c : Cls) : TSD := dSet 2 (dC (.int 7))
def t_law_tape_2 (K : PySem.W.Frag) (c : Cls) : TSD := dFor (diSeq (dVar 1)) (.nm 3) (dSet 2 (dOp oMod (dCB oInt (dCons (dOp oAdd (dOp oMul (dVar 2) (dC (.int 31))) (dVar 3)) (dNil))) (dC (.int 2147483647))))
def t_law_tape_3 (K : PySem.W.Frag) (c : Cls) : TSD := dRet (dDisp true [(dC (.str "cells"), dVar 1), (dC (.str "at"), dC (.int 0)), (dC (.str "left"), dC (.int 0)), (dC (.str "seed"), dVar 2), (dC (.str "salt"), dC (.int 0))])
def t_law_tape (K : PySem.W.Frag) (c : Cls) : TSD := dSeq (t_law_tape_0 K c) (dSeq (t_law_tape_1 K c) (dSeq (t_law_tape_2 K c) (t_law_tape_3 K c)))
def t_law_signs_0 (K : PySem.W.Frag) (c : Cls) : TSD := dSet 2 (dC (.str ""))
def t_law_signs_1 (K : PySem.W.Frag) (c : Cls) : TSD := dFor (diR1 (dCons (dVar 1) (dNil))) (.nm 3) (dSeq (dSet 2 (dOp oAdd (dOp oIx (dC (.str "0123456789abcdef")) (dOp oMod (dCB oInt (dCons (dVar 0) (dNil))) (dC (.int 16)))) (dVar 2))) (dSet 0 (dOp oDiv (dVar 0) (dC (.int 16)))))
def t_law_signs_2 (K : PySem.W.Frag) (c : Cls) : TSD := dRet (dVar 2)
def t_law_signs (K : PySem.W.Frag) (c : Cls) : TSD := dSeq (t_law_signs_0 K c) (dSeq (t_law_signs_1 K c) (t_law_signs_2 K c))
def t_law_text_0 (K : PySem.W.Frag) (c : Cls) : TSD := dSet 2 (dC (.str ""))
def t_law_text_1 (K : PySem.W.Frag) (c : Cls) : TSD := dSet 3 (dC (.int 0))
def t_law_text_2 (K : PySem.W.Frag) (c : Cls) : TSD := dSet 4 (dC (.str " !\"#$.&'()*+,-./0123456789:;<=>?@ABCDEFGHIJKLMNOPQRSTUVWXYZ[\\]^_`abcdefghijklmnopqrstuvwxyz{|}~"))
def t_law_text_3 (K : PySem.W.Frag) (c : Cls) : TSD := dWhile (dTb (dOp oLt (dVar 3) (dCB oLen (dCons (dVar 0) (dNil))))) (dSeq (dSet 5 (dSl false (dVar 0) (dPart (dVar 3)) (dPart (dOp oAdd (dVar 3) (dVar 1))))) (dSeq (dSet 2 (dOp oAdd (dOp oAdd (dOp oAdd (dOp oAdd (dVar 2) (dCallP (sp_law_signs c) (dCons (dVar 3) (dCons (dC (.int 4)) (dNil))))) (dC (.str ": "))) (dM "str" mJoin (dC (.str " ")) (dCons (dLc false (diSeq (dVar 5)) (.nm 6) (dYes) (dCallP (sp_law_signs c) (dCons (dVar 6) (dCons (dC (.int 2)) (dNil)))) [6]) (dNil)))) (dC (.str "  ")))) (dSeq (dSet 2 (dOp oAdd (dOp oAdd (dVar 2) (dM "str" mJoin (dC (.str "")) (dCons (dLc false (diSeq (dVar 5)) (.nm 6) (dYes) (dIf (dTb (dChain oLt oLt (dC (.int 32)) (dVar 6) (dC (.int 127)))) (dOp oIx (dVar 4) (dOp oSub (dVar 6) (dC (.int 32)))) (dC (.str "."))) [6]) (dNil)))) (dC (.str "\n")))) (dSet 3 (dOp oAdd (dVar 3) (dVar 1))))))
def t_law_text_4 (K : PySem.W.Frag) (c : Cls) : TSD := dRet (dVar 2)
def t_law_text (K : PySem.W.Frag) (c : Cls) : TSD := dSeq (t_law_text_0 K c) (dSeq (t_law_text_1 K c) (dSeq (t_law_text_2 K c) (dSeq (t_law_text_3 K c) (t_law_text_4 K c))))
def t_differences_0 (K : PySem.W.Frag) (c : Cls) : TSD := dSet 2 (dLst true (dNil))
def t_differences_1 (K : PySem.W.Frag) (c : Cls) : TSD := dFor (diR1 (dCons (dCB oMax2 (dCons (dCB oLen (dCons (dVar 0) (dNil))) (dCons (dCB oLen (dCons (dVar 1) (dNil))) (dNil)))) (dNil))) (.nm 3) (dIfS (dTb (dOp oNe (dSl false (dVar 0) (dPart (dVar 3)) (dPart (dOp oAdd (dVar 3) (dC (.int 1))))) (dSl false (dVar 1) (dPart (dVar 3)) (dPart (dOp oAdd (dVar 3) (dC (.int 1))))))) (dIfS (dAnd (dTru (dVar 2)) (dTb (dOp oEq (dOp oIx (dOp oIx (dVar 2) (dC (.int (-1)))) (dC (.int 1))) (dVar 3)))) (dAsg (dTup (dCons (dOp oIx (dOp oIx (dVar 2) (dC (.int (-1)))) (dC (.int 0))) (dCons (dOp oAdd (dVar 3) (dC (.int 1))) (dNil)))) (gdSub (dVar 2) (dC (.int (-1))))) (dDrop (dM "list" mAppend (dVar 2) (dCons (dTup (dCons (dVar 3) (dCons (dOp oAdd (dVar 3) (dC (.int 1))) (dNil)))) (dNil))))) (dNext))
def t_differences_2 (K : PySem.W.Frag) (c : Cls) : TSD := dRet (dVar 2)
def t_differences (K : PySem.W.Frag) (c : Cls) : TSD := dSeq (t_differences_0 K c) (dSeq (t_differences_1 K c) (t_differences_2 K c))
def t_law_0 (K : PySem.W.Frag) (c : Cls) : TSD := dSet 1 (dCallA (sp_law_tape c) (dCons (dVar 0) (dNil)))
def t_law_1 (K : PySem.W.Frag) (c : Cls) : TSD := dSet 2 (dOp oAdd (dC (.int 1)) (dCallA (sp_law_take c) (dCons (dVar 1) (dCons (dC (.int 32)) (dNil)))))
def t_law_2 (K : PySem.W.Frag) (c : Cls) : TSD := dSet 3 (dCB oTuple (dCons (dLc false (diR1 (dCons (dCallA (sp_law_take c) (dCons (dVar 1) (dCons (dC (.int 100)) (dNil)))) (dNil))) (.nm 5) (dYes) (dOp oIx (dLst false (dCons (dCallA (sp_law_take c) (dCons (dVar 1) (dCons (dC (.int 256)) (dNil)))) (dCons (dOp oAdd (dC (.int 32)) (dCallA (sp_law_take c) (dCons (dVar 1) (dCons (dC (.int 96)) (dNil))))) (dNil)))) (dCallA (sp_law_take c) (dCons (dVar 1) (dCons (dC (.int 2)) (dNil))))) [5]) (dNil)))
def t_law_3 (K : PySem.W.Frag) (c : Cls) : TSD := dSet 4 (dCallP (sp_law_text c) (dCons (dVar 3) (dCons (dVar 2) (dNil))))
def t_law_4 (K : PySem.W.Frag) (c : Cls) : TSD := dIfS (dOr (dTb (dOp oNe (dCallP (sp_dump_text c) (dCons (dVar 3) (dCons (dVar 2) (dNil)))) (dVar 4))) (dTb (dOp oNe (dCallP (sp_parse_dump c) (dCons (dVar 4) (dCons (dVar 2) (dNil)))) (dVar 3)))) (dRet (dC (.bool false))) (dNext)
def t_law_5 (K : PySem.W.Frag) (c : Cls) : TSD := dFor (diR1 (dCons (dC (.int 8)) (dNil))) (.nm 5) (dSeq (dSet 6 (dCallA (sp_law_take c) (dCons (dVar 1) (dCons (dOp oAdd (dCB oLen (dCons (dVar 4) (dNil))) (dC (.int 1))) (dNil))))) (dSeq (dSet 7 (dOp oIx (dC (.str "0123456789abcdef: .\ngAZ~")) (dCallA (sp_law_take c) (dCons (dVar 1) (dCons (dC (.int 24)) (dNil)))))) (dSeq (dSet 8 (dOp oIx (dLst false (dCons (dOp oAdd (dSl false (dVar 4) (dNoPart) (dPart (dVar 6))) (dSl false (dVar 4) (dPart (dOp oAdd (dVar 6) (dC (.int 1)))) (dNoPart))) (dCons (dOp oAdd (dOp oAdd (dSl false (dVar 4) (dNoPart) (dPart (dVar 6))) (dVar 7)) (dSl false (dVar 4) (dPart (dVar 6)) (dNoPart))) (dCons (dOp oAdd (dOp oAdd (dSl false (dVar 4) (dNoPart) (dPart (dVar 6))) (dVar 7)) (dSl false (dVar 4) (dPart (dOp oAdd (dVar 6) (dC (.int 1)))) (dNoPart))) (dNil))))) (dCallA (sp_law_take c) (dCons (dVar 1) (dCons (dC (.int 3)) (dNil)))))) (dSeq (dSet 9 (dCallP (sp_law_read c) (dCons (dVar 8) (dCons (dVar 2) (dNil))))) (dIfS (dAnd (dTb (dOp oNotN (dVar 9) (dC .none))) (dTb (dOp oNe (dCallP (sp_law_text c) (dCons (dVar 9) (dCons (dVar 2) (dNil)))) (dVar 8)))) (dRet (dC (.bool false))) (dNext))))))
def t_law_6 (K : PySem.W.Frag) (c : Cls) : TSD := dIfS (dAnd (dTb (dOp oGt (dCB oLen (dCons (dVar 3) (dNil))) (dVar 2))) (dTb (dOp oNotN (dCallP (sp_law_read c) (dCons (dVar 4) (dCons (dOp oAdd (dOp oMod (dCB oInt (dCons (dVar 2) (dNil))) (dC (.int 32))) (dC (.int 1))) (dNil)))) (dC .none)))) (dRet (dC (.bool false))) (dNext)
def t_law_7 (K : PySem.W.Frag) (c : Cls) : TSD := dSet 10 (dCB (oList true) (dCons (dVar 3) (dNil)))
def t_law_8 (K : PySem.W.Frag) (c : Cls) : TSD := dFor (diR1 (dCons (dCallA (sp_law_take c) (dCons (dVar 1) (dCons (dC (.int 6)) (dNil)))) (dNil))) (.nm 5) (dIfS (dTb (dOp oGt (dCB oLen (dCons (dVar 10) (dNil))) (dC (.int 0)))) (dAsg (dCallA (sp_law_take c) (dCons (dVar 1) (dCons (dC (.int 256)) (dNil)))) (gdSub (dVar 10) (dCallA (sp_law_take c) (dCons (dVar 1) (dCons (dCB oLen (dCons (dVar 10) (dNil))) (dNil)))))) (dNext))
def t_law_9 (K : PySem.W.Frag) (c : Cls) : TSD := dSet 10 (dOp oAdd (dSl false (dCB oTuple (dCons (dVar 10) (dNil))) (dNoPart) (dPart (dCB oMax2 (dCons (dC (.int 0)) (dCons (dOp oSub (dCB oLen (dCons (dVar 10) (dNil))) (dCallA (sp_law_take c) (dCons (dVar 1) (dCons (dC (.int 3)) (dNil))))) (dNil)))))) (dCB oTuple (dCons (dOp (oRep false) (dLst false (dCons (dC (.int 7)) (dNil))) (dCallA (sp_law_take c) (dCons (dVar 1) (dCons (dC (.int 3)) (dNil))))) (dNil))))
def t_law_10 (K : PySem.W.Frag) (c : Cls) : TSD := dSet 11 (dLst true (dNil))
def t_law_11 (K : PySem.W.Frag) (c : Cls) : TSD := dFor (diR1 (dCons (dCB oMax2 (dCons (dCB oLen (dCons (dVar 3) (dNil))) (dCons (dCB oLen (dCons (dVar 10) (dNil))) (dNil)))) (dNil))) (.nm 6) (dSeq (dSet 12 (dIf (dTb (dOp oLt (dVar 6) (dCB oLen (dCons (dVar 3) (dNil))))) (dOp oIx (dVar 3) (dVar 6)) (dC (.int (-1))))) (dSeq (dSet 13 (dIf (dTb (dOp oLt (dVar 6) (dCB oLen (dCons (dVar 10) (dNil))))) (dOp oIx (dVar 10) (dVar 6)) (dC (.int (-1))))) (dIfS (dAnd (dTb (dOp oNe (dVar 12) (dVar 13))) (dAnd (dTb (dOp oGt (dCB oLen (dCons (dVar 11) (dNil))) (dC (.int 0)))) (dTb (dOp oEq (dOp oIx (dOp oIx (dVar 11) (dC (.int (-1)))) (dC (.int 1))) (dVar 6))))) (dAsg (dTup (dCons (dOp oIx (dOp oIx (dVar 11) (dC (.int (-1)))) (dC (.int 0))) (dCons (dOp oAdd (dVar 6) (dC (.int 1))) (dNil)))) (gdSub (dVar 11) (dC (.int (-1))))) (dIfS (dTb (dOp oNe (dVar 12) (dVar 13))) (dDrop (dM "list" mAppend (dVar 11) (dCons (dTup (dCons (dVar 6) (dCons (dOp oAdd (dVar 6) (dC (.int 1))) (dNil)))) (dNil)))) (dNext)))))
def t_law_12 (K : PySem.W.Frag) (c : Cls) : TSD := dIfS (dOr (dTb (dOp oNe (dCallL false (sp_differences c) (dCons (dVar 3) (dCons (dVar 10) (dNil)))) (dVar 11))) (dTb (dOp oNe (dCallL false (sp_differences c) (dCons (dVar 3) (dCons (dVar 3) (dNil)))) (dLst false (dNil))))) (dRet (dC (.bool false))) (dNext)
def t_law_13 (K : PySem.W.Frag) (c : Cls) : TSD := dIfS (dNot (dTru (dRefused (exM K c.InvalidText) (dCallP (sp_dump_text c) (dCons (dTup (dCons (dC (.int 256)) (dNil))) (dCons (dC (.int 4)) (dNil))))))) (dRet (dC (.bool false))) (dNext)
def t_law_14 (K : PySem.W.Frag) (c : Cls) : TSD := dIfS (dNot (dTru (dRefused (exM K c.InvalidText) (dCallP (sp_dump_text c) (dCons (dTup (dCons (dC (.int 0)) (dNil))) (dCons (dC (.int 0)) (dNil))))))) (dRet (dC (.bool false))) (dNext)
def t_law_15 (K : PySem.W.Frag) (c : Cls) : TSD := dRet (dAndV (dRefused (exM K c.InvalidText) (dCallP (sp_parse_dump c) (dCons (dC (.str "")) (dCons (dC (.int 33)) (dNil))))) (dOp oEq (dCallP (sp_parse_dump c) (dCons (dC (.str "")) (dCons (dC (.int 4)) (dNil)))) (dTup (dNil))))
def t_law (K : PySem.W.Frag) (c : Cls) : TSD := dSeq (t_law_0 K c) (dSeq (t_law_1 K c) (dSeq (t_law_2 K c) (dSeq (t_law_3 K c) (dSeq (t_law_4 K c) (dSeq (t_law_5 K c) (dSeq (t_law_6 K c) (dSeq (t_law_7 K c) (dSeq (t_law_8 K c) (dSeq (t_law_9 K c) (dSeq (t_law_10 K c) (dSeq (t_law_11 K c) (dSeq (t_law_12 K c) (dSeq (t_law_13 K c) (dSeq (t_law_14 K c) (t_law_15 K c)))))))))))))))
end Law
set_option Elab.async false
set_option linter.all false
set_option maxRecDepth 100000
set_option maxHeartbeats 4000000
namespace Law
open PySem PySem.Spec PyProof.Rows L2 DL
local macro_rules | `(tactic| walk_at "side") => `(tactic| first | rfl | assumption | decide | omega | (unfold CMul; omega) | (unfold CDiv; omega) | (simp only [Str.length_append, DL.mkS_len, Str.length, List.length_append, List.length_cons, List.length_nil, List.length_map, List.size_toArray, sizeLine_eq] at *; omega) | (rw [sizeLine_eq]; simp [Str.length]; done) | skip)
local macro_rules | `(tactic| walk_at "ev") => `(tactic| first
  | exact ev_c
  | exact ev_var rfl
  | exact eva_nil
  | (refine' eva_cons ?_ ?_ <;> walk_at "ev")
  | (refine' ev_op ?_ ?_ ?_ <;> walk_at "ev")
  | exact evo_add | exact evo_sub | exact evo_xor | (refine' evo_mul ?_ <;> walk_at "side") | (refine' evo_div ?_ <;> walk_at "side") | (refine' evo_mod ?_ <;> walk_at "side")
  | exact evo_lt | exact evo_le | exact evo_gt | exact evo_ge | exact evo_eqI | exact evo_neI | exact evo_eqS | exact evo_neS | exact evo_isN | exact evo_notN
  | (refine' evo_addS ?_ <;> walk_at "side") | (refine' evo_addT ?_ <;> walk_at "side") | (refine' evo_addL ?_ <;> walk_at "side")
  | (refine' evo_eq rfl rfl ?_ <;> walk_at "side") | (refine' evo_ne rfl rfl ?_ <;> walk_at "side")
  | (refine' evo_ixL ?_ <;> walk_at "side") | (refine' evo_ixT ?_ <;> walk_at "side") | (refine' evo_ixS ?_ ?_ <;> walk_at "side")
  | exact evo_inC
  | (refine' ev_chain ?_ ?_ ?_ (fun _ => ?_) (fun _ => ?_) <;> walk_at "ev")
  | (refine' ev_not ?_ <;> walk_at "ev") | (refine' ev_neg ?_ <;> walk_at "ev")
  | (refine' ev_and ?_ (fun _ => ?_) <;> walk_at "ev") | (refine' ev_or ?_ (fun _ => ?_) <;> walk_at "ev")
  | (refine' ev_if ?_ (fun _ => ?_) (fun _ => ?_) <;> walk_at "ev")
  | (refine' evb_tb ?_ <;> walk_at "ev") | (refine' evb_not ?_ <;> walk_at "ev") | (refine' evb_and ?_ (fun _ => ?_) <;> walk_at "ev") | (refine' evb_or ?_ (fun _ => ?_) <;> walk_at "ev")
  | (refine' evb_tru ?_ rfl <;> walk_at "ev")
  | (refine' ev_tup ?_ rfl ?_ <;> walk_at "ev") | (refine' ev_lst ?_ rfl ?_ <;> walk_at "ev")
  | (refine' ev_cb ?_ ?_ <;> walk_at "ev")
  | exact evc_len rfl | (refine' evc_lenS ?_ <;> walk_at "side") | exact evc_abs | exact evc_int | exact evc_intB | exact evc_max2 | exact evc_min2 | exact evc_list rfl | exact evc_tupleL rfl | exact evc_tupleT rfl
  | exact evp_none | (refine' evp_some ?_ <;> walk_at "ev")
  | (refine' ev_slT ?_ rfl ?_ ?_ <;> walk_at "ev") | (refine' ev_slL ?_ rfl ?_ ?_ <;> walk_at "ev") | (refine' ev_slS ?_ ?_ ?_ ?_ <;> walk_at "ev")
  | walk_at "side")
theorem hexAt : ∀ n : _root_.Fin 16, atI ("0123456789abcdef" : Str).cps.toList ((n.val : Nat) : Int) = some (sgn (n.val : Nat)) := by decide +kernel
theorem hex_at {i : Int} (h0 : 0 ≤ i) (h1 : i < 16) : atI ("0123456789abcdef" : Str).cps.toList i = some (sgn i) := by
  have := hexAt ⟨i.toNat, by omega⟩
  rw [show ((i.toNat : Nat) : Int) = i by omega] at this
  exact this
theorem len_two_signs {c : Cls} : ∀ ds mu Qd Zd, (spP (sp_two_signs c)) ds mu Qd Zd → ds.length = 1 := by
  rintro ds mu Qd Zd ⟨_, xs, q, z, rfl, ⟨o, rfl, _⟩, _⟩; rfl
theorem rd_two_signs (K : PySem.W.Frag) (c : Cls) (M : Mro K c) : ∀ ds mu Qd Zd, (spP (sp_two_signs c)) ds mu Qd Zd → t_two_signs K c (endD Qd Zd) (startD N_two_signs ds) mu := by
  rintro ds mu Qd Zd ⟨rfl, xs, q, z, rfl, ⟨o, rfl, h0, h1, hq⟩, kq, kz⟩
  have e1 := hex_at (i := o / 16) (by omega) (by omega)
  have e2 := hex_at (i := o % 16) (by omega) (by omega)
  refine' st_ret ?_ ?_
  rotate_left
  · walk_at "ev"
  · exact kq _ hq _ _ (.py _ _)
theorem len_place_signs {c : Cls} : ∀ ds mu Qd Zd, (spP (sp_place_signs c)) ds mu Qd Zd → ds.length = 1 := by
  rintro ds mu Qd Zd ⟨_, xs, q, z, rfl, ⟨o, rfl, _⟩, _⟩; rfl
theorem ev_two {c : Cls} {ta : TD} {rho : DEnv} {mu : List Cell} {o : Int} (h : Ev ta rho mu (.py (.int o))) (h0 : 0 ≤ o) (h1 : o < 256) : Ev (dCallP (sp_two_signs c) (dCons ta dNil)) rho mu (.py (.str (mkS (two o)))) :=
  ev_callP (eva_cons h eva_nil) rfl fun q z hq => ⟨o, rfl, h0, h1, hq⟩
theorem rd_place_signs (K : PySem.W.Frag) (c : Cls) (M : Mro K c) : ∀ ds mu Qd Zd, (spP (sp_place_signs c)) ds mu Qd Zd → t_place_signs K c (endD Qd Zd) (startD N_place_signs ds) mu := by
  rintro ds mu Qd Zd ⟨rfl, xs, q, z, rfl, ⟨o, rfl, h0, h1, hq⟩, kq, kz⟩
  refine st_ret (ev_op (ev_two (o := o / 256) (by walk_at "ev") (by omega) (by omega)) (ev_two (o := o % 256) (by walk_at "ev") (by omega) (by omega)) (evo_addS ?_)) ?_
  · rw [mkS_len, mkS_len, sizeLine_eq]; show 2 + 2 ≤ 16777216; decide
  · rw [mkS_app]
    exact kq _ hq _ _ (.py _ _)
theorem ev_place {c : Cls} {ta : TD} {rho : DEnv} {mu : List Cell} {o : Int} (h : Ev ta rho mu (.py (.int o))) (h0 : 0 ≤ o) (h1 : o < 65536) : Ev (dCallP (sp_place_signs c) (dCons ta dNil)) rho mu (.py (.str (mkS (place o)))) :=
  ev_callP (eva_cons h eva_nil) rfl fun q z hq => ⟨o, rfl, h0, h1, hq⟩
theorem len_check_octets {c : Cls} : ∀ ds mu Qd Zd, (spP (sp_check_octets c)) ds mu Qd Zd → ds.length = 2 := by
  rintro ds mu Qd Zd ⟨_, xs, q, z, rfl, ⟨os, w, rfl, _⟩, _⟩; rfl
theorem rd_check_octets (K : PySem.W.Frag) (c : Cls) (M : Mro K c) : ∀ ds mu Qd Zd, (spP (sp_check_octets c)) ds mu Qd Zd → t_check_octets K c (endD Qd Zd) (startD N_check_octets ds) mu := by
  rintro ds mu Qd Zd ⟨rfl, xs, q, z, rfl, ⟨os, w, rfl, hl, hq, hz⟩, kq, kz⟩
  have hall : Ev (dLc false (diSeq (dVar 0)) (.nm 2) dYes (dChain oLe oLe (dC (.int 0)) (dVar 2) (dC (.int 255))) [2]) (startD N_check_octets ([PyData.tuple (os.map .int), .int w].map .py)) [] (.py (.list ((os.map octOk).map .bool))) := by
    have h := ev_lc (te := dChain oLe oLe (dC (.int 0)) (dVar 2) (dC (.int 255))) (vs := [2]) (g := .nm 2) (rho := startD N_check_octets ([PyData.tuple (os.map .int), .int w].map .py)) (mu := []) (fI fun o => .bool (octOk o)) (evi_seqT (ds := os.map .int) (ev_var (i := 0) rfl)) (by rw [List.length_map]; exact hl) trivial fun x hx => by
      obtain ⟨o, _, rfl⟩ := List.mem_map.mp hx
      refine ⟨_, rfl, ?_⟩
      walk_at "ev"
    rw [map_fI] at h
    rw [List.map_map]
    exact h
  refine st_if (b := !okO os w) ?_ (fun hb => ?_) fun hb => ?_
  · have e : (!okO os w) = (!(decide (1 ≤ w) && decide (w ≤ 32)) || (decide ((65536 : Int) < ((os.map PyData.int).length : Int)) || !((os.map octOk).all id))) := by
      unfold okO
      rw [List.length_map]
      cases decide (1 ≤ w) && decide (w ≤ 32) <;> cases decide ((65536 : Int) < (os.length : Int)) <;> cases (os.map octOk).all id <;> rfl
    rw [e]
    refine evb_or (by walk_at "ev") fun _ => evb_or (by walk_at "ev") fun _ => evb_not (evb_tru (ev_cb (eva_cons hall eva_nil) (evc_bools rfl)) rfl)
  · exact kz _ (hz (by simpa using hb)) _
  · exact kq _ (hq (by simpa using hb)) _ _ (.py _ _)
theorem ev_check {c : Cls} {ta tb : TD} {rho : DEnv} {mu : List Cell} {os : List Int} {w : Int} (h : Ev ta rho mu (.py (.tuple (os.map .int)))) (h2 : Ev tb rho mu (.py (.int w))) (hl : os.length ≤ sizeLine) (hk : okO os w = true) :
    Ev (dCallP (sp_check_octets c) (dCons ta (dCons tb dNil))) rho mu (.py .none) := ev_callP (eva_cons h (eva_cons h2 eva_nil)) rfl fun q z hq => ⟨os, w, rfl, hl, fun _ => hq, fun z => by rw [hk] at z; cases z⟩
theorem evx_check {c : Cls} {ta tb : TD} {rho : DEnv} {mu : List Cell} {os : List Int} {w : Int} (h : Ev ta rho mu (.py (.tuple (os.map .int)))) (h2 : Ev tb rho mu (.py (.int w))) (hl : os.length ≤ sizeLine) (hk : okO os w = false) :
    EvX (dCallP (sp_check_octets c) (dCons ta (dCons tb dNil))) rho mu c.InvalidText := evx_callP (eva_cons h (eva_cons h2 eva_nil)) rfl fun q z hq => ⟨os, w, rfl, hl, fun e => (by rw [hk] at e; cases e), fun _ => hq⟩
end Law
set_option Elab.async false
set_option linter.all false
set_option maxRecDepth 100000
set_option maxHeartbeats 4000000
namespace Law
open PySem PySem.Spec PyProof.Rows L2 DL
local macro_rules | `(tactic| walk_at "side") => `(tactic| first | rfl | assumption | decide | omega | (unfold CMul; omega) | (unfold CDiv; omega) | (simp only [Str.length_append, DL.mkS_len, Str.length, List.length_append, List.length_cons, List.length_nil, List.length_map, List.size_toArray, sizeLine_eq] at *; omega) | (rw [sizeLine_eq]; simp [Str.length]; done) | skip)
local macro_rules | `(tactic| walk_at "ev") => `(tactic| first
  | exact ev_c
  | exact ev_var rfl
  | exact eva_nil
  | (refine' eva_cons ?_ ?_ <;> walk_at "ev")
  | (refine' ev_op ?_ ?_ ?_ <;> walk_at "ev")
  | exact evo_add | exact evo_sub | exact evo_xor | (refine' evo_mul ?_ <;> walk_at "side") | (refine' evo_div ?_ <;> walk_at "side") | (refine' evo_mod ?_ <;> walk_at "side")
  | exact evo_lt | exact evo_le | exact evo_gt | exact evo_ge | exact evo_eqI | exact evo_neI | exact evo_eqS | exact evo_neS | exact evo_isN | exact evo_notN
  | (refine' evo_addS ?_ <;> walk_at "side") | (refine' evo_addT ?_ <;> walk_at "side") | (refine' evo_addL ?_ <;> walk_at "side")
  | (refine' evo_eq rfl rfl ?_ <;> walk_at "side") | (refine' evo_ne rfl rfl ?_ <;> walk_at "side")
  | (refine' evo_ixL ?_ <;> walk_at "side") | (refine' evo_ixT ?_ <;> walk_at "side") | (refine' evo_ixS ?_ ?_ <;> walk_at "side")
  | exact evo_inC
  | (refine' ev_chain ?_ ?_ ?_ (fun _ => ?_) (fun _ => ?_) <;> walk_at "ev")
  | (refine' ev_not ?_ <;> walk_at "ev") | (refine' ev_neg ?_ <;> walk_at "ev")
  | (refine' ev_and ?_ (fun _ => ?_) <;> walk_at "ev") | (refine' ev_or ?_ (fun _ => ?_) <;> walk_at "ev")
  | (refine' ev_if ?_ (fun _ => ?_) (fun _ => ?_) <;> walk_at "ev")
  | (refine' evb_tb ?_ <;> walk_at "ev") | (refine' evb_not ?_ <;> walk_at "ev") | (refine' evb_and ?_ (fun _ => ?_) <;> walk_at "ev") | (refine' evb_or ?_ (fun _ => ?_) <;> walk_at "ev")
  | (refine' evb_tru ?_ rfl <;> walk_at "ev")
  | (refine' ev_tup ?_ rfl ?_ <;> walk_at "ev") | (refine' ev_lst ?_ rfl ?_ <;> walk_at "ev")
  | (refine' ev_cb ?_ ?_ <;> walk_at "ev")
  | exact evc_len rfl | (refine' evc_lenS ?_ <;> walk_at "side") | exact evc_abs | exact evc_int | exact evc_intB | exact evc_max2 | exact evc_min2 | exact evc_list rfl | exact evc_tupleL rfl | exact evc_tupleT rfl
  | exact evp_none | (refine' evp_some ?_ <;> walk_at "ev")
  | (refine' ev_slT ?_ rfl ?_ ?_ <;> walk_at "ev") | (refine' ev_slL ?_ rfl ?_ ?_ <;> walk_at "ev") | (refine' ev_slS ?_ ?_ ?_ ?_ <;> walk_at "ev")
  | walk_at "side")
theorem len_law_take {c : Cls} : ∀ ds mu Qd Zd, (sp_law_take c) ds mu Qd Zd → ds.length = 2 := by
  rintro ds mu Qd Zd ⟨j, kvs, many, rfl, _⟩; rfl
theorem len_law_tape {c : Cls} : ∀ ds mu Qd Zd, (sp_law_tape c) ds mu Qd Zd → ds.length = 1 := by
  rintro ds mu Qd Zd ⟨ns, rfl, _⟩; rfl
theorem tp5 {cells : List Int} {a l s t : Int} : (tp cells a l s t).length < sizeLine := by rw [sizeLine_eq]; exact (by decide : 5 < 16777216)
theorem rd_law_take (K : PySem.W.Frag) (c : Cls) (M : Mro K c) : ∀ ds mu Qd Zd, (sp_law_take c) ds mu Qd Zd → t_law_take K c (endD Qd Zd) (startD N_law_take ds) mu := by
  rintro ds mu Qd Zd ⟨j, kvs, many, rfl, hj, ⟨cells, a, l, s, t, rfl, hc, ha, hl⟩, h0, h1, k⟩
  -- behind the first if: a tape again, at the same cell
  refine sq_by (fun rho m => rho = [some (.op j), some (.py (.int many)), none, none] ∧ ∃ a l, 0 ≤ a ∧ 0 ≤ l ∧ m = mu.set j (.dk (tp cells a l s t))) (fun N hN => ?_) ?_
  · have v0 : Ev (dVar 0) [some (.op j), some (.py (.int many)), none, none] mu (.op j) := ev_var rfl
    refine st_if (evb_and (evb_tb (ev_op (ev_dget v0 hj ev_c tp_left) ev_c evo_eqI)) fun _ => evb_tb (ev_op (ev_dget v0 hj ev_c tp_at) (ev_cb (eva_cons (ev_dget v0 hj ev_c tp_cells) eva_nil) (evc_len rfl)) evo_lt)) (fun hb => ?_) (fun _ => ?_)
    · simp only [Bool.and_eq_true, decide_eq_true_eq, List.length_map] at hb
      obtain ⟨_, hlt⟩ := hb
      obtain ⟨n, rfl⟩ : ∃ n : Nat, a = (n : Int) := ⟨a.toNat, by omega⟩
      have hal : n < cells.length := by omega
      have hat : atI (cells.map PyData.int) (n : Int) = some (.int cells[n]) := atI_nat (by simp [hal])
      refine sq_dput (ev_op (ev_dget v0 hj ev_c tp_cells) (ev_dget v0 hj ev_c tp_at) (evo_ixL hat)) v0 hj ev_c tp5 ?_
      have hj2 : (mu.set j (.dk (stD (tp cells n l s t) (.str "left") (.int cells[n]))))[j]? = some (.dk (tp cells n cells[n] s t)) := by rw [st_left]; exact set_get hj
      refine st_dput (ev_op (ev_dget (ev_var rfl) hj2 ev_c tp_at) ev_c evo_add) (ev_var rfl) hj2 ev_c tp5 ?_
      refine hN _ _ ⟨rfl, (n : Int) + 1, cells[n], by omega, hc _ (List.getElem_mem hal), ?_⟩
      rw [set_set, st_at]
    · exact hN _ _ ⟨rfl, a, l, ha, hl, by rw [show mu.set j (.dk (tp cells a l s t)) = mu from List.ext_getElem? fun i => by
        by_cases hi : j = i
        · subst hi; rw [set_get hj, hj]
        · rw [List.getElem?_set_ne hi]]⟩
  · rintro rho m ⟨rfl, a, l, ha, hl, rfl⟩
    have hj0 := hj
    have hj : (mu.set j (.dk (tp cells a l s t)))[j]? = some (.dk (tp cells a l s t)) := set_get hj
    have ok : ∀ {a l s t : Int}, 0 ≤ a → 0 ≤ l → TapeOk (tp cells a l s t) := fun h h' => ⟨cells, _, _, _, _, rfl, hc, h, h'⟩
    -- the second if gives a number of the tape
    refine sq_guard (evb_tb (ev_op (ev_dget (ev_var rfl) hj ev_c tp_left) ev_c evo_gt)) (fun hb => ?_) (fun _ => ?_)
    · refine sq_set (ev_op (ev_cb (eva_cons (ev_dget (ev_var rfl) hj ev_c tp_left) eva_nil) evc_int) (ev_var rfl) (evo_mod h0)) ?_
      refine sq_dput (ev_op (ev_dget (ev_var rfl) hj ev_c tp_left) (ev_var rfl) (evo_div ⟨h0, h1⟩)) (ev_var rfl) hj ev_c tp5 ?_
      rw [set_set, st_left]
      exact st_ret (ev_var rfl) (k _ _ (Int.emod_nonneg _ (by omega)) (Int.emod_lt_of_pos _ h0) (ok ha (Int.ediv_nonneg hl (by omega))))
    · refine sq_dput (ev_op (ev_dget (ev_var rfl) hj ev_c tp_salt) ev_c evo_add) (ev_var rfl) hj ev_c tp5 ?_
      rw [set_set, st_salt]
      have hj : (mu.set j (.dk (tp cells a l s (t + 1))))[j]? = some (.dk (tp cells a l s (t + 1))) := set_get hj0
      refine sq_set (ev_op (ev_cb (eva_cons (ev_op (ev_op (ev_dget (ev_var rfl) hj ev_c tp_seed) ev_c (evo_mul (.inr ⟨by decide, by decide⟩))) (ev_op (ev_dget (ev_var rfl) hj ev_c tp_salt) ev_c (evo_mul (.inr ⟨by decide, by decide⟩))) evo_add) eva_nil) evc_int) ev_c (evo_mod (by decide))) ?_
      have b0 := Int.emod_nonneg (s * 48271 + (t + 1) * 69621) (b := 2147483647) (by decide)
      have b1 := Int.emod_lt_of_pos (s * 48271 + (t + 1) * 69621) (b := 2147483647) (by decide)
      refine sq_set (ev_op (ev_cb (eva_cons (ev_op (ev_op (ev_op (ev_var rfl) (ev_var rfl) (evo_mul (.inl ⟨by omega, by omega⟩))) (ev_op (ev_dget (ev_var rfl) hj ev_c tp_salt) ev_c (evo_mul (.inr ⟨by decide, by decide⟩))) evo_add) ev_c evo_add) eva_nil) evc_int) ev_c (evo_mod (by decide))) ?_
      exact st_ret (ev_op (ev_cb (eva_cons (ev_var rfl) eva_nil) evc_int) (ev_var rfl) (evo_mod h0)) (k _ _ (Int.emod_nonneg _ (by omega)) (Int.emod_lt_of_pos _ h0) (ok ha hl))
theorem absE : ∀ i : Int, (0 : Int) ≤ if i < 0 then -i else i := fun i => by split <;> omega
theorem rd_law_tape (K : PySem.W.Frag) (c : Cls) (M : Mro K c) : ∀ ds mu Qd Zd, (sp_law_tape c) ds mu Qd Zd → t_law_tape K c (endD Qd Zd) (startD N_law_tape ds) mu := by
  rintro ds mu Qd Zd ⟨ns, rfl, hn, k⟩
  have hz : ns.length ≤ sizeLine := by rw [sizeLine_eq]; omega
  let fa : PyData → PyData := fun d => match d with | .int i => .int (if i < 0 then -i else i) | x => x
  refine sq_set (d := .py (.list ((ns.map PyData.int).map fa))) (ev_lc fa (evi_seqC (ev_var rfl)) (by rw [List.length_map]; exact hz) trivial fun x hx => ?_) ?_
  · obtain ⟨i, _, rfl⟩ := List.mem_map.mp hx
    exact ⟨_, rfl, ev_cb (eva_cons (ev_cb (eva_cons (ev_var rfl) eva_nil) evc_int) eva_nil) evc_abs⟩
  have em : (ns.map PyData.int).map fa = (ns.map fun i => if i < 0 then -i else i).map PyData.int := by
    rw [List.map_map, List.map_map]
    rfl
  rw [em]
  refine sq_set ev_c ?_
  refine sq_for (evi_seqL (ev_var rfl)) (fun i rho m => m = mu ∧ ∃ s y, rho = [some (.sc (ns.map .int)), some (.py (.list ((ns.map fun i => if i < 0 then -i else i).map PyData.int))), some (.py (.int s)), y]) ⟨rfl, _, _, rfl⟩ ?_ (fun _ _ _ => trivial) ?_
  · rintro i x rho m N' hx ⟨rfl, s, y, rfl⟩ hN'
    rw [List.getElem?_map] at hx
    obtain ⟨z, hz2, rfl⟩ := Option.map_eq_some_iff.mp hx
    refine ⟨trivial, ?_⟩
    refine st_set (ev_op (ev_cb (eva_cons (ev_op (ev_op (ev_var rfl) ev_c (evo_mul (.inr ⟨by decide, by decide⟩))) (ev_var rfl) evo_add) eva_nil) evc_int) ev_c (evo_mod (by decide))) ?_
    exact hN' _ _ ⟨rfl, _, _, rfl⟩
  · rintro rho m ⟨rfl, s, y, rfl⟩
    refine st_retDisp (evps_cons ev_c (ev_var rfl) (evps_cons ev_c ev_c (evps_cons ev_c ev_c (evps_cons ev_c (ev_var rfl) (evps_cons ev_c ev_c evps_nil))))) rfl (by decide : 5 ≤ 15) ?_
    have e := tp_mk (l0 := (ns.map fun i => if i < 0 then -i else i).map PyData.int) (s := s)
    rw [e]
    exact k _ ⟨_, 0, 0, s, 0, rfl, fun z hz => by
      obtain ⟨i, _, rfl⟩ := List.mem_map.mp hz
      exact absE i, by omega, by omega⟩
end Law
set_option Elab.async false
set_option linter.all false
set_option maxRecDepth 100000
set_option maxHeartbeats 4000000
namespace Law
open PySem PySem.Spec PyProof.Rows L2 DL
local macro_rules | `(tactic| walk_at "side") => `(tactic| first | rfl | assumption | decide | omega | (unfold CMul; omega) | (unfold CDiv; omega) | (simp only [Str.length_append, DL.mkS_len, Str.length, List.length_append, List.length_cons, List.length_nil, List.length_map, List.size_toArray, sizeLine_eq] at *; omega) | (rw [sizeLine_eq]; simp [Str.length]; done) | skip)
local macro_rules | `(tactic| walk_at "ev") => `(tactic| first
  | exact ev_c
  | exact ev_var rfl
  | exact eva_nil
  | (refine' eva_cons ?_ ?_ <;> walk_at "ev")
  | (refine' ev_op ?_ ?_ ?_ <;> walk_at "ev")
  | exact evo_add | exact evo_sub | exact evo_xor | (refine' evo_mul ?_ <;> walk_at "side") | (refine' evo_div ?_ <;> walk_at "side") | (refine' evo_mod ?_ <;> walk_at "side")
  | exact evo_lt | exact evo_le | exact evo_gt | exact evo_ge | exact evo_eqI | exact evo_neI | exact evo_eqS | exact evo_neS | exact evo_isN | exact evo_notN
  | (refine' evo_addS ?_ <;> walk_at "side") | (refine' evo_addT ?_ <;> walk_at "side") | (refine' evo_addL ?_ <;> walk_at "side")
  | (refine' evo_eq rfl rfl ?_ <;> walk_at "side") | (refine' evo_ne rfl rfl ?_ <;> walk_at "side")
  | (refine' evo_ixL ?_ <;> walk_at "side") | (refine' evo_ixT ?_ <;> walk_at "side") | (refine' evo_ixS ?_ ?_ <;> walk_at "side")
  | exact evo_inC
  | (refine' ev_chain ?_ ?_ ?_ (fun _ => ?_) (fun _ => ?_) <;> walk_at "ev")
  | (refine' ev_not ?_ <;> walk_at "ev") | (refine' ev_neg ?_ <;> walk_at "ev")
  | (refine' ev_and ?_ (fun _ => ?_) <;> walk_at "ev") | (refine' ev_or ?_ (fun _ => ?_) <;> walk_at "ev")
  | (refine' ev_if ?_ (fun _ => ?_) (fun _ => ?_) <;> walk_at "ev")
  | (refine' evb_tb ?_ <;> walk_at "ev") | (refine' evb_not ?_ <;> walk_at "ev") | (refine' evb_and ?_ (fun _ => ?_) <;> walk_at "ev") | (refine' evb_or ?_ (fun _ => ?_) <;> walk_at "ev")
  | (refine' evb_tru ?_ rfl <;> walk_at "ev")
  | (refine' ev_tup ?_ rfl ?_ <;> walk_at "ev") | (refine' ev_lst ?_ rfl ?_ <;> walk_at "ev")
  | (refine' ev_cb ?_ ?_ <;> walk_at "ev")
  | exact evc_len rfl | (refine' evc_lenS ?_ <;> walk_at "side") | exact evc_abs | exact evc_int | exact evc_intB | exact evc_max2 | exact evc_min2 | exact evc_list rfl | exact evc_tupleL rfl | exact evc_tupleT rfl
  | exact evp_none | (refine' evp_some ?_ <;> walk_at "ev")
  | (refine' ev_slT ?_ rfl ?_ ?_ <;> walk_at "ev") | (refine' ev_slL ?_ rfl ?_ ?_ <;> walk_at "ev") | (refine' ev_slS ?_ ?_ ?_ ?_ <;> walk_at "ev")
  | walk_at "side")
/-! ### dump_text -/
theorem nRows_le {n w : Nat} (hw : 1 ≤ w) : nRows n w ≤ n := by
  unfold nRows
  have : (n + w - 1) / w < n + 1 := Nat.div_lt_of_lt_mul (by
    have h2 : 1 * n ≤ w * n := Nat.mul_le_mul_right _ hw
    have h3 : w * (n + 1) = w * n + w := by rw [Nat.mul_add, Nat.mul_one]
    omega)
  omega
theorem row_start {n w k : Nat} (hw : 1 ≤ w) (hk : k < nRows n w) : k * w < n := by
  unfold nRows at hk
  have h := (Nat.le_div_iff_mul_le (by omega : 0 < w)).mp (show k + 1 ≤ (n + w - 1) / w from hk)
  rw [Nat.add_mul] at h
  omega
theorem joinL_len {s : List Nat} {m : Nat} : ∀ ps : List (List Nat), (∀ p ∈ ps, p.length ≤ m) → (joinL s ps).length ≤ ps.length * (m + s.length)
  | [], _ => Nat.zero_le _
  | [x], h => by
    have := h x (by simp)
    simp [joinL]
    omega
  | x :: y :: r, h => by
    have ih := joinL_len (s := s) (m := m) (y :: r) fun p hp => h p (by simp at hp ⊢; exact .inr hp)
    have := h x (by simp)
    rw [joinL, List.length_append, List.length_append]
    rw [show (x :: y :: r).length = (y :: r).length + 1 from rfl, Nat.add_mul]
    omega
theorem rowAt_len {os : List Int} {w k : Nat} : (rowAt os w k).length ≤ w := by
  unfold rowAt
  rw [List.length_take]
  exact Nat.min_le_left _ _
theorem told_len {row : List Int} : (told row).length ≤ row.length * 3 := by
  have h := joinL_len (s := [32]) (m := 2) (row.map two) (by
    intro p hp
    obtain ⟨o, _, rfl⟩ := List.mem_map.mp hp
    exact Nat.le_refl 2)
  rw [List.length_map] at h
  exact h
theorem lineL_len {p : Int} {row : List Int} : (lineL p row).length ≤ row.length * 4 + 9 := by
  have h := told_len (row := row)
  unfold lineL
  simp only [List.length_append, List.length_map, List.length_cons, List.length_nil]
  have : (place p).length = 4 := rfl
  omega
theorem markAt : ∀ n : _root_.Fin 94, atI ("!\"#$.&'()*+,-./0123456789:;<=>?@ABCDEFGHIJKLMNOPQRSTUVWXYZ[\\]^_`abcdefghijklmnopqrstuvwxyz{|}~" : Str).cps.toList ((n.val : Nat) : Int) = some (shw ((n.val : Nat) + 33)) := by decide +kernel
theorem mark_at {o : Int} (h0 : 33 ≤ o) (h1 : o ≤ 126) : atI ("!\"#$.&'()*+,-./0123456789:;<=>?@ABCDEFGHIJKLMNOPQRSTUVWXYZ[\\]^_`abcdefghijklmnopqrstuvwxyz{|}~" : Str).cps.toList (o - 33) = some (shw o) := by
  have := markAt ⟨(o - 33).toNat, by omega⟩
  rw [show (((o - 33).toNat : Nat) : Int) = o - 33 by omega, show o - 33 + 33 = o by omega] at this
  exact this
theorem shw_else {o : Int} (h : ¬ (33 ≤ o ∧ o ≤ 126)) : shw o = 46 := if_neg h
/-- one round: row, told, shown -/
theorem ev_shown {rho : DEnv} {mu : List Cell} {row : List Int} {ta : TD} {v : Nat} (h : Ev ta rho mu (.py (.tuple (row.map .int)))) (hl : row.length ≤ 1000) (hv : (wipeD rho [v]).length > v) :
    Ev (dLc false (diSeq ta) (.nm v) dYes (dIf (dTb (dChain oLe oLe (dC (.int 33)) (dVar v) (dC (.int 126)))) (dOp oIx (dC (.str "!\"#$.&'()*+,-./0123456789:;<=>?@ABCDEFGHIJKLMNOPQRSTUVWXYZ[\\]^_`abcdefghijklmnopqrstuvwxyz{|}~")) (dOp oSub (dVar v) (dC (.int 33)))) (dC (.str "."))) [v]) rho mu (.py (.list ((row.map fun o => mkS [shw o]).map .str))) := by
  have h := ev_lc (g := .nm v) (vs := [v]) (te := dIf (dTb (dChain oLe oLe (dC (.int 33)) (dVar v) (dC (.int 126)))) (dOp oIx (dC (.str "!\"#$.&'()*+,-./0123456789:;<=>?@ABCDEFGHIJKLMNOPQRSTUVWXYZ[\\]^_`abcdefghijklmnopqrstuvwxyz{|}~")) (dOp oSub (dVar v) (dC (.int 33)))) (dC (.str "."))) (fI fun o => .str (mkS [shw o])) (evi_seqT h) (by rw [List.length_map, sizeLine_eq]; omega) trivial fun x hx => by
    obtain ⟨o, _, rfl⟩ := List.mem_map.mp hx
    refine ⟨_, rfl, ?_⟩
    have hv' : Ev (dVar v) ((wipeD rho [v]).set v (some (.py (.int o)))) mu (.py (.int o)) := ev_var (by rw [List.getElem?_set_self hv])
    have e : (fI fun o => .str (mkS [shw o])) (.int o) = (if (decide (33 ≤ o) && decide (o ≤ 126)) = true then PyData.str ⟨#[shw o]⟩ else PyData.str ".") := by
      show PyData.str (mkS [shw o]) = _
      by_cases hb : (33 ≤ o ∧ o ≤ 126)
      · rw [if_pos (by simp [hb])]; rfl
      · rw [if_neg (by simpa using hb), shw_else hb]; rfl
    rw [e]
    refine ev_if (evb_tb (ev_chain ev_c hv' evo_le (fun _ => ev_c) fun _ => evo_le)) (fun hb => ?_) (fun _ => ev_c)
    simp only [Bool.and_eq_true, decide_eq_true_eq] at hb
    exact ev_op ev_c (ev_op hv' ev_c evo_sub) (evo_ixS (by rw [sizeLine_eq]; decide) (mark_at hb.1 hb.2))
  rw [map_fI] at h
  rw [List.map_map]
  exact h
theorem ev_told {c : Cls} {rho : DEnv} {mu : List Cell} {row : List Int} {ta : TD} {v : Nat} (h : Ev ta rho mu (.py (.tuple (row.map .int)))) (hl : row.length ≤ 1000) (hr : ∀ o ∈ row, 0 ≤ o ∧ o < 256) (hv : (wipeD rho [v]).length > v) :
    Ev (dLc false (diSeq ta) (.nm v) dYes (dCallP (sp_two_signs c) (dCons (dVar v) dNil)) [v]) rho mu (.py (.list ((row.map fun o => mkS (two o)).map .str))) := by
  have h := ev_lc (g := .nm v) (vs := [v]) (te := dCallP (sp_two_signs c) (dCons (dVar v) dNil)) (fI fun o => .str (mkS (two o))) (evi_seqT h) (by rw [List.length_map, sizeLine_eq]; omega) trivial fun x hx => by
    obtain ⟨o, ho, rfl⟩ := List.mem_map.mp hx
    exact ⟨_, rfl, ev_two (ev_var (by rw [List.getElem?_set_self hv])) (hr o ho).1 (hr o ho).2⟩
  rw [map_fI] at h
  rw [List.map_map]
  exact h
theorem tdTold (row : List Int) : Txt.join " " (row.map fun o => mkS (two o)) = mkS (told row) := by
  have h := tjoin_mk [32] (row.map two)
  rw [List.map_map] at h
  exact h
theorem flat1 : ∀ row : List Int, (row.map fun o => [shw o]).flatten = row.map shw
  | [] => rfl
  | a :: r => by simp [flat1 r]
theorem tdShown (row : List Int) : Txt.join "" (row.map fun o => mkS [shw o]) = mkS (row.map shw) := by
  have h := tjoin_mk [] (row.map fun o => [shw o])
  rw [List.map_map, joinL_nil_sep] at h
  rw [flat1] at h
  exact h
theorem sum_mk {ps : List (List Nat)} {m : Nat} (h : ∀ p ∈ ps, p.length ≤ m) : ((ps.map mkS).map (·.length)).sum ≤ ps.length * m := by
  induction ps with
  | nil => simp
  | cons p r ih =>
    have h1 := h p (by simp)
    have h2 := ih fun q hq => h q (by simp [hq])
    simp only [List.map_cons, List.sum_cons, List.length_cons, mkS_len, Nat.add_mul] at h2 ⊢
    omega
theorem len_dump_text {c : Cls} : ∀ ds mu Qd Zd, (spP (sp_dump_text c)) ds mu Qd Zd → ds.length = 2 := by
  rintro ds mu Qd Zd ⟨_, xs, q, z, rfl, ⟨os, w, rfl, _⟩, _⟩; rfl
theorem okO_w {os : List Int} {w : Int} (h : okO os w = true) : 1 ≤ w ∧ w ≤ 32 ∧ os.length ≤ 65536 ∧ ∀ o ∈ os, 0 ≤ o ∧ o < 256 := by
  unfold okO at h
  simp only [Bool.and_eq_true, decide_eq_true_eq, Bool.not_eq_true', decide_eq_false_iff_not, List.all_map, List.all_eq_true] at h
  obtain ⟨⟨h1, h2⟩, h3, h4⟩ := h
  refine ⟨h1, h2, by omega, fun o ho => ?_⟩
  have := h4 o ho
  simp only [octOk, Function.comp, id, Bool.and_eq_true, decide_eq_true_eq] at this
  omega
theorem rd_dump_text (K : PySem.W.Frag) (c : Cls) (M : Mro K c) : ∀ ds mu Qd Zd, (spP (sp_dump_text c)) ds mu Qd Zd → t_dump_text K c (endD Qd Zd) (startD N_dump_text ds) mu := by
  rintro ds mu Qd Zd ⟨rfl, xs, q, z, rfl, ⟨os, w, rfl, hl, hq, hz⟩, kq, kz⟩
  cases hk : okO os w with
  | false => exact sq_dropX (evx_check (ev_var rfl) (ev_var rfl) hl hk) (kz _ (hz hk) _)
  | true =>
    obtain ⟨w1, w2, hn, hr⟩ := okO_w hk
    obtain ⟨m, rfl⟩ : ∃ m : Nat, w = (m : Int) := ⟨w.toNat, by omega⟩
    refine sq_drop (ev_check (ev_var rfl) (ev_var rfl) hl hk) ?_
    refine sq_lst eva_nil rfl (Nat.zero_le _) ?_
    refine sq_for (evi_r3 (n := nRows os.length m) (eva_cons ev_c (eva_cons (ev_cb (eva_cons (ev_var rfl) eva_nil) (evc_len rfl)) (eva_cons (ev_var rfl) eva_nil))) ?_)
      (fun k rho mu => mu = [.lst ((((linesL os m).take k).map mkS).map .str)] ∧ ∃ a b c d, rho = [some (.py (.tuple (os.map .int))), some (.py (.int (m : Int))), some (.op 0), a, b, c, d, none]) ⟨rfl, none, none, none, none, rfl⟩ ?_ (fun _ _ _ => trivial) ?_
    · rw [List.length_map]
      exact rgc_pos (by omega) (by omega) (by omega)
    · rintro k x rho mu N hx ⟨rfl, a, b, c', d, rfl⟩ hN
      obtain ⟨hk2, rfl⟩ := range_get hx
      have hs : k * m < os.length := row_start (by omega) hk2
      have ea : (0 : Int) + (k : Int) * (m : Int) = ((k * m : Nat) : Int) := by rw [Int.zero_add, Int.natCast_mul]
      rw [ea]
      refine ⟨trivial, ?_⟩
      have hrl : (rowAt os m k).length ≤ 1000 := by have := rowAt_len (os := os) (w := m) (k := k); omega
      have hrr : ∀ o ∈ rowAt os m k, 0 ≤ o ∧ o < 256 := fun o ho => hr o (List.mem_of_mem_drop (List.mem_of_mem_take ho))
      refine sq_set (d := .py (.tuple ((rowAt os m k).map .int))) ?_ ?_
      · have h := ev_slT (ta := dVar 0) (tl := dPart (dVar 3)) (th := dPart (dOp oAdd (dVar 3) (dVar 1))) (rho := [some (.py (.tuple (os.map .int))), some (.py (.int (m : Int))), some (.op 0), some (.py (.int ((k * m : Nat) : Int))), b, c', d, none]) (mu := [.lst ((((linesL os m).take k).map mkS).map .str)]) (ev_var rfl) rfl (evp_some (ev_var rfl)) (evp_some (ev_op (ev_var rfl) (ev_var rfl) evo_add))
        rw [← Int.natCast_add, cut_nn, ← List.map_drop, ← List.map_take, show k * m + m - k * m = m by omega] at h
        exact h
      have hz1 : ∀ {l : List Str}, l.length ≤ 1000 → (∀ s ∈ l, s.length ≤ 2) → (l.map (·.length)).sum ≤ 2000 := by
        intro l h1 h2
        have := StrLaws.sumLen_le (B := 2) l h2
        omega
      refine sq_set (ev_m ev_c rfl (eva_cons (ev_told (ev_var rfl) hrl hrr (by simp [wipeD])) eva_nil) (evm_join rfl ?_)) ?_
      · have := hz1 (l := (rowAt os m k).map fun o => mkS (two o)) (by simpa using hrl) (fun s hs => by obtain ⟨o, _, rfl⟩ := List.mem_map.mp hs; rw [mkS_len]; exact Nat.le_refl 2)
        have e1 : (" " : Str).length = 1 := rfl
        rw [e1, List.length_map]
        omega
      rw [tdTold]
      refine sq_set (ev_m ev_c rfl (eva_cons (ev_shown (ev_var rfl) hrl (by simp [wipeD])) eva_nil) (evm_join rfl ?_)) ?_
      · have := hz1 (l := (rowAt os m k).map fun o => mkS [shw o]) (by simpa using hrl) (fun s hs => by obtain ⟨o, _, rfl⟩ := List.mem_map.mp hs; rw [mkS_len]; exact (by decide : 1 ≤ 2))
        have e1 : ("" : Str).length = 0 := rfl
        rw [e1, List.length_map]
        omega
      rw [tdShown]
      have hto : (told (rowAt os m k)).length ≤ 3000 := by have := told_len (row := rowAt os m k); omega
      have hsh : ((rowAt os m k).map shw).length ≤ 1000 := by simpa using hrl
      have ht : ((linesL os m).take k).length ≤ 65536 := by
        rw [List.length_take]
        have := nRows_le (n := os.length) (w := m) (by omega)
        unfold linesL
        rw [List.length_map, List.length_range]
        omega
      refine st_append (j := 0) rfl rfl (ev_op (ev_op (ev_op (ev_op (ev_op (ev_place (ev_var rfl) (by omega) (by omega)) ev_c (evo_addS ?_)) (ev_var rfl) (evo_addS ?_)) ev_c (evo_addS ?_)) (ev_var rfl) (evo_addS ?_)) ev_c (evo_addS ?_)) (by rw [List.length_map, List.length_map, sizeLine_eq]; omega) ?_
      all_goals try (simp only [Str.length_append, mkS_len, sizeLine_eq]; have e1 : (": " : Str).length = 2 := rfl; have e2 : ("  " : Str).length = 2 := rfl; have e3 : ("\n" : Str).length = 1 := rfl; have e4 : (place ((k * m : Nat) : Int)).length = 4 := rfl; simp only [e1, e2, e3, e4]; omega)
      refine hN _ _ ⟨?_, _, _, _, _, rfl⟩
      have el : (mkS (place ((k * m : Nat) : Int)) ++ ": " ++ mkS (told (rowAt os m k)) ++ "  " ++ mkS ((rowAt os m k).map shw) ++ "\n" : Str) = mkS (lineL ((k * m : Nat) : Int) (rowAt os m k)) := by
        rw [show (": " : Str) = mkS [58, 32] from rfl, show ("  " : Str) = mkS [32, 32] from rfl, show ("\n" : Str) = mkS [10] from rfl]
        simp only [mkS_app]
        rfl
      rw [el]
      have eg : (linesL os m)[k]? = some (lineL ((k * m : Nat) : Int) (rowAt os m k)) := by
        unfold linesL
        rw [List.getElem?_map, List.getElem?_range hk2]
        rfl
      show [Cell.lst _] = _
      rw [List.take_add_one, eg, List.map_append, List.map_append]
      rfl
    · rintro rho mu ⟨rfl, a, b, c', d, rfl⟩
      have elen : (rangeD 0 (nRows os.length m) (m : Int)).length = (linesL os m).length := by
        rw [range_len]
        unfold linesL
        rw [List.length_map, List.length_range]
      rw [elen, List.take_length]
      refine st_ret (ev_m ev_c rfl (eva_cons (ev_var rfl) eva_nil) (evm_join (ys := (linesL os m).map mkS) rfl ?_)) ?_
      · have h := sum_mk (ps := linesL os m) (m := 137) (fun p hp => by
          unfold linesL at hp
          obtain ⟨k, _, rfl⟩ := List.mem_map.mp hp
          have := lineL_len (p := ((k * m : Nat) : Int)) (row := rowAt os m k)
          have := rowAt_len (os := os) (w := m) (k := k)
          omega)
        have h2 : (linesL os m).length ≤ 65536 := by
          have := nRows_le (n := os.length) (w := m) (by omega)
          unfold linesL
          rw [List.length_map, List.length_range]
          omega
        have e1 : ("" : Str).length = 0 := rfl
        rw [e1]
        omega
      · have ej := tjoin_mk [] (linesL os m)
        rw [joinL_nil_sep] at ej
        rw [show (Txt.join "" ((linesL os m).map mkS)) = mkS (dumpL os m) from ej]
        exact kq _ (hq hk) _ _ (.py _ _)
end Law
set_option Elab.async false
set_option linter.all false
set_option maxRecDepth 100000
set_option maxHeartbeats 4000000
namespace Law
open PySem PySem.Spec PyProof.Rows L2 DL
local macro_rules | `(tactic| walk_at "side") => `(tactic| first | rfl | assumption | decide | omega | (unfold CMul; omega) | (unfold CDiv; omega) | (simp only [Str.length_append, DL.mkS_len, Str.length, List.length_append, List.length_cons, List.length_nil, List.length_map, List.size_toArray, sizeLine_eq] at *; omega) | (rw [sizeLine_eq]; simp [Str.length]; done) | skip)
local macro_rules | `(tactic| walk_at "ev") => `(tactic| first
  | exact ev_c
  | exact ev_var rfl
  | exact eva_nil
  | (refine' eva_cons ?_ ?_ <;> walk_at "ev")
  | (refine' ev_op ?_ ?_ ?_ <;> walk_at "ev")
  | exact evo_add | exact evo_sub | exact evo_xor | (refine' evo_mul ?_ <;> walk_at "side") | (refine' evo_div ?_ <;> walk_at "side") | (refine' evo_mod ?_ <;> walk_at "side")
  | exact evo_lt | exact evo_le | exact evo_gt | exact evo_ge | exact evo_eqI | exact evo_neI | exact evo_eqS | exact evo_neS | exact evo_isN | exact evo_notN
  | (refine' evo_addS ?_ <;> walk_at "side") | (refine' evo_addT ?_ <;> walk_at "side") | (refine' evo_addL ?_ <;> walk_at "side")
  | (refine' evo_eq rfl rfl ?_ <;> walk_at "side") | (refine' evo_ne rfl rfl ?_ <;> walk_at "side")
  | (refine' evo_ixL ?_ <;> walk_at "side") | (refine' evo_ixT ?_ <;> walk_at "side") | (refine' evo_ixS ?_ ?_ <;> walk_at "side")
  | exact evo_inC
  | (refine' ev_chain ?_ ?_ ?_ (fun _ => ?_) (fun _ => ?_) <;> walk_at "ev")
  | (refine' ev_not ?_ <;> walk_at "ev") | (refine' ev_neg ?_ <;> walk_at "ev")
  | (refine' ev_and ?_ (fun _ => ?_) <;> walk_at "ev") | (refine' ev_or ?_ (fun _ => ?_) <;> walk_at "ev")
  | (refine' ev_if ?_ (fun _ => ?_) (fun _ => ?_) <;> walk_at "ev")
  | (refine' evb_tb ?_ <;> walk_at "ev") | (refine' evb_not ?_ <;> walk_at "ev") | (refine' evb_and ?_ (fun _ => ?_) <;> walk_at "ev") | (refine' evb_or ?_ (fun _ => ?_) <;> walk_at "ev")
  | (refine' evb_tru ?_ rfl <;> walk_at "ev")
  | (refine' ev_tup ?_ rfl ?_ <;> walk_at "ev") | (refine' ev_lst ?_ rfl ?_ <;> walk_at "ev")
  | (refine' ev_cb ?_ ?_ <;> walk_at "ev")
  | exact evc_len rfl | (refine' evc_lenS ?_ <;> walk_at "side") | exact evc_abs | exact evc_int | exact evc_intB | exact evc_max2 | exact evc_min2 | exact evc_list rfl | exact evc_tupleL rfl | exact evc_tupleT rfl
  | exact evp_none | (refine' evp_some ?_ <;> walk_at "ev")
  | (refine' ev_slT ?_ rfl ?_ ?_ <;> walk_at "ev") | (refine' ev_slL ?_ rfl ?_ ?_ <;> walk_at "ev") | (refine' ev_slS ?_ ?_ ?_ ?_ <;> walk_at "ev")
  | walk_at "side")
/-! ### the law's own text -/
def nn (n : Int) : Nat → Int
  | 0 => n
  | i + 1 => nn n i / 16
def digs (n : Int) : Nat → List Nat
  | 0 => []
  | i + 1 => sgn (nn n i % 16) :: digs n i
theorem digs_len (n : Int) : ∀ i, (digs n i).length = i
  | 0 => rfl
  | i + 1 => by rw [digs, List.length_cons, digs_len n i]
theorem digs2 {o : Int} (h0 : 0 ≤ o) (h1 : o < 256) : digs o 2 = two o := by
  show [sgn (o / 16 % 16), sgn (o % 16)] = [sgn (o / 16), sgn (o % 16)]
  rw [show o / 16 % 16 = o / 16 by omega]
theorem digs4 {o : Int} (h0 : 0 ≤ o) (h1 : o < 65536) : digs o 4 = place o := by
  show [sgn (o / 16 / 16 / 16 % 16), sgn (o / 16 / 16 % 16), sgn (o / 16 % 16), sgn (o % 16)] = [sgn (o / 256 / 16), sgn (o / 256 % 16), sgn (o % 256 / 16), sgn (o % 256 % 16)]
  rw [show o / 16 / 16 / 16 % 16 = o / 256 / 16 by omega, show o / 16 / 16 % 16 = o / 256 % 16 by omega, show o / 16 % 16 = o % 256 / 16 by omega, show o % 16 = o % 256 % 16 by omega]
theorem len_law_signs {c : Cls} : ∀ ds mu Qd Zd, (spP (sp_law_signs c)) ds mu Qd Zd → ds.length = 2 := by
  rintro ds mu Qd Zd ⟨_, xs, q, z, rfl, ⟨o, rfl, _⟩ | ⟨o, rfl, _⟩, _⟩ <;> rfl
theorem signs_gen (K : PySem.W.Frag) (c : Cls) {o : Int} {many : Nat} {Qd : QD} {Zd : QX} (hm : many ≤ 100) (k : Qd (.py (.str (mkS (digs o many)))) []) :
    t_law_signs K c (endD Qd Zd) (startD N_law_signs ([PyData.int o, .int (many : Int)].map .py)) [] := by
  refine sq_set ev_c ?_
  refine sq_for (evi_r1 (eva_cons (ev_var rfl) eva_nil) (by omega)) (fun i rho mu => mu = [] ∧ ∃ a, rho = [some (.py (.int (nn o i))), some (.py (.int (many : Int))), some (.py (.str (mkS (digs o i)))), a]) ⟨rfl, none, rfl⟩ ?_ (fun _ _ _ => trivial) ?_
  · rintro i x rho mu N hx ⟨rfl, a, rfl⟩ hN
    obtain ⟨hi, rfl⟩ := range_get hx
    refine ⟨trivial, ?_⟩
    have hb0 := Int.emod_nonneg (nn o i) (b := 16) (by decide)
    have hb1 := Int.emod_lt_of_pos (nn o i) (b := 16) (by decide)
    refine sq_set (ev_op (ev_op ev_c (ev_op (ev_cb (eva_cons (ev_var rfl) eva_nil) evc_int) ev_c (evo_mod (by decide))) (evo_ixS (by rw [sizeLine_eq]; decide) (hex_at hb0 hb1))) (ev_var rfl) (evo_addS ?_)) ?_
    · have e1 : (⟨#[sgn (nn o i % 16)]⟩ : Str).length = 1 := rfl
      rw [e1, mkS_len, digs_len, sizeLine_eq]
      omega
    · refine st_set (ev_op (ev_var rfl) ev_c (evo_div ⟨by decide, by decide⟩)) ?_
      refine hN _ _ ⟨rfl, some (.py (.int (0 + (i : Int) * 1))), ?_⟩
      have e2 : ((⟨#[sgn (nn o i % 16)]⟩ : Str) ++ mkS (digs o i)) = mkS (digs o (i + 1)) := mkS_app [sgn (nn o i % 16)] (digs o i)
      rw [e2]
      rfl
  · rintro rho mu ⟨rfl, a, rfl⟩
    rw [range_len]
    exact st_ret (ev_var rfl) k
theorem rd_law_signs (K : PySem.W.Frag) (c : Cls) (M : Mro K c) : ∀ ds mu Qd Zd, (spP (sp_law_signs c)) ds mu Qd Zd → t_law_signs K c (endD Qd Zd) (startD N_law_signs ds) mu := by
  rintro ds mu Qd Zd ⟨rfl, xs, q, z, rfl, ⟨o, rfl, h0, h1, hq⟩ | ⟨o, rfl, h0, h1, hq⟩, kq, kz⟩
  · exact signs_gen K c (many := 4) (by decide) (by rw [digs4 h0 h1]; exact kq _ hq _ _ (.py _ _))
  · exact signs_gen K c (many := 2) (by decide) (by rw [digs2 h0 h1]; exact kq _ hq _ _ (.py _ _))
theorem ev_sig4 {c : Cls} {ta : TD} {rho : DEnv} {mu : List Cell} {o : Int} (h : Ev ta rho mu (.py (.int o))) (h0 : 0 ≤ o) (h1 : o < 65536) : Ev (dCallP (sp_law_signs c) (dCons ta (dCons (dC (.int 4)) dNil))) rho mu (.py (.str (mkS (place o)))) :=
  ev_callP (eva_cons h (eva_cons ev_c eva_nil)) rfl fun q z hq => .inl ⟨o, rfl, h0, h1, hq⟩
theorem ev_sig2 {c : Cls} {ta : TD} {rho : DEnv} {mu : List Cell} {o : Int} (h : Ev ta rho mu (.py (.int o))) (h0 : 0 ≤ o) (h1 : o < 256) : Ev (dCallP (sp_law_signs c) (dCons ta (dCons (dC (.int 2)) dNil))) rho mu (.py (.str (mkS (two o)))) :=
  ev_callP (eva_cons h (eva_cons ev_c eva_nil)) rfl fun q z hq => .inr ⟨o, rfl, h0, h1, hq⟩
abbrev markS : Str := " !\"#$.&'()*+,-./0123456789:;<=>?@ABCDEFGHIJKLMNOPQRSTUVWXYZ[\\]^_`abcdefghijklmnopqrstuvwxyz{|}~"
theorem mark2At : ∀ n : _root_.Fin 94, atI markS.cps.toList (((n.val + 1 : Nat) : Nat) : Int) = some (shw ((n.val : Nat) + 33)) := by decide +kernel
theorem mark2_at {o : Int} (h0 : 32 < o) (h1 : o < 127) : atI markS.cps.toList (o - 32) = some (shw o) := by
  have := mark2At ⟨(o - 33).toNat, by omega⟩
  rw [show (((o - 33).toNat + 1 : Nat) : Int) = o - 32 by omega, show (((o - 33).toNat : Nat) : Int) + 33 = o by omega] at this
  exact this
theorem ev_shown2 {rho : DEnv} {mu : List Cell} {row : List Int} {ta : TD} {v u : Nat} (h : Ev ta rho mu (.py (.tuple (row.map .int)))) (hl : row.length ≤ 1000) (hv : (wipeD rho [v]).length > v) (hu : u ≠ v) (hs : (wipeD rho [v])[u]? = some (some (.py (.str markS)))) :
    Ev (dLc false (diSeq ta) (.nm v) dYes (dIf (dTb (dChain oLt oLt (dC (.int 32)) (dVar v) (dC (.int 127)))) (dOp oIx (dVar u) (dOp oSub (dVar v) (dC (.int 32)))) (dC (.str "."))) [v]) rho mu (.py (.list ((row.map fun o => mkS [shw o]).map .str))) := by
  have h := ev_lc (g := .nm v) (vs := [v]) (te := dIf (dTb (dChain oLt oLt (dC (.int 32)) (dVar v) (dC (.int 127)))) (dOp oIx (dVar u) (dOp oSub (dVar v) (dC (.int 32)))) (dC (.str "."))) (fI fun o => .str (mkS [shw o])) (evi_seqT h) (by rw [List.length_map, sizeLine_eq]; omega) trivial fun x hx => by
    obtain ⟨o, _, rfl⟩ := List.mem_map.mp hx
    refine ⟨_, rfl, ?_⟩
    have hv' : Ev (dVar v) ((wipeD rho [v]).set v (some (.py (.int o)))) mu (.py (.int o)) := ev_var (by rw [List.getElem?_set_self hv])
    have hu' : Ev (dVar u) ((wipeD rho [v]).set v (some (.py (.int o)))) mu (.py (.str markS)) := ev_var (by rw [List.getElem?_set_ne (Ne.symm hu)]; exact hs)
    have e : (fI fun o => .str (mkS [shw o])) (.int o) = (if (decide (32 < o) && decide (o < 127)) = true then PyData.str ⟨#[shw o]⟩ else PyData.str ".") := by
      show PyData.str (mkS [shw o]) = _
      by_cases hb : (32 < o ∧ o < 127)
      · rw [if_pos (by simp [hb])]; rfl
      · rw [if_neg (by simpa using hb), shw_else (by omega)]; rfl
    rw [e]
    refine ev_if (evb_tb (ev_chain ev_c hv' evo_lt (fun _ => ev_c) fun _ => evo_lt)) (fun hb => ?_) (fun _ => ev_c)
    simp only [Bool.and_eq_true, decide_eq_true_eq] at hb
    exact ev_op hu' (ev_op hv' ev_c evo_sub) (evo_ixS (by rw [sizeLine_eq]; decide) (mark2_at hb.1 hb.2))
  rw [map_fI] at h
  rw [List.map_map]
  exact h
theorem ev_told2 {c : Cls} {rho : DEnv} {mu : List Cell} {row : List Int} {ta : TD} {v : Nat} (h : Ev ta rho mu (.py (.tuple (row.map .int)))) (hl : row.length ≤ 1000) (hr : ∀ o ∈ row, 0 ≤ o ∧ o < 256) (hv : (wipeD rho [v]).length > v) :
    Ev (dLc false (diSeq ta) (.nm v) dYes (dCallP (sp_law_signs c) (dCons (dVar v) (dCons (dC (.int 2)) dNil))) [v]) rho mu (.py (.list ((row.map fun o => mkS (two o)).map .str))) := by
  have h := ev_lc (g := .nm v) (vs := [v]) (te := dCallP (sp_law_signs c) (dCons (dVar v) (dCons (dC (.int 2)) dNil))) (fI fun o => .str (mkS (two o))) (evi_seqT h) (by rw [List.length_map, sizeLine_eq]; omega) trivial fun x hx => by
    obtain ⟨o, ho, rfl⟩ := List.mem_map.mp hx
    exact ⟨_, rfl, ev_sig2 (ev_var (by rw [List.getElem?_set_self hv])) (hr o ho).1 (hr o ho).2⟩
  rw [map_fI] at h
  rw [List.map_map]
  exact h
theorem len_law_text {c : Cls} : ∀ ds mu Qd Zd, (spP (sp_law_text c)) ds mu Qd Zd → ds.length = 2 := by
  rintro ds mu Qd Zd ⟨_, xs, q, z, rfl, ⟨os, w, rfl, _⟩, _⟩; rfl
theorem row_start' {n w k : Nat} (hw : 1 ≤ w) (hk : k * w < n) : k < nRows n w := by
  unfold nRows
  have h := (Nat.le_div_iff_mul_le (by omega : 0 < w)).mpr (show (k + 1) * w ≤ n + w - 1 by rw [Nat.add_mul]; omega)
  omega
theorem flat_len {ps : List (List Nat)} {m : Nat} (h : ∀ p ∈ ps, p.length ≤ m) : ps.flatten.length ≤ ps.length * m := by
  induction ps with
  | nil => simp
  | cons p r ih =>
    have h1 := h p (by simp)
    have h2 := ih fun q hq => h q (by simp [hq])
    simp only [List.flatten_cons, List.length_append, List.length_cons, Nat.add_mul]
    omega
theorem lines_len {os : List Int} {m : Nat} (h1 : 1 ≤ m) (h2 : m ≤ 32) : ∀ p ∈ linesL os m, p.length ≤ 137 := fun p hp => by
  unfold linesL at hp
  obtain ⟨k, _, rfl⟩ := List.mem_map.mp hp
  have := lineL_len (p := ((k * m : Nat) : Int)) (row := rowAt os m k)
  have := rowAt_len (os := os) (w := m) (k := k)
  omega
theorem rd_law_text (K : PySem.W.Frag) (c : Cls) (M : Mro K c) : ∀ ds mu Qd Zd, (spP (sp_law_text c)) ds mu Qd Zd → t_law_text K c (endD Qd Zd) (startD N_law_text ds) mu := by
  rintro ds mu Qd Zd ⟨rfl, xs, q, z, rfl, ⟨os, w, rfl, hk, hq⟩, kq, kz⟩
  obtain ⟨w1, w2, hn, hr⟩ := okO_w hk
  obtain ⟨m, rfl⟩ : ∃ m : Nat, w = (m : Int) := ⟨w.toNat, by omega⟩
  refine sq_set ev_c ?_
  refine sq_set ev_c ?_
  refine sq_set ev_c ?_
  refine sq_while (fun n rho mu => mu = [] ∧ ∃ k a, n = nRows os.length m - k ∧ k ≤ nRows os.length m ∧ rho = [some (.py (.tuple (os.map .int))), some (.py (.int (m : Int))), some (.py (.str (mkS (((linesL os m).take k).flatten)))), some (.py (.int ((k * m : Nat) : Int))), some (.py (.str markS)), a, none]) (nRows os.length m) ⟨rfl, 0, none, rfl, Nat.zero_le _, by simp; rfl⟩ ?_
  rintro n rho mu ⟨rfl, k, a, rfl, hkn, rfl⟩
  refine ⟨_, evb_tb (ev_op (ev_var rfl) (ev_cb (eva_cons (ev_var rfl) eva_nil) (evc_len rfl)) evo_lt), fun hb N hN => ?_, fun hb => ?_⟩
  · rw [List.length_map] at hb
    have hs : k * m < os.length := by have := of_decide_eq_true hb; omega
    have hk2 := row_start' (by omega) hs
    have hrl : (rowAt os m k).length ≤ 1000 := by have := rowAt_len (os := os) (w := m) (k := k); omega
    have hrr : ∀ o ∈ rowAt os m k, 0 ≤ o ∧ o < 256 := fun o ho => hr o (List.mem_of_mem_drop (List.mem_of_mem_take ho))
    have hrows := nRows_le (n := os.length) (w := m) (by omega)
    have hfl : (((linesL os m).take k).flatten).length ≤ 65536 * 137 := by
      have h := flat_len (ps := (linesL os m).take k) (m := 137) fun p hp => lines_len (os := os) (m := m) (by omega) (by omega) p (List.mem_of_mem_take hp)
      have : ((linesL os m).take k).length ≤ 65536 := by rw [List.length_take]; omega
      have h3 := Nat.mul_le_mul_right 137 this
      omega
    refine sq_set (d := .py (.tuple ((rowAt os m k).map .int))) ?_ ?_
    · have h := ev_slT (ta := dVar 0) (tl := dPart (dVar 3)) (th := dPart (dOp oAdd (dVar 3) (dVar 1))) (rho := [some (.py (.tuple (os.map .int))), some (.py (.int (m : Int))), some (.py (.str (mkS (((linesL os m).take k).flatten)))), some (.py (.int ((k * m : Nat) : Int))), some (.py (.str markS)), a, none]) (mu := []) (ev_var rfl) rfl (evp_some (ev_var rfl)) (evp_some (ev_op (ev_var rfl) (ev_var rfl) evo_add))
      rw [← Int.natCast_add, cut_nn, ← List.map_drop, ← List.map_take, show k * m + m - k * m = m by omega] at h
      exact h
    have hz1 : ∀ {l : List Str}, l.length ≤ 1000 → (∀ s ∈ l, s.length ≤ 2) → (l.map (·.length)).sum ≤ 2000 := by
      intro l h1 h2
      have := StrLaws.sumLen_le (B := 2) l h2
      omega
    have hto : (told (rowAt os m k)).length ≤ 3000 := by have := told_len (row := rowAt os m k); omega
    have hsh : ((rowAt os m k).map shw).length ≤ 1000 := by simpa using hrl
    have hj1 := hz1 (l := (rowAt os m k).map fun o => mkS (two o)) (by simpa using hrl) (fun s hs => by obtain ⟨o, _, rfl⟩ := List.mem_map.mp hs; rw [mkS_len]; exact Nat.le_refl 2)
    have hj2 := hz1 (l := (rowAt os m k).map fun o => mkS [shw o]) (by simpa using hrl) (fun s hs => by obtain ⟨o, _, rfl⟩ := List.mem_map.mp hs; rw [mkS_len]; exact (by decide : 1 ≤ 2))
    have j1 := ev_m (om := mJoin) (Ty := "str") (mu := []) (ta := dC (.str " ")) (x := .py (.str " ")) ev_c rfl (eva_cons (ev_told2 (c := c) (rho := [some (.py (.tuple (os.map .int))), some (.py (.int (m : Int))), some (.py (.str (mkS (((linesL os m).take k).flatten)))), some (.py (.int ((k * m : Nat) : Int))), some (.py (.str markS)), some (.py (.tuple ((rowAt os m k).map .int))), none]) (ta := dVar 5) (v := 6) (ev_var rfl) hrl hrr (by simp [wipeD])) eva_nil) (evm_join rfl (by
      have e1 : (" " : Str).length = 1 := rfl
      rw [e1, List.length_map]
      omega))
    rw [tdTold] at j1
    refine sq_set (ev_op (ev_op (ev_op (ev_op (ev_var rfl) (ev_sig4 (ev_var rfl) (by omega) (by omega)) (evo_addS ?_)) ev_c (evo_addS ?_)) j1 (evo_addS ?_)) ev_c (evo_addS ?_)) ?_
    all_goals try (simp only [Str.length_append, mkS_len, sizeLine_eq]; have e1 : (": " : Str).length = 2 := rfl; have e2 : ("  " : Str).length = 2 := rfl; have e4 : (place ((k * m : Nat) : Int)).length = 4 := rfl; simp only [e1, e2, e4]; omega)
    rw [show (": " : Str) = mkS [58, 32] from rfl, show ("  " : Str) = mkS [32, 32] from rfl]
    simp only [mkS_app]
    generalize hf2 : (((linesL os m).take k).flatten ++ place ((k * m : Nat) : Int) ++ [58, 32] ++ told (rowAt os m k) ++ [32, 32]) = f2
    have hf2l : f2.length ≤ 65536 * 137 + 4000 := by
      rw [← hf2]
      simp only [List.length_append]
      have e4 : (place ((k * m : Nat) : Int)).length = 4 := rfl
      simp only [e4, List.length_cons, List.length_nil]
      omega
    have j2 := ev_m (om := mJoin) (Ty := "str") (mu := []) (ta := dC (.str "")) (x := .py (.str "")) ev_c rfl (eva_cons (ev_shown2 (rho := [some (.py (.tuple (os.map .int))), some (.py (.int (m : Int))), some (.py (.str (mkS f2))), some (.py (.int ((k * m : Nat) : Int))), some (.py (.str markS)), some (.py (.tuple ((rowAt os m k).map .int))), none]) (ta := dVar 5) (v := 6) (u := 4) (ev_var rfl) hrl (by simp [wipeD]) (by decide) rfl) eva_nil) (evm_join rfl (by
      have e1 : ("" : Str).length = 0 := rfl
      rw [e1, List.length_map]
      omega))
    rw [tdShown] at j2
    refine sq_set (ev_op (ev_op (ev_var rfl) j2 (evo_addS ?_)) ev_c (evo_addS ?_)) ?_
    all_goals try (simp only [Str.length_append, mkS_len, sizeLine_eq]; have e3 : ("\n" : Str).length = 1 := rfl; (try simp only [e3]); omega)
    refine st_set (ev_op (ev_var rfl) (ev_var rfl) evo_add) ?_
    refine hN (nRows os.length m - (k + 1)) _ _ (by omega) ⟨rfl, k + 1, some (.py (.tuple ((rowAt os m k).map .int))), rfl, by omega, ?_⟩
    have eg : (linesL os m)[k]? = some (lineL ((k * m : Nat) : Int) (rowAt os m k)) := by
      unfold linesL
      rw [List.getElem?_map, List.getElem?_range hk2]
      rfl
    have ef : f2 ++ (rowAt os m k).map shw ++ [10] = ((linesL os m).take (k + 1)).flatten := by
      rw [List.take_add_one, eg, List.flatten_append, ← hf2]
      simp [lineL]
    rw [show ("\n" : Str) = mkS [10] from rfl]
    simp only [mkS_app]
    rw [ef, ← Int.natCast_add, show k * m + m = (k + 1) * m by rw [Nat.add_mul, Nat.one_mul]]
    rfl
  · rw [List.length_map] at hb
    have hs : ¬ k * m < os.length := by have := of_decide_eq_false hb; omega
    have ek : k = nRows os.length m := by
      rcases Nat.lt_or_ge k (nRows os.length m) with h | h
      · exact absurd (row_start (by omega) h) hs
      · omega
    subst ek
    have el : (linesL os m).take (nRows os.length m) = linesL os m := List.take_of_length_le (by unfold linesL; simp)
    rw [el]
    exact st_ret (ev_var rfl) (kq _ hq _ _ (.py _ _))
end Law
set_option Elab.async false
set_option linter.all false
set_option maxRecDepth 100000
set_option maxHeartbeats 4000000
namespace Law
open PySem PySem.Spec PyProof.Rows L2 DL
local macro_rules | `(tactic| walk_at "side") => `(tactic| first | rfl | assumption | decide | omega | (unfold CMul; omega) | (unfold CDiv; omega) | (simp only [Str.length_append, DL.mkS_len, Str.length, List.length_append, List.length_cons, List.length_nil, List.length_map, List.size_toArray, sizeLine_eq] at *; omega) | (rw [sizeLine_eq]; simp [Str.length]; done) | skip)
local macro_rules | `(tactic| walk_at "ev") => `(tactic| first
  | exact ev_c
  | exact ev_var rfl
  | exact eva_nil
  | (refine' eva_cons ?_ ?_ <;> walk_at "ev")
  | (refine' ev_op ?_ ?_ ?_ <;> walk_at "ev")
  | exact evo_add | exact evo_sub | exact evo_xor | (refine' evo_mul ?_ <;> walk_at "side") | (refine' evo_div ?_ <;> walk_at "side") | (refine' evo_mod ?_ <;> walk_at "side")
  | exact evo_lt | exact evo_le | exact evo_gt | exact evo_ge | exact evo_eqI | exact evo_neI | exact evo_eqS | exact evo_neS | exact evo_isN | exact evo_notN
  | (refine' evo_addS ?_ <;> walk_at "side") | (refine' evo_addT ?_ <;> walk_at "side") | (refine' evo_addL ?_ <;> walk_at "side")
  | (refine' evo_eq rfl rfl ?_ <;> walk_at "side") | (refine' evo_ne rfl rfl ?_ <;> walk_at "side")
  | (refine' evo_ixL ?_ <;> walk_at "side") | (refine' evo_ixT ?_ <;> walk_at "side") | (refine' evo_ixS ?_ ?_ <;> walk_at "side")
  | exact evo_inC
  | (refine' ev_chain ?_ ?_ ?_ (fun _ => ?_) (fun _ => ?_) <;> walk_at "ev")
  | (refine' ev_not ?_ <;> walk_at "ev") | (refine' ev_neg ?_ <;> walk_at "ev")
  | (refine' ev_and ?_ (fun _ => ?_) <;> walk_at "ev") | (refine' ev_or ?_ (fun _ => ?_) <;> walk_at "ev")
  | (refine' ev_if ?_ (fun _ => ?_) (fun _ => ?_) <;> walk_at "ev")
  | (refine' evb_tb ?_ <;> walk_at "ev") | (refine' evb_not ?_ <;> walk_at "ev") | (refine' evb_and ?_ (fun _ => ?_) <;> walk_at "ev") | (refine' evb_or ?_ (fun _ => ?_) <;> walk_at "ev")
  | (refine' evb_tru ?_ rfl <;> walk_at "ev")
  | (refine' ev_tup ?_ rfl ?_ <;> walk_at "ev") | (refine' ev_lst ?_ rfl ?_ <;> walk_at "ev")
  | (refine' ev_cb ?_ ?_ <;> walk_at "ev")
  | exact evc_len rfl | (refine' evc_lenS ?_ <;> walk_at "side") | exact evc_abs | exact evc_int | exact evc_intB | exact evc_max2 | exact evc_min2 | exact evc_list rfl | exact evc_tupleL rfl | exact evc_tupleT rfl
  | exact evp_none | (refine' evp_some ?_ <;> walk_at "ev")
  | (refine' ev_slT ?_ rfl ?_ ?_ <;> walk_at "ev") | (refine' ev_slL ?_ rfl ?_ ?_ <;> walk_at "ev") | (refine' ev_slS ?_ ?_ ?_ ?_ <;> walk_at "ev")
  | walk_at "side")
/-! ### reading a text: the mathematics -/
def SG : List Nat := ("0123456789abcdef" : Str).cps.toList
def head1 (s : Str) : Str := (Txt.split s "  ").headD s
def wordsOf (s : Str) : List Str := Txt.split (head1 (cutS s (some 6) none)) " "
def c0 (s : Str) : Nat := s.cps.toList.getD 0 0
def c1 (s : Str) : Nat := s.cps.toList.getD 1 0
def okW (s : Str) : Bool := decide ((s.length : Int) = 2) && (decide (c0 s ∈ SG) && decide (c1 s ∈ SG))
def hexv (c : Nat) : Int := if c < 58 then (c : Int) - 48 else (c : Int) - 87
def valW (s : Str) : Int := 16 * hexv (c0 s) + hexv (c1 s)
def linesOf (t : List Nat) : List Str := (Txt.split (mkS t) "\n").dropLast
def okLine (s : Str) : Bool := (wordsOf s).all okW
def vals (s : Str) : List Int := (wordsOf s).map valW
theorem hexv_sgn : ∀ n : _root_.Fin 16, hexv (sgn ((n.val : Nat) : Int)) = ((n.val : Nat) : Int) ∧ sgn ((n.val : Nat) : Int) ∈ SG := by decide +kernel
theorem hexv_of {i : Int} (h0 : 0 ≤ i) (h1 : i < 16) : hexv (sgn i) = i ∧ sgn i ∈ SG := by
  have := hexv_sgn ⟨i.toNat, by omega⟩
  rw [show ((i.toNat : Nat) : Int) = i by omega] at this
  exact this
theorem okW_two {o : Int} (h0 : 0 ≤ o) (h1 : o < 256) : okW (mkS (two o)) = true ∧ valW (mkS (two o)) = o := by
  have a := hexv_of (i := o / 16) (by omega) (by omega)
  have b := hexv_of (i := o % 16) (by omega) (by omega)
  constructor
  · unfold okW
    have e0 : c0 (mkS (two o)) = sgn (o / 16) := rfl
    have e1 : c1 (mkS (two o)) = sgn (o % 16) := rfl
    have e2 : (mkS (two o)).length = 2 := rfl
    rw [e0, e1, e2, decide_eq_true a.2, decide_eq_true b.2]
    rfl
  · show 16 * hexv (sgn (o / 16)) + hexv (sgn (o % 16)) = o
    rw [a.1, b.1]
    omega
def body (p : Int) (row : List Int) : List Nat := place p ++ [58, 32] ++ told row ++ [32, 32] ++ row.map shw
theorem lineL_body (p : Int) (row : List Int) : lineL p row = body p row ++ [10] := rfl
theorem sgn_ge {i : Int} (h0 : 0 ≤ i) : 48 ≤ sgn i := by
  unfold sgn
  split <;> omega
theorem two_mem {o : Int} (h0 : 0 ≤ o) {x : Nat} (h : x ∈ two o) : 48 ≤ x := by
  unfold two at h
  simp only [List.mem_cons, List.not_mem_nil, or_false] at h
  rcases h with h | h <;> rw [h] <;> exact sgn_ge (by omega)
theorem joinL_mem {s : List Nat} {x : Nat} : ∀ {ps : List (List Nat)}, x ∈ joinL s ps → x ∈ s ∨ ∃ p ∈ ps, x ∈ p
  | [], h => by cases h
  | [p], h => .inr ⟨p, by simp, h⟩
  | p :: q :: r, h => by
    rw [joinL, List.mem_append, List.mem_append] at h
    rcases h with (h | h) | h
    · exact .inr ⟨p, by simp, h⟩
    · exact .inl h
    · rcases joinL_mem h with h | ⟨p', h1, h2⟩
      · exact .inl h
      · exact .inr ⟨p', by simp at h1 ⊢; exact .inr h1, h2⟩
theorem shw_ge (o : Int) : 33 ≤ shw o := by
  unfold shw
  split
  · split <;> omega
  · decide
theorem body_free {p : Int} {row : List Int} (hp : 0 ≤ p) (hr : ∀ o ∈ row, 0 ≤ o ∧ o < 256) : 10 ∉ body p row := by
  unfold body
  simp only [List.mem_append, not_or]
  refine ⟨⟨⟨⟨?_, by decide⟩, ?_⟩, by decide⟩, ?_⟩
  · intro h
    unfold place at h
    rcases List.mem_append.mp h with h | h
    · have := two_mem (by omega) h; omega
    · have := two_mem (by omega) h; omega
  · intro h
    rcases joinL_mem h with h | ⟨q, h1, h2⟩
    · simp at h
    · obtain ⟨o, ho, rfl⟩ := List.mem_map.mp h1
      have := two_mem (hr o ho).1 h2
      omega
  · intro h
    obtain ⟨o, _, e⟩ := List.mem_map.mp h
    have := shw_ge o
    omega
/-- no two blanks in told, none at its end -/
theorem told_no {row : List Int} (hr : ∀ o ∈ row, 0 ≤ o ∧ o < 256) (r : List Nat) : ∀ k, k < (told row).length → ((told row ++ 32 :: 32 :: r).drop k).take 2 ≠ [32, 32] := by
  unfold told
  induction row with
  | nil => intro k hk; simp [joinL] at hk
  | cons o rest ih =>
    have h48 : 48 ≤ sgn (o / 16) ∧ 48 ≤ sgn (o % 16) := ⟨sgn_ge (by have := hr o (by simp); omega), sgn_ge (by have := hr o (by simp); omega)⟩
    cases rest with
    | nil =>
      intro k hk
      have hk : k < 2 := hk
      show (([sgn (o / 16), sgn (o % 16)] ++ 32 :: 32 :: r).drop k).take 2 ≠ _
      match k, hk with
      | 0, _ => simp; omega
      | 1, _ => simp; omega
    | cons o2 rest2 =>
      have ih := ih fun q hq => hr q (by simp at hq ⊢; exact .inr hq)
      have h2 : 48 ≤ sgn (o2 / 16) := sgn_ge (by have := hr o2 (by simp); omega)
      have ej : joinL [32] ((o :: o2 :: rest2).map two) = sgn (o / 16) :: sgn (o % 16) :: 32 :: joinL [32] ((o2 :: rest2).map two) := rfl
      have eh : ∃ tl, joinL [32] ((o2 :: rest2).map two) ++ 32 :: 32 :: r = sgn (o2 / 16) :: tl := by
        cases rest2 with
        | nil => exact ⟨_, rfl⟩
        | cons _ _ => exact ⟨_, rfl⟩
      intro k hk
      rw [ej] at hk ⊢
      match k with
      | 0 => simp; omega
      | 1 => simp; omega
      | 2 =>
        obtain ⟨tl, e⟩ := eh
        show ((32 :: (joinL [32] ((o2 :: rest2).map two) ++ 32 :: 32 :: r))).take 2 ≠ _
        rw [e]
        simp
        omega
      | k + 3 =>
        show ((joinL [32] ((o2 :: rest2).map two) ++ 32 :: 32 :: r).drop k).take 2 ≠ _
        exact ih k (by simpa using hk)
theorem head1_of {t r : List Nat} (h : ∀ k, k < t.length → ((t ++ 32 :: 32 :: r).drop k).take 2 ≠ [32, 32]) : head1 (mkS (t ++ 32 :: 32 :: r)) = mkS t := by
  have h2 := split2_head (by decide) h
  unfold head1
  have e : ("  " : Str) = mkS [32, 32] := rfl
  rw [e]
  cases hs : Txt.split (mkS (t ++ 32 :: 32 :: r)) (mkS [32, 32]) with
  | nil => rw [hs] at h2; cases h2
  | cons a b => rw [hs] at h2; exact Option.some.inj h2
theorem words_body {p : Int} {row : List Int} (hr : ∀ o ∈ row, 0 ≤ o ∧ o < 256) (h0 : row ≠ []) : wordsOf (mkS (body p row)) = (row.map two).map mkS := by
  unfold wordsOf
  have e1 : cutS (mkS (body p row)) (some 6) none = mkS (told row ++ 32 :: 32 :: row.map shw) := by
    have h := cutS_n0 (body p row) 6
    rw [show ((6 : Nat) : Int) = 6 from rfl] at h
    rw [h]
    refine congrArg mkS ?_
    show (place p ++ [58, 32] ++ told row ++ [32, 32] ++ row.map shw).drop 6 = _
    have e4 : (place p ++ [58, 32]).length = 6 := rfl
    rw [List.append_assoc, List.append_assoc, List.append_assoc, ← List.append_assoc (place p)]
    rw [← e4, List.drop_left]
    simp
  rw [e1, head1_of (told_no hr _)]
  exact split_mk (by cases row with | nil => exact absurd rfl h0 | cons _ _ => exact fun z => by cases z) fun q hq => by
    obtain ⟨o, ho, rfl⟩ := List.mem_map.mp hq
    intro z
    have := two_mem (hr o ho).1 z
    omega
theorem joinL_end : ∀ ps : List (List Nat), joinL [10] (ps ++ [[]]) = (ps.map (· ++ [10])).flatten
  | [] => rfl
  | [x] => by simp [joinL]
  | x :: y :: r => by
    have ih := joinL_end (y :: r)
    show x ++ [10] ++ joinL [10] (y :: r ++ [[]]) = _
    rw [ih]
    simp
def bodies (os : List Int) (w : Nat) : List (List Nat) := (List.range (nRows os.length w)).map fun k => body ((k * w : Nat) : Int) (rowAt os w k)
theorem dump_bodies (os : List Int) (w : Nat) : dumpL os w = joinL [10] (bodies os w ++ [[]]) := by
  rw [joinL_end]
  unfold dumpL linesL bodies
  rw [List.map_map]
  rfl
theorem rowAt_mem {os : List Int} {w k : Nat} (hr : ∀ o ∈ os, 0 ≤ o ∧ o < 256) : ∀ o ∈ rowAt os w k, 0 ≤ o ∧ o < 256 := fun o ho => hr o (List.mem_of_mem_drop (List.mem_of_mem_take ho))
theorem lines_dump {os : List Int} {w : Nat} (hr : ∀ o ∈ os, 0 ≤ o ∧ o < 256) : linesOf (dumpL os w) = (bodies os w).map mkS := by
  unfold linesOf
  rw [dump_bodies, show ("\n" : Str) = mkS [10] from rfl, split_mk (by simp) ?_]
  · rw [List.map_append, List.map_cons, List.map_nil, List.dropLast_concat]
  · intro p hp
    rcases List.mem_append.mp hp with h | h
    · unfold bodies at h
      obtain ⟨k, _, rfl⟩ := List.mem_map.mp h
      exact body_free (by omega) (rowAt_mem hr)
    · simp at h
      subst h
      simp
theorem rows_take {os : List Int} {w : Nat} : ∀ k, ((List.range k).map fun k => rowAt os w k).flatten = os.take (k * w)
  | 0 => by simp
  | k + 1 => by
    rw [List.range_succ, List.map_append, List.flatten_append, rows_take k]
    simp only [List.map_cons, List.map_nil, List.flatten_cons, List.flatten_nil, List.append_nil]
    unfold rowAt
    rw [Nat.add_mul, Nat.one_mul, List.take_add]
theorem nRows_mul {n w : Nat} (hw : 1 ≤ w) : n ≤ nRows n w * w := by
  unfold nRows
  have h := Nat.div_add_mod (n + w - 1) w
  have h2 := Nat.mod_lt (n + w - 1) (by omega : 0 < w)
  rw [Nat.mul_comm] at h
  omega
theorem rowAt_ne {os : List Int} {w k : Nat} (hw : 1 ≤ w) (hk : k < nRows os.length w) : rowAt os w k ≠ [] := by
  have := row_start hw hk
  intro z
  have e := congrArg List.length z
  unfold rowAt at e
  rw [List.length_take, List.length_drop] at e
  simp at e
  omega
/-- the text of octets is read as these -/
theorem read_dump {os : List Int} {w : Nat} (hw : 1 ≤ w) (hr : ∀ o ∈ os, 0 ≤ o ∧ o < 256) : (linesOf (dumpL os w)).all okLine = true ∧ ((linesOf (dumpL os w)).map vals).flatten = os := by
  rw [lines_dump hr]
  constructor
  · rw [List.all_eq_true]
    intro s hs
    obtain ⟨b, hb, rfl⟩ := List.mem_map.mp hs
    unfold bodies at hb
    obtain ⟨k, hk, rfl⟩ := List.mem_map.mp hb
    unfold okLine
    rw [words_body (rowAt_mem hr) (rowAt_ne hw (List.mem_range.mp hk)), List.all_eq_true]
    intro s hs
    rw [List.map_map] at hs
    obtain ⟨o, ho, rfl⟩ := List.mem_map.mp hs
    exact (okW_two (rowAt_mem hr o ho).1 (rowAt_mem hr o ho).2).1
  · have e : ((bodies os w).map mkS).map vals = (List.range (nRows os.length w)).map fun k => rowAt os w k := by
      unfold bodies
      rw [List.map_map, List.map_map]
      refine List.map_congr_left fun k hk => ?_
      show (wordsOf _).map valW = _
      rw [words_body (rowAt_mem hr) (rowAt_ne hw (List.mem_range.mp hk)), List.map_map, List.map_map]
      refine (List.map_congr_left fun o ho => ?_).trans (List.map_id _)
      exact (okW_two (rowAt_mem hr o ho).1 (rowAt_mem hr o ho).2).2
    rw [e, rows_take, List.take_of_length_le (nRows_mul hw)]
end Law
set_option Elab.async false
set_option linter.all false
set_option maxRecDepth 100000
set_option maxHeartbeats 4000000
namespace Law
open PySem PySem.Spec PyProof.Rows L2 DL
local macro_rules | `(tactic| walk_at "side") => `(tactic| first | rfl | assumption | decide | omega | (unfold CMul; omega) | (unfold CDiv; omega) | (simp only [Str.length_append, DL.mkS_len, Str.length, List.length_append, List.length_cons, List.length_nil, List.length_map, List.size_toArray, sizeLine_eq] at *; omega) | (rw [sizeLine_eq]; simp [Str.length]; done) | skip)
local macro_rules | `(tactic| walk_at "ev") => `(tactic| first
  | exact ev_c
  | exact ev_var rfl
  | exact eva_nil
  | (refine' eva_cons ?_ ?_ <;> walk_at "ev")
  | (refine' ev_op ?_ ?_ ?_ <;> walk_at "ev")
  | exact evo_add | exact evo_sub | exact evo_xor | (refine' evo_mul ?_ <;> walk_at "side") | (refine' evo_div ?_ <;> walk_at "side") | (refine' evo_mod ?_ <;> walk_at "side")
  | exact evo_lt | exact evo_le | exact evo_gt | exact evo_ge | exact evo_eqI | exact evo_neI | exact evo_eqS | exact evo_neS | exact evo_isN | exact evo_notN
  | (refine' evo_addS ?_ <;> walk_at "side") | (refine' evo_addT ?_ <;> walk_at "side") | (refine' evo_addL ?_ <;> walk_at "side")
  | (refine' evo_eq rfl rfl ?_ <;> walk_at "side") | (refine' evo_ne rfl rfl ?_ <;> walk_at "side")
  | (refine' evo_ixL ?_ <;> walk_at "side") | (refine' evo_ixT ?_ <;> walk_at "side") | (refine' evo_ixS ?_ ?_ <;> walk_at "side")
  | exact evo_inC
  | (refine' ev_chain ?_ ?_ ?_ (fun _ => ?_) (fun _ => ?_) <;> walk_at "ev")
  | (refine' ev_not ?_ <;> walk_at "ev") | (refine' ev_neg ?_ <;> walk_at "ev")
  | (refine' ev_and ?_ (fun _ => ?_) <;> walk_at "ev") | (refine' ev_or ?_ (fun _ => ?_) <;> walk_at "ev")
  | (refine' ev_if ?_ (fun _ => ?_) (fun _ => ?_) <;> walk_at "ev")
  | (refine' evb_tb ?_ <;> walk_at "ev") | (refine' evb_not ?_ <;> walk_at "ev") | (refine' evb_and ?_ (fun _ => ?_) <;> walk_at "ev") | (refine' evb_or ?_ (fun _ => ?_) <;> walk_at "ev")
  | (refine' evb_tru ?_ rfl <;> walk_at "ev")
  | (refine' ev_tup ?_ rfl ?_ <;> walk_at "ev") | (refine' ev_lst ?_ rfl ?_ <;> walk_at "ev")
  | (refine' ev_cb ?_ ?_ <;> walk_at "ev")
  | exact evc_len rfl | (refine' evc_lenS ?_ <;> walk_at "side") | exact evc_abs | exact evc_int | exact evc_intB | exact evc_max2 | exact evc_min2 | exact evc_list rfl | exact evc_tupleL rfl | exact evc_tupleT rfl
  | exact evp_none | (refine' evp_some ?_ <;> walk_at "ev")
  | (refine' ev_slT ?_ rfl ?_ ?_ <;> walk_at "ev") | (refine' ev_slL ?_ rfl ?_ ?_ <;> walk_at "ev") | (refine' ev_slS ?_ ?_ ?_ ?_ <;> walk_at "ev")
  | walk_at "side")
theorem occ_hex : ∀ n : _root_.Fin 16, Builtin.Str.occurrences ("0123456789abcdef" : Str) ⟨#[SG.getD n.val 0]⟩ 0 ("0123456789abcdef" : Str).length 1 = [n.val] ∧ hexv (SG.getD n.val 0) = (n.val : Nat) := by decide +kernel
theorem occ_at {x : Nat} (h : x ∈ SG) : ∃ i : Nat, Builtin.Str.occurrences ("0123456789abcdef" : Str) ⟨#[x]⟩ 0 ("0123456789abcdef" : Str).length 1 = [i] ∧ hexv x = (i : Int) ∧ i < 16 := by
  obtain ⟨i, hi⟩ := List.getElem?_of_mem h
  have hl : SG.length = 16 := rfl
  have hi16 : i < 16 := by rw [← hl]; exact (List.getElem?_eq_some_iff.mp hi).1
  have e : SG.getD i 0 = x := by rw [List.getD_eq_getElem?_getD, hi]; rfl
  have := occ_hex ⟨i, hi16⟩
  rw [e] at this
  exact ⟨i, this.1, this.2, hi16⟩
theorem valW_rng {s : Str} (h : okW s = true) : 0 ≤ valW s ∧ valW s ≤ 255 := by
  unfold okW at h
  simp only [Bool.and_eq_true, decide_eq_true_eq] at h
  obtain ⟨_, h1, h2⟩ := h
  obtain ⟨i, _, e1, hi⟩ := occ_at h1
  obtain ⟨j, _, e2, hj⟩ := occ_at h2
  unfold valW
  rw [e1, e2]
  omega
theorem sIx_6 (n : Nat) : cutS (mkS []) none none = mkS [] := rfl
theorem cut6_len (s : Str) : (cutS s (some 6) none).length ≤ s.length := by
  rw [← mkS_of s]
  have h := cutS_n0 s.cps.toList 6
  rw [show ((6 : Nat) : Int) = 6 from rfl] at h
  rw [h, mkS_len, mkS_len, List.length_drop]
  omega
theorem head1_split (s : Str) : (Txt.split s "  ")[0]? = some (head1 s) ∧ (head1 s).length ≤ s.length := by
  have hp := PyProof.Rows.split_pos s "  "
  unfold head1
  cases h : Txt.split s "  " with
  | nil => rw [h] at hp; simp at hp
  | cons a b => exact ⟨rfl, PyProof.Rows.part_short (x := s) (y := "  ") (a := a) (by rw [h]; simp)⟩
theorem words_len (s : Str) : (wordsOf s).length ≤ s.length + 2 := by
  have h1 := PyProof.Rows.split_le (head1 (cutS s (some 6) none)) " "
  have h2 := (head1_split (cutS s (some 6) none)).2
  have h3 := cut6_len s
  unfold wordsOf
  omega
/-- the test of words, their values -/
theorem ev_okW {rho : DEnv} {mu : List Cell} {s : Str} {v : Nat} (h : rho[v]? = some (some (.py (.str s)))) (hs : s.length ≤ sizeLine) :
    Ev (dAndV (dOp oEq (dCB oLen (dCons (dVar v) dNil)) (dC (.int 2))) (dAndV (dOp oIn (dOp oIx (dVar v) (dC (.int 0))) (dC (.str "0123456789abcdef"))) (dOp oIn (dOp oIx (dVar v) (dC (.int 1))) (dC (.str "0123456789abcdef"))))) rho mu (.py (.bool (okW s))) := by
  have h2 : decide ((s.length : Int) = 2) = true → s.cps.toList.length = 2 := fun e => by
    have := of_decide_eq_true e
    rw [← str_list_len]
    omega
  refine ev_and (ev_op (ev_cb (eva_cons (ev_var h) eva_nil) (evc_lenS hs)) ev_c evo_eqI) fun e => ?_
  have l2 := h2 e
  refine ev_and (ev_op (ev_op (ev_var h) ev_c (evo_ixS hs (c := c0 s) ?_)) ev_c evo_inC) fun _ => (ev_op (ev_op (ev_var h) ev_c (evo_ixS hs (c := c1 s) ?_)) ev_c evo_inC)
  · unfold c0
    match s.cps.toList, l2 with
    | [a, b], _ => rfl
  · unfold c1
    match s.cps.toList, l2 with
    | [a, b], _ => rfl
theorem ev_valW {rho : DEnv} {mu : List Cell} {s : Str} {v : Nat} (h : rho[v]? = some (some (.py (.str s)))) (hs : s.length ≤ sizeLine) (hk : okW s = true) :
    Ev (dOp oAdd (dOp oMul (dC (.int 16)) (dM "str" mSIndex (dC (.str "0123456789abcdef")) (dCons (dOp oIx (dVar v) (dC (.int 0))) dNil))) (dM "str" mSIndex (dC (.str "0123456789abcdef")) (dCons (dOp oIx (dVar v) (dC (.int 1))) dNil))) rho mu (.py (.int (valW s))) := by
  unfold okW at hk
  simp only [Bool.and_eq_true, decide_eq_true_eq] at hk
  obtain ⟨hl, h1, h2⟩ := hk
  have l2 : s.cps.toList.length = 2 := by rw [← str_list_len]; omega
  obtain ⟨i, o1, e1, hi⟩ := occ_at h1
  obtain ⟨j, o2, e2, hj⟩ := occ_at h2
  unfold valW
  rw [e1, e2]
  refine ev_op (ev_op ev_c (ev_m ev_c rfl (eva_cons (ev_op (ev_var h) ev_c (evo_ixS hs (c := c0 s) ?_)) eva_nil) (evm_sindex o1)) (evo_mul (.inl ⟨by decide, by decide⟩))) (ev_m ev_c rfl (eva_cons (ev_op (ev_var h) ev_c (evo_ixS hs (c := c1 s) ?_)) eva_nil) (evm_sindex o2)) evo_add
  · unfold c0
    match s.cps.toList, l2 with
    | [a, b], _ => rfl
  · unfold c1
    match s.cps.toList, l2 with
    | [a, b], _ => rfl
theorem lines_short {t : List Nat} {s : Str} (h : s ∈ linesOf t) : s.length ≤ t.length := by
  have h2 := PyProof.Rows.part_short (x := mkS t) (y := "\n") (a := s) (List.dropLast_subset _ h)
  rwa [mkS_len] at h2
theorem words_short {s x : Str} (h : x ∈ wordsOf s) : x.length ≤ s.length := by
  have h1 := PyProof.Rows.part_short (x := head1 (cutS s (some 6) none)) (y := " ") (a := x) h
  have h2 := (head1_split (cutS s (some 6) none)).2
  have h3 := cut6_len s
  omega
/-- how much is read -/
theorem vals_weight : ∀ l : List Str, ((l.map vals).flatten).length ≤ (l.map (·.length)).sum + 2 * l.length
  | [] => Nat.le_refl _
  | s :: r => by
    have h1 := vals_weight r
    have h2 := words_len s
    simp only [List.map_cons, List.flatten_cons, List.length_append, List.sum_cons, List.length_cons]
    have h3 : (vals s).length = (wordsOf s).length := by unfold vals; rw [List.length_map]
    omega
theorem sum_take_le : ∀ (l : List Str) (i : Nat), ((l.take i).map (·.length)).sum ≤ (l.map (·.length)).sum
  | [], i => by simp
  | s :: r, 0 => by simp
  | s :: r, i + 1 => by
    have := sum_take_le r i
    simp only [List.take_succ_cons, List.map_cons, List.sum_cons]
    omega
theorem lines_weight' (t : List Nat) : ((linesOf t).map (·.length)).sum + (linesOf t).length ≤ t.length + 1 := by
  have h := PyProof.Rows.split_weight (mkS t) "\n" (by decide)
  rw [mkS_len] at h
  have h2 := sum_take_le (Txt.split (mkS t) "\n") ((Txt.split (mkS t) "\n").length - 1)
  unfold linesOf
  rw [List.dropLast_eq_take]
  rw [List.length_take]
  omega
theorem read_len {t : List Nat} (i : Nat) : ((((linesOf t).take i).map vals).flatten).length ≤ 2 * t.length + 2 := by
  have h1 := vals_weight ((linesOf t).take i)
  have h2 := sum_take_le (linesOf t) i
  have h3 := lines_weight' t
  rw [List.length_take] at h1
  omega
theorem len_parse_dump {c : Cls} : ∀ ds mu Qd Zd, (spP (sp_parse_dump c)) ds mu Qd Zd → ds.length = 2 := by
  rintro ds mu Qd Zd ⟨_, xs, q, z, rfl, ⟨os, w, rfl, _⟩, _⟩; rfl
theorem okO_nil {os : List Int} {w : Int} (h : okO os w = true) : okO [] w = true := by
  obtain ⟨h1, h2, _⟩ := okO_w h
  unfold okO
  rw [decide_eq_true h1, decide_eq_true h2]
  rfl
theorem okO_mk {os : List Int} {w : Int} (h : okO [] w = true) (hn : os.length ≤ 65536) (hr : ∀ o ∈ os, 0 ≤ o ∧ o ≤ 255) : okO os w = true := by
  obtain ⟨h1, h2, _⟩ := okO_w h
  unfold okO
  simp only [Bool.and_eq_true, decide_eq_true_eq, Bool.not_eq_true', decide_eq_false_iff_not, List.all_map, List.all_eq_true]
  refine ⟨⟨h1, h2⟩, by omega, fun o ho => ?_⟩
  have := hr o ho
  simp only [octOk, Function.comp, id, Bool.and_eq_true, decide_eq_true_eq]
  exact this
theorem rd_parse_dump (K : PySem.W.Frag) (c : Cls) (M : Mro K c) : ∀ ds mu Qd Zd, (spP (sp_parse_dump c)) ds mu Qd Zd → t_parse_dump K c (endD Qd Zd) (startD N_parse_dump ds) mu := by
  rintro ds mu Qd Zd ⟨rfl, xs, q, z, rfl, ⟨t, w, rfl, ht, hq, hz⟩, kq, kz⟩
  cases hk : okO [] w with
  | false =>
    refine sq_dropX (evx_check (os := []) (ev_tup eva_nil rfl (Nat.zero_le _)) (ev_var rfl) (Nat.zero_le _) hk) (kz _ (hz fun os h => ?_) _)
    rw [okO_nil h.1] at hk
    cases hk
  | true =>
    obtain ⟨w1, w2, _⟩ := okO_w hk
    refine sq_drop (ev_check (os := []) (ev_tup eva_nil rfl (Nat.zero_le _)) (ev_var rfl) (Nat.zero_le _) hk) ?_
    refine sq_lst eva_nil rfl (Nat.zero_le _) ?_
    have hline : (linesOf t).length ≤ sizeLine := by have := lines_weight' t; rw [sizeLine_eq]; omega
    have hit : EvI (diSeq (dSl false (dM "str" (mSplit false) (dVar 0) (dCons (dC (.str "\n")) (dNil))) (dNoPart) (dPart (dC (.int (-1)))))) ((startD N_parse_dump ([PyData.str (mkS t), .int w].map .py)).set 2 (some (.op 0))) [.lst []] ((linesOf t).map .str) (fun _ => True) := by
      refine evi_seqL ?_
      have h := ev_slL (ta := dM "str" (mSplit false) (dVar 0) (dCons (dC (.str "\n")) (dNil))) (tl := dNoPart) (th := dPart (dC (.int (-1)))) (rho := (startD N_parse_dump ([PyData.str (mkS t), .int w].map .py)).set 2 (some (.op 0))) (mu := [.lst []])
        (ev_m (ev_var rfl) rfl (eva_cons ev_c eva_nil) (evm_split rfl (by rw [mkS_len, sizeLine_eq]; omega))) rfl evp_none (evp_some ev_c)
      rw [cut_0m1, ← List.map_dropLast] at h
      exact h
    refine sq_for hit (fun i rho mu => ((linesOf t).take i).all okLine = true ∧ mu = [.lst ((((linesOf t).take i).map vals).flatten.map .int)] ∧ ∃ a b, rho = [some (.py (.str (mkS t))), some (.py (.int w)), some (.op 0), a, b, none]) ⟨rfl, rfl, none, none, rfl⟩ ?_ (fun _ _ _ => trivial) ?_
    · rintro i x rho mu N hx ⟨hall, rfl, a, b, rfl⟩ hN
      rw [List.getElem?_map] at hx
      obtain ⟨s, hs, rfl⟩ := Option.map_eq_some_iff.mp hx
      have hsm : s ∈ linesOf t := List.mem_of_getElem? hs
      have hsl : s.length ≤ 100000 := Nat.le_trans (lines_short hsm) ht
      refine ⟨trivial, ?_⟩
      have hcl := cut6_len s
      have hh1 := head1_split (cutS s (some 6) none)
      have ehd : atI ((Txt.split (cutS s (some 6) none) "  ").map PyData.str) 0 = some (.str (head1 (cutS s (some 6) none))) := by
        have := atI_nat (xs := (Txt.split (cutS s (some 6) none) "  ").map PyData.str) (j := 0) (v := .str (head1 (cutS s (some 6) none))) (by rw [List.getElem?_map, hh1.1]; rfl)
        exact this
      refine sq_set (d := .py (.list ((wordsOf s).map .str))) (ev_m (ev_op (ev_m (ev_slS (ev_var rfl) (evp_some ev_c) evp_none (by rw [sizeLine_eq]; omega)) rfl (eva_cons ev_c eva_nil) (evm_split rfl (by rw [sizeLine_eq]; omega))) ev_c (evo_ixL ehd)) rfl (eva_cons ev_c eva_nil) (evm_split rfl (by rw [sizeLine_eq]; omega))) ?_
      have hwl : ((wordsOf s).map PyData.str).length ≤ sizeLine := by have := words_len s; rw [List.length_map, sizeLine_eq]; omega
      have hws : ∀ x ∈ wordsOf s, x.length ≤ sizeLine := fun x hx => by have := words_short hx; rw [sizeLine_eq]; omega
      have hall2 := ev_lc (g := .nm 5) (vs := [5]) (rho := [some (.py (.str (mkS t))), some (.py (.int w)), some (.op 0), some (.py (.str s)), some (.py (.list ((wordsOf s).map .str))), none]) (mu := [.lst ((((linesOf t).take i).map vals).flatten.map .int)])
        (te := dAndV (dOp oEq (dCB oLen (dCons (dVar 5) dNil)) (dC (.int 2))) (dAndV (dOp oIn (dOp oIx (dVar 5) (dC (.int 0))) (dC (.str "0123456789abcdef"))) (dOp oIn (dOp oIx (dVar 5) (dC (.int 1))) (dC (.str "0123456789abcdef")))))
        (fS fun s => .bool (okW s)) (evi_seqL (ta := dVar 4) (ds := (wordsOf s).map .str) (ev_var rfl)) hwl trivial fun x hx => by
          obtain ⟨u, hu, rfl⟩ := List.mem_map.mp hx
          exact ⟨_, rfl, ev_okW rfl (hws u hu)⟩
      rw [map_fS] at hall2
      have eb : (wordsOf s).map (fun s => PyData.bool (okW s)) = ((wordsOf s).map okW).map .bool := by rw [List.map_map]; rfl
      rw [eb] at hall2
      refine sq_guard (evb_not (evb_tru (ev_cb (eva_cons hall2 eva_nil) (evc_bools rfl)) rfl)) (fun hb => ?_) (fun hb => ?_)
      · refine kz _ (hz fun os h => ?_) _
        obtain ⟨h1, h2⟩ := h
        obtain ⟨_, _, _, hr⟩ := okO_w h1
        have := (read_dump (os := os) (w := w.toNat) (by omega) hr).1
        rw [← h2, List.all_eq_true] at this
        have := this s hsm
        unfold okLine at this
        rw [List.all_map] at hb
        simp at hb
        obtain ⟨x, hx, e⟩ := hb
        rw [List.all_eq_true] at this
        rw [this x hx] at e
        cases e
      · have hok : (wordsOf s).all okW = true := by
          rw [List.all_map] at hb
          simpa using hb
        rw [List.all_eq_true] at hok
        have hv := ev_lc (g := .nm 5) (vs := [5]) (rho := [some (.py (.str (mkS t))), some (.py (.int w)), some (.op 0), some (.py (.str s)), some (.py (.list ((wordsOf s).map .str))), none]) (mu := [.lst ((((linesOf t).take i).map vals).flatten.map .int)])
          (te := dOp oAdd (dOp oMul (dC (.int 16)) (dM "str" mSIndex (dC (.str "0123456789abcdef")) (dCons (dOp oIx (dVar 5) (dC (.int 0))) dNil))) (dM "str" mSIndex (dC (.str "0123456789abcdef")) (dCons (dOp oIx (dVar 5) (dC (.int 1))) dNil)))
          (fS fun s => .int (valW s)) (evi_seqL (ta := dVar 4) (ds := (wordsOf s).map .str) (ev_var rfl)) hwl trivial fun x hx => by
            obtain ⟨u, hu, rfl⟩ := List.mem_map.mp hx
            exact ⟨_, rfl, ev_valW rfl (hws u hu) (hok u hu)⟩
        rw [map_fS] at hv
        have hg : ((linesOf t).take (i + 1)) = (linesOf t).take i ++ [s] := by rw [List.take_add_one, hs]; rfl
        have hl2 := read_len (t := t) (i + 1)
        have hl1 := read_len (t := t) i
        rw [hg] at hl2
        simp only [List.map_append, List.flatten_append, List.length_append, List.map_cons, List.map_nil, List.flatten_cons, List.flatten_nil, List.append_nil] at hl2
        have hvl : (vals s).length = (wordsOf s).length := by unfold vals; rw [List.length_map]
        refine st_extend (j := 0) rfl rfl hv rfl (by rw [List.length_map, List.length_map, sizeLine_eq]; omega) ?_
        refine hN _ _ ⟨?_, ?_, _, _, rfl⟩
        · rw [hg, List.all_append, hall]
          simp [okLine, List.all_eq_true]
          exact hok
        · show [Cell.lst _] = _
          rw [hg]
          simp only [List.map_append, List.flatten_append, List.map_cons, List.map_nil, List.flatten_cons, List.flatten_nil, List.append_nil]
          unfold vals
          rw [List.map_map (l := wordsOf s)]
          rfl
    · rintro rho mu ⟨hall, rfl, a, b, rfl⟩
      rw [List.length_map, List.take_length] at hall ⊢
      generalize hoe : ((linesOf t).map vals).flatten = os at *
      have hol : os.length ≤ 2 * t.length + 2 := by
        have := read_len (t := t) (linesOf t).length
        rwa [List.take_length, hoe] at this
      have hrng : ∀ o ∈ os, 0 ≤ o ∧ o ≤ 255 := by
        intro o ho
        rw [← hoe] at ho
        obtain ⟨l, hl, hm⟩ := List.mem_flatten.mp ho
        obtain ⟨s, hs, rfl⟩ := List.mem_map.mp hl
        unfold vals at hm
        obtain ⟨u, hu, rfl⟩ := List.mem_map.mp hm
        rw [List.all_eq_true] at hall
        have := hall s hs
        unfold okLine at this
        rw [List.all_eq_true] at this
        exact valW_rng (this u hu)
      have same : ∀ os', okO os' w = true → t = dumpL os' w.toNat → os = os' := fun os' h1 h2 => by
        obtain ⟨_, _, _, hr⟩ := okO_w h1
        rw [← hoe, h2]
        exact (read_dump (os := os') (w := w.toNat) (by omega) hr).2
      have hno : os.length > 65536 ∨ t ≠ dumpL os w.toNat → ∀ os', ¬ (okO os' w = true ∧ t = dumpL os' w.toNat) := fun h os' ⟨h1, h2⟩ => by
        have e := same os' h1 h2
        subst e
        obtain ⟨_, _, h3, _⟩ := okO_w h1
        rcases h with h | h
        · omega
        · exact h h2
      refine sq_guard (b := decide ((65536 : Int) < ((os.map PyData.int).length : Int)) || !decide (mkS (dumpL os w.toNat) = mkS t)) (evb_or (evb_tb (ev_op (ev_cb (eva_cons (ev_var rfl) eva_nil) (evc_len rfl)) ev_c evo_gt)) fun hb => ?_) (fun hb => ?_) (fun hb => ?_)
      · have hb := of_decide_eq_false hb
        rw [List.length_map] at hb
        exact evb_tb (ev_op (ev_callP (eva_cons (ev_cb (eva_cons (ev_var rfl) eva_nil) (evc_tupleL rfl)) (eva_cons (ev_var rfl) eva_nil)) rfl fun q z hq => ⟨os, w, rfl, by rw [sizeLine_eq]; omega, fun _ => hq, fun z => by rw [okO_mk hk (by omega) hrng] at z; cases z⟩) (ev_var rfl) evo_neS)
      · refine kz _ (hz (hno ?_)) _
        rw [List.length_map] at hb
        simp only [Bool.or_eq_true, decide_eq_true_eq, Bool.not_eq_true', decide_eq_false_iff_not] at hb
        rcases hb with hb | hb
        · exact .inl (by omega)
        · exact .inr fun e => hb (by rw [← e])
      · rw [List.length_map] at hb
        simp only [Bool.or_eq_false_iff, decide_eq_false_iff_not, Bool.not_eq_false', decide_eq_true_eq] at hb
        refine st_ret (ev_cb (eva_cons (ev_var rfl) eva_nil) (evc_tupleL rfl)) (kq _ (hq os (okO_mk hk (by omega) hrng) (mkS_inj hb.2).symm) _ _ (.py _ _))
theorem len_law_read {c : Cls} : ∀ ds mu Qd Zd, (spP (sp_law_read c)) ds mu Qd Zd → ds.length = 2 := by
  rintro ds mu Qd Zd ⟨_, xs, q, z, rfl, ⟨os, w, rfl, _⟩, _⟩; rfl
theorem rd_law_read (K : PySem.W.Frag) (c : Cls) (M : Mro K c) : ∀ ds mu Qd Zd, (spP (sp_law_read c)) ds mu Qd Zd → t_law_read K c (endD Qd Zd) (startD N_law_read ds) mu := by
  rintro ds mu Qd Zd ⟨rfl, xs, q, z, rfl, ⟨t, w, rfl, ht, hq, hz⟩, kq, kz⟩
  have go : ∀ E : EndsD, E.rt = (endD Qd Zd).rt → (E.ex = fun C rho mu => ∃ b, exM K c.InvalidText C = some b ∧ if b = true then dRet (dC .none) (endD Qd Zd) rho mu else (endD Qd Zd).ex C rho mu) → dRet (dCallP (sp_parse_dump c) (dCons (dVar 0) (dCons (dVar 1) dNil))) E (startD N_law_read ([PyData.str (mkS t), .int w].map .py)) [] := by
    intro E e1 e2
    refine st_retP (eva_cons (ev_var rfl) (eva_cons (ev_var rfl) eva_nil)) rfl ⟨t, w, rfl, ht, fun os h1 h2 => ?_, fun h => ?_⟩
    · rw [e1]
      exact kq _ (hq os h1 h2) _ _ (.py _ _)
    · rw [e2]
      refine ⟨true, M.m_InvalidText_InvalidText, ?_⟩
      rw [if_pos rfl]
      exact kq _ (hz h) _ _ (.py _ _)
  exact go _ rfl rfl
end Law
set_option Elab.async false
set_option linter.all false
set_option maxRecDepth 100000
set_option maxHeartbeats 4000000
namespace Law
open PySem PySem.Spec PyProof.Rows L2 DL
local macro_rules | `(tactic| walk_at "side") => `(tactic| first | rfl | assumption | decide | omega | (unfold CMul; omega) | (unfold CDiv; omega) | (simp only [Str.length_append, DL.mkS_len, Str.length, List.length_append, List.length_cons, List.length_nil, List.length_map, List.size_toArray, sizeLine_eq] at *; omega) | (rw [sizeLine_eq]; simp [Str.length]; done) | skip)
local macro_rules | `(tactic| walk_at "ev") => `(tactic| first
  | exact ev_c
  | exact ev_var rfl
  | exact eva_nil
  | (refine' eva_cons ?_ ?_ <;> walk_at "ev")
  | (refine' ev_op ?_ ?_ ?_ <;> walk_at "ev")
  | exact evo_add | exact evo_sub | exact evo_xor | (refine' evo_mul ?_ <;> walk_at "side") | (refine' evo_div ?_ <;> walk_at "side") | (refine' evo_mod ?_ <;> walk_at "side")
  | exact evo_lt | exact evo_le | exact evo_gt | exact evo_ge | exact evo_eqI | exact evo_neI | exact evo_eqS | exact evo_neS | exact evo_isN | exact evo_notN
  | (refine' evo_addS ?_ <;> walk_at "side") | (refine' evo_addT ?_ <;> walk_at "side") | (refine' evo_addL ?_ <;> walk_at "side")
  | (refine' evo_eq rfl rfl ?_ <;> walk_at "side") | (refine' evo_ne rfl rfl ?_ <;> walk_at "side")
  | (refine' evo_ixL ?_ <;> walk_at "side") | (refine' evo_ixT ?_ <;> walk_at "side") | (refine' evo_ixS ?_ ?_ <;> walk_at "side")
  | exact evo_inC
  | (refine' ev_chain ?_ ?_ ?_ (fun _ => ?_) (fun _ => ?_) <;> walk_at "ev")
  | (refine' ev_not ?_ <;> walk_at "ev") | (refine' ev_neg ?_ <;> walk_at "ev")
  | (refine' ev_and ?_ (fun _ => ?_) <;> walk_at "ev") | (refine' ev_or ?_ (fun _ => ?_) <;> walk_at "ev")
  | (refine' ev_if ?_ (fun _ => ?_) (fun _ => ?_) <;> walk_at "ev")
  | (refine' evb_tb ?_ <;> walk_at "ev") | (refine' evb_not ?_ <;> walk_at "ev") | (refine' evb_and ?_ (fun _ => ?_) <;> walk_at "ev") | (refine' evb_or ?_ (fun _ => ?_) <;> walk_at "ev")
  | (refine' evb_tru ?_ rfl <;> walk_at "ev")
  | (refine' ev_tup ?_ rfl ?_ <;> walk_at "ev") | (refine' ev_lst ?_ rfl ?_ <;> walk_at "ev")
  | (refine' ev_cb ?_ ?_ <;> walk_at "ev")
  | exact evc_len rfl | (refine' evc_lenS ?_ <;> walk_at "side") | exact evc_abs | exact evc_int | exact evc_intB | exact evc_max2 | exact evc_min2 | exact evc_list rfl | exact evc_tupleL rfl | exact evc_tupleT rfl
  | exact evp_none | (refine' evp_some ?_ <;> walk_at "ev")
  | (refine' ev_slT ?_ rfl ?_ ?_ <;> walk_at "ev") | (refine' ev_slL ?_ rfl ?_ ?_ <;> walk_at "ev") | (refine' ev_slS ?_ ?_ ?_ ?_ <;> walk_at "ev")
  | walk_at "side")
/-! ### stretches -/
abbrev pr (p : Nat × Nat) : PyData := .tuple [.int p.1, .int p.2]
def lastX (l : List (Nat × Nat)) : Nat := (l.getLast?.map (·.1)).getD 0
def lastY (l : List (Nat × Nat)) : Nat := (l.getLast?.map (·.2)).getD 0
theorem split_last {l : List (Nat × Nat)} (h : l ≠ []) : l = l.dropLast ++ [(lastX l, lastY l)] := by
  have e := List.dropLast_concat_getLast h
  have e2 : l.getLast? = some (l.getLast h) := List.getLast?_eq_some_getLast h
  conv => lhs; rw [← e]
  unfold lastX lastY
  rw [e2]
  rfl
theorem strP_app (a b : List (Nat × Nat)) : strP (a ++ b) = strP a ++ strP b := List.map_append
theorem strP_len (a : List (Nat × Nat)) : (strP a).length = a.length := List.length_map _
theorem at_last {l : List (Nat × Nat)} (h : l ≠ []) : atI (strP l) (-1) = some (.tuple [.int (lastX l), .int (lastY l)]) ∧ ixN (strP l).length (-1) = some (l.length - 1) ∧ ∀ p : Nat × Nat, (strP l).set (l.length - 1) (pr p) = strP (l.dropLast ++ [p]) := by
  have hl : 0 < l.length := List.length_pos_iff.mpr h
  have e := split_last h
  have en : ixN (strP l).length (-1) = some (l.length - 1) := by
    rw [strP_len]
    unfold ixN
    rw [if_neg (by decide), if_pos (by omega)]
    congr 1
    omega
  refine ⟨?_, en, fun p => ?_⟩
  · unfold atI
    rw [en]
    show (strP l)[l.length - 1]? = _
    have e2 : (strP l)[l.length - 1]? = (strP (l.dropLast ++ [(lastX l, lastY l)]))[l.length - 1]? := by rw [← e]
    rw [e2, strP_app, List.getElem?_append_right (by rw [strP_len, List.length_dropLast]; exact Nat.le_refl _), strP_len, List.length_dropLast, Nat.sub_self]
    rfl
  · have e2 : (strP l).set (l.length - 1) (pr p) = (strP (l.dropLast ++ [(lastX l, lastY l)])).set (l.length - 1) (pr p) := by rw [← e]
    rw [e2, strP_app, List.set_append_right _ _ (by rw [strP_len, List.length_dropLast]; exact Nat.le_refl _), strP_len, List.length_dropLast, Nat.sub_self, strP_app]
    rfl
/-- the last stretch ends here -/
def ends (l : List (Nat × Nat)) (n : Nat) : Bool := !l.isEmpty && decide ((lastY l : Int) = (n : Int))
theorem stre_succ (a b : List Int) (n : Nat) : stre a b (n + 1) = if a[n]? = b[n]? then stre a b n else if ends (stre a b n) n = true then (stre a b n).dropLast ++ [(lastX (stre a b n), n + 1)] else stre a b n ++ [(n, n + 1)] := by
  rw [stre]
  split
  · rfl
  · generalize stre a b n = l
    cases hl : l.getLast? with
    | none =>
      have : l = [] := List.getLast?_eq_none_iff.mp hl
      subst this
      rfl
    | some p =>
      obtain ⟨x, y⟩ := p
      have ex : lastX l = x := by unfold lastX; rw [hl]; rfl
      have ey : lastY l = y := by unfold lastY; rw [hl]; rfl
      have hne : l.isEmpty = false := by
        cases l with
        | nil => cases hl
        | cons _ _ => rfl
      unfold ends
      rw [hne, ex, ey]
      by_cases h : y = n
      · subst h
        simp
      · have h2 : ¬ ((y : Int) = (n : Int)) := by omega
        simp [h, h2]
theorem stre_len (a b : List Int) : ∀ n, (stre a b n).length ≤ n
  | 0 => Nat.le_refl _
  | n + 1 => by
    have ih := stre_len a b n
    rw [stre_succ]
    split
    · omega
    · split
      · simp; omega
      · simp; omega
theorem stre_self (a : List Int) : ∀ n, stre a a n = []
  | 0 => rfl
  | n + 1 => by rw [stre_succ, if_pos rfl, stre_self a n]
/-- Python's equality of data lists -/
theorem eqvAll_ints : ∀ a b : List Int, PyData.eqvAll (a.map .int) (b.map .int) = decide (a = b)
  | [], [] => rfl
  | [], _ :: _ => rfl
  | _ :: _, [] => rfl
  | x :: a, y :: b => by
    simp only [List.map_cons, PyData.eqvAll, eqv_int, eqvAll_ints a b]
    by_cases h1 : x = y <;> by_cases h2 : a = b <;> simp [h1, h2]
theorem eqv_tupI (a b : List Int) : PyData.eqv (.tuple (a.map .int)) (.tuple (b.map .int)) = decide (a = b) := by
  rw [← eqvAll_ints]
  rfl
theorem lay_ints : ∀ a : List Int, PyData.canLayAll0 (a.map .int) = true
  | [] => rfl
  | _ :: a => by simp [PyData.canLayAll0, PyData.canLay0, lay_ints a]
theorem depth_ints : ∀ a : List Int, PyData.depthAll (a.map .int) ≤ 1
  | [] => by simp [PyData.depthAll]
  | _ :: a => by
    have := depth_ints a
    simp [PyData.depthAll, PyData.depth]
    omega
theorem shaped_tupI (a : List Int) : SeqAt.shaped (.tuple (a.map .int)) = true := by
  have h := depth_ints a
  simp [SeqAt.shaped, PyData.canLay0, PyData.depth, lay_ints a]
  omega
theorem take1 {a b : List Int} {n : Nat} : (a.drop n).take 1 = (b.drop n).take 1 ↔ a[n]? = b[n]? := by
  have e : ∀ l : List Int, (l.drop n).take 1 = l[n]?.toList := fun l => by
    rw [List.take_one, List.head?_drop]
  rw [e, e]
  cases a[n]? <;> cases b[n]? <;> simp
theorem len_differences {c : Cls} : ∀ ds mu Qd Zd, (spL (sp_differences c)) ds mu Qd Zd → ds.length = 2 := by
  rintro ds mu Qd Zd ⟨_, xs, q, z, rfl, ⟨a, b, rfl, _⟩, _⟩; rfl
theorem rd_differences (K : PySem.W.Frag) (c : Cls) (M : Mro K c) : ∀ ds mu Qd Zd, (spL (sp_differences c)) ds mu Qd Zd → t_differences K c (endD Qd Zd) (startD N_differences ds) mu := by
  rintro ds mu Qd Zd ⟨rfl, xs, q, z, rfl, ⟨a, b, rfl, ha, hb, hq⟩, kq, kz⟩
  refine sq_lst eva_nil rfl (Nat.zero_le _) ?_
  refine sq_for (evi_r1 (eva_cons (ev_cb (eva_cons (ev_cb (eva_cons (ev_var rfl) eva_nil) (evc_len rfl)) (eva_cons (ev_cb (eva_cons (ev_var rfl) eva_nil) (evc_len rfl)) eva_nil)) evc_max2) eva_nil) ?_)
    (fun i rho mu => mu = [.lst (strP (stre a b i))] ∧ ∃ x, rho = [some (.py (.tuple (a.map .int))), some (.py (.tuple (b.map .int))), some (.op 0), x]) ⟨rfl, none, rfl⟩ ?_ (fun _ _ _ => trivial) ?_
  · rw [List.length_map, List.length_map]; omega
  · rintro i x rho mu N hx ⟨rfl, x0, rfl⟩ hN
    obtain ⟨hi, rfl⟩ := range_get hx
    rw [List.length_map, List.length_map] at hi
    have ea : (0 : Int) + (i : Int) * 1 = (i : Int) := by omega
    rw [ea]
    refine ⟨trivial, ?_⟩
    have sl : ∀ (l : List Int) (v : Nat) (rho : DEnv), rho[v]? = some (some (.py (.tuple (l.map .int)))) → rho[3]? = some (some (.py (.int (i : Int)))) → Ev (dSl false (dVar v) (dPart (dVar 3)) (dPart (dOp oAdd (dVar 3) (dC (.int 1))))) rho [.lst (strP (stre a b i))] (.py (.tuple (((l.drop i).take 1).map .int))) := fun l v rho h1 h2 => by
      have h := ev_slT (ev_var h1) rfl (evp_some (ev_var h2)) (evp_some (ev_op (ev_var h2) (ev_c (p := .int 1)) evo_add)) (mu := [.lst (strP (stre a b i))])
      rw [show (i : Int) + 1 = ((i + 1 : Nat) : Int) by omega, cut_nn, ← List.map_drop, ← List.map_take, show i + 1 - i = 1 by omega] at h
      exact h
    have hlen := stre_len a b i
    refine st_if (b := !decide (a[i]? = b[i]?)) ?_ (fun hb => ?_) (fun hb => ?_)
    · have h := evb_tb (ev_op (sl a 0 [some (.py (.tuple (a.map .int))), some (.py (.tuple (b.map .int))), some (.op 0), some (.py (.int (i : Int)))] rfl rfl) (sl b 1 _ rfl rfl) (evo_ne rfl rfl (.inr ⟨shaped_tupI _, shaped_tupI _⟩)))
      rw [eqv_tupI] at h
      have e : decide ((a.drop i).take 1 = (b.drop i).take 1) = decide (a[i]? = b[i]?) := by
        rw [Bool.eq_iff_iff, decide_eq_true_eq, decide_eq_true_eq]
        exact take1
      rw [e] at h
      exact h
    · have hne : ¬ a[i]? = b[i]? := by simpa using hb
      have hs := stre_succ a b i
      rw [if_neg hne] at hs
      refine st_if (b := ends (stre a b i) i) ?_ (fun he => ?_) (fun he => ?_)
      · have e : ends (stre a b i) i = (!(strP (stre a b i)).isEmpty && decide ((lastY (stre a b i) : Int) = (i : Int))) := by
          unfold ends strP
          rw [List.isEmpty_map]
        rw [e]
        refine evb_and (evb_tru (ev_var rfl) rfl) fun hn => evb_tb (ev_op (ev_op (ev_op (ev_var rfl) ev_c (evo_ixO rfl (at_last ?_).1)) ev_c (evo_ixT rfl)) (ev_var rfl) evo_eqI)
        intro z
        rw [z] at hn
        cases hn
      · rw [if_pos he] at hs
        have hnn : stre a b i ≠ [] := fun z => by rw [z] at he; cases he
        obtain ⟨l1, l2, l3⟩ := at_last hnn
        refine st_setO (j := 0) (ev_tup (eva_cons (ev_op (ev_op (ev_var rfl) ev_c (evo_ixO rfl l1)) ev_c (evo_ixT rfl)) (eva_cons (ev_op (ev_var rfl) ev_c evo_add) eva_nil)) rfl (by rw [sizeLine_eq]; exact (by decide : 2 ≤ 16777216))) rfl rfl ev_c l2 ?_
        refine hN _ _ ⟨?_, _, rfl⟩
        rw [hs, ← l3 (lastX (stre a b i), i + 1)]
        rfl
      · rw [if_neg (by rw [he]; exact Bool.false_ne_true)] at hs
        refine st_append (j := 0) rfl rfl (ev_tup (eva_cons (ev_var rfl) (eva_cons (ev_op (ev_var rfl) ev_c evo_add) eva_nil)) rfl (by rw [sizeLine_eq]; exact (by decide : 2 ≤ 16777216))) (by rw [strP_len, sizeLine_eq]; omega) ?_
        refine hN _ _ ⟨?_, _, rfl⟩
        rw [hs, strP_app]
        rfl
    · have heq : a[i]? = b[i]? := by simpa using hb
      refine hN _ _ ⟨?_, _, rfl⟩
      rw [stre_succ, if_pos heq]
  · rintro rho mu ⟨rfl, x, rfl⟩
    rw [range_len]
    refine st_ret (ev_var rfl) (kq _ ?_ _ _ (.lst rfl))
    have e : (max ((a.map PyData.int).length : Int) ((b.map PyData.int).length : Int)).toNat = max a.length b.length := by rw [List.length_map, List.length_map]; omega
    rw [e]
    exact hq
/-! ### another width -/
theorem told_len_eq {row : List Int} (h : row ≠ []) : (told row).length + 1 = row.length * 3 := by
  unfold told
  induction row with
  | nil => exact absurd rfl h
  | cons o r ih =>
    cases r with
    | nil => rfl
    | cons o2 r2 =>
      have := ih (by simp)
      show (two o ++ [32] ++ joinL [32] ((o2 :: r2).map two)).length + 1 = _
      rw [List.length_append]
      have e : (two o ++ [32]).length = 3 := rfl
      rw [e]
      simp only [List.length_cons] at this ⊢
      omega
theorem body_len {p : Int} {row : List Int} (h : row ≠ []) : (body p row).length = 4 * row.length + 7 := by
  have := told_len_eq h
  unfold body
  simp only [List.length_append, List.length_map, List.length_cons, List.length_nil]
  have e : (place p).length = 4 := rfl
  omega
theorem other_width {os os' : List Int} {m m' : Nat} (h1 : 1 ≤ m) (h2 : m ≤ 32) (hm : m' = m % 32 + 1) (hr : ∀ o ∈ os, 0 ≤ o ∧ o < 256) (hr' : ∀ o ∈ os', 0 ≤ o ∧ o < 256) (hl : m < os.length) : dumpL os m ≠ dumpL os' m' := by
  intro e
  rw [dump_bodies, dump_bodies] at e
  have free : ∀ {os : List Int} {m : Nat}, (∀ o ∈ os, 0 ≤ o ∧ o < 256) → ∀ p ∈ bodies os m ++ [[]], 10 ∉ p := by
    intro os m hr p hp
    rcases List.mem_append.mp hp with h | h
    · unfold bodies at h
      obtain ⟨k, _, rfl⟩ := List.mem_map.mp h
      exact body_free (by omega) (rowAt_mem hr)
    · simp at h
      subst h
      simp
  have eb := joinL_inj (by simp) (by simp) (free hr) (free hr') e
  have eb := (List.append_left_inj _).mp eb
  have en : nRows os.length m = nRows os'.length m' := by
    have := congrArg List.length eb
    unfold bodies at this
    rwa [List.length_map, List.length_map, List.length_range, List.length_range] at this
  have n2 : 2 ≤ nRows os.length m := by
    unfold nRows
    exact (Nat.le_div_iff_mul_le (by omega)).mpr (by omega)
  have hm' : 1 ≤ m' := by omega
  have l' : m' < os'.length := by
    have := row_start (n := os'.length) (w := m') (k := 1) hm' (by omega)
    omega
  have e0 : body ((0 * m : Nat) : Int) (rowAt os m 0) = body ((0 * m' : Nat) : Int) (rowAt os' m' 0) := by
    have q1 : (bodies os m)[0]? = some (body ((0 * m : Nat) : Int) (rowAt os m 0)) := by
      unfold bodies
      rw [List.getElem?_map, List.getElem?_range (by omega)]
      rfl
    have q2 : (bodies os' m')[0]? = some (body ((0 * m' : Nat) : Int) (rowAt os' m' 0)) := by
      unfold bodies
      rw [List.getElem?_map, List.getElem?_range (by omega)]
      rfl
    rw [eb, q2] at q1
    exact (Option.some.inj q1).symm
  have e1 := congrArg List.length e0
  rw [body_len (rowAt_ne h1 (by omega)), body_len (rowAt_ne hm' (by omega))] at e1
  unfold rowAt at e1
  rw [List.length_take, List.length_take, List.length_drop, List.length_drop] at e1
  simp only [Nat.zero_mul] at e1
  omega
end Law
set_option Elab.async false
set_option linter.all false
set_option maxRecDepth 100000
set_option maxHeartbeats 4000000
namespace Law
open PySem PySem.Spec PyProof.Rows L2 DL
local macro_rules | `(tactic| walk_at "side") => `(tactic| first | rfl | assumption | decide | omega | (unfold CMul; omega) | (unfold CDiv; omega) | (simp only [Str.length_append, DL.mkS_len, Str.length, List.length_append, List.length_cons, List.length_nil, List.length_map, List.size_toArray, sizeLine_eq] at *; omega) | (rw [sizeLine_eq]; simp [Str.length]; done) | skip)
local macro_rules | `(tactic| walk_at "ev") => `(tactic| first
  | exact ev_c
  | exact ev_var rfl
  | exact eva_nil
  | (refine' eva_cons ?_ ?_ <;> walk_at "ev")
  | (refine' ev_op ?_ ?_ ?_ <;> walk_at "ev")
  | exact evo_add | exact evo_sub | exact evo_xor | (refine' evo_mul ?_ <;> walk_at "side") | (refine' evo_div ?_ <;> walk_at "side") | (refine' evo_mod ?_ <;> walk_at "side")
  | exact evo_lt | exact evo_le | exact evo_gt | exact evo_ge | exact evo_eqI | exact evo_neI | exact evo_eqS | exact evo_neS | exact evo_isN | exact evo_notN
  | (refine' evo_addS ?_ <;> walk_at "side") | (refine' evo_addT ?_ <;> walk_at "side") | (refine' evo_addL ?_ <;> walk_at "side")
  | (refine' evo_eq rfl rfl ?_ <;> walk_at "side") | (refine' evo_ne rfl rfl ?_ <;> walk_at "side")
  | (refine' evo_ixL ?_ <;> walk_at "side") | (refine' evo_ixT ?_ <;> walk_at "side") | (refine' evo_ixS ?_ ?_ <;> walk_at "side")
  | exact evo_inC
  | (refine' ev_chain ?_ ?_ ?_ (fun _ => ?_) (fun _ => ?_) <;> walk_at "ev")
  | (refine' ev_not ?_ <;> walk_at "ev") | (refine' ev_neg ?_ <;> walk_at "ev")
  | (refine' ev_and ?_ (fun _ => ?_) <;> walk_at "ev") | (refine' ev_or ?_ (fun _ => ?_) <;> walk_at "ev")
  | (refine' ev_if ?_ (fun _ => ?_) (fun _ => ?_) <;> walk_at "ev")
  | (refine' evb_tb ?_ <;> walk_at "ev") | (refine' evb_not ?_ <;> walk_at "ev") | (refine' evb_and ?_ (fun _ => ?_) <;> walk_at "ev") | (refine' evb_or ?_ (fun _ => ?_) <;> walk_at "ev")
  | (refine' evb_tru ?_ rfl <;> walk_at "ev")
  | (refine' ev_tup ?_ rfl ?_ <;> walk_at "ev") | (refine' ev_lst ?_ rfl ?_ <;> walk_at "ev")
  | (refine' ev_cb ?_ ?_ <;> walk_at "ev")
  | exact evc_len rfl | (refine' evc_lenS ?_ <;> walk_at "side") | exact evc_abs | exact evc_int | exact evc_intB | exact evc_max2 | exact evc_min2 | exact evc_list rfl | exact evc_tupleL rfl | exact evc_tupleT rfl
  | exact evp_none | (refine' evp_some ?_ <;> walk_at "ev")
  | (refine' ev_slT ?_ rfl ?_ ?_ <;> walk_at "ev") | (refine' ev_slL ?_ rfl ?_ ?_ <;> walk_at "ev") | (refine' ev_slS ?_ ?_ ?_ ?_ <;> walk_at "ev")
  | walk_at "side")
theorem take_go {c : Cls} {rho : DEnv} {mu : List Cell} {j : Nat} {kvs : List (PyData × PyData)} {many : Int} {ta tm : TD} {Q : QD} {Z : QX} (hj : mu[j]? = some (.dk kvs)) (hk : TapeOk kvs) (ht : Ev ta rho mu (.op j)) (hm : Ev tm rho mu (.py (.int many))) (h0 : 0 < many) (h1 : many < 1073741824)
    (k : ∀ d kvs', 0 ≤ d → d < many → TapeOk kvs' → Q (.py (.int d)) (mu.set j (.dk kvs'))) : dCallA (sp_law_take c) (dCons ta (dCons tm dNil)) rho mu Q Z :=
  ht _ _ (hm _ _ ⟨j, kvs, many, rfl, hj, hk, h0, h1, k⟩)
theorem dump_inj {os os' : List Int} {w : Int} (h : okO os w = true) (h' : okO os' w = true) (e : dumpL os w.toNat = dumpL os' w.toNat) : os = os' := by
  obtain ⟨w1, _, _, hr⟩ := okO_w h
  obtain ⟨_, _, _, hr'⟩ := okO_w h'
  have a := (read_dump (os := os) (w := w.toNat) (by omega) hr).2
  have b := (read_dump (os := os') (w := w.toNat) (by omega) hr').2
  rw [← a, ← b, e]
theorem dump_len {os : List Int} {m : Nat} (h1 : 1 ≤ m) (h2 : m ≤ 32) : (dumpL os m).length ≤ os.length * 137 := by
  have h := flat_len (ps := linesL os m) (m := 137) (lines_len h1 h2)
  have h3 : (linesL os m).length ≤ os.length := by
    unfold linesL
    rw [List.length_map, List.length_range]
    exact nRows_le h1
  have := Nat.mul_le_mul_right 137 h3
  unfold dumpL
  omega
theorem eqv_strP : ∀ l : List (Nat × Nat), PyData.eqvAll (strP l) (strP l) = true
  | [] => rfl
  | p :: l => by
    have ih := eqv_strP l
    unfold strP at ih ⊢
    simp [PyData.eqvAll, PyData.eqv, ih]
theorem lay_strP : ∀ l : List (Nat × Nat), PyData.canLayAll0 (strP l) = true
  | [] => rfl
  | p :: l => by
    have ih := lay_strP l
    unfold strP at ih ⊢
    simp [PyData.canLayAll0, PyData.canLay0, ih]
theorem depth_strP : ∀ l : List (Nat × Nat), PyData.depthAll (strP l) ≤ 10
  | [] => by simp [strP, PyData.depthAll]
  | p :: l => by
    have ih := depth_strP l
    unfold strP at ih ⊢
    simp [PyData.depthAll, PyData.depth]
    omega
theorem shaped_strP (l : List (Nat × Nat)) : SeqAt.shaped (.list (strP l)) = true := by
  have h := depth_strP l
  simp [SeqAt.shaped, PyData.canLay0, PyData.depth, lay_strP l]
  omega
def gD (l : List Int) (i : Nat) : Int := (l[i]?).getD (-1)
theorem gD_eq {a b : List Int} {i : Nat} (ha : ∀ o ∈ a, 0 ≤ o ∧ o < 256) (hb : ∀ o ∈ b, 0 ≤ o ∧ o < 256) : gD a i = gD b i ↔ a[i]? = b[i]? := by
  unfold gD
  cases h1 : a[i]? with
  | none =>
    cases h2 : b[i]? with
    | none => simp
    | some y =>
      have := hb y (List.mem_of_getElem? h2)
      simp
      omega
  | some x =>
    have := ha x (List.mem_of_getElem? h1)
    cases h2 : b[i]? with
    | none => simp; omega
    | some y => simp
theorem ev_gD {rho : DEnv} {mu : List Cell} {l : List Int} {i v : Nat} (h : rho[v]? = some (some (.py (.tuple (l.map .int))))) (h2 : rho[6]? = some (some (.py (.int (i : Int))))) :
    Ev (dIf (dTb (dOp oLt (dVar 6) (dCB oLen (dCons (dVar v) dNil)))) (dOp oIx (dVar v) (dVar 6)) (dC (.int (-1)))) rho mu (.py (.int (gD l i))) := by
  have hc : EvB (dTb (dOp oLt (dVar 6) (dCB oLen (dCons (dVar v) dNil)))) rho mu (decide ((i : Int) < ((l.map PyData.int).length : Int))) := evb_tb (ev_op (ev_var h2) (ev_cb (eva_cons (ev_var h) eva_nil) (evc_len rfl)) evo_lt)
  intro Q Z k
  refine hc _ _ ?_
  rw [List.length_map]
  by_cases hi : i < l.length
  · rw [if_pos (decide_eq_true (by omega))]
    have e : gD l i = l[i] := by unfold gD; rw [List.getElem?_eq_getElem hi]; rfl
    rw [e] at k
    exact (ev_op (ev_var h) (ev_var h2) (evo_ixT (atI_nat (by simp [hi])))) _ _ k
  · rw [if_neg (by rw [decide_eq_true_eq]; omega)]
    have e : gD l i = -1 := by unfold gD; rw [List.getElem?_eq_none (by omega)]; rfl
    rw [e] at k
    exact k
theorem sgAt : ∀ n : _root_.Fin 24, ∃ x : Nat, atI ("0123456789abcdef: .\ngAZ~" : Str).cps.toList ((n.val : Nat) : Int) = some x := by
  intro n
  have : (atI ("0123456789abcdef: .\ngAZ~" : Str).cps.toList ((n.val : Nat) : Int)).isSome = true := by revert n; decide +kernel
  exact Option.isSome_iff_exists.mp this
theorem rep7 (n : Nat) : (List.replicate n [PyData.int 7]).flatten = (List.replicate n (7 : Int)).map .int := by
  induction n with
  | zero => rfl
  | succ n ih => rw [List.replicate_succ, List.flatten_cons, ih]; rfl
theorem rd_law (K : PySem.W.Frag) (c : Cls) (M : Mro K c) : ∀ ds mu Qd Zd, sdLaw ds mu Qd Zd → t_law K c (endD Qd Zd) (startD N_law ds) mu := by
  rintro ds mu Qd Zd ⟨ns, hn, _, rfl, rfl, kq⟩
  refine go_set (go_callA ((eva_cons (ev_var rfl) eva_nil) _ _ ⟨ns, rfl, hn, fun kvs hk => ?_⟩))
  -- width
  refine go_set (go_op (ev_c _ _ (take_go (j := 0) rfl hk (ev_var rfl) ev_c (by decide) (by decide) fun d kvs d0 d1 hk => ?_)))
  refine evo_add _ ?_
  obtain ⟨m, hm⟩ : ∃ m : Nat, 1 + d = (m : Int) := ⟨(1 + d).toNat, by omega⟩
  rw [hm]
  have m1 : 1 ≤ m := by omega
  have m2 : m ≤ 32 := by omega
  -- octets
  refine go_set (go_cb (go_cons (go_lc (go_r1 (go_cons (take_go (j := 0) rfl hk (ev_var rfl) ev_c (by decide) (by decide) fun n kvs n0 n1 hk => ?_))))))
  refine go_nil ⟨⟨by omega, by omega⟩, by rw [range_len, sizeLine_eq]; omega, ?_⟩
  refine lcL_inv (fun i acc mm => ∃ kvs os, TapeOk kvs ∧ mm = [.dk kvs] ∧ acc = os.map .int ∧ os.length = i ∧ ∀ o ∈ os, (0 : Int) ≤ o ∧ o < 256) ⟨kvs, [], hk, rfl, rfl, rfl, by simp⟩ ?_ ?_
  · rintro i x acc mm N hx ⟨kvs, os, hk, rfl, rfl, hl, ho⟩ hN
    refine ⟨trivial, ?_⟩
    simp only [tgD, dYes, reduceIte]
    refine go_op (go_lst (go_cons (take_go (j := 0) rfl hk (ev_var rfl) ev_c (by decide) (by decide) fun a kvs a0 a1 hk => ?_)))
    refine go_cons (go_op (ev_c _ _ (take_go (j := 0) rfl hk (ev_var rfl) ev_c (by decide) (by decide) fun b kvs b0 b1 hk => ?_)))
    refine evo_add _ ?_
    refine go_nil ⟨by rw [sizeLine_eq]; exact (by decide : 2 ≤ 16777216), ?_⟩
    refine rstF ?_
    refine take_go (j := 0) rfl hk (ev_var rfl) ev_c (by decide) (by decide) fun e kvs e0 e1 hk => ?_
    have he : e = 0 ∨ e = 1 := by omega
    rcases he with rfl | rfl
    · refine evo_ixL (p := .int a) rfl _ ?_
      exact hN _ _ ⟨kvs, os ++ [a], hk, rfl, by simp, by simp [hl], fun o ho2 => by
        rcases List.mem_append.mp ho2 with h | h
        · exact ho o h
        · simp at h; subst h; exact ⟨a0, a1⟩⟩
    · refine evo_ixL (p := .int (32 + b)) rfl _ ?_
      exact hN _ _ ⟨kvs, os ++ [32 + b], hk, rfl, by simp, by simp [hl], fun o ho2 => by
        rcases List.mem_append.mp ho2 with h | h
        · exact ho o h
        · simp at h; subst h; omega⟩
  rintro acc mm ⟨kvs, os, hk, rfl, rfl, hl, hr⟩
  rw [range_len] at hl
  refine ⟨trivial, rstF (go_nil (evc_tupleL rfl _ ?_))⟩
  have hos : os.length ≤ 100 := by omega
  have hok : okO os (m : Int) = true := okO_mk (by unfold okO; rw [decide_eq_true (show (1 : Int) ≤ (m : Int) by omega), decide_eq_true (show (m : Int) ≤ 32 by omega)]; rfl) (by omega) fun o ho => by have := hr o ho; omega
  -- text
  refine sq_set (ev_callP (p := .str (mkS (dumpL os m))) (eva_cons (ev_var rfl) (eva_cons (ev_var rfl) eva_nil)) rfl fun q z hq => ⟨os, m, rfl, hok, hq⟩) ?_
  have hT : (dumpL os m).length ≤ 13700 := by have := dump_len (os := os) m1 m2; omega
  generalize hTe : dumpL os m = T at *
  -- dump and parse
  refine sq_guard (b := !decide (mkS T = mkS T) || !PyData.eqv (.tuple (os.map .int)) (.tuple (os.map .int))) (evb_or (evb_tb (ev_op (ev_callP (p := .str (mkS T)) (eva_cons (ev_var rfl) (eva_cons (ev_var rfl) eva_nil)) rfl fun q z hq => ⟨os, m, rfl, by rw [sizeLine_eq]; omega, fun _ => by rw [Int.toNat_natCast, hTe]; exact hq, fun e => by rw [hok] at e; cases e⟩) (ev_var rfl) evo_neS)) fun _ =>
    evb_tb (ev_op (ev_callP (p := .tuple (os.map .int)) (eva_cons (ev_var rfl) (eva_cons (ev_var rfl) eva_nil)) rfl fun q z hq => ⟨T, m, rfl, by omega, fun os' h1 h2 => by
      rw [← hTe, ← Int.toNat_natCast m] at h2
      rw [← dump_inj hok h1 h2]
      exact hq, fun h => absurd ⟨hok, by rw [Int.toNat_natCast, hTe]⟩ (h os)⟩) (ev_var rfl) (evo_ne rfl rfl (.inr ⟨shaped_tupI _, shaped_tupI _⟩)))) (fun hb => ?_) (fun _ => ?_)
  · rw [eqv_tupI] at hb
    simp at hb
  -- bent texts
  refine sq_for (evi_r1 (eva_cons ev_c eva_nil) (by decide)) (fun i rho mu => ∃ kvs, TapeOk kvs ∧ mu = [.dk kvs] ∧ ∃ a b c d e, rho = [some (.sc (ns.map .int)), some (.op 0), some (.py (.int (m : Int))), some (.py (.tuple (os.map .int))), some (.py (.str (mkS T))), a, b, c, d, e, none, none, none, none]) ⟨kvs, hk, rfl, none, none, none, none, none, rfl⟩ ?_ (fun _ _ _ => trivial) ?_
  · rintro i x rho mu N hx ⟨kvs, hk, rfl, x5, x6, x7, x8, x9, rfl⟩ hN
    refine ⟨trivial, ?_⟩
    refine go_set (take_go (j := 0) rfl hk (ev_var rfl) (ev_op (ev_cb (eva_cons (ev_var rfl) eva_nil) (evc_lenS (by rw [mkS_len, sizeLine_eq]; omega))) ev_c evo_add) (by rw [mkS_len]; omega) (by rw [mkS_len]; omega) fun at_ kvs at0 at1 hk => ?_)
    obtain ⟨a, rfl⟩ : ∃ a : Nat, at_ = (a : Int) := ⟨at_.toNat, by omega⟩
    rw [mkS_len] at at1
    refine go_set (go_op (ev_c _ _ (take_go (j := 0) rfl hk (ev_var rfl) ev_c (by decide) (by decide) fun s kvs s0 s1 hk => ?_)))
    obtain ⟨ch, hch⟩ := sgAt ⟨s.toNat, by omega⟩
    rw [show (((⟨s.toNat, by omega⟩ : _root_.Fin 24).val : Nat) : Int) = s by show ((s.toNat : Nat) : Int) = s; omega] at hch
    refine evo_ixS (by rw [sizeLine_eq]; decide) hch _ ?_
    have sT : (mkS T).length ≤ sizeLine := by rw [mkS_len, sizeLine_eq]; omega
    have cat : ∀ {x y : List Nat}, x.length + y.length ≤ 60000 → (mkS x).length + (mkS y).length ≤ sizeLine := fun h => by rw [mkS_len, mkS_len, sizeLine_eq]; omega
    -- the three ways
    have f1 : ∀ (rho : DEnv) (mu : List Cell), rho[4]? = some (some (.py (.str (mkS T)))) → rho[6]? = some (some (.py (.int (a : Int)))) → Ev (dSl false (dVar 4) dNoPart (dPart (dVar 6))) rho mu (.py (.str (mkS (T.take a)))) := fun rho mu h4 h6 => by
      have h := ev_slS (rho := rho) (mu := mu) (ev_var h4) evp_none (evp_some (ev_var h6)) sT
      rwa [cutS_0n] at h
    have f2 : ∀ (rho : DEnv) (mu : List Cell), rho[4]? = some (some (.py (.str (mkS T)))) → rho[6]? = some (some (.py (.int (a : Int)))) → Ev (dSl false (dVar 4) (dPart (dOp oAdd (dVar 6) (dC (.int 1)))) dNoPart) rho mu (.py (.str (mkS (T.drop (a + 1))))) := fun rho mu h4 h6 => by
      have h := ev_slS (rho := rho) (mu := mu) (ev_var h4) (evp_some (ev_op (ev_var h6) (ev_c (p := .int 1)) evo_add)) evp_none sT
      rwa [show (a : Int) + 1 = ((a + 1 : Nat) : Int) by omega, cutS_n0] at h
    have f3 : ∀ (rho : DEnv) (mu : List Cell), rho[4]? = some (some (.py (.str (mkS T)))) → rho[6]? = some (some (.py (.int (a : Int)))) → Ev (dSl false (dVar 4) (dPart (dVar 6)) dNoPart) rho mu (.py (.str (mkS (T.drop a)))) := fun rho mu h4 h6 => by
      have h := ev_slS (rho := rho) (mu := mu) (ev_var h4) (evp_some (ev_var h6)) evp_none sT
      rwa [cutS_n0] at h
    have l1 : (T.take a).length ≤ T.length := by rw [List.length_take]; omega
    have l2 : (T.drop (a + 1)).length ≤ T.length := by rw [List.length_drop]; omega
    have l3 : (T.drop a).length ≤ T.length := by rw [List.length_drop]; omega
    have g1 := ev_op (f1 [some (.sc (ns.map .int)), some (.op 0), some (.py (.int (m : Int))), some (.py (.tuple (os.map .int))), some (.py (.str (mkS T))), some (.py x), some (.py (.int (a : Int))), some (.py (.str (mkS [ch]))), x8, x9, none, none, none, none] [.dk kvs] rfl rfl) (f2 _ _ rfl rfl) (evo_addS (cat (by omega)))
    have g2 := ev_op (ev_op (f1 [some (.sc (ns.map .int)), some (.op 0), some (.py (.int (m : Int))), some (.py (.tuple (os.map .int))), some (.py (.str (mkS T))), some (.py x), some (.py (.int (a : Int))), some (.py (.str (mkS [ch]))), x8, x9, none, none, none, none] [.dk kvs] rfl rfl) (ev_var (i := 7) (d := .py (.str (mkS [ch]))) rfl) (evo_addS (cat (by simp; omega)))) (f3 _ _ rfl rfl) (evo_addS (by rw [mkS_app]; exact cat (by simp; omega)))
    have g3 := ev_op (ev_op (f1 [some (.sc (ns.map .int)), some (.op 0), some (.py (.int (m : Int))), some (.py (.tuple (os.map .int))), some (.py (.str (mkS T))), some (.py x), some (.py (.int (a : Int))), some (.py (.str (mkS [ch]))), x8, x9, none, none, none, none] [.dk kvs] rfl rfl) (ev_var (i := 7) (d := .py (.str (mkS [ch]))) rfl) (evo_addS (cat (by simp; omega)))) (f2 _ _ rfl rfl) (evo_addS (by rw [mkS_app]; exact cat (by simp; omega)))
    simp only [mkS_app] at g1 g2 g3
    refine go_set (go_op ((ev_lst (eva_cons g1 (eva_cons g2 (eva_cons g3 eva_nil))) rfl (by rw [sizeLine_eq]; exact (by decide : 3 ≤ 16777216))) _ _ (take_go (j := 0) rfl hk (ev_var rfl) ev_c (by decide) (by decide) fun e kvs e0 e1 hk => ?_)))
    obtain ⟨bl, hat, hbl⟩ : ∃ bl : List Nat, atI [PyData.str (mkS (T.take a ++ T.drop (a + 1))), .str (mkS (T.take a ++ [ch] ++ T.drop a)), .str (mkS (T.take a ++ [ch] ++ T.drop (a + 1)))] e = some (.str (mkS bl)) ∧ bl.length ≤ 30000 := by
      have he : e = 0 ∨ e = 1 ∨ e = 2 := by omega
      rcases he with rfl | rfl | rfl
      · exact ⟨_, rfl, by simp; omega⟩
      · exact ⟨_, rfl, by simp; omega⟩
      · exact ⟨_, rfl, by simp; omega⟩
    refine evo_ixL hat _ ?_
    refine sq_setP (eva_cons (ev_var rfl) (eva_cons (ev_var rfl) eva_nil)) rfl ⟨bl, m, rfl, by omega, fun os' h1 h2 => ?_, fun h => ?_⟩
    · refine st_if (b := true && !decide (mkS bl = mkS bl)) (evb_and (evb_tb (ev_op (ev_var rfl) ev_c evo_notN)) fun _ => evb_tb (ev_op (ev_callP (p := .str (mkS bl)) (eva_cons (ev_var rfl) (eva_cons (ev_var rfl) eva_nil)) rfl fun q z hq => ⟨os', m, rfl, h1, by rw [← h2]; exact hq⟩) (ev_var rfl) evo_neS)) (fun hb => ?_) (fun _ => ?_)
      · simp at hb
      · exact hN _ _ ⟨kvs, hk, rfl, _, _, _, _, _, rfl⟩
    · refine st_if (b := false && false) (evb_and (evb_tb (ev_op (ev_var rfl) ev_c evo_notN)) fun z => by cases z) (fun hb => ?_) (fun _ => ?_)
      · cases hb
      · exact hN _ _ ⟨kvs, hk, rfl, _, _, _, _, _, rfl⟩
  rintro rho mu ⟨kvs, hk, rfl, x5, x6, x7, x8, x9, rfl⟩
  -- another width
  refine sq_guard (b := decide ((m : Int) < ((os.map PyData.int).length : Int)) && false) (evb_and (evb_tb (ev_op (ev_cb (eva_cons (ev_var rfl) eva_nil) (evc_len rfl)) (ev_var rfl) evo_gt)) fun hb => evb_tb (ev_op (ev_callP (p := .none) (eva_cons (ev_var rfl) (eva_cons (ev_op (ev_op (ev_cb (eva_cons (ev_var rfl) eva_nil) evc_int) ev_c (evo_mod (by decide))) ev_c evo_add) eva_nil)) rfl fun q z hq => ⟨T, (m : Int) % 32 + 1, rfl, by omega, fun os' h1 h2 => ?_, fun _ => hq⟩) ev_c evo_notN)) (fun hb => ?_) (fun _ => ?_)
  · exfalso
    rw [List.length_map] at hb
    have hb := of_decide_eq_true hb
    obtain ⟨_, _, _, hr'⟩ := okO_w h1
    rw [← hTe, show ((m : Int) % 32 + 1).toNat = m % 32 + 1 by omega] at h2
    exact other_width m1 m2 rfl hr hr' (by omega) h2
  · simp at hb
  -- another row
  refine go_set (go_cb ((eva_cons (ev_var rfl) eva_nil) _ _ ?_))
  refine oListT rfl ?_
  refine go_for (go_r1 (go_cons (take_go (j := 0) rfl hk (ev_var rfl) ev_c (by decide) (by decide) fun n kvs n0 n1 hk => ?_)))
  refine go_nil ⟨⟨by omega, by omega⟩, ?_⟩
  refine forL_end (fun i rho mu => ∃ kvs ot, TapeOk kvs ∧ ot.length = os.length ∧ (∀ o ∈ ot, (0 : Int) ≤ o ∧ o < 256) ∧ mu = [.dk kvs, .lst (ot.map .int)] ∧ ∃ a, rho = [some (.sc (ns.map .int)), some (.op 0), some (.py (.int (m : Int))), some (.py (.tuple (os.map .int))), some (.py (.str (mkS T))), a, x6, x7, x8, x9, some (.op 1), none, none, none]) ⟨kvs, os, hk, rfl, hr, rfl, _, rfl⟩ ?_ (fun _ _ _ => trivial) ?_
  · rintro i x rho mu N hx ⟨kvs, ot, hk, hol, ho, rfl, x5, rfl⟩ hN
    refine ⟨trivial, ?_⟩
    refine st_if (evb_tb (ev_op (ev_cb (eva_cons (ev_var rfl) eva_nil) (evc_len rfl)) ev_c evo_gt)) (fun hb => ?_) (fun _ => hN _ _ ⟨kvs, ot, hk, hol, ho, rfl, _, rfl⟩)
    rw [List.length_map] at hb
    have hb := of_decide_eq_true hb
    refine go_asg (take_go (j := 0) rfl hk (ev_var rfl) ev_c (by decide) (by decide) fun d kvs d0 d1 hk => ?_)
    refine go_sub (j := 1) rfl ?_
    refine take_go (j := 0) rfl hk (ev_var rfl) (ev_cb (eva_cons (ev_var rfl) eva_nil) (evc_len rfl)) (by rw [List.length_map]; exact hb) (by rw [List.length_map]; omega) fun e kvs e0 e1 hk => ?_
    rw [List.length_map] at e1
    have hx : ixN (ot.map PyData.int).length e = some e.toNat := ixN_in e0 (by rw [List.length_map]; exact e1)
    refine (show (match ixN (ot.map PyData.int).length e with | some n => _ | none => False) from ?_)
    rw [hx]
    refine hN _ _ ⟨kvs, ot.set e.toNat d, hk, by simp [hol], fun o ho2 => ?_, ?_, _, rfl⟩
    · rcases List.mem_or_eq_of_mem_set ho2 with h | h
      · exact ho o h
      · subst h; exact ⟨d0, d1⟩
    · rw [List.map_set]
      rfl
  rintro rho mu ⟨kvs, ot, hk, hol, ho, rfl, x5, rfl⟩
  refine go_set (go_op (go_sl ?_))
  refine (ev_cb (eva_cons (ev_var rfl) eva_nil) (evc_tupleL rfl)) _ _ ?_
  refine evp_none _ _ ?_
  refine go_part (go_cb (go_cons (ev_c _ _ (go_cons (go_op ?_)))))
  refine (ev_cb (eva_cons (ev_var rfl) eva_nil) (evc_len rfl)) _ _ ?_
  refine take_go (j := 0) rfl hk (ev_var rfl) ev_c (by decide) (by decide) fun d kvs d0 d1 hk => ?_
  refine evo_sub _ (go_nil ?_)
  refine evc_max2 _ ?_
  have hn' : max (0 : Int) (((ot.map PyData.int).length : Int) - d) = ((max (0 : Int) (((ot.map PyData.int).length : Int) - d)).toNat : Int) := by omega
  rw [hn']
  generalize (max (0 : Int) (((ot.map PyData.int).length : Int) - d)).toNat = n'
  refine (show (fun ds : List PyData => dCB oTuple _ _ _ (fun y mu2 => oAdd (.py (.tuple ds)) y mu2 _) _) (cutD (ot.map .int) none (some (n' : Int))) from ?_)
  rw [cut_0n, ← List.map_take]
  refine go_cb (go_cons (go_op ((ev_lst (eva_cons ev_c eva_nil) rfl (by rw [sizeLine_eq]; exact (by decide : 1 ≤ 16777216))) _ _ (take_go (j := 0) rfl hk (ev_var rfl) ev_c (by decide) (by decide) fun e kvs e0 e1 hk => ?_))))
  refine evo_rep ⟨by omega, by omega, by rw [sizeLine_eq]; show 1 * e.toNat ≤ _; omega⟩ _ (go_nil (evc_tupleL rfl _ ?_))
  rw [rep7]
  refine evo_addT (by simp [sizeLine_eq]; omega) _ ?_
  rw [← List.map_append]
  generalize hoth : ot.take n' ++ List.replicate e.toNat 7 = oth
  have hothr : ∀ o ∈ oth, (0 : Int) ≤ o ∧ o < 256 := by
    intro o h
    rw [← hoth] at h
    rcases List.mem_append.mp h with h | h
    · exact ho o (List.mem_of_mem_take h)
    · have := List.eq_of_mem_replicate h; omega
  have hothl : oth.length ≤ 200 := by
    rw [← hoth]
    simp
    omega
  -- stretches
  refine sq_lst eva_nil rfl (Nat.zero_le _) ?_
  refine sq_for (evi_r1 (eva_cons (ev_cb (eva_cons (ev_cb (eva_cons (ev_var rfl) eva_nil) (evc_len rfl)) (eva_cons (ev_cb (eva_cons (ev_var rfl) eva_nil) (evc_len rfl)) eva_nil)) evc_max2) eva_nil) ?_)
    (fun i rho mu => mu = [.dk kvs, .lst (ot.map .int), .lst (strP (stre os oth i))] ∧ ∃ a b c, rho = [some (.sc (ns.map .int)), some (.op 0), some (.py (.int (m : Int))), some (.py (.tuple (os.map .int))), some (.py (.str (mkS T))), x5, a, x7, x8, x9, some (.py (.tuple (oth.map .int))), some (.op 2), b, c]) ⟨rfl, _, _, _, rfl⟩ ?_ (fun _ _ _ => trivial) ?_
  · rw [List.length_map, List.length_map]; omega
  · rintro i x rho mu N hx ⟨rfl, y6, y12, y13, rfl⟩ hN
    obtain ⟨hi, rfl⟩ := range_get hx
    rw [List.length_map, List.length_map] at hi
    have ea : (0 : Int) + (i : Int) * 1 = (i : Int) := by omega
    rw [ea]
    refine ⟨trivial, ?_⟩
    refine sq_set (ev_gD rfl rfl) ?_
    refine sq_set (ev_gD rfl rfl) ?_
    have hlen := stre_len os oth i
    have hq1 := gD_eq (i := i) hr hothr
    have hne : EvB (dTb (dOp oNe (dVar 12) (dVar 13))) [some (.sc (ns.map .int)), some (.op 0), some (.py (.int (m : Int))), some (.py (.tuple (os.map .int))), some (.py (.str (mkS T))), x5, some (.py (.int (i : Int))), x7, x8, x9, some (.py (.tuple (oth.map .int))), some (.op 2), some (.py (.int (gD os i))), some (.py (.int (gD oth i)))] [.dk kvs, .lst (ot.map .int), .lst (strP (stre os oth i))] (!decide (gD os i = gD oth i)) := evb_tb (ev_op (ev_var rfl) (ev_var rfl) evo_neI)
    have hs := stre_succ os oth i
    have hemp : decide ((0 : Int) < ((strP (stre os oth i)).length : Int)) = !(stre os oth i).isEmpty := by
      rw [strP_len]
      cases stre os oth i with
      | nil => rfl
      | cons p r => simp
    refine st_if (b := !decide (gD os i = gD oth i) && (decide ((0 : Int) < ((strP (stre os oth i)).length : Int)) && decide ((lastY (stre os oth i) : Int) = (i : Int)))) (evb_and hne fun _ => evb_and (evb_tb (ev_op (ev_cb (eva_cons (ev_var rfl) eva_nil) (evc_len rfl)) ev_c evo_gt)) fun hn => evb_tb (ev_op (ev_op (ev_op (ev_var rfl) ev_c (evo_ixO rfl (at_last (fun z => by rw [z] at hn; simp [strP] at hn)).1)) ev_c (evo_ixT rfl)) (ev_var rfl) evo_eqI)) (fun hb => ?_) (fun hb => ?_)
    · rw [hemp] at hb
      simp only [Bool.and_eq_true, Bool.not_eq_true', decide_eq_false_iff_not] at hb
      obtain ⟨hb1, hb2, hb3⟩ := hb
      rw [if_neg (fun z => hb1 (hq1.mpr z)), if_pos (show ends (stre os oth i) i = true by unfold ends; simp [hb2]; exact of_decide_eq_true hb3)] at hs
      have hnn : stre os oth i ≠ [] := fun z => by rw [z] at hb2; cases hb2
      obtain ⟨l1, l2, l3⟩ := at_last hnn
      refine st_setO (j := 2) (ev_tup (eva_cons (ev_op (ev_op (ev_var rfl) ev_c (evo_ixO rfl l1)) ev_c (evo_ixT rfl)) (eva_cons (ev_op (ev_var rfl) ev_c evo_add) eva_nil)) rfl (by rw [sizeLine_eq]; exact (by decide : 2 ≤ 16777216))) rfl rfl ev_c l2 ?_
      refine hN _ _ ⟨?_, _, _, _, rfl⟩
      rw [hs, ← l3 (lastX (stre os oth i), i + 1)]
      rfl
    · refine st_if hne (fun hb2 => ?_) (fun hb2 => ?_)
      · have hne2 : ¬ gD os i = gD oth i := by simpa using hb2
        rw [hemp] at hb
        have he : ends (stre os oth i) i = false := by
          unfold ends
          rw [hb2] at hb
          simpa using hb
        rw [if_neg (fun z => hne2 (hq1.mpr z)), if_neg (by rw [he]; exact Bool.false_ne_true)] at hs
        refine st_append (j := 2) rfl rfl (ev_tup (eva_cons (ev_var rfl) (eva_cons (ev_op (ev_var rfl) ev_c evo_add) eva_nil)) rfl (by rw [sizeLine_eq]; exact (by decide : 2 ≤ 16777216))) (by rw [strP_len, sizeLine_eq]; omega) ?_
        refine hN _ _ ⟨?_, _, _, _, rfl⟩
        rw [hs, strP_app]
        rfl
      · have heq : gD os i = gD oth i := by simpa using hb2
        rw [if_pos (hq1.mp heq)] at hs
        refine hN _ _ ⟨?_, _, _, _, rfl⟩
        rw [hs]
  rintro rho mu ⟨rfl, y6, y12, y13, rfl⟩
  rw [range_len]
  have emx : (max ((os.map PyData.int).length : Int) ((oth.map PyData.int).length : Int)).toNat = max os.length oth.length := by rw [List.length_map, List.length_map]; omega
  rw [emx]
  refine sq_guard (b := !PyData.eqv (.list (strP (stre os oth (max os.length oth.length)))) (.list (strP (stre os oth (max os.length oth.length)))) || !PyData.eqv (.list []) (.list [])) (evb_or (evb_tb (ev_op (ev_callL (es := strP (stre os oth (max os.length oth.length))) (eva_cons (ev_var rfl) (eva_cons (ev_var rfl) eva_nil)) rfl fun q z hq => ⟨os, oth, rfl, by omega, by omega, hq⟩) (ev_var rfl) (evo_ne rfl rfl (.inr ⟨shaped_strP _, shaped_strP _⟩)))) fun _ =>
    evb_tb (ev_op (ev_callL (es := []) (eva_cons (ev_var rfl) (eva_cons (ev_var rfl) eva_nil)) rfl fun q z hq => ⟨os, os, rfl, by omega, by omega, by rw [stre_self]; exact hq⟩) (ev_lst eva_nil rfl (Nat.zero_le _)) (evo_ne rfl rfl (.inr ⟨rfl, rfl⟩)))) (fun hb => ?_) (fun _ => ?_)
  · have e : PyData.eqv (.list (strP (stre os oth (max os.length oth.length)))) (.list (strP (stre os oth (max os.length oth.length)))) = true := eqv_strP _
    rw [e] at hb
    cases hb
  -- refused
  have mm := M.m_InvalidText_InvalidText
  refine sq_guard (b := !true) (evb_not (evb_tru (ev_ref (C := c.InvalidText) (evx_callP (eva_cons (ev_tup (eva_cons ev_c eva_nil) rfl (by rw [sizeLine_eq]; exact (by decide : 1 ≤ 16777216))) (eva_cons ev_c eva_nil)) rfl fun q z hz => ⟨[256], 4, rfl, by rw [sizeLine_eq]; exact (by decide : 1 ≤ 16777216), fun e => (Bool.false_ne_true ((show okO [256] 4 = false from rfl).symm.trans e)).elim, fun _ => hz⟩) mm) rfl)) (fun hb => by cases hb) (fun _ => ?_)
  refine sq_guard (b := !true) (evb_not (evb_tru (ev_ref (C := c.InvalidText) (evx_callP (eva_cons (ev_tup (eva_cons ev_c eva_nil) rfl (by rw [sizeLine_eq]; exact (by decide : 1 ≤ 16777216))) (eva_cons ev_c eva_nil)) rfl fun q z hz => ⟨[0], 0, rfl, by rw [sizeLine_eq]; exact (by decide : 1 ≤ 16777216), fun e => (Bool.false_ne_true ((show okO [0] 0 = false from rfl).symm.trans e)).elim, fun _ => hz⟩) mm) rfl)) (fun hb => by cases hb) (fun _ => ?_)
  refine st_ret (d := .py (.bool (true && PyData.eqv (.tuple []) (.tuple [])))) (ev_and (ev_ref (C := c.InvalidText) (evx_callP (eva_cons ev_c (eva_cons ev_c eva_nil)) rfl fun q z hz => ⟨[], 33, rfl, by decide, fun os' h1 _ => ?_, fun _ => hz⟩) mm) fun _ => ev_op (ev_callP (p := .tuple []) (eva_cons ev_c (eva_cons ev_c eva_nil)) rfl fun q z hq => ⟨[], 4, rfl, by decide, fun os' h1 h2 => ?_, fun h => absurd ⟨rfl, rfl⟩ (h [])⟩) (ev_tup eva_nil rfl (Nat.zero_le _)) (evo_eq rfl rfl (.inr ⟨rfl, rfl⟩))) (kq _)
  · obtain ⟨_, h, _⟩ := okO_w h1
    exact absurd h (by decide)
  · have e := dump_inj (os := []) (w := 4) rfl h1 h2
    rw [← e]
    exact hq
end Law
set_option Elab.async false
set_option linter.all false
set_option maxRecDepth 100000
set_option maxHeartbeats 4000000
namespace Law
open PySem PySem.Spec PyProof.Rows L2 DL
def top (i : Nat) : Stmt := PySem.Challenge.pw_wreckhouse_k76_dumps_of_octets.main.body.getD i (.Pass ⟨0, 0, 0, 0⟩)
abbrev s_check_octets : Stmt := top 7
abbrev s_two_signs : Stmt := top 8
abbrev s_place_signs : Stmt := top 9
abbrev s_dump_text : Stmt := top 10
abbrev s_parse_dump : Stmt := top 11
abbrev s_law_read : Stmt := top 19
abbrev s_law_take : Stmt := top 15
abbrev s_law_tape : Stmt := top 14
abbrev s_law_signs : Stmt := top 17
abbrev s_law_text : Stmt := top 18
abbrev s_differences : Stmt := top 12
abbrev s_law : Stmt := top 20
abbrev s_law_refused : Stmt := top 16
def N_law_refused : List Str := ["call"]
theorem sc_check_octets : FnScope N_check_octets ["octets", "width"] (defScope s_check_octets) := ⟨rfl, rfl, rfl, by decide +kernel, rfl, by decide +kernel, by decide +kernel⟩
theorem sc_two_signs : FnScope N_two_signs ["octet"] (defScope s_two_signs) := ⟨rfl, rfl, rfl, by decide +kernel, rfl, by decide +kernel, by decide +kernel⟩
theorem sc_place_signs : FnScope N_place_signs ["place"] (defScope s_place_signs) := ⟨rfl, rfl, rfl, by decide +kernel, rfl, by decide +kernel, by decide +kernel⟩
theorem sc_dump_text : FnScope N_dump_text ["octets", "width"] (defScope s_dump_text) := ⟨rfl, rfl, rfl, by decide +kernel, rfl, by decide +kernel, by decide +kernel⟩
theorem sc_parse_dump : FnScope N_parse_dump ["text", "width"] (defScope s_parse_dump) := ⟨rfl, rfl, rfl, by decide +kernel, rfl, by decide +kernel, by decide +kernel⟩
theorem sc_law_read : FnScope N_law_read ["text", "width"] (defScope s_law_read) := ⟨rfl, rfl, rfl, by decide +kernel, rfl, by decide +kernel, by decide +kernel⟩
theorem sc_law_take : FnScope N_law_take ["tape", "many"] (defScope s_law_take) := ⟨rfl, rfl, rfl, by decide +kernel, rfl, by decide +kernel, by decide +kernel⟩
theorem sc_law_tape : FnScope N_law_tape ["script"] (defScope s_law_tape) := ⟨rfl, rfl, rfl, by decide +kernel, rfl, by decide +kernel, by decide +kernel⟩
theorem sc_law_signs : FnScope N_law_signs ["number", "many"] (defScope s_law_signs) := ⟨rfl, rfl, rfl, by decide +kernel, rfl, by decide +kernel, by decide +kernel⟩
theorem sc_law_text : FnScope N_law_text ["octets", "width"] (defScope s_law_text) := ⟨rfl, rfl, rfl, by decide +kernel, rfl, by decide +kernel, by decide +kernel⟩
theorem sc_differences : FnScope N_differences ["first", "second"] (defScope s_differences) := ⟨rfl, rfl, rfl, by decide +kernel, rfl, by decide +kernel, by decide +kernel⟩
theorem sc_law : FnScope N_law ["script"] (defScope s_law) := ⟨rfl, rfl, rfl, by decide +kernel, rfl, by decide +kernel, by decide +kernel⟩
theorem sc_law_refused : FnScope N_law_refused ["call"] (defScope s_law_refused) := ⟨rfl, rfl, rfl, by decide +kernel, rfl, by decide +kernel, by decide +kernel⟩
structure Txt (K : PySem.W.Frag) (mg : Str → Option Value) (c : Cls) : Prop where
  z_abs : mg "abs" = none
  z_all : mg "all" = none
  z_int : mg "int" = none
  z_len : mg "len" = none
  z_list : mg "list" = none
  z_max : mg "max" = none
  z_range : mg "range" = none
  z_tuple : mg "tuple" = none
  c_MARKS : CS mg "MARKS" "!\"#$.&'()*+,-./0123456789:;<=>?@ABCDEFGHIJKLMNOPQRSTUVWXYZ[\\]^_`abcdefghijklmnopqrstuvwxyz{|}~"
  c_MOST_WIDTH : CI mg "MOST_WIDTH" 32
  c_SIGNS : CS mg "SIGNS" "0123456789abcdef"
  x_InvalidText : ExcD K mg "InvalidText" c.InvalidText
  d_check_octets : AtD K mg "check_octets" s_check_octets ["octets", "width"]
  d_two_signs : AtD K mg "two_signs" s_two_signs ["octet"]
  d_place_signs : AtD K mg "place_signs" s_place_signs ["place"]
  d_dump_text : AtD K mg "dump_text" s_dump_text ["octets", "width"]
  d_parse_dump : AtD K mg "parse_dump" s_parse_dump ["text", "width"]
  d_law_read : AtD K mg "_law_read" s_law_read ["text", "width"]
  d_law_take : AtD K mg "_law_take" s_law_take ["tape", "many"]
  d_law_tape : AtD K mg "_law_tape" s_law_tape ["script"]
  d_law_signs : AtD K mg "_law_signs" s_law_signs ["number", "many"]
  d_law_text : AtD K mg "_law_text" s_law_text ["octets", "width"]
  d_differences : AtD K mg "differences" s_differences ["first", "second"]
  d_law_refused : AtD K mg "_law_refused" s_law_refused ["call"]
  M : Mro K c
section
variable {P : Program} {w : World} {K : PySem.W.Frag} {mg : Str → Option Value} {base : Heap} {T : List (Addr × Str)} {c : Cls}
theorem b_check_octets (G : Txt K mg c) {f : Addr} {cdv : Value} {A : Around} {outer : List Env} {s : Shared} {H : Hp} {E : XK} (hr : Room 0 (A.deeper (envOfC "check_octets" (defScope s_check_octets) s.heap.objs.size f (cdv)))) :
    DSs (cxOf (L2.CX P w) P w K mg base N_check_octets "check_octets" (defScope s_check_octets) f (cdv) A outer s H E) (T) (wE E) (defBody s_check_octets) (t_check_octets K c) := by
  have tk : Takes (cxOf (L2.CX P w) P w K mg base N_check_octets "check_octets" (defScope s_check_octets) f (cdv) A outer s H E) (wE E) := takes_of rfl rfl rfl rfl
  have po : PassesOwn (model P w) (cxOf (L2.CX P w) P w K mg base N_check_octets "check_octets" (defScope s_check_octets) f (cdv) A outer s H E).A (cxOf (L2.CX P w) P w K mg base N_check_octets "check_octets" (defScope s_check_octets) f (cdv) A outer s H E).env (cxOf (L2.CX P w) P w K mg base N_check_octets "check_octets" (defScope s_check_octets) f (cdv) A outer s H E).xe := passes_of rfl
  exact (dss_one (ds_if (PW.pt (dw_or (dt_not (dt_chain op_le op_le od_le od_le de_int (dvl 1) (dgi G.c_MOST_WIDTH))) (dw_or (dt_cmp op_gt od_gt (de_len G.z_len (da_cons (dvl 0) da_nil)) de_int (nomark _)) (dw_or1 (dt_not (dt_tru (de_all rfl G.z_all (da_cons (de_lc false rfl sc_check_octets.nd (di_seq (dvl 0)) (blkOk_by (own := [("octet", 2)]) (by kernel_rfl)) (fun _ _ _ _ _ => (pgt_name sc_check_octets.nd (i := 2) rfl (Or.inl (by kernel_rfl)) (.inr (by kernel_rfl)))) (by decide) (fun _ _ _ _ _ => dts_nil) (fun _ _ _ _ _ => (de_chain op_le op_le od_le od_le de_int (dvl 2) de_int))) da_nil)))))))) (dss_one (ds_exc rfl G.x_InvalidText tk)) dss_nil))
theorem has_check_octets (G : Txt K mg c) : Has P w K mg base T 1 "check_octets" ["octets", "width"] (spP (sp_check_octets c)) := has_of G.d_check_octets sc_check_octets len_check_octets (fun f cdv A outer s H E hr => b_check_octets G hr) (rd_check_octets K c G.M)
theorem b_two_signs (G : Txt K mg c) {f : Addr} {cdv : Value} {A : Around} {outer : List Env} {s : Shared} {H : Hp} {E : XK} (hr : Room 0 (A.deeper (envOfC "two_signs" (defScope s_two_signs) s.heap.objs.size f (cdv)))) :
    DSs (cxOf (L2.CX P w) P w K mg base N_two_signs "two_signs" (defScope s_two_signs) f (cdv) A outer s H E) (T) (wE E) (defBody s_two_signs) (t_two_signs K c) := by
  have tk : Takes (cxOf (L2.CX P w) P w K mg base N_two_signs "two_signs" (defScope s_two_signs) f (cdv) A outer s H E) (wE E) := takes_of rfl rfl rfl rfl
  have po : PassesOwn (model P w) (cxOf (L2.CX P w) P w K mg base N_two_signs "two_signs" (defScope s_two_signs) f (cdv) A outer s H E).A (cxOf (L2.CX P w) P w K mg base N_two_signs "two_signs" (defScope s_two_signs) f (cdv) A outer s H E).env (cxOf (L2.CX P w) P w K mg base N_two_signs "two_signs" (defScope s_two_signs) f (cdv) A outer s H E).xe := passes_of rfl
  exact (dss_one (ds_ret (de_op op_add4 od_add (de_ix (dgs G.c_SIGNS) (de_op op_fdiv od_div (dvl 0) de_int)) (de_ix (dgs G.c_SIGNS) (de_op op_mod od_mod (dvl 0) de_int)))))
theorem has_two_signs (G : Txt K mg c) : Has P w K mg base T 1 "two_signs" ["octet"] (spP (sp_two_signs c)) := has_of G.d_two_signs sc_two_signs len_two_signs (fun f cdv A outer s H E hr => b_two_signs G hr) (rd_two_signs K c G.M)
theorem b_place_signs (G : Txt K mg c) {f : Addr} {cdv : Value} {A : Around} {outer : List Env} {s : Shared} {H : Hp} {E : XK} (hr : Room 1 (A.deeper (envOfC "place_signs" (defScope s_place_signs) s.heap.objs.size f (cdv)))) :
    DSs (cxOf (L2.CX P w) P w K mg base N_place_signs "place_signs" (defScope s_place_signs) f (cdv) A outer s H E) (T) (wE E) (defBody s_place_signs) (t_place_signs K c) := by
  have tk : Takes (cxOf (L2.CX P w) P w K mg base N_place_signs "place_signs" (defScope s_place_signs) f (cdv) A outer s H E) (wE E) := takes_of rfl rfl rfl rfl
  have po : PassesOwn (model P w) (cxOf (L2.CX P w) P w K mg base N_place_signs "place_signs" (defScope s_place_signs) f (cdv) A outer s H E).A (cxOf (L2.CX P w) P w K mg base N_place_signs "place_signs" (defScope s_place_signs) f (cdv) A outer s H E).env (cxOf (L2.CX P w) P w K mg base N_place_signs "place_signs" (defScope s_place_signs) f (cdv) A outer s H E).xe := passes_of rfl
  exact (dss_one (ds_ret (de_op op_add4 od_add (dc_P (has_two_signs G) hr tk (da_cons (de_op op_fdiv od_div (dvl 0) de_int) da_nil)) (dc_P (has_two_signs G) hr tk (da_cons (de_op op_mod od_mod (dvl 0) de_int) da_nil)))))
theorem has_place_signs (G : Txt K mg c) : Has P w K mg base T 2 "place_signs" ["place"] (spP (sp_place_signs c)) := has_of G.d_place_signs sc_place_signs len_place_signs (fun f cdv A outer s H E hr => b_place_signs G hr) (rd_place_signs K c G.M)
theorem b_dump_text (G : Txt K mg c) {f : Addr} {cdv : Value} {A : Around} {outer : List Env} {s : Shared} {H : Hp} {E : XK} (hr : Room 2 (A.deeper (envOfC "dump_text" (defScope s_dump_text) s.heap.objs.size f (cdv)))) :
    DSs (cxOf (L2.CX P w) P w K mg base N_dump_text "dump_text" (defScope s_dump_text) f (cdv) A outer s H E) (T) (wE E) (defBody s_dump_text) (t_dump_text K c) := by
  have tk : Takes (cxOf (L2.CX P w) P w K mg base N_dump_text "dump_text" (defScope s_dump_text) f (cdv) A outer s H E) (wE E) := takes_of rfl rfl rfl rfl
  have po : PassesOwn (model P w) (cxOf (L2.CX P w) P w K mg base N_dump_text "dump_text" (defScope s_dump_text) f (cdv) A outer s H E).A (cxOf (L2.CX P w) P w K mg base N_dump_text "dump_text" (defScope s_dump_text) f (cdv) A outer s H E).env (cxOf (L2.CX P w) P w K mg base N_dump_text "dump_text" (defScope s_dump_text) f (cdv) A outer s H E).xe := passes_of rfl
  exact (dss_cons (ds_expr (dc_P (has_check_octets G) hr tk (da_cons (dvl 0) (da_cons (dvl 1) da_nil)))) (dss_cons (ds_set (i := 2) sc_dump_text.nd rfl (Or.inl (by kernel_rfl)) (de_lst true da_nil)) (dss_cons (ds_for po rfl (di_r3 (gl_of (by kernel_rfl)) G.z_range (da_cons de_int (da_cons (de_len G.z_len (da_cons (dvl 0) da_nil)) (da_cons (dvl 1) da_nil)))) (pgt_name sc_dump_text.nd (i := 3) rfl (Or.inl (by kernel_rfl)) (.inl rfl)) (dss_cons (ds_set (i := 4) sc_dump_text.nd rfl (Or.inl (by kernel_rfl)) (de_sl false (dvl 0) (do_some (dvl 3)) (do_some (de_op op_add4 od_add (dvl 3) (dvl 1))))) (dss_cons (ds_set (i := 5) sc_dump_text.nd rfl (Or.inl (by kernel_rfl)) (de_join de_str (da_cons (de_lc false rfl sc_dump_text.nd (di_seq (dvl 4)) (blkOk_by (own := [("octet", 7)]) (by kernel_rfl)) (fun _ _ _ _ _ => (pgt_name sc_dump_text.nd (i := 7) rfl (Or.inl (by kernel_rfl)) (.inr (by kernel_rfl)))) (by decide) (fun _ _ _ _ _ => dts_nil) (fun _ _ _ _ _ => (dc_P (has_two_signs G) hr takes0 (da_cons (dvl 7) da_nil)))) da_nil))) (dss_cons (ds_set (i := 6) sc_dump_text.nd rfl (Or.inl (by kernel_rfl)) (de_join de_str (da_cons (de_lc false rfl sc_dump_text.nd (di_seq (dvl 4)) (blkOk_by (own := [("octet", 7)]) (by kernel_rfl)) (fun _ _ _ _ _ => (pgt_name sc_dump_text.nd (i := 7) rfl (Or.inl (by kernel_rfl)) (.inr (by kernel_rfl)))) (by decide) (fun _ _ _ _ _ => dts_nil) (fun _ _ _ _ _ => (de_if (dt_chain op_le op_le od_le od_le de_int (dvl 7) de_int) (de_ix (dgs G.c_MARKS) (de_op op_sub od_sub (dvl 7) de_int)) de_str))) da_nil))) (dss_one (ds_expr (de_append (dvl 2) (da_cons (de_op op_add4 od_add (de_op op_add4 od_add (de_op op_add4 od_add (de_op op_add4 od_add (de_op op_add4 od_add (dc_P (has_place_signs G) hr tk (da_cons (dvl 3) da_nil)) de_str) (dvl 5)) de_str) (dvl 6)) de_str) da_nil)))))))) (dss_one (ds_ret (de_join de_str (da_cons (dvl 2) da_nil)))))))
theorem has_dump_text (G : Txt K mg c) : Has P w K mg base T 3 "dump_text" ["octets", "width"] (spP (sp_dump_text c)) := has_of G.d_dump_text sc_dump_text len_dump_text (fun f cdv A outer s H E hr => b_dump_text G hr) (rd_dump_text K c G.M)
theorem b_parse_dump (G : Txt K mg c) {f : Addr} {cdv : Value} {A : Around} {outer : List Env} {s : Shared} {H : Hp} {E : XK} (hr : Room 3 (A.deeper (envOfC "parse_dump" (defScope s_parse_dump) s.heap.objs.size f (cdv)))) :
    DSs (cxOf (L2.CX P w) P w K mg base N_parse_dump "parse_dump" (defScope s_parse_dump) f (cdv) A outer s H E) (T) (wE E) (defBody s_parse_dump) (t_parse_dump K c) := by
  have tk : Takes (cxOf (L2.CX P w) P w K mg base N_parse_dump "parse_dump" (defScope s_parse_dump) f (cdv) A outer s H E) (wE E) := takes_of rfl rfl rfl rfl
  have po : PassesOwn (model P w) (cxOf (L2.CX P w) P w K mg base N_parse_dump "parse_dump" (defScope s_parse_dump) f (cdv) A outer s H E).A (cxOf (L2.CX P w) P w K mg base N_parse_dump "parse_dump" (defScope s_parse_dump) f (cdv) A outer s H E).env (cxOf (L2.CX P w) P w K mg base N_parse_dump "parse_dump" (defScope s_parse_dump) f (cdv) A outer s H E).xe := passes_of rfl
  exact (dss_cons (ds_expr (dc_P (has_check_octets G) hr tk (da_cons (de_tup da_nil) (da_cons (dvl 1) da_nil)))) (dss_cons (ds_set (i := 2) sc_parse_dump.nd rfl (Or.inl (by kernel_rfl)) (de_lst true da_nil)) (dss_cons (ds_for po rfl (di_seq (de_sl false (de_split false (dvl 0) (da_cons de_str da_nil)) do_none (do_some de_negc))) (pgt_name sc_parse_dump.nd (i := 3) rfl (Or.inl (by kernel_rfl)) (.inl rfl)) (dss_cons (ds_set (i := 4) sc_parse_dump.nd rfl (Or.inl (by kernel_rfl)) (de_split false (de_ix (de_split false (de_sl false (dvl 3) (do_some de_int) do_none) (da_cons de_str da_nil)) de_int) (da_cons de_str da_nil))) (dss_cons (ds_if (dt_not (dt_tru (de_all rfl G.z_all (da_cons (de_lc false rfl sc_parse_dump.nd (di_seq (dvl 4)) (blkOk_by (own := [("word", 5)]) (by kernel_rfl)) (fun _ _ _ _ _ => (pgt_name sc_parse_dump.nd (i := 5) rfl (Or.inl (by kernel_rfl)) (.inr (by kernel_rfl)))) (by decide) (fun _ _ _ _ _ => dts_nil) (fun _ _ _ _ _ => (de_and (de_cmp (op_eq2 (hu64 hr)) od_eq (de_len G.z_len (da_cons (dvl 5) da_nil)) de_int (nomark _)) (de_and (de_cmp (op_in3 (hu65 hr)) od_in (de_ix (dvl 5) de_int) (dgs G.c_SIGNS) (by with_unfolding_all rfl)) (de_and1 (de_cmp (op_in3 (hu65 hr)) od_in (de_ix (dvl 5) de_int) (dgs G.c_SIGNS) (by with_unfolding_all rfl))))))) da_nil)))) (dss_one (ds_exc rfl G.x_InvalidText tk)) dss_nil) (dss_one (ds_expr (de_extend (dvl 2) (da_cons (de_lc false rfl sc_parse_dump.nd (di_seq (dvl 4)) (blkOk_by (own := [("word", 5)]) (by kernel_rfl)) (fun _ _ _ _ _ => (pgt_name sc_parse_dump.nd (i := 5) rfl (Or.inl (by kernel_rfl)) (.inr (by kernel_rfl)))) (by decide) (fun _ _ _ _ _ => dts_nil) (fun _ _ _ _ _ => (de_op op_add4 od_add (de_op op_mul od_mul de_int (de_sindex (dgs G.c_SIGNS) (da_cons (de_ix (dvl 5) de_int) da_nil))) (de_sindex (dgs G.c_SIGNS) (da_cons (de_ix (dvl 5) de_int) da_nil))))) da_nil))))))) (dss_cons (ds_if (PW.pt (dw_or (dt_cmp op_gt od_gt (de_len G.z_len (da_cons (dvl 2) da_nil)) de_int (nomark _)) (dw_or1 (dt_cmp (op_ne2 (hu64 hr)) od_ne (dc_P (has_dump_text G) hr tk (da_cons (de_tuple G.z_tuple (da_cons (dvl 2) da_nil)) (da_cons (dvl 1) da_nil))) (dvl 0) (nomark _))))) (dss_one (ds_exc rfl G.x_InvalidText tk)) dss_nil) (dss_one (ds_ret (de_tuple G.z_tuple (da_cons (dvl 2) da_nil))))))))
theorem has_parse_dump (G : Txt K mg c) : Has P w K mg base T 4 "parse_dump" ["text", "width"] (spP (sp_parse_dump c)) := has_of G.d_parse_dump sc_parse_dump len_parse_dump (fun f cdv A outer s H E hr => b_parse_dump G hr) (rd_parse_dump K c G.M)
theorem b_law_read (G : Txt K mg c) {f : Addr} {cdv : Value} {A : Around} {outer : List Env} {s : Shared} {H : Hp} {E : XK} (hr : Room 4 (A.deeper (envOfC "_law_read" (defScope s_law_read) s.heap.objs.size f (cdv)))) :
    DSs (cxOf (L2.CX P w) P w K mg base N_law_read "_law_read" (defScope s_law_read) f (cdv) A outer s H E) (T) (wE E) (defBody s_law_read) (t_law_read K c) := by
  have tk : Takes (cxOf (L2.CX P w) P w K mg base N_law_read "_law_read" (defScope s_law_read) f (cdv) A outer s H E) (wE E) := takes_of rfl rfl rfl rfl
  have po : PassesOwn (model P w) (cxOf (L2.CX P w) P w K mg base N_law_read "_law_read" (defScope s_law_read) f (cdv) A outer s H E).A (cxOf (L2.CX P w) P w K mg base N_law_read "_law_read" (defScope s_law_read) f (cdv) A outer s H E).env (cxOf (L2.CX P w) P w K mg base N_law_read "_law_read" (defScope s_law_read) f (cdv) A outer s H E).xe := passes_of rfl
  exact (dss_one (ds_try rfl rfl G.x_InvalidText.g tk (fun W2 pn2 xe2 tk2 po2 => (dss_one (ds_ret (dc_P (has_parse_dump G) hr tk2 (da_cons (dvl 0) (da_cons (dvl 1) da_nil)))))) (fun a2 pn2 => (dss_one (ds_ret de_non)))))
theorem has_law_read (G : Txt K mg c) : Has P w K mg base T 5 "_law_read" ["text", "width"] (spP (sp_law_read c)) := has_of G.d_law_read sc_law_read len_law_read (fun f cdv A outer s H E hr => b_law_read G hr) (rd_law_read K c G.M)
theorem b_law_take (G : Txt K mg c) {f : Addr} {cdv : Value} {A : Around} {outer : List Env} {s : Shared} {H : Hp} {E : XK} (hr : Room 0 (A.deeper (envOfC "_law_take" (defScope s_law_take) s.heap.objs.size f (cdv)))) :
    DSs (cxOf (L2.CX P w) P w K mg base N_law_take "_law_take" (defScope s_law_take) f (cdv) A outer s H E) (T) (wE E) (defBody s_law_take) (t_law_take K c) := by
  have tk : Takes (cxOf (L2.CX P w) P w K mg base N_law_take "_law_take" (defScope s_law_take) f (cdv) A outer s H E) (wE E) := takes_of rfl rfl rfl rfl
  have po : PassesOwn (model P w) (cxOf (L2.CX P w) P w K mg base N_law_take "_law_take" (defScope s_law_take) f (cdv) A outer s H E).A (cxOf (L2.CX P w) P w K mg base N_law_take "_law_take" (defScope s_law_take) f (cdv) A outer s H E).env (cxOf (L2.CX P w) P w K mg base N_law_take "_law_take" (defScope s_law_take) f (cdv) A outer s H E).xe := passes_of rfl
  exact (dss_cons (ds_if (PW.pt (dw_and (dt_cmp (op_eq2 (hu64 hr)) od_eq (de_dget (hu_of hr) (dvl 0) de_str) de_int (nomark _)) (dw_and1 (dt_cmp op_lt od_lt (de_dget (hu_of hr) (dvl 0) de_str) (de_len G.z_len (da_cons (de_dget (hu_of hr) (dvl 0) de_str) da_nil)) (nomark _))))) (dss_cons (ds_dput (hu_of hr) (dvl 0) de_str (de_ix (de_dget (hu_of hr) (dvl 0) de_str) (de_dget (hu_of hr) (dvl 0) de_str))) (dss_one (ds_dput (hu_of hr) (dvl 0) de_str (de_op op_add4 od_add (de_dget (hu_of hr) (dvl 0) de_str) de_int)))) dss_nil) (dss_cons (ds_if (dt_cmp op_gt od_gt (de_dget (hu_of hr) (dvl 0) de_str) de_int (nomark _)) (dss_cons (ds_set (i := 2) sc_law_take.nd rfl (Or.inl (by kernel_rfl)) (de_op op_mod od_mod (de_intc G.z_int (da_cons (de_dget (hu_of hr) (dvl 0) de_str) da_nil)) (dvl 1))) (dss_cons (ds_dput (hu_of hr) (dvl 0) de_str (de_op op_fdiv od_div (de_dget (hu_of hr) (dvl 0) de_str) (dvl 1))) (dss_one (ds_ret (dvl 2))))) dss_nil) (dss_cons (ds_dput (hu_of hr) (dvl 0) de_str (de_op op_add4 od_add (de_dget (hu_of hr) (dvl 0) de_str) de_int)) (dss_cons (ds_set (i := 3) sc_law_take.nd rfl (Or.inl (by kernel_rfl)) (de_op op_mod od_mod (de_intc G.z_int (da_cons (de_op op_add4 od_add (de_op op_mul od_mul (de_dget (hu_of hr) (dvl 0) de_str) de_int) (de_op op_mul od_mul (de_dget (hu_of hr) (dvl 0) de_str) de_int)) da_nil)) de_int)) (dss_cons (ds_set (i := 3) sc_law_take.nd rfl (Or.inl (by kernel_rfl)) (de_op op_mod od_mod (de_intc G.z_int (da_cons (de_op op_add4 od_add (de_op op_add4 od_add (de_op op_mul od_mul (dvl 3) (dvl 3)) (de_op op_mul od_mul (de_dget (hu_of hr) (dvl 0) de_str) de_int)) de_int) da_nil)) de_int)) (dss_one (ds_ret (de_op op_mod od_mod (de_intc G.z_int (da_cons (dvl 3) da_nil)) (dvl 1)))))))))
theorem has_law_take (G : Txt K mg c) : Has P w K mg base T 1 "_law_take" ["tape", "many"] (sp_law_take c) := has_of G.d_law_take sc_law_take len_law_take (fun f cdv A outer s H E hr => b_law_take G hr) (rd_law_take K c G.M)
theorem b_law_tape (G : Txt K mg c) {f : Addr} {cdv : Value} {A : Around} {outer : List Env} {s : Shared} {H : Hp} {E : XK} (hr : Room 0 (A.deeper (envOfC "_law_tape" (defScope s_law_tape) s.heap.objs.size f (cdv)))) :
    DSs (cxOf (L2.CX P w) P w K mg base N_law_tape "_law_tape" (defScope s_law_tape) f (cdv) A outer s H E) (T) (wE E) (defBody s_law_tape) (t_law_tape K c) := by
  have tk : Takes (cxOf (L2.CX P w) P w K mg base N_law_tape "_law_tape" (defScope s_law_tape) f (cdv) A outer s H E) (wE E) := takes_of rfl rfl rfl rfl
  have po : PassesOwn (model P w) (cxOf (L2.CX P w) P w K mg base N_law_tape "_law_tape" (defScope s_law_tape) f (cdv) A outer s H E).A (cxOf (L2.CX P w) P w K mg base N_law_tape "_law_tape" (defScope s_law_tape) f (cdv) A outer s H E).env (cxOf (L2.CX P w) P w K mg base N_law_tape "_law_tape" (defScope s_law_tape) f (cdv) A outer s H E).xe := passes_of rfl
  exact (dss_cons (ds_setLc (i := 1) false rfl sc_law_tape.nd rfl (by kernel_rfl) (sw_true rfl (by kernel_rfl) rfl (by kernel_rfl)) (di_seq (dvl 0)) (blkOk_by (own := [("cell", 3)]) (by kernel_rfl)) (fun _ _ _ _ _ => (pgt_name sc_law_tape.nd (i := 3) rfl (Or.inl (by kernel_rfl)) (.inr (by kernel_rfl)))) (by decide) (fun _ _ _ _ _ => dts_nil) (fun _ _ _ _ _ => (de_abs G.z_abs (da_cons (de_intc G.z_int (da_cons (dvl 3) da_nil)) da_nil)))) (dss_cons (ds_set (i := 2) sc_law_tape.nd rfl (Or.inl (by kernel_rfl)) de_int) (dss_cons (ds_for po rfl (di_seq (dvl 1)) (pgt_name sc_law_tape.nd (i := 3) rfl (Or.inl (by kernel_rfl)) (.inl rfl)) (dss_one (ds_set (i := 2) sc_law_tape.nd rfl (Or.inl (by kernel_rfl)) (de_op op_mod od_mod (de_intc G.z_int (da_cons (de_op op_add4 od_add (de_op op_mul od_mul (dvl 2) de_int) (dvl 3)) da_nil)) de_int)))) (dss_one (ds_ret (de_disp true (dps_cons de_str (dvl 1) (dps_cons de_str de_int (dps_cons de_str de_int (dps_cons de_str (dvl 2) (dps_cons de_str de_int dps_nil)))))))))))
theorem has_law_tape (G : Txt K mg c) : Has P w K mg base T 1 "_law_tape" ["script"] (sp_law_tape c) := has_of G.d_law_tape sc_law_tape len_law_tape (fun f cdv A outer s H E hr => b_law_tape G hr) (rd_law_tape K c G.M)
theorem b_law_signs (G : Txt K mg c) {f : Addr} {cdv : Value} {A : Around} {outer : List Env} {s : Shared} {H : Hp} {E : XK} (hr : Room 0 (A.deeper (envOfC "_law_signs" (defScope s_law_signs) s.heap.objs.size f (cdv)))) :
    DSs (cxOf (L2.CX P w) P w K mg base N_law_signs "_law_signs" (defScope s_law_signs) f (cdv) A outer s H E) (T) (wE E) (defBody s_law_signs) (t_law_signs K c) := by
  have tk : Takes (cxOf (L2.CX P w) P w K mg base N_law_signs "_law_signs" (defScope s_law_signs) f (cdv) A outer s H E) (wE E) := takes_of rfl rfl rfl rfl
  have po : PassesOwn (model P w) (cxOf (L2.CX P w) P w K mg base N_law_signs "_law_signs" (defScope s_law_signs) f (cdv) A outer s H E).A (cxOf (L2.CX P w) P w K mg base N_law_signs "_law_signs" (defScope s_law_signs) f (cdv) A outer s H E).env (cxOf (L2.CX P w) P w K mg base N_law_signs "_law_signs" (defScope s_law_signs) f (cdv) A outer s H E).xe := passes_of rfl
  exact (dss_cons (ds_set (i := 2) sc_law_signs.nd rfl (Or.inl (by kernel_rfl)) de_str) (dss_cons (ds_for po rfl (di_r1 (gl_of (by kernel_rfl)) G.z_range (da_cons (dvl 1) da_nil)) (pgt_name sc_law_signs.nd (i := 3) rfl (Or.inl (by kernel_rfl)) (.inl rfl)) (dss_cons (ds_set (i := 2) sc_law_signs.nd rfl (Or.inl (by kernel_rfl)) (de_op op_add4 od_add (de_ix de_str (de_op op_mod od_mod (de_intc G.z_int (da_cons (dvl 0) da_nil)) de_int)) (dvl 2))) (dss_one (ds_set (i := 0) sc_law_signs.nd rfl (Or.inl (by kernel_rfl)) (de_op op_fdiv od_div (dvl 0) de_int))))) (dss_one (ds_ret (dvl 2)))))
theorem has_law_signs (G : Txt K mg c) : Has P w K mg base T 1 "_law_signs" ["number", "many"] (spP (sp_law_signs c)) := has_of G.d_law_signs sc_law_signs len_law_signs (fun f cdv A outer s H E hr => b_law_signs G hr) (rd_law_signs K c G.M)
theorem b_law_text (G : Txt K mg c) {f : Addr} {cdv : Value} {A : Around} {outer : List Env} {s : Shared} {H : Hp} {E : XK} (hr : Room 1 (A.deeper (envOfC "_law_text" (defScope s_law_text) s.heap.objs.size f (cdv)))) :
    DSs (cxOf (L2.CX P w) P w K mg base N_law_text "_law_text" (defScope s_law_text) f (cdv) A outer s H E) (T) (wE E) (defBody s_law_text) (t_law_text K c) := by
  have tk : Takes (cxOf (L2.CX P w) P w K mg base N_law_text "_law_text" (defScope s_law_text) f (cdv) A outer s H E) (wE E) := takes_of rfl rfl rfl rfl
  have po : PassesOwn (model P w) (cxOf (L2.CX P w) P w K mg base N_law_text "_law_text" (defScope s_law_text) f (cdv) A outer s H E).A (cxOf (L2.CX P w) P w K mg base N_law_text "_law_text" (defScope s_law_text) f (cdv) A outer s H E).env (cxOf (L2.CX P w) P w K mg base N_law_text "_law_text" (defScope s_law_text) f (cdv) A outer s H E).xe := passes_of rfl
  exact (dss_cons (ds_set (i := 2) sc_law_text.nd rfl (Or.inl (by kernel_rfl)) de_str) (dss_cons (ds_set (i := 3) sc_law_text.nd rfl (Or.inl (by kernel_rfl)) de_int) (dss_cons (ds_set (i := 4) sc_law_text.nd rfl (Or.inr (by kernel_rfl)) de_str) (dss_cons (ds_while po (dt_cmp op_lt od_lt (dvl 3) (de_len G.z_len (da_cons (dvl 0) da_nil)) (nomark _)) (dss_cons (ds_set (i := 5) sc_law_text.nd rfl (Or.inl (by kernel_rfl)) (de_sl false (dvl 0) (do_some (dvl 3)) (do_some (de_op op_add4 od_add (dvl 3) (dvl 1))))) (dss_cons (ds_set (i := 2) sc_law_text.nd rfl (Or.inl (by kernel_rfl)) (de_op op_add4 od_add (de_op op_add4 od_add (de_op op_add4 od_add (de_op op_add4 od_add (dvl 2) (dc_P (has_law_signs G) hr tk (da_cons (dvl 3) (da_cons de_int da_nil)))) de_str) (de_join de_str (da_cons (de_lc false rfl sc_law_text.nd (di_seq (dvl 5)) (blkOk_by (own := [("octet", 6)]) (by kernel_rfl)) (fun _ _ _ _ _ => (pgt_name sc_law_text.nd (i := 6) rfl (Or.inl (by kernel_rfl)) (.inr (by kernel_rfl)))) (by decide) (fun _ _ _ _ _ => dts_nil) (fun _ _ _ _ _ => (dc_P (has_law_signs G) hr takes0 (da_cons (dvl 6) (da_cons de_int da_nil))))) da_nil))) de_str)) (dss_cons (ds_set (i := 2) sc_law_text.nd rfl (Or.inl (by kernel_rfl)) (de_op op_add4 od_add (de_op op_add4 od_add (dvl 2) (de_join de_str (da_cons (de_lc false rfl sc_law_text.nd (di_seq (dvl 5)) (blkOk_by (own := [("octet", 6)]) (by kernel_rfl)) (fun _ _ _ _ _ => (pgt_name sc_law_text.nd (i := 6) rfl (Or.inl (by kernel_rfl)) (.inr (by kernel_rfl)))) (by decide) (fun _ _ _ _ _ => dts_nil) (fun _ _ _ _ _ => (de_if (dt_chain op_lt op_lt od_lt od_lt de_int (dvl 6) de_int) (de_ix (dvc 4) (de_op op_sub od_sub (dvl 6) de_int)) de_str))) da_nil))) de_str)) (dss_one (ds_set (i := 3) sc_law_text.nd rfl (Or.inl (by kernel_rfl)) (de_op op_add4 od_add (dvl 3) (dvl 1)))))))) (dss_one (ds_ret (dvl 2)))))))
theorem has_law_text (G : Txt K mg c) : Has P w K mg base T 2 "_law_text" ["octets", "width"] (spP (sp_law_text c)) := has_of G.d_law_text sc_law_text len_law_text (fun f cdv A outer s H E hr => b_law_text G hr) (rd_law_text K c G.M)
theorem b_differences (G : Txt K mg c) {f : Addr} {cdv : Value} {A : Around} {outer : List Env} {s : Shared} {H : Hp} {E : XK} (hr : Room 0 (A.deeper (envOfC "differences" (defScope s_differences) s.heap.objs.size f (cdv)))) :
    DSs (cxOf (L2.CX P w) P w K mg base N_differences "differences" (defScope s_differences) f (cdv) A outer s H E) (T) (wE E) (defBody s_differences) (t_differences K c) := by
  have tk : Takes (cxOf (L2.CX P w) P w K mg base N_differences "differences" (defScope s_differences) f (cdv) A outer s H E) (wE E) := takes_of rfl rfl rfl rfl
  have po : PassesOwn (model P w) (cxOf (L2.CX P w) P w K mg base N_differences "differences" (defScope s_differences) f (cdv) A outer s H E).A (cxOf (L2.CX P w) P w K mg base N_differences "differences" (defScope s_differences) f (cdv) A outer s H E).env (cxOf (L2.CX P w) P w K mg base N_differences "differences" (defScope s_differences) f (cdv) A outer s H E).xe := passes_of rfl
  exact (dss_cons (ds_set (i := 2) sc_differences.nd rfl (Or.inl (by kernel_rfl)) (de_lst true da_nil)) (dss_cons (ds_for po rfl (di_r1 (gl_of (by kernel_rfl)) G.z_range (da_cons (de_max2 rfl G.z_max (da_cons (de_len G.z_len (da_cons (dvl 0) da_nil)) (da_cons (de_len G.z_len (da_cons (dvl 1) da_nil)) da_nil))) da_nil)) (pgt_name sc_differences.nd (i := 3) rfl (Or.inl (by kernel_rfl)) (.inl rfl)) (dss_one (ds_if (dt_cmp (op_ne2 (hu64 hr)) od_ne (de_sl false (dvl 0) (do_some (dvl 3)) (do_some (de_op op_add4 od_add (dvl 3) de_int))) (de_sl false (dvl 1) (do_some (dvl 3)) (do_some (de_op op_add4 od_add (dvl 3) de_int))) (nomark _)) (dss_one (ds_if (PW.pt (dw_and (dt_tru (dvl 2)) (dw_and1 (dt_cmp (op_eq2 (hu64 hr)) od_eq (de_ix (de_ix (dvl 2) de_negc) de_int) (dvl 3) (nomark _))))) (dss_one (ds_asg (de_tup (da_cons (de_ix (de_ix (dvl 2) de_negc) de_int) (da_cons (de_op op_add4 od_add (dvl 3) de_int) da_nil))) (dg_sub (dvl 2) de_negc))) (dss_one (ds_expr (de_append (dvl 2) (da_cons (de_tup (da_cons (dvl 3) (da_cons (de_op op_add4 od_add (dvl 3) de_int) da_nil))) da_nil)))))) dss_nil))) (dss_one (ds_ret (dvl 2)))))
theorem has_differences (G : Txt K mg c) : Has P w K mg base T 1 "differences" ["first", "second"] (spL (sp_differences c)) := has_of G.d_differences sc_differences len_differences (fun f cdv A outer s H E hr => b_differences G hr) (rd_differences K c G.M)
def q_law : Str := (envOfC "law" (defScope s_law) 0 0 .none).qual ++ "<lambda>"
theorem b_law (G : Txt K mg c) {cc PP : Addr} (TB : LamX.TabB base mg cc PP) {f : Addr} {A : Around} {outer : List Env} {s : Shared} {H : Hp} {E : XK} (hr : Room 7 (A.deeper (envOfC "law" (defScope s_law) s.heap.objs.size f (.ref cc)))) :
    DSs (cxOf (L2.CX P w) P w K mg base N_law "law" (defScope s_law) f (.ref cc) A outer s H E) ([(PP, q_law)]) (wE E) (defBody s_law) (t_law K c) := by
  have tk : Takes (cxOf (L2.CX P w) P w K mg base N_law "law" (defScope s_law) f (.ref cc) A outer s H E) (wE E) := takes_of rfl rfl rfl rfl
  have po : PassesOwn (model P w) (cxOf (L2.CX P w) P w K mg base N_law "law" (defScope s_law) f (.ref cc) A outer s H E).A (cxOf (L2.CX P w) P w K mg base N_law "law" (defScope s_law) f (.ref cc) A outer s H E).env (cxOf (L2.CX P w) P w K mg base N_law "law" (defScope s_law) f (.ref cc) A outer s H E).xe := passes_of rfl
  have hu : ∀ p ∈ [(PP, q_law)], p.1 = PP → p.2 = q_law := fun p hp _ => by rw [List.mem_singleton.mp hp]
  exact (dss_cons (ds_set (i := 1) sc_law.nd rfl (Or.inr (by kernel_rfl)) (dc_A (has_law_tape G) hr tk (da_cons (dvl 0) da_nil))) (dss_cons (ds_set (i := 2) sc_law.nd rfl (Or.inl (by kernel_rfl)) (de_op op_add4 od_add de_int (dc_A (has_law_take G) hr tk (da_cons (dvc 1) (da_cons de_int da_nil))))) (dss_cons (ds_set (i := 3) sc_law.nd rfl (Or.inl (by kernel_rfl)) (de_tuple G.z_tuple (da_cons (de_lc false rfl sc_law.nd (di_r1 (gl_of (by kernel_rfl)) G.z_range (da_cons (dc_A (has_law_take G) hr tk (da_cons (dvc 1) (da_cons de_int da_nil))) da_nil)) (blkOk_by (own := [("k", 5)]) (by kernel_rfl)) (fun _ _ _ _ _ => (pgt_name sc_law.nd (i := 5) rfl (Or.inl (by kernel_rfl)) (.inr (by kernel_rfl)))) (by decide) (fun _ _ _ _ _ => dts_nil) (fun _ _ _ _ _ => (de_ix (de_lst false (da_cons (dc_A (has_law_take G) hr takes0 (da_cons (dvc 1) (da_cons de_int da_nil))) (da_cons (de_op op_add4 od_add de_int (dc_A (has_law_take G) hr takes0 (da_cons (dvc 1) (da_cons de_int da_nil)))) da_nil))) (dc_A (has_law_take G) hr takes0 (da_cons (dvc 1) (da_cons de_int da_nil)))))) da_nil))) (dss_cons (ds_set (i := 4) sc_law.nd rfl (Or.inl (by kernel_rfl)) (dc_P (has_law_text G) hr tk (da_cons (dvl 3) (da_cons (dvl 2) da_nil)))) (dss_cons (ds_if (PW.pt (dw_or (dt_cmp (op_ne2 (hu64 hr)) od_ne (dc_P (has_dump_text G) hr tk (da_cons (dvl 3) (da_cons (dvl 2) da_nil))) (dvl 4) (nomark _)) (dw_or1 (dt_cmp (op_ne2 (hu64 hr)) od_ne (dc_P (has_parse_dump G) hr tk (da_cons (dvl 4) (da_cons (dvl 2) da_nil))) (dvl 3) (nomark _))))) (dss_one (ds_ret de_bl)) dss_nil) (dss_cons (ds_for po rfl (di_r1 (gl_of (by kernel_rfl)) G.z_range (da_cons de_int da_nil)) (pgt_name sc_law.nd (i := 5) rfl (Or.inl (by kernel_rfl)) (.inl rfl)) (dss_cons (ds_set (i := 6) sc_law.nd rfl (Or.inl (by kernel_rfl)) (dc_A (has_law_take G) hr tk (da_cons (dvc 1) (da_cons (de_op op_add4 od_add (de_len G.z_len (da_cons (dvl 4) da_nil)) de_int) da_nil)))) (dss_cons (ds_set (i := 7) sc_law.nd rfl (Or.inl (by kernel_rfl)) (de_ix de_str (dc_A (has_law_take G) hr tk (da_cons (dvc 1) (da_cons de_int da_nil))))) (dss_cons (ds_set (i := 8) sc_law.nd rfl (Or.inl (by kernel_rfl)) (de_ix (de_lst false (da_cons (de_op op_add4 od_add (de_sl false (dvl 4) do_none (do_some (dvl 6))) (de_sl false (dvl 4) (do_some (de_op op_add4 od_add (dvl 6) de_int)) do_none)) (da_cons (de_op op_add4 od_add (de_op op_add4 od_add (de_sl false (dvl 4) do_none (do_some (dvl 6))) (dvl 7)) (de_sl false (dvl 4) (do_some (dvl 6)) do_none)) (da_cons (de_op op_add4 od_add (de_op op_add4 od_add (de_sl false (dvl 4) do_none (do_some (dvl 6))) (dvl 7)) (de_sl false (dvl 4) (do_some (de_op op_add4 od_add (dvl 6) de_int)) do_none)) da_nil)))) (dc_A (has_law_take G) hr tk (da_cons (dvc 1) (da_cons de_int da_nil))))) (dss_cons (ds_set (i := 9) sc_law.nd rfl (Or.inl (by kernel_rfl)) (dc_P (has_law_read G) hr tk (da_cons (dvl 8) (da_cons (dvl 2) da_nil)))) (dss_one (ds_if (PW.pt (dw_and (dt_cmp op_notN od_notN (dvl 9) de_non (nomark _)) (dw_and1 (dt_cmp (op_ne2 (hu64 hr)) od_ne (dc_P (has_law_text G) hr tk (da_cons (dvl 9) (da_cons (dvl 2) da_nil))) (dvl 8) (nomark _))))) (dss_one (ds_ret de_bl)) dss_nil))))))) (dss_cons (ds_if (PW.pt (dw_and (dt_cmp op_gt od_gt (de_len G.z_len (da_cons (dvl 3) da_nil)) (dvl 2) (nomark _)) (dw_and1 (dt_cmp op_notN od_notN (dc_P (has_law_read G) hr tk (da_cons (dvl 4) (da_cons (de_op op_add4 od_add (de_op op_mod od_mod (de_intc G.z_int (da_cons (dvl 2) da_nil)) de_int) de_int) da_nil))) de_non (nomark _))))) (dss_one (ds_ret de_bl)) dss_nil) (dss_cons (ds_set (i := 10) sc_law.nd rfl (Or.inl (by kernel_rfl)) (de_list true G.z_list (da_cons (dvl 3) da_nil))) (dss_cons (ds_for po rfl (di_r1 (gl_of (by kernel_rfl)) G.z_range (da_cons (dc_A (has_law_take G) hr tk (da_cons (dvc 1) (da_cons de_int da_nil))) da_nil)) (pgt_name sc_law.nd (i := 5) rfl (Or.inl (by kernel_rfl)) (.inl rfl)) (dss_one (ds_if (dt_cmp op_gt od_gt (de_len G.z_len (da_cons (dvl 10) da_nil)) de_int (nomark _)) (dss_one (ds_asg (dc_A (has_law_take G) hr tk (da_cons (dvc 1) (da_cons de_int da_nil))) (dg_sub (dvl 10) (dc_A (has_law_take G) hr tk (da_cons (dvc 1) (da_cons (de_len G.z_len (da_cons (dvl 10) da_nil)) da_nil)))))) dss_nil))) (dss_cons (ds_set (i := 10) sc_law.nd rfl (Or.inl (by kernel_rfl)) (de_op op_add4 od_add (de_sl false (de_tuple G.z_tuple (da_cons (dvl 10) da_nil)) do_none (do_some (de_max2 rfl G.z_max (da_cons de_int (da_cons (de_op op_sub od_sub (de_len G.z_len (da_cons (dvl 10) da_nil)) (dc_A (has_law_take G) hr tk (da_cons (dvc 1) (da_cons de_int da_nil)))) da_nil))))) (de_tuple G.z_tuple (da_cons (de_op op_rep (od_rep false) (de_lst false (da_cons de_int da_nil)) (dc_A (has_law_take G) hr tk (da_cons (dvc 1) (da_cons de_int da_nil)))) da_nil)))) (dss_cons (ds_set (i := 11) sc_law.nd rfl (Or.inl (by kernel_rfl)) (de_lst true da_nil)) (dss_cons (ds_for po rfl (di_r1 (gl_of (by kernel_rfl)) G.z_range (da_cons (de_max2 rfl G.z_max (da_cons (de_len G.z_len (da_cons (dvl 3) da_nil)) (da_cons (de_len G.z_len (da_cons (dvl 10) da_nil)) da_nil))) da_nil)) (pgt_name sc_law.nd (i := 6) rfl (Or.inl (by kernel_rfl)) (.inl rfl)) (dss_cons (ds_set (i := 12) sc_law.nd rfl (Or.inl (by kernel_rfl)) (de_if (dt_cmp op_lt od_lt (dvl 6) (de_len G.z_len (da_cons (dvl 3) da_nil)) (nomark _)) (de_ix (dvl 3) (dvl 6)) de_negc)) (dss_cons (ds_set (i := 13) sc_law.nd rfl (Or.inl (by kernel_rfl)) (de_if (dt_cmp op_lt od_lt (dvl 6) (de_len G.z_len (da_cons (dvl 10) da_nil)) (nomark _)) (de_ix (dvl 10) (dvl 6)) de_negc)) (dss_one (ds_if (PW.pt (dw_and (dt_cmp (op_ne2 (hu64 hr)) od_ne (dvl 12) (dvl 13) (nomark _)) (dw_and (dt_cmp op_gt od_gt (de_len G.z_len (da_cons (dvl 11) da_nil)) de_int (nomark _)) (dw_and1 (dt_cmp (op_eq2 (hu64 hr)) od_eq (de_ix (de_ix (dvl 11) de_negc) de_int) (dvl 6) (nomark _)))))) (dss_one (ds_asg (de_tup (da_cons (de_ix (de_ix (dvl 11) de_negc) de_int) (da_cons (de_op op_add4 od_add (dvl 6) de_int) da_nil))) (dg_sub (dvl 11) de_negc))) (dss_one (ds_if (dt_cmp (op_ne2 (hu64 hr)) od_ne (dvl 12) (dvl 13) (nomark _)) (dss_one (ds_expr (de_append (dvl 11) (da_cons (de_tup (da_cons (dvl 6) (da_cons (de_op op_add4 od_add (dvl 6) de_int) da_nil))) da_nil)))) dss_nil))))))) (dss_cons (ds_if (PW.pt (dw_or (dt_cmp (op_ne2 (hu64 hr)) od_ne (dc_L false (has_differences G) hr tk (da_cons (dvl 3) (da_cons (dvl 10) da_nil))) (dvl 11) (nomark _)) (dw_or1 (dt_cmp (op_ne2 (hu64 hr)) od_ne (dc_L false (has_differences G) hr tk (da_cons (dvl 3) (da_cons (dvl 3) da_nil))) (de_lst false da_nil) (nomark _))))) (dss_one (ds_ret de_bl)) dss_nil) (dss_cons (ds_if (dt_not (dt_tru (de_refused (k := 5) G.d_law_refused rfl sc_law_refused rfl (Or.inl rfl) (fun _ => rfl) rfl G.x_InvalidText.g TB (List.mem_singleton.mpr rfl) hu (hr.mono (by decide)) (fun A outer s H E f c2 hr => by exact (dc_P (has_dump_text G) hr tkL0 (da_cons (de_tup (da_cons de_int da_nil)) (da_cons de_int da_nil)))) (LamX.lamS_by (by kernel_rfl))))) (dss_one (ds_ret de_bl)) dss_nil) (dss_cons (ds_if (dt_not (dt_tru (de_refused (k := 5) G.d_law_refused rfl sc_law_refused rfl (Or.inl rfl) (fun _ => rfl) rfl G.x_InvalidText.g TB (List.mem_singleton.mpr rfl) hu (hr.mono (by decide)) (fun A outer s H E f c2 hr => by exact (dc_P (has_dump_text G) hr tkL0 (da_cons (de_tup (da_cons de_int da_nil)) (da_cons de_int da_nil)))) (LamX.lamS_by (by kernel_rfl))))) (dss_one (ds_ret de_bl)) dss_nil) (dss_one (ds_ret (de_and (de_refused (k := 5) G.d_law_refused rfl sc_law_refused rfl (Or.inl rfl) (fun _ => rfl) rfl G.x_InvalidText.g TB (List.mem_singleton.mpr rfl) hu (hr.mono (by decide)) (fun A outer s H E f c2 hr => by exact (dc_P (has_parse_dump G) hr tkL0 (da_cons de_str (da_cons de_int da_nil)))) (LamX.lamS_by (by kernel_rfl))) (de_and1 (de_cmp (op_eq2 (hu64 hr)) od_eq (dc_P (has_parse_dump G) hr tk (da_cons de_str (da_cons de_int da_nil))) (de_tup da_nil) (nomark _)))))))))))))))))))))
end
end Law
set_option Elab.async false
set_option linter.all false
set_option maxRecDepth 100000
set_option maxHeartbeats 4000000
namespace Law
open PySem PySem.Spec PyProof.Rows L2 DL
theorem all_mk {l : PySem.W.OpenLaw} {w : World} {K : PySem.W.Frag} {h : Heap} {mg : Str → Option Value} {fa : Addr} (X : K.In h) (G : h.Ns mainGlobals mg) (hfa : mg "law" = some (.ref fa))
    {f0 : Addr} {od0 an0 : Option Addr} {sl0 : Array (Option Value)} {oc0 kV0 dc0 pm0 cd0 ct0 : Value} {f1 : Addr} {od1 an1 : Option Addr} {sl1 : Array (Option Value)} {oc1 kV1 dc1 pm1 cd1 ct1 : Value} {f2 : Addr} {od2 an2 : Option Addr} {sl2 : Array (Option Value)} {oc2 kV2 dc2 pm2 cd2 ct2 : Value} {f3 : Addr} {od3 an3 : Option Addr} {sl3 : Array (Option Value)} {oc3 kV3 dc3 pm3 cd3 ct3 : Value} {f4 : Addr} {od4 an4 : Option Addr} {sl4 : Array (Option Value)} {oc4 kV4 dc4 pm4 cd4 ct4 : Value} {f5 : Addr} {od5 an5 : Option Addr} {sl5 : Array (Option Value)} {oc5 kV5 dc5 pm5 cd5 ct5 : Value} {f6 : Addr} {od6 an6 : Option Addr} {sl6 : Array (Option Value)} {oc6 kV6 dc6 pm6 cd6 ct6 : Value} {f7 : Addr} {od7 an7 : Option Addr} {sl7 : Array (Option Value)} {oc7 kV7 dc7 pm7 cd7 ct7 : Value} {f8 : Addr} {od8 an8 : Option Addr} {sl8 : Array (Option Value)} {oc8 kV8 dc8 pm8 cd8 ct8 : Value} {f9 : Addr} {od9 an9 : Option Addr} {sl9 : Array (Option Value)} {oc9 kV9 dc9 pm9 cd9 ct9 : Value} {f10 : Addr} {od10 an10 : Option Addr} {sl10 : Array (Option Value)} {oc10 kV10 dc10 pm10 cd10 ct10 : Value} {f11 : Addr} {od11 an11 : Option Addr} {sl11 : Array (Option Value)} {oc11 kV11 dc11 pm11 ct11 : Value} {f12 : Addr} {od12 an12 : Option Addr} {sl12 : Array (Option Value)} {oc12 kV12 dc12 pm12 cd12 ct12 : Value} {cc PP : Addr} {tok_MARKS : Tok} {tok_MOST_WIDTH : Tok} {tok_SIGNS : Tok} {C_InvalidText : Addr}
    (hP : h.get? PP = some { cls := .none, data := .fields #[] })
    (a0 : PySem.W.nsIn K mainGlobals "check_octets" = some (some (.ref f0)))
    (l0 : K.lookup f0 = some ⟨oc0, od0, .func (PySem.W.fnOf "check_octets" "check_octets" (defArgs s_check_octets) (defBody s_check_octets) (defScope s_check_octets) .none kV0 dc0 pm0 an0 cd0 ct0), sl0⟩)
    (e0 : PySem.W.codeIn K cd0 "check_octets" = true)
    (k0 : PySem.W.keepIn K (.ref f0) = true)
    (a1 : PySem.W.nsIn K mainGlobals "two_signs" = some (some (.ref f1)))
    (l1 : K.lookup f1 = some ⟨oc1, od1, .func (PySem.W.fnOf "two_signs" "two_signs" (defArgs s_two_signs) (defBody s_two_signs) (defScope s_two_signs) .none kV1 dc1 pm1 an1 cd1 ct1), sl1⟩)
    (e1 : PySem.W.codeIn K cd1 "two_signs" = true)
    (k1 : PySem.W.keepIn K (.ref f1) = true)
    (a2 : PySem.W.nsIn K mainGlobals "place_signs" = some (some (.ref f2)))
    (l2 : K.lookup f2 = some ⟨oc2, od2, .func (PySem.W.fnOf "place_signs" "place_signs" (defArgs s_place_signs) (defBody s_place_signs) (defScope s_place_signs) .none kV2 dc2 pm2 an2 cd2 ct2), sl2⟩)
    (e2 : PySem.W.codeIn K cd2 "place_signs" = true)
    (k2 : PySem.W.keepIn K (.ref f2) = true)
    (a3 : PySem.W.nsIn K mainGlobals "dump_text" = some (some (.ref f3)))
    (l3 : K.lookup f3 = some ⟨oc3, od3, .func (PySem.W.fnOf "dump_text" "dump_text" (defArgs s_dump_text) (defBody s_dump_text) (defScope s_dump_text) .none kV3 dc3 pm3 an3 cd3 ct3), sl3⟩)
    (e3 : PySem.W.codeIn K cd3 "dump_text" = true)
    (k3 : PySem.W.keepIn K (.ref f3) = true)
    (a4 : PySem.W.nsIn K mainGlobals "parse_dump" = some (some (.ref f4)))
    (l4 : K.lookup f4 = some ⟨oc4, od4, .func (PySem.W.fnOf "parse_dump" "parse_dump" (defArgs s_parse_dump) (defBody s_parse_dump) (defScope s_parse_dump) .none kV4 dc4 pm4 an4 cd4 ct4), sl4⟩)
    (e4 : PySem.W.codeIn K cd4 "parse_dump" = true)
    (k4 : PySem.W.keepIn K (.ref f4) = true)
    (a5 : PySem.W.nsIn K mainGlobals "_law_read" = some (some (.ref f5)))
    (l5 : K.lookup f5 = some ⟨oc5, od5, .func (PySem.W.fnOf "_law_read" "_law_read" (defArgs s_law_read) (defBody s_law_read) (defScope s_law_read) .none kV5 dc5 pm5 an5 cd5 ct5), sl5⟩)
    (e5 : PySem.W.codeIn K cd5 "_law_read" = true)
    (k5 : PySem.W.keepIn K (.ref f5) = true)
    (a6 : PySem.W.nsIn K mainGlobals "_law_take" = some (some (.ref f6)))
    (l6 : K.lookup f6 = some ⟨oc6, od6, .func (PySem.W.fnOf "_law_take" "_law_take" (defArgs s_law_take) (defBody s_law_take) (defScope s_law_take) .none kV6 dc6 pm6 an6 cd6 ct6), sl6⟩)
    (e6 : PySem.W.codeIn K cd6 "_law_take" = true)
    (k6 : PySem.W.keepIn K (.ref f6) = true)
    (a7 : PySem.W.nsIn K mainGlobals "_law_tape" = some (some (.ref f7)))
    (l7 : K.lookup f7 = some ⟨oc7, od7, .func (PySem.W.fnOf "_law_tape" "_law_tape" (defArgs s_law_tape) (defBody s_law_tape) (defScope s_law_tape) .none kV7 dc7 pm7 an7 cd7 ct7), sl7⟩)
    (e7 : PySem.W.codeIn K cd7 "_law_tape" = true)
    (k7 : PySem.W.keepIn K (.ref f7) = true)
    (a8 : PySem.W.nsIn K mainGlobals "_law_signs" = some (some (.ref f8)))
    (l8 : K.lookup f8 = some ⟨oc8, od8, .func (PySem.W.fnOf "_law_signs" "_law_signs" (defArgs s_law_signs) (defBody s_law_signs) (defScope s_law_signs) .none kV8 dc8 pm8 an8 cd8 ct8), sl8⟩)
    (e8 : PySem.W.codeIn K cd8 "_law_signs" = true)
    (k8 : PySem.W.keepIn K (.ref f8) = true)
    (a9 : PySem.W.nsIn K mainGlobals "_law_text" = some (some (.ref f9)))
    (l9 : K.lookup f9 = some ⟨oc9, od9, .func (PySem.W.fnOf "_law_text" "_law_text" (defArgs s_law_text) (defBody s_law_text) (defScope s_law_text) .none kV9 dc9 pm9 an9 cd9 ct9), sl9⟩)
    (e9 : PySem.W.codeIn K cd9 "_law_text" = true)
    (k9 : PySem.W.keepIn K (.ref f9) = true)
    (a10 : PySem.W.nsIn K mainGlobals "differences" = some (some (.ref f10)))
    (l10 : K.lookup f10 = some ⟨oc10, od10, .func (PySem.W.fnOf "differences" "differences" (defArgs s_differences) (defBody s_differences) (defScope s_differences) .none kV10 dc10 pm10 an10 cd10 ct10), sl10⟩)
    (e10 : PySem.W.codeIn K cd10 "differences" = true)
    (k10 : PySem.W.keepIn K (.ref f10) = true)
    (a11 : PySem.W.nsIn K mainGlobals "law" = some (some (.ref f11)))
    (l11 : K.lookup f11 = some ⟨oc11, od11, .func (PySem.W.fnOf "law" "law" (defArgs s_law) (defBody s_law) (defScope s_law) .none kV11 dc11 pm11 an11 (.ref cc) ct11), sl11⟩)
    (e11 : PySem.W.codeIn K (.ref cc) "law" = true)
    (k11 : PySem.W.keepIn K (.ref f11) = true)
    (a12 : PySem.W.nsIn K mainGlobals "_law_refused" = some (some (.ref f12)))
    (l12 : K.lookup f12 = some ⟨oc12, od12, .func (PySem.W.fnOf "_law_refused" "_law_refused" (defArgs s_law_refused) (defBody s_law_refused) (defScope s_law_refused) .none kV12 dc12 pm12 an12 cd12 ct12), sl12⟩)
    (e12 : PySem.W.codeIn K cd12 "_law_refused" = true)
    (k12 : PySem.W.keepIn K (.ref f12) = true)
    (z_abs : PySem.W.nsIn K mainGlobals "abs" = some none)
    (z_all : PySem.W.nsIn K mainGlobals "all" = some none)
    (z_int : PySem.W.nsIn K mainGlobals "int" = some none)
    (z_len : PySem.W.nsIn K mainGlobals "len" = some none)
    (z_list : PySem.W.nsIn K mainGlobals "list" = some none)
    (z_max : PySem.W.nsIn K mainGlobals "max" = some none)
    (z_range : PySem.W.nsIn K mainGlobals "range" = some none)
    (z_tuple : PySem.W.nsIn K mainGlobals "tuple" = some none)
    (c_MARKS : PySem.W.nsIn K mainGlobals "MARKS" = some (some (.str "!\"#$.&'()*+,-./0123456789:;<=>?@ABCDEFGHIJKLMNOPQRSTUVWXYZ[\\]^_`abcdefghijklmnopqrstuvwxyz{|}~" tok_MARKS)))
    (c_MOST_WIDTH : PySem.W.nsIn K mainGlobals "MOST_WIDTH" = some (some (.int 32 tok_MOST_WIDTH)))
    (c_SIGNS : PySem.W.nsIn K mainGlobals "SIGNS" = some (some (.str "0123456789abcdef" tok_SIGNS)))
    (ea_InvalidText : PySem.W.nsIn K mainGlobals "InvalidText" = some (some (.ref C_InvalidText)))
    (eq_InvalidText : PySem.W.excIn K C_InvalidText [.type "ValueError", .type "Exception", .type "BaseException", .type "object"] "ValueError.__new__" = true)
    (ek_InvalidText : PySem.W.keepIn K (.ref C_InvalidText) = true)
    (es_InvalidText : PySem.W.subIn K (.ref C_InvalidText) (.type "BaseException") = some true)
    (et_InvalidText : PySem.W.typeIn K (.ref C_InvalidText) = some (.type "type"))
    (ei_InvalidText : PySem.W.isClsIn K C_InvalidText = true)
    (ep_InvalidText_InvalidText : PySem.W.subIn K (.ref C_InvalidText) (.ref C_InvalidText) = some true)
    (nP : K.lookup PP = none)
    (hC : PySem.W.codeHdIn K cc PP = true)
    : LamX.LawAtS l w K (L2.CX l.prog w) 8 63 "script" mg fa h := by
  cases hfa.symm.trans (PySem.W.mg_of X G a11)
  let c : Cls := ⟨C_InvalidText⟩
  have TX : Txt K mg c := {
    z_abs := PySem.W.mg_none_of X G z_abs
    z_all := PySem.W.mg_none_of X G z_all
    z_int := PySem.W.mg_none_of X G z_int
    z_len := PySem.W.mg_none_of X G z_len
    z_list := PySem.W.mg_none_of X G z_list
    z_max := PySem.W.mg_none_of X G z_max
    z_range := PySem.W.mg_none_of X G z_range
    z_tuple := PySem.W.mg_none_of X G z_tuple
    c_MARKS := cs_mk X G c_MARKS
    c_MOST_WIDTH := ci_mk X G c_MOST_WIDTH
    c_SIGNS := cs_mk X G c_SIGNS
    x_InvalidText := excD_mk X G PySem.F.excBase_ValueError ea_InvalidText eq_InvalidText ek_InvalidText es_InvalidText et_InvalidText
    d_check_octets := atD_mk (ps := ["octets", "width"]) X G a0 l0 e0 k0 fun fd F => F.binds (ps := ["octets", "width"]) fun _ _ _ _ _ _ us hl => match us, hl with | [_, _], _ => rfl
    d_two_signs := atD_mk (ps := ["octet"]) X G a1 l1 e1 k1 fun fd F => F.binds (ps := ["octet"]) fun _ _ _ _ _ _ us hl => match us, hl with | [_], _ => rfl
    d_place_signs := atD_mk (ps := ["place"]) X G a2 l2 e2 k2 fun fd F => F.binds (ps := ["place"]) fun _ _ _ _ _ _ us hl => match us, hl with | [_], _ => rfl
    d_dump_text := atD_mk (ps := ["octets", "width"]) X G a3 l3 e3 k3 fun fd F => F.binds (ps := ["octets", "width"]) fun _ _ _ _ _ _ us hl => match us, hl with | [_, _], _ => rfl
    d_parse_dump := atD_mk (ps := ["text", "width"]) X G a4 l4 e4 k4 fun fd F => F.binds (ps := ["text", "width"]) fun _ _ _ _ _ _ us hl => match us, hl with | [_, _], _ => rfl
    d_law_read := atD_mk (ps := ["text", "width"]) X G a5 l5 e5 k5 fun fd F => F.binds (ps := ["text", "width"]) fun _ _ _ _ _ _ us hl => match us, hl with | [_, _], _ => rfl
    d_law_take := atD_mk (ps := ["tape", "many"]) X G a6 l6 e6 k6 fun fd F => F.binds (ps := ["tape", "many"]) fun _ _ _ _ _ _ us hl => match us, hl with | [_, _], _ => rfl
    d_law_tape := atD_mk (ps := ["script"]) X G a7 l7 e7 k7 fun fd F => F.binds (ps := ["script"]) fun _ _ _ _ _ _ us hl => match us, hl with | [_], _ => rfl
    d_law_signs := atD_mk (ps := ["number", "many"]) X G a8 l8 e8 k8 fun fd F => F.binds (ps := ["number", "many"]) fun _ _ _ _ _ _ us hl => match us, hl with | [_, _], _ => rfl
    d_law_text := atD_mk (ps := ["octets", "width"]) X G a9 l9 e9 k9 fun fd F => F.binds (ps := ["octets", "width"]) fun _ _ _ _ _ _ us hl => match us, hl with | [_, _], _ => rfl
    d_differences := atD_mk (ps := ["first", "second"]) X G a10 l10 e10 k10 fun fd F => F.binds (ps := ["first", "second"]) fun _ _ _ _ _ _ us hl => match us, hl with | [_, _], _ => rfl
    d_law_refused := atD_mk (ps := ["call"]) X G a12 l12 e12 k12 fun fd F => F.binds (ps := ["call"]) fun _ _ _ _ _ _ us hl => match us, hl with | [_], _ => rfl
    M := ⟨exm_of es_InvalidText ei_InvalidText et_InvalidText ep_InvalidText_InvalidText⟩
  }
  refine lawS (cs := [(cc, PP)]) (q := q_law) (N := N_law) (t := t_law K c) l11 e11 (fun p hp => by rw [List.mem_singleton.mp hp]; exact hP) (fun p hp => by rw [List.mem_singleton.mp hp]; exact nP) (fun p hp => by rw [List.mem_singleton.mp hp]; exact PySem.W.codeHd_of_K X hC) (fun s v => .of_eq rfl) sc_law (fun base _ _ hTB A outer s H E hr => b_law TX (hTB (cc, PP) (List.mem_singleton.mpr rfl)) hr) (rd_law K c TX.M)
end Law
open PySem PySem.W PyProof.Rows
set_option maxRecDepth 100000 in
set_option maxHeartbeats 0 in
theorem PySem.Challenge.cw_wreckhouse_k76_dumps_of_octets_holds : PySem.Challenge.rw_wreckhouse_k76_dumps_of_octets.Holds := by
  w_on; o_law; k_head; (case hw => w_witness2)
  k_fill
  refine LamX.walk_ofTs (l := PySem.Challenge.rw_wreckhouse_k76_dumps_of_octets) (n := 63) (k := 8) (x := "script") (CX := fun w => L2.CX PySem.Challenge.rw_wreckhouse_k76_dumps_of_octets.prog w) rfl (by decide) rfl ⟨rfl, by decide, by decide⟩ (fun w h Y => PySem.W.km_in_of Y) ?F (fun w => DL.noCX w)
  case F =>
    intro w mg fa h Y KX G hmg
    refine' Law.all_mk KX G hmg ?hP ?a0 ?l0 ?e0 ?k0 ?a1 ?l1 ?e1 ?k1 ?a2 ?l2 ?e2 ?k2 ?a3 ?l3 ?e3 ?k3 ?a4 ?l4 ?e4 ?k4 ?a5 ?l5 ?e5 ?k5 ?a6 ?l6 ?e6 ?k6 ?a7 ?l7 ?e7 ?k7 ?a8 ?l8 ?e8 ?k8 ?a9 ?l9 ?e9 ?k9 ?a10 ?l10 ?e10 ?k10 ?a11 ?l11 ?e11 ?k11 ?a12 ?l12 ?e12 ?k12 ?z_abs ?z_all ?z_int ?z_len ?z_list ?z_max ?z_range ?z_tuple ?c_MARKS ?c_MOST_WIDTH ?c_SIGNS ?ea_InvalidText ?eq_InvalidText ?ek_InvalidText ?es_InvalidText ?et_InvalidText ?ei_InvalidText ?ep_InvalidText_InvalidText ?nP ?hC
    (case hP => exact PySem.W.km_tabs_of Y _ (List.mem_singleton.mpr rfl))
    (case a0 => k_is)
    (case l0 => k_is)
    (case e0 => k_is)
    (case k0 => k_is)
    (case a1 => k_is)
    (case l1 => k_is)
    (case e1 => k_is)
    (case k1 => k_is)
    (case a2 => k_is)
    (case l2 => k_is)
    (case e2 => k_is)
    (case k2 => k_is)
    (case a3 => k_is)
    (case l3 => k_is)
    (case e3 => k_is)
    (case k3 => k_is)
    (case a4 => k_is)
    (case l4 => k_is)
    (case e4 => k_is)
    (case k4 => k_is)
    (case a5 => k_is)
    (case l5 => k_is)
    (case e5 => k_is)
    (case k5 => k_is)
    (case a6 => k_is)
    (case l6 => k_is)
    (case e6 => k_is)
    (case k6 => k_is)
    (case a7 => k_is)
    (case l7 => k_is)
    (case e7 => k_is)
    (case k7 => k_is)
    (case a8 => k_is)
    (case l8 => k_is)
    (case e8 => k_is)
    (case k8 => k_is)
    (case a9 => k_is)
    (case l9 => k_is)
    (case e9 => k_is)
    (case k9 => k_is)
    (case a10 => k_is)
    (case l10 => k_is)
    (case e10 => k_is)
    (case k10 => k_is)
    (case a11 => k_is)
    (case l11 => k_is)
    (case e11 => k_is)
    (case k11 => k_is)
    (case a12 => k_is)
    (case l12 => k_is)
    (case e12 => k_is)
    (case k12 => k_is)
    (case z_abs => k_is)
    (case z_all => k_is)
    (case z_int => k_is)
    (case z_len => k_is)
    (case z_list => k_is)
    (case z_max => k_is)
    (case z_range => k_is)
    (case z_tuple => k_is)
    (case c_MARKS => k_is)
    (case c_MOST_WIDTH => k_is)
    (case c_SIGNS => k_is)
    (case ea_InvalidText => k_is)
    (case eq_InvalidText => k_exc)
    (case ek_InvalidText => k_is)
    (case es_InvalidText => k_is)
    (case et_InvalidText => k_is)
    (case ei_InvalidText => k_is)
    (case ep_InvalidText_InvalidText => first | rfl | k_is)
    (case nP => kernel_rfl)
    (case hC => kernel_rfl)
#print axioms PySem.Challenge.cw_wreckhouse_k76_dumps_of_octets_holds
