import PyProof.Rows.All
import Wide.All
import OpenK.AllK
import Wide.FinOn
import HandS.ForMost
import HandS.ForExc
import HandS.Deep
import HandS.Style
import HandS.IsInst
import HandS.Dict
import HandS.Text
import HandS.Conv
import KE.SortData
import HandS.TupAny
import HandS.RevRange
import HandS.Exc
import HandS.ExcOwn
import HandS.ExcCtx
import HandS.ExcInit
import HandS.ExcField
import HandS.ExcIs
import HandS.HotCalls
import HandS.SortKw
import KE.DataMinMax
import KE.Datum
import PySem.Challenge.RW_daybooktold_k61_whole_latest_plans_and_s
set_option Elab.async false
set_option linter.all false
set_option autoImplicit false
set_option maxRecDepth 100000
set_option maxHeartbeats 1000000
/-! DX: plain data over the hand layer. A def is given the value of a plain Lean function on data (its den), step by step. -/
namespace DX
open PySem L2

/-! ### data in a frozen heap -/
mutual
inductive Rp (F : Hp) : V → PyData → Prop
  | non : Rp F .non .none
  | bl (b : Bool) : Rp F (.bl b) (.bool b)
  | int (i : Int) : Rp F (.int i) (.int i)
  | str (x : Str) (h : PyData.strOk x = true) : Rp F (.str x) (.str x)
  | lst {a : Addr} {xs : List V} {ds : List PyData} : F a = some (.lst xs) → RpAll F xs ds → Rp F (.ref a) (.list ds)
  | tup {a : Addr} {xs : List V} {ds : List PyData} : F a = some (.tup xs) → RpAll F xs ds → Rp F (.ref a) (.tuple ds)
inductive RpAll (F : Hp) : List V → List PyData → Prop
  | nil : RpAll F [] []
  | cons {v : V} {vs : List V} {d : PyData} {ds : List PyData} : Rp F v d → RpAll F vs ds → RpAll F (v :: vs) (d :: ds)
end
mutual
theorem Rp.mono {F F' : Hp} (e : Same F F') : ∀ {v : V} {d : PyData}, Rp F v d → Rp F' v d
  | _, _, .non => .non
  | _, _, .bl b => .bl b
  | _, _, .int i => .int i
  | _, _, .str x h => .str x h
  | _, _, .lst h t => .lst (e _ _ h) (RpAll.mono e t)
  | _, _, .tup h t => .tup (e _ _ h) (RpAll.mono e t)
theorem RpAll.mono {F F' : Hp} (e : Same F F') : ∀ {vs : List V} {ds : List PyData}, RpAll F vs ds → RpAll F' vs ds
  | _, _, .nil => .nil
  | _, _, .cons h t => .cons (Rp.mono e h) (RpAll.mono e t)
end
mutual
theorem Rp.dp {K : PySem.W.Frag} {F H : Hp} (e : Same F H) : ∀ {v : V} {d : PyData}, Rp F v d → Dp K H v d
  | _, _, .non => .non
  | _, _, .bl b => .bl b
  | _, _, .int i => .int i
  | _, _, .str x _ => .str x
  | _, _, .lst h t => .lst (SqL.of (e _ _ h)) (RpAll.dp e t)
  | _, _, .tup h t => .tup (SqT.of (e _ _ h)) (RpAll.dp e t)
theorem RpAll.dp {K : PySem.W.Frag} {F H : Hp} (e : Same F H) : ∀ {vs : List V} {ds : List PyData}, RpAll F vs ds → DpAll K H vs ds
  | _, _, .nil => .nil
  | _, _, .cons h t => .cons (Rp.dp e h) (RpAll.dp e t)
end
mutual
theorem Rp.lay {F : Hp} : ∀ {v : V} {d : PyData}, Rp F v d → d.canLay0 = true
  | _, _, .non => by simp only [PyData.canLay0]
  | _, _, .bl b => by simp only [PyData.canLay0]
  | _, _, .int i => by simp only [PyData.canLay0]
  | _, _, .str x h => by simp only [PyData.canLay0]; exact h
  | _, _, .lst _ t => by simp only [PyData.canLay0]; exact RpAll.lay t
  | _, _, .tup _ t => by simp only [PyData.canLay0]; exact RpAll.lay t
theorem RpAll.lay {F : Hp} : ∀ {vs : List V} {ds : List PyData}, RpAll F vs ds → PyData.canLayAll0 ds = true
  | _, _, .nil => by simp only [PyData.canLayAll0]
  | _, _, .cons h t => by simp only [PyData.canLayAll0, Rp.lay h, RpAll.lay t, Bool.and_self]
end
theorem shaped_of {d : PyData} (h : d.canLay0 = true) (hd : d.depth ≤ 64) : SeqAt.shaped d = true := by
  unfold SeqAt.shaped
  rw [h, decide_eq_true hd]
  rfl
theorem RpAll.length {F : Hp} : ∀ {vs : List V} {ds : List PyData}, RpAll F vs ds → vs.length = ds.length
  | _, _, .nil => rfl
  | _, _, .cons _ t => by rw [List.length_cons, List.length_cons, RpAll.length t]
theorem RpAll.append {F : Hp} : ∀ {vs ws : List V} {ds es : List PyData}, RpAll F vs ds → RpAll F ws es → RpAll F (vs ++ ws) (ds ++ es)
  | _, _, _, _, .nil, s => s
  | _, _, _, _, .cons h t, s => .cons h (RpAll.append t s)
theorem RpAll.get {F : Hp} : ∀ {vs : List V} {ds : List PyData} {i : Nat} {d : PyData}, RpAll F vs ds → ds[i]? = some d → ∃ v, vs[i]? = some v ∧ Rp F v d
  | _, _, _, _, .nil, h => by simp at h
  | _, _, 0, _, .cons h _, e => by
    have e' := Option.some.inj e
    subst e'
    exact ⟨_, rfl, h⟩
  | _, _, i + 1, d, .cons _ t, e => by
    obtain ⟨v, h1, h2⟩ := RpAll.get (i := i) (d := d) t (by simpa using e)
    exact ⟨v, by simpa using h1, h2⟩
theorem RpAll.getV {F : Hp} : ∀ {vs : List V} {ds : List PyData} {i : Nat} {v : V}, RpAll F vs ds → vs[i]? = some v → ∃ d, ds[i]? = some d ∧ Rp F v d
  | _, _, _, _, .nil, h => by simp at h
  | _, _, 0, _, .cons h _, e => by
    have e' := Option.some.inj e
    subst e'
    exact ⟨_, rfl, h⟩
  | _, _, i + 1, d, .cons _ t, e => by
    obtain ⟨v, h1, h2⟩ := RpAll.getV (i := i) (v := d) t (by simpa using e)
    exact ⟨v, by simpa using h1, h2⟩
theorem RpAll.take {F : Hp} : ∀ {vs : List V} {ds : List PyData} (n : Nat), RpAll F vs ds → RpAll F (vs.take n) (ds.take n)
  | _, _, 0, _ => .nil
  | _, _, _ + 1, .nil => .nil
  | _, _, n + 1, .cons h t => .cons h (RpAll.take n t)
theorem RpAll.drop {F : Hp} : ∀ {vs : List V} {ds : List PyData} (n : Nat), RpAll F vs ds → RpAll F (vs.drop n) (ds.drop n)
  | _, _, 0, h => h
  | _, _, _ + 1, .nil => .nil
  | _, _, n + 1, .cons _ t => RpAll.drop n t
theorem RpAll.set {F : Hp} {v : V} {d : PyData} (r : Rp F v d) : ∀ {vs : List V} {ds : List PyData} (n : Nat), RpAll F vs ds → RpAll F (vs.set n v) (ds.set n d)
  | _, _, _, .nil => .nil
  | _, _, 0, .cons _ t => .cons r t
  | _, _, n + 1, .cons h t => .cons h (RpAll.set r n t)
theorem RpAll.erase {F : Hp} : ∀ {vs : List V} {ds : List PyData} (n : Nat), RpAll F vs ds → RpAll F (vs.eraseIdx n) (ds.eraseIdx n)
  | _, _, _, .nil => .nil
  | _, _, 0, .cons _ t => t
  | _, _, n + 1, .cons h t => .cons h (RpAll.erase n t)
theorem RpAll.reverse {F : Hp} : ∀ {vs : List V} {ds : List PyData}, RpAll F vs ds → RpAll F vs.reverse ds.reverse
  | _, _, .nil => .nil
  | _, _, .cons h t => by
    rw [List.reverse_cons, List.reverse_cons]
    exact RpAll.append (RpAll.reverse t) (.cons h .nil)
theorem RpAll.dropLast {F : Hp} {vs : List V} {ds : List PyData} (h : RpAll F vs ds) : RpAll F vs.dropLast ds.dropLast := by
  rw [List.dropLast_eq_take, List.dropLast_eq_take, h.length]
  exact h.take _
theorem RpAll.rep {F : Hp} {vs : List V} {ds : List PyData} (h : RpAll F vs ds) : ∀ k : Nat, RpAll F (List.replicate k vs).flatten (List.replicate k ds).flatten
  | 0 => .nil
  | k + 1 => by
    rw [List.replicate_succ, List.replicate_succ, List.flatten_cons, List.flatten_cons]
    exact h.append (RpAll.rep h k)
theorem RpAll.ints {F : Hp} : ∀ {vs : List V} {ns : List Int}, RpAll F vs (ns.map .int) → vs = ns.map V.int
  | _, [], h => by
    have h' : RpAll F _ [] := h
    cases h'
    rfl
  | _, n :: ns, h => by
    have h' : RpAll F _ (.int n :: ns.map .int) := h
    cases h' with
    | cons a t =>
      cases a
      rw [RpAll.ints t]
      rfl
theorem RpAll.bls {F : Hp} : ∀ {vs : List V} {ns : List Bool}, RpAll F vs (ns.map .bool) → vs = ns.map V.bl
  | _, [], h => by
    have h' : RpAll F _ [] := h
    cases h'
    rfl
  | _, n :: ns, h => by
    have h' : RpAll F _ (.bool n :: ns.map .bool) := h
    cases h' with
    | cons a t =>
      cases a
      rw [RpAll.bls t]
      rfl
theorem RpAll.strs {F : Hp} : ∀ {vs : List V} {ns : List Str}, RpAll F vs (ns.map .str) → vs = ns.map V.str
  | _, [], h => by
    have h' : RpAll F _ [] := h
    cases h'
    rfl
  | _, n :: ns, h => by
    have h' : RpAll F _ (.str n :: ns.map .str) := h
    cases h' with
    | cons a t =>
      cases a
      rw [RpAll.strs t]
      rfl
theorem RpAll.of_ints {F : Hp} : ∀ (ns : List Int), RpAll F (ns.map V.int) (ns.map .int)
  | [] => .nil
  | n :: ns => .cons (.int n) (RpAll.of_ints ns)
theorem RpAll.of_strs {F : Hp} : ∀ (ns : List Str), (∀ x ∈ ns, PyData.strOk x = true) → RpAll F (ns.map V.str) (ns.map .str)
  | [], _ => .nil
  | n :: ns, h => .cons (.str n (h n (List.mem_cons_self ..))) (RpAll.of_strs ns fun x hx => h x (List.mem_cons_of_mem _ hx))

/-! ### what a name holds: data, or one of the lists that may be changed (a cell) -/
inductive Val where
  | fr (d : PyData)
  | ce (c : Nat)
  | ex (a dd : Addr) (f : Str) (d : PyData)
inductive Cell where
  | lst (ds : List PyData)
  | dK (kvs : List (Key × PyData))
  | dT (kvs : List (List Key × PyData))
abbrev Sl := List (Option Val)
abbrev Cs := List (Option Cell)
def CellAt (F H : Hp) (a : Addr) : Cell → Prop
  | .lst ds => ∃ vs, H a = some (.lst vs) ∧ RpAll F vs ds
  | .dK kvs => ∃ ks, H a = some (.dK ks) ∧ Paired (fun (p : Key × V) (q : Key × PyData) => p.1 = q.1 ∧ Rp F p.2 q.2) ks kvs
  | .dT kvs => ∃ ks, H a = some (.dT ks) ∧ Paired (fun (p : List Key × V) (q : List Key × PyData) => p.1 = q.1 ∧ Rp F p.2 q.2) ks kvs
theorem CellAt.mono {F F' H H' : Hp} {a : Addr} (e : Same F F') (h : ∀ o, H a = some o → H' a = some o) : ∀ {k : Cell}, CellAt F H a k → CellAt F' H' a k
  | .lst _, ⟨vs, q, r⟩ => ⟨vs, h _ q, r.mono e⟩
  | .dK _, ⟨ks, q, r⟩ => ⟨ks, h _ q, Paired.mapP r fun _ _ z => ⟨z.1, z.2.mono e⟩⟩
  | .dT _, ⟨ks, q, r⟩ => ⟨ks, h _ q, Paired.mapP r fun _ _ z => ⟨z.1, z.2.mono e⟩⟩
theorem CellAt.there {F H : Hp} {a : Addr} {k : Cell} (h : CellAt F H a k) : ∃ o, H a = some o := by
  cases k with
  | lst _ =>
    obtain ⟨_, q, _⟩ := h
    exact ⟨_, q⟩
  | dK _ =>
    obtain ⟨_, q, _⟩ := h
    exact ⟨_, q⟩
  | dT _ =>
    obtain ⟨_, q, _⟩ := h
    exact ⟨_, q⟩
/-- fixed through a stretch: what is left alone, what was frozen, the cells' places at its start -/
structure Base where
  R : Hp
  F0 : Hp
  p0 : List Addr
def VRel (F : Hp) (ps : List Addr) (x : V) : Val → Prop
  | .fr d => Rp F x d
  | .ce c => ∃ a, ps[c]? = some a ∧ x = .ref a
  | .ex a dd f d => x = .ref a ∧ ∃ v, F dd = some (.xd [(f, v)]) ∧ Rp F v d
def Live (cs : Cs) (c : Nat) : Prop := ∃ k, cs[c]? = some (some k)
structure COk (B : Base) (F : Hp) (ps : List Addr) (cs : Cs) (H : Hp) : Prop where
  fH : Same F H
  rH : Same B.R H
  f0 : Same B.F0 F
  out : ∀ a, B.R a ≠ none → F a = B.F0 a
  pre : B.p0 <+: ps
  len : ps.length = cs.length
  cell : ∀ (c : Nat) (k : Cell), cs[c]? = some (some k) → ∃ a, ps[c]? = some a ∧ CellAt F H a k ∧ F a = none ∧ B.R a = none
  inj : ∀ (c c' : Nat) (a : Addr), Live cs c → Live cs c' → ps[c]? = some a → ps[c']? = some a → c = c'
structure Ext (F F' : Hp) (ps ps' : List Addr) : Prop where
  f : Same F F'
  p : ps <+: ps'
theorem Ext.refl {F : Hp} {ps : List Addr} : Ext F F ps ps := ⟨Same.refl F, List.prefix_refl ps⟩
theorem Ext.trans {F F1 F2 : Hp} {ps p1 p2 : List Addr} (a : Ext F F1 ps p1) (b : Ext F1 F2 p1 p2) : Ext F F2 ps p2 := ⟨a.f.trans b.f, a.p.trans b.p⟩
theorem pre_get {ps ps' : List Addr} {c : Nat} {a : Addr} (h : ps <+: ps') (e : ps[c]? = some a) : ps'[c]? = some a := by
  obtain ⟨t, rfl⟩ := h
  rw [List.getElem?_append_left (List.getElem?_eq_some_iff.mp e).1]
  exact e
theorem VRel.mono {F F' : Hp} {ps ps' : List Addr} {x : V} (e : Ext F F' ps ps') : ∀ {v : Val}, VRel F ps x v → VRel F' ps' x v
  | .fr _, h => Rp.mono e.f h
  | .ce _, ⟨a, q, r⟩ => ⟨a, pre_get e.p q, r⟩
  | .ex _ _ _ _, ⟨q, v, r, s⟩ => ⟨q, v, e.f _ _ r, s.mono e.f⟩
def SOk (F : Hp) (ps : List Addr) (sl : Sl) (σ : L2.St) : Prop := ∀ (i : Nat) (v : Val), sl[i]? = some (some v) → ∃ x, σ[i]? = some (some x) ∧ VRel F ps x v
theorem SOk.mono {F F' : Hp} {ps ps' : List Addr} {sl : Sl} {σ : L2.St} (e : Ext F F' ps ps') (h : SOk F ps sl σ) : SOk F' ps' sl σ := fun i v q =>
  let ⟨x, a, b⟩ := h i v q
  ⟨x, a, b.mono e⟩
theorem SOk.set {F : Hp} {ps : List Addr} {sl : Sl} {σ : L2.St} (h : SOk F ps sl σ) (hl : sl.length = σ.length) {x : V} {v : Val} (r : VRel F ps x v) (i : Nat) : SOk F ps (sl.set i (some v)) (σ.set i (some x)) := fun j w q => by
  by_cases e : i = j
  · subst e
    by_cases hi : i < sl.length
    · rw [List.getElem?_set_self hi] at q
      cases q
      exact ⟨x, List.getElem?_set_self (hl ▸ hi), r⟩
    · rw [List.getElem?_eq_none (by simpa using hi)] at q
      cases q
  · rw [List.getElem?_set_ne e] at q ⊢
    exact h j w q
theorem SOk.drop {F : Hp} {ps : List Addr} {sl : Sl} {σ : L2.St} (h : SOk F ps sl σ) (i : Nat) : SOk F ps (sl.set i none) σ := fun j w q => by
  by_cases e : i = j
  · subst e
    by_cases hi : i < sl.length
    · rw [List.getElem?_set_self hi] at q
      cases q
    · rw [List.getElem?_eq_none (by simpa using hi)] at q
      cases q
  · rw [List.getElem?_set_ne e] at q
    exact h j w q

section
variable {B : Base} {F H : Hp} {ps : List Addr} {cs : Cs}
theorem COk.fresh (k : COk B F ps cs H) {p : Addr} (h : H p = none) : F p = none ∧ B.R p = none := ⟨k.fH.free h, k.rH.free h⟩
/-- a new thing, frozen at once -/
theorem COk.newF (k : COk B F ps cs H) {p : Addr} (h : H p = none) (o : HO) : COk B (upd F p o) ps cs (upd H p o) where
  fH := fun a u e => by
    by_cases q : a = p
    · subst q
      rw [upd_same] at e ⊢
      exact e
    · rw [upd_ne q] at e ⊢
      exact k.fH a u e
  rH := fun a u e => by
    have q : a ≠ p := ne_of_none e (k.fresh h).2
    rw [upd_ne q]
    exact k.rH a u e
  f0 := fun a u e => by
    have q : a ≠ p := ne_of_none (k.f0 a u e) (k.fresh h).1
    rw [upd_ne q]
    exact k.f0 a u e
  out := fun a r => by
    have q : a ≠ p := fun z => by
      subst z
      exact r (k.fresh h).2
    rw [upd_ne q]
    exact k.out a r
  pre := k.pre
  len := k.len
  cell := fun c x e => by
    obtain ⟨a, h1, h2, h3, h4⟩ := k.cell c x e
    obtain ⟨u, hu⟩ := h2.there
    have q : a ≠ p := ne_of_none hu h
    refine ⟨a, h1, h2.mono (fun b v e => ?_) (fun v e => by rw [upd_ne q]; exact e), by rw [upd_ne q]; exact h3, h4⟩
    rw [upd_ne (ne_of_none e (k.fresh h).1)]
    exact e
  inj := k.inj
theorem same_newF (k : COk B F ps cs H) {p : Addr} (h : H p = none) (o : HO) : Same F (upd F p o) := fun b v e => by
  rw [upd_ne (ne_of_none e (k.fresh h).1)]
  exact e
theorem ext_newF (k : COk B F ps cs H) {p : Addr} (h : H p = none) (o : HO) : Ext F (upd F p o) ps ps := ⟨same_newF k h o, List.prefix_refl _⟩
theorem live_app {cs : Cs} {x : Option Cell} {c : Nat} (h : Live (cs ++ [x]) c) : Live cs c ∨ c = cs.length := by
  obtain ⟨k, e⟩ := h
  by_cases q : c < cs.length
  · rw [List.getElem?_append_left q] at e
    exact .inl ⟨k, e⟩
  · right
    have := (List.getElem?_eq_some_iff.mp e).1
    rw [List.length_append, List.length_singleton] at this
    omega
/-- a new cell -/
theorem COk.newC (k : COk B F ps cs H) {p : Addr} (h : H p = none) {o : HO} {x : Cell} (hx : CellAt F (upd H p o) p x) : COk B F (ps ++ [p]) (cs ++ [some x]) (upd H p o) where
  fH := fun a u e => by
    rw [upd_ne (ne_of_none e (k.fresh h).1)]
    exact k.fH a u e
  rH := fun a u e => by
    rw [upd_ne (ne_of_none e (k.fresh h).2)]
    exact k.rH a u e
  f0 := k.f0
  out := k.out
  pre := k.pre.trans (List.prefix_append ps [p])
  len := by rw [List.length_append, List.length_append, k.len]; rfl
  cell := fun c y e => by
    by_cases q : c < cs.length
    · rw [List.getElem?_append_left q] at e
      obtain ⟨a, h1, h2, h3, h4⟩ := k.cell c y e
      obtain ⟨u, hu⟩ := h2.there
      have z : a ≠ p := ne_of_none hu h
      exact ⟨a, pre_get (List.prefix_append ps [p]) h1, h2.mono (Same.refl F) (fun v e => by rw [upd_ne z]; exact e), h3, h4⟩
    · rcases live_app ⟨y, e⟩ with ⟨_, z⟩ | z
      · exact absurd (List.getElem?_eq_some_iff.mp z).1 q
      · subst z
        rw [List.getElem?_append_right (Nat.le_refl _), Nat.sub_self] at e
        have e' : x = y := by
          have := Option.some.inj (Option.some.inj e)
          exact this
        subst e'
        refine ⟨p, by rw [List.getElem?_append_right (by rw [k.len]; exact Nat.le_refl _), k.len, Nat.sub_self]; rfl, hx, (k.fresh h).1, (k.fresh h).2⟩
  inj := fun c c' a l l' e e' => by
    have old : ∀ {c}, Live cs c → (ps ++ [p])[c]? = some a → ps[c]? = some a ∧ a ≠ p := fun {c} ⟨y, z⟩ e => by
      obtain ⟨b, h1, h2, _⟩ := k.cell c y z
      have := pre_get (List.prefix_append ps [p]) h1
      rw [this] at e
      cases e
      obtain ⟨u, hu⟩ := h2.there
      exact ⟨h1, ne_of_none hu h⟩
    have new : ∀ {c}, c = cs.length → (ps ++ [p])[c]? = some a → a = p := fun {c} z e => by
      subst z
      rw [List.getElem?_append_right (by rw [k.len]; exact Nat.le_refl _), k.len, Nat.sub_self] at e
      exact (Option.some.inj e).symm
    rcases live_app l with q | q <;> rcases live_app l' with q' | q'
    · exact k.inj c c' a q q' (old q e).1 (old q' e').1
    · exact absurd (new q' e') (old q e).2
    · exact absurd (new q e) (old q' e').2
    · rw [q, q']
theorem live_set {cs : Cs} {c c' : Nat} {x : Option Cell} (hc : Live cs c) (h : Live (cs.set c x) c') : Live cs c' := by
  by_cases q : c = c'
  · rw [← q]; exact hc
  · obtain ⟨k, e⟩ := h
    rw [List.getElem?_set_ne q] at e
    exact ⟨k, e⟩
/-- a cell's object is written -/
theorem COk.write (k : COk B F ps cs H) {c : Nat} {x y : Cell} {a : Addr} {o : HO} (hc : cs[c]? = some (some x)) (ha : ps[c]? = some a) (hy : CellAt F (upd H a o) a y) : COk B F ps (cs.set c (some y)) (upd H a o) := by
  obtain ⟨a', h1, h2, h3, h4⟩ := k.cell c x hc
  rw [ha] at h1
  cases h1
  refine ⟨fun b u e => ?_, fun b u e => ?_, k.f0, k.out, k.pre, by rw [List.length_set]; exact k.len, fun d z e => ?_, fun d d' b l l' e e' => k.inj d d' b (live_set ⟨x, hc⟩ l) (live_set ⟨x, hc⟩ l') e e'⟩
  · rw [upd_ne (ne_of_none e h3)]
    exact k.fH b u e
  · rw [upd_ne (ne_of_none e h4)]
    exact k.rH b u e
  · by_cases q : c = d
    · subst q
      rw [List.getElem?_set_self (List.getElem?_eq_some_iff.mp hc).1] at e
      have e' : y = z := Option.some.inj (Option.some.inj e)
      subst e'
      exact ⟨a, ha, hy, h3, h4⟩
    · rw [List.getElem?_set_ne q] at e
      obtain ⟨b, g1, g2, g3, g4⟩ := k.cell d z e
      have nb : b ≠ a := fun w => by
        subst w
        exact q (k.inj c d b ⟨x, hc⟩ ⟨z, e⟩ ha g1)
      exact ⟨b, g1, g2.mono (Same.refl F) (fun v e => by rw [upd_ne nb]; exact e), g3, g4⟩
/-- a cell's list is frozen -/
theorem COk.freeze (k : COk B F ps cs H) {c : Nat} {ds : List PyData} (hc : cs[c]? = some (some (.lst ds))) : ∃ a F', ps[c]? = some a ∧ Ext F F' ps ps ∧ COk B F' ps (cs.set c none) H ∧ Rp F' (.ref a) (.list ds) := by
  obtain ⟨a, h1, ⟨vs, h2, h5⟩, h3, h4⟩ := k.cell c _ hc
  have sF : Same F (upd F a (.lst vs)) := fun b v e => by
    rw [upd_ne (ne_of_none e h3)]
    exact e
  refine ⟨a, upd F a (.lst vs), h1, ⟨sF, List.prefix_refl _⟩, ⟨fun b u e => ?_, k.rH, fun b u e => sF b u (k.f0 b u e), fun b r => ?_, k.pre, by rw [List.length_set]; exact k.len, fun d z e => ?_, fun d d' b l l' e e' => k.inj d d' b (live_set ⟨_, hc⟩ l) (live_set ⟨_, hc⟩ l') e e'⟩, .lst upd_same (h5.mono sF)⟩
  · by_cases q : b = a
    · subst q
      rw [upd_same] at e
      cases e
      exact h2
    · rw [upd_ne q] at e
      exact k.fH b u e
  · have q : b ≠ a := fun z => by
      subst z
      exact r h4
    rw [upd_ne q]
    exact k.out b r
  · by_cases q : c = d
    · subst q
      rw [List.getElem?_set_self (List.getElem?_eq_some_iff.mp hc).1] at e
      cases e
    · rw [List.getElem?_set_ne q] at e
      obtain ⟨b, g1, g2, g3, g4⟩ := k.cell d z e
      have nb : b ≠ a := fun w => by
        subst w
        exact q (k.inj c d b ⟨_, hc⟩ ⟨z, e⟩ h1 g1)
      exact ⟨b, g1, g2.mono sF fun v e => e, by rw [upd_ne nb]; exact g3, g4⟩
theorem live_take {cs : Cs} {n c : Nat} (h : Live (cs.take n) c) : Live cs c ∧ c < n := by
  obtain ⟨k, e⟩ := h
  have q := (List.getElem?_eq_some_iff.mp e).1
  rw [List.length_take] at q
  have z : c < n := by omega
  rw [List.getElem?_take_of_lt z] at e
  exact ⟨⟨k, e⟩, z⟩
/-- later cells are forgotten -/
theorem COk.trunc (k : COk B F ps cs H) (n : Nat) (hn : B.p0.length ≤ n) : COk B F (ps.take n) (cs.take n) H where
  fH := k.fH
  rH := k.rH
  f0 := k.f0
  out := k.out
  pre := by
    obtain ⟨t, e⟩ := k.pre
    rw [← e, List.take_append, List.take_of_length_le hn]
    exact List.prefix_append _ _
  len := by rw [List.length_take, List.length_take, k.len]
  cell := fun c x e => by
    obtain ⟨l, z⟩ := live_take ⟨x, e⟩
    rw [List.getElem?_take_of_lt z] at e
    obtain ⟨a, h1, h2⟩ := k.cell c x e
    exact ⟨a, by rw [List.getElem?_take_of_lt z]; exact h1, h2⟩
  inj := fun c c' a l l' e e' => by
    obtain ⟨l1, z1⟩ := live_take l
    obtain ⟨l2, z2⟩ := live_take l'
    rw [List.getElem?_take_of_lt z1] at e
    rw [List.getElem?_take_of_lt z2] at e'
    exact k.inj c c' a l1 l2 e e'
end

/-! ### reading a value -/
def lsOf (v : Val) (cs : Cs) : Option (List PyData) := match v with
  | .fr (.list ds) => some ds
  | .ce c => match cs[c]? with
    | some (some (.lst ds)) => some ds
    | _ => none
  | _ => none
def tuOf (v : Val) : Option (List PyData) := match v with
  | .fr (.tuple ds) => some ds
  | _ => none
def sqOf (v : Val) (cs : Cs) : Option (List PyData) := match lsOf v cs with
  | some ds => some ds
  | none => tuOf v
def dOf (v : Val) (cs : Cs) : Option PyData := match v with
  | .fr d => some d
  | .ce c => match cs[c]? with
    | some (some (.lst ds)) => some (.list ds)
    | _ => none
  | _ => none
def inOf (v : Val) : Option Int := match v with
  | .fr (.int i) => some i
  | _ => none
def blOf (v : Val) : Option Bool := match v with
  | .fr (.bool i) => some i
  | _ => none
def stOf (v : Val) : Option Str := match v with
  | .fr (.str i) => some i
  | _ => none
section
variable {B : Base} {F H : Hp} {ps : List Addr} {cs : Cs} {x : V} {v : Val}
theorem ls_at (k : COk B F ps cs H) (r : VRel F ps x v) {ds : List PyData} (h : lsOf v cs = some ds) : ∃ a vs, x = .ref a ∧ H a = some (.lst vs) ∧ RpAll F vs ds := by
  unfold lsOf at h
  split at h
  · cases h
    cases r with
    | lst q s => exact ⟨_, _, rfl, k.fH _ _ q, s⟩
  · split at h
    · cases h
      rename_i e
      obtain ⟨a, h1, ⟨vs, h2, h3⟩, _⟩ := k.cell _ _ e
      obtain ⟨b, q, rfl⟩ := r
      rw [q] at h1
      cases h1
      exact ⟨_, vs, rfl, h2, h3⟩
    · cases h
  · cases h
theorem tu_at (k : COk B F ps cs H) (r : VRel F ps x v) {ds : List PyData} (h : tuOf v = some ds) : ∃ a vs, x = .ref a ∧ H a = some (.tup vs) ∧ RpAll F vs ds := by
  unfold tuOf at h
  split at h
  · cases h
    cases r with
    | tup q s => exact ⟨_, _, rfl, k.fH _ _ q, s⟩
  · cases h
theorem sq_at (K : PySem.W.Frag) (k : COk B F ps cs H) (r : VRel F ps x v) {ds : List PyData} (h : sqOf v cs = some ds) : ∃ a vs, x = .ref a ∧ (SqL K H a vs ∨ SqT K H a vs) ∧ RpAll F vs ds := by
  unfold sqOf at h
  split at h
  · rename_i e
    cases h
    obtain ⟨a, vs, h1, h2, h3⟩ := ls_at k r e
    exact ⟨a, vs, h1, .inl (SqL.of h2), h3⟩
  · obtain ⟨a, vs, h1, h2, h3⟩ := tu_at k r h
    exact ⟨a, vs, h1, .inr (SqT.of h2), h3⟩
theorem dp_at (K : PySem.W.Frag) (k : COk B F ps cs H) (r : VRel F ps x v) {d : PyData} (h : dOf v cs = some d) : Dp K H x d := by
  unfold dOf at h
  split at h
  · cases h
    exact Rp.dp k.fH r
  · split at h
    · cases h
      rename_i e
      obtain ⟨a, h1, ⟨vs, h2, h3⟩, _⟩ := k.cell _ _ e
      obtain ⟨b, q, rfl⟩ := r
      rw [q] at h1
      cases h1
      exact .lst (SqL.of h2) (h3.dp k.fH)
    · cases h
  · cases h
theorem in_at (r : VRel F ps x v) {i : Int} (h : inOf v = some i) : x = .int i := by
  unfold inOf at h
  split at h
  · cases h
    cases r
    rfl
  · cases h
theorem bl_at (r : VRel F ps x v) {i : Bool} (h : blOf v = some i) : x = .bl i := by
  unfold blOf at h
  split at h
  · cases h
    cases r
    rfl
  · cases h
theorem st_at (r : VRel F ps x v) {i : Str} (h : stOf v = some i) : x = .str i := by
  unfold stOf at h
  split at h
  · cases h
    cases r
    rfl
  · cases h
end

/-! ### readings by data -/
abbrev EF := Sl → Cs → Option (Val × Cs)
abbrev BF := Sl → Cs → Option (Bool × Cs)
abbrev LF := Sl → Cs → Option (List PyData × Cs)
abbrev AF := Sl → Cs → Option (List Val × Cs)
/-- ready: the state that a reading by data starts from -/
structure Rdy (B : Base) (F : Hp) (ps : List Addr) (sl : Sl) (cs : Cs) (σ : L2.St) (H : Hp) : Prop where
  c : COk B F ps cs H
  s : SOk F ps sl σ
  l : sl.length = σ.length
theorem Rdy.go {B : Base} {F F' H H' : Hp} {ps ps' : List Addr} {sl : Sl} {cs cs' : Cs} {σ : L2.St} (r : Rdy B F ps sl cs σ H) (e : Ext F F' ps ps') (k : COk B F' ps' cs' H') : Rdy B F' ps' sl cs' σ H' := ⟨k, r.s.mono e, r.l⟩
def VRelAll (F : Hp) (ps : List Addr) : List V → List Val → Prop := Paired (VRel F ps)
theorem VRelAll.mono {F F' : Hp} {ps ps' : List Addr} (e : Ext F F' ps ps') {xs : List V} {vs : List Val} (h : VRelAll F ps xs vs) : VRelAll F' ps' xs vs := Paired.mapP h fun _ _ r => r.mono e
def tD (f : EF) : TE := fun σ H Q => ∃ B F ps sl cs v cs', Rdy B F ps sl cs σ H ∧ f sl cs = some (v, cs') ∧ ∀ x F' ps' H', Ext F F' ps ps' → COk B F' ps' cs' H' → VRel F' ps' x v → Q x H'
def tT (f : BF) : TT := fun σ H Q => ∃ B F ps sl cs b cs', Rdy B F ps sl cs σ H ∧ f sl cs = some (b, cs') ∧ ∀ F' ps' H', Ext F F' ps ps' → COk B F' ps' cs' H' → Q b H'
/-- a new list, nobody's as yet -/
def tL (f : LF) : TE := fun σ H Q => ∃ B F ps sl cs ds cs', Rdy B F ps sl cs σ H ∧ f sl cs = some (ds, cs') ∧ ∀ p vs F' ps' H', Ext F F' ps ps' → COk B F' ps' cs' H' → H' p = none → RpAll F' vs ds → Q (.ref p) (upd H' p (.lst vs))
def tA (f : AF) : TA := fun σ H Q => ∃ B F ps sl cs vs cs', Rdy B F ps sl cs σ H ∧ f sl cs = some (vs, cs') ∧ ∀ xs F' ps' H', Ext F F' ps ps' → COk B F' ps' cs' H' → VRelAll F' ps' xs vs → Q xs H'
section
variable {X : Cx} {e : Expr}
theorem PE.to {t u : TE} (h : PE X e t) (w : ∀ σ H Q, u σ H Q → t σ H Q) : PE X e u := ⟨fun pins s σ H Q I z => h.run pins s σ H Q I (w σ H Q z)⟩
theorem PT.to {t u : TT} (h : PT X e t) (w : ∀ σ H Q, u σ H Q → t σ H Q) : PT X e u := ⟨fun pins s σ H Q I z => h.run pins s σ H Q I (w σ H Q z)⟩
theorem PA.to {es : List Expr} {t u : TA} (h : PA X es t) (w : ∀ σ H Q, u σ H Q → t σ H Q) : PA X es u := ⟨fun pos pins s σ H Q I z => h.run pos pins s σ H Q I (w σ H Q z)⟩
theorem PS.to {st : Stmt} {t u : TS} (h : PS X st t) (w : ∀ D σ H, u D σ H → t D σ H) : PS X st u := ⟨fun pins s σ H D I z => h.run pins s σ H D I (w D σ H z)⟩
theorem PSs.to {st : List Stmt} {t u : TS} (h : PSs X st t) (w : ∀ D σ H, u D σ H → t D σ H) : PSs X st u := ⟨fun pins s σ H D I z => h.run pins s σ H D I (w D σ H z)⟩
end
/-! ### new lists: frozen, or a cell -/
def dFz (f : LF) : EF := fun sl cs => match f sl cs with
  | some (ds, cs') => some (.fr (.list ds), cs')
  | none => none
def dCe (f : LF) : EF := fun sl cs => match f sl cs with
  | some (ds, cs') => some (.ce cs'.length, cs' ++ [some (.lst ds)])
  | none => none
section
variable {X : Cx} {e : Expr}
theorem px_fz {f : LF} (h : PE X e (tL f)) : PE X e (tD (dFz f)) := PE.to h fun σ H Q ⟨B, F, ps, sl, cs, v, cs', r, hf, k⟩ => by
  unfold dFz at hf
  split at hf
  · rename_i ds cs2 e
    cases hf
    refine ⟨B, F, ps, sl, cs, ds, _, r, e, fun p vs F' ps' H' ex ck hp ra => k _ _ _ _ (ex.trans (ext_newF ck hp (.lst vs))) (ck.newF hp (.lst vs)) ?_⟩
    exact .lst upd_same (ra.mono (same_newF ck hp _))
  · cases hf
theorem px_ce {f : LF} (h : PE X e (tL f)) : PE X e (tD (dCe f)) := PE.to h fun σ H Q ⟨B, F, ps, sl, cs, v, cs', r, hf, k⟩ => by
  unfold dCe at hf
  split at hf
  · rename_i ds cs2 e
    cases hf
    refine ⟨B, F, ps, sl, cs, ds, cs2, r, e, fun p vs F' ps' H' ex ck hp ra => k _ _ _ _ (ex.trans ⟨Same.refl _, List.prefix_append ps' [p]⟩) (ck.newC hp ⟨vs, upd_same, ra⟩) ⟨p, ?_, rfl⟩⟩
    rw [← ck.len, List.getElem?_append_right (Nat.le_refl _), Nat.sub_self]
    rfl
  · cases hf
/-- the value frozen, if it is a cell -/
def fzV (v : Val) (cs : Cs) : Option (PyData × Cs) := match v with
  | .fr d => some (d, cs)
  | .ce c => match cs[c]? with
    | some (some (.lst ds)) => some (.list ds, cs.set c none)
    | _ => none
  | _ => none
theorem fz_at {B : Base} {F H : Hp} {ps : List Addr} {cs cs' : Cs} {x : V} {v : Val} {d : PyData} (k : COk B F ps cs H) (r : VRel F ps x v) (h : fzV v cs = some (d, cs')) : ∃ F', Ext F F' ps ps ∧ COk B F' ps cs' H ∧ Rp F' x d := by
  unfold fzV at h
  split at h
  · cases h
    exact ⟨F, Ext.refl, k, r⟩
  · split at h
    · cases h
      rename_i e
      obtain ⟨a, F', h1, h2, h3, h4⟩ := k.freeze e
      obtain ⟨b, q, rfl⟩ := r
      rw [q] at h1
      cases h1
      exact ⟨F', h2, h3, h4⟩
    · cases h
  · cases h
def fzAll : List Val → Cs → Option (List PyData × Cs)
  | [], cs => some ([], cs)
  | v :: vs, cs => match fzV v cs with
    | some (d, cs1) => match fzAll vs cs1 with
      | some (ds, cs2) => some (d :: ds, cs2)
      | none => none
    | none => none
theorem fzAll_at {B : Base} {H : Hp} {ps : List Addr} : ∀ {xs : List V} {vs : List Val} {F : Hp} {cs cs' : Cs} {ds : List PyData}, COk B F ps cs H → VRelAll F ps xs vs → fzAll vs cs = some (ds, cs') → ∃ F', Ext F F' ps ps ∧ COk B F' ps cs' H ∧ RpAll F' xs ds
  | _, [], F, cs, cs', ds, k, r, h => by
    cases r
    cases h
    exact ⟨F, Ext.refl, k, .nil⟩
  | _, v :: vs, F, cs, cs', ds, k, r, h => by
    cases r with
    | cons r1 r2 =>
      unfold fzAll at h
      split at h
      · rename_i d cs1 e1
        split at h
        · rename_i ds' cs2 e2
          cases h
          obtain ⟨F1, a1, a2, a3⟩ := fz_at k r1 e1
          obtain ⟨F2, b1, b2, b3⟩ := fzAll_at a2 (VRelAll.mono a1 r2) e2
          exact ⟨F2, a1.trans b1, b2, .cons (a3.mono b1.f) b3⟩
        · cases h
      · cases h
def dFr (f : EF) : EF := fun sl cs => match f sl cs with
  | some (v, cs1) => match fzV v cs1 with
    | some (d, cs2) => some (.fr d, cs2)
    | none => none
  | none => none
theorem px_fr {f : EF} (h : PE X e (tD f)) : PE X e (tD (dFr f)) := PE.to h fun σ H Q ⟨B, F, ps, sl, cs, v, cs', r, hf, k⟩ => by
  unfold dFr at hf
  split at hf
  · rename_i v1 cs1 e
    split at hf
    · rename_i d cs2 e2
      cases hf
      refine ⟨B, F, ps, sl, cs, v1, cs1, r, e, fun x F' ps' H' ex ck rx => ?_⟩
      obtain ⟨F2, a1, a2, a3⟩ := fz_at ck rx e2
      exact k _ _ _ _ (ex.trans a1) a2 a3
    · cases hf
  · cases hf
end

/-! ### names, constants -/
def dV (i : Nat) : EF := fun sl cs => match sl[i]? with
  | some (some v) => some (v, cs)
  | _ => none
def dK (d : PyData) : EF := fun _ cs => some (.fr d, cs)
section
variable {X : Cx} {e : Expr}
theorem px_var {i : Nat} (h : PE X e (tVar i)) : PE X e (tD (dV i)) := PE.to h fun σ H Q ⟨B, F, ps, sl, cs, v, cs', r, hf, k⟩ => by
  unfold dV at hf
  split at hf
  · rename_i w q
    cases hf
    obtain ⟨x, h1, h2⟩ := r.s _ _ q
    exact ⟨x, h1, k _ _ _ _ Ext.refl r.c h2⟩
  · cases hf
theorem px_const {v : V} {d : PyData} (h : PE X e (tC v)) (r : ∀ F, Rp F v d) : PE X e (tD (dK d)) := PE.to h fun σ H Q ⟨B, F, ps, sl, cs, v, cs', rd, hf, k⟩ => by
  unfold dK at hf
  cases hf
  exact k _ _ _ _ Ext.refl rd.c (r F)
theorem px_int {i : Int} {j : Nat} {pos : Pos} : PE X (.Constant (.int i) j pos) (tD (dK (.int i))) := px_const pe_int fun _ => .int i
theorem px_bl {b : Bool} {j : Nat} {pos : Pos} : PE X (.Constant (.bool b) j pos) (tD (dK (.bool b))) := px_const pe_bl fun _ => .bl b
theorem px_non {j : Nat} {pos : Pos} : PE X (.Constant .none j pos) (tD (dK .none)) := px_const pe_non fun _ => .non
theorem px_str {x : Str} {j : Nat} {pos : Pos} (h : PyData.strOk x = true := by decide +kernel) : PE X (.Constant (.str x) j pos) (tD (dK (.str x))) := px_const pe_str fun _ => .str x h
theorem px_v (i : Nat) {x : Str} {pos : Pos} (hN : X.N[i]? = some x := by rfl) (hv : Vis X.env.scope x := by first | exact Or.inl rfl | exact Or.inr (Or.inl rfl) | exact Or.inr (Or.inr rfl)) (hd : (x == ("__debug__" : Str)) = false := by decide)
    (hcd : (x == ("__classdict__" : Str)) = false := by decide) : PE X (.Name x pos) (tD (dV i)) := px_var (pe_var hN hv hd hcd)

/-! ### operators -/
abbrev Op2 := Val → Val → Cs → Option Val
abbrev Op2L := Val → Val → Cs → Option (List PyData)
structure R2P (r : R2) (op : Op2) : Prop where
  go : ∀ {B : Base} {F H : Hp} {ps : List Addr} {cs : Cs} {x y : V} {a b v : Val} {Q : VK}, COk B F ps cs H → VRel F ps x a → VRel F ps y b → op a b cs = some v → (∀ z, VRel F ps z v → Q z H) → r x y H Q
structure R2L (r : R2) (op : Op2L) : Prop where
  go : ∀ {B : Base} {F H : Hp} {ps : List Addr} {cs : Cs} {x y : V} {a b : Val} {ds : List PyData} {Q : VK}, COk B F ps cs H → VRel F ps x a → VRel F ps y b → op a b cs = some ds →
  (∀ p vs, H p = none → RpAll F vs ds → Q (.ref p) (upd H p (.lst vs))) → r x y H Q
/-- the operator may make something new, frozen at once -/
structure R2G (r : R2) (op : Op2) : Prop where
  go : ∀ {B : Base} {F H : Hp} {ps : List Addr} {cs : Cs} {x y : V} {a b v : Val} {Q : VK}, COk B F ps cs H → VRel F ps x a → VRel F ps y b → op a b cs = some v →
    (∀ z F' H', Ext F F' ps ps → COk B F' ps cs H' → VRel F' ps z v → Q z H') → r x y H Q
theorem R2P.g {r : R2} {op : Op2} (h : R2P r op) : R2G r op := ⟨fun k ra rb e q => h.go k ra rb e fun z rz => q z _ _ Ext.refl k rz⟩
def opL (op : Op2L) : Op2 := fun a b cs => match op a b cs with
  | some ds => some (.fr (.list ds))
  | none => none
theorem R2L.g {r : R2} {op : Op2L} (h : R2L r op) : R2G r (opL op) := ⟨fun k ra rb e q => by
  unfold opL at e
  split at e
  · rename_i ds e1
    cases e
    exact h.go k ra rb e1 fun p vs hp rv => q _ _ _ (ext_newF k hp (.lst vs)) (k.newF hp (.lst vs)) (.lst upd_same (rv.mono (same_newF k hp _)))
  · cases e⟩
def opOr (f g : Op2) : Op2 := fun a b cs => match f a b cs with
  | some v => some v
  | none => g a b cs
theorem R2G.or {r r' : R2} {f g : Op2} (h : R2G r f) (h' : R2G r' g) : R2G (fun x y H Q => r x y H Q ∨ r' x y H Q) (opOr f g) := ⟨fun k ra rb e q => by
  unfold opOr at e
  split at e
  · rename_i v e1
    cases e
    exact .inl (h.go k ra rb e1 q)
  · exact .inr (h'.go k ra rb e q)⟩
def d2 (op : Op2) (f g : EF) : EF := fun sl cs => match f sl cs with
  | some (a, c1) => match g sl c1 with
    | some (b, c2) => match op a b c2 with
      | some v => some (v, c2)
      | none => none
    | none => none
  | none => none
def d2L (op : Op2L) (f g : EF) : LF := fun sl cs => match f sl cs with
  | some (a, c1) => match g sl c1 with
    | some (b, c2) => match op a b c2 with
      | some v => some (v, c2)
      | none => none
    | none => none
  | none => none
theorem op_d {r : R2} {op : Op2} {f g : EF} (h : R2G r op) : ∀ σ H Q, tD (d2 op f g) σ H Q → tOp r (tD f) (tD g) σ H Q := fun σ H Q ⟨B, F, ps, sl, cs, v, cs', rd, hf, k⟩ => by
  unfold d2 at hf
  split at hf
  · rename_i a c1 e1
    split at hf
    · rename_i b c2 e2
      split at hf
      · rename_i w e3
        cases hf
        refine ⟨B, F, ps, sl, cs, a, c1, rd, e1, fun x F1 p1 H1 x1 k1 r1 => ⟨B, F1, p1, sl, c1, b, _, rd.go x1 k1, e2, fun y F2 p2 H2 x2 k2 r2 => ?_⟩⟩
        exact h.go k2 (r1.mono x2) r2 e3 fun z F3 H3 x3 k3 rz => k _ _ _ _ ((x1.trans x2).trans x3) k3 rz
      · cases hf
    · cases hf
  · cases hf
theorem op_dL {r : R2} {op : Op2L} {f g : EF} (h : R2L r op) : ∀ σ H Q, tL (d2L op f g) σ H Q → tOp r (tD f) (tD g) σ H Q := fun σ H Q ⟨B, F, ps, sl, cs, v, cs', rd, hf, k⟩ => by
  unfold d2L at hf
  split at hf
  · rename_i a c1 e1
    split at hf
    · rename_i b c2 e2
      split at hf
      · rename_i w e3
        cases hf
        refine ⟨B, F, ps, sl, cs, a, c1, rd, e1, fun x F1 p1 H1 x1 k1 r1 => ⟨B, F1, p1, sl, c1, b, _, rd.go x1 k1, e2, fun y F2 p2 H2 x2 k2 r2 => ?_⟩⟩
        exact h.go k2 (r1.mono x2) r2 e3 fun p vs hp rz => k _ _ _ _ _ (x1.trans x2) k2 hp rz
      · cases hf
    · cases hf
  · cases hf
theorem px_op {a b : Expr} {pos : Pos} {o : Operator} {r : R2} {op : Op2} {f g : EF} (ho : OpR X (binaryOp o) r) (h : R2G r op) (ha : PE X a (tD f)) (hb : PE X b (tD g)) : PE X (.BinOp a o b pos) (tD (d2 op f g)) := PE.to (pe_op ho ha hb) (op_d h)
theorem pl_op {a b : Expr} {pos : Pos} {o : Operator} {r : R2} {op : Op2L} {f g : EF} (ho : OpR X (binaryOp o) r) (h : R2L r op) (ha : PE X a (tD f)) (hb : PE X b (tD g)) : PE X (.BinOp a o b pos) (tL (d2L op f g)) := PE.to (pe_op ho ha hb) (op_dL h)
theorem px_cmp {a b : Expr} {pos : Pos} {o : CmpOp} {r : R2} {op : Op2} {f g : EF} (ho : OpR X (compareOp o) r) (h : R2G r op) (ha : PE X a (tD f)) (hb : PE X b (tD g)) (hm : behindInMarks o b = false) : PE X (.Compare a [o] [b] pos) (tD (d2 op f g)) := PE.to (pe_cmpR ho ha hb hm) (op_d h)
theorem px_ix {a b : Expr} {pos : Pos} {r : R2} {op : Op2} {f g : EF} (ho : IxR X r) (h : R2G r op) (ha : PE X a (tD f)) (hb : PE X b (tD g)) (hs : PlainIx b := by exact fun _ _ => rfl) : PE X (.Subscript a b pos) (tD (d2 op f g)) := PE.to (pe_ix ho ha hb hs) (op_d h)
end
end DX
set_option maxHeartbeats 1000000
/-! DX, second part: operators, tests, arguments, built-ins by name. -/
namespace DX
open PySem L2 PySem.Spec PyProof.Rows

/-! ### whole numbers -/
def i2 (g : Int → Int → PyData) : Op2 := fun a b _ => match inOf a, inOf b with
  | some i, some j => some (.fr (g i j))
  | _, _ => none
def i2c (C : Int → Int → Bool) (g : Int → Int → PyData) : Op2 := fun a b _ => match inOf a, inOf b with
  | some i, some j => if C i j = true then some (.fr (g i j)) else none
  | _, _ => none
theorem i2_p {g : Int → Int → V} {g' : Int → Int → PyData} (hg : ∀ F i j, Rp F (g i j) (g' i j)) : R2P (rI0 g) (i2 g') := ⟨fun k ra rb e q => by
  unfold i2 at e
  split at e
  · rename_i i j e1 e2
    cases e
    exact ⟨i, j, in_at ra e1, in_at rb e2, q _ (hg _ i j)⟩
  · cases e⟩
theorem i2c_p {C : Int → Int → Prop} {C' : Int → Int → Bool} {g : Int → Int → V} {g' : Int → Int → PyData} (hC : ∀ i j, C' i j = true → C i j) (hg : ∀ F i j, Rp F (g i j) (g' i j)) : R2P (rI C g) (i2c C' g') := ⟨fun k ra rb e q => by
  unfold i2c at e
  split at e
  · rename_i i j e1 e2
    split at e
    · rename_i h
      cases e
      exact ⟨i, j, in_at ra e1, in_at rb e2, hC i j h, q _ (hg _ i j)⟩
    · cases e
  · cases e⟩
def s2 (C : Str → Str → Bool) (g : Str → Str → PyData) : Op2 := fun a b _ => match stOf a, stOf b with
  | some i, some j => if C i j = true then some (.fr (g i j)) else none
  | _, _ => none
theorem ok_at {F : Hp} {ps : List Addr} {x : V} {v : Val} (r : VRel F ps x v) {i : Str} (h : stOf v = some i) : PyData.strOk i = true := by
  unfold stOf at h
  split at h
  · cases h
    cases r with
    | str _ h => exact h
  · cases h
theorem ok_append {x y : Str} (hx : PyData.strOk x = true) (hy : PyData.strOk y = true) : PyData.strOk (x ++ y) = true := by
  unfold PyData.strOk at *
  show (x.cps ++ y.cps).all _ = true
  rw [Array.all_append, hx, hy]
  rfl
theorem s2_p {C : Str → Str → Bool} {r : R2} {g : Str → Str → V} {g' : Str → Str → PyData} (hr : ∀ (i j : Str) (H : Hp) (Q : VK), C i j = true → Q (g i j) H → r (.str i) (.str j) H Q)
    (hg : ∀ F i j, PyData.strOk i = true → PyData.strOk j = true → Rp F (g i j) (g' i j)) : R2P r (s2 C g') := ⟨fun k ra rb e q => by
  unfold s2 at e
  split at e
  · rename_i i j e1 e2
    split at e
    · rename_i h
      cases e
      rw [st_at ra e1, st_at rb e2]
      exact hr i j _ _ h (q _ (hg _ i j (ok_at ra e1) (ok_at rb e2)))
    · cases e
  · cases e⟩
theorem size_ok {n : Nat} (h : decide (n ≤ 16777216) = true) : n ≤ sizeLine := by
  rw [sizeLine_eq]
  exact of_decide_eq_true h
def l2 (C : List PyData → List PyData → Bool) (g : List PyData → List PyData → List PyData) : Op2L := fun a b cs => match lsOf a cs, lsOf b cs with
  | some i, some j => if C i j = true then some (g i j) else none
  | _, _ => none

section
variable {X : Cx}
/-! a + b -/
abbrev oAddL : Op2L := l2 (fun i j => decide (i.length + j.length ≤ 16777216)) (· ++ ·)
theorem addL_l : R2L rCat oAddL := ⟨fun k ra rb e q => by
  unfold oAddL l2 at e
  split at e
  · rename_i i j e1 e2
    split at e
    · rename_i h
      cases e
      obtain ⟨a, vs, h1, h2, h3⟩ := ls_at k ra e1
      obtain ⟨b, ws, g1, g2, g3⟩ := ls_at k rb e2
      exact ⟨a, b, vs, ws, h1, g1, h2, g2, by rw [h3.length, g3.length]; exact size_ok h, fun p hp => q p _ hp (h3.append g3)⟩
    · cases e
  · cases e⟩
def oAdd : Op2 := opOr (i2 fun i j => .int (i + j)) (opOr (s2 (fun i j => decide (i.length + j.length ≤ 16777216)) fun i j => .str (i ++ j)) (opL oAddL))
def rAddX : R2 := fun x y H Q => rI0 (fun i j => .int (i + j)) x y H Q ∨ (∃ i j, x = .str i ∧ y = .str j ∧ i.length + j.length ≤ sizeLine ∧ Q (.str (i ++ j)) H) ∨ rCat x y H Q
theorem op_addX : OpR X (binaryOp .Add) rAddX := op_add.or (op_add_str.or op_cat)
theorem addX_g : R2G rAddX oAdd := (i2_p fun _ _ _ => .int _).g.or ((s2_p (fun i j H Q h q => ⟨i, j, rfl, rfl, size_ok h, q⟩) fun _ _ _ h1 h2 => .str _ (ok_append h1 h2)).g.or addL_l.g)
theorem px_add {a b : Expr} {pos : Pos} {f g : EF} (ha : PE X a (tD f)) (hb : PE X b (tD g)) : PE X (.BinOp a .Add b pos) (tD (d2 oAdd f g)) := px_op op_addX addX_g ha hb
theorem pl_add {a b : Expr} {pos : Pos} {f g : EF} (ha : PE X a (tD f)) (hb : PE X b (tD g)) : PE X (.BinOp a .Add b pos) (tL (d2L oAddL f g)) := pl_op op_cat addL_l ha hb
/-! a - b, a * b, a // b, a % b, a ** b -/
def oSub : Op2 := i2 fun i j => .int (i - j)
theorem px_sub {a b : Expr} {pos : Pos} {f g : EF} (ha : PE X a (tD f)) (hb : PE X b (tD g)) : PE X (.BinOp a .Sub b pos) (tD (d2 oSub f g)) := px_op op_sub (i2_p fun _ _ _ => .int _).g ha hb
def cMul (i j : Int) : Bool := decide (i.natAbs < 2 ^ 64) || decide (j.natAbs < 2 ^ 64)
theorem cMul_ok (i j : Int) (h : cMul i j = true) : CMul i j := by
  unfold cMul at h
  rw [Bool.or_eq_true, decide_eq_true_eq, decide_eq_true_eq] at h
  unfold CMul
  omega
abbrev oRep : Op2L := fun a b cs => match lsOf a cs, inOf b with
  | some ds, some k => if decide (-(2 ^ 63) ≤ k) && decide (k < 2 ^ 63) && decide (ds.length * k.toNat ≤ 16777216) then some (List.replicate k.toNat ds).flatten else none
  | _, _ => none
theorem rep_l : R2L rRep oRep := ⟨fun k ra rb e q => by
  unfold oRep at e
  split at e
  · rename_i ds n e1 e2
    split at e
    · rename_i h
      cases e
      rw [Bool.and_eq_true, Bool.and_eq_true] at h
      obtain ⟨⟨c1, c2⟩, c3⟩ := h
      obtain ⟨a, vs, h1, h2, h3⟩ := ls_at k ra e1
      exact ⟨a, n, vs, h1, in_at rb e2, h2, of_decide_eq_true c1, of_decide_eq_true c2, by rw [h3.length]; exact size_ok c3, fun p hp => q p _ hp (h3.rep _)⟩
    · cases e
  · cases e⟩
def oMul : Op2 := opOr (i2c cMul fun i j => .int (i * j)) (opL oRep)
def rMulX : R2 := fun x y H Q => rI CMul (fun i j => .int (i * j)) x y H Q ∨ rRep x y H Q
theorem px_mul {a b : Expr} {pos : Pos} {f g : EF} (ha : PE X a (tD f)) (hb : PE X b (tD g)) : PE X (.BinOp a .Mult b pos) (tD (d2 oMul f g)) := px_op (r := rMulX) (op_mul.or op_rep) ((i2c_p cMul_ok fun _ _ _ => .int _).g.or rep_l.g) ha hb
theorem pl_mul {a b : Expr} {pos : Pos} {f g : EF} (ha : PE X a (tD f)) (hb : PE X b (tD g)) : PE X (.BinOp a .Mult b pos) (tL (d2L oRep f g)) := pl_op op_rep rep_l ha hb
def oDiv : Op2 := i2c (fun _ j => decide (0 < j) && decide (j < 1073741824)) fun i j => .int (i / j)
theorem px_div {a b : Expr} {pos : Pos} {f g : EF} (ha : PE X a (tD f)) (hb : PE X b (tD g)) : PE X (.BinOp a .FloorDiv b pos) (tD (d2 oDiv f g)) :=
  px_op op_fdiv (i2c_p (fun i j h => by
    rw [Bool.and_eq_true] at h
    exact ⟨of_decide_eq_true h.1, of_decide_eq_true h.2⟩) fun _ _ _ => .int _).g ha hb
def oMod : Op2 := i2c (fun _ j => decide (0 < j)) fun i j => .int (i % j)
theorem px_mod {a b : Expr} {pos : Pos} {f g : EF} (ha : PE X a (tD f)) (hb : PE X b (tD g)) : PE X (.BinOp a .Mod b pos) (tD (d2 oMod f g)) := px_op op_mod (i2c_p (fun i j h => of_decide_eq_true h) fun _ _ _ => .int _).g ha hb
def oPow : Op2 := i2c (fun i j => decide (0 ≤ j) && decide (j ≤ 1000000) && decide (i.natAbs < 2 ^ 64)) fun i j => .int (i ^ j.toNat)
theorem px_pow {a b : Expr} {pos : Pos} {f g : EF} (ha : PE X a (tD f)) (hb : PE X b (tD g)) : PE X (.BinOp a .Pow b pos) (tD (d2 oPow f g)) :=
  px_op op_pow (i2c_p (fun i j h => by
    rw [Bool.and_eq_true, Bool.and_eq_true] at h
    exact ⟨of_decide_eq_true h.1.1, of_decide_eq_true h.1.2, of_decide_eq_true h.2⟩) fun _ _ _ => .int _).g ha hb

/-! comparisons -/
def ib (g : Int → Int → Bool) : Op2 := i2 fun i j => .bool (g i j)
def sb (g : Str → Str → Bool) : Op2 := s2 (fun _ _ => true) fun i j => .bool (g i j)
theorem ib_g {g : Int → Int → Bool} : R2G (rI0 fun i j => .bl (g i j)) (ib g) := (i2_p fun _ _ _ => .bl _).g
theorem sb_g {g : Str → Str → Bool} : R2G (fun x y H Q => ∃ i j, x = .str i ∧ y = .str j ∧ Q (.bl (g i j)) H) (sb g) := (s2_p (fun i j H Q h q => ⟨i, j, rfl, rfl, q⟩) fun _ _ _ _ _ => .bl _).g
def oLt : Op2 := opOr (ib fun i j => decide (i < j)) (sb fun i j => decide (i.cps.toList < j.cps.toList))
def oLe : Op2 := opOr (ib fun i j => decide (i ≤ j)) (sb fun i j => !decide (j.cps.toList < i.cps.toList))
def oGt : Op2 := opOr (ib fun i j => decide (j < i)) (sb fun i j => decide (j.cps.toList < i.cps.toList))
def oGe : Op2 := opOr (ib fun i j => decide (j ≤ i)) (sb fun i j => !decide (i.cps.toList < j.cps.toList))
def rCmpX (g : Int → Int → Bool) (g' : Str → Str → Bool) : R2 := fun x y H Q => rI0 (fun i j => .bl (g i j)) x y H Q ∨ ∃ i j, x = .str i ∧ y = .str j ∧ Q (.bl (g' i j)) H
theorem op_ltX : OpR X (compareOp .Lt) (rCmpX (fun i j => decide (i < j)) fun i j => decide (i.cps.toList < j.cps.toList)) := op_lt.or op_lt_str
theorem op_leX : OpR X (compareOp .LtE) (rCmpX (fun i j => decide (i ≤ j)) fun i j => !decide (j.cps.toList < i.cps.toList)) := op_le.or op_le_str
theorem op_gtX : OpR X (compareOp .Gt) (rCmpX (fun i j => decide (j < i)) fun i j => decide (j.cps.toList < i.cps.toList)) := op_gt.or op_gt_str
theorem op_geX : OpR X (compareOp .GtE) (rCmpX (fun i j => decide (j ≤ i)) fun i j => !decide (i.cps.toList < j.cps.toList)) := op_ge.or op_ge_str
theorem lt_g : R2G (rCmpX (fun i j => decide (i < j)) fun i j => decide (i.cps.toList < j.cps.toList)) oLt := ib_g.or sb_g
theorem le_g : R2G (rCmpX (fun i j => decide (i ≤ j)) fun i j => !decide (j.cps.toList < i.cps.toList)) oLe := ib_g.or sb_g
theorem gt_g : R2G (rCmpX (fun i j => decide (j < i)) fun i j => decide (j.cps.toList < i.cps.toList)) oGt := ib_g.or sb_g
theorem ge_g : R2G (rCmpX (fun i j => decide (j ≤ i)) fun i j => !decide (i.cps.toList < j.cps.toList)) oGe := ib_g.or sb_g
/-! ==, != of data -/
def oEq : Op2 := fun a b cs => match dOf a cs, dOf b cs with
  | some d, some e => if decide (d.depth ≤ 64) && decide (e.depth ≤ 64) then some (.fr (.bool (PyData.eqv d e))) else none
  | _, _ => none
def oNe : Op2 := fun a b cs => match dOf a cs, dOf b cs with
  | some d, some e => if decide (d.depth ≤ 64) && decide (e.depth ≤ 64) then some (.fr (.bool (!PyData.eqv d e))) else none
  | _, _ => none
theorem lay_at {B : Base} {F H : Hp} {ps : List Addr} {cs : Cs} {x : V} {v : Val} (k : COk B F ps cs H) (r : VRel F ps x v) {d : PyData} (h : dOf v cs = some d) : d.canLay0 = true := by
  unfold dOf at h
  split at h
  · cases h
    exact Rp.lay r
  · split at h
    · cases h
      rename_i e
      obtain ⟨a, h1, ⟨vs, h2, h3⟩, _⟩ := k.cell _ _ e
      simp only [PyData.canLay0]
      exact h3.lay
    · cases h
  · cases h
theorem eq_g {K : PySem.W.Frag} : R2G (rEqD K) oEq := R2P.g ⟨fun k ra rb e q => by
  unfold oEq at e
  split at e
  · rename_i d e' e1 e2
    split at e
    · rename_i h
      cases e
      rw [Bool.and_eq_true] at h
      exact ⟨d, e', dp_at K k ra e1, dp_at K k rb e2, shaped_of (lay_at k ra e1) (of_decide_eq_true h.1), shaped_of (lay_at k rb e2) (of_decide_eq_true h.2), q _ (.bl _)⟩
    · cases e
  · cases e⟩
theorem ne_g {K : PySem.W.Frag} : R2G (rNeD K) oNe := R2P.g ⟨fun k ra rb e q => by
  unfold oNe at e
  split at e
  · rename_i d e' e1 e2
    split at e
    · rename_i h
      cases e
      rw [Bool.and_eq_true] at h
      exact ⟨d, e', dp_at K k ra e1, dp_at K k rb e2, shaped_of (lay_at k ra e1) (of_decide_eq_true h.1), shaped_of (lay_at k rb e2) (of_decide_eq_true h.2), q _ (.bl _)⟩
    · cases e
  · cases e⟩
theorem hu64 {j : Nat} {A : Around} (hr : Room j A) : A.units + 64 < cLine := hr.units
/-! in -/
def rInX (K : PySem.W.Frag) (neg : Bool) : R2 := fun x y H Q => ∃ d ds, Dp K H x d ∧ (Dp K H y (.list ds) ∨ Dp K H y (.tuple ds)) ∧ d.canLay0 = true ∧ PyData.canLayAll0 ds = true ∧ d.depth ≤ 64 ∧ Q (.bl (if neg then !ds.any fun z => PyData.eqv z d else ds.any fun z => PyData.eqv z d)) H
theorem in_room {A : Around} {d : PyData} {ds : List PyData} (hu : A.units + 65 < cLine) (h : d.depth ≤ 64) : A.units + 1 + min (PyData.depthAll ds) d.depth < cLine := by
  have := Nat.min_le_right (PyData.depthAll ds) d.depth
  omega
theorem op_inX (hu : X.A.units + 65 < cLine) : OpR X (compareOp .In) (rInX X.K false) := by
  intro pins s σ H x y v u Q I rx ry h
  obtain ⟨d, ds, hd, he, c1, c2, c3, q⟩ := h
  obtain ⟨as, r1⟩ := Dp.reads I d x v hd rx
  rcases he with he | he
  · obtain ⟨bs, r2⟩ := Dp.reads I (.list ds) y u he ry
    exact SeqAt.in_list_reads r2 r1 c2 c1 (in_room hu c3) ⟨.bl _, H, I, rfl, q⟩
  · obtain ⟨bs, r2⟩ := Dp.reads I (.tuple ds) y u he ry
    exact SeqAt.in_tuple_reads r2 r1 c2 c1 (in_room hu c3) ⟨.bl _, H, I, rfl, q⟩
theorem op_notInX (hu : X.A.units + 65 < cLine) : OpR X (compareOp .NotIn) (rInX X.K true) := by
  intro pins s σ H x y v u Q I rx ry h
  obtain ⟨d, ds, hd, he, c1, c2, c3, q⟩ := h
  obtain ⟨as, r1⟩ := Dp.reads I d x v hd rx
  rcases he with he | he
  · obtain ⟨bs, r2⟩ := Dp.reads I (.list ds) y u he ry
    exact SeqAt.notIn_list_reads r2 r1 c2 c1 (in_room hu c3) ⟨.bl _, H, I, rfl, q⟩
  · obtain ⟨bs, r2⟩ := Dp.reads I (.tuple ds) y u he ry
    exact SeqAt.notIn_tuple_reads r2 r1 c2 c1 (in_room hu c3) ⟨.bl _, H, I, rfl, q⟩
def oInD (neg : Bool) : Op2 := fun a b cs => match dOf a cs, sqOf b cs with
  | some d, some ds => if d.depth ≤ 64 then some (.fr (.bool (if neg then !ds.any fun z => PyData.eqv z d else ds.any fun z => PyData.eqv z d))) else none
  | _, _ => none
theorem sq_dp (K : PySem.W.Frag) {B : Base} {F H : Hp} {ps : List Addr} {cs : Cs} {x : V} {v : Val} (k : COk B F ps cs H) (r : VRel F ps x v) {ds : List PyData} (h : sqOf v cs = some ds) : (Dp K H x (.list ds) ∨ Dp K H x (.tuple ds)) ∧ PyData.canLayAll0 ds = true := by
  unfold sqOf at h
  split at h
  · rename_i e
    cases h
    obtain ⟨a, vs, h1, h2, h3⟩ := ls_at k r e
    subst h1
    exact ⟨.inl (.lst (SqL.of h2) (h3.dp k.fH)), h3.lay⟩
  · obtain ⟨a, vs, h1, h2, h3⟩ := tu_at k r h
    subst h1
    exact ⟨.inr (.tup (SqT.of h2) (h3.dp k.fH)), h3.lay⟩
theorem inD_p {K : PySem.W.Frag} {neg : Bool} : R2P (rInX K neg) (oInD neg) := ⟨fun k ra rb e q => by
  unfold oInD at e
  split at e
  · rename_i d ds e1 e2
    split at e
    · rename_i h
      cases e
      obtain ⟨h1, h2⟩ := sq_dp K k rb e2
      exact ⟨d, ds, dp_at K k ra e1, h1, lay_at k ra e1, h2, h, q _ (.bl _)⟩
    · cases e
  · cases e⟩
/-- one sign in a text -/
def oInS (neg : Bool) : Op2 := fun a b _ => match stOf a, stOf b with
  | some x, some z => match x.cps.toList with
    | [c] => some (.fr (.bool (if neg then !decide (c ∈ z.cps.toList) else decide (c ∈ z.cps.toList))))
    | _ => none
  | _, _ => none
theorem sign_eq {x : Str} {c : Nat} (h : x.cps.toList = [c]) : x = ⟨#[c]⟩ := by
  apply Str.ext'
  apply Array.toList_inj.mp
  rw [h]
theorem inS_p {r : R2} {neg : Bool} (hr : ∀ (c : Nat) (z : Str) (H : Hp) (Q : VK), Q (.bl (if neg then !decide (c ∈ z.cps.toList) else decide (c ∈ z.cps.toList))) H → r (.str ⟨#[c]⟩) (.str z) H Q) : R2P r (oInS neg) := ⟨fun k ra rb e q => by
  unfold oInS at e
  split at e
  · rename_i x z e1 e2
    split at e
    · rename_i c h
      cases e
      have e1' := st_at ra e1
      rw [sign_eq h] at e1'
      rw [e1', st_at rb e2]
      exact hr c z _ _ (q _ (.bl _))
    · cases e
  · cases e⟩
def oIn : Op2 := opOr (oInD false) (oInS false)
def oNotIn : Op2 := opOr (oInD true) (oInS true)
def rInA (K : PySem.W.Frag) : R2 := fun x y H Q => rInX K false x y H Q ∨ ∃ (c : Nat) (z : Str), x = .str ⟨#[c]⟩ ∧ y = .str z ∧ Q (.bl (decide (c ∈ z.cps.toList))) H
def rNotInA (K : PySem.W.Frag) : R2 := fun x y H Q => rInX K true x y H Q ∨ ∃ (c : Nat) (z : Str), x = .str ⟨#[c]⟩ ∧ y = .str z ∧ Q (.bl (!decide (c ∈ z.cps.toList))) H
theorem op_inA (hu : X.A.units + 65 < cLine) : OpR X (compareOp .In) (rInA X.K) := (op_inX hu).or op_in_sign
theorem op_notInA (hu : X.A.units + 65 < cLine) : OpR X (compareOp .NotIn) (rNotInA X.K) := (op_notInX hu).or op_notIn_sign
theorem in_g {K : PySem.W.Frag} : R2G (rInA K) oIn := inD_p.g.or (inS_p fun c z H Q q => ⟨c, z, rfl, rfl, q⟩).g
theorem notIn_g {K : PySem.W.Frag} : R2G (rNotInA K) oNotIn := inD_p.g.or (inS_p fun c z H Q q => ⟨c, z, rfl, rfl, q⟩).g
/-! is -/
def isN (v : Val) : Option Bool := match v with
  | .fr .none => some true
  | .fr _ => some false
  | .ce _ => some false
  | _ => none
def oIs : Op2 := fun a b _ => match b with
  | .fr .none => match isN a with
    | some k => some (.fr (.bool k))
    | none => none
  | .fr (.bool j) => match blOf a with
    | some i => some (.fr (.bool (i == j)))
    | none => none
  | _ => none
def oIsNot : Op2 := fun a b _ => match b with
  | .fr .none => match isN a with
    | some k => some (.fr (.bool (!k)))
    | none => none
  | .fr (.bool j) => match blOf a with
    | some i => some (.fr (.bool (!(i == j))))
    | none => none
  | _ => none
theorem isN_at {F : Hp} {ps : List Addr} {x : V} {v : Val} {k : Bool} (r : VRel F ps x v) (h : isN v = some k) : decide (x = .non) = k := by
  unfold isN at h
  split at h
  · cases h
    cases r
    rfl
  · rename_i d hd
    cases h
    cases r with
    | non => exact absurd rfl hd
    | bl b => rfl
    | int i => rfl
    | str y _ => rfl
    | lst _ _ => rfl
    | tup _ _ => rfl
  · cases h
    obtain ⟨a, _, rfl⟩ := r
    rfl
  · cases h
def rIsX : R2 := fun x y H Q => (y = .non ∧ Q (.bl (decide (x = .non))) H) ∨ rIsB x y H Q
def rIsNotX : R2 := fun x y H Q => (y = .non ∧ Q (.bl (!decide (x = .non))) H) ∨ rNotB x y H Q
theorem op_isX : OpR X (compareOp .Is) rIsX := op_isN.or op_isBl
theorem op_isNotX : OpR X (compareOp .IsNot) rIsNotX := op_notN.or op_notBl
theorem dec_beq (i j : Bool) : decide (i = j) = (i == j) := by cases i <;> cases j <;> rfl
theorem is_g : R2G rIsX oIs := R2P.g ⟨fun k ra rb e q => by
  unfold oIs at e
  split at e
  · split at e
    · rename_i k' hk
      cases e
      cases rb
      exact .inl ⟨rfl, q _ (by rw [isN_at ra hk]; exact .bl _)⟩
    · cases e
  · split at e
    · rename_i i hk
      cases e
      cases rb
      exact .inr ⟨i, _, bl_at ra hk, rfl, q _ (by rw [dec_beq]; exact .bl _)⟩
    · cases e
  · cases e⟩
theorem isNot_g : R2G rIsNotX oIsNot := R2P.g ⟨fun k ra rb e q => by
  unfold oIsNot at e
  split at e
  · split at e
    · rename_i k' hk
      cases e
      cases rb
      exact .inl ⟨rfl, q _ (by rw [isN_at ra hk]; exact .bl _)⟩
    · cases e
  · split at e
    · rename_i i hk
      cases e
      cases rb
      exact .inr ⟨i, _, bl_at ra hk, rfl, q _ (by rw [dec_beq]; exact .bl _)⟩
    · cases e
  · cases e⟩
/-! each comparison by its name: CmpD op den -/
structure CmpD (X : Cx) (o : CmpOp) (op : Op2) : Prop where
  ex : ∃ r, OpR X (compareOp o) r ∧ R2G r op
theorem c_lt : CmpD X .Lt oLt := ⟨_, op_ltX, lt_g⟩
theorem c_le : CmpD X .LtE oLe := ⟨_, op_leX, le_g⟩
theorem c_gt : CmpD X .Gt oGt := ⟨_, op_gtX, gt_g⟩
theorem c_ge : CmpD X .GtE oGe := ⟨_, op_geX, ge_g⟩
theorem c_eq {j : Nat} (hr : Room j X.A) : CmpD X .Eq oEq := ⟨_, op_eqD hr.units, eq_g⟩
theorem c_ne {j : Nat} (hr : Room j X.A) : CmpD X .NotEq oNe := ⟨_, op_neD hr.units, ne_g⟩
theorem c_is : CmpD X .Is oIs := ⟨_, op_isX, is_g⟩
theorem c_isNot : CmpD X .IsNot oIsNot := ⟨_, op_isNotX, isNot_g⟩
theorem room65 {j : Nat} {A : Around} (hr : Room j A) : A.units + 65 < cLine := by
  have := hr.un
  omega
theorem c_in {j : Nat} (hr : Room j X.A) : CmpD X .In oIn := ⟨_, op_inA (room65 hr), in_g⟩
theorem c_notIn {j : Nat} (hr : Room j X.A) : CmpD X .NotIn oNotIn := ⟨_, op_notInA (room65 hr), notIn_g⟩
theorem px_c {a b : Expr} {pos : Pos} {o : CmpOp} {op : Op2} {f g : EF} (c : CmpD X o op) (ha : PE X a (tD f)) (hb : PE X b (tD g)) (hm : behindInMarks o b = false := by rfl) : PE X (.Compare a [o] [b] pos) (tD (d2 op f g)) := by
  obtain ⟨r, h1, h2⟩ := c.ex
  exact px_cmp h1 h2 ha hb hm
end
end DX
set_option maxHeartbeats 1000000
/-! DX, third part: tests, arguments, displays, calls by name, methods. -/
namespace DX
open PySem L2 PySem.Spec PyProof.Rows

/-! ### tests -/
def bV (f : EF) : BF := fun sl cs => match f sl cs with
  | some (.fr (.bool b), c) => some (b, c)
  | _ => none
def truV (v : Val) (cs : Cs) : Option Bool := match v with
  | .fr .none => some false
  | .fr (.bool b) => some b
  | .fr (.int i) => some (i != 0)
  | .fr (.str x) => if x.length ≤ 16777216 then some ((x.length : Int) != 0) else none
  | .fr (.list ds) => some (!ds.isEmpty)
  | .fr (.tuple ds) => some (!ds.isEmpty)
  | .ce c => match cs[c]? with
    | some (some (.lst ds)) => some (!ds.isEmpty)
    | some (some (.dK kvs)) => some (!kvs.isEmpty)
    | _ => none
  | _ => none
def bTr (f : EF) : BF := fun sl cs => match f sl cs with
  | some (v, c) => match truV v c with
    | some b => some (b, c)
    | none => none
  | none => none
def bAnd (f g : BF) : BF := fun sl cs => match f sl cs with
  | some (true, c) => g sl c
  | r => r
def bOr (f g : BF) : BF := fun sl cs => match f sl cs with
  | some (false, c) => g sl c
  | r => r
def bNot (f : BF) : BF := fun sl cs => match f sl cs with
  | some (b, c) => some (!b, c)
  | none => none
theorem rp_emp {F : Hp} {vs : List V} {ds : List PyData} (h : RpAll F vs ds) : (!vs.isEmpty) = !ds.isEmpty := by cases h <;> rfl
theorem pd_emp {α β : Type} {G : α → β → Prop} {vs : List α} {ds : List β} (h : Paired G vs ds) : (!vs.isEmpty) = !ds.isEmpty := by cases h <;> rfl
theorem tru_at (K : PySem.W.Frag) {B : Base} {F H : Hp} {ps : List Addr} {cs : Cs} {x : V} {v : Val} {b : Bool} (k : COk B F ps cs H) (r : VRel F ps x v) (h : truV v cs = some b) : TruV K x H b := by
  unfold truV at h
  split at h
  · cases h
    cases r
    rfl
  · cases h
    cases r
    rfl
  · cases h
    cases r
    rfl
  · split at h
    · cases h
      rename_i q
      cases r
      exact ⟨by rw [sizeLine_eq]; exact q, rfl⟩
    · cases h
  · cases h
    cases r with
    | lst q t => exact .inl ⟨_, SqL.of (k.fH _ _ q), (rp_emp t).symm⟩
  · cases h
    cases r with
    | tup q t => exact .inr (.inl ⟨_, SqT.of (k.fH _ _ q), (rp_emp t).symm⟩)
  · split at h
    · cases h
      rename_i e
      obtain ⟨a, h1, ⟨vs, h2, h3⟩, _⟩ := k.cell _ _ e
      obtain ⟨b, q, rfl⟩ := r
      rw [q] at h1
      cases h1
      exact .inl ⟨_, SqL.of h2, (rp_emp h3).symm⟩
    · cases h
      rename_i e
      obtain ⟨a, h1, ⟨vs, h2, h3⟩, _⟩ := k.cell _ _ e
      obtain ⟨b, q, rfl⟩ := r
      rw [q] at h1
      cases h1
      exact .inr (.inr ⟨_, h2, (pd_emp h3).symm⟩)
    · cases h
  · cases h
section
variable {X : Cx} {a b c e : Expr} {pos : Pos}
theorem tb_d {t : TE} {f : EF} (w : ∀ σ H Q, tD f σ H Q → t σ H Q) : ∀ σ H Q, tT (bV f) σ H Q → tTest t σ H Q := fun σ H Q ⟨B, F, ps, sl, cs, b, cs', r, hf, k⟩ => by
  unfold bV at hf
  split at hf
  · rename_i b' c' e1
    cases hf
    refine w σ H _ ⟨B, F, ps, sl, cs, _, _, r, e1, fun x F' ps' H' ex ck rx => ?_⟩
    cases rx
    exact ⟨_, rfl, k _ _ _ ex ck⟩
  · cases hf
theorem pt_b {f : EF} (h : PE X e (tD f)) (he : ∀ whole, isTrue e X.env whole = (do let v ← whole; standAt e.pos; holding [v] (truthy v)) := by intro _; rfl) : PT X e (tT (bV f)) := PT.to (pt_val h he) (tb_d fun _ _ _ h => h)
theorem pt_tr {f : EF} (h : PE X e (tD f)) (he : ∀ whole, isTrue e X.env whole = (do let v ← whole; standAt e.pos; holding [v] (truthy v)) := by intro _; rfl) : PT X e (tT (bTr f)) := PT.to (pt_truth h he) fun σ H Q ⟨B, F, ps, sl, cs, b, cs', r, hf, k⟩ => by
  unfold bTr at hf
  split at hf
  · rename_i v c' e1
    split at hf
    · rename_i b' e2
      cases hf
      exact ⟨B, F, ps, sl, cs, _, _, r, e1, fun x F' ps' H' ex ck rx => ⟨_, tru_at X.K ck rx e2, k _ _ _ ex ck⟩⟩
    · cases hf
  · cases hf
theorem pt_c {o : CmpOp} {op : Op2} {f g : EF} (c : CmpD X o op) (ha : PE X a (tD f)) (hb : PE X b (tD g)) (hm : behindInMarks o b = false := by rfl) : PT X (.Compare a [o] [b] pos) (tT (bV (d2 op f g))) := by
  obtain ⟨r, h1, h2⟩ := c.ex
  exact PT.to (pt_cmpR h1 ha hb hm) (tb_d (op_d h2))
theorem pt_n {f : BF} (h : PT X e (tT f)) : PT X (.UnaryOp .Not e pos) (tT (bNot f)) := PT.to (pt_not h) fun σ H Q ⟨B, F, ps, sl, cs, b, cs', r, hf, k⟩ => by
  unfold bNot at hf
  split at hf
  · rename_i b' c' e1
    cases hf
    exact ⟨B, F, ps, sl, cs, _, _, r, e1, fun F' ps' H' ex ck => k _ _ _ ex ck⟩
  · cases hf
theorem PW.to {t u : TT} (h : PW X e t) (w : ∀ σ H Q, u σ H Q → t σ H Q) : PW X e u := ⟨fun wh pins s σ H Q I z => h.run wh pins s σ H Q I (w σ H Q z)⟩
variable {rest : List Expr}
theorem pw_a1 {f : BF} (h : PT X a (tT f)) : PW X (.BoolOp .And [a] pos) (tT f) := pw_and1 h
theorem pw_o1 {f : BF} (h : PT X a (tT f)) : PW X (.BoolOp .Or [a] pos) (tT f) := pw_or1 h
theorem pw_a {f g : BF} (h : PT X a (tT f)) (h2 : PW X (.BoolOp .And (b :: rest) pos) (tT g)) : PW X (.BoolOp .And (a :: b :: rest) pos) (tT (bAnd f g)) := PW.to (pw_and h h2) fun σ H Q ⟨B, F, ps, sl, cs, b, cs', r, hf, k⟩ => by
  unfold bAnd at hf
  split at hf
  · rename_i c' e1
    exact ⟨B, F, ps, sl, cs, _, _, r, e1, fun F' ps' H' ex ck => iteT ⟨B, F', ps', sl, _, _, _, r.go ex ck, hf, fun F2 p2 H2 x2 k2 => k _ _ _ (ex.trans x2) k2⟩⟩
  · rename_i hn
    cases b with
    | true => exact (hn _ hf).elim
    | false => exact ⟨B, F, ps, sl, cs, _, _, r, hf, fun F' ps' H' ex ck => iteF (k _ _ _ ex ck)⟩
theorem pw_o {f g : BF} (h : PT X a (tT f)) (h2 : PW X (.BoolOp .Or (b :: rest) pos) (tT g)) : PW X (.BoolOp .Or (a :: b :: rest) pos) (tT (bOr f g)) := PW.to (pw_or h h2) fun σ H Q ⟨B, F, ps, sl, cs, b, cs', r, hf, k⟩ => by
  unfold bOr at hf
  split at hf
  · rename_i c' e1
    exact ⟨B, F, ps, sl, cs, _, _, r, e1, fun F' ps' H' ex ck => iteF ⟨B, F', ps', sl, _, _, _, r.go ex ck, hf, fun F2 p2 H2 x2 k2 => k _ _ _ (ex.trans x2) k2⟩⟩
  · rename_i hn
    cases b with
    | false => exact (hn _ hf).elim
    | true => exact ⟨B, F, ps, sl, cs, _, _, r, hf, fun F' ps' H' ex ck => iteT (k _ _ _ ex ck)⟩

/-! ### and, or, not, if as values (bools) -/
def dAnd (f g : EF) : EF := fun sl cs => match f sl cs with
  | some (.fr (.bool true), c) => g sl c
  | some (.fr (.bool false), c) => some (.fr (.bool false), c)
  | _ => none
def dOr (f g : EF) : EF := fun sl cs => match f sl cs with
  | some (.fr (.bool false), c) => g sl c
  | some (.fr (.bool true), c) => some (.fr (.bool true), c)
  | _ => none
def dNot (f : EF) : EF := fun sl cs => match f sl cs with
  | some (.fr (.bool b), c) => some (.fr (.bool (!b)), c)
  | _ => none
def dIf (c : BF) (f g : EF) : EF := fun sl cs => match c sl cs with
  | some (true, c1) => f sl c1
  | some (false, c1) => g sl c1
  | none => none
theorem px_one {op : BoolOp} {f : EF} (h : PE X a (tD f)) : PE X (.BoolOp op [a] pos) (tD f) := pe_one h
theorem px_and {f g : EF} (h : PE X a (tD f)) (h2 : PE X (.BoolOp .And (b :: rest) pos) (tD g)) : PE X (.BoolOp .And (a :: b :: rest) pos) (tD (dAnd f g)) := PE.to (pe_and h h2) fun σ H Q ⟨B, F, ps, sl, cs, v, cs', r, hf, k⟩ => by
  unfold dAnd at hf
  split at hf
  · rename_i c' e1
    refine ⟨B, F, ps, sl, cs, _, _, r, e1, fun x F' ps' H' ex ck rx => ?_⟩
    cases rx
    exact ⟨true, rfl, iteT ⟨B, F', ps', sl, _, _, _, r.go ex ck, hf, fun x F2 p2 H2 x2 k2 r2 => k _ _ _ _ (ex.trans x2) k2 r2⟩⟩
  · rename_i c' e1
    cases hf
    refine ⟨B, F, ps, sl, cs, _, _, r, e1, fun x F' ps' H' ex ck rx => ?_⟩
    cases rx
    exact ⟨false, rfl, iteF (k _ _ _ _ ex ck (.bl _))⟩
  · cases hf
theorem px_or {f g : EF} (h : PE X a (tD f)) (h2 : PE X (.BoolOp .Or (b :: rest) pos) (tD g)) : PE X (.BoolOp .Or (a :: b :: rest) pos) (tD (dOr f g)) := PE.to (pe_or h h2) fun σ H Q ⟨B, F, ps, sl, cs, v, cs', r, hf, k⟩ => by
  unfold dOr at hf
  split at hf
  · rename_i c' e1
    refine ⟨B, F, ps, sl, cs, _, _, r, e1, fun x F' ps' H' ex ck rx => ?_⟩
    cases rx
    exact ⟨false, rfl, iteF ⟨B, F', ps', sl, _, _, _, r.go ex ck, hf, fun x F2 p2 H2 x2 k2 r2 => k _ _ _ _ (ex.trans x2) k2 r2⟩⟩
  · rename_i c' e1
    cases hf
    refine ⟨B, F, ps, sl, cs, _, _, r, e1, fun x F' ps' H' ex ck rx => ?_⟩
    cases rx
    exact ⟨true, rfl, iteT (k _ _ _ _ ex ck (.bl _))⟩
  · cases hf
theorem px_not {f : EF} (h : PE X a (tD f)) : PE X (.UnaryOp .Not a pos) (tD (dNot f)) := PE.to (pe_not h) fun σ H Q ⟨B, F, ps, sl, cs, v, cs', r, hf, k⟩ => by
  unfold dNot at hf
  split at hf
  · rename_i b c' e1
    cases hf
    refine ⟨B, F, ps, sl, cs, _, _, r, e1, fun x F' ps' H' ex ck rx => ?_⟩
    cases rx
    exact ⟨b, rfl, k _ _ _ _ ex ck (.bl _)⟩
  · cases hf
theorem px_if {t : BF} {f g : EF} (hc : PT X c (tT t)) (h : PE X a (tD f)) (h2 : PE X b (tD g)) : PE X (.IfExp c a b pos) (tD (dIf t f g)) := PE.to (pe_ifExp hc h h2) fun σ H Q ⟨B, F, ps, sl, cs, v, cs', r, hf, k⟩ => by
  unfold dIf at hf
  split at hf
  · rename_i c' e1
    exact ⟨B, F, ps, sl, cs, _, _, r, e1, fun F' ps' H' ex ck => iteT ⟨B, F', ps', sl, _, _, _, r.go ex ck, hf, fun x F2 p2 H2 x2 k2 r2 => k _ _ _ _ (ex.trans x2) k2 r2⟩⟩
  · rename_i c' e1
    exact ⟨B, F, ps, sl, cs, _, _, r, e1, fun F' ps' H' ex ck => iteF ⟨B, F', ps', sl, _, _, _, r.go ex ck, hf, fun x F2 p2 H2 x2 k2 r2 => k _ _ _ _ (ex.trans x2) k2 r2⟩⟩
  · cases hf
def dNeg (f : EF) : EF := fun sl cs => match f sl cs with
  | some (.fr (.int i), c) => some (.fr (.int (-i)), c)
  | _ => none
theorem px_neg {f : EF} (h : PE X a (tD f)) : PE X (.UnaryOp .USub a pos) (tD (dNeg f)) := PE.to (pe_un un_neg h) fun σ H Q ⟨B, F, ps, sl, cs, v, cs', r, hf, k⟩ => by
  unfold dNeg at hf
  split at hf
  · rename_i b c' e1
    cases hf
    refine ⟨B, F, ps, sl, cs, _, _, r, e1, fun x F' ps' H' ex ck rx => ?_⟩
    cases rx
    exact ⟨b, rfl, k _ _ _ _ ex ck (.int _)⟩
  · cases hf

/-! ### chains -/
def dChain (op op' : Op2) (f g h : EF) : EF := fun sl cs => match f sl cs with
  | some (x, c1) => match g sl c1 with
    | some (y, c2) => match op x y c2 with
      | some (.fr (.bool true)) => match h sl c2 with
        | some (z, c3) => match op' y z c3 with
          | some v => some (v, c3)
          | none => none
        | none => none
      | some (.fr (.bool false)) => some (.fr (.bool false), c2)
      | _ => none
    | none => none
  | none => none
theorem chain_d {r r' : R2} {op op' : Op2} {f g h : EF} (w : R2G r op) (w' : R2G r' op') : ∀ σ H Q, tD (dChain op op' f g h) σ H Q → tChain r r' (tD f) (tD g) (tD h) σ H Q := fun σ H Q ⟨B, F, ps, sl, cs, v, cs', rd, hf, k⟩ => by
  unfold dChain at hf
  split at hf
  · rename_i x c1 e1
    split at hf
    · rename_i y c2 e2
      refine ⟨B, F, ps, sl, cs, x, c1, rd, e1, fun xv F1 p1 H1 x1 k1 r1 => ⟨B, F1, p1, sl, c1, y, c2, rd.go x1 k1, e2, fun yv F2 p2 H2 x2 k2 r2 => ?_⟩⟩
      split at hf
      · rename_i e3
        refine w.go k2 (r1.mono x2) r2 e3 fun z F3 H3 x3 k3 rz => ?_
        cases rz
        refine ⟨true, rfl, iteT ?_⟩
        split at hf
        · rename_i z c3 e4
          split at hf
          · rename_i v' e5
            cases hf
            exact ⟨B, F3, p2, sl, c2, z, _, (rd.go (x1.trans (x2.trans x3)) k3), e4, fun zv F4 p4 H4 x4 k4 r4 => w'.go k4 (r2.mono (x3.trans x4)) r4 e5 fun u F5 H5 x5 k5 ru => k _ _ _ _ ((x1.trans (x2.trans x3)).trans (x4.trans x5)) k5 ru⟩
          · cases hf
        · cases hf
      · rename_i e3
        cases hf
        refine w.go k2 (r1.mono x2) r2 e3 fun z F3 H3 x3 k3 rz => ?_
        cases rz
        exact ⟨false, rfl, iteF (k _ _ _ _ (x1.trans (x2.trans x3)) k3 (.bl _))⟩
      · cases hf
    · cases hf
  · cases hf
theorem px_chain {o o' : CmpOp} {op op' : Op2} {f g h : EF} (w : CmpD X o op) (w' : CmpD X o' op') (ha : PE X a (tD f)) (hb : PE X b (tD g)) (hc : PE X c (tD h)) (hm : lastMarks [o, o'] [b, c] = false := by with_unfolding_all rfl) :
    PE X (.Compare a [o, o'] [b, c] pos) (tD (dChain op op' f g h)) := by
  obtain ⟨r, h1, h2⟩ := w.ex
  obtain ⟨r', g1, g2⟩ := w'.ex
  exact PE.to (pe_chain h1 g1 ha hb hc hm) (chain_d h2 g2)
theorem pt_ch {o o' : CmpOp} {op op' : Op2} {f g h : EF} (w : CmpD X o op) (w' : CmpD X o' op') (ha : PE X a (tD f)) (hb : PE X b (tD g)) (hc : PE X c (tD h)) (hm : lastMarks [o, o'] [b, c] = false := by with_unfolding_all rfl) :
    PT X (.Compare a [o, o'] [b, c] pos) (tT (bV (dChain op op' f g h))) := by
  obtain ⟨r, h1, h2⟩ := w.ex
  obtain ⟨r', g1, g2⟩ := w'.ex
  exact PT.to (pt_chain h1 g1 ha hb hc hm) (tb_d (chain_d h2 g2))
end

/-! ### arguments, displays -/
def aNil : AF := fun _ cs => some ([], cs)
def aCons (f : EF) (g : AF) : AF := fun sl cs => match f sl cs with
  | some (v, c1) => match g sl c1 with
    | some (vs, c2) => some (v :: vs, c2)
    | none => none
  | none => none
def dTup (f : AF) : EF := fun sl cs => match f sl cs with
  | some (vs, c1) => match fzAll vs c1 with
    | some (ds, c2) => if ds.length ≤ 16777216 then some (.fr (.tuple ds), c2) else none
    | none => none
  | none => none
def dLst (f : AF) : LF := fun sl cs => match f sl cs with
  | some (vs, c1) => match fzAll vs c1 with
    | some (ds, c2) => if ds.length ≤ 16777216 then some (ds, c2) else none
    | none => none
  | none => none
section
variable {X : Cx} {e : Expr} {es : List Expr} {pos : Pos}
theorem pxa_nil : PA X [] (tA aNil) := PA.to pa_nil fun σ H Q ⟨B, F, ps, sl, cs, v, cs', r, hf, k⟩ => by
  unfold aNil at hf
  cases hf
  exact k _ _ _ _ Ext.refl r.c .nil
theorem pxa_cons {f : EF} {g : AF} (h : PE X e (tD f)) (h2 : PA X es (tA g)) (hs : starEach (e :: es) X.env = (false, eval e X.env) :: starEach es X.env := by rfl) : PA X (e :: es) (tA (aCons f g)) := PA.to (pa_cons h h2 hs) fun σ H Q ⟨B, F, ps, sl, cs, v, cs', r, hf, k⟩ => by
  unfold aCons at hf
  split at hf
  · rename_i v1 c1 e1
    split at hf
    · rename_i vs c2 e2
      cases hf
      exact ⟨B, F, ps, sl, cs, _, _, r, e1, fun x F1 p1 H1 x1 k1 r1 => ⟨B, F1, p1, sl, _, _, _, r.go x1 k1, e2, fun xs F2 p2 H2 x2 k2 r2 => k _ _ _ _ (x1.trans x2) k2 (.cons (r1.mono x2) r2)⟩⟩
    · cases hf
  · cases hf
theorem px_tup {f : AF} {x1 : Nat} (h : PA X es (tA f)) : PE X (.Tuple es x1 pos) (tD (dTup f)) := PE.to (pe_tup h) fun σ H Q ⟨B, F, ps, sl, cs, v, cs', r, hf, k⟩ => by
  unfold dTup at hf
  split at hf
  · rename_i vs c1 e1
    split at hf
    · rename_i ds c2 e2
      split at hf
      · rename_i hl
        cases hf
        refine ⟨B, F, ps, sl, cs, _, _, r, e1, fun xs F1 p1 H1 x1 k1 r1 => ?_⟩
        obtain ⟨F2, x2, k2, r2⟩ := fzAll_at k1 r1 e2
        refine ⟨by rw [r2.length, sizeLine_eq]; exact hl, fun p hp => k _ _ _ _ ((x1.trans x2).trans (ext_newF k2 hp (.tup xs))) (k2.newF hp (.tup xs)) (.tup upd_same (r2.mono (same_newF k2 hp _)))⟩
      · cases hf
    · cases hf
  · cases hf
theorem pl_lst {f : AF} (h : PA X es (tA f)) : PE X (.List es pos) (tL (dLst f)) := PE.to (pe_lst h) fun σ H Q ⟨B, F, ps, sl, cs, v, cs', r, hf, k⟩ => by
  unfold dLst at hf
  split at hf
  · rename_i vs c1 e1
    split at hf
    · rename_i ds c2 e2
      split at hf
      · rename_i hl
        cases hf
        refine ⟨B, F, ps, sl, cs, _, _, r, e1, fun xs F1 p1 H1 x1 k1 r1 => ?_⟩
        obtain ⟨F2, x2, k2, r2⟩ := fzAll_at k1 r1 e2
        exact ⟨by rw [r2.length, sizeLine_eq]; exact hl, fun p hp => k _ _ _ _ _ (x1.trans x2) k2 hp r2⟩
      · cases hf
    · cases hf
  · cases hf
end

/-! ### calls of built-ins by values -/
abbrev OpA := List Val → Cs → Option Val
abbrev OpAL := List Val → Cs → Option (List PyData)
structure CG (r : List V → Hp → VK → Prop) (op : OpA) : Prop where
  go : ∀ {B : Base} {F H : Hp} {ps : List Addr} {cs : Cs} {xs : List V} {vs : List Val} {v : Val} {Q : VK}, COk B F ps cs H → VRelAll F ps xs vs → op vs cs = some v →
    (∀ z F' H', Ext F F' ps ps → COk B F' ps cs H' → VRel F' ps z v → Q z H') → r xs H Q
structure CL (r : List V → Hp → VK → Prop) (op : OpAL) : Prop where
  go : ∀ {B : Base} {F H : Hp} {ps : List Addr} {cs : Cs} {xs : List V} {vs : List Val} {ds : List PyData} {Q : VK}, COk B F ps cs H → VRelAll F ps xs vs → op vs cs = some ds →
    (∀ p ws, H p = none → RpAll F ws ds → Q (.ref p) (upd H p (.lst ws))) → r xs H Q
def dCall (op : OpA) (f : AF) : EF := fun sl cs => match f sl cs with
  | some (vs, c1) => match op vs c1 with
    | some v => some (v, c1)
    | none => none
  | none => none
def dCallL (op : OpAL) (f : AF) : LF := fun sl cs => match f sl cs with
  | some (vs, c1) => match op vs c1 with
    | some v => some (v, c1)
    | none => none
  | none => none
section
variable {X : Cx} {e : Expr} {es : List Expr} {pos p : Pos} {x : Str} {id T : String}
theorem cb_d {r : List V → Hp → VK → Prop} {op : OpA} {f : AF} (w : CG r op) : ∀ σ H Q, tD (dCall op f) σ H Q → tCB r (tA f) σ H Q := fun σ H Q ⟨B, F, ps, sl, cs, v, cs', rd, hf, k⟩ => by
  unfold dCall at hf
  split at hf
  · rename_i vs c1 e1
    split at hf
    · rename_i v' e2
      cases hf
      exact ⟨B, F, ps, sl, cs, _, _, rd, e1, fun xs F1 p1 H1 x1 k1 r1 => w.go k1 r1 e2 fun z F2 H2 x2 k2 r2 => k _ _ _ _ (x1.trans x2) k2 r2⟩
    · cases hf
  · cases hf
theorem cl_d {r : List V → Hp → VK → Prop} {op : OpAL} {f : AF} (w : CL r op) : ∀ σ H Q, tL (dCallL op f) σ H Q → tCB r (tA f) σ H Q := fun σ H Q ⟨B, F, ps, sl, cs, v, cs', rd, hf, k⟩ => by
  unfold dCallL at hf
  split at hf
  · rename_i vs c1 e1
    split at hf
    · rename_i v' e2
      cases hf
      exact ⟨B, F, ps, sl, cs, _, _, rd, e1, fun xs F1 p1 H1 x1 k1 r1 => w.go k1 r1 e2 fun p ws hp rw' => k _ _ _ _ _ x1 k1 hp rw'⟩
    · cases hf
  · cases hf
theorem px_cb {r : List V → Hp → VK → Prop} {op : OpA} {f : AF} (hc : CallR X (.builtin id) r) (w : CG r op) (hm : X.mg x = none) (hv : bootBuiltins x = some (.builtin id)) (ha : PA X (e :: es) (tA f)) (hg : Gl X x := by rfl) (hn : x ≠ "__name__" := by decide) (hdb : (x == ("__debug__" : Str)) = false := by decide)
    (he : starEach (e :: es) X.env = (false, eval e X.env) :: starEach es X.env := by rfl) (hpl : (backTo pos (starEach es X.env)).any (·.1) = false := by rfl) :
    PE X (.Call (.Name x p) (e :: es) [] pos) (tD (dCall op f)) := PE.to (pe_callB hc hg hm hv ha hn hdb he hpl) (cb_d w)
theorem pl_cb {r : List V → Hp → VK → Prop} {op : OpAL} {f : AF} (hc : CallR X (.builtin id) r) (w : CL r op) (hm : X.mg x = none) (hv : bootBuiltins x = some (.builtin id)) (ha : PA X (e :: es) (tA f)) (hg : Gl X x := by rfl) (hn : x ≠ "__name__" := by decide) (hdb : (x == ("__debug__" : Str)) = false := by decide)
    (he : starEach (e :: es) X.env = (false, eval e X.env) :: starEach es X.env := by rfl) (hpl : (backTo pos (starEach es X.env)).any (·.1) = false := by rfl) :
    PE X (.Call (.Name x p) (e :: es) [] pos) (tL (dCallL op f)) := PE.to (pe_callB hc hg hm hv ha hn hdb he hpl) (cl_d w)
theorem px_ct {r : List V → Hp → VK → Prop} {op : OpA} {f : AF} (hc : CallR X (.type T) r) (w : CG r op) (hm : X.mg x = none) (hv : bootBuiltins x = some (.type T)) (ha : PA X (e :: es) (tA f)) (hg : Gl X x := by rfl) (hn : x ≠ "__name__" := by decide) (hdb : (x == ("__debug__" : Str)) = false := by decide)
    (he : starEach (e :: es) X.env = (false, eval e X.env) :: starEach es X.env := by rfl) (hpl : (backTo pos (starEach es X.env)).any (·.1) = false := by rfl) :
    PE X (.Call (.Name x p) (e :: es) [] pos) (tD (dCall op f)) := PE.to (pe_callTy hc hg hm hv ha hn hdb he hpl) (cb_d w)
theorem pl_ct {r : List V → Hp → VK → Prop} {op : OpAL} {f : AF} (hc : CallR X (.type T) r) (w : CL r op) (hm : X.mg x = none) (hv : bootBuiltins x = some (.type T)) (ha : PA X (e :: es) (tA f)) (hg : Gl X x := by rfl) (hn : x ≠ "__name__" := by decide) (hdb : (x == ("__debug__" : Str)) = false := by decide)
    (he : starEach (e :: es) X.env = (false, eval e X.env) :: starEach es X.env := by rfl) (hpl : (backTo pos (starEach es X.env)).any (·.1) = false := by rfl) :
    PE X (.Call (.Name x p) (e :: es) [] pos) (tL (dCallL op f)) := PE.to (pe_callTy hc hg hm hv ha hn hdb he hpl) (cl_d w)
end
/-! len -/
def lenV (v : Val) (cs : Cs) : Option Nat := match v with
  | .fr (.str x) => if x.length ≤ 16777216 then some x.length else none
  | .fr (.list ds) => some ds.length
  | .fr (.tuple ds) => some ds.length
  | .ce c => match cs[c]? with
    | some (some (.lst ds)) => some ds.length
    | _ => none
  | _ => none
def oLen : OpA := fun vs cs => match vs with
  | [v] => match lenV v cs with
    | some n => some (.fr (.int n))
    | none => none
  | _ => none
theorem len_at (K : PySem.W.Frag) {B : Base} {F H : Hp} {ps : List Addr} {cs : Cs} {x : V} {v : Val} {n : Nat} (k : COk B F ps cs H) (r : VRel F ps x v) (h : lenV v cs = some n) : LenV K x H n := by
  unfold lenV at h
  split at h
  · split at h
    · cases h
      rename_i q
      cases r
      exact ⟨by rw [sizeLine_eq]; exact q, rfl⟩
    · cases h
  · cases h
    cases r with
    | lst q t => exact .inl ⟨_, SqL.of (k.fH _ _ q), t.length.symm⟩
  · cases h
    cases r with
    | tup q t => exact .inr ⟨_, SqT.of (k.fH _ _ q), t.length.symm⟩
  · split at h
    · cases h
      rename_i e
      obtain ⟨a, h1, ⟨vs, h2, h3⟩, _⟩ := k.cell _ _ e
      obtain ⟨b, q, rfl⟩ := r
      rw [q] at h1
      cases h1
      exact .inl ⟨_, SqL.of h2, h3.length.symm⟩
    · cases h
  · cases h
theorem vr1 {F : Hp} {ps : List Addr} {xs : List V} {v : Val} (r : VRelAll F ps xs [v]) : ∃ x, xs = [x] ∧ VRel F ps x v := by
  cases r with
  | cons a b =>
    cases b
    exact ⟨_, rfl, a⟩
theorem vr2 {F : Hp} {ps : List Addr} {xs : List V} {v w : Val} (r : VRelAll F ps xs [v, w]) : ∃ x y, xs = [x, y] ∧ VRel F ps x v ∧ VRel F ps y w := by
  cases r with
  | cons a b =>
    cases b with
    | cons c d =>
      cases d
      exact ⟨_, _, rfl, a, c⟩
theorem len_g {K : PySem.W.Frag} : CG (fun xs H Q => ∃ x n, xs = [x] ∧ LenV K x H n ∧ Q (.int (n : Nat)) H) oLen := ⟨fun k r e q => by
  unfold oLen at e
  split at e
  · split at e
    · rename_i n e1
      cases e
      obtain ⟨x, rfl, rx⟩ := vr1 r
      exact ⟨x, n, rfl, len_at K k rx e1, q _ _ _ Ext.refl k (.int _)⟩
    · cases e
  · cases e⟩
/-! abs, int, max, min of two -/
def a1 (g : Int → PyData) : OpA := fun vs _ => match vs with
  | [v] => match inOf v with
    | some i => some (.fr (g i))
    | none => none
  | _ => none
def a2 (g : Int → Int → PyData) : OpA := fun vs _ => match vs with
  | [v, w] => match inOf v, inOf w with
    | some i, some j => some (.fr (g i j))
    | _, _ => none
  | _ => none
def oAbs : OpA := a1 fun i => .int (if i < 0 then -i else i)
theorem abs_g : CG (fun xs H Q => ∃ i, xs = [.int i] ∧ Q (.int (if i < 0 then -i else i)) H) oAbs := ⟨fun k r e q => by
  unfold oAbs a1 at e
  split at e
  · split at e
    · rename_i i e1
      cases e
      obtain ⟨x, rfl, rx⟩ := vr1 r
      exact ⟨i, by rw [in_at rx e1], q _ _ _ Ext.refl k (.int _)⟩
    · cases e
  · cases e⟩
def oInt : OpA := fun vs _ => match vs with
  | [.fr (.int i)] => some (.fr (.int i))
  | [.fr (.bool b)] => some (.fr (.int (if b then 1 else 0)))
  | _ => none
theorem int_g : CG (fun xs H Q => (∃ i, xs = [.int i] ∧ Q (.int i) H) ∨ ∃ k, xs = [.bl k] ∧ Q (.int (if k then 1 else 0)) H) oInt := ⟨fun k r e q => by
  unfold oInt at e
  split at e
  · cases e
    obtain ⟨x, rfl, rx⟩ := vr1 r
    cases rx
    exact .inl ⟨_, rfl, q _ _ _ Ext.refl k (.int _)⟩
  · cases e
    obtain ⟨x, rfl, rx⟩ := vr1 r
    cases rx
    exact .inr ⟨_, rfl, q _ _ _ Ext.refl k (.int _)⟩
  · cases e⟩
def oMax2 : OpA := a2 fun i j => .int (if j > i then j else i)
def oMin2 : OpA := a2 fun i j => .int (if j < i then j else i)
theorem a2_g {g : Int → Int → V} {g' : Int → Int → PyData} (hg : ∀ F i j, Rp F (g i j) (g' i j)) : CG (fun xs H Q => ∃ i j, xs = [.int i, .int j] ∧ Q (g i j) H) (a2 g') := ⟨fun k r e q => by
  unfold a2 at e
  split at e
  · split at e
    · rename_i i j e1 e2
      cases e
      obtain ⟨x, y, rfl, rx, ry⟩ := vr2 r
      exact ⟨i, j, by rw [in_at rx e1, in_at ry e2], q _ _ _ Ext.refl k (hg _ i j)⟩
    · cases e
  · cases e⟩
/-! list(x), tuple(x) -/
def oList : OpAL := fun vs cs => match vs with
  | [v] => sqOf v cs
  | _ => none
theorem list_l {K : PySem.W.Frag} : CL (fun xs H Q => ∃ p ys, xs = [.ref p] ∧ (SqL K H p ys ∨ SqT K H p ys) ∧ ∀ l, H l = none → Q (.ref l) (upd H l (.lst ys))) oList := ⟨fun k r e q => by
  unfold oList at e
  split at e
  · obtain ⟨x, rfl, rx⟩ := vr1 r
    obtain ⟨a, ws, h1, h2, h3⟩ := sq_at K k rx e
    exact ⟨a, ws, by rw [h1], h2, fun l hl => q l ws hl h3⟩
  · cases e⟩
def oTuple : OpA := fun vs cs => match vs with
  | [v] => match lsOf v cs with
    | some ds => some (.fr (.tuple ds))
    | none => none
  | _ => none
theorem tuple_g {K : PySem.W.Frag} : CG (fun xs H Q => ∃ p ys, xs = [.ref p] ∧ ((SqL K H p ys ∧ ∀ l, H l = none → Q (.ref l) (upd H l (.tup ys))) ∨ (SqT K H p ys ∧ Q (.ref p) H))) oTuple := ⟨fun k r e q => by
  unfold oTuple at e
  split at e
  · split at e
    · rename_i ds e1
      cases e
      obtain ⟨x, rfl, rx⟩ := vr1 r
      obtain ⟨a, ws, h1, h2, h3⟩ := ls_at k rx e1
      exact ⟨a, ws, by rw [h1], .inl ⟨SqL.of h2, fun l hl => q _ _ _ (ext_newF k hl (.tup ws)) (k.newF hl (.tup ws)) (.tup upd_same (h3.mono (same_newF k hl _)))⟩⟩
    · cases e
  · cases e⟩
/-! sum, max, min, any, all of a list -/
def insOf : List PyData → Option (List Int)
  | [] => some []
  | .int i :: ds => match insOf ds with
    | some ns => some (i :: ns)
    | none => none
  | _ :: _ => none
theorem insOf_eq : ∀ {ds : List PyData} {ns : List Int}, insOf ds = some ns → ds = ns.map .int
  | [], ns, h => by
    cases h
    rfl
  | d :: ds, ns, h => by
    cases d with
    | int i =>
      unfold insOf at h
      split at h
      · rename_i ms e
        cases h
        rw [insOf_eq e]
        rfl
      · cases h
    | none => exact (nomatch h)
    | bool b => exact (nomatch h)
    | str b => exact (nomatch h)
    | list b => exact (nomatch h)
    | tuple b => exact (nomatch h)
    | dict b => exact (nomatch h)
theorem insOf_map : ∀ ns : List Int, insOf (ns.map .int) = some ns
  | [] => rfl
  | n :: ns => by
    show insOf (.int n :: ns.map .int) = _
    unfold insOf
    rw [insOf_map ns]
def blsOf : List PyData → Option (List Bool)
  | [] => some []
  | .bool i :: ds => match blsOf ds with
    | some ns => some (i :: ns)
    | none => none
  | _ :: _ => none
theorem blsOf_eq : ∀ {ds : List PyData} {ns : List Bool}, blsOf ds = some ns → ds = ns.map .bool
  | [], ns, h => by
    cases h
    rfl
  | d :: ds, ns, h => by
    cases d with
    | bool i =>
      unfold blsOf at h
      split at h
      · rename_i ms e
        cases h
        rw [blsOf_eq e]
        rfl
      · cases h
    | none => exact (nomatch h)
    | int b => exact (nomatch h)
    | str b => exact (nomatch h)
    | list b => exact (nomatch h)
    | tuple b => exact (nomatch h)
    | dict b => exact (nomatch h)
theorem blsOf_map : ∀ ns : List Bool, blsOf (ns.map .bool) = some ns
  | [] => rfl
  | n :: ns => by
    show blsOf (.bool n :: ns.map .bool) = _
    unfold blsOf
    rw [blsOf_map ns]
def aI (g : List Int → Option PyData) : OpA := fun vs cs => match vs with
  | [v] => match lsOf v cs with
    | some ds => match insOf ds with
      | some ns => match g ns with
        | some d => some (.fr d)
        | none => none
      | none => none
    | none => none
  | _ => none
def aB (g : List Bool → PyData) : OpA := fun vs cs => match vs with
  | [v] => match lsOf v cs with
    | some ds => match blsOf ds with
      | some ns => some (.fr (g ns))
      | none => none
    | none => none
  | _ => none
theorem aI_at (K : PySem.W.Frag) {g : List Int → Option PyData} {B : Base} {F H : Hp} {ps : List Addr} {cs : Cs} {xs : List V} {vs : List Val} {v : Val} (k : COk B F ps cs H) (r : VRelAll F ps xs vs) (e : aI g vs cs = some v) :
    ∃ a ns d, xs = [.ref a] ∧ SqL K H a (ns.map V.int) ∧ g ns = some d ∧ v = .fr d := by
  unfold aI at e
  split at e
  · split at e
    · rename_i ds e1
      split at e
      · rename_i ns e2
        split at e
        · rename_i d e3
          cases e
          obtain ⟨x, rfl, rx⟩ := vr1 r
          obtain ⟨a, ws, h1, h2, h3⟩ := ls_at k rx e1
          rw [insOf_eq e2] at h3
          rw [h3.ints] at h2
          exact ⟨a, ns, d, by rw [h1], SqL.of h2, e3, rfl⟩
        · cases e
      · cases e
    · cases e
  · cases e
theorem aB_at (K : PySem.W.Frag) {g : List Bool → PyData} {B : Base} {F H : Hp} {ps : List Addr} {cs : Cs} {xs : List V} {vs : List Val} {v : Val} (k : COk B F ps cs H) (r : VRelAll F ps xs vs) (e : aB g vs cs = some v) :
    ∃ a ns, xs = [.ref a] ∧ SqL K H a (ns.map V.bl) ∧ v = .fr (g ns) := by
  unfold aB at e
  split at e
  · split at e
    · rename_i ds e1
      split at e
      · rename_i ns e2
        cases e
        obtain ⟨x, rfl, rx⟩ := vr1 r
        obtain ⟨a, ws, h1, h2, h3⟩ := ls_at k rx e1
        rw [blsOf_eq e2] at h3
        rw [h3.bls] at h2
        exact ⟨a, ns, by rw [h1], SqL.of h2, rfl⟩
      · cases e
    · cases e
  · cases e
def oSum : OpA := aI fun ns => some (.int ns.sum)
theorem sum_g {K : PySem.W.Frag} : CG (rSum K) oSum := ⟨fun k r e q => by
  obtain ⟨a, ns, d, h1, h2, h3, h4⟩ := aI_at K k r e
  cases h3
  subst h4
  exact ⟨a, ns, h1, h2, q _ _ _ Ext.refl k (.int _)⟩⟩
def maxI : List Int → Option Int
  | [] => none
  | n :: ns => some (ns.foldl (fun a b => if a < b then b else a) n)
def minI : List Int → Option Int
  | [] => none
  | n :: ns => some (ns.foldl (fun a b => if b < a then b else a) n)
theorem maxI_fold : ∀ (ns : List Int) (n : Int), (ns.foldl (fun a b => if a < b then b else a) n = n ∨ ns.foldl (fun a b => if a < b then b else a) n ∈ ns) ∧ n ≤ ns.foldl (fun a b => if a < b then b else a) n ∧ ∀ y ∈ ns, y ≤ ns.foldl (fun a b => if a < b then b else a) n
  | [], n => ⟨.inl rfl, Int.le_refl _, fun y h => nomatch h⟩
  | m :: ns, n => by
    obtain ⟨h1, h2, h3⟩ := maxI_fold ns (if n < m then m else n)
    show (ns.foldl _ (if n < m then m else n) = n ∨ ns.foldl _ (if n < m then m else n) ∈ m :: ns) ∧ n ≤ ns.foldl _ (if n < m then m else n) ∧ ∀ y ∈ m :: ns, y ≤ ns.foldl _ (if n < m then m else n)
    generalize ns.foldl (fun a b => if a < b then b else a) (if n < m then m else n) = t at *
    split at h1 <;> split at h2
    · refine ⟨.inr ?_, by omega, fun y hy => ?_⟩
      · rcases h1 with h1 | h1
        · rw [h1]; exact List.mem_cons_self ..
        · exact List.mem_cons_of_mem _ h1
      · rcases List.mem_cons.mp hy with rfl | hy
        · omega
        · exact h3 y hy
    · omega
    · omega
    · refine ⟨?_, h2, fun y hy => ?_⟩
      · rcases h1 with h1 | h1
        · exact .inl h1
        · exact .inr (List.mem_cons_of_mem _ h1)
      · rcases List.mem_cons.mp hy with rfl | hy
        · omega
        · exact h3 y hy
theorem minI_fold : ∀ (ns : List Int) (n : Int), (ns.foldl (fun a b => if b < a then b else a) n = n ∨ ns.foldl (fun a b => if b < a then b else a) n ∈ ns) ∧ ns.foldl (fun a b => if b < a then b else a) n ≤ n ∧ ∀ y ∈ ns, ns.foldl (fun a b => if b < a then b else a) n ≤ y
  | [], n => ⟨.inl rfl, Int.le_refl _, fun y h => nomatch h⟩
  | m :: ns, n => by
    obtain ⟨h1, h2, h3⟩ := minI_fold ns (if m < n then m else n)
    show (ns.foldl _ (if m < n then m else n) = n ∨ ns.foldl _ (if m < n then m else n) ∈ m :: ns) ∧ ns.foldl _ (if m < n then m else n) ≤ n ∧ ∀ y ∈ m :: ns, ns.foldl _ (if m < n then m else n) ≤ y
    generalize ns.foldl (fun a b => if b < a then b else a) (if m < n then m else n) = t at *
    split at h1 <;> split at h2
    · refine ⟨.inr ?_, by omega, fun y hy => ?_⟩
      · rcases h1 with h1 | h1
        · rw [h1]; exact List.mem_cons_self ..
        · exact List.mem_cons_of_mem _ h1
      · rcases List.mem_cons.mp hy with rfl | hy
        · omega
        · exact h3 y hy
    · omega
    · omega
    · refine ⟨?_, h2, fun y hy => ?_⟩
      · rcases h1 with h1 | h1
        · exact .inl h1
        · exact .inr (List.mem_cons_of_mem _ h1)
      · rcases List.mem_cons.mp hy with rfl | hy
        · omega
        · exact h3 y hy
theorem maxI_is {ns : List Int} {m : Int} (h : maxI ns = some m) : m ∈ ns ∧ ∀ y ∈ ns, y ≤ m := by
  cases ns with
  | nil => cases h
  | cons n ns =>
    cases h
    obtain ⟨h1, h2, h3⟩ := maxI_fold ns n
    refine ⟨?_, fun y hy => ?_⟩
    · rcases h1 with h1 | h1
      · rw [h1]; exact List.mem_cons_self ..
      · exact List.mem_cons_of_mem _ h1
    · rcases List.mem_cons.mp hy with rfl | hy
      · exact h2
      · exact h3 y hy
theorem minI_is {ns : List Int} {m : Int} (h : minI ns = some m) : m ∈ ns ∧ ∀ y ∈ ns, m ≤ y := by
  cases ns with
  | nil => cases h
  | cons n ns =>
    cases h
    obtain ⟨h1, h2, h3⟩ := minI_fold ns n
    refine ⟨?_, fun y hy => ?_⟩
    · rcases h1 with h1 | h1
      · rw [h1]; exact List.mem_cons_self ..
      · exact List.mem_cons_of_mem _ h1
    · rcases List.mem_cons.mp hy with rfl | hy
      · exact h2
      · exact h3 y hy
def oMax : OpA := aI fun ns => match maxI ns with
  | some m => some (.int m)
  | none => none
def oMin : OpA := aI fun ns => match minI ns with
  | some m => some (.int m)
  | none => none
theorem max_g {K : PySem.W.Frag} : CG (rMax K) oMax := ⟨fun k r e q => by
  obtain ⟨a, ns, d, h1, h2, h3, h4⟩ := aI_at K k r e
  split at h3
  · rename_i m hm
    cases h3
    subst h4
    obtain ⟨g1, g2⟩ := maxI_is hm
    refine ⟨a, ns, h1, h2, List.length_pos_of_mem g1, fun m' m1 m2 => ?_⟩
    have : m' = m := Int.le_antisymm (g2 m' m1) (m2 m g1)
    subst this
    exact q _ _ _ Ext.refl k (.int _)
  · cases h3⟩
theorem min_g {K : PySem.W.Frag} : CG (rMin K) oMin := ⟨fun k r e q => by
  obtain ⟨a, ns, d, h1, h2, h3, h4⟩ := aI_at K k r e
  split at h3
  · rename_i m hm
    cases h3
    subst h4
    obtain ⟨g1, g2⟩ := minI_is hm
    refine ⟨a, ns, h1, h2, List.length_pos_of_mem g1, fun m' m1 m2 => ?_⟩
    have : m' = m := Int.le_antisymm (m2 m g1) (g2 m' m1)
    subst this
    exact q _ _ _ Ext.refl k (.int _)
  · cases h3⟩
def oAny : OpA := aB fun bs => .bool (bs.any id)
def oAll : OpA := aB fun bs => .bool (bs.all id)
theorem any_g {K : PySem.W.Frag} : CG (rAny K) oAny := ⟨fun k r e q => by
  obtain ⟨a, ns, h1, h2, h4⟩ := aB_at K k r e
  subst h4
  exact ⟨a, ns, h1, h2, q _ _ _ Ext.refl k (.bl _)⟩⟩
theorem all_g {K : PySem.W.Frag} : CG (rAll K) oAll := ⟨fun k r e q => by
  obtain ⟨a, ns, h1, h2, h4⟩ := aB_at K k r e
  subst h4
  exact ⟨a, ns, h1, h2, q _ _ _ Ext.refl k (.bl _)⟩⟩
/-! isinstance(x, T), T a built-in class -/
def tyD (v : Val) : Option String := match v with
  | .fr .none => some "NoneType"
  | .fr (.bool _) => some "bool"
  | .fr (.int _) => some "int"
  | .fr (.str _) => some "str"
  | .fr (.list _) => some "list"
  | .fr (.tuple _) => some "tuple"
  | _ => none
def tyC (v : Val) (cs : Cs) : Option String := match v with
  | .ce c => match cs[c]? with
    | some (some (.lst _)) => some "list"
    | _ => none
  | v => tyD v
end DX
set_option maxHeartbeats 1000000
/-! DX, fourth part: isinstance, sorted, subscripts, slices, methods. -/
namespace DX
open PySem L2 PySem.Spec PyProof.Rows

/-! ### isinstance(x, T) -/
def isiD (T : String) (f : EF) : EF := fun sl cs => match f sl cs with
  | some (v, c) => match tyC v c with
    | some t => match kitB t T with
      | some b => some (.fr (.bool b), c)
      | none => none
    | none => none
  | none => none
theorem ty_at (K : PySem.W.Frag) {B : Base} {F H : Hp} {ps : List Addr} {cs : Cs} {x : V} {v : Val} {t : String} (k : COk B F ps cs H) (r : VRel F ps x v) (h : tyC v cs = some t) : TyOf K H x (.type t) := by
  unfold tyC at h
  split at h
  · split at h
    · cases h
      rename_i e
      obtain ⟨a, h1, ⟨vs, h2, h3⟩, _⟩ := k.cell _ _ e
      obtain ⟨b, q, rfl⟩ := r
      rw [q] at h1
      cases h1
      exact .lst h2
    · cases h
  · unfold tyD at h
    split at h
    · cases h; cases r; exact .non
    · cases h; cases r; exact .bl _
    · cases h; cases r; exact .int _
    · cases h; cases r; exact .str _
    · cases h
      cases r with
      | lst q t => exact .lst (k.fH _ _ q)
    · cases h
      cases r with
      | tup q t => exact .tup (k.fH _ _ q)
    · cases h
section
variable {X : Cx} {e a b : Expr} {pos p p2 : Pos}
theorem px_isi {T : String} {x : Str} {f : EF} (hm : X.mg "isinstance" = none) (hmT : X.mg x = none) (hvT : bootBuiltins x = some (.type T)) (ha : PE X a (tD f)) (hg : Gl X "isinstance" := by rfl) (hgT : Gl X x := by rfl) (hn : x ≠ "__name__" := by decide) (hdb : (x == ("__debug__" : Str)) = false := by decide)
    (hs : starEach [a, .Name x p2] X.env = (false, eval a X.env) :: starEach [.Name x p2] X.env := by rfl) (hs2 : starEach [.Name x p2] X.env = (false, eval (.Name x p2) X.env) :: starEach [] X.env := by rfl) (hpl : (backTo pos (starEach [.Name x p2] X.env)).any (·.1) = false := by rfl) :
    PE X (.Call (.Name "isinstance" p) [a, .Name x p2] [] pos) (tD (isiD T f)) :=
  PE.to (pe_callB call_isi hg hm boot_isinstance (pa_cons ha (pa_cons (pe_bltn (v := .ty T) hgT hmT hvT rfl hn hdb) pa_nil hs2) hs) (by decide) (by decide) hs hpl) fun σ H Q ⟨B, F, ps, sl, cs, v, cs', r, hf, k⟩ => by
    unfold isiD at hf
    split at hf
    · rename_i v1 c1 e1
      split at hf
      · rename_i t e2
        split at hf
        · rename_i b e3
          cases hf
          exact ⟨B, F, ps, sl, cs, _, _, r, e1, fun x F' ps' H' ex ck rx => ⟨x, .ty T, .type t, .type T, b, rfl, .ty T, .base (ty_at X.K ck rx e2), kit_ty e3, k _ _ _ _ ex ck (.bl _)⟩⟩
        · cases hf
      · cases hf
    · cases hf

/-! ### sorted(xs) -/
def canSort (ds : List PyData) : Bool := (ds.all fun d => ds.all fun d' => PySem.W.alike d d') && (ds.all fun d => decide (d.depth ≤ 60)) && decide (ds.length ≤ 16777216) &&
  ((ds.all fun d => match d with | .tuple (_ :: _) => true | _ => false) || (ds.all fun d => match d with | .none => false | .tuple _ => false | _ => true))
def sortD (ds : List PyData) : List PyData := ds.mergeSort (PySem.W.dataLe false fun d => d)
def oSorted : OpAL := fun vs cs => match vs with
  | [v] => match lsOf v cs with
    | some ds => if canSort ds = true then some (sortD ds) else none
    | none => none
  | _ => none
theorem rp_zip {F : Hp} : ∀ {vs : List V} {ds : List PyData}, RpAll F vs ds → (vs.zip ds).map (·.2) = ds ∧ (vs.zip ds).map (·.1) = vs ∧ ∀ p ∈ vs.zip ds, Rp F p.1 p.2
  | _, _, .nil => ⟨rfl, rfl, fun p h => nomatch h⟩
  | _, _, .cons h t => by
    obtain ⟨h1, h2, h3⟩ := rp_zip t
    refine ⟨?_, ?_, fun p hp => ?_⟩
    · rw [List.zip_cons_cons, List.map_cons, h1]
    · rw [List.zip_cons_cons, List.map_cons, h2]
    · rw [List.zip_cons_cons] at hp
      rcases List.mem_cons.mp hp with rfl | hp
      · exact h
      · exact h3 p hp
theorem rp_of {F : Hp} : ∀ {zs : List (V × PyData)}, (∀ p ∈ zs, Rp F p.1 p.2) → RpAll F (zs.map (·.1)) (zs.map (·.2))
  | [], _ => .nil
  | z :: zs, h => .cons (h z (List.mem_cons_self ..)) (rp_of fun p hp => h p (List.mem_cons_of_mem _ hp))
theorem each_vals {α : Type} {g : α → V} : ∀ {us : List Value} {bs : List α}, Vals (bs.map g) us → PySem.W.EachIs (fun u b => RelV (g b) u) us bs
  | _, [], h => by
    have h' : Vals [] _ := h
    cases h'
    exact .nil
  | _, b :: bs, h => by
    have h' : Vals (g b :: bs.map g) _ := h
    cases h' with
    | cons r t => exact .cons r (each_vals t)
theorem vals_each {α : Type} {g : α → V} : ∀ {us : List Value} {bs : List α}, PySem.W.EachIs (fun u b => RelV (g b) u) us bs → Vals (bs.map g) us
  | _, _, .nil => .nil
  | _, _, .cons r t => .cons r (vals_each t)
def rSortD (K : PySem.W.Frag) : List V → Hp → VK → Prop := fun xs H Q => ∃ (a : Addr) (F : Hp) (ws : List V) (ds : List PyData), xs = [.ref a] ∧ SqL K H a ws ∧ Same F H ∧ RpAll F ws ds ∧ canSort ds = true ∧
  ∀ p us, H p = none → RpAll F us (sortD ds) → Q (.ref p) (upd H p (.lst us))
theorem call_sortD {j : Nat} (hr : Room j X.A) : CallR X (.builtin "sorted") (rSortD X.K) := by
  intro pins s σ H xs us Q I r h
  obtain ⟨a, F, ws, ds, rfl, hs, sF, hrp, hcan, q⟩ := h
  rw [Vals.ref1 r]
  obtain ⟨its, rv, pl, hz⟩ := I.list hs
  obtain ⟨z1, z2, z3⟩ := rp_zip hrp
  unfold canSort at hcan
  rw [Bool.and_eq_true, Bool.and_eq_true, Bool.and_eq_true, Bool.or_eq_true, List.all_eq_true, List.all_eq_true, List.all_eq_true, List.all_eq_true, decide_eq_true_eq] at hcan
  obtain ⟨⟨⟨hal, hdp⟩, hln⟩, hk⟩ := hcan
  have hl : (ws.zip ds).length = ds.length := by
    rw [← List.length_map (f := (·.2)), z1]
  have e0 : PySem.W.EachIs (fun u (b : V × PyData) => RelV b.1 u) its (ws.zip ds) := each_vals (g := fun b : V × PyData => b.1) (by rw [z2]; exact rv)
  have er : PySem.W.EachIs (fun u (b : V × PyData) => ∃ as, Reads s.heap u b.2 as) its (ws.zip ds) := by
    refine PySem.W.EachIs.of_zip e0.length fun (p : Value × V × PyData) hp => ?_
    have h1 := e0.zip p hp
    have h2 : p.2 ∈ ws.zip ds := (List.of_mem_zip hp).2
    exact Dp.reads I p.2.2 p.2.1 p.1 ((z3 _ h2).dp sF) h1
  refine PySem.W.sorted_data (β := V × PyData) (enc := fun b => b.2) (R := fun u b => RelV b.1 u) pl.isList e0 er ?_ ?_ (by rw [hl, sizeLine_eq]; exact hln) (fun b hb => ?_) fun out hlen eo => ?_
  · rw [z1]
    intro d hd d' hd'
    have := hal d hd
    rw [List.all_eq_true] at this
    exact this d' hd'
  · rw [z1]
    rcases hk with hk | hk
    · refine .inl fun d hd => ?_
      have q := hk d hd
      split at q
      · exact ⟨_, _, rfl⟩
      · cases q
    · refine .inr fun d hd => ?_
      have q := hk d hd
      refine ⟨fun e => ?_, fun xs e => ?_⟩ <;> · subst e; cases q
  · have q : b.2.depth ≤ 60 := by
      have m : b.2 ∈ ds := by
        rw [← z1]
        exact List.mem_map.mpr ⟨b, hb, rfl⟩
      exact of_decide_eq_true (hdp _ m)
    have := hr.un
    show X.A.units + 2 + b.2.depth < cLine
    omega
  · have rvo := vals_each (g := fun b : V × PyData => b.1) eo
    obtain ⟨c, hc⟩ := sortedAll_at s.heap its (List.toArray out)
    have hsz : H (s.heap.objs.size + 1) = none := I.hok.fresh (Nat.le_succ _)
    have es : ((ws.zip ds).mergeSort (PySem.W.dataLe false fun b => b.2)).map (·.2) = sortD ds := by
      unfold sortD
      have := PySem.W.sort_maps (r := PySem.W.dataLe false fun b : V × PyData => b.2) (s := PySem.W.dataLe false fun d : PyData => d) (fun b : V × PyData => b.2) (l := ws.zip ds) (fun a _ b _ => rfl)
      rw [z1] at this
      exact this
    refine ⟨.ref (s.heap.objs.size + 1), _, I.laid (t' := s.toks) (o := .lst (((ws.zip ds).mergeSort (PySem.W.dataLe false fun b => b.2)).map (·.1))) (fun b o eo => sortedAll_old eo) (Nat.le_succ _) ?_, rfl, q _ _ hsz ?_⟩
    · exact ⟨by rw [List.length_map, List.length_mergeSort, hl, sizeLine_eq]; exact hln, out, c, rvo, hc⟩
    · rw [← es]
      exact rp_of fun p hp => z3 p ((List.mergeSort_perm _ _).mem_iff.mp hp)
theorem sorted_l {K : PySem.W.Frag} : CL (rSortD K) oSorted := ⟨fun k r e q => by
  unfold oSorted at e
  split at e
  · split at e
    · rename_i ds e1
      split at e
      · rename_i hc
        cases e
        obtain ⟨x, rfl, rx⟩ := vr1 r
        obtain ⟨a, ws, h1, h2, h3⟩ := ls_at k rx e1
        exact ⟨a, _, ws, ds, by rw [h1], SqL.of h2, k.fH, h3, hc, fun p us hp ru => q p us hp ru⟩
      · cases e
    · cases e
  · cases e⟩
end
end DX
set_option maxHeartbeats 1000000
/-! DX, fifth part: subscripts, slices, methods, stores into lists. -/
namespace DX
open PySem L2 PySem.Spec PyProof.Rows

/-! ### a[i] -/
def oIx : Op2 := fun a b cs => match inOf b with
  | some i => match sqOf a cs with
    | some ds => match atI ds i with
      | some d => some (.fr d)
      | none => none
    | none => match stOf a with
      | some z => if z.length ≤ 16777216 then match atI z.cps.toList i with
        | some c => some (.fr (.str ⟨#[c]⟩))
        | none => none
        else none
      | none => none
  | none => none
theorem atI_rp {F : Hp} {vs : List V} {ds : List PyData} {i : Int} {d : PyData} (r : RpAll F vs ds) (h : atI ds i = some d) : ∃ v, atI vs i = some v ∧ Rp F v d := by
  unfold atI at *
  rw [r.length]
  cases e : ixN ds.length i with
  | none =>
    rw [e] at h
    cases h
  | some j =>
    rw [e] at h
    exact r.get h
theorem ok_sign {z : Str} {c : Nat} (h : PyData.strOk z = true) (hc : c ∈ z.cps.toList) : PyData.strOk ⟨#[c]⟩ = true := by
  unfold PyData.strOk at *
  rw [← Array.all_toList, List.all_eq_true] at h
  have := h c hc
  simpa using this
theorem atI_mem {α : Type} {xs : List α} {i : Int} {v : α} (h : atI xs i = some v) : v ∈ xs := by
  obtain ⟨j, _, h2, _⟩ := atI_get h
  exact List.mem_of_getElem? h2
theorem ix_g {K : PySem.W.Frag} : R2G (rIx K) oIx := R2P.g ⟨fun k ra rb e q => by
  unfold oIx at e
  split at e
  · rename_i i ei
    split at e
    · rename_i ds e1
      split at e
      · rename_i d e2
        cases e
        unfold sqOf at e1
        split at e1
        · rename_i e3
          cases e1
          obtain ⟨a, vs, h1, h2, h3⟩ := ls_at k ra e3
          obtain ⟨v, h4, h5⟩ := atI_rp h3 e2
          exact .inl ⟨a, vs, i, v, h1, in_at rb ei, SqL.of h2, h4, q _ h5⟩
        · obtain ⟨a, vs, h1, h2, h3⟩ := tu_at k ra e1
          obtain ⟨v, h4, h5⟩ := atI_rp h3 e2
          exact .inr (.inl ⟨a, vs, i, v, h1, in_at rb ei, SqT.of h2, h4, q _ h5⟩)
      · cases e
    · split at e
      · rename_i z e1
        split at e
        · rename_i hz
          split at e
          · rename_i c e2
            cases e
            exact .inr (.inr ⟨z, i, c, st_at ra e1, in_at rb ei, by rw [sizeLine_eq]; exact hz, e2, q _ (.str _ (ok_sign (ok_at ra e1) (atI_mem e2)))⟩)
          · cases e
        · cases e
      · cases e
  · cases e⟩
section
variable {X : Cx} {a b e : Expr} {pos p2 : Pos}
theorem px_i {f g : EF} (ha : PE X a (tD f)) (hb : PE X b (tD g)) (hs : PlainIx b := by exact fun _ _ => rfl) : PE X (.Subscript a b pos) (tD (d2 oIx f g)) := px_ix ix_seq ix_g ha hb hs
end

/-! ### slices -/
abbrev OF := Sl → Cs → Option (Option Int × Cs)
def tO (f : OF) : TO := fun σ H Q => ∃ B F ps sl cs o cs', Rdy B F ps sl cs σ H ∧ f sl cs = some (o, cs') ∧ ∀ F' ps' H', Ext F F' ps ps' → COk B F' ps' cs' H' → Q o H'
def pNo : OF := fun _ cs => some (none, cs)
def pYes (f : EF) : OF := fun sl cs => match f sl cs with
  | some (.fr (.int i), c) => some (some i, c)
  | _ => none
def cutD (xs : List PyData) (lo hi : Option Int) : List PyData := (xs.drop (HT.sIx xs.length 0 lo)).take (HT.sIx xs.length xs.length hi - HT.sIx xs.length 0 lo)
theorem rp_cut {F : Hp} {vs : List V} {ds : List PyData} (r : RpAll F vs ds) (lo hi : Option Int) : RpAll F (cutV vs lo hi) (cutD ds lo hi) := by
  unfold cutV cutD
  rw [r.length]
  exact (r.drop _).take _
theorem ok_cut {z : Str} (h : PyData.strOk z = true) (lo hi : Option Int) : PyData.strOk (cutS z lo hi) = true := by
  unfold PyData.strOk at *
  rw [← Array.all_toList, List.all_eq_true] at *
  intro x hx
  refine h x ?_
  have hx' : x ∈ ((z.cps.toList.drop (HT.sIx z.length 0 lo)).take (HT.sIx z.length z.length hi - HT.sIx z.length 0 lo)) := by simpa [cutS] using hx
  exact List.mem_of_mem_drop (List.mem_of_mem_take hx')
def oSl (v : Val) (lo hi : Option Int) (cs : Cs) : Option Val := match lsOf v cs with
  | some ds => some (.fr (.list (cutD ds lo hi)))
  | none => match tuOf v with
    | some ds => some (.fr (.tuple (cutD ds lo hi)))
    | none => match stOf v with
      | some z => if z.length ≤ 16777216 then some (.fr (.str (cutS z lo hi))) else none
      | none => none
def dSl (f : EF) (l h : OF) : EF := fun sl cs => match f sl cs with
  | some (v, c1) => match l sl c1 with
    | some (lo, c2) => match h sl c2 with
      | some (hi, c3) => match oSl v lo hi c3 with
        | some w => some (w, c3)
        | none => none
      | none => none
    | none => none
  | none => none
def dSlL (f : EF) (l h : OF) : LF := fun sl cs => match f sl cs with
  | some (v, c1) => match l sl c1 with
    | some (lo, c2) => match h sl c2 with
      | some (hi, c3) => match lsOf v c3 with
        | some ds => some (cutD ds lo hi, c3)
        | none => none
      | none => none
    | none => none
  | none => none
def rSlX (K : PySem.W.Frag) : V → Option Int → Option Int → Hp → VK → Prop := fun x lo hi H Q => rSlL K x lo hi H Q ∨ rSlA K x lo hi H Q ∨ rSlS x lo hi H Q
section
variable {X : Cx} {a b e : Expr} {lo hi : Option Expr} {pos p1 p2 p3 : Pos}
theorem po_no : PO X none (tO pNo) := by
  refine ⟨fun pins s σ H Q I ⟨B, F, ps, sl, cs, o, cs', r, hf, k⟩ => ?_⟩
  cases hf
  exact po_none.run pins s σ H Q I (k _ _ _ Ext.refl r.c)
theorem po_yes {f : EF} (h : PE X e (tD f)) : PO X (some e) (tO (pYes f)) := by
  refine ⟨fun pins s σ H Q I ⟨B, F, ps, sl, cs, o, cs', r, hf, k⟩ => (po_some h).run pins s σ H Q I ?_⟩
  unfold pYes at hf
  split at hf
  · rename_i i c e1
    cases hf
    refine ⟨B, F, ps, sl, cs, _, _, r, e1, fun x F' ps' H' ex ck rx => ?_⟩
    cases rx
    exact ⟨i, rfl, k _ _ _ ex ck⟩
  · cases hf
theorem slX : SlR X (rSlX X.K) := sl_list.or (sl_tupA.or sl_str)
theorem cut_whole {ds : List PyData} {lo hi : Option Int} (h : HT.sIx ds.length 0 lo = 0 ∧ HT.sIx ds.length ds.length hi = ds.length) : cutD ds lo hi = ds := by
  unfold cutD
  rw [h.1, h.2]
  simp
theorem px_sl {f : EF} {l h : OF} (he : PE X e (tD f)) (hl : PO X lo (tO l)) (hh : PO X hi (tO h)) : PE X (.Subscript e (.Slice lo hi none p2) pos) (tD (dSl f l h)) := PE.to (pe_slice slX he hl hh) fun σ H Q ⟨B, F, ps, sl, cs, v, cs', r, hf, k⟩ => by
  unfold dSl at hf
  split at hf
  · rename_i v1 c1 e1
    split at hf
    · rename_i lo' c2 e2
      split at hf
      · rename_i hi' c3 e3
        split at hf
        · rename_i w e4
          cases hf
          refine ⟨B, F, ps, sl, cs, _, _, r, e1, fun x F1 s1 H1 x1 k1 r1 => ⟨B, F1, s1, sl, _, _, _, r.go x1 k1, e2, fun F2 s2 H2 x2 k2 => ⟨B, F2, s2, sl, _, _, _, r.go (x1.trans x2) k2, e3, fun F3 s3 H3 x3 k3 => ?_⟩⟩⟩
          have r3 := r1.mono (x2.trans x3)
          have xx := (x1.trans x2).trans x3
          unfold oSl at e4
          split at e4
          · rename_i ds e5
            cases e4
            obtain ⟨a, vs, h1, h2, h3⟩ := ls_at k3 r3 e5
            refine .inl ⟨a, vs, h1, SqL.of h2, fun p hp => k _ _ _ _ (xx.trans (ext_newF k3 hp (.lst _))) (k3.newF hp (.lst _)) (.lst upd_same ((rp_cut h3 _ _).mono (same_newF k3 hp _)))⟩
          · split at e4
            · rename_i ds e5
              cases e4
              have tt := r3
              obtain ⟨a, vs, h1, h2, h3⟩ := tu_at k3 r3 e5
              refine .inr (.inl ⟨a, vs, h1, SqT.of h2, fun hw => ?_, fun hw p hp => k _ _ _ _ (xx.trans (ext_newF k3 hp (.tup _))) (k3.newF hp (.tup _)) (.tup upd_same ((rp_cut h3 _ _).mono (same_newF k3 hp _)))⟩)
              rw [h3.length] at hw
              rw [cut_whole hw] at k
              refine k _ _ _ _ xx k3 ?_
              unfold tuOf at e5
              split at e5
              · cases e5
                subst h1
                exact tt
              · cases e5
            · split at e4
              · rename_i z e5
                split at e4
                · rename_i hz
                  cases e4
                  exact .inr (.inr ⟨z, st_at r3 e5, by rw [sizeLine_eq]; exact hz, k _ _ _ _ xx k3 (.str _ (ok_cut (ok_at r3 e5) _ _))⟩)
                · cases e4
              · cases e4
        · cases hf
      · cases hf
    · cases hf
  · cases hf
theorem pl_sl {f : EF} {l h : OF} (he : PE X e (tD f)) (hl : PO X lo (tO l)) (hh : PO X hi (tO h)) : PE X (.Subscript e (.Slice lo hi none p2) pos) (tL (dSlL f l h)) := PE.to (pe_slice sl_list he hl hh) fun σ H Q ⟨B, F, ps, sl, cs, v, cs', r, hf, k⟩ => by
  unfold dSlL at hf
  split at hf
  · rename_i v1 c1 e1
    split at hf
    · rename_i lo' c2 e2
      split at hf
      · rename_i hi' c3 e3
        split at hf
        · rename_i ds e5
          cases hf
          refine ⟨B, F, ps, sl, cs, _, _, r, e1, fun x F1 s1 H1 x1 k1 r1 => ⟨B, F1, s1, sl, _, _, _, r.go x1 k1, e2, fun F2 s2 H2 x2 k2 => ⟨B, F2, s2, sl, _, _, _, r.go (x1.trans x2) k2, e3, fun F3 s3 H3 x3 k3 => ?_⟩⟩⟩
          obtain ⟨a, vs, h1, h2, h3⟩ := ls_at k3 (r1.mono (x2.trans x3)) e5
          exact ⟨a, vs, h1, SqL.of h2, fun p hp => k _ _ _ _ _ ((x1.trans x2).trans x3) k3 hp (rp_cut h3 _ _)⟩
        · cases hf
      · cases hf
    · cases hf
  · cases hf
/-! xs[::-1] -/
def dRevL (f : EF) : LF := fun sl cs => match f sl cs with
  | some (v, c1) => match lsOf v c1 with
    | some ds => some (ds.reverse, c1)
    | none => none
  | none => none
theorem pl_rev {f : EF} {k0 : Nat} {q1 q2 q3 : Pos} (he : PE X e (tD f)) : PE X (.Subscript e (.Slice none none (some (.UnaryOp .USub (.Constant (.int 1) k0 q1) q2)) q3) pos) (tL (dRevL f)) := PE.to (pe_revL he) fun σ H Q ⟨B, F, ps, sl, cs, v, cs', r, hf, k⟩ => by
  unfold dRevL at hf
  split at hf
  · rename_i v1 c1 e1
    split at hf
    · rename_i ds e2
      cases hf
      refine ⟨B, F, ps, sl, cs, _, _, r, e1, fun x F1 s1 H1 x1 k1 r1 => ?_⟩
      obtain ⟨a, vs, h1, h2, h3⟩ := ls_at k1 r1 e2
      exact ⟨a, vs, h1, SqL.of h2, fun p hp => k _ _ _ _ _ x1 k1 hp h3.reverse⟩
    · cases hf
  · cases hf
/-! list(range(..)) -/
def rangeD (a b : Int) : List PyData := (List.range (b - a).toNat).map fun i => .int (a + (i : Nat))
def rgOk (a b : Int) : Bool := decide (-(2 ^ 62) ≤ a) && decide (a < 2 ^ 62) && decide (-(2 ^ 62) ≤ b) && decide (b < 2 ^ 62) && decide ((b - a).toNat ≤ 16777216)
def dRg1 (f : EF) : LF := fun sl cs => match f sl cs with
  | some (.fr (.int n), c) => if rgOk 0 n = true then some (rangeD 0 n, c) else none
  | _ => none
def dRg2 (f g : EF) : LF := fun sl cs => match f sl cs with
  | some (.fr (.int n), c) => match g sl c with
    | some (.fr (.int m), c2) => if rgOk n m = true then some (rangeD n m, c2) else none
    | _ => none
  | _ => none
theorem rgOk_ok {a b : Int} (h : rgOk a b = true) : RgOk a b := by
  unfold rgOk at h
  simp only [Bool.and_eq_true, decide_eq_true_eq] at h
  obtain ⟨⟨⟨⟨h1, h2⟩, h3⟩, h4⟩, h5⟩ := h
  exact ⟨h1, h2, h3, h4, h5⟩
theorem rp_range {F : Hp} (a b : Int) : RpAll F (rgV a b) (rangeD a b) := by
  unfold rgV rangeD
  generalize List.range (b - a).toNat = l
  induction l with
  | nil => exact .nil
  | cons x l ih => exact .cons (.int _) ih
theorem pl_rg1 {f : EF} {q1 q2 q3 : Pos} (hc : X.calm = true) (hm : X.mg "list" = none) (hmr : X.mg "range" = none) (he : PE X e (tD f)) (hg : Gl X "list" := by rfl) (hgr : Gl X "range" := by rfl)
    (na : starEach [.Call (.Name "range" q1) [e] [] q2] X.env = (false, eval (.Call (.Name "range" q1) [e] [] q2) X.env) :: starEach [] X.env := by rfl) (na2 : starEach [e] X.env = (false, eval e X.env) :: starEach [] X.env := by rfl) :
    PE X (.Call (.Name "list" q3) [.Call (.Name "range" q1) [e] [] q2] [] pos) (tL (dRg1 f)) := PE.to (pe_listRg hc hg hm (prg_1 hgr hmr he na2) na) fun σ H Q ⟨B, F, ps, sl, cs, v, cs', r, hf, k⟩ => by
  unfold dRg1 at hf
  split at hf
  · rename_i n c e1
    split at hf
    · rename_i hz
      cases hf
      refine ⟨B, F, ps, sl, cs, _, _, r, e1, fun x F1 s1 H1 x1 k1 r1 => ?_⟩
      cases r1
      exact ⟨n, rfl, rgOk_ok hz, fun q hq => k _ _ _ _ _ x1 k1 hq (rp_range 0 n)⟩
    · cases hf
  · cases hf
theorem pl_rg2 {f g : EF} {q1 q2 q3 : Pos} (hc : X.calm = true) (hm : X.mg "list" = none) (hmr : X.mg "range" = none) (he : PE X e (tD f)) (hb : PE X b (tD g)) (hg : Gl X "list" := by rfl) (hgr : Gl X "range" := by rfl)
    (na : starEach [.Call (.Name "range" q1) [e, b] [] q2] X.env = (false, eval (.Call (.Name "range" q1) [e, b] [] q2) X.env) :: starEach [] X.env := by rfl) (na2 : starEach [e, b] X.env = (false, eval e X.env) :: starEach [b] X.env := by rfl) (na3 : starEach [b] X.env = (false, eval b X.env) :: starEach [] X.env := by rfl) (hp : (backTo q2 (starEach [b] X.env)).any (·.1) = false := by rfl) :
    PE X (.Call (.Name "list" q3) [.Call (.Name "range" q1) [e, b] [] q2] [] pos) (tL (dRg2 f g)) := PE.to (pe_listRg hc hg hm (prg_2 hgr hmr he hb na2 na3 (hp := hp)) na) fun σ H Q ⟨B, F, ps, sl, cs, v, cs', r, hf, k⟩ => by
  unfold dRg2 at hf
  split at hf
  · rename_i n c e1
    split at hf
    · rename_i m c2 e2
      split at hf
      · rename_i hz
        cases hf
        refine ⟨B, F, ps, sl, cs, _, _, r, e1, fun x F1 s1 H1 x1 k1 r1 => ⟨B, F1, s1, sl, _, _, _, r.go x1 k1, e2, fun y F2 s2 H2 x2 k2 r2 => ?_⟩⟩
        cases r1
        cases r2
        exact ⟨n, m, rfl, rfl, rgOk_ok hz, fun q hq => k _ _ _ _ _ (x1.trans x2) k2 hq (rp_range n m)⟩
      · cases hf
    · cases hf
  · cases hf
end

/-! ### methods -/
/-- a cell's list changed: the receiver a cell; the answer -/
abbrev OpW := List PyData → List Val → Cs → Option (List PyData × PyData × Cs)
def dW (op : OpW) (f : EF) (g : AF) : EF := fun sl cs => match f sl cs with
  | some (.ce c, c1) => match g sl c1 with
    | some (vs, c2) => match c2[c]? with
      | some (some (.lst ds)) => match op ds vs c2 with
        | some (ds', d, c3) => match c3[c]? with
          | some (some (.lst ds2)) => some (.fr d, c3.set c (some (.lst ds')))
          | _ => none
        | none => none
      | _ => none
    | none => none
  | _ => none
def dW0 (op : List PyData → Option (List PyData × PyData)) (f : EF) : EF := fun sl cs => match f sl cs with
  | some (.ce c, c1) => match c1[c]? with
    | some (some (.lst ds)) => match op ds with
      | some (ds', d) => some (.fr d, c1.set c (some (.lst ds')))
      | none => none
    | _ => none
  | _ => none
theorem cell_ty (K : PySem.W.Frag) {B : Base} {F H : Hp} {ps : List Addr} {cs : Cs} {c : Nat} {ds : List PyData} (k : COk B F ps cs H) (h : cs[c]? = some (some (.lst ds))) {x : V} (r : VRel F ps x (.ce c)) : tyV K "list" x H := by
  obtain ⟨a, h1, ⟨vs, h2, h3⟩, _⟩ := k.cell _ _ h
  obtain ⟨b, q, rfl⟩ := r
  rw [q] at h1
  cases h1
  exact .inl ⟨rfl, _, SqL.of h2⟩
def liveL (cs : Cs) (c : Nat) : Bool := match cs[c]? with
  | some (some (.lst _)) => true
  | _ => false
/-- xs.append(v) -/
def dApp (f g : EF) : EF := fun sl cs => match f sl cs with
  | some (.ce c, c1) => if liveL c1 c = true then match g sl c1 with
    | some (v, c2) => match fzV v c2 with
      | some (d, c3) => match c3[c]? with
        | some (some (.lst ds)) => if ds.length < 16777216 then some (.fr .none, c3.set c (some (.lst (ds ++ [d])))) else none
        | _ => none
      | none => none
    | none => none
    else none
  | _ => none
section
variable {X : Cx} {a b e o : Expr} {pos apos cpos : Pos}
theorem liveL_ty (K : PySem.W.Frag) {B : Base} {F H : Hp} {ps : List Addr} {cs : Cs} {c : Nat} (k : COk B F ps cs H) (h : liveL cs c = true) {x : V} (r : VRel F ps x (.ce c)) : tyV K "list" x H := by
  unfold liveL at h
  split at h
  · rename_i e
    exact cell_ty K k e r
  · cases h
theorem px_app {f g : EF} (ho : PE X o (tD f)) (he : PE X e (tD g)) (hbase : attributeBase o "append" X.env (eval o X.env) = eval o X.env := by rfl)
    (hfew : ((backTo cpos (starEach (e :: []) X.env)).all (fun x => !x.1) && (backToKw cpos (keywordEach [] X.env)).all (fun x => x.1.isSome) && decide ((e :: []).length + ([] : List Keyword).length + (if ([] : List Keyword).isEmpty then 0 else 1) < 30)) = true := by rfl)
    (hline : (apos.endLine == cpos.line) = true := by rfl) (hs : starEach (e :: []) X.env = (false, eval e X.env) :: starEach [] X.env := by rfl) (hplain : (backTo cpos (starEach [] X.env)).any (·.1) = false := by rfl) :
    PE X (.Call (.Attribute o "append" apos) [e] [] cpos) (tD (dApp f g)) :=
  PE.to (pe_bm PySem.F.plainAttrs_list PySem.F.slot_list_append PySem.F.type_list_append mt_append ho (pa_cons he pa_nil hs) hbase hfew hline hs hplain) fun σ H Q ⟨B, F, ps, sl, cs, v, cs', r, hf, k⟩ => by
    unfold dApp at hf
    split at hf
    · rename_i c c1 e1
      split at hf
      · rename_i hl
        split at hf
        · rename_i v2 c2 e2
          split at hf
          · rename_i d c3 e3
            split at hf
            · rename_i ds e4
              split at hf
              · rename_i hz
                cases hf
                refine ⟨B, F, ps, sl, cs, _, _, r, e1, fun x F1 s1 H1 x1 k1 r1 => ⟨liveL_ty X.K k1 hl r1, ⟨B, F1, s1, sl, _, _, _, r.go x1 k1, e2, fun y F2 s2 H2 x2 k2 r2 => ?_⟩⟩⟩
                obtain ⟨F3, x3, k3, r3⟩ := fz_at k2 r2 e3
                obtain ⟨ad, h1, ⟨vs, h2, h3⟩, h4, h5⟩ := k3.cell _ _ e4
                obtain ⟨ad', q, rfl⟩ := r1.mono (x2.trans x3)
                rw [h1] at q
                cases q
                refine ⟨ad, vs, y, rfl, rfl, h2, by rw [h3.length, sizeLine_eq]; exact hz, k _ _ _ _ ((x1.trans x2).trans x3) (k3.write e4 h1 ⟨_, upd_same, h3.append (.cons r3 .nil)⟩) .non⟩
              · cases hf
            · cases hf
          · cases hf
        · cases hf
      · cases hf
    · cases hf
/-- xs.pop() -/
def dPop (f : EF) : EF := fun sl cs => match f sl cs with
  | some (.ce c, c1) => match c1[c]? with
    | some (some (.lst ds)) => match ds[ds.length - 1]? with
      | some d => some (.fr d, c1.set c (some (.lst ds.dropLast)))
      | none => none
    | _ => none
  | _ => none
theorem px_pop {f : EF} (ho : PE X o (tD f)) (hbase : attributeBase o "pop" X.env (eval o X.env) = eval o X.env := by rfl) (hline : (apos.endLine == cpos.line) = true := by rfl) :
    PE X (.Call (.Attribute o "pop" apos) [] [] cpos) (tD (dPop f)) :=
  PE.to (pe_bm0 PySem.F.plainAttrs_list PySem.F.slot_list_pop PySem.F.type_list_pop mt_pop ho hbase hline) fun σ H Q ⟨B, F, ps, sl, cs, v, cs', r, hf, k⟩ => by
    unfold dPop at hf
    split at hf
    · rename_i c c1 e1
      split at hf
      · rename_i ds e4
        split at hf
        · rename_i d e5
          cases hf
          refine ⟨B, F, ps, sl, cs, _, _, r, e1, fun x F1 s1 H1 x1 k1 r1 => ⟨cell_ty X.K k1 e4 r1, ?_⟩⟩
          obtain ⟨ad, h1, ⟨vs, h2, h3⟩, h4, h5⟩ := k1.cell _ _ e4
          obtain ⟨ad', q, rfl⟩ := r1
          rw [h1] at q
          cases q
          obtain ⟨y, h6, h7⟩ := h3.get e5
          exact ⟨ad, vs, y, rfl, rfl, h2, by rw [h3.length]; exact h6, k _ _ _ _ x1 (k1.write e4 h1 ⟨_, upd_same, h3.dropLast⟩) h7⟩
        · cases hf
      · cases hf
    · cases hf
/-- xs.pop(i) -/
def dPopAt (f g : EF) : EF := fun sl cs => match f sl cs with
  | some (.ce c, c1) => if liveL c1 c = true then match g sl c1 with
    | some (.fr (.int i), c2) => match c2[c]? with
      | some (some (.lst ds)) => if decide (-(2 ^ 63) ≤ i) && decide (i < 2 ^ 63) then match seqIndex? i ds.length with
        | some j => match ds[j]? with
          | some d => some (.fr d, c2.set c (some (.lst (ds.eraseIdx j))))
          | none => none
        | none => none
        else none
      | _ => none
    | _ => none
    else none
  | _ => none
theorem px_popAt {f g : EF} (ho : PE X o (tD f)) (he : PE X e (tD g)) (hbase : attributeBase o "pop" X.env (eval o X.env) = eval o X.env := by rfl)
    (hfew : ((backTo cpos (starEach (e :: []) X.env)).all (fun x => !x.1) && (backToKw cpos (keywordEach [] X.env)).all (fun x => x.1.isSome) && decide ((e :: []).length + ([] : List Keyword).length + (if ([] : List Keyword).isEmpty then 0 else 1) < 30)) = true := by rfl)
    (hline : (apos.endLine == cpos.line) = true := by rfl) (hs : starEach (e :: []) X.env = (false, eval e X.env) :: starEach [] X.env := by rfl) (hplain : (backTo cpos (starEach [] X.env)).any (·.1) = false := by rfl) :
    PE X (.Call (.Attribute o "pop" apos) [e] [] cpos) (tD (dPopAt f g)) :=
  PE.to (pe_bm PySem.F.plainAttrs_list PySem.F.slot_list_pop PySem.F.type_list_pop mt_popAt ho (pa_cons he pa_nil hs) hbase hfew hline hs hplain) fun σ H Q ⟨B, F, ps, sl, cs, v, cs', r, hf, k⟩ => by
    unfold dPopAt at hf
    split at hf
    · rename_i c c1 e1
      split at hf
      · rename_i hl
        split at hf
        · rename_i i c2 e2
          split at hf
          · rename_i ds e4
            split at hf
            · rename_i hb
              split at hf
              · rename_i j e5
                split at hf
                · rename_i d e6
                  cases hf
                  rw [Bool.and_eq_true] at hb
                  refine ⟨B, F, ps, sl, cs, _, _, r, e1, fun x F1 s1 H1 x1 k1 r1 => ⟨liveL_ty X.K k1 hl r1, ⟨B, F1, s1, sl, _, _, _, r.go x1 k1, e2, fun y F2 s2 H2 x2 k2 r2 => ?_⟩⟩⟩
                  cases r2
                  obtain ⟨ad, h1, ⟨vs, h2, h3⟩, h4, h5⟩ := k2.cell _ _ e4
                  obtain ⟨ad', q, rfl⟩ := r1.mono x2
                  rw [h1] at q
                  cases q
                  obtain ⟨y, h6, h7⟩ := h3.get e6
                  exact ⟨ad, vs, i, j, y, rfl, rfl, h2, of_decide_eq_true hb.1, of_decide_eq_true hb.2, by rw [h3.length]; exact e5, h6, k _ _ _ _ (x1.trans x2) (k2.write e4 h1 ⟨_, upd_same, h3.erase j⟩) h7⟩
                · cases hf
              · cases hf
            · cases hf
          · cases hf
        · cases hf
      · cases hf
    · cases hf
/-! texts: join, count -/
def stsOf : List PyData → Option (List Str)
  | [] => some []
  | .str i :: ds => match stsOf ds with
    | some ns => some (i :: ns)
    | none => none
  | _ :: _ => none
theorem stsOf_eq : ∀ {ds : List PyData} {ns : List Str}, stsOf ds = some ns → ds = ns.map .str
  | [], ns, h => by
    cases h
    rfl
  | d :: ds, ns, h => by
    cases d with
    | str i =>
      unfold stsOf at h
      split at h
      · rename_i ms e
        cases h
        rw [stsOf_eq e]
        rfl
      · cases h
    | none => exact (nomatch h)
    | int b => exact (nomatch h)
    | bool b => exact (nomatch h)
    | list b => exact (nomatch h)
    | tuple b => exact (nomatch h)
    | dict b => exact (nomatch h)
theorem stsOf_map : ∀ ns : List Str, stsOf (ns.map .str) = some ns
  | [] => rfl
  | n :: ns => by
    show stsOf (.str n :: ns.map .str) = _
    unfold stsOf
    rw [stsOf_map ns]
def dJoin (f g : EF) : EF := fun sl cs => match f sl cs with
  | some (.fr (.str a), c1) => match g sl c1 with
    | some (v, c2) => match lsOf v c2 with
      | some ds => match stsOf ds with
        | some ys => if decide ((ys.map (·.length)).sum + ys.length * a.length ≤ 16777216) && PyData.strOk (Txt.join a ys) then some (.fr (.str (Txt.join a ys)), c2) else none
        | none => none
      | none => none
    | none => none
  | _ => none
theorem px_join {f g : EF} (ho : PE X o (tD f)) (he : PE X e (tD g)) (hs : starEach [e] X.env = [(false, eval e X.env)] := by rfl) (hbase : attributeBase o "join" X.env (eval o X.env) = eval o X.env := by rfl) (hline : (apos.endLine == pos.line) = true := by rfl) :
    PE X (.Call (.Attribute o "join" apos) [e] [] pos) (tD (dJoin f g)) := PE.to (pe_join ho he hs hbase hline) fun σ H Q ⟨B, F, ps, sl, cs, v, cs', r, hf, k⟩ => by
    unfold dJoin at hf
    split at hf
    · rename_i a c1 e1
      split at hf
      · rename_i v2 c2 e2
        split at hf
        · rename_i ds e3
          split at hf
          · rename_i ys e4
            split at hf
            · rename_i hz
              cases hf
              rw [Bool.and_eq_true] at hz
              refine ⟨B, F, ps, sl, cs, _, _, r, e1, fun x F1 s1 H1 x1 k1 r1 => ?_⟩
              cases r1
              refine ⟨⟨_, rfl⟩, ⟨B, F1, s1, sl, _, _, _, r.go x1 k1, e2, fun y F2 s2 H2 x2 k2 r2 => ?_⟩⟩
              obtain ⟨ad, vs, h1, h2, h3⟩ := ls_at k2 r2 e3
              rw [stsOf_eq e4] at h3
              rw [h3.strs] at h2
              exact ⟨a, ad, ys, rfl, by rw [h1], .inl (SqL.of h2), of_decide_eq_true hz.1, k _ _ _ _ (x1.trans x2) k2 (.str _ hz.2)⟩
            · cases hf
          · cases hf
        · cases hf
      · cases hf
    · cases hf
def dCountS (f g : EF) : EF := fun sl cs => match f sl cs with
  | some (.fr (.str a), c1) => match g sl c1 with
    | some (.fr (.str b), c2) => some (.fr (.int (Txt.count a b)), c2)
    | _ => none
  | _ => none
theorem px_countS {f g : EF} (ho : PE X o (tD f)) (he : PE X e (tD g)) (hs : starEach [e] X.env = [(false, eval e X.env)] := by rfl) (hbase : attributeBase o "count" X.env (eval o X.env) = eval o X.env := by rfl) (hline : (apos.endLine == pos.line) = true := by rfl) :
    PE X (.Call (.Attribute o "count" apos) [e] [] pos) (tD (dCountS f g)) := PE.to (pe_m1 PySem.F.slot_str_count PySem.F.type_str_count mt_count ho he hs hbase hline) fun σ H Q ⟨B, F, ps, sl, cs, v, cs', r, hf, k⟩ => by
    unfold dCountS at hf
    split at hf
    · rename_i a c1 e1
      split at hf
      · rename_i b c2 e2
        cases hf
        refine ⟨B, F, ps, sl, cs, _, _, r, e1, fun x F1 s1 H1 x1 k1 r1 => ?_⟩
        cases r1
        refine ⟨⟨_, rfl⟩, ⟨B, F1, s1, sl, _, _, _, r.go x1 k1, e2, fun y F2 s2 H2 x2 k2 r2 => ?_⟩⟩
        cases r2
        exact ⟨_, _, rfl, rfl, k _ _ _ _ (x1.trans x2) k2 (.int _)⟩
      · cases hf
    · cases hf
end
end DX
set_option maxHeartbeats 1000000
/-! DX, sixth part: statements, targets, what is walked, loops. -/
namespace DX
open PySem L2 PySem.Spec PyProof.Rows

/-! ### statements -/
inductive Out where
  | nxt (sl : Sl) (cs : Cs)
  | ret (v : Val) (cs : Cs)
  | brk (sl : Sl) (cs : Cs)
  | cnt (sl : Sl) (cs : Cs)
  | exc (x f : Str) (d : PyData) (sl : Sl) (cs : Cs)
abbrev SF := Sl → Cs → Option Out
/-- an exception of the class that the module calls x, its field f holding d -/
def ExAt (mg : Str → Option Value) (F : Hp) (x f : Str) (d : PyData) (cls : Value) (dd : Option Addr) : Prop :=
  ∃ C da v, mg x = some (.ref C) ∧ cls = .ref C ∧ dd = some da ∧ F da = some (.xd [(f, v)]) ∧ Rp F v d
def OutOk (mg : Str → Option Value) (W : WX) (B : Base) (D : Ends) : Out → Prop
  | .nxt sl cs => ∀ F ps σ H, Rdy B F ps sl cs σ H → D.nx σ H
  | .ret v cs => ∀ x F ps H, COk B F ps cs H → VRel F ps x v → D.rt x H
  | .brk sl cs => ∀ F ps σ H, Rdy B F ps sl cs σ H → D.bk σ H
  | .cnt sl cs => ∀ F ps σ H, Rdy B F ps sl cs σ H → D.ct σ H
  | .exc x f d sl cs => ∀ F ps σ H cls dd, Rdy B F ps sl cs σ H → ExAt mg F x f d cls dd → W cls dd σ H
def tS (mg : Str → Option Value) (W : WX) (f : SF) : TS := fun D σ H => ∃ B F ps sl cs o, Rdy B F ps sl cs σ H ∧ f sl cs = some o ∧ OutOk mg W B D o
section
variable {B : Base} {F F' H H' : Hp} {ps ps' : List Addr} {cs cs' : Cs} {sl sl' : Sl} {σ σ' : L2.St}
abbrev Base.at (B : Base) (F : Hp) (ps : List Addr) : Base := ⟨B.R, F, ps⟩
/-- a stretch within -/
theorem COk.down (k : COk B F ps cs H) : COk (B.at F ps) F ps cs H := ⟨k.fH, k.rH, Same.refl F, fun _ _ => rfl, List.prefix_refl _, k.len, k.cell, k.inj⟩
theorem COk.up (k : COk B F ps cs H) (q : COk (B.at F ps) F' ps' cs' H') : COk B F' ps' cs' H' :=
  ⟨q.fH, q.rH, k.f0.trans q.f0, fun a r => (q.out a r).trans (k.out a r), k.pre.trans q.pre, q.len, q.cell, q.inj⟩
theorem Rdy.down (r : Rdy B F ps sl cs σ H) : Rdy (B.at F ps) F ps sl cs σ H := ⟨r.c.down, r.s, r.l⟩
theorem Rdy.up (k : COk B F ps cs H) (q : Rdy (B.at F ps) F' ps' sl' cs' σ' H') : Rdy B F' ps' sl' cs' σ' H' := ⟨k.up q.c, q.s, q.l⟩
theorem COk.ext (q : COk (B.at F ps) F' ps' cs' H') : Ext F F' ps ps' := ⟨q.f0, q.pre⟩
end
def sNo : SF := fun sl cs => some (.nxt sl cs)
def sSeq (f g : SF) : SF := fun sl cs => match f sl cs with
  | some (.nxt sl1 cs1) => g sl1 cs1
  | r => r
def sIf (c : BF) (f g : SF) : SF := fun sl cs => match c sl cs with
  | some (true, c1) => f sl c1
  | some (false, c1) => g sl c1
  | none => none
def sSet (i : Nat) (f : EF) : SF := fun sl cs => match f sl cs with
  | some (v, c1) => some (.nxt (sl.set i (some v)) c1)
  | none => none
def sEx (f : EF) : SF := fun sl cs => match f sl cs with
  | some (_, c1) => some (.nxt sl c1)
  | none => none
def sRet (f : EF) : SF := fun sl cs => match f sl cs with
  | some (v, c1) => some (.ret v c1)
  | none => none
def sRetN : SF := fun _ cs => some (.ret (.fr .none) cs)
def sBrk : SF := fun sl cs => some (.brk sl cs)
def sCnt : SF := fun sl cs => some (.cnt sl cs)
section
variable {X : Cx} {mg : Str → Option Value} {W : WX} {st : Stmt} {rest : List Stmt} {e c : Expr} {pos : Pos}
theorem pxs_nil : PSs X [] (tS mg W sNo) := PSs.to pss_nil fun D σ H ⟨B, F, ps, sl, cs, o, r, hf, k⟩ => by
  cases hf
  exact k _ _ _ _ r
theorem pxs_cons {f g : SF} (h : PS X st (tS mg W f)) (h2 : PSs X rest (tS mg W g)) : PSs X (st :: rest) (tS mg W (sSeq f g)) := PSs.to (pss_cons h h2) fun D σ H ⟨B, F, ps, sl, cs, o, r, hf, k⟩ => by
  unfold sSeq at hf
  split at hf
  · rename_i sl1 cs1 e1
    exact ⟨B, F, ps, sl, cs, _, r, e1, fun F1 p1 σ1 H1 r1 => ⟨B, F1, p1, sl1, cs1, o, r1, hf, k⟩⟩
  · rename_i hn
    refine ⟨B, F, ps, sl, cs, o, r, hf, ?_⟩
    cases o with
    | nxt a b => exact (hn _ _ hf).elim
    | ret v b => exact k
    | brk a b => exact k
    | cnt a b => exact k
    | exc x f d a b => exact k
theorem pxs_one {f : SF} (h : PS X st (tS mg W f)) : PSs X [st] (tS mg W f) := pss_one h
theorem pxs_if {a b : List Stmt} {t : BF} {f g : SF} (hc : PT X c (tT t)) (ha : PSs X a (tS mg W f)) (hb : PSs X b (tS mg W g)) : PS X (.If c a b pos) (tS mg W (sIf t f g)) := PS.to (ps_if hc ha hb) fun D σ H ⟨B, F, ps, sl, cs, o, r, hf, k⟩ => by
  unfold sIf at hf
  split at hf
  · rename_i c1 e1
    exact ⟨B, F, ps, sl, cs, _, _, r, e1, fun F1 p1 H1 x1 k1 => iteT ⟨B, F1, p1, sl, c1, o, r.go x1 k1, hf, k⟩⟩
  · rename_i c1 e1
    exact ⟨B, F, ps, sl, cs, _, _, r, e1, fun F1 p1 H1 x1 k1 => iteF ⟨B, F1, p1, sl, c1, o, r.go x1 k1, hf, k⟩⟩
  · cases hf
theorem set_d {i : Nat} {f : EF} : ∀ D σ H, tS mg W (sSet i f) D σ H → tAsg (tD f) (gName i) D σ H := fun D σ H ⟨B, F, ps, sl, cs, o, r, hf, k⟩ => by
  unfold sSet at hf
  split at hf
  · rename_i v c1 e1
    cases hf
    exact ⟨B, F, ps, sl, cs, _, _, r, e1, fun x F1 p1 H1 x1 k1 r1 => k F1 p1 _ H1 ⟨k1, (r.s.mono x1).set r.l r1 i, by rw [List.length_set, List.length_set, r.l]⟩⟩
  · cases hf
theorem pxs_set {i : Nat} {x : Str} {f : EF} {pos' : Pos} (hN : X.N.Nodup) (he : PE X e (tD f)) (hi : X.N[i]? = some x := by rfl) (hx : Loc X.env.scope x := by first | exact Or.inl rfl | exact Or.inr rfl) (hs : swapsWith e (some (.Name x pos')) pos.line X.env = pure false := by rfl) (hf : X.fn x = true ∨ X.env.scope.names.lookup x = some .local := by first | exact .inl rfl | exact .inr rfl) :
    PS X (.Assign [.Name x pos'] e pos) (tS mg W (sSet i f)) := PS.to (ps_set hN hi hx he hs hf) set_d
theorem pxs_ex {f : EF} (he : PE X e (tD f)) (hs : swapsWith e none pos.line X.env = pure false := by rfl) : PS X (.Expr e pos) (tS mg W (sEx f)) := PS.to (ps_expr he hs) fun D σ H ⟨B, F, ps, sl, cs, o, r, hf, k⟩ => by
  unfold sEx at hf
  split at hf
  · rename_i v c1 e1
    cases hf
    exact ⟨B, F, ps, sl, cs, _, _, r, e1, fun x F1 p1 H1 x1 k1 r1 => k F1 p1 σ H1 (r.go x1 k1)⟩
  · cases hf
theorem pxs_ret {f : EF} (he : PE X e (tD f)) : PS X (.Return (some e) pos) (tS mg W (sRet f)) := PS.to (ps_ret he) fun D σ H ⟨B, F, ps, sl, cs, o, r, hf, k⟩ => by
  unfold sRet at hf
  split at hf
  · rename_i v c1 e1
    cases hf
    exact ⟨B, F, ps, sl, cs, _, _, r, e1, fun x F1 p1 H1 x1 k1 r1 => k _ F1 p1 H1 k1 r1⟩
  · cases hf
theorem pxs_retN : PS X (.Return none pos) (tS mg W sRetN) := PS.to ps_retN fun D σ H ⟨B, F, ps, sl, cs, o, r, hf, k⟩ => by
  cases hf
  exact k _ _ _ _ r.c .non
theorem pxs_pass : PS X (.Pass pos) (tS mg W sNo) := PS.to ps_pass fun D σ H ⟨B, F, ps, sl, cs, o, r, hf, k⟩ => by
  cases hf
  exact k _ _ _ _ r
theorem pxs_brk : PS X (.Break pos) (tS mg W sBrk) := PS.to ps_break fun D σ H ⟨B, F, ps, sl, cs, o, r, hf, k⟩ => by
  cases hf
  exact k _ _ _ _ r
theorem pxs_cnt : PS X (.Continue pos) (tS mg W sCnt) := PS.to ps_continue fun D σ H ⟨B, F, ps, sl, cs, o, r, hf, k⟩ => by
  cases hf
  exact k _ _ _ _ r
/-- name op= e, whole numbers -/
def sAug (i : Nat) (g : Int → Int → Int) (f : EF) : SF := fun sl cs => match sl[i]? with
  | some (some (.fr (.int a))) => match f sl cs with
    | some (.fr (.int b), c1) => some (.nxt (sl.set i (some (.fr (.int (g a b))))) c1)
    | _ => none
  | _ => none
theorem pxs_aug {i : Nat} {x : Str} {f : EF} {op : Operator} {g : Int → Int → Int} {pos' : Pos} (hN : X.N.Nodup) (ho : PIp X op (ipI g)) (he : PE X e (tD f)) (hi : X.N[i]? = some x := by rfl) (hx : Loc X.env.scope x := by first | exact Or.inl rfl | exact Or.inr rfl) (hf : X.fn x = true ∨ X.env.scope.names.lookup x = some .local := by first | exact .inl rfl | exact .inr rfl) :
    PS X (.AugAssign (.Name x pos') op e pos) (tS mg W (sAug i g f)) := PS.to (ps_aug hN hi hx he ho hf) fun D σ H ⟨B, F, ps, sl, cs, o, r, hf, k⟩ => by
  unfold sAug at hf
  split at hf
  · rename_i a e0
    split at hf
    · rename_i b c1 e1
      cases hf
      obtain ⟨x, h1, h2⟩ := r.s _ _ e0
      cases h2
      refine ⟨_, h1, ⟨B, F, ps, sl, cs, _, _, r, e1, fun y F1 p1 H1 x1 k1 r1 => ?_⟩⟩
      cases r1
      exact ⟨a, b, rfl, rfl, k F1 p1 _ H1 ⟨k1, (r.s.mono x1).set r.l (v := .fr (.int (g a b))) (.int _) i, by rw [List.length_set, List.length_set, r.l]⟩⟩
    · cases hf
  · cases hf
end

/-! ### targets -/
mutual
inductive Tg where
  | nm (i : Nat)
  | tp (ts : Tgs)
inductive Tgs where
  | nil
  | cons (t : Tg) (ts : Tgs)
end
def Tgs.len : Tgs → Nat
  | .nil => 0
  | .cons _ ts => ts.len + 1
mutual
def Tg.g (K : PySem.W.Frag) : Tg → TG
  | .nm i => gName i
  | .tp ts => gTup K ts.len (ts.g K)
def Tgs.g (K : PySem.W.Frag) : Tgs → TGs
  | .nil => gNil
  | .cons t ts => gCons (t.g K) (ts.g K)
end
mutual
def Tg.d : Tg → PyData → Sl → Option Sl
  | .nm i, d, sl => some (sl.set i (some (.fr d)))
  | .tp ts, d, sl => match d with
    | .tuple ds => ts.d ds sl
    | _ => none
def Tgs.d : Tgs → List PyData → Sl → Option Sl
  | .nil, [], sl => some sl
  | .cons t ts, d :: ds, sl => match t.d d sl with
    | some sl1 => ts.d ds sl1
    | none => none
  | _, _, _ => none
end
mutual
def Tg.ix : Tg → List Nat
  | .nm i => [i]
  | .tp ts => ts.ix
def Tgs.ix : Tgs → List Nat
  | .nil => []
  | .cons t ts => t.ix ++ ts.ix
end
theorem wipe_set {σ : L2.St} {i : Nat} {v : Option V} : ∀ {vs : List Nat}, i ∈ vs → wipe (σ.set i v) vs = wipe σ vs
  | [], h => nomatch h
  | j :: vs, h => by
    unfold wipe
    by_cases e : i = j
    · subst e
      by_cases m : i ∈ vs
      · rw [wipe_set m]
      · have q : ∀ (τ : L2.St) (ws : List Nat), i ∉ ws → (wipe (τ.set i v) ws).set i none = (wipe τ ws).set i none := by
          intro τ ws
          induction ws with
          | nil =>
            intro _
            show (τ.set i v).set i none = τ.set i none
            rw [List.set_set]
          | cons w ws ih =>
            intro hn
            have h1 : w ≠ i := fun z => hn (by rw [z]; exact List.mem_cons_self ..)
            show ((wipe (τ.set i v) ws).set w none).set i none = ((wipe τ ws).set w none).set i none
            rw [List.set_comm _ _ h1, ih (fun z => hn (List.mem_cons_of_mem _ z)), List.set_comm _ _ h1.symm]
        exact q σ vs m
    · rcases List.mem_cons.mp h with z | z
      · exact absurd z e
      · rw [wipe_set z]
theorem tgs_len : ∀ {ts : Tgs} {ds : List PyData} {sl sl' : Sl}, ts.d ds sl = some sl' → ds.length = ts.len
  | .nil, [], _, _, _ => rfl
  | .nil, _ :: _, _, _, h => by simp [Tgs.d] at h
  | .cons _ _, [], _, _, h => by simp [Tgs.d] at h
  | .cons t ts, d :: ds, sl, sl', h => by
    unfold Tgs.d at h
    split at h
    · show ds.length + 1 = ts.len + 1
      rw [tgs_len h]
    · cases h
mutual
theorem tg_ok (K : PySem.W.Frag) {F H : Hp} {ps : List Addr} (sF : Same F H) : ∀ {t : Tg} {x : V} {d : PyData} {sl sl' : Sl} {σ : L2.St} {Q : L2.St → Hp → Prop}, Rp F x d → t.d d sl = some sl' → SOk F ps sl σ → sl.length = σ.length →
    (∀ σ', SOk F ps sl' σ' → sl'.length = σ'.length → (∀ vs, (∀ i ∈ t.ix, i ∈ vs) → wipe σ' vs = wipe σ vs) → Q σ' H) → t.g K x σ H Q
  | .nm i, x, d, sl, sl', σ, Q, r, h, s, l, q => by
    unfold Tg.d at h
    cases h
    unfold Tg.g
    exact q _ (s.set l (v := .fr d) r i) (by rw [List.length_set, List.length_set, l]) fun vs hv => wipe_set (hv i (by unfold Tg.ix; exact List.mem_cons_self ..))
  | .tp ts, x, d, sl, sl', σ, Q, r, h, s, l, q => by
    unfold Tg.d at h
    split at h
    · rename_i ds
      cases r with
      | tup h1 h2 =>
        unfold Tg.g
        refine ⟨_, _, rfl, SqT.of (sF _ _ h1), by rw [h2.length]; exact tgs_len h, tgs_ok K sF h2 h s l fun σ' a b c => q σ' a b fun vs hv => c vs fun i hi => hv i (by unfold Tg.ix; exact hi)⟩
    · cases h
theorem tgs_ok (K : PySem.W.Frag) {F H : Hp} {ps : List Addr} (sF : Same F H) : ∀ {t : Tgs} {x : List V} {d : List PyData} {sl sl' : Sl} {σ : L2.St} {Q : L2.St → Hp → Prop}, RpAll F x d → t.d d sl = some sl' → SOk F ps sl σ → sl.length = σ.length →
    (∀ σ', SOk F ps sl' σ' → sl'.length = σ'.length → (∀ vs, (∀ i ∈ t.ix, i ∈ vs) → wipe σ' vs = wipe σ vs) → Q σ' H) → t.g K x σ H Q
  | .nil, x, [], sl, sl', σ, Q, r, h, s, l, q => by
    unfold Tgs.d at h
    cases h
    cases r
    unfold Tgs.g
    exact ⟨rfl, q _ s l fun _ _ => rfl⟩
  | .nil, x, _ :: _, sl, sl', σ, Q, r, h, s, l, q => by simp [Tgs.d] at h
  | .cons _ _, x, [], sl, sl', σ, Q, r, h, s, l, q => by simp [Tgs.d] at h
  | .cons t ts, x, d :: ds, sl, sl', σ, Q, r, h, s, l, q => by
    unfold Tgs.d at h
    split at h
    · rename_i sl1 e1
      cases r with
      | cons r1 r2 =>
        unfold Tgs.g
        exact ⟨_, _, rfl, tg_ok K sF r1 e1 s l fun σ1 a b c => tgs_ok K sF r2 h a b fun σ2 a2 b2 c2 => q σ2 a2 b2 fun vs hv =>
          (c2 vs fun i hi => hv i (by unfold Tgs.ix; exact List.mem_append_right _ hi)).trans (c vs fun i hi => hv i (by unfold Tgs.ix; exact List.mem_append_left _ hi))⟩
    · cases h
end
section
variable {X : Cx} {pos : Pos}
theorem pgx_nm {i : Nat} {x : Str} (hN : X.N.Nodup) (hi : X.N[i]? = some x := by rfl) (hx : Loc X.env.scope x := by first | exact Or.inl rfl | exact Or.inr rfl) (hf : X.fn x = true ∨ X.env.scope.names.lookup x = some .local := by first | exact .inl rfl | exact .inr rfl) : PG X (.Name x pos) (Tg.g X.K (.nm i)) := by
  unfold Tg.g
  exact pg_name hN hi hx hf
theorem pgx_nil : PGs X [] (Tgs.g X.K .nil) := by
  unfold Tgs.g
  exact pgs_nil
theorem pgx_cons {e : Expr} {es : List Expr} {t : Tg} {ts : Tgs} (h1 : PG X e (t.g X.K)) (h2 : PGs X es (ts.g X.K)) (hs : (assignEach (e :: es) X.env).map (·.2) = assign e X.env :: (assignEach es X.env).map (·.2) := by rfl) : PGs X (e :: es) (Tgs.g X.K (.cons t ts)) := by
  unfold Tgs.g
  exact pgs_cons h1 h2 hs
theorem pgx_tup {es : List Expr} {k : Nat} {ts : Tgs} (hc : X.calm = true) (h : PGs X es (ts.g X.K)) (hn : (assignEach es X.env).length = ts.len := by rfl) (hst : (assignEach es X.env).findIdx? (·.1) = none := by rfl) : PG X (.Tuple es k pos) (Tg.g X.K (.tp ts)) := by
  unfold Tg.g
  exact pg_tup hc h hn hst
/-- target = value (a tuple of names) -/
def sTg (t : Tg) (f : EF) : SF := fun sl cs => match f sl cs with
  | some (.fr d, c1) => match t.d d sl with
    | some sl1 => some (.nxt sl1 c1)
    | none => none
  | _ => none
theorem pxs_tg {mg : Str → Option Value} {W : WX} {tg e : Expr} {t : Tg} {f : EF} (he : PE X e (tD f)) (hg : PG X tg (t.g X.K)) (hs : swapsWithSole [tg] e pos.line X.env = pure false := by rfl) (hw : swappedStores [tg] e X.env = pure none := by rfl)
    (h1 : (assignEach [tg] X.env).map (·.2) = [assign tg X.env] := by rfl) : PS X (.Assign [tg] e pos) (tS mg W (sTg t f)) := PS.to (ps_asg he hg hs hw h1) fun D σ H ⟨B, F, ps, sl, cs, o, r, hf, k⟩ => by
  unfold sTg at hf
  split at hf
  · rename_i d c1 e1
    split at hf
    · rename_i sl1 e2
      cases hf
      exact ⟨B, F, ps, sl, cs, _, _, r, e1, fun x F1 p1 H1 x1 k1 r1 => tg_ok X.K k1.fH r1 e2 (r.s.mono x1) r.l fun σ' a b _ => k F1 p1 σ' H1 ⟨k1, a, b⟩⟩
    · cases hf
  · cases hf
/-! ### stores into a list that is a cell -/
def sSub (f o g : EF) : SF := fun sl cs => match f sl cs with
  | some (v, c1) => match o sl c1 with
    | some (.ce c, c2) => match g sl c2 with
      | some (.fr (.int i), c3) => match fzV v c3 with
        | some (d, c4) => match c4[c]? with
          | some (some (.lst ds)) => match ixN ds.length i with
            | some j => some (.nxt sl (c4.set c (some (.lst (ds.set j d)))))
            | none => none
          | _ => none
        | none => none
      | _ => none
    | _ => none
  | none => none
theorem pxs_sub {mg : Str → Option Value} {W : WX} {o i e : Expr} {p2 : Pos} {f g h : EF} (he : PE X e (tD f)) (ho : PE X o (tD g)) (hi : PE X i (tD h)) (hs : swapsWithSole [.Subscript o i p2] e pos.line X.env = pure false := by rfl) (hw : swappedStores [.Subscript o i p2] e X.env = pure none := by rfl)
    (h1 : (assignEach [.Subscript o i p2] X.env).map (·.2) = [assign (.Subscript o i p2) X.env] := by rfl)
    (ha : ∀ v, assign (.Subscript o i p2) X.env v = (do
      let ov ← holding [v] (eval o X.env)
      let iv ← holding [v, ov] (eval i X.env)
      standAt p2
      holding [v, ov, iv] (setItem ov iv v)
      release [v, ov, iv] []) := by intro _; rfl) : PS X (.Assign [.Subscript o i p2] e pos) (tS mg W (sSub f g h)) := PS.to (ps_asg he (pg_sub ho hi set_list ha) hs hw h1) fun D σ H ⟨B, F, ps, sl, cs, ou, r, hf, k⟩ => by
  unfold sSub at hf
  split at hf
  · rename_i v c1 e1
    split at hf
    · rename_i c c2 e2
      split at hf
      · rename_i i c3 e3
        split at hf
        · rename_i d c4 e4
          split at hf
          · rename_i ds e5
            split at hf
            · rename_i j e6
              cases hf
              refine ⟨B, F, ps, sl, cs, _, _, r, e1, fun x F1 p1 H1 x1 k1 r1 => ⟨B, F1, p1, sl, _, _, _, r.go x1 k1, e2, fun y F2 p2 H2 x2 k2 r2 => ⟨B, F2, p2, sl, _, _, _, r.go (x1.trans x2) k2, e3, fun z F3 p3 H3 x3 k3 r3 => ?_⟩⟩⟩
              cases r3
              obtain ⟨F4, x4, k4, r4⟩ := fz_at k3 (r1.mono (x2.trans x3)) e4
              obtain ⟨ad, g1, ⟨vs, g2, g3⟩, g4, g5⟩ := k4.cell _ _ e5
              obtain ⟨ad', q, rfl⟩ := r2.mono (x3.trans x4)
              rw [g1] at q
              cases q
              refine ⟨ad, vs, i, j, rfl, rfl, g2, by rw [g3.length]; exact e6, k F4 p3 σ _ ⟨k4.write e5 g1 ⟨_, upd_same, g3.set r4 j⟩, r.s.mono ((x1.trans x2).trans (x3.trans x4)), r.l⟩⟩
            · cases hf
          · cases hf
        · cases hf
      · cases hf
    · cases hf
  · cases hf
theorem get_list : PGet X (rIxL X.K) := by
  intro pins s σ H x y v u Q I rx ry h
  obtain ⟨p, xs, i, z, rfl, rfl, hq, he, q⟩ := h
  cases rx
  obtain ⟨t, rfl⟩ := ry
  obtain ⟨its, rv, pl, hz⟩ := I.list hq
  obtain ⟨j, h1, h2, h3, h4, h5⟩ := atI_get he
  obtain ⟨w, ew, rw'⟩ := rv.get h2
  have hl := rv.length
  have hn := line63
  by_cases h0 : 0 ≤ i
  · have hj : i.toNat = j := by
      rw [seqIndex_of h0 h5] at h1
      exact Option.some.inj h1
    exact wpAny_getItem_list pl.isList h0 (by omega) (x := w) (by rw [hj]; simpa using ew) ⟨z, H, I, rw', q⟩
  · have hj : (i + (its.toArray.size : Int)).toNat = j := by
      rw [seqIndex_neg (by omega) h4] at h1
      rw [List.size_toArray, ← hl]
      exact Option.some.inj h1
    exact wpAny_getItem_list_neg (x := w) pl.isList (by omega) (by rw [List.size_toArray] <;> omega) (by omega) (by rw [hj]; simpa using ew) ⟨z, H, I, rw', q⟩
/-- xs[i] op= e, whole numbers -/
def sSubAug (op : Int → Int → Int) (o g f : EF) : SF := fun sl cs => match o sl cs with
  | some (.ce c, c1) => match g sl c1 with
    | some (.fr (.int i), c2) => match c2[c]? with
      | some (some (.lst ds)) => match atI ds i with
        | some (.int a) => match f sl c2 with
          | some (.fr (.int b), c3) => match c3[c]? with
            | some (some (.lst ds2)) => match ixN ds2.length i with
              | some j => some (.nxt sl (c3.set c (some (.lst (ds2.set j (.int (op a b)))))))
              | none => none
            | _ => none
          | _ => none
        | _ => none
      | _ => none
    | _ => none
  | _ => none
theorem pxs_subAug {mg : Str → Option Value} {W : WX} {o i e : Expr} {p2 : Pos} {f g h : EF} {op : Operator} {j0 : Int → Int → Int} (hp : PIp X op (ipI j0)) (ho : PE X o (tD g)) (hi : PE X i (tD h)) (he : PE X e (tD f))
    (ha : ∀ ov iv new, augStore i ov iv new = (do holding [new, ov, iv] (setItem ov iv new); release [new, ov, iv] []; pure .next) := by intros; rfl) : PS X (.AugAssign (.Subscript o i p2) op e pos) (tS mg W (sSubAug j0 g h f)) := PS.to (ps_augS ho hi get_list he hp set_list ha) fun D σ H ⟨B, F, ps, sl, cs, ou, r, hf, k⟩ => by
  unfold sSubAug at hf
  split at hf
  · rename_i c c1 e1
    split at hf
    · rename_i i c2 e2
      split at hf
      · rename_i ds e3
        split at hf
        · rename_i a e4
          split at hf
          · rename_i b c3 e5
            split at hf
            · rename_i ds2 e6
              split at hf
              · rename_i j e7
                cases hf
                refine ⟨B, F, ps, sl, cs, _, _, r, e1, fun x F1 p1 H1 x1 k1 r1 => ⟨B, F1, p1, sl, _, _, _, r.go x1 k1, e2, fun y F2 p2 H2 x2 k2 r2 => ?_⟩⟩
                cases r2
                obtain ⟨ad, g1, ⟨vs, g2, g3⟩, g4, g5⟩ := k2.cell _ _ e3
                obtain ⟨ad', q, rfl⟩ := r1.mono x2
                rw [g1] at q
                cases q
                obtain ⟨va, h4, h5⟩ := atI_rp g3 e4
                cases h5
                refine ⟨ad, vs, i, _, rfl, rfl, SqL.of g2, h4, ⟨B, F2, p2, sl, _, _, _, r.go (x1.trans x2) k2, e5, fun z F3 p3 H3 x3 k3 r3 => ?_⟩⟩
                cases r3
                obtain ⟨ad2, g1', ⟨vs', g2', g3'⟩, g4', g5'⟩ := k3.cell _ _ e6
                have g1'' := pre_get x3.p g1
                rw [g1''] at g1'
                cases g1'
                exact ⟨a, b, rfl, rfl, ad, vs', i, j, rfl, rfl, g2', by rw [g3'.length]; exact e7, k F3 p3 σ _ ⟨k3.write e6 g1'' ⟨_, upd_same, g3'.set (.int _) j⟩, r.s.mono (x1.trans (x2.trans x3)), r.l⟩⟩
              · cases hf
            · cases hf
          · cases hf
        · cases hf
      · cases hf
    · cases hf
  · cases hf
end
end DX
set_option maxHeartbeats 1000000
/-! DX, seventh part: what is walked, for, while, comprehensions. -/
namespace DX
open PySem L2 PySem.Spec PyProof.Rows

/-! ### the same data, to the letter -/
mutual
def same : PyData → PyData → Bool
  | .none, .none => true
  | .bool a, .bool b => a == b
  | .int a, .int b => a == b
  | .str a, .str b => decide (a = b)
  | .list a, .list b => sameAll a b
  | .tuple a, .tuple b => sameAll a b
  | _, _ => false
def sameAll : List PyData → List PyData → Bool
  | [], [] => true
  | a :: as, b :: bs => same a b && sameAll as bs
  | _, _ => false
end
mutual
theorem same_eq : ∀ {a b : PyData}, same a b = true → a = b
  | .none, b, h => by
    cases b <;> simp [same] at h
    rfl
  | .bool x, b, h => by
    cases b <;> simp [same] at h
    rw [h]
  | .int x, b, h => by
    cases b <;> simp [same] at h
    rw [h]
  | .str x, b, h => by
    cases b <;> simp [same] at h
    rw [h]
  | .list x, b, h => by
    cases b <;> simp [same] at h
    rw [sameAll_eq h]
  | .tuple x, b, h => by
    cases b <;> simp [same] at h
    rw [sameAll_eq h]
  | .dict x, b, h => by simp [same] at h
theorem sameAll_eq : ∀ {a b : List PyData}, sameAll a b = true → a = b
  | [], [], _ => rfl
  | [], _ :: _, h => by simp [sameAll] at h
  | _ :: _, [], h => by simp [sameAll] at h
  | a :: as, b :: bs, h => by
    simp only [sameAll, Bool.and_eq_true] at h
    rw [same_eq h.1, sameAll_eq h.2]
end

/-! ### what is walked -/
abbrev Gd := List (Nat × List PyData)
abbrev IF := Sl → Cs → Option (List PyData × Gd × Cs)
def gChk : Gd → Cs → Bool
  | [], _ => true
  | (c, ds) :: g, cs => (match cs[c]? with
    | some (some (.lst es)) => sameAll es ds
    | _ => false) && gChk g cs
/-- the cells that are walked hold what they held -/
def GOk (g : Gd) (ps : List Addr) (F H : Hp) : Prop := ∀ p ∈ g, ∃ a vs, ps[p.1]? = some a ∧ H a = some (.lst vs) ∧ RpAll F vs p.2
theorem gChk_ok {B : Base} {F H : Hp} {ps : List Addr} {cs : Cs} (k : COk B F ps cs H) : ∀ {g : Gd}, gChk g cs = true → GOk g ps F H
  | [], _ => fun p h => nomatch h
  | (c, ds) :: g, h => by
    simp only [gChk, Bool.and_eq_true] at h
    obtain ⟨h1, h2⟩ := h
    intro p hp
    rcases List.mem_cons.mp hp with rfl | hp
    · split at h1
      · rename_i es e
        obtain ⟨a, q1, ⟨vs, q2, q3⟩, _⟩ := k.cell _ _ e
        rw [sameAll_eq h1] at q3
        exact ⟨a, vs, q1, q2, q3⟩
      · cases h1
    · exact gChk_ok k h2 p hp
theorem GOk.pre {g : Gd} {ps ps' : List Addr} {F H : Hp} (e : ps <+: ps') (hl : ∀ p ∈ g, p.1 < ps.length) (h : GOk g ps' F H) : GOk g ps F H := fun p hp => by
  obtain ⟨a, vs, h1, h2⟩ := h p hp
  obtain ⟨t, rfl⟩ := e
  rw [List.getElem?_append_left (hl p hp)] at h1
  exact ⟨a, vs, h1, h2⟩
structure Src (J : It) (its : List PyData) (F0 : Hp) (ok : Hp → Hp → Prop) : Prop where
  stop : ∀ F H, Same F0 F → Same F H → ok F H → J.stop its.length H
  go : ∀ i d F H, Same F0 F → Same F H → ok F H → its[i]? = some d → J.go i H
  yld : ∀ i d F H x H', Same F0 F → Same F H → ok F H → its[i]? = some d → J.yld i H x H' → (H' = H ∧ Rp F x d) ∨ ∃ T o, H T = none ∧ H' = upd H T o ∧ (∀ F', F' T = some o → Same F F' → Rp F' x d)
def tI (f : IF) : TI := fun σ H R => ∃ B F ps sl cs its g cs', Rdy B F ps sl cs σ H ∧ f sl cs = some (its, g, cs') ∧ ∀ J F' ps' H', Ext F F' ps ps' → COk B F' ps' cs' H' → Src J its F' (GOk g ps') → R J H'
theorem PI.to {X : Cx} {tg iter : Expr} {t u : TI} (h : PI X tg iter t) (w : ∀ σ H R, u σ H R → t σ H R) : PI X tg iter u := ⟨fun pins s σ H R I z => h.run pins s σ H R I (w σ H R z)⟩
/-- a list (frozen or a cell), a tuple, a text -/
def seqIt (v : Val) (cs : Cs) : Option (List PyData × Gd) := match v with
  | .fr (.list ds) => some (ds, [])
  | .fr (.tuple ds) => some (ds, [])
  | .fr (.str x) => some (x.cps.toList.map fun c => .str ⟨#[c]⟩, [])
  | .ce c => match cs[c]? with
    | some (some (.lst ds)) => some (ds, [(c, ds)])
    | _ => none
  | _ => none
def iSeq (f : EF) : IF := fun sl cs => match f sl cs with
  | some (v, c1) => match seqIt v c1 with
    | some (ds, g) => some (ds, g, c1)
    | none => none
  | none => none
theorem src_list {K : PySem.W.Frag} {a : Addr} {its : List PyData} {F0 : Hp} {ok : Hp → Hp → Prop} (h : ∀ F H, Same F0 F → Same F H → ok F H → ∃ vs, SqL K H a vs ∧ RpAll F vs its) : Src (Itl K a) its F0 ok where
  stop := fun F H s1 s2 k => by
    obtain ⟨vs, h1, h2⟩ := h F H s1 s2 k
    exact ⟨vs, h1, Nat.le_of_eq h2.length⟩
  go := fun i d F H s1 s2 k e => by
    obtain ⟨vs, h1, h2⟩ := h F H s1 s2 k
    obtain ⟨v, h3, _⟩ := h2.get e
    exact ⟨vs, v, h1, h3⟩
  yld := fun i d F H x H' s1 s2 k e y => by
    obtain ⟨vs, h1, h2⟩ := h F H s1 s2 k
    obtain ⟨v, h3, h4⟩ := h2.get e
    obtain ⟨rfl, y⟩ := y
    have := y vs h1
    rw [h3] at this
    cases this
    exact .inl ⟨rfl, h4⟩
theorem src_tup {K : PySem.W.Frag} {a : Addr} {its : List PyData} {F0 : Hp} {ok : Hp → Hp → Prop} (h : ∀ F H, Same F0 F → Same F H → ok F H → ∃ vs, SqT K H a vs ∧ RpAll F vs its) : Src (Itt K a) its F0 ok where
  stop := fun F H s1 s2 k => by
    obtain ⟨vs, h1, h2⟩ := h F H s1 s2 k
    exact ⟨vs, h1, Nat.le_of_eq h2.length⟩
  go := fun i d F H s1 s2 k e => by
    obtain ⟨vs, h1, h2⟩ := h F H s1 s2 k
    obtain ⟨v, h3, _⟩ := h2.get e
    exact ⟨vs, v, h1, h3⟩
  yld := fun i d F H x H' s1 s2 k e y => by
    obtain ⟨vs, h1, h2⟩ := h F H s1 s2 k
    obtain ⟨v, h3, h4⟩ := h2.get e
    obtain ⟨rfl, y⟩ := y
    have := y vs h1
    rw [h3] at this
    cases this
    exact .inl ⟨rfl, h4⟩
theorem src_str {z : Str} (hz : PyData.strOk z = true) {F0 : Hp} {ok : Hp → Hp → Prop} : Src (Its z) (z.cps.toList.map fun c => .str ⟨#[c]⟩) F0 ok where
  stop := fun F H s1 s2 k => by
    show z.cps.size ≤ _
    rw [List.length_map, Array.length_toList]
    exact Nat.le_refl _
  go := fun i d F H s1 s2 k e => by
    have q := (List.getElem?_eq_some_iff.mp e).1
    rw [List.length_map, Array.length_toList] at q
    exact q
  yld := fun i d F H x H' s1 s2 k e y => by
    obtain ⟨rfl, c, h1, rfl⟩ := y
    rw [List.getElem?_map, Array.getElem?_toList, h1] at e
    cases e
    refine .inl ⟨rfl, .str _ (ok_sign hz ?_)⟩
    exact List.mem_of_getElem? (i := i) (by rw [Array.getElem?_toList]; exact h1)
theorem src_range {lo : Int} {n : Nat} {F0 : Hp} {ok : Hp → Hp → Prop} : Src (Itr lo n) ((List.range n).map fun i => .int (lo + (i : Nat))) F0 ok where
  stop := fun F H s1 s2 k => by
    show n ≤ _
    rw [List.length_map, List.length_range]
    exact Nat.le_refl _
  go := fun i d F H s1 s2 k e => by
    have q := (List.getElem?_eq_some_iff.mp e).1
    rw [List.length_map, List.length_range] at q
    exact q
  yld := fun i d F H x H' s1 s2 k e y => by
    obtain ⟨rfl, rfl⟩ := y
    obtain ⟨h1, h2⟩ := List.getElem?_eq_some_iff.mp e
    rw [List.getElem_map, List.getElem_range] at h2
    subst h2
    exact .inl ⟨rfl, .int _⟩
theorem src_rangeC {lo c : Int} {n : Nat} {F0 : Hp} {ok : Hp → Hp → Prop} : Src (Itc lo c n) ((List.range n).map fun i => .int (lo + (i : Nat) * c)) F0 ok where
  stop := fun F H s1 s2 k => by
    show n ≤ _
    rw [List.length_map, List.length_range]
    exact Nat.le_refl _
  go := fun i d F H s1 s2 k e => by
    have q := (List.getElem?_eq_some_iff.mp e).1
    rw [List.length_map, List.length_range] at q
    exact q
  yld := fun i d F H x H' s1 s2 k e y => by
    obtain ⟨rfl, rfl⟩ := y
    obtain ⟨h1, h2⟩ := List.getElem?_eq_some_iff.mp e
    rw [List.getElem_map, List.getElem_range] at h2
    subst h2
    exact .inl ⟨rfl, .int _⟩
/-- the pairs (i, x) -/
def enumD (ds : List PyData) : List PyData := (List.range ds.length).zipWith (fun i d => .tuple [.int (i : Nat), d]) ds
theorem enumD_len (ds : List PyData) : (enumD ds).length = ds.length := by
  unfold enumD
  rw [List.length_zipWith, List.length_range, Nat.min_self]
theorem enumD_get {ds : List PyData} {i : Nat} {d : PyData} (h : (enumD ds)[i]? = some d) : ∃ e, ds[i]? = some e ∧ d = .tuple [.int (i : Nat), e] := by
  unfold enumD at h
  rw [List.getElem?_zipWith_eq_some] at h
  obtain ⟨j, e, h1, h2, h3⟩ := h
  obtain ⟨q1, q2⟩ := List.getElem?_eq_some_iff.mp h1
  rw [List.getElem_range] at q2
  subst q2
  exact ⟨e, h2, h3.symm⟩
theorem src_enum {K : PySem.W.Frag} {a : Addr} {its : List PyData} {F0 : Hp} {ok : Hp → Hp → Prop} (h : ∀ F H, Same F0 F → Same F H → ok F H → ∃ vs, SqL K H a vs ∧ RpAll F vs its) : Src (Ite K a) (enumD its) F0 ok where
  stop := fun F H s1 s2 k => by
    obtain ⟨vs, h1, h2⟩ := h F H s1 s2 k
    rw [enumD_len]
    exact ⟨vs, h1, Nat.le_of_eq h2.length⟩
  go := fun i d F H s1 s2 k e => by
    obtain ⟨vs, h1, h2⟩ := h F H s1 s2 k
    obtain ⟨e', q, _⟩ := enumD_get e
    obtain ⟨v, h3, _⟩ := h2.get q
    exact ⟨vs, v, h1, h3⟩
  yld := fun i d F H x H' s1 s2 k e y => by
    obtain ⟨vs, h1, h2⟩ := h F H s1 s2 k
    obtain ⟨e', q, rfl⟩ := enumD_get e
    obtain ⟨v, h3, h4⟩ := h2.get q
    obtain ⟨T, w, rfl, hT, rfl, y⟩ := y
    have := y vs h1
    rw [h3] at this
    cases this
    exact .inr ⟨T, _, hT, rfl, fun F' hF sF => .tup hF (.cons (.int _) (.cons (h4.mono sF) .nil))⟩
/-- the pairs (x, y) -/
def zipD (ds es : List PyData) : List PyData := ds.zipWith (fun d e => .tuple [d, e]) es
theorem zipD_get {ds es : List PyData} {i : Nat} {d : PyData} (h : (zipD ds es)[i]? = some d) : ∃ x y, ds[i]? = some x ∧ es[i]? = some y ∧ d = .tuple [x, y] := by
  unfold zipD at h
  rw [List.getElem?_zipWith_eq_some] at h
  obtain ⟨x, y, h1, h2, h3⟩ := h
  exact ⟨x, y, h1, h2, h3.symm⟩
theorem src_zip {K : PySem.W.Frag} {a b : Addr} {its its' : List PyData} {F0 : Hp} {ok : Hp → Hp → Prop} (h : ∀ F H, Same F0 F → Same F H → ok F H → (∃ vs, SqL K H a vs ∧ RpAll F vs its) ∧ ∃ vs, SqL K H b vs ∧ RpAll F vs its') : Src (Itz K a b) (zipD its its') F0 ok where
  stop := fun F H s1 s2 k => by
    obtain ⟨⟨vs, h1, h2⟩, ws, h3, h4⟩ := h F H s1 s2 k
    refine ⟨vs, ws, h1, h3, ?_⟩
    unfold zipD
    rw [List.length_zipWith, h2.length, h4.length]
    omega
  go := fun i d F H s1 s2 k e => by
    obtain ⟨⟨vs, h1, h2⟩, ws, h3, h4⟩ := h F H s1 s2 k
    obtain ⟨x, y, q1, q2, _⟩ := zipD_get e
    obtain ⟨v, g1, _⟩ := h2.get q1
    obtain ⟨w, g2, _⟩ := h4.get q2
    exact ⟨vs, ws, v, w, h1, h3, g1, g2⟩
  yld := fun i d F H x H' s1 s2 k e y => by
    obtain ⟨⟨vs, h1, h2⟩, ws, h3, h4⟩ := h F H s1 s2 k
    obtain ⟨x, y', q1, q2, rfl⟩ := zipD_get e
    obtain ⟨v, g1, g3⟩ := h2.get q1
    obtain ⟨w, g2, g4⟩ := h4.get q2
    obtain ⟨T, v', w', rfl, hT, rfl, y1, y2⟩ := y
    have e1 := y1 vs h1
    rw [g1] at e1
    cases e1
    have e2 := y2 ws h3
    rw [g2] at e2
    cases e2
    exact .inr ⟨T, _, hT, rfl, fun F' hF sF => .tup hF (.cons (g3.mono sF) (.cons (g4.mono sF) .nil))⟩

/-! ### sources by expressions -/
/-- a list: frozen, or a cell; its guard -/
def lsG (v : Val) (cs : Cs) : Option (List PyData × Gd) := match v with
  | .fr (.list ds) => some (ds, [])
  | .ce c => match cs[c]? with
    | some (some (.lst ds)) => some (ds, [(c, ds)])
    | _ => none
  | _ => none
theorem lsG_at (K : PySem.W.Frag) {B : Base} {F H : Hp} {ps : List Addr} {cs : Cs} {x : V} {v : Val} {ds : List PyData} {g : Gd} (k : COk B F ps cs H) (r : VRel F ps x v) (h : lsG v cs = some (ds, g)) :
    ∃ a vs, x = .ref a ∧ H a = some (.lst vs) ∧ (∀ g', (∀ p ∈ g, p ∈ g') → ∀ F' H', Same F F' → Same F' H' → GOk g' ps F' H' → ∃ vs, SqL K H' a vs ∧ RpAll F' vs ds) ∧ ∀ p ∈ g, p.1 < ps.length := by
  unfold lsG at h
  split at h
  · cases h
    cases r with
    | lst q t => exact ⟨_, _, rfl, k.fH _ _ q, fun g' hg' F' H' s1 s2 _ => ⟨_, SqL.of (s2 _ _ (s1 _ _ q)), t.mono s1⟩, fun p h => nomatch h⟩
  · split at h
    · cases h
      rename_i e
      obtain ⟨a, h1, ⟨vs, h2, h3⟩, _⟩ := k.cell _ _ e
      obtain ⟨b, q, rfl⟩ := r
      rw [q] at h1
      cases h1
      refine ⟨_, vs, rfl, h2, fun g' hg' F' H' s1 s2 hg => ?_, fun p hp => ?_⟩
      · obtain ⟨a', vs', g1, g2, g3⟩ := hg _ (hg' _ (List.mem_cons_self ..))
        rw [q] at g1
        cases g1
        exact ⟨vs', SqL.of g2, g3⟩
      · rcases List.mem_cons.mp hp with rfl | hp
        · exact (List.getElem?_eq_some_iff.mp q).1
        · cases hp
    · cases h
  · cases h
def iRg1 (f : EF) : IF := fun sl cs => match f sl cs with
  | some (.fr (.int n), c) => if decide (-(2 ^ 62) ≤ n) && decide (n < 2 ^ 62) then some ((List.range n.toNat).map fun i => .int (0 + (i : Nat)), [], c) else none
  | _ => none
def iRg2 (f g : EF) : IF := fun sl cs => match f sl cs with
  | some (.fr (.int n), c) => match g sl c with
    | some (.fr (.int m), c2) => if decide (-(2 ^ 62) ≤ n) && decide (n < 2 ^ 62) && decide (-(2 ^ 62) ≤ m) && decide (m < 2 ^ 62) then some ((List.range (m - n).toNat).map fun i => .int (n + (i : Nat)), [], c2) else none
    | _ => none
  | _ => none
/-- range(n, m, -1) -/
def iRg3 (f g : EF) : IF := fun sl cs => match f sl cs with
  | some (.fr (.int n), c) => match g sl c with
    | some (.fr (.int m), c2) => if decide (-(2 ^ 62) ≤ n) && decide (n < 2 ^ 62) && decide (-(2 ^ 62) ≤ m) && decide (m < 2 ^ 62) then some ((List.range (n - m).toNat).map fun i => .int (n + (i : Nat) * (-1)), [], c2) else none
    | _ => none
  | _ => none
/-- reversed(range(n)), reversed(range(n, m)) -/
def revR (n m : Int) : List PyData := (List.range (m - n).toNat).map fun i => .int (n + (((m - n).toNat : Nat) : Int) - 1 + (i : Nat) * (-1))
def iRev1 (f : EF) : IF := fun sl cs => match f sl cs with
  | some (.fr (.int m), c2) => if decide (-(2 ^ 62) ≤ m) && decide (m < 2 ^ 62) then some (revR 0 m, [], c2) else none
  | _ => none
def iRev2 (f g : EF) : IF := fun sl cs => match f sl cs with
  | some (.fr (.int n), c) => match g sl c with
    | some (.fr (.int m), c2) => if decide (-(2 ^ 62) ≤ n) && decide (n < 2 ^ 62) && decide (-(2 ^ 62) ≤ m) && decide (m < 2 ^ 62) then some (revR n m, [], c2) else none
    | _ => none
  | _ => none
def iEn (f : EF) : IF := fun sl cs => match f sl cs with
  | some (v, c1) => match lsG v c1 with
    | some (ds, g) => some (enumD ds, g, c1)
    | none => none
  | none => none
def iZi (f g : EF) : IF := fun sl cs => match f sl cs with
  | some (v, c1) => match g sl c1 with
    | some (w, c2) => match lsG v c2 with
      | some (ds, g1) => match lsG w c2 with
        | some (es, g2) => some (zipD ds es, g1 ++ g2, c2)
        | none => none
      | none => none
    | none => none
  | none => none
section
variable {X : Cx} {tg e a b : Expr} {p pos q1 q2 : Pos}
/-- a list, a tuple or a text, whichever comes -/
def iAny (K : PySem.W.Frag) (tl : TE) : TI := fun σ H R => tl σ H fun x H1 => (∃ a, x = .ref a ∧ (∃ xs, SqL K H1 a xs) ∧ R (Itl K a) H1) ∨ (∃ a, x = .ref a ∧ (∃ xs, SqT K H1 a xs) ∧ R (Itt K a) H1) ∨ ∃ z, x = .str z ∧ R (Its z) H1
theorem pi_any {tl : TE} (hl : PE X e tl) : PI X tg e (iAny X.K tl) := by
  refine ⟨fun pins s σ H R I h => thn (hl.run pins s σ H _ I h) fun v s1 ⟨x, H1, I1, r1, q1⟩ => ?_⟩
  rcases q1 with ⟨a, ex, ⟨xs, hq⟩, q⟩ | ⟨a, ex, ⟨xs, hq⟩, q⟩ | ⟨z, ex, q⟩
  · rw [ex] at r1
    cases r1
    obtain ⟨its, rv, pl, hz⟩ := I1.list hq
    exact wpAny_pyIter_list pl.isList (pi_one (tk := s1.toks) I1 _ (turn_list a _) ⟨_, Heap.get?_push_size _ rfl, rfl, rfl⟩ q)
  · rw [ex] at r1
    cases r1
    obtain ⟨its, rv, pl, hz⟩ := I1.tuple hq
    exact wpAny_pyIter_tuple (show s1.heap.IsTuple a its.toArray from pl) (pi_one (tk := s1.toks) I1 _ (turn_tuple a _) ⟨_, Heap.get?_push_size _ rfl, rfl, rfl⟩ q)
  · rw [ex] at r1
    obtain ⟨t, rfl⟩ := r1
    cases ha : z.cps.all (· < 128) with
    | false => exact wpAny_pyIter_wide ha (pi_one (tk := s1.toks) I1 _ (turn_str _ z t "str_iterator" (.inr rfl)) ⟨_, Heap.get?_push_size _ rfl, rfl, rfl⟩ q)
    | true => exact wpAny_pyIter_ascii ha (pi_one (tk := s1.toks) I1 _ (turn_str _ z t "str_ascii_iterator" (.inl rfl)) ⟨_, Heap.get?_push_size _ rfl, rfl, rfl⟩ q)
theorem pix_seq {f : EF} (h : PE X e (tD f)) : PI X tg e (tI (iSeq f)) := PI.to (pi_any h) fun σ H R ⟨B, F, ps, sl, cs, its, g, cs', r, hf, k⟩ => by
  unfold iSeq at hf
  split at hf
  · rename_i v c1 e1
    split at hf
    · rename_i ds g' e2
      cases hf
      refine ⟨B, F, ps, sl, cs, _, _, r, e1, fun x F1 p1 H1 x1 k1 r1 => ?_⟩
      unfold seqIt at e2
      split at e2
      · cases e2
        cases r1 with
        | lst q t => exact .inl ⟨_, rfl, ⟨_, SqL.of (k1.fH _ _ q)⟩, k _ _ _ _ x1 k1 (src_list fun F2 H2 s1 s2 _ => ⟨_, SqL.of (s2 _ _ (s1 _ _ q)), t.mono s1⟩)⟩
      · cases e2
        cases r1 with
        | tup q t => exact .inr (.inl ⟨_, rfl, ⟨_, SqT.of (k1.fH _ _ q)⟩, k _ _ _ _ x1 k1 (src_tup fun F2 H2 s1 s2 _ => ⟨_, SqT.of (s2 _ _ (s1 _ _ q)), t.mono s1⟩)⟩)
      · cases e2
        cases r1 with
        | str _ hz => exact .inr (.inr ⟨_, rfl, k _ _ _ _ x1 k1 (src_str hz)⟩)
      · split at e2
        · rename_i e3
          cases e2
          obtain ⟨ad, h1, ⟨vs, h2, h3⟩, _⟩ := k1.cell _ _ e3
          obtain ⟨b, q, rfl⟩ := r1
          rw [q] at h1
          cases h1
          refine .inl ⟨_, rfl, ⟨_, SqL.of h2⟩, k _ _ _ _ x1 k1 (src_list fun F2 H2 s1 s2 hg => ?_)⟩
          obtain ⟨a', vs', g1, g2, g3⟩ := hg _ (List.mem_cons_self ..)
          rw [q] at g1
          cases g1
          exact ⟨vs', SqL.of g2, g3⟩
        · cases e2
      · cases e2
    · cases hf
  · cases hf
theorem pix_rg1 {f : EF} (hm : X.mg "range" = none) (h : PE X e (tD f)) (hg : Gl X "range" := by rfl) (hs : starEach [e] X.env = [(false, eval e X.env)] := by rfl) : PI X tg (.Call (.Name "range" p) [e] [] pos) (tI (iRg1 f)) := PI.to (pi_range1 hg hm (pa_cons h pa_nil hs) hs) fun σ H R ⟨B, F, ps, sl, cs, its, g, cs', r, hf, k⟩ => by
  unfold iRg1 at hf
  split at hf
  · rename_i n c e1
    split at hf
    · rename_i hz
      cases hf
      rw [Bool.and_eq_true, decide_eq_true_eq, decide_eq_true_eq] at hz
      refine ⟨B, F, ps, sl, cs, _, _, r, e1, fun x F1 p1 H1 x1 k1 r1 => ?_⟩
      cases r1
      exact ⟨n, rfl, hz.1, hz.2, k _ _ _ _ x1 k1 src_range⟩
    · cases hf
  · cases hf
theorem pix_rg2 {f g : EF} (hm : X.mg "range" = none) (h : PE X a (tD f)) (h2 : PE X b (tD g)) (hg : Gl X "range" := by rfl) (hs : starEach [a, b] X.env = [(false, eval a X.env), (false, eval b X.env)] := by rfl) (hs2 : starEach [b] X.env = [(false, eval b X.env)] := by rfl)
    (hs3 : starEach [a, b] X.env = (false, eval a X.env) :: starEach [b] X.env := by rfl) : PI X tg (.Call (.Name "range" p) [a, b] [] pos) (tI (iRg2 f g)) := PI.to (pi_range2 hg hm (pa_cons h (pa_cons h2 pa_nil hs2) hs3) hs hs2) fun σ H R ⟨B, F, ps, sl, cs, its, gd, cs', r, hf, k⟩ => by
  unfold iRg2 at hf
  split at hf
  · rename_i n c e1
    split at hf
    · rename_i m c2 e2
      split at hf
      · rename_i hz
        cases hf
        simp only [Bool.and_eq_true, decide_eq_true_eq] at hz
        refine ⟨B, F, ps, sl, cs, _, _, r, e1, fun x F1 p1 H1 x1 k1 r1 => ⟨B, F1, p1, sl, _, _, _, r.go x1 k1, e2, fun y F2 p2 H2 x2 k2 r2 => ?_⟩⟩
        cases r1
        cases r2
        exact ⟨n, m, rfl, ⟨hz.1.1.1, hz.1.1.2, hz.1.2, hz.2⟩, k _ _ _ _ (x1.trans x2) k2 src_range⟩
      · cases hf
    · cases hf
  · cases hf
theorem pix_rg3 {f g : EF} {k0 : Nat} (hm : X.mg "range" = none) (h : PE X a (tD f)) (h2 : PE X b (tD g)) (hg : Gl X "range" := by rfl) (hs3 : starEach [a, b, .UnaryOp .USub (.Constant (.int 1) k0 q1) q2] X.env = (false, eval a X.env) :: starEach [b, .UnaryOp .USub (.Constant (.int 1) k0 q1) q2] X.env := by rfl)
    (hs4 : starEach [b, .UnaryOp .USub (.Constant (.int 1) k0 q1) q2] X.env = (false, eval b X.env) :: starEach [.UnaryOp .USub (.Constant (.int 1) k0 q1) q2] X.env := by rfl) (hpl : (backTo pos (starEach [b, .UnaryOp .USub (.Constant (.int 1) k0 q1) q2] X.env)).any (·.1) = false := by rfl) :
    PI X tg (.Call (.Name "range" p) [a, b, .UnaryOp .USub (.Constant (.int 1) k0 q1) q2] [] pos) (tI (iRg3 f g)) := PI.to (pi_range3 hg hm (pa_cons h (pa_cons h2 (pa_cons (pe_un un_neg pe_int) pa_nil (by rfl)) hs4) hs3) hs3 hpl) fun σ H R ⟨B, F, ps, sl, cs, its, gd, cs', r, hf, k⟩ => by
  unfold iRg3 at hf
  split at hf
  · rename_i n c e1
    split at hf
    · rename_i m c2 e2
      split at hf
      · rename_i hz
        cases hf
        simp only [Bool.and_eq_true, decide_eq_true_eq] at hz
        refine ⟨B, F, ps, sl, cs, _, _, r, e1, fun x F1 p1 H1 x1 k1 r1 => ⟨B, F1, p1, sl, _, _, _, r.go x1 k1, e2, fun y F2 p2 H2 x2 k2 r2 => ⟨1, rfl, ?_⟩⟩⟩
        cases r1
        cases r2
        exact ⟨n, m, -1, (n - m).toNat, rfl, RgC.neg hz.1.1.1 hz.1.1.2 hz.1.2 hz.2, k _ _ _ _ (x1.trans x2) k2 src_rangeC⟩
      · cases hf
    · cases hf
  · cases hf
theorem pix_rev1 {f : EF} (hm : X.mg "reversed" = none) (hmr : X.mg "range" = none) (h : PE X e (tD f)) (hg : Gl X "reversed" := by rfl) (hgr : Gl X "range" := by rfl) (na : starEach [e] X.env = (false, eval e X.env) :: starEach [] X.env := by rfl)
    (hs : starEach [.Call (.Name "range" q1) [e] [] q2] X.env = (false, eval (.Call (.Name "range" q1) [e] [] q2) X.env) :: starEach [] X.env := by rfl) : PI X tg (.Call (.Name "reversed" p) [.Call (.Name "range" q1) [e] [] q2] [] pos) (tI (iRev1 f)) := PI.to (pi_revR hg hm (prg_1 hgr hmr h na) hs) fun σ H R ⟨B, F, ps, sl, cs, its, gd, cs', r, hf, k⟩ => by
  unfold iRev1 at hf
  split at hf
  · rename_i n c e1
    split at hf
    · rename_i hz
      cases hf
      rw [Bool.and_eq_true, decide_eq_true_eq, decide_eq_true_eq] at hz
      refine ⟨B, F, ps, sl, cs, _, _, r, e1, fun x F1 p1 H1 x1 k1 r1 => ?_⟩
      cases r1
      exact ⟨n, rfl, by decide, by decide, hz.1, hz.2, k _ _ _ _ x1 k1 src_rangeC⟩
    · cases hf
  · cases hf
theorem pix_rev2 {f g : EF} (hm : X.mg "reversed" = none) (hmr : X.mg "range" = none) (h : PE X a (tD f)) (h2 : PE X b (tD g)) (hg : Gl X "reversed" := by rfl) (hgr : Gl X "range" := by rfl) (na : starEach [a, b] X.env = (false, eval a X.env) :: starEach [b] X.env := by rfl) (na3 : starEach [b] X.env = (false, eval b X.env) :: starEach [] X.env := by rfl) (hp : (backTo q2 (starEach [b] X.env)).any (·.1) = false := by rfl)
    (hs : starEach [.Call (.Name "range" q1) [a, b] [] q2] X.env = (false, eval (.Call (.Name "range" q1) [a, b] [] q2) X.env) :: starEach [] X.env := by rfl) : PI X tg (.Call (.Name "reversed" p) [.Call (.Name "range" q1) [a, b] [] q2] [] pos) (tI (iRev2 f g)) := PI.to (pi_revR hg hm (prg_2 hgr hmr h h2 na na3 (hp := hp)) hs) fun σ H R ⟨B, F, ps, sl, cs, its, gd, cs', r, hf, k⟩ => by
  unfold iRev2 at hf
  split at hf
  · rename_i n c e1
    split at hf
    · rename_i m c2 e2
      split at hf
      · rename_i hz
        cases hf
        simp only [Bool.and_eq_true, decide_eq_true_eq] at hz
        refine ⟨B, F, ps, sl, cs, _, _, r, e1, fun x F1 p1 H1 x1 k1 r1 => ⟨B, F1, p1, sl, _, _, _, r.go x1 k1, e2, fun y F2 p2 H2 x2 k2 r2 => ?_⟩⟩
        cases r1
        cases r2
        exact ⟨n, m, rfl, rfl, hz.1.1.1, hz.1.1.2, hz.1.2, hz.2, k _ _ _ _ (x1.trans x2) k2 src_rangeC⟩
      · cases hf
    · cases hf
  · cases hf
variable {elts : List Expr} {kk : Nat} {tpos : Pos}
theorem pix_enum {f : EF} (hm : X.mg "enumerate" = none) (h : PE X e (tD f)) (hg : Gl X "enumerate" := by rfl) (hs : starEach [e] X.env = [(false, eval e X.env)] := by rfl) : PI X (.Tuple elts kk tpos) (.Call (.Name "enumerate" p) [e] [] pos) (tI (iEn f)) := PI.to (pi_enum hg hm (pa_cons h pa_nil hs) hs) fun σ H R ⟨B, F, ps, sl, cs, its, gd, cs', r, hf, k⟩ => by
  unfold iEn at hf
  split at hf
  · rename_i v c1 e1
    split at hf
    · rename_i ds g' e2
      cases hf
      refine ⟨B, F, ps, sl, cs, _, _, r, e1, fun x F1 p1 H1 x1 k1 r1 => ?_⟩
      obtain ⟨ad, vs, h1, h2, h3, _⟩ := lsG_at X.K k1 r1 e2
      exact ⟨ad, vs, by rw [h1], SqL.of h2, k _ _ _ _ x1 k1 (src_enum fun F2 H2 s1 s2 hg => h3 _ (fun _ h => h) F2 H2 s1 s2 hg)⟩
    · cases hf
  · cases hf
theorem pix_zip {f g : EF} (hm : X.mg "zip" = none) (h : PE X a (tD f)) (h2 : PE X b (tD g)) (hg : Gl X "zip" := by rfl) (hs : starEach [a, b] X.env = (false, eval a X.env) :: starEach [b] X.env := by rfl) (hs2 : starEach [b] X.env = (false, eval b X.env) :: starEach [] X.env := by rfl) (hpl : (backTo pos (starEach [b] X.env)).any (·.1) = false := by rfl) :
    PI X (.Tuple elts kk tpos) (.Call (.Name "zip" p) [a, b] [] pos) (tI (iZi f g)) := PI.to (pi_zip hg hm (pa_cons h (pa_cons h2 pa_nil hs2) hs) hs hpl) fun σ H R ⟨B, F, ps, sl, cs, its, gd, cs', r, hf, k⟩ => by
  unfold iZi at hf
  split at hf
  · rename_i v c1 e1
    split at hf
    · rename_i w c2 e2
      split at hf
      · rename_i ds g1 e3
        split at hf
        · rename_i es g2 e4
          cases hf
          refine ⟨B, F, ps, sl, cs, _, _, r, e1, fun x F1 p1 H1 x1 k1 r1 => ⟨B, F1, p1, sl, _, _, _, r.go x1 k1, e2, fun y F2 p2 H2 x2 k2 r2 => ?_⟩⟩
          obtain ⟨ad, vs, h1, h2, h3, _⟩ := lsG_at X.K k2 (r1.mono x2) e3
          obtain ⟨bd, ws, g1', g2', g3, _⟩ := lsG_at X.K k2 r2 e4
          exact ⟨ad, bd, vs, ws, by rw [h1, g1'], SqL.of h2, SqL.of g2', k _ _ _ _ (x1.trans x2) k2 (src_zip fun F3 H3 s1 s2 hg => ⟨h3 _ (fun _ h => List.mem_append_left _ h) F3 H3 s1 s2 hg, g3 _ (fun _ h => List.mem_append_right _ h) F3 H3 s1 s2 hg⟩)⟩
        · cases hf
      · cases hf
    · cases hf
  · cases hf
end
end DX
set_option maxHeartbeats 1000000
/-! DX, eighth part: for, while, comprehensions, defs and their calls. -/
namespace DX
open PySem L2 PySem.Spec PyProof.Rows

/-! ### for -/
def drops : List Nat → Sl → Sl
  | [], sl => sl
  | w :: ws, sl => (drops ws sl).set w none
def keepV (n : Nat) : Option Val → Option Val
  | some (.ce c) => if c < n then some (.ce c) else none
  | v => v
/-- the slots ws forgotten, and those that hold a cell that goes -/
def fgt (ws : List Nat) (n : Nat) (sl : Sl) : Sl := (drops ws sl).map (keepV n)
def forD (tg : Tg) (g : Gd) (ws : List Nat) (n : Nat) (body : SF) : List PyData → SF
  | [], sl, cs => if gChk g cs = true then some (.nxt sl cs) else none
  | d :: ds, sl, cs => if gChk g cs = true then match tg.d d sl with
    | some sl1 => match body sl1 cs with
      | some (.nxt sl2 cs2) => forD tg g ws n body ds (fgt ws n sl2) (cs2.take n)
      | some (.cnt sl2 cs2) => forD tg g ws n body ds (fgt ws n sl2) (cs2.take n)
      | some (.brk sl2 cs2) => some (.nxt (fgt ws n sl2) (cs2.take n))
      | r => r
    | none => none
    else none
def sFor (i : IF) (tg : Tg) (ws : List Nat) (body : SF) : SF := fun sl cs => match i sl cs with
  | some (its, g, c1) => forD tg g ws c1.length body its sl c1
  | none => none
theorem drops_len (ws : List Nat) (sl : Sl) : (drops ws sl).length = sl.length := by
  induction ws with
  | nil => rfl
  | cons w ws ih =>
    unfold drops
    rw [List.length_set, ih]
theorem drops_ok {F : Hp} {ps : List Addr} {sl : Sl} {σ : L2.St} (h : SOk F ps sl σ) : ∀ ws : List Nat, SOk F ps (drops ws sl) σ
  | [] => h
  | w :: ws => by
    unfold drops
    exact (drops_ok h ws).drop w
theorem fgt_ok {F : Hp} {ps : List Addr} {sl : Sl} {σ : L2.St} (h : SOk F ps sl σ) (ws : List Nat) (n : Nat) : SOk F (ps.take n) (fgt ws n sl) σ := fun i v e => by
  unfold fgt at e
  rw [List.getElem?_map] at e
  cases q : (drops ws sl)[i]? with
  | none =>
    rw [q] at e
    cases e
  | some u =>
    rw [q] at e
    have e' : keepV n u = some v := Option.some.inj e
    unfold keepV at e'
    split at e'
    · rename_i c
      split at e'
      · rename_i hc
        cases e'
        obtain ⟨x, h1, a, h2, h3⟩ := drops_ok h ws i _ q
        exact ⟨x, h1, a, by rw [List.getElem?_take_of_lt hc]; exact h2, h3⟩
      · cases e'
    · rename_i hn
      subst e'
      obtain ⟨x, h1, h2⟩ := drops_ok h ws i _ q
      refine ⟨x, h1, ?_⟩
      cases v with
      | fr d => exact h2
      | ce c => exact (hn c rfl).elim
      | ex a dd f d => exact h2
theorem fgt_len (ws : List Nat) (n : Nat) (sl : Sl) : (fgt ws n sl).length = sl.length := by
  unfold fgt
  rw [List.length_map, drops_len]
theorem take_pre {α : Type} {p q : List α} (h : p <+: q) : q.take p.length = p := by
  obtain ⟨t, rfl⟩ := h
  rw [List.take_append, List.take_of_length_le (Nat.le_refl _), Nat.sub_self, List.take_zero, List.append_nil]
/-- behind a turn -/
theorem Rdy.turned {B : Base} {F F' H H' : Hp} {ps ps' : List Addr} {cs cs' : Cs} {sl' : Sl} {σ' : L2.St} (k : COk B F ps cs H) (r : Rdy (B.at F ps) F' ps' sl' cs' σ' H') (ws : List Nat) {n : Nat} (hn : ps.length = n) : Rdy B F' ps (fgt ws n sl') (cs'.take n) σ' H' := by
  have r2 := Rdy.up k r
  have e : ps'.take n = ps := by
    rw [← hn]
    exact take_pre r.c.pre
  have hb : B.p0.length ≤ n := by
    rw [← hn]
    exact k.pre.length_le
  have k2 := r2.c.trunc n hb
  have s2 := fgt_ok r2.s ws n
  rw [e] at k2 s2
  exact ⟨k2, s2, by rw [fgt_len]; exact r2.l⟩
section
variable {X : Cx} {mg : Str → Option Value} {W : WX} {tg iter e c : Expr} {body : List Stmt} {pos : Pos}
theorem src_turn {J : It} {its : List PyData} {F1 F2 H2 H' : Hp} {B : Base} {p1 : List Addr} {g : Gd} {sl : Sl} {cs : Cs} {σ : L2.St} {i : Nat} {d : PyData} {x : V} (src : Src J its F1 (GOk g p1)) (r2 : Rdy B F2 p1 sl cs σ H2) (s2 : Same F1 F2) (hg : gChk g cs = true) (hd : its[i]? = some d) (y : J.yld i H2 x H') :
    ∃ F3, Rdy (B.at F2 p1) F3 p1 sl cs σ H' ∧ Rp F3 x d := by
  rcases src.yld i d F2 H2 x H' s2 r2.c.fH (gChk_ok r2.c hg) hd y with ⟨rfl, rx⟩ | ⟨T, o, hT, rfl, rx⟩
  · exact ⟨F2, r2.down, rx⟩
  · exact ⟨_, r2.down.go (ext_newF r2.c hT o) (r2.c.down.newF hT o), rx _ upd_same (same_newF r2.c hT o)⟩
theorem for_d (K : PySem.W.Frag) {i : IF} {t : Tg} {ws : List Nat} {f : SF} : ∀ D σ H, tS mg W (sFor i t ws f) D σ H → tFor (tI i) (t.g K) (tS mg W f) D σ H := fun D σ H ⟨B, F, ps, sl, cs, o, r, hf, k⟩ => by
  unfold sFor at hf
  split at hf
  · rename_i its g c1 e1
    refine ⟨B, F, ps, sl, cs, its, g, c1, r, e1, fun J F1 p1 H1 x1 k1 src => ?_⟩
    have hn : p1.length = c1.length := k1.len
    generalize c1.length = n at hf hn
    refine ⟨fun i m σ H => ∃ F sl cs, Rdy B F p1 sl cs σ H ∧ Same F1 F ∧ forD t g ws n f (its.drop i) sl cs = some o ∧ m = its.length - i ∧ i ≤ its.length, ⟨its.length, F1, sl, c1, r.go x1 k1, Same.refl _, hf, rfl, Nat.zero_le _⟩, ?_⟩
    rintro i m σ2 H2 ⟨F2, sl2, cs2, r2, s2, h2, rfl, hi⟩
    by_cases hlt : i < its.length
    · right
      rw [List.drop_eq_getElem_cons hlt] at h2
      unfold forD at h2
      split at h2
      · rename_i hg
        have hd : its[i]? = some its[i] := List.getElem?_eq_getElem hlt
        refine ⟨src.go i _ F2 H2 s2 r2.c.fH (gChk_ok r2.c hg) hd, fun σ' H' => ∃ F' sl' cs', Rdy B F' p1 sl' cs' σ' H' ∧ Same F1 F' ∧ forD t g ws n f (its.drop (i + 1)) sl' cs' = some o,
          fun σ' H' ⟨F', sl', cs', a, b, c⟩ => ⟨its.length - (i + 1), by omega, F', sl', cs', a, b, c, rfl, hlt⟩, fun x H' y => ?_⟩
        obtain ⟨F3, r3, rx⟩ := src_turn src r2 s2 hg hd y
        split at h2
        · rename_i sl3 e3
          refine tg_ok K r3.c.fH rx e3 r3.s r3.l fun σ3 a b _ => ?_
          have r4 : Rdy (B.at F2 p1) F3 p1 sl3 cs2 σ3 H' := ⟨r3.c, a, b⟩
          split at h2
          · rename_i sl4 cs4 e4
            exact ⟨B.at F2 p1, F3, p1, sl3, cs2, _, r4, e4, fun F5 p5 σ5 H5 r5 => ⟨F5, _, _, Rdy.turned r2.c r5 ws hn, s2.trans r5.c.f0, h2⟩⟩
          · rename_i sl4 cs4 e4
            exact ⟨B.at F2 p1, F3, p1, sl3, cs2, _, r4, e4, fun F5 p5 σ5 H5 r5 => ⟨F5, _, _, Rdy.turned r2.c r5 ws hn, s2.trans r5.c.f0, h2⟩⟩
          · rename_i sl4 cs4 e4
            cases h2
            exact ⟨B.at F2 p1, F3, p1, sl3, cs2, _, r4, e4, fun F5 p5 σ5 H5 r5 => k F5 p1 σ5 H5 (Rdy.turned r2.c r5 ws hn)⟩
          · rename_i o' n1 n2 n3
            refine ⟨B.at F2 p1, F3, p1, sl3, cs2, o, r4, h2, ?_⟩
            cases o with
            | nxt a b => exact (n1 _ _ h2).elim
            | cnt a b => exact (n2 _ _ h2).elim
            | brk a b => exact (n3 _ _ h2).elim
            | ret v b => exact fun x F5 p5 H5 k5 r5 => k x F5 p5 H5 (r2.c.up k5) r5
            | exc x f d a b => exact fun F5 p5 σ5 H5 cls dd r5 ex => k F5 p5 σ5 H5 cls dd (Rdy.up r2.c r5) ex
        · cases h2
      · cases h2
    · left
      have e : i = its.length := by omega
      subst e
      rw [List.drop_length] at h2
      unfold forD at h2
      split at h2
      · rename_i hg
        cases h2
        exact ⟨src.stop F2 H2 s2 r2.c.fH (gChk_ok r2.c hg), k F2 p1 σ2 H2 r2⟩
      · cases h2
  · cases hf
theorem pxs_for {i : IF} {t : Tg} {f : SF} (hp : PassesOwn (model X.prog X.w) X.A X.env X.xe) (hc : X.calm = true) (hi : PI X tg iter (tI i)) (hg : PG X tg (t.g X.K)) (hb : PSs X body (tS mg W f)) (ws : List Nat)
    (hs : ∀ x, foldedSetIterable iter X.env x = pure x := by intro _; rfl) : PS X (.For tg iter body [] pos) (tS mg W (sFor i t ws f)) := PS.to (ps_for hp hc hi hg hb hs) (for_d X.K)

/-! ### while -/
def whD (c : BF) (ws : List Nat) (n : Nat) (body : SF) : Nat → SF
  | 0, _, _ => none
  | k + 1, sl, cs => match c sl cs with
    | some (true, c1) => match body sl c1 with
      | some (.nxt sl2 cs2) => whD c ws n body k (fgt ws n sl2) (cs2.take n)
      | some (.cnt sl2 cs2) => whD c ws n body k (fgt ws n sl2) (cs2.take n)
      | some (.brk sl2 cs2) => some (.nxt (fgt ws n sl2) (cs2.take n))
      | r => r
    | some (false, c1) => some (.nxt sl (c1.take n))
    | none => none
open Classical in
noncomputable def sWh (c : BF) (ws : List Nat) (body : SF) : SF := fun sl cs => if h : ∃ k o, whD c ws cs.length body k sl cs = some o then some (choose (choose_spec h)) else none
theorem whD_mono {c : BF} {ws : List Nat} {n : Nat} {body : SF} : ∀ {k m : Nat} {sl : Sl} {cs : Cs} {o : Out}, whD c ws n body k sl cs = some o → k ≤ m → whD c ws n body m sl cs = some o
  | 0, _, _, _, _, h, _ => by simp [whD] at h
  | k + 1, 0, _, _, _, _, h => absurd h (by omega)
  | k + 1, m + 1, sl, cs, o, h, hm => by
    unfold whD at h ⊢
    split at h
    · rename_i c1 e1
      split at h
      · exact whD_mono h (by omega)
      · exact whD_mono h (by omega)
      · exact h
      · exact h
    · exact h
    · cases h
theorem sWh_is {c : BF} {ws : List Nat} {body : SF} {k : Nat} {sl : Sl} {cs : Cs} {o : Out} (h : whD c ws cs.length body k sl cs = some o) : sWh c ws body sl cs = some o := by
  have hx : ∃ k o, whD c ws cs.length body k sl cs = some o := ⟨k, o, h⟩
  unfold sWh
  rw [dif_pos hx]
  have h1 := Classical.choose_spec (Classical.choose_spec hx)
  have h2 := whD_mono h1 (Nat.le_max_left _ k)
  have h3 := whD_mono h (Nat.le_max_right (Classical.choose hx) k)
  rw [h2] at h3
  exact h3
theorem sWh_of {c : BF} {ws : List Nat} {body : SF} {sl : Sl} {cs : Cs} {o : Out} (h : sWh c ws body sl cs = some o) : ∃ k, whD c ws cs.length body k sl cs = some o := by
  unfold sWh at h
  split at h
  · rename_i hx
    have h1 := Classical.choose_spec (Classical.choose_spec hx)
    cases h
    exact ⟨_, h1⟩
  · cases h
theorem while_d {b : BF} {ws : List Nat} {f : SF} : ∀ D σ H, tS mg W (sWh b ws f) D σ H → tWhile (tT b) (tS mg W f) D σ H := fun D σ H ⟨B, F, ps, sl, cs, o, r, hf, k⟩ => by
  obtain ⟨fuel, hf⟩ := sWh_of hf
  have hn : ps.length = cs.length := r.c.len
  generalize cs.length = n at hf hn
  refine ⟨fun m σ H => ∃ F sl cs, Rdy B F ps sl cs σ H ∧ whD b ws n f m sl cs = some o, ⟨fuel, F, sl, cs, r, hf⟩, ?_⟩
  rintro m σ2 H2 ⟨F2, sl2, cs2, r2, h2⟩
  cases m with
  | zero => simp [whD] at h2
  | succ m =>
    unfold whD at h2
    split at h2
    · rename_i c1 e1
      refine ⟨B.at F2 ps, F2, ps, sl2, cs2, true, c1, r2.down, e1, fun F3 p3 H3 x3 k3 => iteT ?_⟩
      refine ⟨fun σ' H' => ∃ F' sl' cs', Rdy B F' ps sl' cs' σ' H' ∧ whD b ws n f m sl' cs' = some o, fun σ' H' ⟨F', sl', cs', a, c⟩ => ⟨m, Nat.lt_succ_self m, F', sl', cs', a, c⟩, ?_⟩
      have r4 : Rdy (B.at F2 ps) F3 p3 sl2 c1 σ2 H3 := r2.down.go x3 k3
      split at h2
      · rename_i sl4 cs4 e4
        exact ⟨B.at F2 ps, F3, p3, sl2, c1, _, r4, e4, fun F5 p5 σ5 H5 r5 => ⟨F5, _, _, Rdy.turned r2.c r5 ws hn, h2⟩⟩
      · rename_i sl4 cs4 e4
        exact ⟨B.at F2 ps, F3, p3, sl2, c1, _, r4, e4, fun F5 p5 σ5 H5 r5 => ⟨F5, _, _, Rdy.turned r2.c r5 ws hn, h2⟩⟩
      · rename_i sl4 cs4 e4
        cases h2
        exact ⟨B.at F2 ps, F3, p3, sl2, c1, _, r4, e4, fun F5 p5 σ5 H5 r5 => k F5 ps σ5 H5 (Rdy.turned r2.c r5 ws hn)⟩
      · rename_i o' n1 n2 n3
        refine ⟨B.at F2 ps, F3, p3, sl2, c1, o, r4, h2, ?_⟩
        cases o with
        | nxt a b => exact (n1 _ _ h2).elim
        | cnt a b => exact (n2 _ _ h2).elim
        | brk a b => exact (n3 _ _ h2).elim
        | ret v b => exact fun x F5 p5 H5 k5 r5 => k x F5 p5 H5 (r2.c.up k5) r5
        | exc x f d a b => exact fun F5 p5 σ5 H5 cls dd r5 ex => k F5 p5 σ5 H5 cls dd (Rdy.up r2.c r5) ex
    · rename_i c1 e1
      cases h2
      refine ⟨B.at F2 ps, F2, ps, sl2, cs2, false, c1, r2.down, e1, fun F3 p3 H3 x3 k3 => iteF ?_⟩
      have k4 := (r2.c.up k3).trunc n (by rw [← hn]; exact r2.c.pre.length_le)
      have e : p3.take n = ps := by
        rw [← hn]
        exact take_pre x3.p
      rw [e] at k4
      exact k F3 ps σ2 H3 ⟨k4, r2.s.mono ⟨x3.f, List.prefix_refl _⟩, r2.l⟩
    · cases h2
theorem pxs_wh {b : BF} {f : SF} (hp : PassesOwn (model X.prog X.w) X.A X.env X.xe) (hc : PT X c (tT b)) (hb : PSs X body (tS mg W f)) (ws : List Nat) : PS X (.While c body [] pos) (tS mg W (sWh b ws f)) := PS.to (ps_while hp hc hb) while_d

/-! ### comprehensions -/
def wp (vs : List Nat) (sl : Sl) : Sl := drops vs sl
def lcD (tg : Tg) (g : Gd) (n : Nat) (cond : BF) (elt : EF) (sl : Sl) : List PyData → Cs → Option (List PyData × Cs)
  | [], cs => if gChk g cs = true then some ([], cs) else none
  | d :: ds, cs => if gChk g cs = true then match tg.d d sl with
    | some sl1 => match cond sl1 cs with
      | some (true, c1) => match elt sl1 c1 with
        | some (v, c2) => match fzV v c2 with
          | some (e, c3) => match lcD tg g n cond elt sl ds (c3.take n) with
            | some (es, c4) => some (e :: es, c4)
            | none => none
          | none => none
        | none => none
      | some (false, c1) => lcD tg g n cond elt sl ds (c1.take n)
      | none => none
    | none => none
    else none
def dLc (i : IF) (tg : Tg) (vs : List Nat) (cond : BF) (elt : EF) : LF := fun sl cs => match i sl cs with
  | some (its, g, c1) => if its.length ≤ 16777216 then lcD tg g c1.length cond elt (wp vs sl) its c1 else none
  | none => none
def bYes : BF := fun _ cs => some (true, cs)
theorem wp_ok {F : Hp} {ps : List Addr} {sl : Sl} {σ : L2.St} (h : SOk F ps sl σ) (hl : sl.length = σ.length) : ∀ vs : List Nat, SOk F ps (wp vs sl) (wipe σ vs)
  | [] => h
  | v :: vs => by
    unfold wp drops wipe
    intro i w q
    by_cases e : v = i
    · subst e
      by_cases hi : v < (drops vs sl).length
      · rw [List.getElem?_set_self hi] at q
        cases q
      · rw [List.getElem?_eq_none (by simpa using hi)] at q
        cases q
    · rw [List.getElem?_set_ne e] at q ⊢
      exact wp_ok h hl vs i w q
def Base.gd (B : Base) (D : Addr) (o : HO) : Base := ⟨upd B.R D o, B.F0, B.p0⟩
theorem gd_self {B : Base} {D : Addr} {o : HO} : (B.gd D o).R D = some o := upd_same
theorem gd_ne {B : Base} {D a : Addr} {o : HO} (h : a ≠ D) : (B.gd D o).R a = B.R a := upd_ne h
theorem COk.guard {B : Base} {F H : Hp} {ps : List Addr} {cs : Cs} (k : COk B F ps cs H) {D : Addr} (h : H D = none) (o : HO) : COk (B.gd D o) F ps cs (upd H D o) where
  fH := fun a u e => by
    rw [upd_ne (ne_of_none e (k.fresh h).1)]
    exact k.fH a u e
  rH := fun a u e => by
    by_cases q : a = D
    · subst q
      rw [gd_self] at e
      rw [upd_same]
      exact e
    · rw [gd_ne q] at e
      rw [upd_ne q]
      exact k.rH a u e
  f0 := k.f0
  out := fun a r => by
    by_cases q : a = D
    · subst q
      exact (k.fresh h).1.trans ((k.f0.trans k.fH).free h).symm
    · rw [gd_ne q] at r
      exact k.out a r
  pre := k.pre
  len := k.len
  cell := fun c x e => by
    obtain ⟨a, h1, h2, h3, h4⟩ := k.cell c x e
    obtain ⟨u, hu⟩ := h2.there
    have q : a ≠ D := ne_of_none hu h
    exact ⟨a, h1, h2.mono (Same.refl F) (fun v e => by rw [upd_ne q]; exact e), h3, by rw [gd_ne q]; exact h4⟩
  inj := k.inj
theorem COk.ungd {B : Base} {F H : Hp} {ps : List Addr} {cs : Cs} {D : Addr} {o : HO} (k : COk (B.gd D o) F ps cs H) (hR : B.R D = none) (hF : B.F0 D = none) : F D = none ∧ H D = some o ∧ COk B F ps cs (fun b => if b = D then none else H b) := by
  have hD : H D = some o := k.rH D o gd_self
  have fD : F D = none := (k.out D (by rw [gd_self]; simp)).trans hF
  refine ⟨fD, hD, ⟨fun a u e => ?_, fun a u e => ?_, k.f0, fun a r => ?_, k.pre, k.len, fun c x e => ?_, k.inj⟩⟩
  · show (if a = D then none else H a) = some u
    rw [if_neg (ne_of_none e fD)]
    exact k.fH a u e
  · have q : a ≠ D := ne_of_none e hR
    show (if a = D then none else H a) = some u
    rw [if_neg q]
    exact k.rH a u (by rw [gd_ne q]; exact e)
  · have q : a ≠ D := fun z => by
      subst z
      exact r hR
    exact k.out a (by rw [gd_ne q]; exact r)
  · obtain ⟨a, h1, h2, h3, h4⟩ := k.cell c x e
    have q : a ≠ D := fun z => by
      subst z
      rw [gd_self] at h4
      cases h4
    refine ⟨a, h1, h2.mono (Same.refl F) (fun v e => ?_), h3, by rw [gd_ne q] at h4; exact h4⟩
    show (if a = D then none else H a) = some v
    rw [if_neg q]
    exact e
theorem COk.regd {B : Base} {F H : Hp} {ps : List Addr} {cs : Cs} {D : Addr} {o o' : HO} (k : COk (B.gd D o) F ps cs H) (hR : B.R D = none) (hF : B.F0 D = none) : COk (B.gd D o') F ps cs (upd H D o') := by
  obtain ⟨h1, h2, h3⟩ := k.ungd hR hF
  have := h3.guard (D := D) (if_pos rfl) o'
  have e : upd (fun b => if b = D then none else H b) D o' = upd H D o' := by
    funext b
    unfold upd
    by_cases q : b = D
    · rw [if_pos q, if_pos q]
    · rw [if_neg q, if_neg q]
      exact if_neg q
  rw [e] at this
  exact this
theorem wipe_get {σ : L2.St} {i : Nat} : ∀ {vs : List Nat}, (wipe σ vs)[i]? = if i ∈ vs then (σ[i]?).map (fun _ => none) else σ[i]?
  | [] => by
    rw [if_neg (by simp)]
    rfl
  | v :: vs => by
    unfold wipe
    by_cases e : v = i
    · subst e
      rw [if_pos (List.mem_cons_self ..), List.getElem?_set]
      rw [if_pos rfl, wipe_length]
      by_cases h : v < σ.length
      · rw [if_pos h, List.getElem?_eq_getElem h]
        rfl
      · rw [if_neg h, List.getElem?_eq_none (Nat.le_of_not_lt h)]
        rfl
    · rw [List.getElem?_set_ne e, wipe_get]
      by_cases m : i ∈ vs
      · rw [if_pos m, if_pos (List.mem_cons_of_mem _ m)]
      · rw [if_neg m, if_neg (fun z => by rcases List.mem_cons.mp z with z | z; exact e z.symm; exact m z)]
theorem wipe_idem (σ : L2.St) (vs : List Nat) : wipe (wipe σ vs) vs = wipe σ vs := by
  apply List.ext_getElem?
  intro i
  rw [wipe_get, wipe_get]
  by_cases m : i ∈ vs
  · rw [if_pos m, if_pos m]
    cases σ[i]? <;> rfl
  · rw [if_neg m, if_neg m]
theorem lc_d (K : PySem.W.Frag) {i : IF} {t : Tg} {vs : List Nat} {cond : BF} {elt : EF} (hv : ∀ j ∈ t.ix, j ∈ vs) : ∀ σ H Q, tL (dLc i t vs cond elt) σ H Q → tLc (tI i) (t.g K) (tT cond) (tD elt) vs σ H Q := fun σ H Q ⟨B, F, ps, sl, cs, ds, cs', r, hf, k⟩ => by
  unfold dLc at hf
  split at hf
  · rename_i its g c1 e1
    split at hf
    · rename_i hz
      refine ⟨B, F, ps, sl, cs, its, g, c1, r, e1, fun J F1 p1 H1 x1 k1 src D hD => ?_⟩
      have hn : p1.length = c1.length := k1.len
      generalize c1.length = n at hf hn
      have hRD := (k1.fresh hD).2
      have hFD : B.F0 D = none := (k1.f0.trans k1.fH).free hD
      have sw : SOk F1 p1 (wp vs sl) (wipe σ vs) := (wp_ok r.s r.l vs).mono x1
      have lw : (wp vs sl).length = (wipe σ vs).length := by
        show (drops vs sl).length = _
        rw [drops_len, wipe_length]
        exact r.l
      refine ⟨fun i m H => ∃ F2 cs2 accV acc es, COk (B.gd D (.lst accV)) F2 p1 cs2 H ∧ Same F1 F2 ∧ RpAll F2 accV acc ∧ acc.length ≤ i ∧ lcD t g n cond elt (wp vs sl) (its.drop i) cs2 = some (es, cs') ∧ acc ++ es = ds ∧ m = its.length - i ∧ i ≤ its.length,
        ⟨its.length, F1, c1, [], [], ds, k1.guard hD _, Same.refl _, .nil, Nat.zero_le _, hf, rfl, rfl, Nat.zero_le _⟩, ?_⟩
      rintro i m H2 ⟨F2, cs2, accV, acc, es, k2, s2, ra, la, h2, ea, rfl, hi⟩
      by_cases hlt : i < its.length
      · right
        rw [List.drop_eq_getElem_cons hlt] at h2
        unfold lcD at h2
        split at h2
        · rename_i hg
          have hd : its[i]? = some its[i] := List.getElem?_eq_getElem hlt
          have r2 : Rdy (B.gd D (.lst accV)) F2 p1 (wp vs sl) cs2 (wipe σ vs) H2 := ⟨k2, sw.mono ⟨s2, List.prefix_refl _⟩, lw⟩
          refine ⟨src.go i _ F2 H2 s2 k2.fH (gChk_ok k2 hg) hd, fun H' => ∃ F2 cs2 accV acc es, COk (B.gd D (.lst accV)) F2 p1 cs2 H' ∧ Same F1 F2 ∧ RpAll F2 accV acc ∧ acc.length ≤ i + 1 ∧ lcD t g n cond elt (wp vs sl) (its.drop (i + 1)) cs2 = some (es, cs') ∧ acc ++ es = ds,
            fun H' ⟨a1, a2, a3, a4, a5, b1, b2, b3, b4, b5, b6⟩ => ⟨its.length - (i + 1), by omega, a1, a2, a3, a4, a5, b1, b2, b3, b4, b5, b6, rfl, hlt⟩, fun x H' y => ?_⟩
          obtain ⟨F3, r3, rx⟩ := src_turn src r2 s2 hg hd y
          split at h2
          · rename_i sl3 e3
            refine tg_ok K r3.c.fH rx e3 r3.s r3.l fun σ3 a b w => ⟨(w vs hv).trans (wipe_idem σ vs), ?_⟩
            have r4 : Rdy (Base.at (B.gd D (.lst accV)) F2 p1) F3 p1 sl3 cs2 σ3 H' := ⟨r3.c, a, b⟩
            have back : ∀ {F5 p5 cs5 H5}, COk (Base.at (B.gd D (.lst accV)) F2 p1) F5 p5 cs5 H5 → COk (B.gd D (.lst accV)) F5 p1 (cs5.take n) H5 := fun {F5 p5 cs5 H5} k5 => by
              have k6 := (k2.up k5).trunc n (by rw [← hn]; exact k2.pre.length_le)
              have e : p5.take n = p1 := by
                rw [← hn]
                exact take_pre k5.pre
              rw [e] at k6
              exact k6
            split at h2
            · rename_i c3 e4
              split at h2
              · rename_i v c4 e5
                split at h2
                · rename_i d c5 e6
                  split at h2
                  · rename_i es' c6 e7
                    cases h2
                    refine ⟨_, F3, p1, sl3, cs2, true, c3, r4, e4, fun F5 p5 H5 x5 k5 => iteT ⟨_, F5, p5, sl3, c3, v, c4, r4.go x5 k5, e5, fun yv F6 p6 H6 x6 k6 r6 => ?_⟩⟩
                    obtain ⟨F7, x7, k7, r7⟩ := fz_at k6 r6 e6
                    have k8 := back k7
                    obtain ⟨z1, z2, z3⟩ := k8.ungd hRD hFD
                    refine ⟨accV, z2, by rw [ra.length, sizeLine_eq]; omega, F7, _, accV ++ [yv], acc ++ [d], es', k8.regd hRD hFD, s2.trans k7.f0, (ra.mono k7.f0).append (.cons r7 .nil), ?_, e7, by rw [List.append_assoc]; exact ea⟩
                    rw [List.length_append, List.length_singleton]
                    omega
                  · cases h2
                · cases h2
              · cases h2
            · rename_i c3 e4
              refine ⟨_, F3, p1, sl3, cs2, false, c3, r4, e4, fun F5 p5 H5 x5 k5 => iteF ?_⟩
              exact ⟨F5, _, accV, acc, es, back k5, s2.trans k5.f0, ra.mono k5.f0, by omega, h2, ea⟩
            · cases h2
          · cases h2
        · cases h2
      · left
        have e : i = its.length := by omega
        subst e
        rw [List.drop_length] at h2
        unfold lcD at h2
        split at h2
        · rename_i hg
          cases h2
          rw [List.append_nil] at ea
          subst ea
          obtain ⟨z1, z2, z3⟩ := k2.ungd hRD hFD
          refine ⟨src.stop F2 H2 s2 k2.fH (gChk_ok k2 hg), ?_⟩
          have q := k D accV F2 p1 _ (x1.trans ⟨s2, List.prefix_refl _⟩) z3 (if_pos rfl) ra
          have e : upd (fun b => if b = D then none else H2 b) D (.lst accV) = H2 := by
            funext b
            unfold upd
            by_cases q : b = D
            · subst q
              rw [if_pos rfl, z2]
            · rw [if_neg q]
              exact if_neg q
          rw [e] at q
          exact q
        · cases h2
    · cases hf
  · cases hf
theorem pts_no : PTs X [] (tT bYes) := ⟨fun pins s σ H Q I ⟨B, F, ps, sl, cs, b, cs', r, hf, k⟩ => by
  cases hf
  exact pts_nil.run pins s σ H Q I (k _ _ _ Ext.refl r.c)⟩
theorem pl_lc {elt tg iter : Expr} {ifs : List Expr} {scope : Scope} {own : List (Str × Nat)} {i : IF} {t : Tg} {cond : BF} {f : EF} (hc : X.calm = true) (hN : X.N.Nodup) (hi : PI X tg iter (tI i)) (ok : BlkOk X.N X.env.scope scope own)
    (hg : ∀ (s : Shared) (H : Hp) (C : Addr) (cl : List (Str × Addr)) (fp : List Addr), PG (X.blk s H scope (compEnvC scope cl C X.env) fp) tg (t.g X.K)) (ht : ∀ (s : Shared) (H : Hp) (C : Addr) (cl : List (Str × Addr)) (fp : List Addr), PTs (X.blk s H scope (compEnvC scope cl C X.env) fp) ifs (tT cond))
    (he : ∀ (s : Shared) (H : Hp) (C : Addr) (cl : List (Str × Addr)) (fp : List Addr), PE (X.blk s H scope (compEnvC scope cl C X.env) fp) elt (tD f)) (hv : ∀ j ∈ t.ix, j ∈ own.map (·.2)) (hs : ∀ x, foldedSetIterable iter X.env x = pure x := by intro _; rfl) :
    PE X (.ListComp elt [⟨tg, iter, ifs, 0⟩] scope pos) (tL (dLc i t (own.map (·.2)) cond f)) := PE.to (pe_lc hc hN hi ok hg ht he hs) (lc_d X.K hv)
theorem fz_d {f : LF} : ∀ σ H Q, tD (dFz f) σ H Q → tL f σ H Q := fun σ H Q ⟨B, F, ps, sl, cs, v, cs', r, hf, k⟩ => by
  unfold dFz at hf
  split at hf
  · rename_i ds cs2 e
    cases hf
    exact ⟨B, F, ps, sl, cs, ds, _, r, e, fun p vs F' ps' H' ex ck hp ra => k _ _ _ _ (ex.trans (ext_newF ck hp (.lst vs))) (ck.newF hp (.lst vs)) (.lst upd_same (ra.mono (same_newF ck hp _)))⟩
  · cases hf
theorem ce_d {f : LF} : ∀ σ H Q, tD (dCe f) σ H Q → tL f σ H Q := fun σ H Q ⟨B, F, ps, sl, cs, v, cs', r, hf, k⟩ => by
  unfold dCe at hf
  split at hf
  · rename_i ds cs2 e
    cases hf
    refine ⟨B, F, ps, sl, cs, ds, cs2, r, e, fun p vs F' ps' H' ex ck hp ra => k _ _ _ _ (ex.trans ⟨Same.refl _, List.prefix_append ps' [p]⟩) (ck.newC hp ⟨vs, upd_same, ra⟩) ⟨p, ?_, rfl⟩⟩
    rw [← ck.len, List.getElem?_append_right (Nat.le_refl _), Nat.sub_self]
    rfl
  · cases hf
theorem pxs_setLc {j : Nat} {y : Str} {py : Pos} {elt tg iter : Expr} {ifs : List Expr} {scope : Scope} {own : List (Str × Nat)} {spos : Pos} {i : IF} {t : Tg} {cond : BF} {f : EF} {h : LF → EF} (hh : ∀ (l : LF) σ H Q, tD (h l) σ H Q → tL l σ H Q) (hc : X.calm = true) (hN : X.N.Nodup) (hy : X.N[j]? = some y) (hyl : X.env.scope.names.lookup y = some .local)
    (hsw : swapsWith (.ListComp elt [⟨tg, iter, ifs, 0⟩] scope pos) (some (.Name y py)) spos.line X.env = pure true) (hi : PI X tg iter (tI i)) (ok : BlkOk X.N X.env.scope scope own)
    (hg : ∀ (s : Shared) (H : Hp) (C : Addr) (cl : List (Str × Addr)) (fp : List Addr), PG (X.blk s H scope (compEnvC scope cl C X.env) fp) tg (t.g X.K)) (ht : ∀ (s : Shared) (H : Hp) (C : Addr) (cl : List (Str × Addr)) (fp : List Addr), PTs (X.blk s H scope (compEnvC scope cl C X.env) fp) ifs (tT cond))
    (he : ∀ (s : Shared) (H : Hp) (C : Addr) (cl : List (Str × Addr)) (fp : List Addr), PE (X.blk s H scope (compEnvC scope cl C X.env) fp) elt (tD f)) (hv : ∀ j ∈ t.ix, j ∈ own.map (·.2)) (hs : ∀ x, foldedSetIterable iter X.env x = pure x := by intro _; rfl) :
    PS X (.Assign [.Name y py] (.ListComp elt [⟨tg, iter, ifs, 0⟩] scope pos) spos) (tS mg W (sSet j (h (dLc i t (own.map (·.2)) cond f)))) :=
  PS.to (ps_setLc hc hN hy hyl hsw hi ok hg ht he hs) fun D σ H z => lc_d X.K hv σ H _ (hh _ σ H _ (set_d D σ H z))
end

/-! ### defs -/
inductive Res where
  | ret (v : Val) (cs : Cs)
  | exc (x f : Str) (d : PyData) (cs : Cs)
abbrev FF := List Val → Cs → Option Res
/-- what a def hands back: its own cells go, but the one that it hands back -/
def retTo (n : Nat) (v : Val) (cs : Cs) : Option Res := match v with
  | .ce c => if c < n then some (.ret (.ce c) (cs.take n)) else match cs[c]? with
    | some (some k) => some (.ret (.ce n) (cs.take n ++ [some k]))
    | _ => none
  | v => some (.ret v (cs.take n))
def fnD (n m : Nat) (body : SF) : FF := fun as cs => if as.length = n then match body (as.map some ++ List.replicate m none) cs with
  | some (.ret v c1) => retTo cs.length v c1
  | some (.nxt _ c1) => some (.ret (.fr .none) (c1.take cs.length))
  | some (.exc x f d _ c1) => some (.exc x f d (c1.take cs.length))
  | _ => none
  else none
def spN (f : FF) : Sp := fun xs H Q _ => ∃ B F ps as cs v cs', COk B F ps cs H ∧ VRelAll F ps xs as ∧ f as cs = some (.ret v cs') ∧ ∀ x F' ps' H', Ext F F' ps ps' → COk B F' ps' cs' H' → VRel F' ps' x v → Q x H'
def spX (mg : Str → Option Value) (f : FF) : Sp := fun xs H Q E => ∃ B F ps as cs r, COk B F ps cs H ∧ VRelAll F ps xs as ∧ f as cs = some r ∧ match r with
  | .ret v cs' => ∀ x F' ps' H', Ext F F' ps ps' → COk B F' ps' cs' H' → VRel F' ps' x v → Q x H'
  | .exc x f d cs' => ∀ cls dd F' ps' H', Ext F F' ps ps' → COk B F' ps' cs' H' → ExAt mg F' x f d cls dd → E cls dd H'
theorem va_len {F : Hp} {ps : List Addr} {xs : List V} {as : List Val} (h : VRelAll F ps xs as) : xs.length = as.length := Paired.length h
theorem start_ok {F : Hp} {ps : List Addr} {xs : List V} {as : List Val} (h : VRelAll F ps xs as) (N : List Str) (m : Nat) : SOk F ps (as.map some ++ List.replicate m none) (L2.start N xs) := fun i v e => by
  have hl := va_len h
  by_cases q : i < as.length
  · rw [List.getElem?_append_left (by simpa using q), List.getElem?_map] at e
    have h2 : as[i]? = some v := by
      cases z : as[i]? with
      | none =>
        rw [z] at e
        cases e
      | some u =>
        rw [z] at e
        have : some u = some v := Option.some.inj e
        exact this
    clear e
    have : ∃ x, xs[i]? = some x ∧ VRel F ps x v := by
      clear q hl
      induction h generalizing i with
      | nil => simp at h2
      | cons a b ih =>
        cases i with
        | zero =>
          have h2' := Option.some.inj h2
          subst h2'
          exact ⟨_, rfl, a⟩
        | succ i =>
          have h2' := h2
          rw [List.getElem?_cons_succ] at h2'
          obtain ⟨x, g1, g2⟩ := ih _ h2'
          exact ⟨x, by simpa using g1, g2⟩
    obtain ⟨x, h3, h4⟩ := this
    refine ⟨x, ?_, h4⟩
    unfold L2.start
    rw [List.getElem?_append_left (by rw [List.length_map]; omega), List.getElem?_map, h3]
    rfl
  · rw [List.getElem?_append_right (by simpa using q), List.getElem?_replicate] at e
    split at e <;> cases e
theorem start_len {N : List Str} {xs : List V} {as : List Val} {m : Nat} (h : xs.length = as.length) (hm : as.length + m = N.length) : (as.map some ++ List.replicate m (none : Option Val)).length = (L2.start N xs).length := by
  unfold L2.start
  simp only [List.length_append, List.length_map, List.length_replicate]
  omega
/-- the cell at c is moved to the place n -/
theorem COk.move {B : Base} {F H : Hp} {ps : List Addr} {cs : Cs} {n c : Nat} {k : Cell} (h : COk B F ps cs H) (hp : B.p0.length ≤ n) (hn : n ≤ c) (hc : cs[c]? = some (some k)) : ∃ a, ps[c]? = some a ∧ COk B F (ps.take n ++ [a]) (cs.take n ++ [some k]) H := by
  obtain ⟨a, h1, h2, h3, h4⟩ := h.cell c k hc
  have hcl := (List.getElem?_eq_some_iff.mp hc).1
  have t := h.trunc n hp
  have hl := h.len
  have hlen : (cs.take n).length = n := by rw [List.length_take]; omega
  have hlenp : (ps.take n).length = n := by rw [List.length_take]; omega
  have old : ∀ {d : Nat} {z : Cell}, (cs.take n ++ [some k])[d]? = some (some z) → ((cs.take n)[d]? = some (some z) ∧ d < n) ∨ (d = n ∧ k = z) := fun {d z} e => by
    by_cases q : d < n
    · rw [List.getElem?_append_left (by rw [hlen]; exact q)] at e
      exact .inl ⟨e, q⟩
    · right
      rw [List.getElem?_append_right (by rw [hlen]; omega), hlen] at e
      have z0 : d - n = 0 := by
        have := (List.getElem?_eq_some_iff.mp e).1
        simpa using this
      rw [z0] at e
      exact ⟨by omega, Option.some.inj (Option.some.inj e)⟩
  have addr : ∀ {d : Nat} {b : Addr}, (ps.take n ++ [a])[d]? = some b → (d < n → (ps.take n)[d]? = some b) ∧ (d = n → b = a) := fun {d b} e => by
    refine ⟨fun q => ?_, fun q => ?_⟩
    · rw [List.getElem?_append_left (by rw [hlenp]; exact q)] at e
      exact e
    · subst q
      rw [List.getElem?_append_right (by rw [hlenp]; exact Nat.le_refl _), hlenp, Nat.sub_self] at e
      exact (Option.some.inj e).symm
  refine ⟨a, h1, ⟨h.fH, h.rH, h.f0, h.out, t.pre.trans (List.prefix_append _ _), by rw [List.length_append, List.length_append, hlen, hlenp]; rfl, fun d z e => ?_, fun d d' b l l' e e' => ?_⟩⟩
  · rcases old e with ⟨q, hd⟩ | ⟨rfl, rfl⟩
    · obtain ⟨b, g1, g2⟩ := t.cell d z q
      exact ⟨b, by rw [List.getElem?_append_left (by rw [hlenp]; exact hd)]; exact g1, g2⟩
    · exact ⟨a, by rw [List.getElem?_append_right (by rw [hlenp]; exact Nat.le_refl _), hlenp, Nat.sub_self]; rfl, h2, h3, h4⟩
  · obtain ⟨z, lz⟩ := l
    obtain ⟨z', lz'⟩ := l'
    have up : ∀ {d : Nat} {b : Addr} {z : Cell}, (cs.take n)[d]? = some (some z) → d < n → (ps.take n)[d]? = some b → Live cs d ∧ ps[d]? = some b := fun {d b z} e1 hd e2 => by
      rw [List.getElem?_take_of_lt hd] at e1 e2
      exact ⟨⟨z, e1⟩, e2⟩
    rcases old lz with ⟨q, hd⟩ | ⟨q, rfl⟩ <;> rcases old lz' with ⟨q', hd'⟩ | ⟨q', rfl⟩
    · obtain ⟨u1, u2⟩ := up q hd ((addr e).1 hd)
      obtain ⟨w1, w2⟩ := up q' hd' ((addr e').1 hd')
      exact h.inj d d' b u1 w1 u2 w2
    · have eb := (addr e').2 q'
      subst eb
      obtain ⟨u1, u2⟩ := up q hd ((addr e).1 hd)
      have := h.inj d c _ u1 ⟨_, hc⟩ u2 h1
      omega
    · have eb := (addr e).2 q
      subst eb
      obtain ⟨u1, u2⟩ := up q' hd' ((addr e').1 hd')
      have := h.inj d' c _ u1 ⟨_, hc⟩ u2 h1
      omega
    · omega
theorem ret_ok {B : Base} {F F' H H' : Hp} {ps ps' : List Addr} {cs cs' cs2 : Cs} {x : V} {v v2 : Val} (k : COk B F ps cs H) (k' : COk (B.at F ps) F' ps' cs' H') (r : VRel F' ps' x v) (h : retTo cs.length v cs' = some (.ret v2 cs2)) :
    ∃ ps2, Ext F F' ps ps2 ∧ COk B F' ps2 cs2 H' ∧ VRel F' ps2 x v2 := by
  have kk := k.up k'
  have hb : B.p0.length ≤ cs.length := by
    rw [← k.len]
    exact k.pre.length_le
  have et : ps'.take cs.length = ps := by
    rw [← k.len]
    exact take_pre k'.pre
  have kt := kk.trunc cs.length hb
  rw [et] at kt
  unfold retTo at h
  split at h
  · rename_i c
    split at h
    · rename_i hc
      cases h
      obtain ⟨a, q, rfl⟩ := r
      refine ⟨ps, ⟨k'.f0, List.prefix_refl _⟩, kt, a, ?_, rfl⟩
      rw [← et, List.getElem?_take_of_lt hc]
      exact q
    · split at h
      · rename_i hc _ k0 e
        cases h
        obtain ⟨a, h1, h2⟩ := kk.move hb (Nat.le_of_not_lt hc) e
        rw [et] at h2
        obtain ⟨a', q, rfl⟩ := r
        rw [h1] at q
        cases q
        refine ⟨ps ++ [a], ⟨k'.f0, List.prefix_append _ _⟩, h2, a, ?_, rfl⟩
        rw [← k.len, List.getElem?_append_right (Nat.le_refl _), Nat.sub_self]
        rfl
      · cases h
  · rename_i hn
    cases h
    refine ⟨ps, ⟨k'.f0, List.prefix_refl _⟩, kt, ?_⟩
    cases v with
    | fr d => exact r
    | ce c => exact (hn c rfl).elim
    | ex a dd f d => exact r
theorem trunc_ok {B : Base} {F F' H H' : Hp} {ps ps' : List Addr} {cs cs' : Cs} (k : COk B F ps cs H) (k' : COk (B.at F ps) F' ps' cs' H') : Ext F F' ps ps ∧ COk B F' ps (cs'.take cs.length) H' := by
  have hb : B.p0.length ≤ cs.length := by
    rw [← k.len]
    exact k.pre.length_le
  have et : ps'.take cs.length = ps := by
    rw [← k.len]
    exact take_pre k'.pre
  have kt := (k.up k').trunc cs.length hb
  rw [et] at kt
  exact ⟨⟨k'.f0, List.prefix_refl _⟩, kt⟩
section
variable {P : Program} {w : World} {K : PySem.W.Frag} {mg : Str → Option Value} {base : Heap} {x qual : Str} {st : Stmt} {f : Addr} {fd : FuncData} {N ps : List Str} {k m : Nat} {body : SF}
theorem fnN (F : Fun K x qual st f fd) (S : FnScope N ps (defScope st)) (hm : ps.length + m = N.length)
    (hbody : ∀ (cdv : Value) (A : Around) (outer : List Env) (s : Shared) (H : Hp) (E : XK), Room k (A.deeper (envOfC qual (defScope st) s.heap.objs.size f cdv)) → PSs (cxOf CX0 P w K mg base N qual (defScope st) f cdv A outer s H E).nox (defBody st) (tS mg (fun _ _ _ _ => False) body)) :
    FnOk P w K mg base CX0 (k + 1) f fd ps (spN (fnD ps.length m body)) := by
  refine F.ok S (fun vs H Q E h => ?_) (fun cdv A outer s H vs Q E hr h => ⟨_, hbody cdv A outer s H E hr, ?_⟩)
  · obtain ⟨B, F, ps', as, cs, v, cs', c, r, hf, q⟩ := h
    unfold fnD at hf
    split at hf
    · rename_i hl
      rw [va_len r]
      exact hl
    · cases hf
  · obtain ⟨B, F, ps', as, cs, v, cs', c, r, hf, q⟩ := h
    unfold fnD at hf
    split at hf
    · rename_i hl
      have R : Rdy (B.at F ps') F ps' (as.map some ++ List.replicate m none) cs (L2.start N vs) H := ⟨c.down, start_ok r N m, start_len (va_len r) (by rw [hl]; exact hm)⟩
      split at hf
      · rename_i v1 c1 e1
        refine ⟨_, F, ps', _, cs, _, R, e1, fun x F' ps2 H' k2 r2 => ?_⟩
        obtain ⟨ps3, a1, a2, a3⟩ := ret_ok c k2 r2 hf
        exact q x F' ps3 H' a1 a2 a3
      · rename_i sl1 c1 e1
        cases hf
        refine ⟨_, F, ps', _, cs, _, R, e1, fun F' ps2 σ' H' r2 => ?_⟩
        obtain ⟨a1, a2⟩ := trunc_ok c r2.c
        exact q .non F' ps' H' a1 a2 .non
      · cases hf
      · cases hf
    · cases hf
theorem fnX (F : Fun K x qual st f fd) (S : FnScope N ps (defScope st)) (hm : ps.length + m = N.length)
    (hbody : ∀ (cdv : Value) (A : Around) (outer : List Env) (s : Shared) (H : Hp) (E : XK), Room k (A.deeper (envOfC qual (defScope st) s.heap.objs.size f cdv)) → PSs (cxOf (L2.CX P w) P w K mg base N qual (defScope st) f cdv A outer s H E) (defBody st) (tS mg (fun cls dd _ H => E cls dd H) body)) :
    FnOk P w K mg base (L2.CX P w) (k + 1) f fd ps (spX mg (fnD ps.length m body)) := by
  refine F.okX S (fun vs H Q E h => ?_) (fun cdv A outer s H vs Q E hr h => ⟨_, hbody cdv A outer s H E hr, ?_⟩)
  · obtain ⟨B, F, ps', as, cs, rs, c, r, hf, q⟩ := h
    unfold fnD at hf
    split at hf
    · rename_i hl
      rw [va_len r]
      exact hl
    · cases hf
  · obtain ⟨B, F, ps', as, cs, rs, c, r, hf, q⟩ := h
    unfold fnD at hf
    split at hf
    · rename_i hl
      have R : Rdy (B.at F ps') F ps' (as.map some ++ List.replicate m none) cs (L2.start N vs) H := ⟨c.down, start_ok r N m, start_len (va_len r) (by rw [hl]; exact hm)⟩
      split at hf
      · rename_i v1 c1 e1
        cases rs with
        | ret v2 cs2 =>
          refine ⟨_, F, ps', _, cs, _, R, e1, fun x F' ps2 H' k2 r2 => ?_⟩
          obtain ⟨ps3, a1, a2, a3⟩ := ret_ok c k2 r2 hf
          exact q x F' ps3 H' a1 a2 a3
        | exc x f d cs2 =>
          unfold retTo at hf
          split at hf
          · split at hf
            · cases hf
            · split at hf <;> cases hf
          · cases hf
      · rename_i sl1 c1 e1
        cases hf
        refine ⟨_, F, ps', _, cs, _, R, e1, fun F' ps2 σ' H' r2 => ?_⟩
        obtain ⟨a1, a2⟩ := trunc_ok c r2.c
        exact q .non F' ps' H' a1 a2 .non
      · rename_i x1 f1 d1 sl1 c1 e1
        cases hf
        refine ⟨_, F, ps', _, cs, _, R, e1, fun F' ps2 σ' H' cls dd r2 ex => ?_⟩
        obtain ⟨a1, a2⟩ := trunc_ok c r2.c
        exact q cls dd F' ps' H' a1 a2 ex
      · cases hf
    · cases hf
end
/-- a call of a def -/
def dFn (f : FF) (g : AF) : EF := fun sl cs => match g sl cs with
  | some (as, c1) => match f as c1 with
    | some (.ret v c2) => some (v, c2)
    | _ => none
  | none => none
section
variable {X : Cx} {k : Nat} {f : Addr} {fd : FuncData} {ps : List Str} {x : Str} {p pos : Pos} {e : Expr} {es : List Expr} {den : FF} {g : AF}
theorem callN_d {E : XK} : ∀ σ H Q, tD (dFn den g) σ H Q → tCall (spN den) [] E (tA g) σ H Q := fun σ H Q ⟨B, F, ps, sl, cs, v, cs', r, hf, q⟩ => by
  unfold dFn at hf
  split at hf
  · rename_i as c1 e1
    split at hf
    · rename_i v1 c2 e2
      cases hf
      refine ⟨B, F, ps, sl, cs, _, _, r, e1, fun xs F1 p1 H1 x1 k1 r1 => ?_⟩
      show spN den (xs ++ []) H1 Q E
      rw [List.append_nil]
      exact ⟨B, F1, p1, as, c1, _, _, k1, r1, e2, fun y F2 p2 H2 x2 k2 r2 => q _ _ _ _ (x1.trans x2) k2 r2⟩
    · cases hf
  · cases hf
theorem callX_d {mg : Str → Option Value} {E : XK} : ∀ σ H Q, tD (dFn den g) σ H Q → tCall (spX mg den) [] E (tA g) σ H Q := fun σ H Q ⟨B, F, ps, sl, cs, v, cs', r, hf, q⟩ => by
  unfold dFn at hf
  split at hf
  · rename_i as c1 e1
    split at hf
    · rename_i v1 c2 e2
      cases hf
      refine ⟨B, F, ps, sl, cs, _, _, r, e1, fun xs F1 p1 H1 x1 k1 r1 => ?_⟩
      show spX mg den (xs ++ []) H1 Q E
      rw [List.append_nil]
      exact ⟨B, F1, p1, as, c1, _, k1, r1, e2, fun y F2 p2 H2 x2 k2 r2 => q _ _ _ _ (x1.trans x2) k2 r2⟩
    · cases hf
  · cases hf
theorem px_call (F : FnOk X.prog X.w X.K X.mg X.base CX0 k f fd ps (spN den)) (hr : Room k X.A) (hm : X.mg x = some (.ref f)) (hk : PySem.W.keepIn X.K (.ref f) = true) (hb : Binds X.K fd ps []) (ha : PA X (e :: es) (tA g)) (hg : Gl X x := by rfl)
    (hdb : (x == ("__debug__" : Str)) = false := by decide) (he : starEach (e :: es) X.env = (false, eval e X.env) :: starEach es X.env := by rfl) (hpl : (backTo pos (starEach es X.env)).any (·.1) = false := by rfl) :
    PE X (.Call (.Name x p) (e :: es) [] pos) (tD (dFn den g)) := PE.to (pe_call F hr hg hm hk hb .nil pass0 ha hdb he hpl) callN_d
/-- a def that may raise, where it doesn't -/
theorem px_callX (F : FnOk X.prog X.w X.K X.mg X.base (L2.CX X.prog X.w) k f fd ps (spX X.mg den)) (hr : Room k X.A) (hm : X.mg x = some (.ref f)) (hk : PySem.W.keepIn X.K (.ref f) = true) (hb : Binds X.K fd ps []) (ha : PA X (e :: es) (tA g)) (hg : Gl X x := by rfl)
    (hdb : (x == ("__debug__" : Str)) = false := by decide) (he : starEach (e :: es) X.env = (false, eval e X.env) :: starEach es X.env := by rfl) (hpl : (backTo pos (starEach es X.env)).any (·.1) = false := by rfl) :
    PE X (.Call (.Name x p) (e :: es) [] pos) (tD (dFn den g)) := PE.to (pe_call F hr hg hm hk hb .nil passL ha hdb he hpl) callX_d
end
end DX
set_option maxHeartbeats 1000000
/-! DX, ninth part: own exceptions with one field: made, raised, let through, caught. -/
namespace DX
open PySem L2 PySem.Spec PyProof.Rows
open L2H (RoomH FnH cxH fn_ofH HotC)

/-! ### an own class is called (context None kept) -/
section
variable {X : Cx} {e : Expr} {es : List Expr} {ta : TA} {p pos : Pos}
theorem own_made {x : Str} {C fI : Addr} {k : Nat} {fd : FuncData} {ps : List Str} {sp : Sp} (T : OexC X.K C) (iC : PySem.W.findIn X.K (.ref C) "__init__" = some (some (.ref fI)))
    (tI : PySem.W.typeIn X.K (.ref fI) = some (.type "function")) (FI : FnOk X.prog X.w X.K X.mg X.base CX0 k fI fd ps sp)
    (rm : Room (k + 1) X.A) (bI : Binds X.K fd ps []) (gl : Gl X x) (mC : X.mg x = some (.ref C)) (pa : PA X (e :: es) ta)
    (db : (x == ("__debug__" : Str)) = false := by decide)
    (se : starEach (e :: es) X.env = (false, eval e X.env) :: starEach es X.env := by rfl)
    (sp0 : (backTo pos (starEach es X.env)).any (·.1) = false := by rfl) :
    L2N.PMk X (.Call (.Name x p) (e :: es) [] pos) (tMkO C sp [] ta) := by
  intro pins st σ H Q inv want
  obtain ⟨nm, qn, N, bs, bm, sn, sub, ab, col, dd, k0, k1, k2, k3, k5, hC, hbm⟩ := T.cls
  refine wpAny_Call_Name_kw (ld_glob inv gl mC ?_ db)
  refine PySem.W.callWith_K (h₀ := X.base) inv.ok.mod.kin T.kC (thn (pa.run pos pins st σ H _ inv want) fun us s1 ⟨vs, H1, J1, rv1, lv, want1⟩ => ⟨J1.kIn, ?_⟩) se sp0
  show wpAny _ _ (call (.ref C) us) _ _ _
  obtain ⟨hp, gg, dr, tk, os⟩ := s1
  have le1 : hp.objs.size ≤ hp.objs.size + 1 := Nat.le_succ _
  have free1 : H1 (hp.objs.size + 1) = none := J1.hok.fresh le1
  have w1 := want1 (hp.objs.size + 1) free1
  rw [List.append_nil] at w1
  have stays : ∀ b o, hp.get? b = some o → ((hp.push (PySem.W.kdv_tup us)).push (PySem.HandSPX.excO C hp.objs.size)).get? b = some o :=
    fun b o q => Heap.get?_push_of_some _ (Heap.get?_push_of_some _ q)
  have at1 : ((hp.push (PySem.W.kdv_tup us)).push (PySem.HandSPX.excO C hp.objs.size)).get? (hp.objs.size + 1) = some (PySem.HandSPX.excO C hp.objs.size) := by
    heap_get
  have J2 := J1.laid (t' := tk) (a := hp.objs.size + 1) (o := exo (hp.objs.size + 1) C none)
    (h' := (hp.push (PySem.W.kdv_tup us)).push (PySem.HandSPX.excO C hp.objs.size)) stays le1 (exo_ok at1)
  have rv2 : Vals (V.ref (hp.objs.size + 1) :: vs) (Value.ref (hp.objs.size + 1) :: us) := .cons rfl rv1
  have len2 : (Value.ref (hp.objs.size + 1) :: us).length = ps.length := by
    have q := rv2.length
    rw [FI.len _ _ _ _ w1] at q
    exact q.symm
  have few : us.length ≤ sizeLine := by
    rw [← Paired.length rv1, sizeLine_eq]
    omega
  have b2 := bI _ (Value.ref (hp.objs.size + 1) :: us) J2.kIn (by rw [List.append_nil]; exact len2)
  rw [List.append_nil] at b2
  refine wpAny_call (PySem.HandSPX.call_own F.excBase_ValueError (fun Y => PySem.HandSPX.refsVE_contains Y bm hbm) (J1.kIn _ _ hC)
    (PySem.W.looks_findIn J1.kIn iC) (fun me => PySem.W.bind_fn J1.kIn me tI) few (codeAny_mono (FI.run _ X.stack _ _
      ⟨Value.ref (hp.objs.size + 1) :: us, []⟩ (Value.ref (hp.objs.size + 1) :: us) _ _ (fun _ _ _ => False) (rm.make C us []) (J2.env0.make C us []) b2 rv2 w1)
      fun res s3 end3 => ?_))
  cases res with
  | error er => exact end3.elim
  | ok fl =>
    cases fl with
    | ret u =>
      obtain ⟨v, H2, os3, bare3, un3, hok3, rv, v0, dx, fs, atA, atD, new1, want3⟩ := end3
      subst v0
      obtain ⟨h3, g3, d3, t3, o3⟩ := s3
      obtain ⟨t0, G, JG, upG, noG, obG, noA⟩ := mk_end0 (d2 := d3) (t2 := t3) J1 le1 stays un3 hok3 os3 bare3 atA atD new1
      refine ⟨rv, hp.objs.size + 1, _, _, ⟨G, g3, d3, t3, o3⟩, _, .ref C, some dx, rfl, JG, upG, noG, obG, ⟨rfl, rfl, fun ws q => ?_⟩, rfl, rfl, noA, rfl, bare3, raises_own T.exC T.tyC, want3⟩
      cases q
      rfl
    | next => exact end3.elim
    | brk => exact end3.elim
    | cont => exact end3.elim
end

/-! ### what the top has written of such a class -/
structure EC (K : PySem.W.Frag) (mg : Str → Option Value) (x f : Str) (C fI : Addr) : Prop where
  gC : mg x = some (.ref C)
  oex : OexC K C
  noF : PySem.W.findIn K (.ref C) f = some none
  iC : PySem.W.findIn K (.ref C) "__init__" = some (some (.ref fI))
  tI : PySem.W.typeIn K (.ref fI) = some (.type "function")
  xf : XfC K C
  isx : ExcC K C
  exm : PySem.W.exmOne K (.ref C) (.ref C) = some true
/-- self.f = f -/
def spIni (K : PySem.W.Frag) (f : Str) : Sp := fun xs H Q _ => ∃ (a C : Addr) (v : V), xs = [.ref a, v] ∧ OexC K C ∧ PySem.W.findIn K (.ref C) f = some none ∧ H a = some (exo a C none) ∧
  ∀ dx, H dx = none → dx ≠ a → Q .non (upd (upd H dx (exd dx [(f, v)])) a (exo a C (some dx)))
def sRaise (x f : Str) (g : EF) : SF := fun sl cs => match g sl cs with
  | some (v, c1) => match fzV v c1 with
    | some (d, c2) => some (.exc x f d sl c2)
    | none => none
  | none => none
section
variable {X : Cx} {e : Expr} {p pos pos2 : Pos} {W : WX}
theorem pxs_raise {x f : Str} {C fI : Addr} {k : Nat} {fd : FuncData} {g : EF} (E : EC X.K X.mg x f C fI) (FI : FnOk X.prog X.w X.K X.mg X.base CX0 k fI fd ["self", f] (spIni X.K f)) (bI : Binds X.K fd ["self", f] []) (rm : Room (k + 1) X.A) (cm : X.calm = true) (tk : L2N.Takes X W)
    (he : PE X e (tD g)) (gl : Gl X x := by rfl) (db : (x == ("__debug__" : Str)) = false := by decide)
    (se : starEach (e :: []) X.env = (false, eval e X.env) :: starEach [] X.env := by rfl) (sp0 : (backTo pos (starEach [] X.env)).any (·.1) = false := by rfl) :
    PS X (.Raise (some (.Call (.Name x p) [e] [] pos)) none pos2) (tS X.mg W (sRaise x f g)) :=
  PS.to (L2N.ps_raise cm tk (own_made E.oex E.iC E.tI FI rm bI gl E.gC (pa_cons he pa_nil se) db se sp0)) fun D σ H ⟨B, F, ps, sl, cs, o, r, hf, q⟩ => by
    unfold sRaise at hf
    split at hf
    · rename_i v c1 e1
      split at hf
      · rename_i d c2 e2
        cases hf
        refine ⟨B, F, ps, sl, cs, v, c1, r, e1, fun y F1 p1 H1 x1 k1 r1 => ⟨(by decide : 1 ≤ 1000), fun a na => ?_⟩⟩
        obtain ⟨F2, x2, k2, r2⟩ := fz_at k1 r1 e2
        refine ⟨a, C, y, rfl, E.oex, E.noF, upd_same, fun dx ndx hda => ?_⟩
        have nd1 : H1 dx = none := by rw [upd_ne hda] at ndx; exact ndx
        refine ⟨rfl, dx, [(f, y)], upd_same, ?_, nd1, ?_⟩
        · rw [upd_ne hda, upd_same]
        · have eH : upd (del (upd (upd (upd H1 a (exo a C none)) dx (exd dx [(f, y)])) a (exo a C (some dx))) a) dx (.xd [(f, y)]) = upd H1 dx (.xd [(f, y)]) := by
            funext b
            by_cases hb : b = dx
            · rw [hb, upd_same, upd_same]
            · rw [upd_ne hb, upd_ne hb]
              by_cases ha : b = a
              · rw [ha, del_same, na]
              · rw [del_ne ha, upd_ne ha, upd_ne hb, upd_ne ha]
          rw [eH]
          refine q _ p1 σ _ (.ref C) (some dx) ⟨k2.newF nd1 _, r.s.mono ((x1.trans x2).trans (ext_newF k2 nd1 _)), r.l⟩ ⟨C, dx, y, E.gC, rfl, rfl, upd_same, r2.mono (same_newF k2 nd1 _)⟩
      · cases hf
    · cases hf
end

/-! ### a def that may raise -/
section
variable {P : Program} {w : World} {K : PySem.W.Frag} {mg : Str → Option Value} {base : Heap} {x qual : Str} {st : Stmt} {f : Addr} {fd : FuncData} {N ps : List Str} {k m : Nat} {body : SF}
theorem fnR (F : Fun K x qual st f fd) (S : FnScope N ps (defScope st)) (hm : ps.length + m = N.length)
    (hbody : ∀ (cdv : Value) (A : Around) (outer : List Env) (s : Shared) (H : Hp) (E : XK), Room k (A.deeper (envOfC qual (defScope st) s.heap.objs.size f cdv)) → L2N.Takes (cxOf (L2N.CX P w) P w K mg base N qual (defScope st) f cdv A outer s H E) (fun cls dd _ H => E cls dd H) →
      PassesOwn (model P w) (cxOf (L2N.CX P w) P w K mg base N qual (defScope st) f cdv A outer s H E).A (cxOf (L2N.CX P w) P w K mg base N qual (defScope st) f cdv A outer s H E).env (cxOf (L2N.CX P w) P w K mg base N qual (defScope st) f cdv A outer s H E).xe →
      PSs (cxOf (L2N.CX P w) P w K mg base N qual (defScope st) f cdv A outer s H E) (defBody st) (tS mg (fun cls dd _ H => E cls dd H) body)) :
    FnOk P w K mg base (L2N.CX P w) (k + 1) f fd ps (spX mg (fnD ps.length m body)) := by
  obtain ⟨oc, od, kV, doc, pm, an, cdv, ct, osl, rfl, lk, hcd⟩ := F.ex
  refine fn_of lk hcd S (fun vs H Q E h => ?_) fun A outer s H vs Q E hr h => ⟨_, hbody cdv A outer s H E hr (L2N.takes_of rfl rfl rfl rfl) (passes_of rfl), ?_⟩
  · obtain ⟨B, F, ps', as, cs, rs, c, r, hf, q⟩ := h
    unfold fnD at hf
    split at hf
    · rename_i hl
      rw [va_len r]
      exact hl
    · cases hf
  · obtain ⟨B, F, ps', as, cs, rs, c, r, hf, q⟩ := h
    unfold fnD at hf
    split at hf
    · rename_i hl
      have R : Rdy (B.at F ps') F ps' (as.map some ++ List.replicate m none) cs (L2.start N vs) H := ⟨c.down, start_ok r N m, start_len (va_len r) (by rw [hl]; exact hm)⟩
      split at hf
      · rename_i v1 c1 e1
        cases rs with
        | ret v2 cs2 =>
          refine ⟨_, F, ps', _, cs, _, R, e1, fun x F' ps2 H' k2 r2 => ?_⟩
          obtain ⟨ps3, a1, a2, a3⟩ := ret_ok c k2 r2 hf
          exact q x F' ps3 H' a1 a2 a3
        | exc x f d cs2 =>
          unfold retTo at hf
          split at hf
          · split at hf
            · cases hf
            · split at hf <;> cases hf
          · cases hf
      · rename_i sl1 c1 e1
        cases hf
        refine ⟨_, F, ps', _, cs, _, R, e1, fun F' ps2 σ' H' r2 => ?_⟩
        obtain ⟨a1, a2⟩ := trunc_ok c r2.c
        exact q .non F' ps' H' a1 a2 .non
      · rename_i x1 f1 d1 sl1 c1 e1
        cases hf
        refine ⟨_, F, ps', _, cs, _, R, e1, fun F' ps2 σ' H' cls dd r2 ex => ?_⟩
        obtain ⟨a1, a2⟩ := trunc_ok c r2.c
        exact q cls dd F' ps' H' a1 a2 ex
      · cases hf
    · cases hf
/-- a def that does not raise, called while an exception is handled -/
theorem fnHot (F : Fun K x qual st f fd) (S : FnScope N ps (defScope st)) (hm : ps.length + m = N.length)
    (hbody : ∀ (cdv : Value) (A : Around) (outer : List Env) (s : Shared) (H : Hp) (E : XK) (p : Addr × Obj), RoomH k (A.deeper (envOfC qual (defScope st) s.heap.objs.size f cdv)) → PSs (cxH CX0 P w K mg base N qual (defScope st) f cdv A outer s H E p) (defBody st) (tS mg (fun _ _ _ _ => False) body)) :
    FnH P w K mg base CX0 (k + 1) f fd ps (spN (fnD ps.length m body)) := by
  obtain ⟨oc, od, kV, doc, pm, an, cdv, ct, osl, rfl, lk, hcd⟩ := F.ex
  refine fn_ofH lk hcd S (fun vs H Q E h => ?_) fun A outer s H vs Q E p _ hr h => ⟨_, hbody cdv A outer s H E p hr, ?_⟩
  · obtain ⟨B, F, ps', as, cs, v, cs', c, r, hf, q⟩ := h
    unfold fnD at hf
    split at hf
    · rename_i hl
      rw [va_len r]
      exact hl
    · cases hf
  · obtain ⟨B, F, ps', as, cs, v, cs', c, r, hf, q⟩ := h
    unfold fnD at hf
    split at hf
    · rename_i hl
      have R : Rdy (B.at F ps') F ps' (as.map some ++ List.replicate m none) cs (L2.start N vs) H := ⟨c.down, start_ok r N m, start_len (va_len r) (by rw [hl]; exact hm)⟩
      split at hf
      · rename_i v1 c1 e1
        refine ⟨_, F, ps', _, cs, _, R, e1, fun x F' ps2 H' k2 r2 => ?_⟩
        obtain ⟨ps3, a1, a2, a3⟩ := ret_ok c k2 r2 hf
        exact q x F' ps3 H' a1 a2 a3
      · rename_i sl1 c1 e1
        cases hf
        refine ⟨_, F, ps', _, cs, _, R, e1, fun F' ps2 σ' H' r2 => ?_⟩
        obtain ⟨a1, a2⟩ := trunc_ok c r2.c
        exact q .non F' ps' H' a1 a2 .non
      · cases hf
      · cases hf
    · cases hf
end

/-! ### calls that may raise, as statements -/
def fnOut (den : FF) (g : AF) (kk : Val → Sl → Cs → Out) : SF := fun sl cs => match g sl cs with
  | some (as, c1) => match den as c1 with
    | some (.ret v c2) => some (kk v sl c2)
    | some (.exc x f d c2) => some (.exc x f d sl c2)
    | none => none
  | none => none
def kSet (i : Nat) : Val → Sl → Cs → Out := fun v sl cs => .nxt (sl.set i (some v)) cs
def kRet : Val → Sl → Cs → Out := fun v _ cs => .ret v cs
def kEx : Val → Sl → Cs → Out := fun _ sl cs => .nxt sl cs
theorem fn_out {mg : Str → Option Value} {W : WX} {den : FF} {g : AF} {kk : Val → Sl → Cs → Out} {D : Ends} {σ : L2.St} {H : Hp} {Q : VK} (h : tS mg W (fnOut den g kk) D σ H)
    (hq : ∀ (B : Base) (F : Hp) (ps : List Addr) (sl : Sl) (cs : Cs) (x : V) (v : Val) (H' : Hp), Rdy B F ps sl cs σ H' → VRel F ps x v → OutOk mg W B D (kk v sl cs) → Q x H') :
    tCallS (spX mg den) (WE W) (tA g) σ H Q := by
  obtain ⟨B, F, ps, sl, cs, o, r, hf, q⟩ := h
  unfold fnOut at hf
  split at hf
  · rename_i as c1 e1
    refine ⟨B, F, ps, sl, cs, _, _, r, e1, fun xs F1 p1 H1 x1 k1 r1 => ?_⟩
    split at hf
    · rename_i v c2 e2
      cases hf
      exact ⟨B, F1, p1, as, c1, _, k1, r1, e2, fun y F2 p2 H2 x2 k2 r2 => hq B F2 p2 sl _ y _ H2 (r.go (x1.trans x2) k2) r2 q⟩
    · rename_i x f d c2 e2
      cases hf
      exact ⟨B, F1, p1, as, c1, _, k1, r1, e2, fun cls dd F2 p2 H2 x2 k2 ea => q F2 p2 σ H2 cls dd (r.go (x1.trans x2) k2) ea⟩
    · cases hf
  · cases hf
section
variable {X : Cx} {W : WX} {k : Nat} {f : Addr} {fd : FuncData} {ps : List Str} {x : Str} {p pos pos2 : Pos} {e : Expr} {es : List Expr} {den : FF} {g : AF}
theorem pe_mayX (tk : L2N.Takes X W) (F : FnOk X.prog X.w X.K X.mg X.base (L2N.CX X.prog X.w) k f fd ps (spX X.mg den)) (hr : Room k X.A) (hm : X.mg x = some (.ref f)) (hk : PySem.W.keepIn X.K (.ref f) = true) (hb : Binds X.K fd ps []) (ha : PA X (e :: es) (tA g)) (hg : Gl X x := by rfl)
    (hdb : (x == ("__debug__" : Str)) = false := by decide) (he : starEach (e :: es) X.env = (false, eval e X.env) :: starEach es X.env := by rfl) (hpl : (backTo pos (starEach es X.env)).any (·.1) = false := by rfl) :
    PE X (.Call (.Name x p) (e :: es) [] pos) (tCallS (spX X.mg den) (WE W) (tA g)) := pe_callS F hr hg hm hk hb (fun σ => L2N.passAt tk σ) ha hdb he hpl
variable {c : Expr}
theorem pxs_fnSet {i : Nat} {y : Str} {pos' : Pos} (hN : X.N.Nodup) (hc : PE X c (tCallS (spX X.mg den) (WE W) (tA g))) (hi : X.N[i]? = some y := by rfl) (hx : Loc X.env.scope y := by first | exact Or.inl rfl | exact Or.inr rfl) (hs : swapsWith c (some (.Name y pos')) pos.line X.env = pure false := by rfl) (hf : X.fn y = true ∨ X.env.scope.names.lookup y = some .local := by first | exact .inl rfl | exact .inr rfl) :
    PS X (.Assign [.Name y pos'] c pos) (tS X.mg W (fnOut den g (kSet i))) := PS.to (ps_set hN hi hx hc hs hf) fun D σ H h => fn_out h fun B F ps sl cs z v H' r rz q =>
    q F ps _ H' ⟨r.c, r.s.set r.l rz i, by rw [List.length_set, List.length_set, r.l]⟩
theorem pxs_fnRet (hc : PE X c (tCallS (spX X.mg den) (WE W) (tA g))) : PS X (.Return (some c) pos) (tS X.mg W (fnOut den g kRet)) := PS.to (ps_ret hc) fun D σ H h => fn_out h fun B F ps sl cs z v H' r rz q => q z F ps H' r.c rz
theorem pxs_fnEx (hc : PE X c (tCallS (spX X.mg den) (WE W) (tA g))) (hs : swapsWith c none pos.line X.env = pure false := by rfl) : PS X (.Expr c pos) (tS X.mg W (fnOut den g kEx)) := PS.to (ps_expr hc hs) fun D σ H h => fn_out h fun B F ps sl cs z v H' r rz q => q F ps σ H' r
/-- if f(..) OP e: a else: b -/
def sFnIf (op : Op2) (den : FF) (g : AF) (h : EF) (a b : SF) : SF := fun sl cs => match g sl cs with
  | some (as, c1) => match den as c1 with
    | some (.ret v c2) => match h sl c2 with
      | some (w, c3) => match op v w c3 with
        | some (.fr (.bool true)) => a sl c3
        | some (.fr (.bool false)) => b sl c3
        | _ => none
      | none => none
    | some (.exc x f d c2) => some (.exc x f d sl c2)
    | none => none
  | none => none
theorem pxs_fnIf {d : Expr} {o : CmpOp} {op : Op2} {h : EF} {s1 s2 : List Stmt} {a b : SF} (cm : CmpD X o op) (hc : PE X c (tCallS (spX X.mg den) (WE W) (tA g))) (hd : PE X d (tD h)) (h1 : PSs X s1 (tS X.mg W a)) (h2 : PSs X s2 (tS X.mg W b)) (hm : behindInMarks o d = false := by rfl) :
    PS X (.If (.Compare c [o] [d] pos2) s1 s2 pos) (tS X.mg W (sFnIf op den g h a b)) := by
  obtain ⟨r, g1, g2⟩ := cm.ex
  refine PS.to (ps_if (pt_cmpR g1 hc hd hm) h1 h2) fun D σ H ⟨B, F, ps, sl, cs, o, r, hf, q⟩ => ?_
  unfold sFnIf at hf
  split at hf
  · rename_i as c1 e1
    refine ⟨B, F, ps, sl, cs, _, _, r, e1, fun xs F1 p1 H1 x1 k1 r1 => ?_⟩
    split at hf
    · rename_i v c2 e2
      refine ⟨B, F1, p1, as, c1, _, k1, r1, e2, fun y F2 p2 H2 x2 k2 r2 => ?_⟩
      split at hf
      · rename_i w c3 e3
        refine ⟨B, F2, p2, sl, c2, _, _, r.go (x1.trans x2) k2, e3, fun z F3 p3 H3 x3 k3 r3 => ?_⟩
        split at hf
        · rename_i e4
          refine g2.go k3 (r2.mono x3) r3 e4 fun u F4 H4 x4 k4 r4 => ?_
          cases r4
          exact ⟨true, rfl, iteT ⟨B, F4, p3, sl, _, _, r.go ((x1.trans x2).trans (x3.trans x4)) k4, hf, q⟩⟩
        · rename_i e4
          refine g2.go k3 (r2.mono x3) r3 e4 fun u F4 H4 x4 k4 r4 => ?_
          cases r4
          exact ⟨false, rfl, iteF ⟨B, F4, p3, sl, _, _, r.go ((x1.trans x2).trans (x3.trans x4)) k4, hf, q⟩⟩
        · cases hf
      · cases hf
    · rename_i x f d c2 e2
      cases hf
      exact ⟨B, F1, p1, as, c1, _, k1, r1, e2, fun cls dd F2 p2 H2 x2 k2 ea => q F2 p2 σ H2 cls dd (r.go (x1.trans x2) k2) ea⟩
    · cases hf
  · cases hf
end

/-! ### try .. except x as n -/
def clr (i : Nat) : Out → Option Out
  | .nxt sl cs => some (.nxt (sl.set i none) cs)
  | .ret v cs => some (.ret v cs)
  | .brk sl cs => some (.brk (sl.set i none) cs)
  | .cnt sl cs => some (.cnt (sl.set i none) cs)
  | .exc _ _ _ _ _ => none
open Classical in
noncomputable def sTry (x : Str) (i : Nat) (body : SF) (g : Addr → Addr → SF) : SF := fun sl cs => match body sl cs with
  | some (.exc y f d sl1 cs1) => if y = x then (if h : ∃ o, ∀ a dd, (g a dd (sl1.set i (some (.ex a dd f d))) cs1).bind (clr i) = some o then some (choose h) else none) else none
  | r => r
theorem sTry_ex {x f : Str} {i : Nat} {body : SF} {g : Addr → Addr → SF} {sl sl1 : Sl} {cs cs1 : Cs} {d : PyData} {o : Out} (hb : body sl cs = some (.exc x f d sl1 cs1)) (h : ∀ a dd, (g a dd (sl1.set i (some (.ex a dd f d))) cs1).bind (clr i) = some o) : sTry x i body g sl cs = some o := by
  have hx : ∃ o, ∀ a dd, (g a dd (sl1.set i (some (.ex a dd f d))) cs1).bind (clr i) = some o := ⟨o, h⟩
  unfold sTry
  rw [hb]
  dsimp only
  rw [if_pos rfl, dif_pos hx]
  have h1 := Classical.choose_spec hx
  have h2 := (h1 0 0).symm.trans (h 0 0)
  exact h2
theorem sTry_ok {x : Str} {i : Nat} {body : SF} {g : Addr → Addr → SF} {sl : Sl} {cs : Cs} {o : Out} (hb : body sl cs = some o) (h : ∀ x f d sl cs, o ≠ .exc x f d sl cs) : sTry x i body g sl cs = some o := by
  unfold sTry
  rw [hb]
  cases o with
  | exc x f d sl cs => exact (h _ _ _ _ _ rfl).elim
  | _ => rfl
theorem SOk.clear {F : Hp} {ps : List Addr} {sl : Sl} {σ : L2.St} (h : SOk F ps sl σ) (i : Nat) (v : Option V) : SOk F ps (sl.set i none) (σ.set i v) := fun j w q => by
  by_cases e : i = j
  · subst e
    by_cases hi : i < sl.length
    · rw [List.getElem?_set_self hi] at q
      cases q
    · rw [List.getElem?_eq_none (by simpa using hi)] at q
      cases q
  · rw [List.getElem?_set_ne e] at q ⊢
    exact h j w q
theorem Rdy.clear {B : Base} {F H : Hp} {ps : List Addr} {sl : Sl} {cs : Cs} {σ : L2.St} (r : Rdy B F ps sl cs σ H) (i : Nat) : Rdy B F ps (sl.set i none) cs (σ.set i none) H :=
  ⟨r.c, r.s.clear i none, by rw [List.length_set, List.length_set, r.l]⟩
section
variable {X : Cx} {W : WX} {x n : Str} {i : Nat} {body suite : List Stmt} {b₀ : Stmt} {np pos pos' : Pos} {tb : SF} {g : Addr → Addr → SF} {c : Addr}
abbrev W0 : WX := fun _ _ _ _ => False
def tSu (mg : Str → Option Value) (x : Str) (g : Addr → Addr → SF) (a : Addr) (cls : Value) (d : Option Addr) : TS := fun D σ H => ∃ (C dd : Addr), mg x = some (.ref C) ∧ cls = .ref C ∧ d = some dd ∧ tS mg W0 (g a dd) D σ H
theorem pxs_try (hN : X.N.Nodup) (hc : X.mg x = some (.ref c)) (hx : PySem.W.exmOne X.K (.ref c) (.ref c) = some true) (tk : L2N.Takes X W)
    (hb : ∀ (W : WX) (pn : List (Addr × Obj)) (xe : Value → Shared → Prop), L2N.Takes (X.tr pn xe) W → PassesOwn (model X.prog X.w) X.A X.env xe → PSs (X.tr pn xe) body (tS X.mg W tb))
    (hsu : ∀ (a dd : Addr) (oe : Obj) (pn : List (Addr × Obj)), L2N.Zn (.ref c) (some dd) oe → (∃ vs, oe.data = .fields vs) → PSs (X.suite a ((a, oe) :: pn)) (b₀ :: suite) (tS X.mg W0 (g a dd)))
    (hs : X.stack = X.env :: X.outer := by rfl) (hf : X.env.frame = some X.env.locals := by rfl) (hi : X.N[i]? = some n := by rfl) (hln : X.env.kindOf n = some .local := by rfl) (hg : Gl X x := by rfl) (hdb : (x == ("__debug__" : Str)) = false := by decide) :
    PS X (.Try body [.ExceptHandler (some (.Name x np)) (some n) (b₀ :: suite) pos'] [] [] pos) (tS X.mg W (sTry x i tb g)) :=
  PS.to (L2N.ps_try_as (tb := fun W => tS X.mg W tb) (ts := tSu X.mg x g) (Wout := W) (c := .ref c) hs hf hN hi hln ⟨hg, hdb, .inl hc⟩ tk hb (fun a oe cls d pn hz hv => ⟨fun pins s σ H D I ⟨C, dd, e1, e2, e3, h⟩ => by
    rw [hc] at e1
    cases e1
    subst e2
    subst e3
    exact (hsu a dd oe pn hz hv).run pins s σ H D I h⟩)) fun D σ H ⟨B, F, ps, sl, cs, o, r, hf, q⟩ => by
    unfold sTry at hf
    split at hf
    · rename_i y f d sl1 cs1 e1
      split at hf
      · rename_i ey
        split at hf
        · rename_i hx2
          refine ⟨B, F, ps, sl, cs, _, r, e1, fun F1 p1 σ1 H1 cls dd r1 ea => ?_⟩
          obtain ⟨C, da, v, a1, a2, a3, a4, a5⟩ := ea
          rw [ey, hc] at a1
          cases a1
          subst a2
          subst a3
          refine ⟨true, hx, fun _ a na => ?_, fun z => Bool.noConfusion z⟩
          have hx3 := Classical.choose_spec hx2 a da
          have eo := Option.some.inj hf
          rw [eo] at hx3
          cases hg2 : g a da (sl1.set i (some (.ex a da f d))) cs1 with
          | none =>
            rw [hg2] at hx3
            cases hx3
          | some o2 =>
            rw [hg2] at hx3
            have hx4 : clr i o2 = some o := hx3
            refine ⟨c, da, hc, rfl, rfl, B, F1, p1, _, cs1, o2, ⟨r1.c, r1.s.set r1.l (v := .ex a da f d) ⟨rfl, v, a4, a5⟩ i, by rw [List.length_set, List.length_set, r1.l]⟩, hg2, ?_⟩
            cases o2 with
            | nxt sl2 cs2 =>
              cases hx4
              exact fun F2 p2 σ2 H2 r2 => q F2 p2 _ H2 (r2.clear i)
            | ret w cs2 =>
              cases hx4
              exact fun z F2 p2 H2 k2 r2 => q z F2 p2 H2 k2 r2
            | brk sl2 cs2 =>
              cases hx4
              exact fun F2 p2 σ2 H2 r2 => q F2 p2 _ H2 (r2.clear i)
            | cnt sl2 cs2 =>
              cases hx4
              exact fun F2 p2 σ2 H2 r2 => q F2 p2 _ H2 (r2.clear i)
            | exc x f d sl2 cs2 => cases hx4
        · cases hf
      · cases hf
    · rename_i hn
      refine ⟨B, F, ps, sl, cs, o, r, hf, ?_⟩
      cases o with
      | nxt a b => exact q
      | ret v b => exact q
      | brk a b => exact q
      | cnt a b => exact q
      | exc y f d a b => exact (hn _ _ _ _ _ hf).elim
end
end DX
set_option maxHeartbeats 1000000
/-! DX, tenth part: inside an except suite; __init__; _law_feed; the law. -/
namespace DX
open PySem L2 PySem.Spec PyProof.Rows
open L2H (RoomH FnH cxH fn_ofH HotC pe_callH Hot1)

/-! ### isinstance(e, C), e an own exception with a dict -/
section
variable {prog : Program} {w : World} {A : Around} {E : Value → Shared → Prop} {s : Shared} {K : PySem.W.Frag} {x D : Addr} {ox : Obj}
theorem its_class {od : Option Obj} {Q : Option Value → Shared → Prop} (C : ExcC K D) (hp : K.In s.heap) (I : PySem.W.InstAt s.heap x ox D od)
    (h : Q (some (.ref D)) { s with toks := s.toks + 1 }) : wpAny (model prog w) A (getAttr? (.ref x) "__class__") Q E s := by
  have fo : PySem.W.findObj K D od "__class__" = some (.bind (.builtin "getset_descriptor.__get__") (.builtin "object.__class__")) := by
    obtain ⟨cd, hc, _⟩ := PySem.W.any_some C.hd
    unfold PySem.W.findObj
    rw [hc, Option.bind_some, C.ha, Option.bind_some]
    simp [C.hn, C.ht]
  obtain ⟨hh, gg, dd, tt, oo⟩ := s
  have lk0 := I.type (M := model prog w)
  have lk1 := PySem.W.looks_findIn (M := model prog w) hp C.hg
  have lk2 := PySem.W.looks_findIn (M := model prog w) hp C.hk
  have lk3 := PySem.W.looks_find (M := model prog w) hp I fo
  have isB : PySem.W.Looks (model prog w) hh (isInstance (.ref x) (.type "BaseException")) true := lk0.andThen (PySem.W.looks_subIn hp C.hs)
  have z2 : (Value.builtin "BaseException.__getattribute__" == Value.builtin "object.__getattribute__") = false := by decide +kernel
  have z1 : (onTheHeap (Value.ref D) && Value.builtin "BaseException.__getattribute__" == Value.builtin "object.__getattribute__") = false := by rw [z2] <;> rfl
  have z0 : (false && onTheHeap (Value.builtin "BaseException.__getattribute__")) = false := rfl
  unfold getAttr? getAttrBy? getAttrBy
  refine wpAny_bind (wpAny_mkText (wpAny_bind (wpAny_attempt (wpAny_holding (wpAny_bind (lk0.at (wpAny_bind (lk1.at ?_))))))))
  show wpAny _ _ (if (onTheHeap (Value.ref D) && Value.builtin "BaseException.__getattribute__" == Value.builtin "object.__getattribute__") = true then _ else _) _ _ _
  rw [z1, if_neg Bool.false_ne_true]
  unfold getAttrByItsOwn hookBefore
  refine wpAny_bind ?_
  rw [if_pos (show onTheHeap (Value.ref D) = true from rfl)]
  refine lk2.at (wpAny_bind (wpAny_attempt (wpAny_holding ?_)))
  unfold callGetattribute
  rw [z0, if_neg Bool.false_ne_true]
  unfold boundAndCalled
  rw [PySem.F.excAttr_ValueError.ga.bind (.ref x)]
  refine wpAny_bind (wpAny_pure ?_)
  show wpAny _ _ (call (.builtin "BaseException.__getattribute__") [.ref x, .str "__class__" tt]) _ _ _
  refine wpAny_call (codeAny_call_builtin PySem.F.excAttr_ValueError.ga.plain PySem.F.entry_bexc_ga ?_)
  refine @PySem.W.check_slot (model prog w) _ _ ⟨hh, gg, dd, tt + 1, oo⟩ "BaseException.__getattribute__" "BaseException" "__getattribute__" (.ref x) [.str "__class__" tt] [] _ (by decide +kernel) (by decide +kernel)
    isB (PySem.F.args_bexc_ga (.ref x) (.str "__class__" tt)) ?_
  unfold Builtin.«object.__getattribute__»
  refine wpAny_bind (wpAny_of_eq (a := ((Value.ref x : Value), [Value.str "__class__" tt])) (by first | rfl | (simp only [slotArgs]; rfl)) ?_)
  refine wpAny_bind (wpAny_pure (wpAny_bind (lk0.at (wpAny_bind (lk3.at ?_)))))
  show wpAny _ _ (holding [Value.builtin "object.__class__"] (call (.builtin "getset_descriptor.__get__") [.builtin "object.__class__", .ref x, .ref D]) >>= ret) _ _ _
  refine wpAny_bind (wpAny_holding (wpAny_call (PySem.W.class_get (s := ⟨hh, gg, dd, tt + 1, oo⟩) (ox := ox) (od := od) hp I C.hm (wpAny_pure ?_))))
  show wpAny _ _ (handedOut (.ref D)) _ _ _
  rw [PySem.W.handedOut_of (v := .ref D) rfl]
  first
    | exact wpAny_pure (wpAny_pure h)
    | exact wpAny_pure h
    | exact wpAny_pure (wpAny_bind (wpAny_pure (wpAny_pure h)))
theorem its_kit {od : Option Obj} (C : ExcC K D) : PySem.W.KitX K (.ref x) (.ref D) (fun h => PySem.W.InstAt h x ox D od) where
  ty := fun _ _ _ I => I.type
  it := fun _ _ hp _ => by
    obtain ⟨cd, hc, _⟩ := PySem.W.any_some C.hd
    unfold PySem.W.clsIn at hc
    split at hc
    · rename_i e
      intro A' Q' E' s' k q
      unfold isType loadHead
      exact wpAny_bind (wpAny_loadPart (k _ _ (hp _ _ e)) (wpAny_pure q))
    · cases hc
  ne := fun h tp _ its n sl hp e => by
    obtain ⟨cd, hc, _⟩ := PySem.W.any_some C.hd
    refine Bool.eq_false_iff.mpr fun z => ?_
    have ee : D = tp := Value.ref.inj (beq_iff_eq.mp z)
    subst ee
    unfold PySem.W.clsIn at hc
    split at hc
    · rename_i e2
      have z2 := (hp _ _ e2).symm.trans e
      cases z2
    · cases hc
  ca := fun hp I k => its_class C hp I k
end
/-- e is the exception that is held (slot i): its field -/
def dXf (i : Nat) (a dd : Addr) (f : Str) : EF := fun sl cs => match sl[i]? with
  | some (some (.ex a' dd' f' d)) => if a' = a ∧ dd' = dd ∧ f' = f then some (.fr d, cs) else none
  | _ => none
def dXi (i : Nat) (a dd : Addr) (b : Bool) : EF := fun sl cs => match sl[i]? with
  | some (some (.ex a' dd' _ _)) => if a' = a ∧ dd' = dd then some (.fr (.bool b), cs) else none
  | _ => none
section
variable {X : Cx} {a dd C fI : Addr} {oe : Obj} {pn : List (Addr × Obj)} {pos p p2 p3 : Pos} {x n f : Str}
theorem px_xf (E : EC X.K X.mg x f C fI) (hz : L2N.Zn (.ref C) (some dd) oe) (hf : ∃ vs, oe.data = .fields vs) (i : Nat) (hN : X.N[i]? = some n := by rfl)
    (hv : Vis X.env.scope n := by first | exact Or.inl rfl | exact Or.inr (Or.inl rfl) | exact Or.inr (Or.inr rfl)) (hd : (n == ("__debug__" : Str)) = false := by decide) (hcd : (n == ("__classdict__" : Str)) = false := by decide)
    (hb : attributeBase (.Name n p) f X.env (eval (.Name n p) X.env) = eval (.Name n p) X.env := by rfl) :
    PE (X.suite a ((a, oe) :: pn)) (.Attribute (.Name n p) f pos) (tD (dXf i a dd f)) :=
  PE.to (pe_xf E.xf E.noF hz.zc hf (pe_var (X := X.suite a ((a, oe) :: pn)) (i := i) hN hv hd hcd) hb) fun σ H Q ⟨B, F, ps, sl, cs, v, cs', r, h, k⟩ => by
    unfold dXf at h
    split at h
    · rename_i a' dd' f' d e
      split at h
      · rename_i z
        obtain ⟨rfl, rfl, rfl⟩ := z
        cases h
        obtain ⟨y, h1, h2, u, h3, h4⟩ := r.s _ _ e
        subst h2
        exact ⟨_, h1, rfl, rfl, dd', [(f', u)], u, rfl, r.c.fH _ _ h3, by rw [lookup_put, if_pos rfl], k _ _ _ _ Ext.refl r.c h4⟩
      · cases h
    · cases h
theorem call_isX (E : ExcC X.K C) (hz : L2N.Zn (.ref C) (some dd) oe) (hf : ∃ vs, oe.data = .fields vs) : CallR (X.suite a ((a, oe) :: pn)) (.builtin "isinstance") (fun xs H Q => ∃ (c : V) (cv : Value) (b : Bool), (∃ fs, H dd = some (.xd fs)) ∧ xs = [.ref a, c] ∧ (∀ u, RelV c u → u = cv) ∧ PySem.W.kitOne X.K (.ref C) cv = some b ∧ Q (.bl b) H) := by
  intro pins s σ H xs us Q I r h
  obtain ⟨c, cv, b, ⟨fs, ho⟩, rfl, hcv, e, q⟩ := h
  cases r with
  | cons rx rr =>
    cases rr with
    | cons rt rr =>
      cases rr
      cases rx
      have ec := hcv _ rt
      subst ec
      obtain ⟨hget, _⟩ := I.pin (a, oe) (List.mem_append.mpr (.inl List.mem_cons_self))
      obtain ⟨vs, hv⟩ := hf
      have hx : ObjOk X.prog X.w H s.heap dd (.xd fs) := I.hok dd _ ho
      obtain ⟨mA, hns, _⟩ := hx
      obtain ⟨od, hod, _⟩ := lookIn_ns hns
      have J : PySem.W.InstAt s.heap a oe C (some od) := by
        obtain ⟨oc, od', oda, osl⟩ := oe
        obtain ⟨h1, h2, _⟩ := hz
        dsimp only at h1 h2 hv
        subst h1 h2 hv
        exact ⟨hget, rfl, rfl, hod⟩
      exact PySem.W.kia_one (its_kit E) I.kIn J e (fun z => nomatch z) fun tk => ⟨.bl b, H, I.kept (t' := tk) fun _ _ z => z, rfl, q⟩
theorem px_isx {c : V} {cv : Value} {b : Bool} {y : Str} (E : ExcC X.K C) (hz : L2N.Zn (.ref C) (some dd) oe) (hf : ∃ vs, oe.data = .fields vs) (i : Nat) (hy : PE (X.suite a ((a, oe) :: pn)) (.Name y p3) (tC c)) (hcv : ∀ u, RelV c u → u = cv) (hk : PySem.W.kitOne X.K (.ref C) cv = some b)
    (hm : X.mg "isinstance" = none) (hg : Gl X "isinstance" := by rfl) (hN : X.N[i]? = some n := by rfl)
    (hv : Vis X.env.scope n := by first | exact Or.inl rfl | exact Or.inr (Or.inl rfl) | exact Or.inr (Or.inr rfl)) (hd : (n == ("__debug__" : Str)) = false := by decide) (hcd : (n == ("__classdict__" : Str)) = false := by decide)
    (hs : starEach [.Name n p2, .Name y p3] X.env = (false, eval (.Name n p2) X.env) :: starEach [.Name y p3] X.env := by rfl) (hs2 : starEach [.Name y p3] X.env = (false, eval (.Name y p3) X.env) :: starEach [] X.env := by rfl) (hpl : (backTo pos (starEach [.Name y p3] X.env)).any (·.1) = false := by rfl) :
    PE (X.suite a ((a, oe) :: pn)) (.Call (.Name "isinstance" p) [.Name n p2, .Name y p3] [] pos) (tD (dXi i a dd b)) :=
  PE.to (pe_callB (X := X.suite a ((a, oe) :: pn)) (call_isX E hz hf) hg hm boot_isinstance (pa_cons (pe_var (X := X.suite a ((a, oe) :: pn)) (i := i) hN hv hd hcd) (pa_cons hy pa_nil hs2) hs) (by decide) (by decide) hs hpl) fun σ H Q ⟨B, F, ps, sl, cs, v, cs', r, h, k⟩ => by
    unfold dXi at h
    split at h
    · rename_i a' dd' f' d e
      split at h
      · rename_i z
        obtain ⟨rfl, rfl⟩ := z
        cases h
        obtain ⟨y, h1, h2, u, h3, h4⟩ := r.s _ _ e
        subst h2
        exact ⟨_, h1, ⟨c, cv, b, ⟨_, r.c.fH _ _ h3⟩, rfl, hcv, hk, k _ _ _ _ Ext.refl r.c (.bl _)⟩⟩
      · cases h
    · cases h
/-- a hot call: of a def that does not raise, inside a suite -/
theorem px_hot {k : Nat} {fn : Addr} {fd : FuncData} {ps : List Str} {y : Str} {e : Expr} {es : List Expr} {den : FF} {g : AF} (hz : L2N.Zn (.ref C) (some dd) oe) (hf : ∃ vs : Array Value, oe.data = .fields vs) (F : FnH X.prog X.w X.K X.mg X.base CX0 k fn fd ps (spN den)) (hr : Room k X.A) (hm : X.mg y = some (.ref fn)) (hk : PySem.W.keepIn X.K (.ref fn) = true) (hb : Binds X.K fd ps [])
    (ha : PA (X.suite a ((a, oe) :: pn)) (e :: es) (tA g)) (hg : Gl X y := by rfl)
    (hdb : (y == ("__debug__" : Str)) = false := by decide) (he : starEach (e :: es) X.env = (false, eval e X.env) :: starEach es X.env := by rfl) (hpl : (backTo pos (starEach es X.env)).any (·.1) = false := by rfl) :
    PE (X.suite a ((a, oe) :: pn)) (.Call (.Name y p) (e :: es) [] pos) (tD (dFn den g)) := by
  obtain ⟨vs, hv⟩ := hf
  have rh : RoomH k (X.suite a ((a, oe) :: pn)).A := by
    have r1 := L2H.roomH_of hr
    exact ⟨r1.dp, r1.un⟩
  refine PE.to (pe_callH (X := X.suite a ((a, oe) :: pn)) (E := fun _ => E0) F rh ⟨(a, oe), ⟨rfl, vs, hv, hz.2.2 vs hv⟩, List.mem_cons_self ..⟩ hg hm hk hb (fun _ _ _ _ _ _ _ z => z.elim) ha hdb he hpl) fun σ H Q h => ?_
  obtain ⟨B, F, ps, sl, cs, v, cs', r, hf, q⟩ := h
  unfold dFn at hf
  split at hf
  · rename_i as c1 e1
    split at hf
    · rename_i v1 c2 e2
      cases hf
      exact ⟨B, F, ps, sl, cs, _, _, r, e1, fun xs F1 p1 H1 x1 k1 r1 => ⟨B, F1, p1, as, c1, _, _, k1, r1, e2, fun y F2 p2 H2 x2 k2 r2 => q _ _ _ _ (x1.trans x2) k2 r2⟩⟩
    · cases hf
  · cases hf
theorem px_glob {v : V} {u : Value} {d : PyData} (hm : X.mg x = some u) (r : RelV v u) (rd : ∀ F, Rp F v d) (hg : Gl X x := by rfl) (hdb : (x == ("__debug__" : Str)) = false := by decide) : PE X (.Name x pos) (tD (dK d)) := px_const (pe_glob hg hm r hdb) rd
end

/-! ### __init__, _law_feed, the law -/
section
variable {P : Program} {w : World} {K : PySem.W.Frag} {mg : Str → Option Value} {base : Heap} {x qual : Str} {st : Stmt} {f : Addr} {fd : FuncData} {N ps : List Str} {k m : Nat}
theorem fnIni {fld : Str} {p1 p2 p3 p4 : Pos} (F : Fun K x qual st f fd) (S : FnScope ["self", fld] ["self", fld] (defScope st)) (hb : defBody st = [.Assign [.Attribute (.Name "self" p1) fld p2] (.Name fld p3) p4])
    (hv : ∀ (cdv : Value) (A : Around) (outer : List Env) (s : Shared) (H : Hp) (E : XK), Vis (cxOf CX0 P w K mg base ["self", fld] qual (defScope st) f cdv A outer s H E).nox.env.scope fld ∧ Vis (cxOf CX0 P w K mg base ["self", fld] qual (defScope st) f cdv A outer s H E).nox.env.scope "self" ∧
      swapsWith (.Name fld p3) (some (.Attribute (.Name "self" p1) fld p2)) p4.line (cxOf CX0 P w K mg base ["self", fld] qual (defScope st) f cdv A outer s H E).nox.env = pure false) (hd : (fld == ("__debug__" : Str)) = false) (hcd : (fld == ("__classdict__" : Str)) = false) :
    FnOk P w K mg base CX0 (k + 1) f fd ["self", fld] (spIni K fld) := by
  refine F.ok S (fun vs H Q E h => ?_) (fun cdv A outer s H vs Q E hr h => ⟨tOst K fld (tVar 0) (tVar 1), ?_, ?_⟩)
  · obtain ⟨a, C, v, rfl, _⟩ := h
    rfl
  · rw [hb]
    obtain ⟨h1, h2, h3⟩ := hv cdv A outer s H E
    exact pss_one (ps_ost (pe_var (i := 0) rfl h2 (by decide) (by decide)) (pe_var (i := 1) rfl h1 hd hcd) h3)
  · obtain ⟨a, C, v, rfl, hx, hn, ha, q⟩ := h
    exact ⟨v, rfl, _, rfl, a, C, rfl, hx, hn, .inl ⟨ha, fun dx n ne => q dx n ne⟩⟩
def feed0 (ns : List Int) : Cell := .lst [.list (ns.map .int), .int 0, .int 0, .int 1]
def spFeed (K : PySem.W.Frag) : Sp := fun xs H Q _ => ∃ (B : Base) (F : Hp) (ps : List Addr) (cs : Cs) (a : Addr) (ns : List Int), COk B F ps cs H ∧ xs = [.ref a] ∧ SqL K H a (ns.map V.int) ∧
  ∀ p F' H', Ext F F' ps (ps ++ [p]) → COk B F' (ps ++ [p]) (cs ++ [some (feed0 ns)]) H' → Q (.ref p) H'
def spLaw (K : PySem.W.Frag) : Sp := fun xs H Q _ => ∃ (a : Addr) (ns : List Int), xs = [.ref a] ∧ ns.length ≤ 63 ∧ Only H ∧ SqL K H a (ns.map V.int) ∧ ∀ H', Q (.bl true) H'
theorem feed_d {σ : L2.St} {H : Hp} {a : Addr} {ns : List Int} {B : Base} {F : Hp} {ps : List Addr} {cs : Cs} {D : Ends} (c : COk B F ps cs H) (hs : SqL K H a (ns.map V.int))
    (q : ∀ p F' H', Ext F F' ps (ps ++ [p]) → COk B F' (ps ++ [p]) (cs ++ [some (feed0 ns)]) H' → D.rt (.ref p) H') (h0 : σ[0]? = some (some (.ref a))) :
    tRet (tLst (tCons (fun σ H Q => tCons (tVar 0) tNil σ H fun xs H1 => ∃ p ys, xs = [.ref p] ∧ (SqL K H1 p ys ∨ SqT K H1 p ys) ∧ ∀ l, H1 l = none → Q (.ref l) (upd H1 l (.lst ys))) (tCons (tC (.int 0)) (tCons (tC (.int 0)) (tCons (tC (.int 1)) tNil))))) D σ H := by
  refine ⟨_, h0, a, _, rfl, .inl hs, fun l hl => ?_⟩
  refine ⟨by show 4 ≤ sizeLine; rw [sizeLine_eq]; decide, fun p hp => ?_⟩
  have k1 := c.newF hl (.lst (ns.map V.int))
  have k2 := k1.newC hp (o := .lst [.ref l, .int 0, .int 0, .int 1]) (x := feed0 ns) ⟨_, upd_same, .cons (.lst upd_same (RpAll.of_ints ns)) (.cons (.int 0) (.cons (.int 0) (.cons (.int 1) .nil)))⟩
  exact q p _ _ ((ext_newF c hl _).trans ⟨Same.refl _, List.prefix_append ps [p]⟩) k2
end
end DX
set_option maxHeartbeats 1000000
/-! DX, eleventh part: what the printed walks name. -/
namespace DX
open PySem L2 PySem.Spec PyProof.Rows
open L2H (RoomH FnH cxH fn_ofH HotC pe_callH Hot1)

theorem bt_len : bootBuiltins "len" = some (.builtin "len") := by decide +kernel
theorem bt_abs : bootBuiltins "abs" = some (.builtin "abs") := by decide +kernel
theorem bt_sum : bootBuiltins "sum" = some (.builtin "sum") := by decide +kernel
theorem bt_any : bootBuiltins "any" = some (.builtin "any") := by decide +kernel
theorem bt_all : bootBuiltins "all" = some (.builtin "all") := by decide +kernel
theorem bt_max : bootBuiltins "max" = some (.builtin "max") := by decide +kernel
theorem bt_min : bootBuiltins "min" = some (.builtin "min") := by decide +kernel
theorem bt_sorted : bootBuiltins "sorted" = some (.builtin "sorted") := by decide +kernel
theorem bt_int : bootBuiltins "int" = some (.type "int") := by decide +kernel
theorem bt_bool : bootBuiltins "bool" = some (.type "bool") := by decide +kernel
theorem bt_str : bootBuiltins "str" = some (.type "str") := by decide +kernel
theorem bt_list : bootBuiltins "list" = some (.type "list") := by decide +kernel
theorem bt_tuple : bootBuiltins "tuple" = some (.type "tuple") := by decide +kernel
theorem bt_dict : bootBuiltins "dict" = some (.type "dict") := by decide +kernel
theorem bt_ValueError : bootBuiltins "ValueError" = some (.type "ValueError") := by decide +kernel
def GlI (mg : Str → Option Value) (x : Str) (i : Int) : Prop := ∃ t, mg x = some (.int i t)
def GlS (mg : Str → Option Value) (x : Str) (z : Str) : Prop := PyData.strOk z = true ∧ ∃ t, mg x = some (.str z t)
section
variable {X : Cx} {x : Str} {pos : Pos}
theorem px_globI {i : Int} (h : GlI X.mg x i) (hg : Gl X x := by rfl) (hdb : (x == ("__debug__" : Str)) = false := by decide) : PE X (.Name x pos) (tD (dK (.int i))) := by
  obtain ⟨t, ht⟩ := h
  exact px_glob (v := .int i) ht ⟨t, rfl⟩ (fun _ => .int i) hg hdb
theorem px_globS {z : Str} (h : GlS X.mg x z) (hg : Gl X x := by rfl) (hdb : (x == ("__debug__" : Str)) = false := by decide) : PE X (.Name x pos) (tD (dK (.str z))) := by
  obtain ⟨hz, t, ht⟩ := h
  exact px_glob (v := .str z) ht ⟨t, rfl⟩ (fun _ => .str z hz) hg hdb
theorem takesN0 : L2N.Takes X (fun _ _ _ _ => False) := fun _ _ x => by
  obtain ⟨_, _, _, _, _, _, _, _, _, _, _, _, _, _, _, _, z⟩ := x
  exact z.elim
end
section
variable (P : Program) (w : World) (K : PySem.W.Frag) (mg : Str → Option Value) (base : Heap)
def Df (x : Str) (lev : Nat) (ps : List Str) (den : FF) : Prop := ∃ f fd, mg x = some (.ref f) ∧ PySem.W.keepIn K (.ref f) = true ∧ L2.Binds K fd ps [] ∧ FnOk P w K mg base CX0 lev f fd ps (spN den)
def Dr (x : Str) (lev : Nat) (ps : List Str) (den : FF) : Prop := ∃ f fd, mg x = some (.ref f) ∧ PySem.W.keepIn K (.ref f) = true ∧ L2.Binds K fd ps [] ∧ FnOk P w K mg base (L2N.CX P w) lev f fd ps (spX mg den)
def Dh (x : Str) (lev : Nat) (ps : List Str) (den : FF) : Prop := ∃ f fd, mg x = some (.ref f) ∧ PySem.W.keepIn K (.ref f) = true ∧ L2.Binds K fd ps [] ∧ FnH P w K mg base CX0 lev f fd ps (spN den)
def De (x f : Str) : Prop := ∃ C fI fd, EC K mg x f C fI ∧ FnOk P w K mg base CX0 1 fI fd ["self", f] (spIni K f) ∧ L2.Binds K fd ["self", f] []
end
section
variable (K : PySem.W.Frag) (mg : Str → Option Value)
def Dx (x y : Str) (b : Bool) : Prop := ∃ C D, mg x = some (.ref C) ∧ mg y = some (.ref D) ∧ PySem.W.kitOne K (.ref C) (.ref D) = some b
def DxB (x : Str) (T : String) (b : Bool) : Prop := ∃ C, mg x = some (.ref C) ∧ PySem.W.kitOne K (.ref C) (.type T) = some b
end
theorem law0 (H : Hp) : COk ⟨H, fun _ => none, []⟩ (fun _ => none) [] [] H where
  fH := fun _ _ h => nomatch h
  rH := Same.refl _
  f0 := fun _ _ h => nomatch h
  out := fun _ _ => rfl
  pre := List.prefix_refl _
  len := rfl
  cell := fun _ _ h => by simp at h
  inj := fun _ _ _ _ _ h => by simp at h
theorem law_sl {F : Hp} {p : Addr} {σ : L2.St} {i n : Nat} (hs : σ[i]? = some (some (.ref p))) : SOk F [p] ((List.replicate n none).set i (some (.ce 0))) σ := fun j v h => by
  by_cases e : i = j
  · subst e
    by_cases hi : i < n
    · rw [List.getElem?_set_self (by simpa using hi)] at h
      cases h
      exact ⟨_, hs, p, rfl, rfl⟩
    · rw [List.getElem?_eq_none (by simpa using hi)] at h
      cases h
  · rw [List.getElem?_set_ne e, List.getElem?_replicate] at h
    split at h <;> cases h
end DX
set_option maxHeartbeats 1000000
/-! DX, twelfth part: max and min with default=. -/
namespace DX
open PySem L2 PySem.Spec PyProof.Rows
def rDft (K : PySem.W.Frag) (best : List Int → Option Int) : List V → List V → Hp → VK → Prop := fun xs zs H Q => ∃ (a : Addr) (ns : List Int) (d : Int), xs = [.ref a] ∧ zs = [.int d] ∧ SqL K H a (ns.map V.int) ∧ match best ns with
  | some m => Q (.int m) H
  | none => Q (.int d) H
theorem ints_read {h : Heap} : ∀ {ns : List Int} {its : List Value}, Vals (ns.map V.int) its → ReadsAll h its (ns.map .int) []
  | [], its, r => by
    cases its with
    | nil => exact .nil
    | cons u us => cases r
  | n :: ns, its, r => by
    cases its with
    | nil => cases r
    | cons u us =>
      cases r with
      | cons a r =>
        obtain ⟨t, rfl⟩ := a
        exact ReadsAll.cons (.int n t) (ints_read r)
theorem ints_alike (ns : List Int) : PySem.W.AlikeAll (ns.map .int) := by
  refine ⟨fun x hx y hy => ?_, fun x hx => ?_⟩
  · obtain ⟨i, _, rfl⟩ := List.mem_map.mp hx
    obtain ⟨j, _, rfl⟩ := List.mem_map.mp hy
    simp only [PySem.W.alike]
  · obtain ⟨i, _, rfl⟩ := List.mem_map.mp hx
    exact fun z => nomatch z
theorem fold_max : ∀ (ns : List Int) (n : Int), ns.foldl max n = ns.foldl (fun a b => if a < b then b else a) n
  | [], _ => rfl
  | m :: ns, n => by
    rw [List.foldl_cons, List.foldl_cons, fold_max ns]
    congr 1
    split <;> omega
theorem fold_min : ∀ (ns : List Int) (n : Int), ns.foldl min n = ns.foldl (fun a b => if b < a then b else a) n
  | [], _ => rfl
  | m :: ns, n => by
    rw [List.foldl_cons, List.foldl_cons, fold_min ns]
    congr 1
    split <;> omega
section
variable {X : Cx}
theorem call_maxD {j : Nat} (hr : Room j X.A) : CallRK X (.builtin "max") ["default"] (rDft X.K maxI) := by
  intro pins s σ H xs zs us ws Q I r r2 h
  obtain ⟨a, ns, d, rfl, rfl, hs, q⟩ := h
  obtain ⟨its, rv, hl, _⟩ := I.list hs
  rw [Vals.ref1 r]
  cases r2 with
  | cons rd rn =>
    cases rn
    obtain ⟨td, rfl⟩ := rd
    have hz : PyData.depthAll (ns.map .int) = 0 := PySem.W.depth_ints ns
    refine PySem.W.max_list_default (as := []) hr.hd hl.isList (ints_read rv) (ints_alike ns) (by have := hr.un; rw [hz]; omega) (fun e h' tk k => ?_) fun y ys i v h' tk bs e hv rd k => ?_
    · cases ns with
      | nil => exact ⟨.int d, H, I.kept k, ⟨_, rfl⟩, q⟩
      | cons n ns => cases e
    · cases ns with
      | nil => cases e
      | cons n ns =>
        cases e
        rw [PySem.W.maxD_ints, fold_max] at rd
        cases rd
        exact ⟨.int _, H, I.kept k, ⟨_, rfl⟩, q⟩
theorem call_minD {j : Nat} (hr : Room j X.A) : CallRK X (.builtin "min") ["default"] (rDft X.K minI) := by
  intro pins s σ H xs zs us ws Q I r r2 h
  obtain ⟨a, ns, d, rfl, rfl, hs, q⟩ := h
  obtain ⟨its, rv, hl, _⟩ := I.list hs
  rw [Vals.ref1 r]
  cases r2 with
  | cons rd rn =>
    cases rn
    obtain ⟨td, rfl⟩ := rd
    have hz : PyData.depthAll (ns.map .int) = 0 := PySem.W.depth_ints ns
    refine PySem.W.min_list_default (as := []) hr.hd hl.isList (ints_read rv) (ints_alike ns) (by have := hr.un; rw [hz]; omega) (fun e h' tk k => ?_) fun y ys i v h' tk bs e hv rd k => ?_
    · cases ns with
      | nil => exact ⟨.int d, H, I.kept k, ⟨_, rfl⟩, q⟩
      | cons n ns => cases e
    · cases ns with
      | nil => cases e
      | cons n ns =>
        cases e
        rw [PySem.W.minD_ints, fold_min] at rd
        cases rd
        exact ⟨.int _, H, I.kept k, ⟨_, rfl⟩, q⟩
end
def dDft (best : List Int → Option Int) (f g : EF) : EF := fun sl cs => match f sl cs with
  | some (v, c1) => match g sl c1 with
    | some (.fr (.int d), c2) => match lsOf v c2 with
      | some ds => match insOf ds with
        | some ns => match best ns with
          | some m => some (.fr (.int m), c2)
          | none => some (.fr (.int d), c2)
        | none => none
      | none => none
    | _ => none
  | none => none
theorem ins_is : ∀ {ds : List PyData} {ns : List Int}, insOf ds = some ns → ds = ns.map .int
  | [], _, h => by
    cases h
    rfl
  | d :: ds, ns, h => by
    cases d <;> simp only [insOf] at h <;> try cases h
    rename_i i
    cases e : insOf ds with
    | none =>
      rw [e] at h
      cases h
    | some ms =>
      rw [e] at h
      cases h
      rw [ins_is e]
      rfl
section
variable {X : Cx} {x : Str} {id : String} {p pos kp : Pos} {a d : Expr} {best : List Int → Option Int}
theorem px_dft {f g : EF} (hc : CallRK X (.builtin id) ["default"] (rDft X.K best)) (hm : X.mg x = none) (hv : bootBuiltins x = some (.builtin id)) (ha : PE X a (tD f)) (hd : PE X d (tD g)) (hg : Gl X x := by rfl) (hn : x ≠ "__name__" := by decide) (hdb : (x == ("__debug__" : Str)) = false := by decide)
    (hs : starEach [a] X.env = (false, eval a X.env) :: starEach [] X.env := by rfl)
    (he : backTo pos (starEach [a] X.env) = (false, eval a X.env) :: backTo pos (starEach [] X.env) := by rfl) (hpl : (backTo pos (starEach [a] X.env)).any (·.1) = false := by rfl)
    (hall : (backToKw pos (keywordEach [⟨some "default", d, kp⟩] X.env)).all (·.1.isSome) = true := by rfl) (hnone : (backToKw pos (keywordEach [⟨some "default", d, kp⟩] X.env)).any (·.1.isNone) = false := by rfl)
    (hks : (backToKw pos (keywordEach [⟨some "default", d, kp⟩] X.env)).filterMap (·.1) = [("default" : Str)] := by rfl) :
    PE X (.Call (.Name x p) [a] [⟨some "default", d, kp⟩] pos) (tD (dDft best f g)) :=
  PE.to (pe_callBK hc hg hm hv (pa_cons ha pa_nil hs) (pk_cons hd pk_nil) hn hdb he hpl hall hnone hks) fun σ H Q ⟨B, F, ps, sl, cs, v, cs', r, hf, k⟩ => by
    unfold dDft at hf
    split at hf
    · rename_i w c1 e1
      split at hf
      · rename_i i c2 e2
        split at hf
        · rename_i ds e3
          split at hf
          · rename_i ns e4
            refine ⟨B, F, ps, sl, cs, _, _, r, e1, fun y F1 p1 H1 x1 k1 r1 => ⟨B, F1, p1, sl, _, _, _, r.go x1 k1, e2, fun z F2 p2 H2 x2 k2 r2 => ?_⟩⟩
            cases r2
            obtain ⟨b, vs, h1, h2, h3⟩ := ls_at k2 (r1.mono x2) e3
            subst h1
            have e5 := ins_is e4
            subst e5
            have e6 := RpAll.ints h3
            subst e6
            refine ⟨b, ns, i, rfl, rfl, SqL.of h2, ?_⟩
            split at hf
            · rename_i m e7
              cases hf
              exact k _ _ _ _ (x1.trans x2) k2 (.int _)
            · rename_i e7
              cases hf
              exact k _ _ _ _ (x1.trans x2) k2 (.int _)
          · cases hf
        · cases hf
      · cases hf
    · cases hf
end
section
variable {X : Cx} {k : Nat} {f : Addr} {fd : FuncData} {ps : List Str} {x : Str} {p pos : Pos} {e : Expr} {es : List Expr} {den : FF} {g : AF}
theorem c_eqS {X : Cx} {j : Nat} {a : Addr} {pn : List (Addr × Obj)} (hr : Room j X.A) : CmpD (X.suite a pn) .Eq oEq := ⟨_, op_eqD (X := X.suite a pn) hr.units, eq_g⟩
theorem c_neS {X : Cx} {j : Nat} {a : Addr} {pn : List (Addr × Obj)} (hr : Room j X.A) : CmpD (X.suite a pn) .NotEq oNe := ⟨_, op_neD (X := X.suite a pn) hr.units, ne_g⟩
theorem passN {X : Cx} : Passes (L2N.CX X.prog X.w) X E0 := fun _ _ _ _ _ _ _ h => by
  obtain ⟨_, _, _, _, _, _, _, _, _, _, _, _, z⟩ := h
  exact z.elim
/-- a def that may raise, where it does not -/
theorem px_callR (F : FnOk X.prog X.w X.K X.mg X.base (L2N.CX X.prog X.w) k f fd ps (spX X.mg den)) (hr : Room k X.A) (hm : X.mg x = some (.ref f)) (hk : PySem.W.keepIn X.K (.ref f) = true) (hb : Binds X.K fd ps []) (ha : PA X (e :: es) (tA g)) (hg : Gl X x := by rfl)
    (hdb : (x == ("__debug__" : Str)) = false := by decide) (he : starEach (e :: es) X.env = (false, eval e X.env) :: starEach es X.env := by rfl) (hpl : (backTo pos (starEach es X.env)).any (·.1) = false := by rfl) :
    PE X (.Call (.Name x p) (e :: es) [] pos) (tD (dFn den g)) := PE.to (pe_call F hr hg hm hk hb .nil passN ha hdb he hpl) callX_d
end
end DX
set_option maxHeartbeats 1000000
/-! DX, plain part: the rows of the dens, by application (printed by mkp.py). -/
namespace DX
open PySem L2 PySem.Spec PyProof.Rows

@[simp] theorem e_dFz (f : LF) (sl : Sl) (cs : Cs) : dFz f sl cs = (match f sl cs with
  | some (ds, cs') => some (.fr (.list ds), cs')
  | none => none) := Eq.trans rfl rfl
@[simp] theorem e_dCe (f : LF) (sl : Sl) (cs : Cs) : dCe f sl cs = (match f sl cs with
  | some (ds, cs') => some (.ce cs'.length, cs' ++ [some (.lst ds)])
  | none => none) := Eq.trans rfl rfl
@[simp] theorem e_dFr (f : EF) (sl : Sl) (cs : Cs) : dFr f sl cs = (match f sl cs with
  | some (v, cs1) => match fzV v cs1 with
    | some (d, cs2) => some (.fr d, cs2)
    | none => none
  | none => none) := Eq.trans rfl rfl
@[simp] theorem e_dV (i : Nat) (sl : Sl) (cs : Cs) : dV i sl cs = (match sl[i]? with
  | some (some v) => some (v, cs)
  | _ => none) := Eq.trans rfl rfl
@[simp] theorem e_dK (d : PyData) (u0 : Sl) (cs : Cs) : dK d u0 cs = (some (.fr d, cs)) := Eq.trans rfl rfl
@[simp] theorem e_opL (op : Op2L) (a : Val) (b : Val) (cs : Cs) : opL op a b cs = (match op a b cs with
  | some ds => some (.fr (.list ds))
  | none => none) := Eq.trans rfl rfl
@[simp] theorem e_opOr (f g : Op2) (a : Val) (b : Val) (cs : Cs) : opOr f g a b cs = (match f a b cs with
  | some v => some v
  | none => g a b cs) := Eq.trans rfl rfl
@[simp] theorem e_d2 (op : Op2) (f g : EF) (sl : Sl) (cs : Cs) : d2 op f g sl cs = (match f sl cs with
  | some (a, c1) => match g sl c1 with
    | some (b, c2) => match op a b c2 with
      | some v => some (v, c2)
      | none => none
    | none => none
  | none => none) := Eq.trans rfl rfl
@[simp] theorem e_d2L (op : Op2L) (f g : EF) (sl : Sl) (cs : Cs) : d2L op f g sl cs = (match f sl cs with
  | some (a, c1) => match g sl c1 with
    | some (b, c2) => match op a b c2 with
      | some v => some (v, c2)
      | none => none
    | none => none
  | none => none) := Eq.trans rfl rfl
@[simp] theorem e_i2 (g : Int → Int → PyData) (a : Val) (b : Val) (u2 : Cs) : i2 g a b u2 = (match inOf a, inOf b with
  | some i, some j => some (.fr (g i j))
  | _, _ => none) := Eq.trans rfl rfl
@[simp] theorem e_i2c (C : Int → Int → Bool) (g : Int → Int → PyData) (a : Val) (b : Val) (u2 : Cs) : i2c C g a b u2 = (match inOf a, inOf b with
  | some i, some j => if C i j = true then some (.fr (g i j)) else none
  | _, _ => none) := Eq.trans rfl rfl
@[simp] theorem e_s2 (C : Str → Str → Bool) (g : Str → Str → PyData) (a : Val) (b : Val) (u2 : Cs) : s2 C g a b u2 = (match stOf a, stOf b with
  | some i, some j => if C i j = true then some (.fr (g i j)) else none
  | _, _ => none) := Eq.trans rfl rfl
@[simp] theorem e_l2 (C : List PyData → List PyData → Bool) (g : List PyData → List PyData → List PyData) (a : Val) (b : Val) (cs : Cs) : l2 C g a b cs = (match lsOf a cs, lsOf b cs with
  | some i, some j => if C i j = true then some (g i j) else none
  | _, _ => none) := Eq.trans rfl rfl
@[simp] theorem e_oAddL (a b : Val) (cs : Cs) : oAddL  a b cs = ((l2 (fun i j => decide (i.length + j.length ≤ 16777216)) (· ++ ·)) a b cs) := Eq.trans rfl rfl
@[simp] theorem e_oAdd (a b : Val) (cs : Cs) : oAdd  a b cs = ((opOr (i2 fun i j => .int (i + j)) (opOr (s2 (fun i j => decide (i.length + j.length ≤ 16777216)) fun i j => .str (i ++ j)) (opL oAddL))) a b cs) := Eq.trans rfl rfl
@[simp] theorem e_oSub (a b : Val) (cs : Cs) : oSub  a b cs = ((i2 fun i j => .int (i - j)) a b cs) := Eq.trans rfl rfl
@[simp] theorem e_oRep (a : Val) (b : Val) (cs : Cs) : oRep  a b cs = (match lsOf a cs, inOf b with
  | some ds, some k => if decide (-(2 ^ 63) ≤ k) && decide (k < 2 ^ 63) && decide (ds.length * k.toNat ≤ 16777216) then some (List.replicate k.toNat ds).flatten else none
  | _, _ => none) := Eq.trans rfl rfl
@[simp] theorem e_oMul (a b : Val) (cs : Cs) : oMul  a b cs = ((opOr (i2c cMul fun i j => .int (i * j)) (opL oRep)) a b cs) := Eq.trans rfl rfl
@[simp] theorem e_oDiv (a b : Val) (cs : Cs) : oDiv  a b cs = ((i2c (fun _ j => decide (0 < j) && decide (j < 1073741824)) fun i j => .int (i / j)) a b cs) := Eq.trans rfl rfl
@[simp] theorem e_oMod (a b : Val) (cs : Cs) : oMod  a b cs = ((i2c (fun _ j => decide (0 < j)) fun i j => .int (i % j)) a b cs) := Eq.trans rfl rfl
@[simp] theorem e_oPow (a b : Val) (cs : Cs) : oPow  a b cs = ((i2c (fun i j => decide (0 ≤ j) && decide (j ≤ 1000000) && decide (i.natAbs < 2 ^ 64)) fun i j => .int (i ^ j.toNat)) a b cs) := Eq.trans rfl rfl
@[simp] theorem e_ib (g : Int → Int → Bool) (a b : Val) (cs : Cs) : ib g a b cs = ((i2 fun i j => .bool (g i j)) a b cs) := Eq.trans rfl rfl
@[simp] theorem e_sb (g : Str → Str → Bool) (a b : Val) (cs : Cs) : sb g a b cs = ((s2 (fun _ _ => true) fun i j => .bool (g i j)) a b cs) := Eq.trans rfl rfl
@[simp] theorem e_oLt (a b : Val) (cs : Cs) : oLt  a b cs = ((opOr (ib fun i j => decide (i < j)) (sb fun i j => decide (i.cps.toList < j.cps.toList))) a b cs) := Eq.trans rfl rfl
@[simp] theorem e_oLe (a b : Val) (cs : Cs) : oLe  a b cs = ((opOr (ib fun i j => decide (i ≤ j)) (sb fun i j => !decide (j.cps.toList < i.cps.toList))) a b cs) := Eq.trans rfl rfl
@[simp] theorem e_oGt (a b : Val) (cs : Cs) : oGt  a b cs = ((opOr (ib fun i j => decide (j < i)) (sb fun i j => decide (j.cps.toList < i.cps.toList))) a b cs) := Eq.trans rfl rfl
@[simp] theorem e_oGe (a b : Val) (cs : Cs) : oGe  a b cs = ((opOr (ib fun i j => decide (j ≤ i)) (sb fun i j => !decide (i.cps.toList < j.cps.toList))) a b cs) := Eq.trans rfl rfl
@[simp] theorem e_oEq (a : Val) (b : Val) (cs : Cs) : oEq  a b cs = (match dOf a cs, dOf b cs with
  | some d, some e => if decide (d.depth ≤ 64) && decide (e.depth ≤ 64) then some (.fr (.bool (PyData.eqv d e))) else none
  | _, _ => none) := Eq.trans rfl rfl
@[simp] theorem e_oNe (a : Val) (b : Val) (cs : Cs) : oNe  a b cs = (match dOf a cs, dOf b cs with
  | some d, some e => if decide (d.depth ≤ 64) && decide (e.depth ≤ 64) then some (.fr (.bool (!PyData.eqv d e))) else none
  | _, _ => none) := Eq.trans rfl rfl
@[simp] theorem e_oInD (neg : Bool) (a : Val) (b : Val) (cs : Cs) : oInD neg a b cs = (match dOf a cs, sqOf b cs with
  | some d, some ds => if d.depth ≤ 64 then some (.fr (.bool (if neg then !ds.any fun z => PyData.eqv z d else ds.any fun z => PyData.eqv z d))) else none
  | _, _ => none) := Eq.trans rfl rfl
@[simp] theorem e_oInS (neg : Bool) (a : Val) (b : Val) (u2 : Cs) : oInS neg a b u2 = (match stOf a, stOf b with
  | some x, some z => match x.cps.toList with
    | [c] => some (.fr (.bool (if neg then !decide (c ∈ z.cps.toList) else decide (c ∈ z.cps.toList))))
    | _ => none
  | _, _ => none) := Eq.trans rfl rfl
@[simp] theorem e_oIn (a b : Val) (cs : Cs) : oIn  a b cs = ((opOr (oInD false) (oInS false)) a b cs) := Eq.trans rfl rfl
@[simp] theorem e_oNotIn (a b : Val) (cs : Cs) : oNotIn  a b cs = ((opOr (oInD true) (oInS true)) a b cs) := Eq.trans rfl rfl
@[simp] theorem e_oIs (a : Val) (b : Val) (u2 : Cs) : oIs  a b u2 = (match b with
  | .fr .none => match isN a with
    | some k => some (.fr (.bool k))
    | none => none
  | .fr (.bool j) => match blOf a with
    | some i => some (.fr (.bool (i == j)))
    | none => none
  | _ => none) := Eq.trans rfl rfl
@[simp] theorem e_oIsNot (a : Val) (b : Val) (u2 : Cs) : oIsNot  a b u2 = (match b with
  | .fr .none => match isN a with
    | some k => some (.fr (.bool (!k)))
    | none => none
  | .fr (.bool j) => match blOf a with
    | some i => some (.fr (.bool (!(i == j))))
    | none => none
  | _ => none) := Eq.trans rfl rfl
@[simp] theorem e_bV (f : EF) (sl : Sl) (cs : Cs) : bV f sl cs = (match f sl cs with
  | some (.fr (.bool b), c) => some (b, c)
  | _ => none) := Eq.trans rfl rfl
@[simp] theorem e_bTr (f : EF) (sl : Sl) (cs : Cs) : bTr f sl cs = (match f sl cs with
  | some (v, c) => match truV v c with
    | some b => some (b, c)
    | none => none
  | none => none) := Eq.trans rfl rfl
@[simp] theorem e_bAnd (f g : BF) (sl : Sl) (cs : Cs) : bAnd f g sl cs = (match f sl cs with
  | some (true, c) => g sl c
  | r => r) := Eq.trans rfl rfl
@[simp] theorem e_bOr (f g : BF) (sl : Sl) (cs : Cs) : bOr f g sl cs = (match f sl cs with
  | some (false, c) => g sl c
  | r => r) := Eq.trans rfl rfl
@[simp] theorem e_bNot (f : BF) (sl : Sl) (cs : Cs) : bNot f sl cs = (match f sl cs with
  | some (b, c) => some (!b, c)
  | none => none) := Eq.trans rfl rfl
@[simp] theorem e_dAnd (f g : EF) (sl : Sl) (cs : Cs) : dAnd f g sl cs = (match f sl cs with
  | some (.fr (.bool true), c) => g sl c
  | some (.fr (.bool false), c) => some (.fr (.bool false), c)
  | _ => none) := Eq.trans rfl rfl
@[simp] theorem e_dOr (f g : EF) (sl : Sl) (cs : Cs) : dOr f g sl cs = (match f sl cs with
  | some (.fr (.bool false), c) => g sl c
  | some (.fr (.bool true), c) => some (.fr (.bool true), c)
  | _ => none) := Eq.trans rfl rfl
@[simp] theorem e_dNot (f : EF) (sl : Sl) (cs : Cs) : dNot f sl cs = (match f sl cs with
  | some (.fr (.bool b), c) => some (.fr (.bool (!b)), c)
  | _ => none) := Eq.trans rfl rfl
@[simp] theorem e_dIf (c : BF) (f g : EF) (sl : Sl) (cs : Cs) : dIf c f g sl cs = (match c sl cs with
  | some (true, c1) => f sl c1
  | some (false, c1) => g sl c1
  | none => none) := Eq.trans rfl rfl
@[simp] theorem e_dNeg (f : EF) (sl : Sl) (cs : Cs) : dNeg f sl cs = (match f sl cs with
  | some (.fr (.int i), c) => some (.fr (.int (-i)), c)
  | _ => none) := Eq.trans rfl rfl
@[simp] theorem e_dChain (op op' : Op2) (f g h : EF) (sl : Sl) (cs : Cs) : dChain op op' f g h sl cs = (match f sl cs with
  | some (x, c1) => match g sl c1 with
    | some (y, c2) => match op x y c2 with
      | some (.fr (.bool true)) => match h sl c2 with
        | some (z, c3) => match op' y z c3 with
          | some v => some (v, c3)
          | none => none
        | none => none
      | some (.fr (.bool false)) => some (.fr (.bool false), c2)
      | _ => none
    | none => none
  | none => none) := Eq.trans rfl rfl
@[simp] theorem e_aNil (u0 : Sl) (cs : Cs) : aNil  u0 cs = (some ([], cs)) := Eq.trans rfl rfl
@[simp] theorem e_aCons (f : EF) (g : AF) (sl : Sl) (cs : Cs) : aCons f g sl cs = (match f sl cs with
  | some (v, c1) => match g sl c1 with
    | some (vs, c2) => some (v :: vs, c2)
    | none => none
  | none => none) := Eq.trans rfl rfl
@[simp] theorem e_dTup (f : AF) (sl : Sl) (cs : Cs) : dTup f sl cs = (match f sl cs with
  | some (vs, c1) => match fzAll vs c1 with
    | some (ds, c2) => if ds.length ≤ 16777216 then some (.fr (.tuple ds), c2) else none
    | none => none
  | none => none) := Eq.trans rfl rfl
@[simp] theorem e_dLst (f : AF) (sl : Sl) (cs : Cs) : dLst f sl cs = (match f sl cs with
  | some (vs, c1) => match fzAll vs c1 with
    | some (ds, c2) => if ds.length ≤ 16777216 then some (ds, c2) else none
    | none => none
  | none => none) := Eq.trans rfl rfl
@[simp] theorem e_dCall (op : OpA) (f : AF) (sl : Sl) (cs : Cs) : dCall op f sl cs = (match f sl cs with
  | some (vs, c1) => match op vs c1 with
    | some v => some (v, c1)
    | none => none
  | none => none) := Eq.trans rfl rfl
@[simp] theorem e_dCallL (op : OpAL) (f : AF) (sl : Sl) (cs : Cs) : dCallL op f sl cs = (match f sl cs with
  | some (vs, c1) => match op vs c1 with
    | some v => some (v, c1)
    | none => none
  | none => none) := Eq.trans rfl rfl
@[simp] theorem e_oLen (vs : List Val) (cs : Cs) : oLen  vs cs = (match vs with
  | [v] => match lenV v cs with
    | some n => some (.fr (.int n))
    | none => none
  | _ => none) := Eq.trans rfl rfl
@[simp] theorem e_a1 (g : Int → PyData) (vs : List Val) (u1 : Cs) : a1 g vs u1 = (match vs with
  | [v] => match inOf v with
    | some i => some (.fr (g i))
    | none => none
  | _ => none) := Eq.trans rfl rfl
@[simp] theorem e_a2 (g : Int → Int → PyData) (vs : List Val) (u1 : Cs) : a2 g vs u1 = (match vs with
  | [v, w] => match inOf v, inOf w with
    | some i, some j => some (.fr (g i j))
    | _, _ => none
  | _ => none) := Eq.trans rfl rfl
@[simp] theorem e_oAbs (vs : List Val) (cs : Cs) : oAbs  vs cs = ((a1 fun i => .int (if i < 0 then -i else i)) vs cs) := Eq.trans rfl rfl
@[simp] theorem e_oInt (vs : List Val) (u1 : Cs) : oInt  vs u1 = (match vs with
  | [.fr (.int i)] => some (.fr (.int i))
  | [.fr (.bool b)] => some (.fr (.int (if b then 1 else 0)))
  | _ => none) := Eq.trans rfl rfl
@[simp] theorem e_oMax2 (vs : List Val) (cs : Cs) : oMax2  vs cs = ((a2 fun i j => .int (if j > i then j else i)) vs cs) := Eq.trans rfl rfl
@[simp] theorem e_oMin2 (vs : List Val) (cs : Cs) : oMin2  vs cs = ((a2 fun i j => .int (if j < i then j else i)) vs cs) := Eq.trans rfl rfl
@[simp] theorem e_oList (vs : List Val) (cs : Cs) : oList  vs cs = (match vs with
  | [v] => sqOf v cs
  | _ => none) := Eq.trans rfl rfl
@[simp] theorem e_oTuple (vs : List Val) (cs : Cs) : oTuple  vs cs = (match vs with
  | [v] => match lsOf v cs with
    | some ds => some (.fr (.tuple ds))
    | none => none
  | _ => none) := Eq.trans rfl rfl
@[simp] theorem e_aI (g : List Int → Option PyData) (vs : List Val) (cs : Cs) : aI g vs cs = (match vs with
  | [v] => match lsOf v cs with
    | some ds => match insOf ds with
      | some ns => match g ns with
        | some d => some (.fr d)
        | none => none
      | none => none
    | none => none
  | _ => none) := Eq.trans rfl rfl
@[simp] theorem e_aB (g : List Bool → PyData) (vs : List Val) (cs : Cs) : aB g vs cs = (match vs with
  | [v] => match lsOf v cs with
    | some ds => match blsOf ds with
      | some ns => some (.fr (g ns))
      | none => none
    | none => none
  | _ => none) := Eq.trans rfl rfl
@[simp] theorem e_oSum (vs : List Val) (cs : Cs) : oSum  vs cs = ((aI fun ns => some (.int ns.sum)) vs cs) := Eq.trans rfl rfl
@[simp] theorem e_oMax (vs : List Val) (cs : Cs) : oMax  vs cs = ((aI fun ns => match maxI ns with
  | some m => some (.int m)
  | none => none) vs cs) := Eq.trans rfl rfl
@[simp] theorem e_oMin (vs : List Val) (cs : Cs) : oMin  vs cs = ((aI fun ns => match minI ns with
  | some m => some (.int m)
  | none => none) vs cs) := Eq.trans rfl rfl
@[simp] theorem e_oAny (vs : List Val) (cs : Cs) : oAny  vs cs = ((aB fun bs => .bool (bs.any id)) vs cs) := Eq.trans rfl rfl
@[simp] theorem e_oAll (vs : List Val) (cs : Cs) : oAll  vs cs = ((aB fun bs => .bool (bs.all id)) vs cs) := Eq.trans rfl rfl
@[simp] theorem e_isiD (T : String) (f : EF) (sl : Sl) (cs : Cs) : isiD T f sl cs = (match f sl cs with
  | some (v, c) => match tyC v c with
    | some t => match kitB t T with
      | some b => some (.fr (.bool b), c)
      | none => none
    | none => none
  | none => none) := Eq.trans rfl rfl
@[simp] theorem e_oSorted (vs : List Val) (cs : Cs) : oSorted  vs cs = (match vs with
  | [v] => match lsOf v cs with
    | some ds => if canSort ds = true then some (sortD ds) else none
    | none => none
  | _ => none) := Eq.trans rfl rfl
@[simp] theorem e_oIx (a : Val) (b : Val) (cs : Cs) : oIx  a b cs = (match inOf b with
  | some i => match sqOf a cs with
    | some ds => match atI ds i with
      | some d => some (.fr d)
      | none => none
    | none => match stOf a with
      | some z => if z.length ≤ 16777216 then match atI z.cps.toList i with
        | some c => some (.fr (.str ⟨#[c]⟩))
        | none => none
        else none
      | none => none
  | none => none) := Eq.trans rfl rfl
@[simp] theorem e_pNo (u0 : Sl) (cs : Cs) : pNo  u0 cs = (some (none, cs)) := Eq.trans rfl rfl
@[simp] theorem e_pYes (f : EF) (sl : Sl) (cs : Cs) : pYes f sl cs = (match f sl cs with
  | some (.fr (.int i), c) => some (some i, c)
  | _ => none) := Eq.trans rfl rfl
@[simp] theorem e_dSl (f : EF) (l h : OF) (sl : Sl) (cs : Cs) : dSl f l h sl cs = (match f sl cs with
  | some (v, c1) => match l sl c1 with
    | some (lo, c2) => match h sl c2 with
      | some (hi, c3) => match oSl v lo hi c3 with
        | some w => some (w, c3)
        | none => none
      | none => none
    | none => none
  | none => none) := Eq.trans rfl rfl
@[simp] theorem e_dSlL (f : EF) (l h : OF) (sl : Sl) (cs : Cs) : dSlL f l h sl cs = (match f sl cs with
  | some (v, c1) => match l sl c1 with
    | some (lo, c2) => match h sl c2 with
      | some (hi, c3) => match lsOf v c3 with
        | some ds => some (cutD ds lo hi, c3)
        | none => none
      | none => none
    | none => none
  | none => none) := Eq.trans rfl rfl
@[simp] theorem e_dRevL (f : EF) (sl : Sl) (cs : Cs) : dRevL f sl cs = (match f sl cs with
  | some (v, c1) => match lsOf v c1 with
    | some ds => some (ds.reverse, c1)
    | none => none
  | none => none) := Eq.trans rfl rfl
@[simp] theorem e_dRg1 (f : EF) (sl : Sl) (cs : Cs) : dRg1 f sl cs = (match f sl cs with
  | some (.fr (.int n), c) => if rgOk 0 n = true then some (rangeD 0 n, c) else none
  | _ => none) := Eq.trans rfl rfl
@[simp] theorem e_dRg2 (f g : EF) (sl : Sl) (cs : Cs) : dRg2 f g sl cs = (match f sl cs with
  | some (.fr (.int n), c) => match g sl c with
    | some (.fr (.int m), c2) => if rgOk n m = true then some (rangeD n m, c2) else none
    | _ => none
  | _ => none) := Eq.trans rfl rfl
@[simp] theorem e_dApp (f g : EF) (sl : Sl) (cs : Cs) : dApp f g sl cs = (match f sl cs with
  | some (.ce c, c1) => if liveL c1 c = true then match g sl c1 with
    | some (v, c2) => match fzV v c2 with
      | some (d, c3) => match c3[c]? with
        | some (some (.lst ds)) => if ds.length < 16777216 then some (.fr .none, c3.set c (some (.lst (ds ++ [d])))) else none
        | _ => none
      | none => none
    | none => none
    else none
  | _ => none) := Eq.trans rfl rfl
@[simp] theorem e_dPop (f : EF) (sl : Sl) (cs : Cs) : dPop f sl cs = (match f sl cs with
  | some (.ce c, c1) => match c1[c]? with
    | some (some (.lst ds)) => match ds[ds.length - 1]? with
      | some d => some (.fr d, c1.set c (some (.lst ds.dropLast)))
      | none => none
    | _ => none
  | _ => none) := Eq.trans rfl rfl
@[simp] theorem e_dPopAt (f g : EF) (sl : Sl) (cs : Cs) : dPopAt f g sl cs = (match f sl cs with
  | some (.ce c, c1) => if liveL c1 c = true then match g sl c1 with
    | some (.fr (.int i), c2) => match c2[c]? with
      | some (some (.lst ds)) => if decide (-(2 ^ 63) ≤ i) && decide (i < 2 ^ 63) then match seqIndex? i ds.length with
        | some j => match ds[j]? with
          | some d => some (.fr d, c2.set c (some (.lst (ds.eraseIdx j))))
          | none => none
        | none => none
        else none
      | _ => none
    | _ => none
    else none
  | _ => none) := Eq.trans rfl rfl
@[simp] theorem e_dJoin (f g : EF) (sl : Sl) (cs : Cs) : dJoin f g sl cs = (match f sl cs with
  | some (.fr (.str a), c1) => match g sl c1 with
    | some (v, c2) => match lsOf v c2 with
      | some ds => match stsOf ds with
        | some ys => if decide ((ys.map (·.length)).sum + ys.length * a.length ≤ 16777216) && PyData.strOk (Txt.join a ys) then some (.fr (.str (Txt.join a ys)), c2) else none
        | none => none
      | none => none
    | none => none
  | _ => none) := Eq.trans rfl rfl
@[simp] theorem e_dCountS (f g : EF) (sl : Sl) (cs : Cs) : dCountS f g sl cs = (match f sl cs with
  | some (.fr (.str a), c1) => match g sl c1 with
    | some (.fr (.str b), c2) => some (.fr (.int (Txt.count a b)), c2)
    | _ => none
  | _ => none) := Eq.trans rfl rfl
@[simp] theorem e_sNo (sl : Sl) (cs : Cs) : sNo  sl cs = (some (.nxt sl cs)) := Eq.trans rfl rfl
@[simp] theorem e_sSeq (f g : SF) (sl : Sl) (cs : Cs) : sSeq f g sl cs = (match f sl cs with
  | some (.nxt sl1 cs1) => g sl1 cs1
  | r => r) := Eq.trans rfl rfl
@[simp] theorem e_sIf (c : BF) (f g : SF) (sl : Sl) (cs : Cs) : sIf c f g sl cs = (match c sl cs with
  | some (true, c1) => f sl c1
  | some (false, c1) => g sl c1
  | none => none) := Eq.trans rfl rfl
@[simp] theorem e_sSet (i : Nat) (f : EF) (sl : Sl) (cs : Cs) : sSet i f sl cs = (match f sl cs with
  | some (v, c1) => some (.nxt (sl.set i (some v)) c1)
  | none => none) := Eq.trans rfl rfl
@[simp] theorem e_sEx (f : EF) (sl : Sl) (cs : Cs) : sEx f sl cs = (match f sl cs with
  | some (_, c1) => some (.nxt sl c1)
  | none => none) := Eq.trans rfl rfl
@[simp] theorem e_sRet (f : EF) (sl : Sl) (cs : Cs) : sRet f sl cs = (match f sl cs with
  | some (v, c1) => some (.ret v c1)
  | none => none) := Eq.trans rfl rfl
@[simp] theorem e_sRetN (u0 : Sl) (cs : Cs) : sRetN  u0 cs = (some (.ret (.fr .none) cs)) := Eq.trans rfl rfl
@[simp] theorem e_sBrk (sl : Sl) (cs : Cs) : sBrk  sl cs = (some (.brk sl cs)) := Eq.trans rfl rfl
@[simp] theorem e_sCnt (sl : Sl) (cs : Cs) : sCnt  sl cs = (some (.cnt sl cs)) := Eq.trans rfl rfl
@[simp] theorem e_sAug (i : Nat) (g : Int → Int → Int) (f : EF) (sl : Sl) (cs : Cs) : sAug i g f sl cs = (match sl[i]? with
  | some (some (.fr (.int a))) => match f sl cs with
    | some (.fr (.int b), c1) => some (.nxt (sl.set i (some (.fr (.int (g a b))))) c1)
    | _ => none
  | _ => none) := Eq.trans rfl rfl
@[simp] theorem e_sTg (t : Tg) (f : EF) (sl : Sl) (cs : Cs) : sTg t f sl cs = (match f sl cs with
  | some (.fr d, c1) => match t.d d sl with
    | some sl1 => some (.nxt sl1 c1)
    | none => none
  | _ => none) := Eq.trans rfl rfl
@[simp] theorem e_sSub (f o g : EF) (sl : Sl) (cs : Cs) : sSub f o g sl cs = (match f sl cs with
  | some (v, c1) => match o sl c1 with
    | some (.ce c, c2) => match g sl c2 with
      | some (.fr (.int i), c3) => match fzV v c3 with
        | some (d, c4) => match c4[c]? with
          | some (some (.lst ds)) => match ixN ds.length i with
            | some j => some (.nxt sl (c4.set c (some (.lst (ds.set j d)))))
            | none => none
          | _ => none
        | none => none
      | _ => none
    | _ => none
  | none => none) := Eq.trans rfl rfl
@[simp] theorem e_sSubAug (op : Int → Int → Int) (o g f : EF) (sl : Sl) (cs : Cs) : sSubAug op o g f sl cs = (match o sl cs with
  | some (.ce c, c1) => match g sl c1 with
    | some (.fr (.int i), c2) => match c2[c]? with
      | some (some (.lst ds)) => match atI ds i with
        | some (.int a) => match f sl c2 with
          | some (.fr (.int b), c3) => match c3[c]? with
            | some (some (.lst ds2)) => match ixN ds2.length i with
              | some j => some (.nxt sl (c3.set c (some (.lst (ds2.set j (.int (op a b)))))))
              | none => none
            | _ => none
          | _ => none
        | _ => none
      | _ => none
    | _ => none
  | _ => none) := Eq.trans rfl rfl
@[simp] theorem e_iSeq (f : EF) (sl : Sl) (cs : Cs) : iSeq f sl cs = (match f sl cs with
  | some (v, c1) => match seqIt v c1 with
    | some (ds, g) => some (ds, g, c1)
    | none => none
  | none => none) := Eq.trans rfl rfl
@[simp] theorem e_iRg3 (f g : EF) (sl : Sl) (cs : Cs) : iRg3 f g sl cs = (match f sl cs with
  | some (.fr (.int n), c) => match g sl c with
    | some (.fr (.int m), c2) => if decide (-(2 ^ 62) ≤ n) && decide (n < 2 ^ 62) && decide (-(2 ^ 62) ≤ m) && decide (m < 2 ^ 62) then some ((List.range (n - m).toNat).map fun i => .int (n + (i : Nat) * (-1)), [], c2) else none
    | _ => none
  | _ => none) := Eq.trans rfl rfl
@[simp] theorem e_iRev1 (f : EF) (sl : Sl) (cs : Cs) : iRev1 f sl cs = (match f sl cs with
  | some (.fr (.int m), c2) => if decide (-(2 ^ 62) ≤ m) && decide (m < 2 ^ 62) then some (revR 0 m, [], c2) else none
  | _ => none) := Eq.trans rfl rfl
@[simp] theorem e_iRev2 (f g : EF) (sl : Sl) (cs : Cs) : iRev2 f g sl cs = (match f sl cs with
  | some (.fr (.int n), c) => match g sl c with
    | some (.fr (.int m), c2) => if decide (-(2 ^ 62) ≤ n) && decide (n < 2 ^ 62) && decide (-(2 ^ 62) ≤ m) && decide (m < 2 ^ 62) then some (revR n m, [], c2) else none
    | _ => none
  | _ => none) := Eq.trans rfl rfl
@[simp] theorem e_iEn (f : EF) (sl : Sl) (cs : Cs) : iEn f sl cs = (match f sl cs with
  | some (v, c1) => match lsG v c1 with
    | some (ds, g) => some (enumD ds, g, c1)
    | none => none
  | none => none) := Eq.trans rfl rfl
@[simp] theorem e_iZi (f g : EF) (sl : Sl) (cs : Cs) : iZi f g sl cs = (match f sl cs with
  | some (v, c1) => match g sl c1 with
    | some (w, c2) => match lsG v c2 with
      | some (ds, g1) => match lsG w c2 with
        | some (es, g2) => some (zipD ds es, g1 ++ g2, c2)
        | none => none
      | none => none
    | none => none
  | none => none) := Eq.trans rfl rfl
@[simp] theorem e_bYes (u0 : Sl) (cs : Cs) : bYes  u0 cs = (some (true, cs)) := Eq.trans rfl rfl
@[simp] theorem e_dFn (f : FF) (g : AF) (sl : Sl) (cs : Cs) : dFn f g sl cs = (match g sl cs with
  | some (as, c1) => match f as c1 with
    | some (.ret v c2) => some (v, c2)
    | _ => none
  | none => none) := Eq.trans rfl rfl
@[simp] theorem e_sRaise (x f : Str) (g : EF) (sl : Sl) (cs : Cs) : sRaise x f g sl cs = (match g sl cs with
  | some (v, c1) => match fzV v c1 with
    | some (d, c2) => some (.exc x f d sl c2)
    | none => none
  | none => none) := Eq.trans rfl rfl
@[simp] theorem e_fnOut (den : FF) (g : AF) (kk : Val → Sl → Cs → Out) (sl : Sl) (cs : Cs) : fnOut den g kk sl cs = (match g sl cs with
  | some (as, c1) => match den as c1 with
    | some (.ret v c2) => some (kk v sl c2)
    | some (.exc x f d c2) => some (.exc x f d sl c2)
    | none => none
  | none => none) := Eq.trans rfl rfl
@[simp] theorem e_sFnIf (op : Op2) (den : FF) (g : AF) (h : EF) (a b : SF) (sl : Sl) (cs : Cs) : sFnIf op den g h a b sl cs = (match g sl cs with
  | some (as, c1) => match den as c1 with
    | some (.ret v c2) => match h sl c2 with
      | some (w, c3) => match op v w c3 with
        | some (.fr (.bool true)) => a sl c3
        | some (.fr (.bool false)) => b sl c3
        | _ => none
      | none => none
    | some (.exc x f d c2) => some (.exc x f d sl c2)
    | none => none
  | none => none) := Eq.trans rfl rfl
@[simp] theorem e_dXf (i : Nat) (a dd : Addr) (f : Str) (sl : Sl) (cs : Cs) : dXf i a dd f sl cs = (match sl[i]? with
  | some (some (.ex a' dd' f' d)) => if a' = a ∧ dd' = dd ∧ f' = f then some (.fr d, cs) else none
  | _ => none) := Eq.trans rfl rfl
@[simp] theorem e_dXi (i : Nat) (a dd : Addr) (b : Bool) (sl : Sl) (cs : Cs) : dXi i a dd b sl cs = (match sl[i]? with
  | some (some (.ex a' dd' _ _)) => if a' = a ∧ dd' = dd then some (.fr (.bool b), cs) else none
  | _ => none) := Eq.trans rfl rfl
@[simp] theorem e_dDft (best : List Int → Option Int) (f g : EF) (sl : Sl) (cs : Cs) : dDft best f g sl cs = (match f sl cs with
  | some (v, c1) => match g sl c1 with
    | some (.fr (.int d), c2) => match lsOf v c2 with
      | some ds => match insOf ds with
        | some ns => match best ns with
          | some m => some (.fr (.int m), c2)
          | none => some (.fr (.int d), c2)
        | none => none
      | none => none
    | _ => none
  | none => none) := Eq.trans rfl rfl
@[simp] theorem e_lsOf (v : Val) (cs : Cs) : lsOf v cs = (match v with
  | .fr (.list ds) => some ds
  | .ce c => match cs[c]? with
    | some (some (.lst ds)) => some ds
    | _ => none
  | _ => none) := Eq.trans rfl rfl
@[simp] theorem e_tuOf (v : Val) : tuOf v = (match v with
  | .fr (.tuple ds) => some ds
  | _ => none) := Eq.trans rfl rfl
@[simp] theorem e_sqOf (v : Val) (cs : Cs) : sqOf v cs = (match lsOf v cs with
  | some ds => some ds
  | none => tuOf v) := Eq.trans rfl rfl
@[simp] theorem e_dOf (v : Val) (cs : Cs) : dOf v cs = (match v with
  | .fr d => some d
  | .ce c => match cs[c]? with
    | some (some (.lst ds)) => some (.list ds)
    | _ => none
  | _ => none) := Eq.trans rfl rfl
@[simp] theorem e_inOf (v : Val) : inOf v = (match v with
  | .fr (.int i) => some i
  | _ => none) := Eq.trans rfl rfl
@[simp] theorem e_blOf (v : Val) : blOf v = (match v with
  | .fr (.bool i) => some i
  | _ => none) := Eq.trans rfl rfl
@[simp] theorem e_stOf (v : Val) : stOf v = (match v with
  | .fr (.str i) => some i
  | _ => none) := Eq.trans rfl rfl
@[simp] theorem e_fzV (v : Val) (cs : Cs) : fzV v cs = (match v with
  | .fr d => some (d, cs)
  | .ce c => match cs[c]? with
    | some (some (.lst ds)) => some (.list ds, cs.set c none)
    | _ => none
  | _ => none) := Eq.trans rfl rfl
@[simp] theorem e_fzAll0 (cs : Cs) : fzAll [] cs = some ([], cs) := Eq.trans rfl rfl
@[simp] theorem e_fzAll1 (v : Val) (vs : List Val) (cs : Cs) : fzAll (v :: vs) cs = (match fzV v cs with
  | some (d, cs1) => match fzAll vs cs1 with
    | some (ds, cs2) => some (d :: ds, cs2)
    | none => none
  | none => none) := Eq.trans rfl rfl
@[simp] theorem e_tgn (i : Nat) (d : PyData) (sl : Sl) : (Tg.nm i).d d sl = some (sl.set i (some (.fr d))) := by unfold Tg.d; rfl
@[simp] theorem e_tgt (ts : Tgs) (ds : List PyData) (sl : Sl) : (Tg.tp ts).d (.tuple ds) sl = ts.d ds sl := by unfold Tg.d; rfl
@[simp] theorem e_tgs0 (sl : Sl) : Tgs.nil.d [] sl = some sl := by unfold Tgs.d; rfl
@[simp] theorem e_tgs1 (t : Tg) (ts : Tgs) (d : PyData) (ds : List PyData) (sl : Sl) : (Tgs.cons t ts).d (d :: ds) sl = (match t.d d sl with
  | some sl1 => ts.d ds sl1
  | none => none) := by
  first
    | (rw [Tgs.d]; done)
    | (rw [Tgs.d]; cases t.d d sl <;> rfl)
@[simp] theorem e_sFor (i : IF) (tg : Tg) (ws : List Nat) (body : SF) (sl : Sl) (cs : Cs) : sFor i tg ws body sl cs = (match i sl cs with
  | some (its, g, c1) => forD tg g ws c1.length body its sl c1
  | none => none) := Eq.trans rfl rfl
@[simp] theorem e_dLc (i : IF) (tg : Tg) (vs : List Nat) (cond : BF) (elt : EF) (sl : Sl) (cs : Cs) : dLc i tg vs cond elt sl cs = (match i sl cs with
  | some (its, g, c1) => if its.length ≤ 16777216 then lcD tg g c1.length cond elt (wp vs sl) its c1 else none
  | none => none) := Eq.trans rfl rfl
@[simp] theorem e_fnD (n m : Nat) (body : SF) (as : List Val) (cs : Cs) : fnD n m body as cs = (if as.length = n then match body (as.map some ++ List.replicate m none) cs with
  | some (.ret v c1) => retTo cs.length v c1
  | some (.nxt _ c1) => some (.ret (.fr .none) (c1.take cs.length))
  | some (.exc x f d _ c1) => some (.exc x f d (c1.take cs.length))
  | _ => none
  else none) := Eq.trans rfl rfl
@[simp] theorem e_retTo (n : Nat) (d : PyData) (cs : Cs) : retTo n (.fr d) cs = some (.ret (.fr d) (cs.take n)) := Eq.trans rfl rfl
@[simp] theorem e_wp (vs : List Nat) (sl : Sl) : wp vs sl = drops vs sl := rfl
@[simp] theorem e_dr0 (sl : Sl) : drops [] sl = sl := rfl
@[simp] theorem e_dr1 (w : Nat) (ws : List Nat) (sl : Sl) : drops (w :: ws) sl = (drops ws sl).set w none := rfl
@[simp] theorem e_fgt (ws : List Nat) (n : Nat) (sl : Sl) : fgt ws n sl = (drops ws sl).map (keepV n) := Eq.trans rfl rfl
@[simp] theorem e_kv0 (n : Nat) : keepV n none = none := rfl
@[simp] theorem e_kv1 (n : Nat) (d : PyData) : keepV n (some (.fr d)) = some (.fr d) := Eq.trans rfl rfl
@[simp] theorem e_kv2 (n c : Nat) : keepV n (some (.ce c)) = if c < n then some (.ce c) else none := rfl
@[simp] theorem e_gC0 (cs : Cs) : gChk [] cs = true := rfl
@[simp] theorem e_set_app (cs : Cs) (x y : Option Cell) : (cs ++ [x]).set cs.length y = cs ++ [y] := by
  rw [List.set_append_right _ _ (Nat.le_refl _), Nat.sub_self]; rfl
@[simp] theorem e_set_app1 (cs : Cs) (x y z : Option Cell) : (cs ++ [x, y]).set cs.length z = cs ++ [z, y] := by
  rw [List.set_append_right _ _ (Nat.le_refl _), Nat.sub_self]; rfl
@[simp] theorem e_get_app1 (cs : Cs) (x y : Option Cell) : (cs ++ [x, y])[cs.length]? = some x := by
  rw [List.getElem?_append_right (Nat.le_refl _), Nat.sub_self]; rfl
def rgB (i : Int) : Bool := decide (-(2 ^ 62) ≤ i) && decide (i < 2 ^ 62)
theorem rgB_of {i : Int} (h1 : -1000000000 ≤ i) (h2 : i ≤ 1000000000) : rgB i = true := by
  have e : ((2 : Int) ^ 62) = 4611686018427387904 := by decide +kernel
  unfold rgB
  rw [e, decide_eq_true (by omega), decide_eq_true (by omega)]
  rfl
@[simp] theorem e_iRg1 (f : EF) (sl : Sl) (cs : Cs) : iRg1 f sl cs = (match f sl cs with
  | some (.fr (.int n), c) => if rgB n = true then some (rangeD 0 n, [], c) else none
  | _ => none) := by
  unfold iRg1 rangeD
  simp only [Int.sub_zero]
  rfl
@[simp] theorem e_iRg2 (f g : EF) (sl : Sl) (cs : Cs) : iRg2 f g sl cs = (match f sl cs with
  | some (.fr (.int n), c) => match g sl c with
    | some (.fr (.int m), c2) => if (rgB n && rgB m) = true then some (rangeD n m, [], c2) else none
    | _ => none
  | _ => none) := by
  unfold iRg2 rangeD rgB
  simp only [Bool.and_assoc] <;> rfl
@[simp] theorem e_take_set (cs : Cs) (c : Nat) (x : Option Cell) : (cs.set c x).take cs.length = cs.set c x := List.take_of_length_le (by simp)
@[simp] theorem e_mul (i j : Int) (h : j.natAbs < 18446744073709551616) : cMul i j = true := by
  unfold cMul
  rw [Bool.or_eq_true, decide_eq_true_eq, decide_eq_true_eq]
  exact .inr h
theorem e_clr (i : Nat) (o : Out) : clr i o = (match o with
  | .nxt sl cs => some (.nxt (sl.set i none) cs)
  | .ret v cs => some (.ret v cs)
  | .brk sl cs => some (.brk (sl.set i none) cs)
  | .cnt sl cs => some (.cnt (sl.set i none) cs)
  | .exc _ _ _ _ _ => none) := by cases o <;> rfl

end DX
set_option maxHeartbeats 1000000
/-! DX, plain part: loops, codes. -/
namespace DX
open PySem L2 PySem.Spec PyProof.Rows

/-! ### loops -/
inductive Trn where
  | go (sl : Sl) (cs : Cs)
  | out (o : Out)
/-- one turn of a for -/
def turnD (tg : Tg) (ws : List Nat) (n : Nat) (body : SF) (d : PyData) (sl : Sl) (cs : Cs) : Option Trn := match tg.d d sl with
  | some sl1 => match body sl1 cs with
    | some (.nxt sl2 cs2) => some (.go (fgt ws n sl2) (cs2.take n))
    | some (.cnt sl2 cs2) => some (.go (fgt ws n sl2) (cs2.take n))
    | some (.brk sl2 cs2) => some (.out (.nxt (fgt ws n sl2) (cs2.take n)))
    | some (.ret v c) => some (.out (.ret v c))
    | some (.exc x f d sl c) => some (.out (.exc x f d sl c))
    | none => none
  | none => none
@[simp] theorem e_turnD (tg : Tg) (ws : List Nat) (n : Nat) (body : SF) (d : PyData) (sl : Sl) (cs : Cs) : turnD tg ws n body d sl cs = (match tg.d d sl with
  | some sl1 => match body sl1 cs with
    | some (.nxt sl2 cs2) => some (.go (fgt ws n sl2) (cs2.take n))
    | some (.cnt sl2 cs2) => some (.go (fgt ws n sl2) (cs2.take n))
    | some (.brk sl2 cs2) => some (.out (.nxt (fgt ws n sl2) (cs2.take n)))
    | some (.ret v c) => some (.out (.ret v c))
    | some (.exc x f d sl c) => some (.out (.exc x f d sl c))
    | none => none
  | none => none) := Eq.trans rfl rfl
theorem forD_go {tg : Tg} {g : Gd} {ws : List Nat} {n : Nat} {body : SF} {d : PyData} {ds : List PyData} {sl sl' : Sl} {cs cs' : Cs} (hg : gChk g cs = true) (h : turnD tg ws n body d sl cs = some (.go sl' cs')) : forD tg g ws n body (d :: ds) sl cs = forD tg g ws n body ds sl' cs' := by
  rw [forD, if_pos hg]
  cases e : tg.d d sl with
  | none => simp [e] at h
  | some sl1 =>
    cases e2 : body sl1 cs with
    | none => simp [e, e2] at h
    | some o =>
      cases o <;> simp [e, e2, -e_fgt] at h <;> (obtain ⟨h1, h2⟩ := h; subst h1; subst h2; simp only [e2])
theorem forD_out {tg : Tg} {g : Gd} {ws : List Nat} {n : Nat} {body : SF} {d : PyData} {ds : List PyData} {sl : Sl} {cs : Cs} {o : Out} (hg : gChk g cs = true) (h : turnD tg ws n body d sl cs = some (.out o)) : forD tg g ws n body (d :: ds) sl cs = some o := by
  rw [forD, if_pos hg]
  cases e : tg.d d sl with
  | none => simp [e] at h
  | some sl1 =>
    cases e2 : body sl1 cs with
    | none => simp [e, e2] at h
    | some o2 =>
      cases o2 <;> simp [e, e2, -e_fgt] at h <;> (subst h; simp only [e2])
/-- THE RULE for a for: J k sl cs, the state ahead of turn k -/
theorem forD_J {tg : Tg} {g : Gd} {ws : List Nat} {n : Nat} {body : SF} {its : List PyData} (J : Nat → Sl → Cs → Prop) (Post : Out → Prop) (hg : ∀ k sl cs, J k sl cs → gChk g cs = true)
    (step : ∀ k d sl cs, its[k]? = some d → J k sl cs → ∃ t, turnD tg ws n body d sl cs = some t ∧ match t with
      | .go sl' cs' => J (k + 1) sl' cs'
      | .out o => Post o)
    (fin : ∀ sl cs, J its.length sl cs → Post (.nxt sl cs)) : ∀ sl cs, J 0 sl cs → ∃ o, forD tg g ws n body its sl cs = some o ∧ Post o := by
  have key : ∀ m k, k + m = its.length → ∀ sl cs, J k sl cs → ∃ o, forD tg g ws n body (its.drop k) sl cs = some o ∧ Post o := by
    intro m
    induction m with
    | zero =>
      intro k hk sl cs h
      have e : k = its.length := by omega
      subst e
      rw [List.drop_length, forD, if_pos (hg _ _ _ h)]
      exact ⟨_, rfl, fin _ _ h⟩
    | succ m ih =>
      intro k hk sl cs h
      have hlt : k < its.length := by omega
      rw [List.drop_eq_getElem_cons hlt]
      obtain ⟨t, e, p⟩ := step k _ sl cs (List.getElem?_eq_getElem hlt) h
      cases t with
      | go sl' cs' =>
        rw [forD_go (hg _ _ _ h) e]
        exact ih (k + 1) (by omega) _ _ p
      | out o => exact ⟨o, forD_out (hg _ _ _ h) e, p⟩
  intro sl cs h
  have := key its.length 0 (by omega) sl cs h
  rwa [List.drop_zero] at this
/-- a fold: the state is coded by st -/
theorem forD_fold {S A : Type} {tg : Tg} {ws : List Nat} {n : Nat} {body : SF} (enc : A → PyData) (st : S → Sl × Cs) (f : S → A → S ⊕ Out) (P : A → Prop) (I : S → Prop)
    (step : ∀ s a, I s → P a → turnD tg ws n body (enc a) (st s).1 (st s).2 = some (match f s a with | .inl s' => .go (st s').1 (st s').2 | .inr o => .out o))
    (keep : ∀ s a s', I s → P a → f s a = .inl s' → I s') : ∀ (as : List A) (s : S), I s → (∀ a ∈ as, P a) →
    forD tg [] ws n body (as.map enc) (st s).1 (st s).2 = some (match as.foldl (fun r a => match r with | .inl s => f s a | .inr o => .inr o) (Sum.inl s : S ⊕ Out) with | .inl s' => .nxt (st s').1 (st s').2 | .inr o => o)
  | [], s, _, _ => by
    rw [List.map_nil, forD]
    rfl
  | a :: as, s, hI, hP => by
    have h1 := step s a hI (hP a (List.mem_cons_self ..))
    rw [List.map_cons, List.foldl_cons]
    dsimp only
    cases e : f s a with
    | inl s' =>
      rw [e] at h1
      rw [forD_go rfl h1, forD_fold enc st f P I step keep as s' (keep s a s' hI (hP a (List.mem_cons_self ..)) e) fun b hb => hP b (List.mem_cons_of_mem _ hb)]
    | inr o =>
      rw [e] at h1
      rw [forD_out rfl h1]
      have : ∀ as : List A, as.foldl (fun r a => match r with | .inl s => f s a | .inr o => .inr o) (Sum.inr o : S ⊕ Out) = .inr o := by
        intro as
        induction as with
        | nil => rfl
        | cons b bs ih => exact ih
      rw [this]
/-! comprehensions -/
theorem lcD_J {tg : Tg} {g : Gd} {n : Nat} {cond : BF} {elt : EF} {sl : Sl} {its : List PyData} (J : Nat → List PyData → Cs → Prop) (hg : ∀ k acc cs, J k acc cs → gChk g cs = true)
    (step : ∀ k d acc cs, its[k]? = some d → J k acc cs → ∃ sl1, tg.d d sl = some sl1 ∧ ((∃ c1, cond sl1 cs = some (false, c1) ∧ J (k + 1) acc (c1.take n)) ∨
      ∃ c1 v c2 e c3, cond sl1 cs = some (true, c1) ∧ elt sl1 c1 = some (v, c2) ∧ fzV v c2 = some (e, c3) ∧ J (k + 1) (acc ++ [e]) (c3.take n))) :
    ∀ cs, J 0 [] cs → ∃ es cs', lcD tg g n cond elt sl its cs = some (es, cs') ∧ J its.length es cs' := by
  have key : ∀ m k, k + m = its.length → ∀ acc cs, J k acc cs → ∃ es cs', lcD tg g n cond elt sl (its.drop k) cs = some (es, cs') ∧ J its.length (acc ++ es) cs' := by
    intro m
    induction m with
    | zero =>
      intro k hk acc cs h
      have e : k = its.length := by omega
      subst e
      rw [List.drop_length, lcD, if_pos (hg _ _ _ h)]
      exact ⟨_, _, rfl, by rw [List.append_nil]; exact h⟩
    | succ m ih =>
      intro k hk acc cs h
      have hlt : k < its.length := by omega
      rw [List.drop_eq_getElem_cons hlt, lcD, if_pos (hg _ _ _ h)]
      obtain ⟨sl1, e1, p⟩ := step k _ acc cs (List.getElem?_eq_getElem hlt) h
      rw [e1]
      dsimp only
      rcases p with ⟨c1, e2, p⟩ | ⟨c1, v, c2, e, c3, e2, e3, e4, p⟩
      · rw [e2]
        exact ih (k + 1) (by omega) _ _ p
      · rw [e2]
        dsimp only
        rw [e3]
        dsimp only
        rw [e4]
        dsimp only
        obtain ⟨es, cs', h1, h2⟩ := ih (k + 1) (by omega) _ _ p
        rw [h1]
        exact ⟨_, _, rfl, by rw [List.append_assoc] at h2; exact h2⟩
  intro cs h
  obtain ⟨es, cs', h1, h2⟩ := key its.length 0 (by omega) [] cs h
  exact ⟨es, cs', by rwa [List.drop_zero] at h1, by rwa [List.nil_append] at h2⟩
/-- one that changes nothing -/
theorem lcD_map {A : Type} {tg : Tg} {cond : BF} {elt : EF} {sl : Sl} {cs : Cs} (enc : A → PyData) (b : A → Bool) (e : A → PyData) : ∀ (as : List A),
    (∀ a ∈ as, ∃ sl1, tg.d (enc a) sl = some sl1 ∧ cond sl1 cs = some (b a, cs) ∧ (b a = true → elt sl1 cs = some (.fr (e a), cs))) →
    lcD tg [] cs.length cond elt sl (as.map enc) cs = some ((as.filter b).map e, cs)
  | [], _ => by
    rw [List.map_nil, lcD]
    rfl
  | a :: as, h => by
    obtain ⟨sl1, h1, h2, h3⟩ := h a (List.mem_cons_self ..)
    have ih := lcD_map (tg := tg) (cond := cond) (elt := elt) (sl := sl) (cs := cs) enc b e as fun x hx => h x (List.mem_cons_of_mem _ hx)
    rw [List.map_cons, lcD, if_pos (show gChk [] cs = true from rfl), h1]
    dsimp only
    rw [h2]
    cases hb : b a with
    | true =>
      dsimp only
      rw [h3 hb]
      simp only [e_fzV, List.take_length, ih, List.filter_cons, hb, if_true, List.map_cons]
    | false =>
      simp only [List.take_length, ih, List.filter_cons, hb]
      rfl
@[simp] theorem q_i (a b : Int) : PyData.eqv (.int a) (.int b) = decide (a = b) := by simp only [PyData.eqv]; exact PySem.W.beq_decide a b
@[simp] theorem q_s (a b : Str) : PyData.eqv (.str a) (.str b) = decide (a = b) := by simp only [PyData.eqv]; exact PySem.W.beq_decide a b
@[simp] theorem q_l (a b : List PyData) : PyData.eqv (.list a) (.list b) = PyData.eqvAll a b := by simp only [PyData.eqv]
@[simp] theorem q_t (a b : List PyData) : PyData.eqv (.tuple a) (.tuple b) = PyData.eqvAll a b := by simp only [PyData.eqv]
@[simp] theorem q_n : PyData.eqvAll [] [] = true := by simp only [PyData.eqvAll]
@[simp] theorem q_c (a b : PyData) (as bs : List PyData) : PyData.eqvAll (a :: as) (b :: bs) = (PyData.eqv a b && PyData.eqvAll as bs) := by simp only [PyData.eqvAll]
@[simp] theorem q_nc (b : PyData) (bs : List PyData) : PyData.eqvAll [] (b :: bs) = false := by simp only [PyData.eqvAll]
@[simp] theorem q_cn (b : PyData) (bs : List PyData) : PyData.eqvAll (b :: bs) [] = false := by simp only [PyData.eqvAll]
@[simp] theorem dp_i (i : Int) : (PyData.int i).depth = 0 := by simp only [PyData.depth]
@[simp] theorem dp_s (i : Str) : (PyData.str i).depth = 0 := by simp only [PyData.depth]
@[simp] theorem dp_b (i : Bool) : (PyData.bool i).depth = 0 := by simp only [PyData.depth]
@[simp] theorem dp_o : PyData.none.depth = 0 := by simp only [PyData.depth]
@[simp] theorem dp_l (ds : List PyData) : (PyData.list ds).depth = PyData.depthAll ds + 1 := by simp only [PyData.depth]
@[simp] theorem dp_t (ds : List PyData) : (PyData.tuple ds).depth = PyData.depthAll ds + 1 := by simp only [PyData.depth]
@[simp] theorem dp_0 : PyData.depthAll [] = 0 := by simp only [PyData.depthAll]
@[simp] theorem dp_1 (d : PyData) (ds : List PyData) : PyData.depthAll (d :: ds) = max d.depth (PyData.depthAll ds) := by simp only [PyData.depthAll]
theorem atI_nat {α : Type} {xs : List α} {i : Nat} (h : i < xs.length) : atI xs (i : Int) = some xs[i] := by
  unfold atI ixN
  rw [if_pos (Int.natCast_nonneg i), if_pos (Int.ofNat_lt.mpr h)]
  simp [h]
theorem ixN_nat {n i : Nat} (h : i < n) : ixN n (i : Int) = some i := by
  unfold ixN
  rw [if_pos (Int.natCast_nonneg i), if_pos (Int.ofNat_lt.mpr h)]
  simp
@[simp] theorem x_0 {α : Type} (d : α) (ds : List α) : atI (d :: ds) 0 = some d := atI_nat (i := 0) (by simp)
@[simp] theorem x_1 {α : Type} (a d : α) (ds : List α) : atI (a :: d :: ds) 1 = some d := atI_nat (i := 1) (by simp)
@[simp] theorem x_2 {α : Type} (a b d : α) (ds : List α) : atI (a :: b :: d :: ds) 2 = some d := atI_nat (i := 2) (by simp)
@[simp] theorem x_3 {α : Type} (a b c d : α) (ds : List α) : atI (a :: b :: c :: d :: ds) 3 = some d := atI_nat (i := 3) (by simp)
@[simp] theorem n_0 (n : Nat) : ixN (n + 1) 0 = some 0 := ixN_nat (i := 0) (by omega)
@[simp] theorem n_1 (n : Nat) : ixN (n + 2) 1 = some 1 := ixN_nat (i := 1) (by omega)
@[simp] theorem n_2 (n : Nat) : ixN (n + 3) 2 = some 2 := ixN_nat (i := 2) (by omega)
@[simp] theorem n_3 (n : Nat) : ixN (n + 4) 3 = some 3 := ixN_nat (i := 3) (by omega)
/-! ### steps -/
section
variable {f g : EF} {F G : SF} {b b2 : BF} {h : AF} {sl sl1 sl2 : Sl} {cs c1 c2 c3 : Cs} {v w x : Val} {i : Nat} {op : Op2} {den : FF}
theorem sSeq_n (h : F sl cs = some (.nxt sl1 c1)) : sSeq F G sl cs = G sl1 c1 := by
  unfold sSeq
  rw [h]
theorem sSeq_r (h : F sl cs = some (.ret v c1)) : sSeq F G sl cs = some (.ret v c1) := by
  unfold sSeq
  rw [h]
theorem sSet_v (h : f sl cs = some (v, c1)) : sSet i f sl cs = some (.nxt (sl.set i (some v)) c1) := by
  unfold sSet
  rw [h]
theorem sEx_v (h : f sl cs = some (v, c1)) : sEx f sl cs = some (.nxt sl c1) := by
  unfold sEx
  rw [h]
theorem sRet_v (h : f sl cs = some (v, c1)) : sRet f sl cs = some (.ret v c1) := by
  unfold sRet
  rw [h]
theorem sIf_t (h : b sl cs = some (true, c1)) : sIf b F G sl cs = F sl c1 := by
  unfold sIf
  rw [h]
theorem sIf_f (h : b sl cs = some (false, c1)) : sIf b F G sl cs = G sl c1 := by
  unfold sIf
  rw [h]
theorem sFor_i {it : IF} {tg : Tg} {ws : List Nat} {its : List PyData} {gd : Gd} (h : it sl cs = some (its, gd, c1)) : sFor it tg ws F sl cs = forD tg gd ws c1.length F its sl c1 := by
  unfold sFor
  rw [h]
theorem bV_v {k : Bool} (h : f sl cs = some (.fr (.bool k), c1)) : bV f sl cs = some (k, c1) := by
  unfold bV
  rw [h]
theorem bNot_v {k : Bool} (h : b sl cs = some (k, c1)) : bNot b sl cs = some (!k, c1) := by
  unfold bNot
  rw [h]
theorem bOr_f (h : b sl cs = some (false, c1)) : bOr b b2 sl cs = b2 sl c1 := by
  unfold bOr
  rw [h]
theorem bOr_t (h : b sl cs = some (true, c1)) : bOr b b2 sl cs = some (true, c1) := by
  unfold bOr
  rw [h]
theorem bAnd_t (h : b sl cs = some (true, c1)) : bAnd b b2 sl cs = b2 sl c1 := by
  unfold bAnd
  rw [h]
theorem bAnd_f (h : b sl cs = some (false, c1)) : bAnd b b2 sl cs = some (false, c1) := by
  unfold bAnd
  rw [h]
theorem d2_v (ha : f sl cs = some (v, c1)) (hb : g sl c1 = some (w, c2)) (ho : op v w c2 = some x) : d2 op f g sl cs = some (x, c2) := by
  unfold d2
  rw [ha]
  dsimp only
  rw [hb]
  dsimp only
  rw [ho]
theorem dFn_v {as : List Val} (hg : h sl cs = some (as, c1)) (hf : den as c1 = some (.ret v c2)) : dFn den h sl cs = some (v, c2) := by
  unfold dFn
  rw [hg]
  dsimp only
  rw [hf]
theorem aNil_v : aNil sl cs = some ([], cs) := rfl
theorem aCons_v {as : List Val} (hf : f sl cs = some (v, c1)) (hg : h sl c1 = some (as, c2)) : aCons f h sl cs = some (v :: as, c2) := by
  unfold aCons
  rw [hf]
  dsimp only
  rw [hg]
theorem dV_v (h : sl[i]? = some (some v)) : dV i sl cs = some (v, cs) := by
  unfold dV
  rw [h]
theorem dK_v {d : PyData} : dK d sl cs = some (.fr d, cs) := rfl
theorem turn_n {tg : Tg} {ws : List Nat} {n : Nat} {d : PyData} (ht : tg.d d sl = some sl1) (hb : F sl1 cs = some (.nxt sl2 c2)) : turnD tg ws n F d sl cs = some (.go (fgt ws n sl2) (c2.take n)) := by
  unfold turnD
  rw [ht]
  dsimp only
  rw [hb]
theorem turn_g {tg : Tg} {ws : List Nat} {n : Nat} {d : PyData} {sl3 : Sl} (ht : tg.d d sl = some sl1) (hb : F sl1 cs = some (.nxt sl2 c2)) (e1 : fgt ws n sl2 = sl3) (e2 : c2.take n = c3) : turnD tg ws n F d sl cs = some (.go sl3 c3) := by
  rw [turn_n ht hb, e1, e2]
theorem dAnd_t (h : f sl cs = some (.fr (.bool true), c1)) : dAnd f g sl cs = g sl c1 := by
  unfold dAnd
  rw [h]
theorem iSeq_l {ds : List PyData} (h : f sl cs = some (.fr (.list ds), c1)) : iSeq f sl cs = some (ds, [], c1) := by
  unfold iSeq
  rw [h]
  rfl
end
/-! ### codes of plain values -/
section
open PySem.W
variable {α β : Type} [DecidableEq α] [Datum α] [DecidableEq β] [Datum β]
abbrev cd (a : α) : PyData := Datum.toD a
abbrev fc (a : α) : Val := .fr (Datum.toD a)
theorem oEq_c {a b : α} {cs : Cs} (h : Datum.depth α ≤ 64) : oEq (.fr (Datum.toD a)) (.fr (Datum.toD b)) cs = some (.fr (.bool (decide (a = b)))) := by
  have h1 := Nat.le_trans (Datum.depth_le a) h
  have h2 := Nat.le_trans (Datum.depth_le b) h
  simp [h1, h2, Datum.eqv]
theorem oNe_c {a b : α} {cs : Cs} (h : Datum.depth α ≤ 64) : oNe (.fr (Datum.toD a)) (.fr (Datum.toD b)) cs = some (.fr (.bool (!decide (a = b)))) := by
  have h1 := Nat.le_trans (Datum.depth_le a) h
  have h2 := Nat.le_trans (Datum.depth_le b) h
  simp [h1, h2, Datum.eqv]
end
end DX
set_option maxHeartbeats 1000000
/-! DX, plain part: dens that many laws have. -/
namespace DX
open PySem L2 PySem.Spec PyProof.Rows
def b_Ldraw : SF := (sSeq (sIf (bAnd (bV (d2 oEq (d2 oIx (dV 0) (dK (.int 2))) (dK (.int 0)))) (bV (d2 oLt (d2 oIx (dV 0) (dK (.int 1))) (dCall oLen (aCons (d2 oIx (dV 0) (dK (.int 0))) aNil))))) (sSeq (sSet 2 (dCall oAbs (aCons (dCall oInt (aCons (d2 oIx (d2 oIx (dV 0) (dK (.int 0))) (d2 oIx (dV 0) (dK (.int 1)))) aNil)) aNil))) (sSeq (sSubAug (fun i j => i + j) (dV 0) (dK (.int 1)) (dK (.int 1))) (sIf (bV (d2 oGe (dV 2) (d2 oPow (dK (.int 10)) (dK (.int 18))))) (sSub (dV 2) (dV 0) (dK (.int 2))) (sSub (d2 oMod (dCall oInt (aCons (d2 oAdd (d2 oAdd (d2 oMul (d2 oIx (dV 0) (dK (.int 3))) (dK (.int 48271))) (d2 oMul (dV 2) (dK (.int 69621)))) (d2 oIx (dV 0) (dK (.int 1)))) aNil)) (dK (.int 2147483647))) (dV 0) (dK (.int 3)))))) sNo) (sSeq (sIf (bV (d2 oGt (d2 oIx (dV 0) (dK (.int 2))) (dK (.int 0)))) (sSeq (sSet 3 (d2 oMod (dCall oInt (aCons (d2 oIx (dV 0) (dK (.int 2))) aNil)) (dV 1))) (sSeq (sSub (d2 oDiv (d2 oIx (dV 0) (dK (.int 2))) (dV 1)) (dV 0) (dK (.int 2))) (sRet (dV 3)))) sNo) (sSeq (sSub (d2 oMod (dCall oInt (aCons (d2 oAdd (d2 oMul (d2 oIx (dV 0) (dK (.int 3))) (dK (.int 16807))) (dK (.int 12345))) aNil)) (dK (.int 2147483647))) (dV 0) (dK (.int 3))) (sSeq (sSet 4 (d2 oMod (dCall oInt (aCons (d2 oAdd (d2 oMul (d2 oIx (dV 0) (dK (.int 3))) (d2 oIx (dV 0) (dK (.int 3)))) (d2 oIx (dV 0) (dK (.int 3)))) aNil)) (dK (.int 2147483629)))) (sRet (d2 oMod (d2 oDiv (dV 4) (dK (.int 11))) (dV 1)))))))
def d_Ldraw : FF := fnD 2 3 b_Ldraw
def b_Lis_whole : SF := (sRet (dAnd (isiD "int" (dV 0)) (dNot (isiD "bool" (dV 0)))))
def d_Lis_whole : FF := fnD 1 0 b_Lis_whole

/-! ### the feed -/
section
variable {ns : List Int} {i : Nat} {t s m : Int} {c : Nat} {cs : Cs}
def fdc (ns : List Int) (i : Nat) (t s : Int) : Cell := .lst [.list (ns.map .int), .int i, .int t, .int s]
def mixed (s : Int) : Int := (s * s + s) % 2147483629
def nxs (s : Int) : Int := (s * 16807 + 12345) % 2147483647
theorem draw_big (hc : cs[c]? = some (some (fdc ns i t s))) (hm : 0 < m) (hm2 : m < 1073741824) (ht : 0 < t) :
    d_Ldraw [.ce c, .fr (.int m)] cs = some (.ret (.fr (.int (t % m))) (cs.set c (some (fdc ns i (t / m) s)))) := by
  have hset : ∀ x, (cs.set c x)[c]? = some x := fun x => List.getElem?_set_self (List.getElem?_eq_some_iff.mp hc).1
  have h0 : ¬ t = 0 := by omega
  unfold fdc at *
  simp [d_Ldraw, b_Ldraw, hc, h0, ht, hm, hm2, hset]
theorem nxs_ok (s : Int) : 0 ≤ nxs s ∧ nxs s < 2147483647 := ⟨Int.emod_nonneg _ (by decide), Int.emod_lt_of_pos _ (by decide)⟩
theorem draw_end (hc : cs[c]? = some (some (fdc ns i 0 s))) (hm : 0 < m) (hm2 : m < 1073741824) (hi : ns.length ≤ i) :
    d_Ldraw [.ce c, .fr (.int m)] cs = some (.ret (.fr (.int (mixed (nxs s) / 11 % m))) (cs.set c (some (fdc ns i 0 (nxs s))))) := by
  have hset : ∀ x, (cs.set c x)[c]? = some x := fun x => List.getElem?_set_self (List.getElem?_eq_some_iff.mp hc).1
  have h1 : ¬ i < ns.length := by omega
  have h2 : (nxs s).natAbs < 18446744073709551616 := by have := nxs_ok s; omega
  unfold nxs at h2
  unfold fdc mixed nxs at *
  simp [d_Ldraw, b_Ldraw, hc, h1, hm, hm2, hset, lenV, h2]
theorem draw_wide {x z : Int} (hc : cs[c]? = some (some (fdc ns i 0 s))) (hm : 0 < m) (hm2 : m < 1073741824) (hi : i < ns.length) (hx : ns[i] = x) (hz : (if x < 0 then -x else x) = z) (hb : 1000000000000000000 ≤ z) :
    d_Ldraw [.ce c, .fr (.int m)] cs = some (.ret (.fr (.int (z % m))) (cs.set c (some (fdc ns (i + 1) (z / m) s)))) := by
  have hset : ∀ x, (cs.set c x)[c]? = some x := fun x => List.getElem?_set_self (List.getElem?_eq_some_iff.mp hc).1
  have hat : atI (ns.map PyData.int) (i : Int) = some (.int x) := by rw [atI_nat (by simpa using hi)]; simp [hx]
  have hz0 : 0 < z := by omega
  unfold fdc at *
  simp [d_Ldraw, b_Ldraw, hc, hi, hm, hm2, hset, lenV, hat, hz, hb, hz0]
theorem draw_slim {x z : Int} (hc : cs[c]? = some (some (fdc ns i 0 s))) (hm : 0 < m) (hm2 : m < 1073741824) (hi : i < ns.length) (hx : ns[i] = x) (hz : (if x < 0 then -x else x) = z) (hb : ¬ 1000000000000000000 ≤ z) :
    ∃ s', d_Ldraw [.ce c, .fr (.int m)] cs = some (.ret (.fr (.int (mixed (nxs s') / 11 % m))) (cs.set c (some (fdc ns (i + 1) 0 (nxs s'))))) := by
  have hset : ∀ x, (cs.set c x)[c]? = some x := fun x => List.getElem?_set_self (List.getElem?_eq_some_iff.mp hc).1
  have hat : atI (ns.map PyData.int) (i : Int) = some (.int x) := by rw [atI_nat (by simpa using hi)]; simp [hx]
  refine ⟨(s * 48271 + z * 69621 + (i + 1)) % 2147483647, ?_⟩
  have h2 : (nxs ((s * 48271 + z * 69621 + (i + 1)) % 2147483647)).natAbs < 18446744073709551616 := by have := nxs_ok ((s * 48271 + z * 69621 + (i + 1)) % 2147483647); omega
  unfold nxs at h2
  unfold fdc mixed nxs at *
  simp [d_Ldraw, b_Ldraw, hc, hi, hm, hm2, hset, lenV, hat, hz, hb, h2]
end
/-- the feed at c, and what a draw does -/
def FeedAt (c : Nat) (cs : Cs) : Prop := ∃ (ns : List Int) (i : Nat) (t s : Int), cs[c]? = some (some (fdc ns i t s)) ∧ 0 ≤ t
theorem feed_at0 (ns : List Int) : FeedAt 0 [some (feed0 ns)] := ⟨ns, 0, 0, 1, rfl, Int.le_refl _⟩
theorem FeedAt.set {c : Nat} {cs : Cs} (h : FeedAt c cs) {ns : List Int} {i : Nat} {t s : Int} (ht : 0 ≤ t) : FeedAt c (cs.set c (some (fdc ns i t s))) := by
  obtain ⟨_, _, _, _, h1, _⟩ := h
  exact ⟨ns, i, t, s, List.getElem?_set_self (List.getElem?_eq_some_iff.mp h1).1, ht⟩
theorem FeedAt.app {c : Nat} {cs : Cs} (h : FeedAt c cs) (more : Cs) : FeedAt c (cs ++ more) := by
  obtain ⟨a, b, d, e, h1, h2⟩ := h
  exact ⟨a, b, d, e, by rw [List.getElem?_append_left (List.getElem?_eq_some_iff.mp h1).1]; exact h1, h2⟩
/-- cs and cs' differ at c alone, where a feed stands -/
def FeedTo (c : Nat) (cs cs' : Cs) : Prop := FeedAt c cs' ∧ ∃ x, cs' = cs.set c (some x)
theorem FeedTo.refl {c : Nat} {cs : Cs} (h : FeedAt c cs) : FeedTo c cs cs := by
  refine ⟨h, ?_⟩
  obtain ⟨a, b, d, e, h1, h2⟩ := h
  refine ⟨fdc a b d e, ?_⟩
  obtain ⟨hl, he⟩ := List.getElem?_eq_some_iff.mp h1
  rw [← he, List.set_getElem_self]
theorem FeedTo.trans {c : Nat} {cs cs1 cs2 : Cs} (h : FeedTo c cs cs1) (h2 : FeedTo c cs1 cs2) : FeedTo c cs cs2 := by
  obtain ⟨_, x, rfl⟩ := h
  obtain ⟨a, y, rfl⟩ := h2
  exact ⟨a, y, by rw [List.set_set]⟩
theorem FeedTo.len {c : Nat} {cs cs' : Cs} (h : FeedTo c cs cs') : cs'.length = cs.length := by
  obtain ⟨_, x, rfl⟩ := h
  rw [List.length_set]
theorem draw_ok {c : Nat} {cs : Cs} {m : Int} (h : FeedAt c cs) (hm : 0 < m) (hm2 : m < 1073741824) : ∃ r cs', d_Ldraw [.ce c, .fr (.int m)] cs = some (.ret (.fr (.int r)) cs') ∧ 0 ≤ r ∧ r < m ∧ FeedTo c cs cs' := by
  have h' := h
  obtain ⟨ns, i, t, s, hc, ht⟩ := h
  have ok : ∀ {r : Int} {cs' : Cs} {x : Int}, d_Ldraw [.ce c, .fr (.int m)] cs = some (.ret (.fr (.int (x % m))) cs') → FeedTo c cs cs' → ∃ r cs', d_Ldraw [.ce c, .fr (.int m)] cs = some (.ret (.fr (.int r)) cs') ∧ 0 ≤ r ∧ r < m ∧ FeedTo c cs cs' :=
    fun {r cs' x} e f => ⟨_, _, e, Int.emod_nonneg _ (by omega), Int.emod_lt_of_pos _ hm, f⟩
  by_cases h0 : 0 < t
  · exact ok (r := 0) (draw_big hc hm hm2 h0) ⟨h'.set (Int.ediv_nonneg ht (by omega)), _, rfl⟩
  · have e : t = 0 := by omega
    subst e
    by_cases hi : i < ns.length
    · by_cases hb : 1000000000000000000 ≤ (if ns[i] < 0 then -ns[i] else ns[i])
      · exact ok (r := 0) (draw_wide hc hm hm2 hi rfl rfl hb) ⟨h'.set (Int.ediv_nonneg (by omega) (by omega)), _, rfl⟩
      · obtain ⟨s', e⟩ := draw_slim hc hm hm2 hi rfl rfl hb
        exact ok (r := 0) e ⟨h'.set (Int.le_refl _), _, rfl⟩
    · exact ok (r := 0) (draw_end hc hm hm2 (by omega)) ⟨h'.set (Int.le_refl _), _, rfl⟩
end DX
set_option maxHeartbeats 1000000
/-! DX, plain part: steps, hours, plans (dens that the laws k59 to k65 have). -/
namespace DX
open PySem L2 PySem.Spec PyProof.Rows
open PySem.W (Datum)
def b_depends : SF := (sSeq (sIf (bV (d2 oEq (d2 oIx (dV 0) (dK (.int 0))) (d2 oIx (dV 1) (dK (.int 0))))) (sRet (dK (.bool true))) sNo) (sRet (dCall oAny (aCons (dFz (dLc (iSeq (d2 oIx (dV 0) (dK (.int 2)))) (.nm 2) [2] bYes (d2 oIn (dV 2) (d2 oIx (dV 1) (dK (.int 2)))))) aNil))))
def d_depends : FF := fnD 2 1 b_depends
def b_Ldep : SF := (sSeq (sIf (bV (d2 oEq (d2 oIx (dV 0) (dK (.int 0))) (d2 oIx (dV 1) (dK (.int 0))))) (sRet (dK (.bool true))) sNo) (sRet (d2 oGt (dCall oLen (aCons (dFz (dLc (iSeq (d2 oIx (dV 0) (dK (.int 2)))) (.nm 2) [2] (bV (d2 oIn (dV 2) (d2 oIx (dV 1) (dK (.int 2))))) (dV 2))) aNil)) (dK (.int 0)))))
def d_Ldep : FF := fnD 2 1 b_Ldep
def b_Lare_wholes : SF := (sSeq (sIf (bOr (bNot (bV (isiD "list" (dV 0)))) (bV (d2 oNe (dCall oLen (aCons (dV 0) aNil)) (dV 1)))) (sRet (dK (.bool false))) sNo) (sRet (d2 oEq (dCall oLen (aCons (dFz (dLc (iSeq (dV 0)) (.nm 2) [2] (bNot (bV (dFn d_Lis_whole (aCons (dV 2) aNil)))) (dV 2))) aNil)) (dK (.int 0)))))
def d_Lare_wholes : FF := fnD 2 1 b_Lare_wholes
def b_Lstep : SF := (sSeq (sSet 5 (dFz (dLc (iSeq (dV 2)) (.nm 6) [6] (bV (d2 oEq (dFn d_Ldraw (aCons (dV 0) (aCons (dV 4) aNil))) (dK (.int 0)))) (dV 6)))) (sRet (dTup (aCons (d2 oIx (dV 1) (dFn d_Ldraw (aCons (dV 0) (aCons (dCall oLen (aCons (dV 1) aNil)) aNil)))) (aCons (d2 oIx (dV 3) (dFn d_Ldraw (aCons (dV 0) (aCons (dCall oLen (aCons (dV 3) aNil)) aNil)))) (aCons (dCall oTuple (aCons (dSl (dV 5) pNo (pYes (dK (.int 4)))) aNil)) aNil))))))
def d_Lstep : FF := fnD 5 2 b_Lstep
def b_Lhours : SF := (sSeq (sSet 2 (d2 oIx (dFz (dLst (aCons (dK (.int 1)) (aCons (dK (.int 3)) (aCons (dK (.int 9)) (aCons (dK (.int 99)) aNil)))))) (dFn d_Ldraw (aCons (dV 0) (aCons (dK (.int 4)) aNil))))) (sSeq (sSet 3 (dK (.int 1))) (sSeq (sIf (bV (d2 oEq (dFn d_Ldraw (aCons (dV 0) (aCons (dK (.int 6)) aNil))) (dK (.int 0)))) (sSet 3 (dV 2)) sNo) (sRet (dFz (dLc (iRg1 (dV 1)) (.nm 4) [4] bYes (d2 oAdd (dV 3) (dFn d_Ldraw (aCons (dV 0) (aCons (d2 oAdd (d2 oSub (dV 2) (dV 3)) (dK (.int 1))) aNil))))))))))
def d_Lhours : FF := fnD 2 3 b_Lhours
def b_Lsteps : SF := (sSeq (sSet 2 (dSl (dFz (dLst (aCons (dK (.str "ann")) (aCons (dK (.str "bob")) (aCons (dK (.str "cy")) (aCons (dK (.str "dot")) (aCons (dK (.str "annabell")) aNil))))))) pNo (pYes (d2 oAdd (dK (.int 1)) (dFn d_Ldraw (aCons (dV 0) (aCons (dK (.int 5)) aNil))))))) (sSeq (sSet 3 (dFz (dCallL oSorted (aCons (dSl (dFz (dLst (aCons (dK (.str "axe")) (aCons (dK (.str "box")) (aCons (dK (.str "cup")) (aCons (dK (.str "dye")) (aCons (dK (.str "axes")) aNil))))))) pNo (pYes (dFn d_Ldraw (aCons (dV 0) (aCons (dK (.int 6)) aNil))))) aNil)))) (sSeq (sSet 4 (dSl (dFz (dLst (aCons (dK (.str "cut")) (aCons (dK (.str "dry")) (aCons (dK (.str "mend")) (aCons (dK (.str "oil")) aNil)))))) pNo (pYes (d2 oAdd (dK (.int 1)) (dFn d_Ldraw (aCons (dV 0) (aCons (dK (.int 4)) aNil))))))) (sSeq (sSet 5 (d2 oAdd (dK (.int 2)) (dFn d_Ldraw (aCons (dV 0) (aCons (dK (.int 4)) aNil))))) (sRet (dFz (dLc (iRg1 (dV 1)) (.nm 6) [6] bYes (dFn d_Lstep (aCons (dV 0) (aCons (dV 2) (aCons (dV 3) (aCons (dV 4) (aCons (dV 5) aNil)))))))))))))
def d_Lsteps : FF := fnD 2 5 b_Lsteps
def b_earliest : SF := (sSeq (sSet 2 (dCe (dLst aNil))) (sSeq (sFor (iEn (dV 0)) (.tp (.cons (.nm 3) (.cons (.nm 4) Tgs.nil))) [5, 3, 4] (sSeq (sSet 5 (dFz (dLc (iRg1 (dV 3)) (.nm 6) [6] (bV (dFn d_depends (aCons (d2 oIx (dV 0) (dV 6)) (aCons (dV 4) aNil)))) (d2 oAdd (d2 oIx (dV 2) (dV 6)) (d2 oIx (dV 1) (dV 6)))))) (sEx (dApp (dV 2) (dDft maxI (dV 5) (dK (.int 0))))))) (sRet (dFr (dV 2)))))
def d_earliest : FF := fnD 2 5 b_earliest
def b_Learly : SF := (sSeq (sSet 2 (dCe (dLst aNil))) (sSeq (sFor (iRg1 (dCall oLen (aCons (dV 0) aNil))) (.nm 3) [3] (sEx (dApp (dV 2) (dCall oMax (aCons (d2 oAdd (dFz (dLst (aCons (dK (.int 0)) aNil))) (dFz (dLc (iRg1 (dV 3)) (.nm 4) [4] (bV (dFn d_Ldep (aCons (d2 oIx (dV 0) (dV 4)) (aCons (d2 oIx (dV 0) (dV 3)) aNil)))) (d2 oAdd (d2 oIx (dV 2) (dV 4)) (d2 oIx (dV 1) (dV 4)))))) aNil))))) (sRet (dFr (dV 2)))))
def d_Learly : FF := fnD 2 3 b_Learly
/-! ### steps -/
abbrev Step := Str × Str × List Str
def sc (s : Step) : PyData := .tuple [.str s.1, .str s.2.1, .tuple (s.2.2.map .str)]
abbrev nilS : Step := (Str.empty, Str.empty, [])
def dep (x y : Step) : Bool := decide (x.1 = y.1) || x.2.2.any fun t => decide (t ∈ y.2.2)
/-- small steps -/
def SOkS (s : Step) : Prop := s.2.2.length ≤ 100
theorem any_str (ts : List Str) (t : Str) : ((ts.map PyData.str).any fun z => PyData.eqv z (.str t)) = decide (t ∈ ts) := by
  rw [Bool.eq_iff_iff, List.any_eq_true, decide_eq_true_eq]
  constructor
  · rintro ⟨d, hd, e⟩
    obtain ⟨y, hy, rfl⟩ := List.mem_map.mp hd
    simp at e
    rw [← e]
    exact hy
  · exact fun hz => ⟨_, List.mem_map.mpr ⟨t, hz, rfl⟩, by simp⟩
theorem any_str' (ts : List Str) (t : Str) : (ts.any ((fun z => PyData.eqv z (.str t)) ∘ PyData.str)) = decide (t ∈ ts) := by
  rw [← any_str, List.any_map]
theorem bls_map {A : Type} (f : A → Bool) : ∀ l : List A, blsOf (l.map fun a => .bool (f a)) = some (l.map f)
  | [] => rfl
  | a :: l => by
    rw [List.map_cons, blsOf, bls_map f l]
    rfl
theorem depends_ok {x y : Step} {cs : Cs} (h : SOkS x) : d_depends [.fr (sc x), .fr (sc y)] cs = some (.ret (.fr (.bool (dep x y))) cs) := by
  have hl : x.2.2.length ≤ 16777216 := Nat.le_trans h (by decide)
  unfold sc
  by_cases h1 : x.1 = y.1
  · simp [d_depends, b_depends, h1, dep]
  · simp [d_depends, b_depends, h1, dep, seqIt, hl]
    rw [lcD_map PyData.str (fun _ => true) (fun t => .bool (decide (t ∈ y.2.2))) x.2.2 fun t _ => by simp [bYes, any_str']]
    simp [bls_map]
theorem Ldep_ok {x y : Step} {cs : Cs} (h : SOkS x) : d_Ldep [.fr (sc x), .fr (sc y)] cs = some (.ret (.fr (.bool (dep x y))) cs) := by
  have hl : x.2.2.length ≤ 16777216 := Nat.le_trans h (by decide)
  unfold sc
  by_cases h1 : x.1 = y.1
  · simp [d_Ldep, b_Ldep, h1, dep]
  · simp [d_Ldep, b_Ldep, h1, dep, seqIt, hl]
    rw [lcD_map PyData.str (fun t => decide (t ∈ y.2.2)) PyData.str x.2.2 fun t _ => by simp [any_str']]
    simp [lenV]
    rw [Bool.eq_iff_iff]
    simp

theorem rangeD_nat (n : Nat) : rangeD 0 (n : Int) = (List.range n).map fun i => .int (i : Nat) := by
  unfold rangeD
  simp
theorem at_map {A : Type} (f : A → PyData) (d : A) {xs : List A} {i : Nat} (h : i < xs.length) : atI (xs.map f) (i : Int) = some (f (xs.getD i d)) := by
  rw [atI_nat (by simpa using h)]
  simp [List.getD, h]
theorem ins_map : ∀ l : List Int, insOf (l.map .int) = some l
  | [] => rfl
  | a :: l => by
    rw [List.map_cons, insOf, ins_map l]
theorem wholes_ok {ns : List Int} {m : Int} {cs : Cs} (h : (ns.length : Int) = m) (h2 : ns.length ≤ 1000) : d_Lare_wholes [.fr (.list (ns.map .int)), .fr (.int m)] cs = some (.ret (.fr (.bool true)) cs) := by
  have e1 : kitB "list" "list" = some true := by decide +kernel
  have e2 : kitB "int" "int" = some true := by decide +kernel
  have e3 : kitB "int" "bool" = some false := by decide +kernel
  have hl : ns.length ≤ 16777216 := by omega
  have hw : ∀ i : Int, d_Lis_whole [.fr (.int i)] cs = some (.ret (.fr (.bool true)) cs) := fun i => by
    simp [d_Lis_whole, b_Lis_whole, tyC, tyD, e2, e3]
  simp [d_Lare_wholes, b_Lare_wholes, tyC, tyD, e1, lenV, h, seqIt, hl]
  rw [lcD_map PyData.int (fun _ => false) PyData.int ns fun t _ => by simp [hw]]
  simp
/-! ### the earliest plan -/
def ends (st : List Step) (hs pl : List Int) (j : Nat) : List Int := ((List.range j).filter fun i => dep (st.getD i nilS) (st.getD j nilS)).map fun i => pl.getD i 0 + hs.getD i 0
def top0 (l : List Int) : Int := match maxI l with
  | some m => m
  | none => 0
def plan (st : List Step) (hs : List Int) : Nat → List Int
  | 0 => []
  | j + 1 => plan st hs j ++ [top0 (ends st hs (plan st hs j) j)]
theorem plan_len (st : List Step) (hs : List Int) : ∀ j, (plan st hs j).length = j
  | 0 => rfl
  | j + 1 => by rw [plan, List.length_append, plan_len st hs j]; rfl
theorem ends_run {st : List Step} {hs pl : List Int} {j : Nat} {f : BF} {g : EF} {sl : Sl} {cs : Cs} {tg : Nat} (h : ∀ i, i < j → f (sl.set tg (some (.fr (.int (i : Nat))))) cs = some (dep (st.getD i nilS) (st.getD j nilS), cs))
    (h2 : ∀ i, i < j → g (sl.set tg (some (.fr (.int (i : Nat))))) cs = some (.fr (.int (pl.getD i 0 + hs.getD i 0)), cs)) : lcD (.nm tg) [] cs.length f g sl (rangeD 0 (j : Nat)) cs = some ((ends st hs pl j).map .int, cs) := by
  rw [rangeD_nat, lcD_map (fun i : Nat => PyData.int i) (fun i => dep (st.getD i nilS) (st.getD j nilS)) (fun i => .int (pl.getD i 0 + hs.getD i 0)) (List.range j) fun i hi => ⟨_, e_tgn _ _ _, h i (List.mem_range.mp hi), fun _ => h2 i (List.mem_range.mp hi)⟩]
  unfold ends
  rw [List.map_map]
  rfl
section
variable {f g : EF} {lf : LF} {it : IF} {sl : Sl} {cs c1 c2 : Cs} {i : Nat}
theorem dFz_v {ds : List PyData} (h : lf sl cs = some (ds, c1)) : dFz lf sl cs = some (.fr (.list ds), c1) := by
  unfold dFz
  rw [h]
theorem dCe_v {ds : List PyData} (h : lf sl cs = some (ds, c1)) : dCe lf sl cs = some (.ce c1.length, c1 ++ [some (.lst ds)]) := by
  unfold dCe
  rw [h]
theorem dLc_v {tg : Tg} {vs : List Nat} {cond : BF} {its ds : List PyData} {gd : Gd} (h : it sl cs = some (its, gd, c1)) (hl : its.length ≤ 16777216) (h2 : lcD tg gd c1.length cond f (wp vs sl) its c1 = some (ds, c2)) : dLc it tg vs cond f sl cs = some (ds, c2) := by
  unfold dLc
  rw [h]
  dsimp only
  rw [if_pos hl, h2]
theorem iRg1_v {n : Int} (h : f sl cs = some (.fr (.int n), c1)) (h1 : -1000000000 ≤ n) (h2 : n ≤ 1000000000) : iRg1 f sl cs = some (rangeD 0 n, [], c1) := by
  rw [e_iRg1, h]
  dsimp only
  rw [if_pos (rgB_of h1 h2)]
theorem iRg2_v {n m : Int} (h : f sl cs = some (.fr (.int n), c1)) (h' : g sl c1 = some (.fr (.int m), c2)) (h1 : -1000000000 ≤ n) (h2 : n ≤ 1000000000) (h3 : -1000000000 ≤ m) (h4 : m ≤ 1000000000) : iRg2 f g sl cs = some (rangeD n m, [], c2) := by
  rw [e_iRg2, h]
  dsimp only
  rw [h']
  dsimp only
  rw [rgB_of h1 h2, rgB_of h3 h4]
  rfl
theorem iEn_v {ds : List PyData} (h : f sl cs = some (.fr (.list ds), c1)) : iEn f sl cs = some (enumD ds, [], c1) := by
  unfold iEn
  rw [h]
  rfl
theorem app_last {ds : List PyData} {d : PyData} (h : f sl (cs ++ [some (.lst ds)]) = some (.ce cs.length, cs ++ [some (.lst ds)])) (h2 : g sl (cs ++ [some (.lst ds)]) = some (.fr d, cs ++ [some (.lst ds)])) (hl : ds.length < 16777216) :
    dApp f g sl (cs ++ [some (.lst ds)]) = some (.fr .none, cs ++ [some (.lst (ds ++ [d]))]) := by
  simp [h, h2, liveL, hl]
theorem dft_v {ns : List Int} (h : f sl cs = some (.fr (.list (ns.map .int)), cs)) (h2 : g sl cs = some (.fr (.int 0), cs)) : dDft maxI f g sl cs = some (.fr (.int (top0 ns)), cs) := by
  unfold top0
  cases e : maxI ns <;> simp [h, h2, ins_map, e]
theorem dFr_v {d : PyData} (h : f sl cs = some (.fr d, c1)) : dFr f sl cs = some (.fr d, c1) := by
  unfold dFr
  rw [h]
  rfl
theorem ix_v {xs : List PyData} {d : PyData} {k : Nat} (h : f sl cs = some (.fr (.list xs), c1)) (h2 : g sl c1 = some (.fr (.int k), c2)) (h3 : atI xs (k : Int) = some d) : d2 oIx f g sl cs = some (.fr d, c2) := by
  refine d2_v h h2 ?_
  simp [h3]
theorem ixc_v {xs : List PyData} {d : PyData} {k c : Nat} (h : f sl cs = some (.ce c, c1)) (h2 : g sl c1 = some (.fr (.int k), c2)) (hc : c2[c]? = some (some (.lst xs))) (h3 : atI xs (k : Int) = some d) : d2 oIx f g sl cs = some (.fr d, c2) := by
  refine d2_v h h2 ?_
  simp [hc, h3]
theorem add_i {a b : Int} (h : f sl cs = some (.fr (.int a), c1)) (h2 : g sl c1 = some (.fr (.int b), c2)) : d2 oAdd f g sl cs = some (.fr (.int (a + b)), c2) := d2_v h h2 (by simp)
theorem fn_go {n m : Nat} {body : SF} {as : List Val} {v : Val} {r : Res} (hl : as.length = n) (h : body (as.map some ++ List.replicate m none) cs = some (.ret v c1)) (h2 : retTo cs.length v c1 = some r) : fnD n m body as cs = some r := by
  unfold fnD
  rw [if_pos hl, h]
  exact h2
end
theorem enum_get {ds : List PyData} {k : Nat} {d : PyData} (h : (enumD ds)[k]? = some d) : ∃ e, ds[k]? = some e ∧ d = .tuple [.int (k : Nat), e] := by
  unfold enumD at h
  rw [List.getElem?_zipWith] at h
  cases e : ds[k]? with
  | none =>
    rw [e] at h
    simp at h
  | some x =>
    have hk := (List.getElem?_eq_some_iff.mp e).1
    rw [e, List.getElem?_range hk] at h
    exact ⟨x, rfl, (Option.some.inj h).symm⟩
theorem range_get {a b : Int} {k : Nat} {d : PyData} (h : (rangeD a b)[k]? = some d) : d = .int (a + (k : Nat)) ∧ k < (b - a).toNat := by
  unfold rangeD at h
  rw [List.getElem?_map] at h
  by_cases hk : k < (b - a).toNat
  · rw [List.getElem?_range hk] at h
    exact ⟨(Option.some.inj h).symm, hk⟩
  · rw [List.getElem?_eq_none (by simpa using hk)] at h
    cases h
theorem getD_mem {A : Type} {xs : List A} {i : Nat} {d : A} (h : i < xs.length) : xs.getD i d ∈ xs := by
  simp [List.getD, h]
/-- small: what the loops ask of steps and hours -/
def Small (st : List Step) (hs : List Int) : Prop := st.length ≤ 500 ∧ hs.length = st.length ∧ ∀ s ∈ st, SOkS s
theorem turn_earl {st : List Step} {hs : List Int} {k : Nat} {cs : Cs} (h : Small st hs) (hk : k < st.length) :
    turnD (.tp (.cons (.nm 3) (.cons (.nm 4) Tgs.nil))) [5, 3, 4] (cs.length + 1) (sSeq (sSet 5 (dFz (dLc (iRg1 (dV 3)) (.nm 6) [6] (bV (dFn d_depends (aCons (d2 oIx (dV 0) (dV 6)) (aCons (dV 4) aNil)))) (d2 oAdd (d2 oIx (dV 2) (dV 6)) (d2 oIx (dV 1) (dV 6)))))) (sEx (dApp (dV 2) (dDft maxI (dV 5) (dK (.int 0))))))
      (.tuple [.int (k : Nat), sc (st.getD k nilS)]) [some (.fr (.list (st.map sc))), some (.fr (.list (hs.map .int))), some (.ce cs.length), none, none, none, none] (cs ++ [some (.lst ((plan st hs k).map .int))]) =
    some (.go [some (.fr (.list (st.map sc))), some (.fr (.list (hs.map .int))), some (.ce cs.length), none, none, none, none] (cs ++ [some (.lst ((plan st hs (k + 1)).map .int))])) := by
  obtain ⟨h1, h2, h3⟩ := h
  have hp := plan_len st hs k
  refine turn_g (sl1 := [some (.fr (.list (st.map sc))), some (.fr (.list (hs.map .int))), some (.ce cs.length), some (.fr (.int k)), some (.fr (sc (st.getD k nilS))), none, none]) (sl2 := [some (.fr (.list (st.map sc))), some (.fr (.list (hs.map .int))), some (.ce cs.length), some (.fr (.int k)), some (.fr (sc (st.getD k nilS))), some (.fr (.list ((ends st hs (plan st hs k) k).map .int))), none]) (c2 := cs ++ [some (.lst ((plan st hs (k + 1)).map .int))]) (by simp) ?_ (by simp) (List.take_of_length_le (by simp))
  refine (sSeq_n (sSet_v (dFz_v (dLc_v (iRg1_v (dV_v rfl) (by omega) (by omega)) (by rw [rangeD_nat]; simp; omega) (ends_run (st := st) (hs := hs) (pl := plan st hs k) (fun i hi => ?_) (fun i hi => ?_)))))).trans ((sEx_v (app_last (dV_v rfl) (dft_v (dV_v rfl) dK_v) (by rw [List.length_map, hp]; omega))).trans ?_)
  · exact bV_v (dFn_v (aCons_v (ix_v (dV_v rfl) (dV_v rfl) (at_map sc nilS (by omega))) (aCons_v (dV_v rfl) aNil_v)) (depends_ok (h3 _ (getD_mem (by omega)))))
  · exact add_i (ixc_v (dV_v rfl) (dV_v rfl) (by simp) (at_map PyData.int 0 (by omega))) (ix_v (dV_v rfl) (dV_v rfl) (at_map PyData.int 0 (by omega)))
  · rw [plan, List.map_append]
    rfl
theorem earliest_ok {st : List Step} {hs : List Int} {cs : Cs} (h : Small st hs) : d_earliest [.fr (.list (st.map sc)), .fr (.list (hs.map .int))] cs = some (.ret (.fr (.list ((plan st hs st.length).map .int))) cs) := by
  obtain ⟨o, e, rfl⟩ := forD_J (tg := .tp (.cons (.nm 3) (.cons (.nm 4) Tgs.nil))) (g := []) (ws := [5, 3, 4]) (n := cs.length + 1)
    (body := sSeq (sSet 5 (dFz (dLc (iRg1 (dV 3)) (.nm 6) [6] (bV (dFn d_depends (aCons (d2 oIx (dV 0) (dV 6)) (aCons (dV 4) aNil)))) (d2 oAdd (d2 oIx (dV 2) (dV 6)) (d2 oIx (dV 1) (dV 6)))))) (sEx (dApp (dV 2) (dDft maxI (dV 5) (dK (.int 0))))))
    (its := enumD (st.map sc)) (fun k sl c => sl = [some (.fr (.list (st.map sc))), some (.fr (.list (hs.map .int))), some (.ce cs.length), none, none, none, none] ∧ c = cs ++ [some (.lst ((plan st hs k).map .int))])
    (fun o => o = .nxt [some (.fr (.list (st.map sc))), some (.fr (.list (hs.map .int))), some (.ce cs.length), none, none, none, none] (cs ++ [some (.lst ((plan st hs st.length).map .int))]))
    (fun _ _ _ _ => rfl) (fun k d sl c hd ⟨a, b⟩ => by
      subst a b
      obtain ⟨x, hx, rfl⟩ := enum_get hd
      rw [List.getElem?_map] at hx
      have hk : k < st.length := by
        by_cases q : k < st.length
        · exact q
        · rw [List.getElem?_eq_none (by omega)] at hx
          cases hx
      have ex : x = sc (st.getD k nilS) := by
        rw [List.getElem?_eq_getElem hk] at hx
        rw [← Option.some.inj hx]
        simp [List.getD, hk]
      subst ex
      exact ⟨_, turn_earl h hk, rfl, rfl⟩)
    (fun sl c ⟨a, b⟩ => by rw [a, b, enumD_len, List.length_map]) _ _ ⟨rfl, rfl⟩
  refine fn_go (v := .fr (.list ((plan st hs st.length).map .int))) (c1 := cs ++ [none]) rfl ?_ (by simp)
  refine (sSeq_n (sSet_v (dCe_v (ds := []) (c1 := cs) (by simp)))).trans ((sSeq_n ((sFor_i (iEn_v (dV_v rfl))).trans (by rw [List.length_append]; exact e))).trans (sRet_v ?_))
  simp
/-! ### the law's own plan -/
theorem top0_cons {l : List Int} (h : ∀ e ∈ l, 0 ≤ e) : maxI (0 :: l) = some (top0 l) := by
  cases e : maxI (0 :: l) with
  | none => cases e
  | some m =>
    obtain ⟨h1, h2⟩ := maxI_is e
    unfold top0
    cases e2 : maxI l with
    | none =>
      cases l with
      | nil =>
        have : m = 0 := by simpa using h1
        rw [this]
      | cons a l => cases e2
    | some k =>
      obtain ⟨g1, g2⟩ := maxI_is e2
      have a1 := h2 k (List.mem_cons_of_mem _ g1)
      have a2 := h k g1
      congr 1
      show m = k
      rcases List.mem_cons.mp h1 with q | q
      · omega
      · have := g2 m q
        omega
theorem top0_nn {l : List Int} (h : ∀ e ∈ l, 0 ≤ e) : 0 ≤ top0 l := by
  unfold top0
  cases e2 : maxI l with
  | none => exact Int.le_refl _
  | some k => exact h k (maxI_is e2).1
theorem ends_nn {st : List Step} {hs pl : List Int} {j : Nat} (h1 : ∀ x ∈ hs, 0 ≤ x) (h2 : ∀ x ∈ pl, 0 ≤ x) : ∀ e ∈ ends st hs pl j, 0 ≤ e := by
  intro e he
  unfold ends at he
  obtain ⟨i, hi, rfl⟩ := List.mem_map.mp he
  have nn : ∀ {l : List Int} {i : Nat}, (∀ x ∈ l, 0 ≤ x) → 0 ≤ l.getD i 0 := fun {l i} h => by
    by_cases q : i < l.length
    · exact h _ (getD_mem q)
    · simp [List.getD, q]
  have := nn (i := i) h1
  have := nn (i := i) h2
  omega
theorem plan_nn {st : List Step} {hs : List Int} (h : ∀ x ∈ hs, 0 ≤ x) : ∀ j, ∀ x ∈ plan st hs j, 0 ≤ x
  | 0, _, hx => nomatch hx
  | j + 1, x, hx => by
    rw [plan] at hx
    rcases List.mem_append.mp hx with q | q
    · exact plan_nn h j x q
    · rw [List.mem_singleton.mp q]
      exact top0_nn (ends_nn h (plan_nn h j))
section
variable {f g : EF} {h : AF} {lf : LF} {sl : Sl} {cs c1 c2 : Cs}
theorem max_v {ns : List Int} {m : Int} (h : f sl cs = some (.fr (.list (ns.map .int)), c1)) (hm : maxI ns = some m) : dCall oMax (aCons f aNil) sl cs = some (.fr (.int m), c1) := by
  simp [h, ins_map, hm]
theorem addl_v {a b : List PyData} (h : f sl cs = some (.fr (.list a), c1)) (h2 : g sl c1 = some (.fr (.list b), c2)) (hl : a.length + b.length ≤ 16777216) : d2 oAdd f g sl cs = some (.fr (.list (a ++ b)), c2) := d2_v h h2 (by simp [hl])
theorem len_v {ds : List PyData} (h : f sl cs = some (.fr (.list ds), c1)) : dCall oLen (aCons f aNil) sl cs = some (.fr (.int (ds.length : Nat)), c1) := by
  simp [h, lenV]
end
theorem turn_Learl {st : List Step} {hs : List Int} {k : Nat} {cs : Cs} (h : Small st hs) (hn : ∀ x ∈ hs, 0 ≤ x) (hk : k < st.length) :
    turnD (.nm 3) [3] (cs.length + 1) (sEx (dApp (dV 2) (dCall oMax (aCons (d2 oAdd (dFz (dLst (aCons (dK (.int 0)) aNil))) (dFz (dLc (iRg1 (dV 3)) (.nm 4) [4] (bV (dFn d_Ldep (aCons (d2 oIx (dV 0) (dV 4)) (aCons (d2 oIx (dV 0) (dV 3)) aNil)))) (d2 oAdd (d2 oIx (dV 2) (dV 4)) (d2 oIx (dV 1) (dV 4)))))) aNil))))
      (.int (k : Nat)) [some (.fr (.list (st.map sc))), some (.fr (.list (hs.map .int))), some (.ce cs.length), none, none] (cs ++ [some (.lst ((plan st hs k).map .int))]) =
    some (.go [some (.fr (.list (st.map sc))), some (.fr (.list (hs.map .int))), some (.ce cs.length), none, none] (cs ++ [some (.lst ((plan st hs (k + 1)).map .int))])) := by
  obtain ⟨h1, h2, h3⟩ := h
  have hp := plan_len st hs k
  have he : (ends st hs (plan st hs k) k).length ≤ 1000 := by
    unfold ends
    rw [List.length_map]
    have := List.length_filter_le (fun i => dep (st.getD i nilS) (st.getD k nilS)) (List.range k)
    rw [List.length_range] at this
    omega
  refine turn_g (sl1 := [some (.fr (.list (st.map sc))), some (.fr (.list (hs.map .int))), some (.ce cs.length), some (.fr (.int k)), none]) (sl2 := [some (.fr (.list (st.map sc))), some (.fr (.list (hs.map .int))), some (.ce cs.length), some (.fr (.int k)), none]) (c2 := cs ++ [some (.lst ((plan st hs (k + 1)).map .int))]) (by simp) ?_ (by simp) (List.take_of_length_le (by simp))
  refine (sEx_v (app_last (dV_v rfl) (max_v (ns := 0 :: ends st hs (plan st hs k) k) (addl_v (a := [.int 0]) (dFz_v (by simp)) (dFz_v (dLc_v (iRg1_v (dV_v rfl) (by omega) (by omega)) (by rw [rangeD_nat]; simp; omega) (ends_run (st := st) (hs := hs) (pl := plan st hs k) (fun i hi => ?_) (fun i hi => ?_)))) (by rw [List.length_map, List.length_singleton]; omega)) (top0_cons (ends_nn hn (plan_nn hn k)))) (by rw [List.length_map, hp]; omega))).trans ?_
  · exact bV_v (dFn_v (aCons_v (ix_v (dV_v rfl) (dV_v rfl) (at_map sc nilS (by omega))) (aCons_v (ix_v (dV_v rfl) (dV_v rfl) (at_map sc nilS hk)) aNil_v)) (Ldep_ok (h3 _ (getD_mem (by omega)))))
  · exact add_i (ixc_v (dV_v rfl) (dV_v rfl) (by simp) (at_map PyData.int 0 (by omega))) (ix_v (dV_v rfl) (dV_v rfl) (at_map PyData.int 0 (by omega)))
  · rw [plan, List.map_append]
    rfl
theorem Learly_ok {st : List Step} {hs : List Int} {cs : Cs} (h : Small st hs) (hn : ∀ x ∈ hs, 0 ≤ x) : d_Learly [.fr (.list (st.map sc)), .fr (.list (hs.map .int))] cs = some (.ret (.fr (.list ((plan st hs st.length).map .int))) cs) := by
  obtain ⟨o, e, rfl⟩ := forD_J (tg := .nm 3) (g := []) (ws := [3]) (n := cs.length + 1)
    (body := sEx (dApp (dV 2) (dCall oMax (aCons (d2 oAdd (dFz (dLst (aCons (dK (.int 0)) aNil))) (dFz (dLc (iRg1 (dV 3)) (.nm 4) [4] (bV (dFn d_Ldep (aCons (d2 oIx (dV 0) (dV 4)) (aCons (d2 oIx (dV 0) (dV 3)) aNil)))) (d2 oAdd (d2 oIx (dV 2) (dV 4)) (d2 oIx (dV 1) (dV 4)))))) aNil))))
    (its := rangeD 0 (st.length : Nat)) (fun k sl c => sl = [some (.fr (.list (st.map sc))), some (.fr (.list (hs.map .int))), some (.ce cs.length), none, none] ∧ c = cs ++ [some (.lst ((plan st hs k).map .int))])
    (fun o => o = .nxt [some (.fr (.list (st.map sc))), some (.fr (.list (hs.map .int))), some (.ce cs.length), none, none] (cs ++ [some (.lst ((plan st hs st.length).map .int))]))
    (fun _ _ _ _ => rfl) (fun k d sl c hd ⟨a, b⟩ => by
      subst a b
      obtain ⟨rfl, hk⟩ := range_get hd
      have e0 : (0 : Int) + (k : Nat) = (k : Nat) := by omega
      rw [e0]
      exact ⟨_, turn_Learl h hn (by omega), rfl, rfl⟩)
    (fun sl c ⟨a, b⟩ => by rw [a, b, rangeD_nat, List.length_map, List.length_range]) _ _ ⟨rfl, rfl⟩
  have h1 := h.1
  refine fn_go (v := .fr (.list ((plan st hs st.length).map .int))) (c1 := cs ++ [none]) rfl ?_ (by simp)
  refine (sSeq_n (sSet_v (dCe_v (ds := []) (c1 := cs) (by simp)))).trans ((sSeq_n ((sFor_i (iRg1_v (len_v (dV_v rfl)) (by omega) (by rw [List.length_map]; omega))).trans (by rw [List.length_append, List.length_map]; exact e))).trans (sRet_v ?_))
  simp

/-! ### drawn steps and hours -/
theorem FeedTo.cut {c : Nat} {cs cs2 m : Cs} (h : FeedAt c cs) (f : FeedTo c (cs ++ m) cs2) : ∃ cs1, cs2 = cs1 ++ m ∧ FeedTo c cs cs1 := by
  obtain ⟨a, x, rfl⟩ := f
  obtain ⟨_, _, _, _, h1, _⟩ := h
  have hc := (List.getElem?_eq_some_iff.mp h1).1
  refine ⟨cs.set c (some x), List.set_append_left _ _ hc, ?_, x, rfl⟩
  obtain ⟨n, i, t, s, e, ht⟩ := a
  refine ⟨n, i, t, s, ?_, ht⟩
  rw [List.set_append_left _ _ hc, List.getElem?_append_left (by rw [List.length_set]; exact hc)] at e
  exact e
theorem at_int {A : Type} (f : A → PyData) (d : A) {xs : List A} {i : Int} (h0 : 0 ≤ i) (h : i < xs.length) : atI (xs.map f) i = some (f (xs.getD i.toNat d)) := by
  have := at_map f d (xs := xs) (i := i.toNat) (by omega)
  rwa [Int.toNat_of_nonneg h0] at this
section
variable {f g : EF} {sl : Sl} {cs c1 c2 : Cs}
theorem ixi_v {xs : List PyData} {d : PyData} {k : Int} (h : f sl cs = some (.fr (.list xs), c1)) (h2 : g sl c1 = some (.fr (.int k), c2)) (h3 : atI xs k = some d) : d2 oIx f g sl cs = some (.fr d, c2) := by
  refine d2_v h h2 ?_
  simp [h3]
theorem draw_v {c : Nat} {m r : Int} {i : Nat} {g : EF} (hi : sl[i]? = some (some (.ce c))) (hg : g sl cs = some (.fr (.int m), cs)) (h : d_Ldraw [.ce c, .fr (.int m)] cs = some (.ret (.fr (.int r)) c1)) : dFn d_Ldraw (aCons (dV i) (aCons g aNil)) sl cs = some (.fr (.int r), c1) :=
  dFn_v (aCons_v (dV_v hi) (aCons_v hg aNil_v)) h
end
theorem dTup_v {h : AF} {sl : Sl} {cs c1 c2 : Cs} {vs : List Val} {ds : List PyData} (hh : h sl cs = some (vs, c1)) (hf : fzAll vs c1 = some (ds, c2)) (hl : ds.length ≤ 16777216) : dTup h sl cs = some (.fr (.tuple ds), c2) := by
  unfold dTup
  rw [hh]
  dsimp only
  rw [hf]
  dsimp only
  rw [if_pos hl]
theorem own_run {c : Nat} {cs : Cs} {things : List Str} {thick : Int} {a1 a3 : PyData} (h : FeedAt c cs) (h1 : 0 < thick) (h2 : thick ≤ 100) :
    ∃ (ts : List Str) (cs' : Cs), lcD (.nm 6) [] cs.length (bV (d2 oEq (dFn d_Ldraw (aCons (dV 0) (aCons (dV 4) aNil))) (dK (.int 0)))) (dV 6) [some (.ce c), some (.fr a1), some (.fr (.list (things.map .str))), some (.fr a3), some (.fr (.int thick)), none, none] (things.map .str) cs = some (ts.map .str, cs') ∧ FeedTo c cs cs' ∧ ts.Sublist things := by
  obtain ⟨es, cs', e, f, ts, rfl, hs⟩ := lcD_J (tg := .nm 6) (g := []) (n := cs.length) (cond := bV (d2 oEq (dFn d_Ldraw (aCons (dV 0) (aCons (dV 4) aNil))) (dK (.int 0)))) (elt := dV 6) (sl := [some (.ce c), some (.fr a1), some (.fr (.list (things.map .str))), some (.fr a3), some (.fr (.int thick)), none, none]) (its := things.map .str)
    (fun k acc c' => FeedTo c cs c' ∧ ∃ ts : List Str, acc = ts.map .str ∧ ts.Sublist (things.take k)) (fun _ _ _ _ => rfl) (fun k d acc c' hd ⟨f, ts, ha, hs⟩ => by
      subst ha
      rw [List.getElem?_map] at hd
      cases ht : things[k]? with
      | none =>
        rw [ht] at hd
        cases hd
      | some t =>
        rw [ht] at hd
        have hd' : PyData.str t = d := Option.some.inj hd
        subst hd'
        have htk : things.take (k + 1) = things.take k ++ [t] := by rw [List.take_add_one, ht]; rfl
        obtain ⟨r, c2, e2, r0, r1, f2⟩ := draw_ok (m := thick) f.1 h1 (by omega)
        have hl : c2.length = cs.length := by rw [f2.len, f.len]
        refine ⟨_, e_tgn _ _ _, ?_⟩
        by_cases hr : r = 0
        · refine .inr ⟨c2, .fr (.str t), c2, .str t, c2, bV_v (d2_v (draw_v rfl (dV_v rfl) e2) dK_v ?_), dV_v rfl, rfl, ?_, ts ++ [t], by rw [List.map_append]; rfl, ?_⟩
          · simp [hr]
          · rw [← hl, List.take_length]
            exact f.trans f2
          · rw [htk]
            exact hs.append (List.Sublist.refl _)
        · refine .inl ⟨c2, bV_v (d2_v (draw_v rfl (dV_v rfl) e2) dK_v ?_), ?_, ts, rfl, ?_⟩
          · simp [hr]
          · rw [← hl, List.take_length]
            exact f.trans f2
          · rw [htk]
            exact hs.trans (List.sublist_append_left _ _)) cs ⟨FeedTo.refl h, [], rfl, List.nil_sublist _⟩
  refine ⟨ts, cs', e, f, ?_⟩
  rw [List.length_map, List.take_length] at hs
  exact hs
theorem step_ok {c : Nat} {cs : Cs} {hands things acts : List Str} {thick : Int} (h : FeedAt c cs) (h1 : 0 < thick) (h2 : thick ≤ 100) (g1 : 0 < hands.length) (g2 : 0 < acts.length) (g3 : hands.length ≤ 100) (g4 : acts.length ≤ 100) (g5 : things.length ≤ 100) :
    ∃ (s : Step) (cs' : Cs), d_Lstep [.ce c, .fr (.list (hands.map .str)), .fr (.list (things.map .str)), .fr (.list (acts.map .str)), .fr (.int thick)] cs = some (.ret (.fr (sc s)) cs') ∧ FeedTo c cs cs' ∧ s.1 ∈ hands ∧ s.2.1 ∈ acts ∧ s.2.2.Sublist things ∧ s.2.2.length ≤ 4 := by
  obtain ⟨ts, cs1, e1, f1, hs⟩ := own_run (things := things) (thick := thick) (a1 := .list (hands.map .str)) (a3 := .list (acts.map .str)) h h1 h2
  obtain ⟨i, cs2, e2, i0, i1, f2⟩ := draw_ok (m := (hands.length : Nat)) f1.1 (by omega) (by omega)
  obtain ⟨j, cs3, e3, j0, j1, f3⟩ := draw_ok (m := (acts.length : Nat)) f2.1 (by omega) (by omega)
  have hl : cs3.length = cs.length := by rw [f3.len, f2.len, f1.len]
  have htl : ts.length ≤ 100 := Nat.le_trans hs.length_le g5
  have hcut : DX.cutD (ts.map PyData.str) none (some 4) = (ts.take 4).map PyData.str := by
    unfold DX.cutD HT.sIx
    simp
  refine ⟨(hands.getD i.toNat Str.empty, acts.getD j.toNat Str.empty, ts.take 4), cs3, ?_, (f1.trans f2).trans f3, getD_mem (by omega), getD_mem (by omega), (List.take_sublist _ _).trans hs, by rw [List.length_take]; omega⟩
  refine fn_go (v := .fr (sc (hands.getD i.toNat Str.empty, acts.getD j.toNat Str.empty, ts.take 4))) (c1 := cs3) rfl ?_ (by rw [← hl]; simp)
  refine (sSeq_n (sSet_v (dFz_v (dLc_v (iSeq_l (dV_v rfl)) (by rw [List.length_map]; omega) e1)))).trans (sRet_v ?_)
  have a1 := draw_v (sl := [some (.ce c), some (.fr (.list (hands.map .str))), some (.fr (.list (things.map .str))), some (.fr (.list (acts.map .str))), some (.fr (.int thick)), some (.fr (.list (ts.map .str))), none]) (i := 0) rfl (len_v (f := dV 1) (dV_v rfl)) (by rw [List.length_map]; exact e2)
  have a2 := draw_v (sl := [some (.ce c), some (.fr (.list (hands.map .str))), some (.fr (.list (things.map .str))), some (.fr (.list (acts.map .str))), some (.fr (.int thick)), some (.fr (.list (ts.map .str))), none]) (i := 0) rfl (len_v (f := dV 3) (dV_v rfl)) (by rw [List.length_map]; exact e3)
  have b1 := ixi_v (f := dV 1) (dV_v rfl) a1 (at_int PyData.str Str.empty i0 i1)
  have b2 := ixi_v (f := dV 3) (dV_v rfl) a2 (at_int PyData.str Str.empty j0 j1)
  have b3 : dCall oTuple (aCons (dSl (dV 5) pNo (pYes (dK (.int 4)))) aNil) [some (.ce c), some (.fr (.list (hands.map .str))), some (.fr (.list (things.map .str))), some (.fr (.list (acts.map .str))), some (.fr (.int thick)), some (.fr (.list (ts.map .str))), none] cs3 = some (.fr (.tuple ((ts.take 4).map .str)), cs3) := by
    simp [oSl, hcut]
  exact dTup_v (aCons_v b1 (aCons_v b2 (aCons_v b3 aNil_v))) rfl (by simp)
theorem steps_run {c : Nat} {cs : Cs} {hands things acts : List Str} {thick many : Int} {a1 : PyData} (h : FeedAt c cs) (h1 : 0 < thick) (h2 : thick ≤ 100) (g1 : 0 < hands.length) (g2 : 0 < acts.length) (g3 : hands.length ≤ 100) (g4 : acts.length ≤ 100) (g5 : things.length ≤ 100) :
    ∃ (st : List Step) (cs' : Cs), lcD (.nm 6) [] cs.length bYes (dFn d_Lstep (aCons (dV 0) (aCons (dV 2) (aCons (dV 3) (aCons (dV 4) (aCons (dV 5) aNil)))))) [some (.ce c), some (.fr a1), some (.fr (.list (hands.map .str))), some (.fr (.list (things.map .str))), some (.fr (.list (acts.map .str))), some (.fr (.int thick)), none] (rangeD 0 many) cs =
      some (st.map sc, cs') ∧ FeedTo c cs cs' ∧ st.length = many.toNat ∧ ∀ s ∈ st, s.1 ∈ hands ∧ s.2.1 ∈ acts ∧ s.2.2.Sublist things ∧ s.2.2.length ≤ 4 := by
  obtain ⟨es, cs', e, f, st, rfl, hl, hs⟩ := lcD_J (tg := .nm 6) (g := []) (n := cs.length) (cond := bYes) (elt := dFn d_Lstep (aCons (dV 0) (aCons (dV 2) (aCons (dV 3) (aCons (dV 4) (aCons (dV 5) aNil)))))) (sl := [some (.ce c), some (.fr a1), some (.fr (.list (hands.map .str))), some (.fr (.list (things.map .str))), some (.fr (.list (acts.map .str))), some (.fr (.int thick)), none]) (its := rangeD 0 many)
    (fun k acc c' => FeedTo c cs c' ∧ ∃ st : List Step, acc = st.map sc ∧ st.length = k ∧ ∀ s ∈ st, s.1 ∈ hands ∧ s.2.1 ∈ acts ∧ s.2.2.Sublist things ∧ s.2.2.length ≤ 4) (fun _ _ _ _ => rfl) (fun k d acc c' hd ⟨f, st, ha, hk, hs⟩ => by
      subst ha
      obtain ⟨s, c2, e2, f2, q⟩ := step_ok (hands := hands) (things := things) (acts := acts) f.1 h1 h2 g1 g2 g3 g4 g5
      have hl : c2.length = cs.length := by rw [f2.len, f.len]
      refine ⟨_, e_tgn _ _ _, .inr ⟨c', .fr (sc s), c2, sc s, c2, rfl, dFn_v (aCons_v (dV_v rfl) (aCons_v (dV_v rfl) (aCons_v (dV_v rfl) (aCons_v (dV_v rfl) (aCons_v (dV_v rfl) aNil_v))))) e2, rfl, ?_, st ++ [s], by rw [List.map_append]; rfl, by simp [hk], fun x hx => ?_⟩⟩
      · rw [← hl, List.take_length]
        exact f.trans f2
      · rcases List.mem_append.mp hx with z | z
        · exact hs x z
        · rw [List.mem_singleton.mp z]
          exact q) cs ⟨FeedTo.refl h, [], rfl, rfl, fun _ hx => by simp at hx⟩
  exact ⟨st, cs', e, f, by rw [hl]; simp [rangeD], hs⟩
section
variable {f : EF} {l h : OF} {sl : Sl} {cs c1 c2 c3 : Cs}
theorem dSl_v {v w : Val} {lo hi : Option Int} (hf : f sl cs = some (v, c1)) (hl : l sl c1 = some (lo, c2)) (hh : h sl c2 = some (hi, c3)) (e : oSl v lo hi c3 = some w) : dSl f l h sl cs = some (w, c3) := by
  unfold dSl
  rw [hf]
  dsimp only
  rw [hl]
  dsimp only
  rw [hh]
  dsimp only
  rw [e]
theorem pNo_v : pNo sl cs = some (none, cs) := rfl
theorem pYes_v {i : Int} (hf : f sl cs = some (.fr (.int i), c1)) : pYes f sl cs = some (some i, c1) := by
  unfold pYes
  rw [hf]
end
abbrev handC : List Str := ["ann", "bob", "cy", "dot", "annabell"]
abbrev actC : List Str := ["cut", "dry", "mend", "oil"]
abbrev thingC : List Str := ["axe", "box", "cup", "dye", "axes"]
theorem cut_str {l : List Str} {i : Int} (h : 0 ≤ i) : DX.cutD (l.map PyData.str) none (some i) = (l.take i.toNat).map PyData.str := by
  unfold DX.cutD
  have e : HT.sIx (l.map PyData.str).length (l.map PyData.str).length (some i) = min i.toNat l.length := by
    show (if i < 0 then _ else _) = _
    rw [if_neg (by omega), List.length_map]
  rw [e]
  show ((l.map PyData.str).drop 0).take (min i.toNat l.length - 0) = _
  rw [List.drop_zero, Nat.sub_zero, ← List.map_take]
  congr 1
  by_cases q : i.toNat ≤ l.length
  · rw [Nat.min_eq_left q]
  · rw [Nat.min_eq_right (by omega), List.take_length, List.take_of_length_le (by omega)]
theorem sort_str (zs : List Str) : ∃ ys : List Str, sortD (zs.map .str) = ys.map .str ∧ List.Perm ys zs := by
  have hp : List.Perm (sortD (zs.map .str)) (zs.map .str) := List.mergeSort_perm _ _
  have un : ∀ ds : List PyData, (∀ d ∈ ds, ∃ z, d = PyData.str z) → ∃ zs : List Str, ds = zs.map .str := by
    intro ds h
    induction ds with
    | nil => exact ⟨[], rfl⟩
    | cons d ds ih =>
      obtain ⟨z, rfl⟩ := h d (List.mem_cons_self ..)
      obtain ⟨zs, rfl⟩ := ih fun x hx => h x (List.mem_cons_of_mem _ hx)
      exact ⟨z :: zs, rfl⟩
  obtain ⟨ys, hy⟩ := un (sortD (zs.map .str)) fun d hd => by
    obtain ⟨z, _, hz⟩ := List.mem_map.mp (hp.mem_iff.mp hd)
    exact ⟨z, hz.symm⟩
  refine ⟨ys, hy, ?_⟩
  rw [hy] at hp
  have := hp.map (fun d : PyData => match d with | .str z => z | _ => Str.empty)
  rw [List.map_map, List.map_map] at this
  simpa [Function.comp_def] using this
theorem steps_ok {c : Nat} {cs : Cs} {many : Int} (h : FeedAt c cs) (h0 : 0 ≤ many) (h1 : many ≤ 1000) :
    ∃ (st : List Step) (cs' : Cs), d_Lsteps [.ce c, .fr (.int many)] cs = some (.ret (.fr (.list (st.map sc))) cs') ∧ FeedTo c cs cs' ∧ st.length = many.toNat ∧ ∀ s ∈ st, s.1 ∈ handC ∧ s.2.1 ∈ actC ∧ s.2.2.Nodup ∧ (∀ t ∈ s.2.2, t ∈ thingC) ∧ s.2.2.length ≤ 4 := by
  obtain ⟨i, cs1, e1, i0, i1, f1⟩ := draw_ok (m := 5) h (by decide) (by decide)
  obtain ⟨j, cs2, e2, j0, j1, f2⟩ := draw_ok (m := 6) f1.1 (by decide) (by decide)
  obtain ⟨k, cs3, e3, k0, k1, f3⟩ := draw_ok (m := 4) f2.1 (by decide) (by decide)
  obtain ⟨t, cs4, e4, t0, t1, f4⟩ := draw_ok (m := 4) f3.1 (by decide) (by decide)
  obtain ⟨ys, ey, py⟩ := sort_str (thingC.take j.toNat)
  have lth : (thingC.take j.toNat).length ≤ 5 := by rw [List.length_take]; exact Nat.min_le_right _ _
  have lys : ys.length ≤ 5 := by rw [py.length_eq]; exact lth
  obtain ⟨st, cs5, e5, f5, hl, hs⟩ := steps_run (hands := handC.take (1 + i).toNat) (things := ys) (acts := actC.take (1 + k).toNat) (thick := 2 + t) (many := many) (a1 := .int many) f4.1 (by omega) (by omega)
    (by rw [List.length_take]; exact Nat.lt_min.mpr ⟨by omega, by decide⟩) (by rw [List.length_take]; exact Nat.lt_min.mpr ⟨by omega, by decide⟩) (Nat.le_trans (List.length_take_le' _ _) (by decide)) (Nat.le_trans (List.length_take_le' _ _) (by decide)) (by omega)
  have hcan : canSort ((thingC.take j.toNat).map PyData.str) = true := by
    have : (thingC.take j.toNat).length ≤ 16777216 := by omega
    simp only [canSort, List.all_map, Function.comp_def, PySem.W.alike, dp_s, List.length_map]
    simp
    omega
  have hlen : cs5.length = cs.length := by rw [f5.len, f4.len, f3.len, f2.len, f1.len]
  have hnd : thingC.Nodup := by decide +kernel
  refine ⟨st, cs5, ?_, (((f1.trans f2).trans f3).trans f4).trans f5, hl, fun s hx => ?_⟩
  · refine fn_go (v := .fr (.list (st.map sc))) (c1 := cs5) rfl ?_ (by rw [← hlen]; simp)
    have l1 : ∀ {sl : Sl} {c : Cs}, dFz (dLst (aCons (dK (.str "ann")) (aCons (dK (.str "bob")) (aCons (dK (.str "cy")) (aCons (dK (.str "dot")) (aCons (dK (.str "annabell")) aNil)))))) sl c = some (.fr (.list (handC.map .str)), c) := by intro sl c; simp
    have l2 : ∀ {sl : Sl} {c : Cs}, dFz (dLst (aCons (dK (.str "axe")) (aCons (dK (.str "box")) (aCons (dK (.str "cup")) (aCons (dK (.str "dye")) (aCons (dK (.str "axes")) aNil)))))) sl c = some (.fr (.list (thingC.map .str)), c) := by intro sl c; simp
    have l3 : ∀ {sl : Sl} {c : Cs}, dFz (dLst (aCons (dK (.str "cut")) (aCons (dK (.str "dry")) (aCons (dK (.str "mend")) (aCons (dK (.str "oil")) aNil))))) sl c = some (.fr (.list (actC.map .str)), c) := by intro sl c; simp
    have o1 : ∀ {l : List Str} {i : Int} {c : Cs}, 0 ≤ i → oSl (.fr (.list (l.map .str))) none (some i) c = some (.fr (.list ((l.take i.toNat).map .str))) := fun {l i c} q => by
      unfold oSl
      simp only [e_lsOf]
      rw [cut_str q]
    have s1 : ∀ {l : List Str} {c : Cs} {sl : Sl} {f : EF} {c1 : Cs}, canSort (l.map PyData.str) = true → f sl c = some (.fr (.list (l.map .str)), c1) → dFz (dCallL oSorted (aCons f aNil)) sl c = some (.fr (.list (sortD (l.map .str))), c1) := fun {l c sl f c1} q e => by
      simp [e, q]
    refine (sSeq_n (sSet_v (dSl_v l1 pNo_v (pYes_v (add_i dK_v (draw_v rfl dK_v e1))) (o1 (by omega))))).trans ?_
    refine (sSeq_n (sSet_v (s1 hcan (dSl_v l2 pNo_v (pYes_v (draw_v rfl dK_v e2)) (o1 j0))))).trans ?_
    rw [ey]
    refine (sSeq_n (sSet_v (dSl_v l3 pNo_v (pYes_v (add_i dK_v (draw_v rfl dK_v e3))) (o1 (by omega))))).trans ?_
    refine (sSeq_n (sSet_v (add_i dK_v (draw_v rfl dK_v e4)))).trans ?_
    exact sRet_v (dFz_v (dLc_v (iRg1_v (dV_v rfl) (by omega) (by omega)) (by simp [rangeD]; omega) e5))
  · obtain ⟨q1, q2, q3, q4⟩ := hs s hx
    have hys : ys.Nodup := py.nodup_iff.mpr (hnd.sublist (List.take_sublist _ _))
    exact ⟨List.mem_of_mem_take q1, List.mem_of_mem_take q2, hys.sublist q3, fun t ht => List.mem_of_mem_take (py.mem_iff.mp (q3.subset ht)), q4⟩

theorem hours_ok {c : Nat} {cs : Cs} {many : Int} (h : FeedAt c cs) (h0 : 0 ≤ many) (h1 : many ≤ 1000) :
    ∃ (hs : List Int) (cs' : Cs), d_Lhours [.ce c, .fr (.int many)] cs = some (.ret (.fr (.list (hs.map .int))) cs') ∧ FeedTo c cs cs' ∧ hs.length = many.toNat ∧ ∀ x ∈ hs, 1 ≤ x ∧ x ≤ 99 := by
  obtain ⟨i, cs1, e1, i0, i1, f1⟩ := draw_ok (m := 4) h (by decide) (by decide)
  obtain ⟨j, cs2, e2, j0, j1, f2⟩ := draw_ok (m := 6) f1.1 (by decide) (by decide)
  have hm : ∃ m : Int, atI [PyData.int 1, PyData.int 3, PyData.int 9, PyData.int 99] i = some (.int m) ∧ 1 ≤ m ∧ m ≤ 99 := by
    have : i = 0 ∨ i = 1 ∨ i = 2 ∨ i = 3 := by omega
    rcases this with rfl | rfl | rfl | rfl
    · exact ⟨1, rfl, by omega, by omega⟩
    · exact ⟨3, rfl, by omega, by omega⟩
    · exact ⟨9, rfl, by omega, by omega⟩
    · exact ⟨99, rfl, by omega, by omega⟩
  obtain ⟨m, hm, m1, m2⟩ := hm
  have hl : ∃ l : Int, 1 ≤ l ∧ l ≤ m ∧ (sIf (bV (d2 oEq (dFn d_Ldraw (aCons (dV 0) (aCons (dK (.int 6)) aNil))) (dK (.int 0)))) (sSet 3 (dV 2)) sNo) [some (.ce c), some (.fr (.int many)), some (.fr (.int m)), some (.fr (.int 1)), none] cs1 = some (.nxt [some (.ce c), some (.fr (.int many)), some (.fr (.int m)), some (.fr (.int l)), none] cs2) := by
    by_cases hj : j = 0
    · refine ⟨m, m1, Int.le_refl _, (sIf_t (bV_v (k := true) (d2_v (draw_v rfl dK_v e2) dK_v ?_))).trans ((sSet_v (dV_v rfl)).trans rfl)⟩
      simp [hj]
    · refine ⟨1, Int.le_refl _, m1, (sIf_f (bV_v (k := false) (d2_v (draw_v rfl dK_v e2) dK_v ?_))).trans rfl⟩
      simp [hj]
  obtain ⟨l, l1, l2, e3⟩ := hl
  obtain ⟨es, cs', e4, f4, hs, rfl, hk, hr⟩ := lcD_J (tg := .nm 4) (g := []) (n := cs2.length) (cond := bYes) (elt := d2 oAdd (dV 3) (dFn d_Ldraw (aCons (dV 0) (aCons (d2 oAdd (d2 oSub (dV 2) (dV 3)) (dK (.int 1))) aNil)))) (sl := [some (.ce c), some (.fr (.int many)), some (.fr (.int m)), some (.fr (.int l)), none]) (its := rangeD 0 many)
    (fun k acc c' => FeedTo c cs2 c' ∧ ∃ hs : List Int, acc = hs.map .int ∧ hs.length = k ∧ ∀ x ∈ hs, 1 ≤ x ∧ x ≤ 99) (fun _ _ _ _ => rfl) (fun k d acc c' hd ⟨f, hs, ha, hk, hr⟩ => by
      subst ha
      obtain ⟨r, c2, e5, r0, r1, f5⟩ := draw_ok (m := m - l + 1) f.1 (by omega) (by omega)
      have hl : c2.length = cs2.length := by rw [f5.len, f.len]
      refine ⟨_, e_tgn _ _ _, .inr ⟨c', .fr (.int (l + r)), c2, .int (l + r), c2, rfl, add_i (dV_v rfl) (draw_v rfl (add_i (a := m - l) (b := 1) (d2_v (dV_v rfl) (dV_v rfl) (by simp)) dK_v) e5), rfl, ?_, hs ++ [l + r], by rw [List.map_append]; rfl, by simp [hk], fun x hx => ?_⟩⟩
      · rw [← hl, List.take_length]
        exact f.trans f5
      · rcases List.mem_append.mp hx with z | z
        · exact hr x z
        · rw [List.mem_singleton.mp z]
          omega) cs2 ⟨FeedTo.refl f2.1, [], rfl, rfl, fun _ hx => by simp at hx⟩
  have hlen : cs'.length = cs.length := by rw [f4.len, f2.len, f1.len]
  refine ⟨hs, cs', ?_, (f1.trans f2).trans f4, by rw [hk]; simp [rangeD], hr⟩
  refine fn_go (v := .fr (.list (hs.map .int))) (c1 := cs') rfl ?_ (by rw [← hlen]; simp)
  have l0 : ∀ {sl : Sl} {c : Cs}, dFz (dLst (aCons (dK (.int 1)) (aCons (dK (.int 3)) (aCons (dK (.int 9)) (aCons (dK (.int 99)) aNil))))) sl c = some (.fr (.list [.int 1, .int 3, .int 9, .int 99]), c) := by intro sl c; simp
  refine (sSeq_n (sSet_v (ixi_v l0 (draw_v rfl dK_v e1) hm))).trans ?_
  refine (sSeq_n (sSet_v dK_v)).trans ((sSeq_n e3).trans ?_)
  exact sRet_v (dFz_v (dLc_v (iRg1_v (dV_v rfl) (by omega) (by omega)) (by simp [rangeD]; omega) e4))
/-! ### one item exchanged -/
theorem sIx_pos {n d : Nat} {i : Int} (h : 0 ≤ i) : HT.sIx n d (some i) = min i.toNat n := by
  show (if i < 0 then _ else _) = _
  rw [if_neg (by omega)]
theorem cut_to {A : Type} {f : A → PyData} {xs : List A} {i : Int} (h : 0 ≤ i) : DX.cutD (xs.map f) none (some i) = (xs.take i.toNat).map f := by
  unfold DX.cutD
  rw [sIx_pos h, List.length_map]
  show ((xs.map f).drop 0).take (min i.toNat xs.length - 0) = _
  rw [List.drop_zero, Nat.sub_zero, ← List.map_take]
  congr 1
  by_cases q : i.toNat ≤ xs.length
  · rw [Nat.min_eq_left q]
  · rw [Nat.min_eq_right (by omega), List.take_length, List.take_of_length_le (by omega)]
theorem cut_from {A : Type} {f : A → PyData} {xs : List A} {i : Int} (h : 0 ≤ i) : DX.cutD (xs.map f) (some i) none = (xs.drop i.toNat).map f := by
  unfold DX.cutD
  rw [sIx_pos h, List.length_map]
  show ((xs.map f).drop (min i.toNat xs.length)).take (xs.length - min i.toNat xs.length) = _
  rw [List.take_of_length_le (by rw [List.length_drop, List.length_map]; omega), ← List.map_drop]
  congr 1
  by_cases q : i.toNat ≤ xs.length
  · rw [Nat.min_eq_left q]
  · rw [Nat.min_eq_right (by omega), List.drop_eq_nil_of_le (Nat.le_refl _), List.drop_eq_nil_of_le (by omega)]
section
variable {A : Type} {f g h : EF} {e : A → PyData} {xs ys : List A} {w : A} {i j : Int} {sl : Sl} {cs c1 c2 c3 : Cs}
theorem to_v (hf : f sl cs = some (.fr (.list (xs.map e)), c1)) (hg : g sl c1 = some (.fr (.int i), c2)) (h0 : 0 ≤ i) : dSl f pNo (pYes g) sl cs = some (.fr (.list ((xs.take i.toNat).map e)), c2) :=
  dSl_v hf pNo_v (pYes_v hg) (by simp [oSl]; exact (cut_to h0).trans (by simp))
theorem from_v (hf : f sl cs = some (.fr (.list (xs.map e)), c1)) (hg : g sl c1 = some (.fr (.int i), c2)) (h0 : 0 ≤ i) : dSl f (pYes g) pNo sl cs = some (.fr (.list ((xs.drop i.toNat).map e)), c2) :=
  dSl_v hf (pYes_v hg) pNo_v (by simp [oSl]; exact (cut_from h0).trans (by simp))
theorem cat_v (hf : f sl cs = some (.fr (.list (xs.map e)), c1)) (hg : g sl c1 = some (.fr (.list (ys.map e)), c2)) (hl : xs.length + ys.length ≤ 16777216) : d2 oAdd f g sl cs = some (.fr (.list ((xs ++ ys).map e)), c2) := by
  rw [List.map_append]
  exact addl_v hf hg (by rw [List.length_map, List.length_map]; exact hl)
theorem one_v (hh : h sl cs = some (.fr (e w), c1)) : dFz (dLst (aCons h aNil)) sl cs = some (.fr (.list ([w].map e)), c1) := by
  simp [hh]
def put1 (xs : List A) (a : Nat) (w : A) : List A := xs.take a ++ [w] ++ xs.drop (a + 1)
theorem put1_v (hf : ∀ {c}, f sl c = some (.fr (.list (xs.map e)), c)) (hg : ∀ {c}, g sl c = some (.fr (.int i), c)) (hh : ∀ {c}, h sl c = some (.fr (e w), c)) (h0 : 0 ≤ i) (hl : xs.length ≤ 100000) :
    d2 oAdd (d2 oAdd (dSl f pNo (pYes g)) (dFz (dLst (aCons h aNil)))) (dSl f (pYes (d2 oAdd g (dK (.int 1)))) pNo) sl cs = some (.fr (.list ((put1 xs i.toNat w).map e)), cs) := by
  have l1 : (xs.take i.toNat).length ≤ xs.length := by rw [List.length_take]; exact Nat.min_le_right _ _
  have l2 : (xs.drop (i + 1).toNat).length ≤ xs.length := by rw [List.length_drop]; omega
  have e1 : (i + 1).toNat = i.toNat + 1 := by omega
  have q := cat_v (cs := cs) (cat_v (to_v hf hg h0) (one_v hh) (by rw [List.length_singleton]; omega)) (from_v (g := d2 oAdd g (dK (.int 1))) hf (add_i hg dK_v) (by omega)) (by rw [List.length_append, List.length_singleton]; omega)
  rw [e1] at q
  exact q
theorem put1_len {a : Nat} (h : a < xs.length) : (put1 xs a w).length = xs.length := by
  unfold put1
  simp
  omega
theorem put1_mem {a : Nat} {x : A} (h : x ∈ put1 xs a w) : x ∈ xs ∨ x = w := by
  unfold put1 at h
  rcases List.mem_append.mp h with q | q
  · rcases List.mem_append.mp q with q | q
    · exact .inl (List.mem_of_mem_take q)
    · exact .inr (List.mem_singleton.mp q)
  · exact .inl (List.mem_of_mem_drop q)
end
/-! ### the same data -/
theorem ea_map {A : Type} {f : A → PyData} (h : ∀ a, PyData.eqv (f a) (f a) = true) : ∀ l : List A, PyData.eqvAll (l.map f) (l.map f) = true
  | [] => by simp
  | a :: l => by rw [List.map_cons, q_c, h a, ea_map h l]; rfl
theorem da_map {A : Type} {f : A → PyData} {n : Nat} (h : ∀ a, (f a).depth ≤ n) : ∀ l : List A, PyData.depthAll (l.map f) ≤ n
  | [] => by simp
  | a :: l => by
    rw [List.map_cons, dp_1]
    exact Nat.max_le.mpr ⟨h a, da_map h l⟩
theorem es_int (i : Int) : PyData.eqv (.int i) (.int i) = true := by simp
theorem es_str (i : Str) : PyData.eqv (.str i) (.str i) = true := by simp
theorem ds_int (i : Int) : (PyData.int i).depth ≤ 0 := by simp
theorem ds_str (i : Str) : (PyData.str i).depth ≤ 0 := by simp
theorem es_sc (s : Step) : PyData.eqv (sc s) (sc s) = true := by
  unfold sc
  simp [ea_map es_str]
theorem ds_sc (s : Step) : (sc s).depth ≤ 3 := by
  unfold sc
  have := da_map ds_str s.2.2
  simp
  omega
theorem ne_same {d : PyData} {cs : Cs} (h1 : PyData.eqv d d = true) (h2 : d.depth ≤ 64) : oNe (.fr d) (.fr d) cs = some (.fr (.bool false)) := by
  simp [h1, h2]
theorem eq_same {d : PyData} {cs : Cs} (h1 : PyData.eqv d d = true) (h2 : d.depth ≤ 64) : oEq (.fr d) (.fr d) cs = some (.fr (.bool true)) := by
  simp [h1, h2]
theorem ne_map {A : Type} {f : A → PyData} {n : Nat} {l : List A} {cs : Cs} (h : ∀ a, PyData.eqv (f a) (f a) = true) (h2 : ∀ a, (f a).depth ≤ n) (hn : n ≤ 60) : oNe (.fr (.list (l.map f))) (.fr (.list (l.map f))) cs = some (.fr (.bool false)) :=
  ne_same (by simp [ea_map h]) (by have := da_map h2 l; simp; omega)
theorem eq_map {A : Type} {f : A → PyData} {n : Nat} {l : List A} {cs : Cs} (h : ∀ a, PyData.eqv (f a) (f a) = true) (h2 : ∀ a, (f a).depth ≤ n) (hn : n ≤ 60) : oEq (.fr (.list (l.map f))) (.fr (.list (l.map f))) cs = some (.fr (.bool true)) :=
  eq_same (by simp [ea_map h]) (by have := da_map h2 l; simp; omega)
theorem list_v {f : EF} {ds : List PyData} {sl : Sl} {cs c1 : Cs} (h : f sl cs = some (.fr (.list ds), c1)) : dFz (dCallL oList (aCons f aNil)) sl cs = some (.fr (.list ds), c1) := by
  simp [h]

end DX
set_option maxHeartbeats 1000000
/-! DX, plain part: what plans are (no program in sight). -/
namespace DX
open PySem L2 PySem.Spec PyProof.Rows
theorem top0_congr {l m : List Int} (h : ∀ x, x ∈ l ↔ x ∈ m) : top0 l = top0 m := by
  unfold top0
  cases e : maxI l with
  | none =>
    cases l with
    | nil =>
      cases m with
      | nil => rfl
      | cons a m => exact absurd ((h a).mpr (List.mem_cons_self ..)) (by simp)
    | cons a l => cases e
  | some x =>
    obtain ⟨h1, h2⟩ := maxI_is e
    cases e2 : maxI m with
    | none =>
      cases m with
      | nil => exact absurd ((h x).mp h1) (by simp)
      | cons a m => cases e2
    | some y =>
      obtain ⟨g1, g2⟩ := maxI_is e2
      exact Int.le_antisymm (g2 x ((h x).mp h1)) (h2 y ((h y).mpr g1))
/-- when step j begins at the earliest -/
def ev (st : List DX.Step) (hs : List Int) (j : Nat) : Int := top0 (ends st hs (plan st hs j) j)
theorem plan_get {st : List DX.Step} {hs : List Int} : ∀ {n i : Nat}, i < n → (plan st hs n).getD i 0 = ev st hs i
  | 0, _, h => absurd h (Nat.not_lt_zero _)
  | n + 1, i, h => by
    rw [plan]
    have hl := plan_len st hs n
    by_cases q : i < n
    · have : (plan st hs n ++ [top0 (ends st hs (plan st hs n) n)]).getD i 0 = (plan st hs n).getD i 0 := by
        simp [List.getD, List.getElem?_append_left (show i < (plan st hs n).length by omega)]
      rw [this]
      exact plan_get q
    · have e : i = n := by omega
      subst e
      have : (plan st hs i ++ [top0 (ends st hs (plan st hs i) i)]).getD i 0 = top0 (ends st hs (plan st hs i) i) := by
        simp [List.getD, List.getElem?_append_right (show (plan st hs i).length ≤ i by omega), hl]
      rw [this]
      rfl
theorem plan_map (st : List DX.Step) (hs : List Int) : ∀ n, plan st hs n = (List.range n).map (ev st hs)
  | 0 => rfl
  | n + 1 => by
    rw [plan, List.range_succ, List.map_append, plan_map st hs n]
    show _ ++ [top0 (ends st hs ((List.range n).map (ev st hs)) n)] = _ ++ [ev st hs n]
    rw [← plan_map st hs n]
    rfl
theorem mem_ends {st : List DX.Step} {hs : List Int} {j : Nat} {x : Int} : x ∈ ends st hs (plan st hs j) j ↔ ∃ i, i < j ∧ dep (st.getD i nilS) (st.getD j nilS) = true ∧ x = ev st hs i + hs.getD i 0 := by
  unfold ends
  rw [List.mem_map]
  constructor
  · rintro ⟨i, hi, rfl⟩
    rw [List.mem_filter, List.mem_range] at hi
    exact ⟨i, hi.1, hi.2, by rw [plan_get hi.1]⟩
  · rintro ⟨i, h1, h2, rfl⟩
    exact ⟨i, List.mem_filter.mpr ⟨List.mem_range.mpr h1, h2⟩, by rw [plan_get h1]⟩
theorem ev_unique {st : List DX.Step} {hs : List Int} {n : Nat} (P : Nat → Int) (h : ∀ j, j < n → ∃ l : List Int, (∀ x, x ∈ l ↔ ∃ i, i < j ∧ dep (st.getD i nilS) (st.getD j nilS) = true ∧ x = P i + hs.getD i 0) ∧ P j = top0 l) : ∀ j, j < n → ev st hs j = P j := by
  intro j
  induction j using Nat.strongRecOn with
  | ind j ih =>
    intro hj
    obtain ⟨l, h1, h2⟩ := h j hj
    rw [h2]
    unfold ev
    refine top0_congr fun x => ?_
    rw [mem_ends, h1]
    constructor
    · rintro ⟨i, a, b, rfl⟩
      exact ⟨i, a, b, by rw [ih i a (by omega)]⟩
    · rintro ⟨i, a, b, rfl⟩
      exact ⟨i, a, b, by rw [ih i a (by omega)]⟩
theorem dep_comm (x y : DX.Step) : dep x y = dep y x := by
  unfold dep
  congr 1
  · exact decide_eq_decide.mpr ⟨Eq.symm, Eq.symm⟩
  · rw [Bool.eq_iff_iff, List.any_eq_true, List.any_eq_true]
    constructor
    · rintro ⟨t, h1, h2⟩
      exact ⟨t, of_decide_eq_true h2, decide_eq_true h1⟩
    · rintro ⟨t, h1, h2⟩
      exact ⟨t, of_decide_eq_true h2, decide_eq_true h1⟩
/-! ### two neighbours exchanged -/
def sw (k j : Nat) : Nat := if j = k then k + 1 else if j = k + 1 then k else j
theorem sw_sw (k j : Nat) : sw k (sw k j) = j := by
  unfold sw
  split <;> split <;> (try split) <;> omega
def turned {A : Type} (l : List A) (k : Nat) (d : A) : List A := l.take k ++ [l.getD (k + 1) d, l.getD k d] ++ l.drop (k + 2)
theorem turned_len {A : Type} {l : List A} {k : Nat} {d : A} (h : k + 1 < l.length) : (turned l k d).length = l.length := by
  unfold turned
  simp
  omega
theorem turned_get {A : Type} {l : List A} {k : Nat} {d : A} (h : k + 1 < l.length) (j : Nat) : (turned l k d).getD j d = l.getD (sw k j) d := by
  unfold turned sw
  have hl : (l.take k).length = k := by rw [List.length_take]; omega
  rw [List.append_assoc]
  by_cases h1 : j < k
  · rw [if_neg (by omega), if_neg (by omega)]
    simp only [List.getD]
    rw [List.getElem?_append_left (by omega), List.getElem?_take_of_lt h1]
  · simp only [List.getD]
    rw [List.getElem?_append_right (by omega), hl]
    by_cases h2 : j = k
    · subst h2
      rw [if_pos rfl, Nat.sub_self]
      simp
    · by_cases h3 : j = k + 1
      · subst h3
        rw [if_neg (by omega), if_pos rfl]
        have : k + 1 - k = 1 := by omega
        rw [this]
        simp
      · rw [if_neg h2, if_neg h3]
        have : j - k = (j - (k + 2)) + 2 := by omega
        rw [this]
        simp only [List.cons_append, List.nil_append, List.getElem?_cons_succ]
        rw [List.getElem?_drop]
        congr 2
        omega
theorem ev_turned {st : List DX.Step} {hs : List Int} {k : Nat} (h : k + 1 < st.length) (h2 : hs.length = st.length) (hd : dep (st.getD k nilS) (st.getD (k + 1) nilS) = false) : ∀ j, j < st.length → ev (turned st k nilS) (turned hs k 0) j = ev st hs (sw k j) := by
  refine ev_unique (n := st.length) (fun j => ev st hs (sw k j)) fun j hj => ⟨ends st hs (plan st hs (sw k j)) (sw k j), fun x => ?_, rfl⟩
  rw [mem_ends]
  have hd' : dep (st.getD (k + 1) nilS) (st.getD k nilS) = false := by rw [dep_comm]; exact hd
  constructor
  · rintro ⟨i, h3, h4, rfl⟩
    refine ⟨sw k i, ?_, ?_, ?_⟩
    · have n1 : ¬ (i = k ∧ sw k j = k + 1) := fun ⟨a, b⟩ => by
        rw [a, b, hd] at h4
        cases h4
      unfold sw at *
      split <;> split at n1 <;> split at h3 <;> (try split) <;> (try split at n1) <;> (try split at h3) <;> omega
    · rw [turned_get h, turned_get h, sw_sw]
      exact h4
    · rw [turned_get (by omega), sw_sw]
  · rintro ⟨i, h3, h4, rfl⟩
    rw [turned_get h, turned_get h] at h4
    refine ⟨sw k i, ?_, h4, by rw [turned_get (by omega)]⟩
    have n1 : ¬ (i = k ∧ j = k + 1) := fun ⟨a, b⟩ => by
      have e1 : sw k k = k + 1 := by unfold sw; rw [if_pos rfl]
      have e2 : sw k (k + 1) = k := by unfold sw; rw [if_neg (by omega), if_pos rfl]
      rw [a, b, e1, e2, hd'] at h4
      cases h4
    unfold sw
    split <;> split <;> (try split) <;> (try split) <;> omega
end DX
set_option maxHeartbeats 1000000
/-! DX, plain part: lengths, latest plans (dens of the laws k60 to k62). -/
namespace DX
open PySem L2 PySem.Spec PyProof.Rows
def b_length_of : SF := (sRet (dDft maxI (dFz (dLc (iZi (dV 1) (dV 0)) (.tp (.cons (.nm 2) (.cons (.nm 3) Tgs.nil))) [2, 3] bYes (d2 oAdd (dV 2) (dV 3)))) (dK (.int 0))))
def d_length_of : FF := fnD 2 2 b_length_of
def b_Llength : SF := (sRet (dCall oMax (aCons (d2 oAdd (dFz (dLst (aCons (dK (.int 0)) aNil))) (dFz (dLc (iRg1 (dCall oLen (aCons (dV 1) aNil))) (.nm 2) [2] bYes (d2 oAdd (d2 oIx (dV 1) (dV 2)) (d2 oIx (dV 0) (dV 2)))))) aNil)))
def d_Llength : FF := fnD 2 1 b_Llength
def b_latest : SF := (sSeq (sIf (bV (d2 oLt (dV 2) (dFn d_length_of (aCons (dV 1) (aCons (dFn d_earliest (aCons (dV 0) (aCons (dV 1) aNil))) aNil))))) (sRaise "TooShort" "length" (dV 2)) sNo) (sSeq (sSet 3 (dCe (d2L oRep (dFz (dLst (aCons (dK (.int 0)) aNil))) (dCall oLen (aCons (dV 0) aNil))))) (sSeq (sFor (iRev1 (dCall oLen (aCons (dV 0) aNil))) (.nm 4) [5, 4] (sSeq (sSet 5 (dFz (dLc (iRg2 (d2 oAdd (dV 4) (dK (.int 1))) (dCall oLen (aCons (dV 0) aNil))) (.nm 6) [6] (bV (dFn d_depends (aCons (d2 oIx (dV 0) (dV 4)) (aCons (d2 oIx (dV 0) (dV 6)) aNil)))) (d2 oIx (dV 3) (dV 6))))) (sSub (d2 oSub (dDft minI (dV 5) (dV 2)) (d2 oIx (dV 1) (dV 4))) (dV 3) (dV 4)))) (sRet (dFr (dV 3))))))
def d_latest : FF := fnD 3 4 b_latest
def b_Llate : SF := (sSeq (sSet 3 (dCe (d2L oRep (dFz (dLst (aCons (dK (.int 0)) aNil))) (dCall oLen (aCons (dV 0) aNil))))) (sSeq (sFor (iRev1 (dCall oLen (aCons (dV 0) aNil))) (.nm 4) [5, 4] (sSeq (sSet 5 (dFz (dLc (iRg2 (d2 oAdd (dV 4) (dK (.int 1))) (dCall oLen (aCons (dV 0) aNil))) (.nm 6) [6] (bV (dFn d_Ldep (aCons (d2 oIx (dV 0) (dV 4)) (aCons (d2 oIx (dV 0) (dV 6)) aNil)))) (d2 oIx (dV 3) (dV 6))))) (sSub (d2 oSub (dCall oMin (aCons (d2 oAdd (dFz (dLst (aCons (dV 2) aNil))) (dV 5)) aNil)) (d2 oIx (dV 1) (dV 4))) (dV 3) (dV 4)))) (sRet (dFr (dV 3)))))
def d_Llate : FF := fnD 3 4 b_Llate
def b_spare : SF := (sSeq (sSet 2 (dFn d_earliest (aCons (dV 0) (aCons (dV 1) aNil)))) (sSeq (sSet 3 (dFn d_latest (aCons (dV 0) (aCons (dV 1) (aCons (dFn d_length_of (aCons (dV 1) (aCons (dV 2) aNil))) aNil))))) (sRet (dFz (dLc (iZi (dV 2) (dV 3)) (.tp (.cons (.nm 4) (.cons (.nm 5) Tgs.nil))) [4, 5] bYes (d2 oSub (dV 5) (dV 4)))))))
def d_spare : FF := fnD 2 4 b_spare
def b_hours_from : SF := (sSeq (sSet 2 (dCe (d2L oRep (dFz (dLst (aCons (dK (.int 0)) aNil))) (dCall oLen (aCons (dV 0) aNil))))) (sSeq (sFor (iRev1 (dCall oLen (aCons (dV 0) aNil))) (.nm 3) [4, 3] (sSeq (sSet 4 (dFz (dLc (iRg2 (d2 oAdd (dV 3) (dK (.int 1))) (dCall oLen (aCons (dV 0) aNil))) (.nm 5) [5] (bV (dFn d_depends (aCons (d2 oIx (dV 0) (dV 3)) (aCons (d2 oIx (dV 0) (dV 5)) aNil)))) (d2 oIx (dV 2) (dV 5))))) (sSub (d2 oAdd (d2 oIx (dV 1) (dV 3)) (dDft maxI (dV 4) (dK (.int 0)))) (dV 2) (dV 3)))) (sRet (dFr (dV 2)))))
def d_hours_from : FF := fnD 2 4 b_hours_from
def b_heaviest_chain : SF := (sSeq (sSet 2 (dFn d_hours_from (aCons (dV 0) (aCons (dV 1) aNil)))) (sSeq (sSet 3 (dDft maxI (dV 2) (dK (.int 0)))) (sSeq (sSet 4 (dCe (dLst aNil))) (sSeq (sFor (iRg1 (dCall oLen (aCons (dV 0) aNil))) (.nm 5) [5] (sIf (bAnd (bV (d2 oEq (d2 oIx (dV 2) (dV 5)) (dV 3))) (bOr (bV (d2 oEq (dCall oLen (aCons (dV 4) aNil)) (dK (.int 0)))) (bV (dFn d_depends (aCons (d2 oIx (dV 0) (d2 oIx (dV 4) (dNeg (dK (.int 1))))) (aCons (d2 oIx (dV 0) (dV 5)) aNil)))))) (sSeq (sEx (dApp (dV 4) (dV 5))) (sAug 3 (fun i j => i - j) (d2 oIx (dV 1) (dV 5)))) sNo)) (sRet (dFr (dV 4)))))))
def d_heaviest_chain : FF := fnD 2 4 b_heaviest_chain
def b_shortest : SF := (sSeq (sSet 2 (dFn d_earliest (aCons (dV 0) (aCons (dV 1) aNil)))) (sRet (dTup (aCons (dFn d_length_of (aCons (dV 1) (aCons (dV 2) aNil))) (aCons (dV 2) (aCons (dFn d_heaviest_chain (aCons (dV 0) (aCons (dV 1) aNil))) aNil))))))
def d_shortest : FF := fnD 2 1 b_shortest
/-! ### latest plans -/
def late (st : List DX.Step) (hs : List Int) (len : Int) (j : Nat) : Int := len - ev st.reverse hs.reverse (st.length - 1 - j) - hs.getD j 0
def bot (len : Int) (l : List Int) : Int := match minI l with
  | some m => m
  | none => len
theorem bot_top {len : Int} {b l : List Int} (h : ∀ x, x ∈ b ↔ len - x ∈ l) : bot len b = len - top0 l := by
  unfold bot top0
  cases e : minI b with
  | none =>
    cases b with
    | nil =>
      cases e2 : maxI l with
      | none => show len = len - 0; omega
      | some y =>
        have := (h (len - y)).mpr (by rw [show len - (len - y) = y by omega]; exact (maxI_is e2).1)
        simp at this
    | cons a b => cases e
  | some x =>
    obtain ⟨h1, h2⟩ := minI_is e
    cases e2 : maxI l with
    | none =>
      cases l with
      | nil =>
        have := (h x).mp h1
        simp at this
      | cons a l => cases e2
    | some y =>
      obtain ⟨g1, g2⟩ := maxI_is e2
      have a1 := g2 _ ((h x).mp h1)
      have a2 := h2 (len - y) ((h (len - y)).mpr (by rw [show len - (len - y) = y by omega]; exact g1))
      show x = len - y
      omega
theorem bot_cons {len : Int} {b : List Int} (h : ∀ x ∈ b, x ≤ len) : minI (len :: b) = some (bot len b) := by
  cases e : minI (len :: b) with
  | none => cases e
  | some m =>
    obtain ⟨h1, h2⟩ := minI_is e
    unfold bot
    cases e2 : minI b with
    | none =>
      cases b with
      | nil =>
        have : m = len := by simpa using h1
        rw [this]
      | cons a b => cases e2
    | some k =>
      obtain ⟨g1, g2⟩ := minI_is e2
      have a1 := h2 k (List.mem_cons_of_mem _ g1)
      have a2 := h k g1
      congr 1
      show m = k
      rcases List.mem_cons.mp h1 with q | q
      · omega
      · have := g2 m q
        omega
theorem rev_get {A : Type} {l : List A} {d : A} {i : Nat} (h : i < l.length) : l.reverse.getD i d = l.getD (l.length - 1 - i) d := by
  simp only [List.getD]
  rw [List.getElem?_reverse h]
/-- what is known behind step k -/
def begins (st : List DX.Step) (hs : List Int) (len : Int) (k : Nat) : List Int := ((List.range (st.length - (k + 1))).filter fun i => dep (st.getD k nilS) (st.getD (k + 1 + i) nilS)).map fun i => late st hs len (k + 1 + i)
theorem begins_top {st : List DX.Step} {hs : List Int} {len : Int} {k : Nat} (hk : k < st.length) (hl : hs.length = st.length) : ∀ x, x ∈ begins st hs len k ↔ len - x ∈ ends st.reverse hs.reverse (plan st.reverse hs.reverse (st.length - 1 - k)) (st.length - 1 - k) := by
  intro x
  rw [mem_ends]
  unfold begins
  rw [List.mem_map]
  have r1 : st.reverse.getD (st.length - 1 - k) nilS = st.getD k nilS := by
    rw [rev_get (by omega)]
    congr 1
    omega
  constructor
  · rintro ⟨i, hi, rfl⟩
    rw [List.mem_filter, List.mem_range] at hi
    obtain ⟨h1, h2⟩ := hi
    refine ⟨st.length - 1 - (k + 1 + i), by omega, ?_, ?_⟩
    · rw [r1, rev_get (by omega), dep_comm]
      have : st.length - 1 - (st.length - 1 - (k + 1 + i)) = k + 1 + i := by omega
      rw [this]
      exact h2
    · rw [rev_get (by omega)]
      have : hs.length - 1 - (st.length - 1 - (k + 1 + i)) = k + 1 + i := by omega
      rw [this]
      unfold late
      omega
  · rintro ⟨a, h1, h2, h3⟩
    refine ⟨st.length - 1 - a - (k + 1), List.mem_filter.mpr ⟨List.mem_range.mpr (by omega), ?_⟩, ?_⟩
    · rw [r1, rev_get (by omega), dep_comm] at h2
      have : k + 1 + (st.length - 1 - a - (k + 1)) = st.length - 1 - a := by omega
      rw [this]
      exact h2
    · rw [rev_get (by omega)] at h3
      have e1 : k + 1 + (st.length - 1 - a - (k + 1)) = st.length - 1 - a := by omega
      have e2 : hs.length - 1 - a = st.length - 1 - a := by omega
      have e3 : st.length - 1 - (st.length - 1 - a) = a := by omega
      rw [e2] at h3
      unfold late
      rw [e1, e3]
      omega
theorem late_is {st : List DX.Step} {hs : List Int} {len : Int} {k : Nat} (hk : k < st.length) (hl : hs.length = st.length) : late st hs len k = bot len (begins st hs len k) - hs.getD k 0 := by
  rw [bot_top (begins_top hk hl)]
  rfl
theorem rev_nn {hs : List Int} (h : ∀ x ∈ hs, 0 ≤ x) : ∀ x ∈ hs.reverse, 0 ≤ x := fun x q => h x (List.mem_reverse.mp q)
theorem begins_le {st : List DX.Step} {hs : List Int} {len : Int} {k : Nat} (hk : k < st.length) (hl : hs.length = st.length) (hn : ∀ x ∈ hs, 0 ≤ x) : ∀ x ∈ begins st hs len k, x ≤ len := fun x q => by
  have := ends_nn (rev_nn hn) (plan_nn (st := st.reverse) (rev_nn hn) (st.length - 1 - k)) _ ((begins_top hk hl x).mp q)
  omega
/-- the cell behind m turns -/
def half (st : List DX.Step) (hs : List Int) (len : Int) (m : Nat) : List Int := (List.range st.length).map fun j => if st.length - m ≤ j then late st hs len j else 0
theorem half_len (st : List DX.Step) (hs : List Int) (len : Int) (m : Nat) : (half st hs len m).length = st.length := by
  unfold half
  rw [List.length_map, List.length_range]
theorem half_get {st : List DX.Step} {hs : List Int} {len : Int} {m j : Nat} (hj : j < st.length) (h : st.length - m ≤ j) : (half st hs len m).getD j 0 = late st hs len j := by
  unfold half
  simp [List.getD, hj, h]
  intro q
  omega
theorem half_set {st : List DX.Step} {hs : List Int} {len : Int} {m : Nat} (hm : m < st.length) : (half st hs len m).set (st.length - 1 - m) (late st hs len (st.length - 1 - m)) = half st hs len (m + 1) := by
  apply List.ext_getElem?
  intro j
  unfold half
  rw [List.getElem?_set, List.length_map, List.length_range, List.getElem?_map, List.getElem?_map]
  by_cases hj : j < st.length
  · rw [List.getElem?_range hj]
    by_cases e : st.length - 1 - m = j
    · rw [if_pos e, if_pos (by omega)]
      show some _ = some (if st.length - (m + 1) ≤ j then _ else _)
      rw [if_pos (by omega), e]
    · rw [if_neg e]
      show some (if st.length - m ≤ j then _ else _) = some (if st.length - (m + 1) ≤ j then _ else _)
      by_cases q : st.length - m ≤ j
      · rw [if_pos q, if_pos (by omega)]
      · rw [if_neg q, if_neg (by omega)]
  · rw [List.getElem?_eq_none (by simpa using hj), if_neg (by omega)]
    rfl
theorem half_0 (st : List DX.Step) (hs : List Int) (len : Int) : half st hs len 0 = List.replicate st.length 0 := by
  apply List.ext_getElem?
  intro j
  unfold half
  rw [List.getElem?_map, List.getElem?_replicate]
  by_cases hj : j < st.length
  · rw [List.getElem?_range hj, if_pos hj]
    show some (if st.length - 0 ≤ j then _ else _) = _
    rw [if_neg (by omega)]
  · rw [List.getElem?_eq_none (by simpa using hj), if_neg hj]
    rfl
def lateL (st : List DX.Step) (hs : List Int) (len : Int) : List Int := (List.range st.length).map (late st hs len)
theorem half_n (st : List DX.Step) (hs : List Int) (len : Int) : half st hs len st.length = lateL st hs len := by
  unfold half lateL
  apply List.map_congr_left
  intro j _
  rw [if_pos (by omega)]

section
variable {f g h : EF} {sl : Sl} {cs c1 c2 : Cs} {i : Nat}
theorem sub_last {ds : List PyData} {d : PyData} {k : Nat} (hf : f sl (cs ++ [some (.lst ds)]) = some (.fr d, cs ++ [some (.lst ds)])) (ho : g sl (cs ++ [some (.lst ds)]) = some (.ce cs.length, cs ++ [some (.lst ds)])) (hi : h sl (cs ++ [some (.lst ds)]) = some (.fr (.int k), cs ++ [some (.lst ds)])) (hk : k < ds.length) :
    sSub f g h sl (cs ++ [some (.lst ds)]) = some (.nxt sl (cs ++ [some (.lst (ds.set k d))])) := by
  simp [hf, ho, hi, ixN_nat hk]
theorem revR_get {n m : Nat} {d : PyData} (h : (revR 0 (n : Int))[m]? = some d) : m < n ∧ d = .int ((n - 1 - m : Nat) : Int) := by
  unfold revR at h
  rw [List.getElem?_map] at h
  by_cases hm : m < n
  · rw [List.getElem?_range (by omega)] at h
    refine ⟨hm, ?_⟩
    have e : PyData.int (0 + ((((n : Int) - 0).toNat : Nat) : Int) - 1 + ((m : Nat) : Int) * (-1)) = d := Option.some.inj h
    rw [← e]
    congr 1
    omega
  · rw [List.getElem?_eq_none (by simp; omega)] at h
    cases h
theorem revR_len (n : Nat) : (revR 0 (n : Int)).length = n := by
  unfold revR
  simp
theorem iRev1_v {n : Int} (hf : f sl cs = some (.fr (.int n), c1)) (h1 : -1000000000 ≤ n) (h2 : n ≤ 1000000000) : iRev1 f sl cs = some (revR 0 n, [], c1) := by
  unfold iRev1
  rw [hf]
  dsimp only
  have q := rgB_of h1 h2
  unfold rgB at q
  rw [if_pos q]
theorem d2L_v {op : Op2L} {v w : Val} {ds : List PyData} (ha : f sl cs = some (v, c1)) (hb : g sl c1 = some (w, c2)) (ho : op v w c2 = some ds) : d2L op f g sl cs = some (ds, c2) := by
  unfold d2L
  rw [ha]
  dsimp only
  rw [hb]
  dsimp only
  rw [ho]
theorem oRep_v {a b : Val} {cs : Cs} {ds : List PyData} {k : Int} (h1 : lsOf a cs = some ds) (h2 : inOf b = some k) (h3 : (decide (-(2 ^ 63) ≤ k) && decide (k < 2 ^ 63) && decide (ds.length * k.toNat ≤ 16777216)) = true) : oRep a b cs = some (List.replicate k.toNat ds).flatten := by
  unfold oRep
  rw [h1, h2]
  dsimp only
  rw [if_pos h3]
theorem rep_v {n : Nat} (hf : f sl cs = some (.fr (.int n), cs)) (hn : n ≤ 1000) : dCe (d2L oRep (dFz (dLst (aCons (dK (.int 0)) aNil))) f) sl cs = some (.ce cs.length, cs ++ [some (.lst ((List.replicate n (0 : Int)).map .int))]) := by
  have h1 : dFz (dLst (aCons (dK (.int 0)) aNil)) sl cs = some (.fr (.list [.int 0]), cs) := by simp
  have q : (decide (-(2 ^ 63) ≤ (n : Int)) && decide ((n : Int) < 2 ^ 63) && decide ([PyData.int 0].length * (n : Int).toNat ≤ 16777216)) = true := by
    have e : ((2 : Int) ^ 63) = 9223372036854775808 := by decide +kernel
    have z : [PyData.int 0].length * (n : Int).toNat ≤ 16777216 := by
      rw [List.length_singleton]
      omega
    rw [e, decide_eq_true (by omega), decide_eq_true (by omega), decide_eq_true z]
    rfl
  have h2 := oRep_v (a := .fr (.list [.int 0])) (b := .fr (.int n)) (cs := cs) rfl rfl q
  have h3 : (List.replicate (n : Int).toNat [PyData.int 0]).flatten = (List.replicate n (0 : Int)).map .int := by simp
  rw [h3] at h2
  exact dCe_v (c1 := cs) (d2L_v (op := oRep) h1 hf h2)
theorem sub_i {a b : Int} (hf : f sl cs = some (.fr (.int a), c1)) (hg : g sl c1 = some (.fr (.int b), c2)) : d2 oSub f g sl cs = some (.fr (.int (a - b)), c2) := d2_v hf hg (by simp)
theorem min_v {ns : List Int} {m : Int} (hf : f sl cs = some (.fr (.list (ns.map .int)), c1)) (hm : minI ns = some m) : dCall oMin (aCons f aNil) sl cs = some (.fr (.int m), c1) := by
  simp [hf, ins_map, hm]
theorem dftm_v {ns : List Int} {d : Int} (hf : f sl cs = some (.fr (.list (ns.map .int)), cs)) (hg : g sl cs = some (.fr (.int d), cs)) : dDft minI f g sl cs = some (.fr (.int (bot d ns)), cs) := by
  unfold bot
  cases e : minI ns <;> simp [hf, hg, ins_map, e]
end
theorem rangeD_nat2 (a b : Nat) : rangeD (a : Int) (b : Int) = (List.range (b - a)).map fun i => .int ((a + i : Nat) : Int) := by
  unfold rangeD
  have : ((b : Int) - a).toNat = b - a := by omega
  rw [this]
  simp
theorem onward_run {st : List DX.Step} {P : Nat → Int} {k n : Nat} {f : BF} {g : EF} {sl : Sl} {cs : Cs} {tg : Nat} (h : ∀ j, k < j → j < n → f (sl.set tg (some (.fr (.int (j : Nat))))) cs = some (dep (st.getD k nilS) (st.getD j nilS), cs))
    (h2 : ∀ j, k < j → j < n → g (sl.set tg (some (.fr (.int (j : Nat))))) cs = some (.fr (.int (P j)), cs)) : lcD (.nm tg) [] cs.length f g sl (rangeD ((k : Nat) + 1 : Int) (n : Nat)) cs = some ((((List.range (n - (k + 1))).filter fun i => dep (st.getD k nilS) (st.getD (k + 1 + i) nilS)).map fun i => P (k + 1 + i)).map .int, cs) := by
  have e : ((k : Nat) + 1 : Int) = ((k + 1 : Nat) : Int) := by omega
  rw [e, rangeD_nat2, lcD_map (fun i : Nat => PyData.int ((k + 1 + i : Nat) : Int)) (fun i => dep (st.getD k nilS) (st.getD (k + 1 + i) nilS)) (fun i => .int (P (k + 1 + i))) (List.range (n - (k + 1))) fun i hi => ⟨_, e_tgn _ _ _, h _ (by omega) (by have := List.mem_range.mp hi; omega), fun _ => h2 _ (by omega) (by have := List.mem_range.mp hi; omega)⟩]
  rw [List.map_map]
  rfl
theorem turn_latest {st : List DX.Step} {hs : List Int} {len : Int} {m : Nat} {cs : Cs} (h : Small st hs) (hm : m < st.length) :
    turnD (.nm 4) [5, 4] (cs.length + 1) (sSeq (sSet 5 (dFz (dLc (iRg2 (d2 oAdd (dV 4) (dK (.int 1))) (dCall oLen (aCons (dV 0) aNil))) (.nm 6) [6] (bV (dFn d_depends (aCons (d2 oIx (dV 0) (dV 4)) (aCons (d2 oIx (dV 0) (dV 6)) aNil)))) (d2 oIx (dV 3) (dV 6))))) (sSub (d2 oSub (dDft minI (dV 5) (dV 2)) (d2 oIx (dV 1) (dV 4))) (dV 3) (dV 4))) (.int ((st.length - 1 - m : Nat) : Int)) [some (.fr (.list (st.map sc))), some (.fr (.list (hs.map .int))), some (.fr (.int len)), some (.ce cs.length), none, none, none] (cs ++ [some (.lst ((half st hs len m).map .int))]) =
    some (.go [some (.fr (.list (st.map sc))), some (.fr (.list (hs.map .int))), some (.fr (.int len)), some (.ce cs.length), none, none, none] (cs ++ [some (.lst ((half st hs len (m + 1)).map .int))])) := by
  obtain ⟨h1, h2, h3⟩ := h
  have hl := half_len st hs len m
  have hk : st.length - 1 - m < st.length := by omega
  have c1 : ∀ j, st.length - 1 - m < j → j < st.length → (bV (dFn d_depends (aCons (d2 oIx (dV 0) (dV 4)) (aCons (d2 oIx (dV 0) (dV 6)) aNil)))) (([some (.fr (.list (st.map sc))), some (.fr (.list (hs.map .int))), some (.fr (.int len)), some (.ce cs.length), some (.fr (.int ((st.length - 1 - m : Nat) : Int))), none, none] : Sl).set 6 (some (.fr (.int (j : Nat))))) (cs ++ [some (.lst ((half st hs len m).map .int))]) = some (dep (st.getD (st.length - 1 - m) nilS) (st.getD j nilS), cs ++ [some (.lst ((half st hs len m).map .int))]) := fun j _ j2 =>
    bV_v (dFn_v (aCons_v (ix_v (dV_v rfl) (dV_v rfl) (at_map sc nilS hk)) (aCons_v (ix_v (dV_v rfl) (dV_v rfl) (at_map sc nilS j2)) aNil_v)) (depends_ok (h3 _ (getD_mem hk))))
  have c2 : ∀ j, st.length - 1 - m < j → j < st.length → (d2 oIx (dV 3) (dV 6)) (([some (.fr (.list (st.map sc))), some (.fr (.list (hs.map .int))), some (.fr (.int len)), some (.ce cs.length), some (.fr (.int ((st.length - 1 - m : Nat) : Int))), none, none] : Sl).set 6 (some (.fr (.int (j : Nat))))) (cs ++ [some (.lst ((half st hs len m).map .int))]) = some (.fr (.int (late st hs len j)), cs ++ [some (.lst ((half st hs len m).map .int))]) := fun j j1 j2 => by
    have := at_map PyData.int 0 (xs := half st hs len m) (i := j) (by omega)
    rw [half_get j2 (by omega)] at this
    exact ixc_v (dV_v rfl) (dV_v rfl) (by simp) this
  have run := onward_run c1 c2
  refine turn_g (sl1 := [some (.fr (.list (st.map sc))), some (.fr (.list (hs.map .int))), some (.fr (.int len)), some (.ce cs.length), some (.fr (.int ((st.length - 1 - m : Nat) : Int))), none, none]) (sl2 := [some (.fr (.list (st.map sc))), some (.fr (.list (hs.map .int))), some (.fr (.int len)), some (.ce cs.length), some (.fr (.int ((st.length - 1 - m : Nat) : Int))), some (.fr (.list ((begins st hs len (st.length - 1 - m)).map .int))), none]) (c2 := cs ++ [some (.lst ((half st hs len (m + 1)).map .int))]) (by simp) ?_ (by simp) (List.take_of_length_le (by simp))
  refine (sSeq_n (sSet_v (dFz_v (dLc_v (iRg2_v (add_i (dV_v rfl) dK_v) (len_v (dV_v rfl)) (by omega) (by omega) (by omega) (by rw [List.length_map]; omega)) (by rw [List.length_map]; simp [rangeD]; omega) (by rw [List.length_map]; exact run))))).trans ?_
  refine (sub_last (d := .int (late st hs len (st.length - 1 - m))) ?_ (dV_v rfl) (dV_v rfl) (by rw [List.length_map]; omega)).trans ?_
  · rw [late_is hk h2]
    exact sub_i (dftm_v (dV_v rfl) (dV_v rfl)) (ix_v (dV_v rfl) (dV_v rfl) (at_map PyData.int 0 (by omega)))
  · rw [← half_set hm, List.map_set]
    rfl
/-! ### lengths -/
def fin (hs pl : List Int) : List Int := (pl.zip hs).map fun p => p.1 + p.2
def lenOf (hs pl : List Int) : Int := top0 (fin hs pl)
theorem zipD_int : ∀ (a b : List Int), zipD (a.map .int) (b.map .int) = (a.zip b).map fun p => .tuple [.int p.1, .int p.2]
  | [], _ => rfl
  | _ :: _, [] => rfl
  | x :: a, y :: b => by
    have := zipD_int a b
    unfold zipD at *
    simp only [List.map_cons, List.zipWith_cons_cons, List.zip_cons_cons, this]
theorem iZi_v {f g : EF} {sl : Sl} {cs c1 c2 : Cs} {a b : List PyData} (h : f sl cs = some (.fr (.list a), c1)) (h2 : g sl c1 = some (.fr (.list b), c2)) : iZi f g sl cs = some (zipD a b, [], c2) := by
  unfold iZi
  rw [h]
  dsimp only
  rw [h2]
  rfl
theorem length_ok {hs pl : List Int} {cs : Cs} (h : pl.length ≤ 1000) : d_length_of [.fr (.list (hs.map .int)), .fr (.list (pl.map .int))] cs = some (.ret (.fr (.int (lenOf hs pl))) cs) := by
  refine fn_go (v := .fr (.int (lenOf hs pl))) (c1 := cs) rfl ?_ (by simp)
  have run := lcD_map (tg := .tp (.cons (.nm 2) (.cons (.nm 3) Tgs.nil))) (cond := bYes) (elt := d2 oAdd (dV 2) (dV 3)) (sl := [some (.fr (.list (hs.map .int))), some (.fr (.list (pl.map .int))), none, none]) (cs := cs) (fun p : Int × Int => .tuple [.int p.1, .int p.2]) (fun _ => true) (fun p => .int (p.1 + p.2)) (pl.zip hs) (fun p _ => ⟨_, rfl, rfl, fun _ => add_i (dV_v rfl) (dV_v rfl)⟩)
  rw [List.filter_eq_self.mpr (fun _ _ => rfl)] at run
  refine sRet_v (dft_v (ns := fin hs pl) (dFz_v (dLc_v (iZi_v (dV_v rfl) (dV_v rfl)) ?_ ?_)) dK_v)
  · rw [zipD_int, List.length_map, List.length_zip]
    omega
  · rw [zipD_int]
    unfold fin
    rw [List.map_map]
    exact run
theorem fin_eq {hs pl : List Int} (h : pl.length ≤ hs.length) : fin hs pl = (List.range pl.length).map fun k => pl.getD k 0 + hs.getD k 0 := by
  unfold fin
  apply List.ext_getElem?
  intro i
  rw [List.getElem?_map, List.getElem?_map]
  by_cases hi : i < pl.length
  · rw [List.getElem?_range hi, List.getElem?_eq_getElem (by rw [List.length_zip]; omega)]
    simp [List.getD, hi, show i < hs.length by omega]
  · rw [List.getElem?_eq_none (by rw [List.length_zip]; omega), List.getElem?_eq_none (by simpa using hi)]
    rfl
theorem fin_nn {hs pl : List Int} (h1 : ∀ x ∈ hs, 0 ≤ x) (h2 : ∀ x ∈ pl, 0 ≤ x) : ∀ x ∈ fin hs pl, 0 ≤ x := fun x q => by
  unfold fin at q
  obtain ⟨p, hp, rfl⟩ := List.mem_map.mp q
  obtain ⟨a, b⟩ := List.of_mem_zip hp
  have := h2 _ a
  have := h1 _ b
  omega
theorem Llength_ok {hs pl : List Int} {cs : Cs} (h : pl.length ≤ hs.length) (hl : pl.length ≤ 1000) (h1 : ∀ x ∈ hs, 0 ≤ x) (h2 : ∀ x ∈ pl, 0 ≤ x) : d_Llength [.fr (.list (hs.map .int)), .fr (.list (pl.map .int))] cs = some (.ret (.fr (.int (lenOf hs pl))) cs) := by
  refine fn_go (v := .fr (.int (lenOf hs pl))) (c1 := cs) rfl ?_ (by simp)
  have run := lcD_map (tg := .nm 2) (cond := bYes) (elt := d2 oAdd (d2 oIx (dV 1) (dV 2)) (d2 oIx (dV 0) (dV 2))) (sl := [some (.fr (.list (hs.map .int))), some (.fr (.list (pl.map .int))), none]) (cs := cs) (fun i : Nat => .int (i : Nat)) (fun _ => true) (fun i => .int (pl.getD i 0 + hs.getD i 0)) (List.range pl.length) (fun i hi => ⟨_, e_tgn _ _ _, rfl, fun _ => by
    have := List.mem_range.mp hi
    exact add_i (ix_v (dV_v rfl) (dV_v rfl) (at_map PyData.int 0 this)) (ix_v (dV_v rfl) (dV_v rfl) (at_map PyData.int 0 (by omega)))⟩)
  rw [List.filter_eq_self.mpr (fun _ _ => rfl)] at run
  refine sRet_v (max_v (ns := 0 :: fin hs pl) (addl_v (a := [.int 0]) (b := (fin hs pl).map .int) (dFz_v (c1 := cs) (by simp)) (dFz_v (dLc_v (iRg1_v (len_v (dV_v rfl)) (by omega) (by rw [List.length_map]; omega)) ?_ ?_)) ?_) (top0_cons (fin_nn h1 h2)))
  · rw [List.length_map, rangeD_nat, List.length_map, List.length_range]
    omega
  · rw [List.length_map, rangeD_nat, fin_eq h, List.map_map]
    exact run
  · rw [List.length_map, List.length_singleton, fin_eq h, List.length_map, List.length_range]
    omega
/-! ### latest, spare -/
def least (st : List DX.Step) (hs : List Int) : Int := lenOf hs (plan st hs st.length)
theorem latest_run {st : List DX.Step} {hs : List Int} {len : Int} {cs : Cs} (h : Small st hs) : forD (.nm 4) [] [5, 4] (cs.length + 1) (sSeq (sSet 5 (dFz (dLc (iRg2 (d2 oAdd (dV 4) (dK (.int 1))) (dCall oLen (aCons (dV 0) aNil))) (.nm 6) [6] (bV (dFn d_depends (aCons (d2 oIx (dV 0) (dV 4)) (aCons (d2 oIx (dV 0) (dV 6)) aNil)))) (d2 oIx (dV 3) (dV 6))))) (sSub (d2 oSub (dDft minI (dV 5) (dV 2)) (d2 oIx (dV 1) (dV 4))) (dV 3) (dV 4))) (revR 0 (st.length : Nat)) [some (.fr (.list (st.map sc))), some (.fr (.list (hs.map .int))), some (.fr (.int len)), some (.ce cs.length), none, none, none] (cs ++ [some (.lst ((List.replicate st.length (0 : Int)).map .int))]) =
    some (.nxt [some (.fr (.list (st.map sc))), some (.fr (.list (hs.map .int))), some (.fr (.int len)), some (.ce cs.length), none, none, none] (cs ++ [some (.lst ((lateL st hs len).map .int))])) := by
  obtain ⟨o, e, rfl⟩ := forD_J (tg := .nm 4) (g := []) (ws := [5, 4]) (n := cs.length + 1) (body := (sSeq (sSet 5 (dFz (dLc (iRg2 (d2 oAdd (dV 4) (dK (.int 1))) (dCall oLen (aCons (dV 0) aNil))) (.nm 6) [6] (bV (dFn d_depends (aCons (d2 oIx (dV 0) (dV 4)) (aCons (d2 oIx (dV 0) (dV 6)) aNil)))) (d2 oIx (dV 3) (dV 6))))) (sSub (d2 oSub (dDft minI (dV 5) (dV 2)) (d2 oIx (dV 1) (dV 4))) (dV 3) (dV 4)))) (its := revR 0 (st.length : Nat))
    (fun k sl c => sl = [some (.fr (.list (st.map sc))), some (.fr (.list (hs.map .int))), some (.fr (.int len)), some (.ce cs.length), none, none, none] ∧ c = cs ++ [some (.lst ((half st hs len k).map .int))])
    (fun o => o = .nxt [some (.fr (.list (st.map sc))), some (.fr (.list (hs.map .int))), some (.fr (.int len)), some (.ce cs.length), none, none, none] (cs ++ [some (.lst ((lateL st hs len).map .int))]))
    (fun _ _ _ _ => rfl) (fun k d sl c hd ⟨a, b⟩ => by
      subst a b
      obtain ⟨hm, rfl⟩ := revR_get hd
      exact ⟨_, turn_latest h hm, rfl, rfl⟩)
    (fun sl c ⟨a, b⟩ => by rw [a, b, revR_len, half_n]) _ _ ⟨rfl, by rw [half_0]⟩
  exact e
theorem latest_ok {st : List DX.Step} {hs : List Int} {len : Int} {cs : Cs} (h : Small st hs) (hl : least st hs ≤ len) : d_latest [.fr (.list (st.map sc)), .fr (.list (hs.map .int)), .fr (.int len)] cs = some (.ret (.fr (.list ((lateL st hs len).map .int))) cs) := by
  have h1 := h.1
  have v1 := earliest_ok (cs := cs) h
  have v2 := length_ok (hs := hs) (pl := plan st hs st.length) (cs := cs) (by rw [plan_len]; omega)
  refine fn_go (v := .fr (.list ((lateL st hs len).map .int))) (c1 := cs ++ [none]) rfl ?_ (by simp)
  refine (sSeq_n ((sIf_f (bV_v (k := false) (d2_v (dV_v rfl) (dFn_v (aCons_v (dV_v rfl) (aCons_v (dFn_v (aCons_v (dV_v rfl) (aCons_v (dV_v rfl) aNil_v)) v1) aNil_v)) v2) ?_))).trans rfl)).trans ?_
  · unfold least at hl
    simp
    exact hl
  · refine (sSeq_n (sSet_v (rep_v (n := st.length) (by rw [len_v (dV_v rfl), List.length_map]) (by omega)))).trans ((sSeq_n ((sFor_i (iRev1_v (len_v (dV_v rfl)) (by omega) (by rw [List.length_map]; omega))).trans (by rw [List.length_append, List.length_map]; exact latest_run h))).trans (sRet_v ?_))
    simp
theorem fn_exc {n m : Nat} {body : SF} {as : List Val} {x f : Str} {d : PyData} {sl : Sl} {cs c1 : Cs} (hl : as.length = n) (h : body (as.map some ++ List.replicate m none) cs = some (.exc x f d sl c1)) : fnD n m body as cs = some (.exc x f d (c1.take cs.length)) := by
  unfold fnD
  rw [if_pos hl, h]
theorem latest_no {st : List DX.Step} {hs : List Int} {len : Int} {cs : Cs} (h : Small st hs) (hl : ¬ least st hs ≤ len) : d_latest [.fr (.list (st.map sc)), .fr (.list (hs.map .int)), .fr (.int len)] cs = some (.exc "TooShort" "length" (.int len) cs) := by
  have h1 := h.1
  have v1 := earliest_ok (cs := cs) h
  have v2 := length_ok (hs := hs) (pl := plan st hs st.length) (cs := cs) (by rw [plan_len]; omega)
  have e : (sSeq (sIf (bV (d2 oLt (dV 2) (dFn d_length_of (aCons (dV 1) (aCons (dFn d_earliest (aCons (dV 0) (aCons (dV 1) aNil))) aNil))))) (sRaise "TooShort" "length" (dV 2)) sNo) (sSeq (sSet 3 (dCe (d2L oRep (dFz (dLst (aCons (dK (.int 0)) aNil))) (dCall oLen (aCons (dV 0) aNil))))) (sSeq (sFor (iRev1 (dCall oLen (aCons (dV 0) aNil))) (.nm 4) [5, 4] (sSeq (sSet 5 (dFz (dLc (iRg2 (d2 oAdd (dV 4) (dK (.int 1))) (dCall oLen (aCons (dV 0) aNil))) (.nm 6) [6] (bV (dFn d_depends (aCons (d2 oIx (dV 0) (dV 4)) (aCons (d2 oIx (dV 0) (dV 6)) aNil)))) (d2 oIx (dV 3) (dV 6))))) (sSub (d2 oSub (dDft minI (dV 5) (dV 2)) (d2 oIx (dV 1) (dV 4))) (dV 3) (dV 4)))) (sRet (dFr (dV 3)))))) [some (.fr (.list (st.map sc))), some (.fr (.list (hs.map .int))), some (.fr (.int len)), none, none, none, none] cs = some (.exc "TooShort" "length" (.int len) [some (.fr (.list (st.map sc))), some (.fr (.list (hs.map .int))), some (.fr (.int len)), none, none, none, none] cs) := by
    have q : (sIf (bV (d2 oLt (dV 2) (dFn d_length_of (aCons (dV 1) (aCons (dFn d_earliest (aCons (dV 0) (aCons (dV 1) aNil))) aNil))))) (sRaise "TooShort" "length" (dV 2)) sNo) [some (.fr (.list (st.map sc))), some (.fr (.list (hs.map .int))), some (.fr (.int len)), none, none, none, none] cs = some (.exc "TooShort" "length" (.int len) [some (.fr (.list (st.map sc))), some (.fr (.list (hs.map .int))), some (.fr (.int len)), none, none, none, none] cs) := by
      refine (sIf_t (bV_v (k := true) (d2_v (dV_v rfl) (dFn_v (aCons_v (dV_v rfl) (aCons_v (dFn_v (aCons_v (dV_v rfl) (aCons_v (dV_v rfl) aNil_v)) v1) aNil_v)) v2) ?_))).trans ?_
      · unfold least at hl
        simp
        omega
      · simp
    unfold sSeq
    rw [q]
  have q := fn_exc (n := 3) (m := 4) (body := b_latest) (as := [.fr (.list (st.map sc)), .fr (.list (hs.map .int)), .fr (.int len)]) rfl e
  rw [List.take_length] at q
  exact q
theorem spare_ok {st : List DX.Step} {hs : List Int} {cs : Cs} (h : Small st hs) : d_spare [.fr (.list (st.map sc)), .fr (.list (hs.map .int))] cs = some (.ret (.fr (.list (((List.range st.length).map fun k => late st hs (least st hs) k - ev st hs k).map .int))) cs) := by
  have h1 := h.1
  have v1 := earliest_ok (cs := cs) h
  have v2 := length_ok (hs := hs) (pl := plan st hs st.length) (cs := cs) (by rw [plan_len]; omega)
  have v3 := latest_ok (cs := cs) h (Int.le_refl (least st hs))
  refine fn_go (v := .fr (.list (((List.range st.length).map fun k => late st hs (least st hs) k - ev st hs k).map .int))) (c1 := cs) rfl ?_ (by simp)
  refine (sSeq_n (sSet_v (dFn_v (aCons_v (dV_v rfl) (aCons_v (dV_v rfl) aNil_v)) v1))).trans ?_
  refine (sSeq_n (sSet_v (dFn_v (aCons_v (dV_v rfl) (aCons_v (dV_v rfl) (aCons_v (dFn_v (aCons_v (dV_v rfl) (aCons_v (dV_v rfl) aNil_v)) v2) aNil_v))) v3))).trans ?_
  have run := lcD_map (tg := .tp (.cons (.nm 4) (.cons (.nm 5) Tgs.nil))) (cond := bYes) (elt := d2 oSub (dV 5) (dV 4)) (sl := [some (.fr (.list (st.map sc))), some (.fr (.list (hs.map .int))), some (.fr (.list ((plan st hs st.length).map .int))), some (.fr (.list ((lateL st hs (least st hs)).map .int))), none, none]) (cs := cs) (fun p : Int × Int => .tuple [.int p.1, .int p.2]) (fun _ => true) (fun p => .int (p.2 - p.1)) ((plan st hs st.length).zip (lateL st hs (least st hs))) (fun p _ => ⟨_, rfl, rfl, fun _ => sub_i (dV_v rfl) (dV_v rfl)⟩)
  rw [List.filter_eq_self.mpr (fun _ _ => rfl)] at run
  refine sRet_v (dFz_v (dLc_v (iZi_v (dV_v rfl) (dV_v rfl)) ?_ ?_))
  · rw [zipD_int, List.length_map, List.length_zip, plan_len]
    omega
  · rw [zipD_int]
    have e : ((plan st hs st.length).zip (lateL st hs (least st hs))).map (fun p : Int × Int => PyData.int (p.2 - p.1)) = ((List.range st.length).map fun k => late st hs (least st hs) k - ev st hs k).map .int := by
      rw [plan_map]
      unfold lateL
      rw [List.zip_map', List.map_map, List.map_map]
      rfl
    rw [← e]
    exact run
theorem turn_Llate {st : List DX.Step} {hs : List Int} {len : Int} {m : Nat} {cs : Cs} (h : Small st hs) (hn : ∀ x ∈ hs, 0 ≤ x) (hm : m < st.length) :
    turnD (.nm 4) [5, 4] (cs.length + 1) (sSeq (sSet 5 (dFz (dLc (iRg2 (d2 oAdd (dV 4) (dK (.int 1))) (dCall oLen (aCons (dV 0) aNil))) (.nm 6) [6] (bV (dFn d_Ldep (aCons (d2 oIx (dV 0) (dV 4)) (aCons (d2 oIx (dV 0) (dV 6)) aNil)))) (d2 oIx (dV 3) (dV 6))))) (sSub (d2 oSub (dCall oMin (aCons (d2 oAdd (dFz (dLst (aCons (dV 2) aNil))) (dV 5)) aNil)) (d2 oIx (dV 1) (dV 4))) (dV 3) (dV 4))) (.int ((st.length - 1 - m : Nat) : Int)) [some (.fr (.list (st.map sc))), some (.fr (.list (hs.map .int))), some (.fr (.int len)), some (.ce cs.length), none, none, none] (cs ++ [some (.lst ((half st hs len m).map .int))]) =
    some (.go [some (.fr (.list (st.map sc))), some (.fr (.list (hs.map .int))), some (.fr (.int len)), some (.ce cs.length), none, none, none] (cs ++ [some (.lst ((half st hs len (m + 1)).map .int))])) := by
  obtain ⟨h1, h2, h3⟩ := h
  have hl := half_len st hs len m
  have hk : st.length - 1 - m < st.length := by omega
  have c1 : ∀ j, st.length - 1 - m < j → j < st.length → (bV (dFn d_Ldep (aCons (d2 oIx (dV 0) (dV 4)) (aCons (d2 oIx (dV 0) (dV 6)) aNil)))) (([some (.fr (.list (st.map sc))), some (.fr (.list (hs.map .int))), some (.fr (.int len)), some (.ce cs.length), some (.fr (.int ((st.length - 1 - m : Nat) : Int))), none, none] : Sl).set 6 (some (.fr (.int (j : Nat))))) (cs ++ [some (.lst ((half st hs len m).map .int))]) = some (dep (st.getD (st.length - 1 - m) nilS) (st.getD j nilS), cs ++ [some (.lst ((half st hs len m).map .int))]) := fun j _ j2 =>
    bV_v (dFn_v (aCons_v (ix_v (dV_v rfl) (dV_v rfl) (at_map sc nilS hk)) (aCons_v (ix_v (dV_v rfl) (dV_v rfl) (at_map sc nilS j2)) aNil_v)) (Ldep_ok (h3 _ (getD_mem hk))))
  have c2 : ∀ j, st.length - 1 - m < j → j < st.length → (d2 oIx (dV 3) (dV 6)) (([some (.fr (.list (st.map sc))), some (.fr (.list (hs.map .int))), some (.fr (.int len)), some (.ce cs.length), some (.fr (.int ((st.length - 1 - m : Nat) : Int))), none, none] : Sl).set 6 (some (.fr (.int (j : Nat))))) (cs ++ [some (.lst ((half st hs len m).map .int))]) = some (.fr (.int (late st hs len j)), cs ++ [some (.lst ((half st hs len m).map .int))]) := fun j j1 j2 => by
    have := at_map PyData.int 0 (xs := half st hs len m) (i := j) (by omega)
    rw [half_get j2 (by omega)] at this
    exact ixc_v (dV_v rfl) (dV_v rfl) (by simp) this
  have run := onward_run c1 c2
  refine turn_g (sl1 := [some (.fr (.list (st.map sc))), some (.fr (.list (hs.map .int))), some (.fr (.int len)), some (.ce cs.length), some (.fr (.int ((st.length - 1 - m : Nat) : Int))), none, none]) (sl2 := [some (.fr (.list (st.map sc))), some (.fr (.list (hs.map .int))), some (.fr (.int len)), some (.ce cs.length), some (.fr (.int ((st.length - 1 - m : Nat) : Int))), some (.fr (.list ((begins st hs len (st.length - 1 - m)).map .int))), none]) (c2 := cs ++ [some (.lst ((half st hs len (m + 1)).map .int))]) (by simp) ?_ (by simp) (List.take_of_length_le (by simp))
  refine (sSeq_n (sSet_v (dFz_v (dLc_v (iRg2_v (add_i (dV_v rfl) dK_v) (len_v (dV_v rfl)) (by omega) (by omega) (by omega) (by rw [List.length_map]; omega)) (by rw [List.length_map]; simp [rangeD]; omega) (by rw [List.length_map]; exact run))))).trans ?_
  refine (sub_last (d := .int (late st hs len (st.length - 1 - m))) ?_ (dV_v rfl) (dV_v rfl) (by rw [List.length_map]; omega)).trans ?_
  · rw [late_is hk h2]
    have hbl : (begins st hs len (st.length - 1 - m)).length ≤ 1000 := by
      unfold begins
      rw [List.length_map]
      have := List.length_filter_le (fun i => dep (st.getD (st.length - 1 - m) nilS) (st.getD (st.length - 1 - m + 1 + i) nilS)) (List.range (st.length - (st.length - 1 - m + 1)))
      rw [List.length_range] at this
      omega
    exact sub_i (min_v (ns := len :: begins st hs len (st.length - 1 - m)) (addl_v (a := [.int len]) (b := (begins st hs len (st.length - 1 - m)).map .int) (dFz_v (c1 := cs ++ [some (.lst ((half st hs len m).map .int))]) (by simp)) (dV_v rfl) (by rw [List.length_map, List.length_singleton]; omega)) (bot_cons (begins_le hk h2 hn))) (ix_v (dV_v rfl) (dV_v rfl) (at_map PyData.int 0 (by omega)))
  · rw [← half_set hm, List.map_set]
    rfl
theorem Llate_ok {st : List DX.Step} {hs : List Int} {len : Int} {cs : Cs} (h : Small st hs) (hn : ∀ x ∈ hs, 0 ≤ x) : d_Llate [.fr (.list (st.map sc)), .fr (.list (hs.map .int)), .fr (.int len)] cs = some (.ret (.fr (.list ((lateL st hs len).map .int))) cs) := by
  have h1 := h.1
  obtain ⟨o, e, rfl⟩ := forD_J (tg := .nm 4) (g := []) (ws := [5, 4]) (n := cs.length + 1) (body := (sSeq (sSet 5 (dFz (dLc (iRg2 (d2 oAdd (dV 4) (dK (.int 1))) (dCall oLen (aCons (dV 0) aNil))) (.nm 6) [6] (bV (dFn d_Ldep (aCons (d2 oIx (dV 0) (dV 4)) (aCons (d2 oIx (dV 0) (dV 6)) aNil)))) (d2 oIx (dV 3) (dV 6))))) (sSub (d2 oSub (dCall oMin (aCons (d2 oAdd (dFz (dLst (aCons (dV 2) aNil))) (dV 5)) aNil)) (d2 oIx (dV 1) (dV 4))) (dV 3) (dV 4)))) (its := revR 0 (st.length : Nat))
    (fun k sl c => sl = [some (.fr (.list (st.map sc))), some (.fr (.list (hs.map .int))), some (.fr (.int len)), some (.ce cs.length), none, none, none] ∧ c = cs ++ [some (.lst ((half st hs len k).map .int))])
    (fun o => o = .nxt [some (.fr (.list (st.map sc))), some (.fr (.list (hs.map .int))), some (.fr (.int len)), some (.ce cs.length), none, none, none] (cs ++ [some (.lst ((lateL st hs len).map .int))]))
    (fun _ _ _ _ => rfl) (fun k d sl c hd ⟨a, b⟩ => by
      subst a b
      obtain ⟨hm, rfl⟩ := revR_get hd
      exact ⟨_, turn_Llate h hn hm, rfl, rfl⟩)
    (fun sl c ⟨a, b⟩ => by rw [a, b, revR_len, half_n]) [some (.fr (.list (st.map sc))), some (.fr (.list (hs.map .int))), some (.fr (.int len)), some (.ce cs.length), none, none, none] (cs ++ [some (.lst ((List.replicate st.length (0 : Int)).map .int))]) ⟨rfl, by rw [half_0]⟩
  refine fn_go (v := .fr (.list ((lateL st hs len).map .int))) (c1 := cs ++ [none]) rfl ?_ (by simp)
  refine (sSeq_n (sSet_v (rep_v (n := st.length) (by rw [len_v (dV_v rfl), List.length_map]) (by omega)))).trans ((sSeq_n ((sFor_i (iRev1_v (len_v (dV_v rfl)) (by omega) (by rw [List.length_map]; omega))).trans (by rw [List.length_append, List.length_map]; exact e))).trans (sRet_v ?_))
  simp

/-! ### the most hours that follow -/
def mostv (st : List DX.Step) (hs : List Int) (j : Nat) : Int := hs.getD j 0 + ev st.reverse hs.reverse (st.length - 1 - j)
def halfP (n : Nat) (P : Nat → Int) (m : Nat) : List Int := (List.range n).map fun j => if n - m ≤ j then P j else 0
theorem halfP_len (n : Nat) (P : Nat → Int) (m : Nat) : (halfP n P m).length = n := by
  unfold halfP
  rw [List.length_map, List.length_range]
theorem halfP_get {n : Nat} {P : Nat → Int} {m j : Nat} (hj : j < n) (h : n - m ≤ j) : (halfP n P m).getD j 0 = P j := by
  unfold halfP
  simp [List.getD, hj, h]
  intro q
  omega
theorem halfP_set {n : Nat} {P : Nat → Int} {m : Nat} (hm : m < n) : (halfP n P m).set (n - 1 - m) (P (n - 1 - m)) = halfP n P (m + 1) := by
  apply List.ext_getElem?
  intro j
  unfold halfP
  rw [List.getElem?_set, List.length_map, List.length_range, List.getElem?_map, List.getElem?_map]
  by_cases hj : j < n
  · rw [List.getElem?_range hj]
    by_cases e : n - 1 - m = j
    · rw [if_pos e, if_pos (by omega)]
      show some _ = some (if n - (m + 1) ≤ j then _ else _)
      rw [if_pos (by omega), e]
    · rw [if_neg e]
      show some (if n - m ≤ j then _ else _) = some (if n - (m + 1) ≤ j then _ else _)
      by_cases q : n - m ≤ j
      · rw [if_pos q, if_pos (by omega)]
      · rw [if_neg q, if_neg (by omega)]
  · rw [List.getElem?_eq_none (by simpa using hj), if_neg (by omega)]
    rfl
theorem halfP_0 (n : Nat) (P : Nat → Int) : halfP n P 0 = List.replicate n 0 := by
  apply List.ext_getElem?
  intro j
  unfold halfP
  rw [List.getElem?_map, List.getElem?_replicate]
  by_cases hj : j < n
  · rw [List.getElem?_range hj, if_pos hj]
    show some (if n - 0 ≤ j then _ else _) = _
    rw [if_neg (by omega)]
  · rw [List.getElem?_eq_none (by simpa using hj), if_neg hj]
    rfl
theorem halfP_n (n : Nat) (P : Nat → Int) : halfP n P n = (List.range n).map P := by
  unfold halfP
  apply List.map_congr_left
  intro j _
  rw [if_pos (by omega)]
def onw (st : List DX.Step) (hs : List Int) (k : Nat) : List Int := ((List.range (st.length - (k + 1))).filter fun i => dep (st.getD k nilS) (st.getD (k + 1 + i) nilS)).map fun i => mostv st hs (k + 1 + i)
theorem onw_top {st : List DX.Step} {hs : List Int} {k : Nat} (hk : k < st.length) (hl : hs.length = st.length) : mostv st hs k = hs.getD k 0 + top0 (onw st hs k) := by
  unfold mostv ev
  congr 1
  refine top0_congr fun x => ?_
  have q := begins_top (len := 0) hk hl (-x)
  rw [show (0 : Int) - -x = x by omega] at q
  rw [← q]
  unfold begins onw
  rw [List.mem_map, List.mem_map]
  constructor
  · rintro ⟨i, h1, h2⟩
    refine ⟨i, h1, ?_⟩
    unfold late at h2
    unfold mostv
    omega
  · rintro ⟨i, h1, h2⟩
    refine ⟨i, h1, ?_⟩
    unfold mostv at h2
    unfold late
    omega
theorem turn_hf {st : List DX.Step} {hs : List Int} {m : Nat} {cs : Cs} (h : Small st hs) (hm : m < st.length) :
    turnD (.nm 3) [4, 3] (cs.length + 1) (sSeq (sSet 4 (dFz (dLc (iRg2 (d2 oAdd (dV 3) (dK (.int 1))) (dCall oLen (aCons (dV 0) aNil))) (.nm 5) [5] (bV (dFn d_depends (aCons (d2 oIx (dV 0) (dV 3)) (aCons (d2 oIx (dV 0) (dV 5)) aNil)))) (d2 oIx (dV 2) (dV 5))))) (sSub (d2 oAdd (d2 oIx (dV 1) (dV 3)) (dDft maxI (dV 4) (dK (.int 0)))) (dV 2) (dV 3))) (.int ((st.length - 1 - m : Nat) : Int)) [some (.fr (.list (st.map sc))), some (.fr (.list (hs.map .int))), some (.ce cs.length), none, none, none] (cs ++ [some (.lst ((halfP st.length (mostv st hs) m).map .int))]) =
    some (.go [some (.fr (.list (st.map sc))), some (.fr (.list (hs.map .int))), some (.ce cs.length), none, none, none] (cs ++ [some (.lst ((halfP st.length (mostv st hs) (m + 1)).map .int))])) := by
  obtain ⟨h1, h2, h3⟩ := h
  have hl := halfP_len st.length (mostv st hs) m
  have hk : st.length - 1 - m < st.length := by omega
  have c1 : ∀ j, st.length - 1 - m < j → j < st.length → (bV (dFn d_depends (aCons (d2 oIx (dV 0) (dV 3)) (aCons (d2 oIx (dV 0) (dV 5)) aNil)))) (([some (.fr (.list (st.map sc))), some (.fr (.list (hs.map .int))), some (.ce cs.length), some (.fr (.int ((st.length - 1 - m : Nat) : Int))), none, none] : Sl).set 5 (some (.fr (.int (j : Nat))))) (cs ++ [some (.lst ((halfP st.length (mostv st hs) m).map .int))]) = some (dep (st.getD (st.length - 1 - m) nilS) (st.getD j nilS), cs ++ [some (.lst ((halfP st.length (mostv st hs) m).map .int))]) := fun j _ j2 =>
    bV_v (dFn_v (aCons_v (ix_v (dV_v rfl) (dV_v rfl) (at_map sc nilS hk)) (aCons_v (ix_v (dV_v rfl) (dV_v rfl) (at_map sc nilS j2)) aNil_v)) (depends_ok (h3 _ (getD_mem hk))))
  have c2 : ∀ j, st.length - 1 - m < j → j < st.length → (d2 oIx (dV 2) (dV 5)) (([some (.fr (.list (st.map sc))), some (.fr (.list (hs.map .int))), some (.ce cs.length), some (.fr (.int ((st.length - 1 - m : Nat) : Int))), none, none] : Sl).set 5 (some (.fr (.int (j : Nat))))) (cs ++ [some (.lst ((halfP st.length (mostv st hs) m).map .int))]) = some (.fr (.int (mostv st hs j)), cs ++ [some (.lst ((halfP st.length (mostv st hs) m).map .int))]) := fun j j1 j2 => by
    have := at_map PyData.int 0 (xs := halfP st.length (mostv st hs) m) (i := j) (by omega)
    rw [halfP_get j2 (by omega)] at this
    exact ixc_v (dV_v rfl) (dV_v rfl) (by simp) this
  have run := onward_run c1 c2
  refine turn_g (sl1 := [some (.fr (.list (st.map sc))), some (.fr (.list (hs.map .int))), some (.ce cs.length), some (.fr (.int ((st.length - 1 - m : Nat) : Int))), none, none]) (sl2 := [some (.fr (.list (st.map sc))), some (.fr (.list (hs.map .int))), some (.ce cs.length), some (.fr (.int ((st.length - 1 - m : Nat) : Int))), some (.fr (.list ((onw st hs (st.length - 1 - m)).map .int))), none]) (c2 := cs ++ [some (.lst ((halfP st.length (mostv st hs) (m + 1)).map .int))]) (by simp) ?_ (by simp) (List.take_of_length_le (by simp))
  refine (sSeq_n (sSet_v (dFz_v (dLc_v (iRg2_v (add_i (dV_v rfl) dK_v) (len_v (dV_v rfl)) (by omega) (by omega) (by omega) (by rw [List.length_map]; omega)) (by rw [List.length_map]; simp [rangeD]; omega) (by rw [List.length_map]; exact run))))).trans ?_
  refine (sub_last (d := .int (mostv st hs (st.length - 1 - m))) ?_ (dV_v rfl) (dV_v rfl) (by rw [List.length_map]; omega)).trans ?_
  · rw [onw_top hk h2]
    exact add_i (ix_v (dV_v rfl) (dV_v rfl) (at_map PyData.int 0 (by omega))) (dft_v (dV_v rfl) dK_v)
  · rw [← halfP_set hm, List.map_set]
    rfl
theorem hours_from_ok {st : List DX.Step} {hs : List Int} {cs : Cs} (h : Small st hs) : d_hours_from [.fr (.list (st.map sc)), .fr (.list (hs.map .int))] cs = some (.ret (.fr (.list (((List.range st.length).map (mostv st hs)).map .int))) cs) := by
  have h1 := h.1
  obtain ⟨o, e, rfl⟩ := forD_J (tg := .nm 3) (g := []) (ws := [4, 3]) (n := cs.length + 1) (body := (sSeq (sSet 4 (dFz (dLc (iRg2 (d2 oAdd (dV 3) (dK (.int 1))) (dCall oLen (aCons (dV 0) aNil))) (.nm 5) [5] (bV (dFn d_depends (aCons (d2 oIx (dV 0) (dV 3)) (aCons (d2 oIx (dV 0) (dV 5)) aNil)))) (d2 oIx (dV 2) (dV 5))))) (sSub (d2 oAdd (d2 oIx (dV 1) (dV 3)) (dDft maxI (dV 4) (dK (.int 0)))) (dV 2) (dV 3)))) (its := revR 0 (st.length : Nat))
    (fun k sl c => sl = [some (.fr (.list (st.map sc))), some (.fr (.list (hs.map .int))), some (.ce cs.length), none, none, none] ∧ c = cs ++ [some (.lst ((halfP st.length (mostv st hs) k).map .int))])
    (fun o => o = .nxt [some (.fr (.list (st.map sc))), some (.fr (.list (hs.map .int))), some (.ce cs.length), none, none, none] (cs ++ [some (.lst (((List.range st.length).map (mostv st hs)).map .int))]))
    (fun _ _ _ _ => rfl) (fun k d sl c hd ⟨a, b⟩ => by
      subst a b
      obtain ⟨hm, rfl⟩ := revR_get hd
      exact ⟨_, turn_hf h hm, rfl, rfl⟩)
    (fun sl c ⟨a, b⟩ => by rw [a, b, revR_len, halfP_n]) [some (.fr (.list (st.map sc))), some (.fr (.list (hs.map .int))), some (.ce cs.length), none, none, none] (cs ++ [some (.lst ((List.replicate st.length (0 : Int)).map .int))]) ⟨rfl, by rw [halfP_0]⟩
  refine fn_go (v := .fr (.list (((List.range st.length).map (mostv st hs)).map .int))) (c1 := cs ++ [none]) rfl ?_ (by simp)
  refine (sSeq_n (sSet_v (rep_v (n := st.length) (by rw [len_v (dV_v rfl), List.length_map]) (by omega)))).trans ((sSeq_n ((sFor_i (iRev1_v (len_v (dV_v rfl)) (by omega) (by rw [List.length_map]; omega))).trans (by rw [List.length_append, List.length_map]; exact e))).trans (sRet_v ?_))
  simp
/-! ### the heaviest chain -/
def hc (st : List DX.Step) (hs : List Int) : Nat → List Nat × Int
  | 0 => ([], top0 ((List.range st.length).map (mostv st hs)))
  | k + 1 => if mostv st hs k = (hc st hs k).2 ∧ ((hc st hs k).1 = [] ∨ dep (st.getD ((hc st hs k).1.getLastD 0) nilS) (st.getD k nilS) = true) then ((hc st hs k).1 ++ [k], (hc st hs k).2 - hs.getD k 0) else hc st hs k
theorem hc_lt (st : List DX.Step) (hs : List Int) : ∀ k, ∀ i ∈ (hc st hs k).1, i < k
  | 0, _, h => nomatch h
  | k + 1, i, h => by
    rw [hc] at h
    split at h
    · rcases List.mem_append.mp h with q | q
      · have := hc_lt st hs k i q
        omega
      · rw [List.mem_singleton.mp q]
        omega
    · have := hc_lt st hs k i h
      omega
theorem hc_len (st : List DX.Step) (hs : List Int) : ∀ k, (hc st hs k).1.length ≤ k
  | 0 => Nat.le_refl _
  | k + 1 => by
    have := hc_len st hs k
    rw [hc]
    split
    · rw [List.length_append, List.length_singleton]
      omega
    · omega
abbrev nI (i : Nat) : PyData := .int (i : Nat)
theorem at_last {A : Type} (f : A → PyData) (d : A) {xs : List A} (h : xs ≠ []) : atI (xs.map f) (-1) = some (f (xs.getLastD d)) := by
  have h0 : 0 < xs.length := List.length_pos_iff.mpr h
  unfold atI ixN
  rw [if_neg (by decide), List.length_map, if_pos (by omega)]
  have e : (-1 + (xs.length : Int)).toNat = xs.length - 1 := by omega
  rw [e]
  show (xs.map f)[xs.length - 1]? = _
  rw [List.getElem?_map, List.getLastD_eq_getLast?, List.getLast?_eq_getElem?, List.getElem?_eq_getElem (by omega)]
  rfl
section
variable {f g : EF} {sl : Sl} {cs c1 c2 : Cs} {i : Nat}
theorem ixcI_v {xs : List PyData} {d : PyData} {k : Int} {c : Nat} (h : f sl cs = some (.ce c, c1)) (h2 : g sl c1 = some (.fr (.int k), c2)) (hc : c2[c]? = some (some (.lst xs))) (h3 : atI xs k = some d) : d2 oIx f g sl cs = some (.fr d, c2) := by
  refine d2_v h h2 ?_
  simp [hc, h3]
theorem sAug_v {op : Int → Int → Int} {a b : Int} (h : sl[i]? = some (some (.fr (.int a)))) (h2 : f sl cs = some (.fr (.int b), c1)) : sAug i op f sl cs = some (.nxt (sl.set i (some (.fr (.int (op a b))))) c1) := by
  unfold sAug
  rw [h]
  dsimp only
  rw [h2]
theorem lenc_v {ds : List PyData} {c : Nat} (h : f sl cs = some (.ce c, c1)) (hc : c1[c]? = some (some (.lst ds))) : dCall oLen (aCons f aNil) sl cs = some (.fr (.int (ds.length : Nat)), c1) := by
  simp [h, lenV, hc]
theorem eq_i {a b : Int} (h : f sl cs = some (.fr (.int a), c1)) (h2 : g sl c1 = some (.fr (.int b), c2)) : d2 oEq f g sl cs = some (.fr (.bool (decide (a = b))), c2) := d2_v h h2 (by simp)
end
theorem turn_hc {st : List DX.Step} {hs : List Int} {k : Nat} {cs : Cs} (h : Small st hs) (hk : k < st.length) :
    turnD (.nm 5) [5] (cs.length + 1) (sIf (bAnd (bV (d2 oEq (d2 oIx (dV 2) (dV 5)) (dV 3))) (bOr (bV (d2 oEq (dCall oLen (aCons (dV 4) aNil)) (dK (.int 0)))) (bV (dFn d_depends (aCons (d2 oIx (dV 0) (d2 oIx (dV 4) (dNeg (dK (.int 1))))) (aCons (d2 oIx (dV 0) (dV 5)) aNil)))))) (sSeq (sEx (dApp (dV 4) (dV 5))) (sAug 3 (fun i j => i - j) (d2 oIx (dV 1) (dV 5)))) sNo) (nI k) [some (.fr (.list (st.map sc))), some (.fr (.list (hs.map .int))), some (.fr (.list (((List.range st.length).map (mostv st hs)).map .int))), some (.fr (.int (hc st hs k).2)), some (.ce cs.length), none] (cs ++ [some (.lst ((hc st hs k).1.map nI))]) =
    some (.go [some (.fr (.list (st.map sc))), some (.fr (.list (hs.map .int))), some (.fr (.list (((List.range st.length).map (mostv st hs)).map .int))), some (.fr (.int (hc st hs (k + 1)).2)), some (.ce cs.length), none] (cs ++ [some (.lst ((hc st hs (k + 1)).1.map nI))])) := by
  obtain ⟨h1, h2, h3⟩ := h
  have hlt := hc_lt st hs k
  have hln := hc_len st hs k
  have hm : ((List.range st.length).map (mostv st hs)).getD k 0 = mostv st hs k := by simp [List.getD, hk]
  have m1 := at_map PyData.int 0 (xs := (List.range st.length).map (mostv st hs)) (i := k) (by simpa using hk)
  rw [hm] at m1
  have hcell : (cs ++ [some (Cell.lst ((hc st hs k).1.map nI))])[cs.length]? = some (some (.lst ((hc st hs k).1.map nI))) := by simp
  refine turn_g (sl1 := [some (.fr (.list (st.map sc))), some (.fr (.list (hs.map .int))), some (.fr (.list (((List.range st.length).map (mostv st hs)).map .int))), some (.fr (.int (hc st hs k).2)), some (.ce cs.length), some (.fr (nI k))]) (sl2 := [some (.fr (.list (st.map sc))), some (.fr (.list (hs.map .int))), some (.fr (.list (((List.range st.length).map (mostv st hs)).map .int))), some (.fr (.int (hc st hs (k + 1)).2)), some (.ce cs.length), some (.fr (nI k))]) (c2 := cs ++ [some (.lst ((hc st hs (k + 1)).1.map nI))]) (by simp) ?_ (by simp) (List.take_of_length_le (by simp))
  have t1 : ∀ {sl : Sl}, sl[2]? = some (some (.fr (.list (((List.range st.length).map (mostv st hs)).map .int)))) → sl[3]? = some (some (.fr (.int (hc st hs k).2))) → sl[5]? = some (some (.fr (nI k))) → bV (d2 oEq (d2 oIx (dV 2) (dV 5)) (dV 3)) sl (cs ++ [some (.lst ((hc st hs k).1.map nI))]) = some (decide (mostv st hs k = (hc st hs k).2), cs ++ [some (.lst ((hc st hs k).1.map nI))]) := fun {sl} a b c =>
    bV_v (eq_i (ix_v (dV_v a) (dV_v c) m1) (dV_v b))
  have t2 : ∀ {sl : Sl}, sl[4]? = some (some (.ce cs.length)) → bV (d2 oEq (dCall oLen (aCons (dV 4) aNil)) (dK (.int 0))) sl (cs ++ [some (.lst ((hc st hs k).1.map nI))]) = some (decide ((hc st hs k).1 = []), cs ++ [some (.lst ((hc st hs k).1.map nI))]) := fun {sl} a => by
    have e : decide ((((hc st hs k).1.map nI).length : Int) = 0) = decide ((hc st hs k).1 = []) := by
      apply decide_eq_decide.mpr
      rw [List.length_map]
      constructor
      · intro q
        exact List.eq_nil_of_length_eq_zero (by omega)
      · intro q
        rw [q]
        rfl
    rw [← e]
    exact bV_v (eq_i (lenc_v (dV_v a) hcell) dK_v)
  have go : ∀ {sl : Sl}, sl = [some (.fr (.list (st.map sc))), some (.fr (.list (hs.map .int))), some (.fr (.list (((List.range st.length).map (mostv st hs)).map .int))), some (.fr (.int (hc st hs k).2)), some (.ce cs.length), some (.fr (nI k))] → (sSeq (sEx (dApp (dV 4) (dV 5))) (sAug 3 (fun i j => i - j) (d2 oIx (dV 1) (dV 5)))) sl (cs ++ [some (.lst ((hc st hs k).1.map nI))]) = some (.nxt (sl.set 3 (some (.fr (.int ((hc st hs k).2 - hs.getD k 0))))) (cs ++ [some (.lst (((hc st hs k).1 ++ [k]).map nI))])) := fun {sl} a => by
    subst a
    refine (sSeq_n (sEx_v (app_last (dV_v rfl) (dV_v rfl) (by rw [List.length_map]; omega)))).trans ?_
    rw [← List.map_singleton (f := nI) (a := k), ← List.map_append]
    exact sAug_v rfl (ix_v (dV_v rfl) (dV_v rfl) (at_map PyData.int 0 (by omega)))
  by_cases q1 : mostv st hs k = (hc st hs k).2
  · by_cases q2 : (hc st hs k).1 = []
    · have e : hc st hs (k + 1) = ((hc st hs k).1 ++ [k], (hc st hs k).2 - hs.getD k 0) := by rw [hc, if_pos ⟨q1, .inl q2⟩]
      rw [e]
      refine (sIf_t ((bAnd_t ((t1 rfl rfl rfl).trans (by rw [decide_eq_true q1]))).trans (bOr_t ((t2 rfl).trans (by rw [decide_eq_true q2]))))).trans ((go rfl).trans rfl)
    · have hlast : (hc st hs k).1.getLastD 0 < st.length := by
        have : (hc st hs k).1.getLastD 0 ∈ (hc st hs k).1 := by
          rw [List.getLastD_eq_getLast?, List.getLast?_eq_some_getLast q2]
          exact List.getLast_mem q2
        have := hlt _ this
        omega
      have t3 : bV (dFn d_depends (aCons (d2 oIx (dV 0) (d2 oIx (dV 4) (dNeg (dK (.int 1))))) (aCons (d2 oIx (dV 0) (dV 5)) aNil))) [some (.fr (.list (st.map sc))), some (.fr (.list (hs.map .int))), some (.fr (.list (((List.range st.length).map (mostv st hs)).map .int))), some (.fr (.int (hc st hs k).2)), some (.ce cs.length), some (.fr (nI k))] (cs ++ [some (.lst ((hc st hs k).1.map nI))]) = some (dep (st.getD ((hc st hs k).1.getLastD 0) nilS) (st.getD k nilS), cs ++ [some (.lst ((hc st hs k).1.map nI))]) :=
        bV_v (dFn_v (aCons_v (ix_v (dV_v rfl) (ixcI_v (dV_v rfl) (k := -1) (by simp) hcell (at_last nI 0 q2)) (at_map sc nilS hlast)) (aCons_v (ix_v (dV_v rfl) (dV_v rfl) (at_map sc nilS hk)) aNil_v)) (depends_ok (h3 _ (getD_mem hlast))))
      by_cases q3 : dep (st.getD ((hc st hs k).1.getLastD 0) nilS) (st.getD k nilS) = true
      · have e : hc st hs (k + 1) = ((hc st hs k).1 ++ [k], (hc st hs k).2 - hs.getD k 0) := by rw [hc, if_pos ⟨q1, .inr q3⟩]
        rw [e]
        refine (sIf_t ((bAnd_t ((t1 rfl rfl rfl).trans (by rw [decide_eq_true q1]))).trans ((bOr_f ((t2 rfl).trans (by rw [decide_eq_false q2]))).trans (t3.trans (by rw [q3]))))).trans ((go rfl).trans rfl)
      · have e : hc st hs (k + 1) = hc st hs k := by rw [hc, if_neg (fun z => z.2.elim q2 q3)]
        rw [e]
        have q3' : dep (st.getD ((hc st hs k).1.getLastD 0) nilS) (st.getD k nilS) = false := by simpa using q3
        refine (sIf_f ((bAnd_t ((t1 rfl rfl rfl).trans (by rw [decide_eq_true q1]))).trans ((bOr_f ((t2 rfl).trans (by rw [decide_eq_false q2]))).trans (t3.trans (by rw [q3']))))).trans rfl
  · have e : hc st hs (k + 1) = hc st hs k := by rw [hc, if_neg (fun z => q1 z.1)]
    rw [e]
    refine (sIf_f (bAnd_f ((t1 rfl rfl rfl).trans (by rw [decide_eq_false q1])))).trans rfl
theorem chain_ok {st : List DX.Step} {hs : List Int} {cs : Cs} (h : Small st hs) : d_heaviest_chain [.fr (.list (st.map sc)), .fr (.list (hs.map .int))] cs = some (.ret (.fr (.list ((hc st hs st.length).1.map nI))) cs) := by
  have h1 := h.1
  have v1 := hours_from_ok (cs := cs) h
  obtain ⟨o, e, rfl⟩ := forD_J (tg := .nm 5) (g := []) (ws := [5]) (n := cs.length + 1) (body := (sIf (bAnd (bV (d2 oEq (d2 oIx (dV 2) (dV 5)) (dV 3))) (bOr (bV (d2 oEq (dCall oLen (aCons (dV 4) aNil)) (dK (.int 0)))) (bV (dFn d_depends (aCons (d2 oIx (dV 0) (d2 oIx (dV 4) (dNeg (dK (.int 1))))) (aCons (d2 oIx (dV 0) (dV 5)) aNil)))))) (sSeq (sEx (dApp (dV 4) (dV 5))) (sAug 3 (fun i j => i - j) (d2 oIx (dV 1) (dV 5)))) sNo)) (its := rangeD 0 (st.length : Nat))
    (fun k sl c => sl = [some (.fr (.list (st.map sc))), some (.fr (.list (hs.map .int))), some (.fr (.list (((List.range st.length).map (mostv st hs)).map .int))), some (.fr (.int (hc st hs k).2)), some (.ce cs.length), none] ∧ c = cs ++ [some (.lst ((hc st hs k).1.map nI))])
    (fun o => o = .nxt [some (.fr (.list (st.map sc))), some (.fr (.list (hs.map .int))), some (.fr (.list (((List.range st.length).map (mostv st hs)).map .int))), some (.fr (.int (hc st hs st.length).2)), some (.ce cs.length), none] (cs ++ [some (.lst ((hc st hs st.length).1.map nI))]))
    (fun _ _ _ _ => rfl) (fun k d sl c hd ⟨a, b⟩ => by
      subst a b
      obtain ⟨rfl, hk⟩ := range_get hd
      have e0 : (0 : Int) + (k : Nat) = (k : Nat) := by omega
      rw [e0]
      exact ⟨_, turn_hc h (by omega), rfl, rfl⟩)
    (fun sl c ⟨a, b⟩ => by rw [a, b, rangeD_nat, List.length_map, List.length_range]) [some (.fr (.list (st.map sc))), some (.fr (.list (hs.map .int))), some (.fr (.list (((List.range st.length).map (mostv st hs)).map .int))), some (.fr (.int (top0 ((List.range st.length).map (mostv st hs))))), some (.ce cs.length), none] (cs ++ [some (.lst [])]) ⟨rfl, rfl⟩
  refine fn_go (v := .fr (.list ((hc st hs st.length).1.map nI))) (c1 := cs ++ [none]) rfl ?_ (by simp)
  refine (sSeq_n (sSet_v (dFn_v (aCons_v (dV_v rfl) (aCons_v (dV_v rfl) aNil_v)) v1))).trans ((sSeq_n (sSet_v (dft_v (dV_v rfl) dK_v))).trans ((sSeq_n (sSet_v (dCe_v (ds := []) (c1 := cs) (by simp)))).trans ((sSeq_n ((sFor_i (iRg1_v (len_v (dV_v rfl)) (by omega) (by rw [List.length_map]; omega))).trans (by rw [List.length_append, List.length_map]; exact e))).trans (sRet_v ?_))))
  simp
theorem shortest_ok {st : List DX.Step} {hs : List Int} {cs : Cs} (h : Small st hs) : d_shortest [.fr (.list (st.map sc)), .fr (.list (hs.map .int))] cs = some (.ret (.fr (.tuple [.int (least st hs), .list ((plan st hs st.length).map .int), .list ((hc st hs st.length).1.map nI)])) cs) := by
  have h1 := h.1
  have v1 := earliest_ok (cs := cs) h
  have v2 := length_ok (hs := hs) (pl := plan st hs st.length) (cs := cs) (by rw [plan_len]; omega)
  have v3 := chain_ok (cs := cs) h
  refine fn_go (v := .fr (.tuple [.int (least st hs), .list ((plan st hs st.length).map .int), .list ((hc st hs st.length).1.map nI)])) (c1 := cs) rfl ?_ (by simp)
  refine (sSeq_n (sSet_v (dFn_v (aCons_v (dV_v rfl) (aCons_v (dV_v rfl) aNil_v)) v1))).trans (sRet_v ?_)
  exact dTup_v (aCons_v (dFn_v (aCons_v (dV_v rfl) (aCons_v (dV_v rfl) aNil_v)) v2) (aCons_v (dV_v rfl) (aCons_v (dFn_v (aCons_v (dV_v rfl) (aCons_v (dV_v rfl) aNil_v)) v3) aNil_v))) rfl (by simp)

end DX
set_option maxHeartbeats 4000000
namespace Dk61
open PySem L2 PySem.Spec PyProof.Rows DX
def top (i : Nat) : Stmt := PySem.Challenge.pw_daybooktold_k61_whole_latest_plans_and_s.main.body.getD i (.Pass ⟨0, 0, 0, 0⟩)

structure Bi (mg : Str → Option Value) : Prop where
  abs_ : mg "abs" = none
  any_ : mg "any" = none
  bool_ : mg "bool" = none
  enumerate_ : mg "enumerate" = none
  int_ : mg "int" = none
  isinstance_ : mg "isinstance" = none
  len_ : mg "len" = none
  list_ : mg "list" = none
  max_ : mg "max" = none
  min_ : mg "min" = none
  range_ : mg "range" = none
  reversed_ : mg "reversed" = none
  sorted_ : mg "sorted" = none
  tuple_ : mg "tuple" = none
  zip_ : mg "zip" = none
section
variable {P : Program} {w : World} {K : PySem.W.Frag} {mg : Str → Option Value} {base : Heap} {f : Addr} {fd : FuncData}
/-! depends -/
abbrev s_depends : Stmt := top 5
theorem dependsS : FnScope ["step", "other", "thing"] ["step", "other"] (defScope s_depends) := ⟨rfl, rfl, rfl, by decide +kernel, rfl, by decide +kernel, by decide +kernel⟩
def b_depends : SF := (sSeq (sIf (bV (d2 oEq (d2 oIx (dV 0) (dK (.int 0))) (d2 oIx (dV 1) (dK (.int 0))))) (sRet (dK (.bool true))) sNo) (sRet (dCall oAny (aCons (dFz (dLc (iSeq (d2 oIx (dV 0) (dK (.int 2)))) (.nm 2) [2] bYes (d2 oIn (dV 2) (d2 oIx (dV 1) (dK (.int 2)))))) aNil))))
def d_depends : FF := fnD 2 1 b_depends
theorem x_depends (F : Fun K "depends" "depends" s_depends f fd) (hm : mg "depends" = some (.ref f)) (T : Bi mg) : Df P w K mg base "depends" 1 ["step", "other"] d_depends := by
  refine ⟨f, fd, hm, F.kp, F.binds (ps := ["step", "other"]) fun _ _ _ _ _ _ us hl => match us, hl with | [_, _], _ => rfl, fnN F dependsS rfl (fun cdv A outer s H E hr => ?_)⟩
  exact (pxs_cons (pxs_if (pt_c (c_eq hr) (px_i (px_v 0) px_int) (px_i (px_v 1) px_int)) (pxs_one (pxs_ret px_bl)) pxs_nil) (pxs_one (pxs_ret (px_cb (cr_any rfl) any_g T.any_ bt_any (pxa_cons (px_fz (pl_lc (own := [(("thing" : Str), 2)]) rfl dependsS.nd (pix_seq (px_i (px_v 0) px_int)) (blkOk_by rfl) (fun _ _ _ _ _ => by exact (pgx_nm (i := 2) dependsS.nd)) (fun _ _ _ _ _ => by exact pts_no) (fun _ _ _ _ _ => by exact (px_c (c_in hr) (px_v 2) (px_i (px_v 1) px_int))) (by decide))) pxa_nil)))))
/-! length_of -/
abbrev s_length_of : Stmt := top 7
theorem length_ofS : FnScope ["hours", "plan", "begin", "many"] ["hours", "plan"] (defScope s_length_of) := ⟨rfl, rfl, rfl, by decide +kernel, rfl, by decide +kernel, by decide +kernel⟩
def b_length_of : SF := (sRet (dDft maxI (dFz (dLc (iZi (dV 1) (dV 0)) (.tp (.cons (.nm 2) (.cons (.nm 3) Tgs.nil))) [2, 3] bYes (d2 oAdd (dV 2) (dV 3)))) (dK (.int 0))))
def d_length_of : FF := fnD 2 2 b_length_of
theorem x_length_of (F : Fun K "length_of" "length_of" s_length_of f fd) (hm : mg "length_of" = some (.ref f)) (T : Bi mg) : Df P w K mg base "length_of" 1 ["hours", "plan"] d_length_of := by
  refine ⟨f, fd, hm, F.kp, F.binds (ps := ["hours", "plan"]) fun _ _ _ _ _ _ us hl => match us, hl with | [_, _], _ => rfl, fnN F length_ofS rfl (fun cdv A outer s H E hr => ?_)⟩
  exact (pxs_one (pxs_ret (px_dft (call_maxD hr) T.max_ bt_max (px_fz (pl_lc (own := [(("begin" : Str), 2), (("many" : Str), 3)]) rfl length_ofS.nd (pix_zip T.zip_ (px_v 1) (px_v 0)) (blkOk_by rfl) (fun _ _ _ _ _ => by exact (pgx_tup rfl (pgx_cons (pgx_nm (i := 2) length_ofS.nd) (pgx_cons (pgx_nm (i := 3) length_ofS.nd) pgx_nil)))) (fun _ _ _ _ _ => by exact pts_no) (fun _ _ _ _ _ => by exact (px_add (px_v 2) (px_v 3))) (by decide))) px_int)))
/-! _law_draw -/
abbrev s_Ldraw : Stmt := top 16
theorem LdrawS : FnScope ["feed", "many", "cell", "told", "mixed"] ["feed", "many"] (defScope s_Ldraw) := ⟨rfl, rfl, rfl, by decide +kernel, rfl, by decide +kernel, by decide +kernel⟩
def b_Ldraw : SF := (sSeq (sIf (bAnd (bV (d2 oEq (d2 oIx (dV 0) (dK (.int 2))) (dK (.int 0)))) (bV (d2 oLt (d2 oIx (dV 0) (dK (.int 1))) (dCall oLen (aCons (d2 oIx (dV 0) (dK (.int 0))) aNil))))) (sSeq (sSet 2 (dCall oAbs (aCons (dCall oInt (aCons (d2 oIx (d2 oIx (dV 0) (dK (.int 0))) (d2 oIx (dV 0) (dK (.int 1)))) aNil)) aNil))) (sSeq (sSubAug (fun i j => i + j) (dV 0) (dK (.int 1)) (dK (.int 1))) (sIf (bV (d2 oGe (dV 2) (d2 oPow (dK (.int 10)) (dK (.int 18))))) (sSub (dV 2) (dV 0) (dK (.int 2))) (sSub (d2 oMod (dCall oInt (aCons (d2 oAdd (d2 oAdd (d2 oMul (d2 oIx (dV 0) (dK (.int 3))) (dK (.int 48271))) (d2 oMul (dV 2) (dK (.int 69621)))) (d2 oIx (dV 0) (dK (.int 1)))) aNil)) (dK (.int 2147483647))) (dV 0) (dK (.int 3)))))) sNo) (sSeq (sIf (bV (d2 oGt (d2 oIx (dV 0) (dK (.int 2))) (dK (.int 0)))) (sSeq (sSet 3 (d2 oMod (dCall oInt (aCons (d2 oIx (dV 0) (dK (.int 2))) aNil)) (dV 1))) (sSeq (sSub (d2 oDiv (d2 oIx (dV 0) (dK (.int 2))) (dV 1)) (dV 0) (dK (.int 2))) (sRet (dV 3)))) sNo) (sSeq (sSub (d2 oMod (dCall oInt (aCons (d2 oAdd (d2 oMul (d2 oIx (dV 0) (dK (.int 3))) (dK (.int 16807))) (dK (.int 12345))) aNil)) (dK (.int 2147483647))) (dV 0) (dK (.int 3))) (sSeq (sSet 4 (d2 oMod (dCall oInt (aCons (d2 oAdd (d2 oMul (d2 oIx (dV 0) (dK (.int 3))) (d2 oIx (dV 0) (dK (.int 3)))) (d2 oIx (dV 0) (dK (.int 3)))) aNil)) (dK (.int 2147483629)))) (sRet (d2 oMod (d2 oDiv (dV 4) (dK (.int 11))) (dV 1)))))))
def d_Ldraw : FF := fnD 2 3 b_Ldraw
theorem x_Ldraw (F : Fun K "_law_draw" "_law_draw" s_Ldraw f fd) (hm : mg "_law_draw" = some (.ref f)) (T : Bi mg) : Df P w K mg base "_law_draw" 1 ["feed", "many"] d_Ldraw := by
  refine ⟨f, fd, hm, F.kp, F.binds (ps := ["feed", "many"]) fun _ _ _ _ _ _ us hl => match us, hl with | [_, _], _ => rfl, fnN F LdrawS rfl (fun cdv A outer s H E hr => ?_)⟩
  exact (pxs_cons (pxs_if (PW.pt (pw_a (pt_c (c_eq hr) (px_i (px_v 0) px_int) px_int) (pw_a1 (pt_c c_lt (px_i (px_v 0) px_int) (px_cb call_len len_g T.len_ bt_len (pxa_cons (px_i (px_v 0) px_int) pxa_nil)))))) (pxs_cons (pxs_set (i := 2) LdrawS.nd (px_cb call_abs abs_g T.abs_ bt_abs (pxa_cons (px_ct call_int1 int_g T.int_ bt_int (pxa_cons (px_i (px_i (px_v 0) px_int) (px_i (px_v 0) px_int)) pxa_nil)) pxa_nil))) (pxs_cons (pxs_subAug ip_add (px_v 0) px_int px_int) (pxs_one (pxs_if (pt_c c_ge (px_v 2) (px_pow px_int px_int)) (pxs_one (pxs_sub (px_v 2) (px_v 0) px_int)) (pxs_one (pxs_sub (px_mod (px_ct call_int1 int_g T.int_ bt_int (pxa_cons (px_add (px_add (px_mul (px_i (px_v 0) px_int) px_int) (px_mul (px_v 2) px_int)) (px_i (px_v 0) px_int)) pxa_nil)) px_int) (px_v 0) px_int)))))) pxs_nil) (pxs_cons (pxs_if (pt_c c_gt (px_i (px_v 0) px_int) px_int) (pxs_cons (pxs_set (i := 3) LdrawS.nd (px_mod (px_ct call_int1 int_g T.int_ bt_int (pxa_cons (px_i (px_v 0) px_int) pxa_nil)) (px_v 1))) (pxs_cons (pxs_sub (px_div (px_i (px_v 0) px_int) (px_v 1)) (px_v 0) px_int) (pxs_one (pxs_ret (px_v 3))))) pxs_nil) (pxs_cons (pxs_sub (px_mod (px_ct call_int1 int_g T.int_ bt_int (pxa_cons (px_add (px_mul (px_i (px_v 0) px_int) px_int) px_int) pxa_nil)) px_int) (px_v 0) px_int) (pxs_cons (pxs_set (i := 4) LdrawS.nd (px_mod (px_ct call_int1 int_g T.int_ bt_int (pxa_cons (px_add (px_mul (px_i (px_v 0) px_int) (px_i (px_v 0) px_int)) (px_i (px_v 0) px_int)) pxa_nil)) px_int)) (pxs_one (pxs_ret (px_mod (px_div (px_v 4) px_int) (px_v 1))))))))
/-! _law_is_whole -/
abbrev s_Lis_whole : Stmt := top 17
theorem Lis_wholeS : FnScope ["x"] ["x"] (defScope s_Lis_whole) := ⟨rfl, rfl, rfl, by decide +kernel, rfl, by decide +kernel, by decide +kernel⟩
def b_Lis_whole : SF := (sRet (dAnd (isiD "int" (dV 0)) (dNot (isiD "bool" (dV 0)))))
def d_Lis_whole : FF := fnD 1 0 b_Lis_whole
theorem x_Lis_whole (F : Fun K "_law_is_whole" "_law_is_whole" s_Lis_whole f fd) (hm : mg "_law_is_whole" = some (.ref f)) (T : Bi mg) : Df P w K mg base "_law_is_whole" 1 ["x"] d_Lis_whole := by
  refine ⟨f, fd, hm, F.kp, F.binds (ps := ["x"]) fun _ _ _ _ _ _ us hl => match us, hl with | [_], _ => rfl, fnN F Lis_wholeS rfl (fun cdv A outer s H E hr => ?_)⟩
  exact (pxs_one (pxs_ret (px_and (px_isi T.isinstance_ T.int_ bt_int (px_v 0)) (px_one (px_not (px_isi T.isinstance_ T.bool_ bt_bool (px_v 0)))))))
theorem h_Lis_whole (F : Fun K "_law_is_whole" "_law_is_whole" s_Lis_whole f fd) (hm : mg "_law_is_whole" = some (.ref f)) (T : Bi mg) : Dh P w K mg base "_law_is_whole" 1 ["x"] d_Lis_whole := by
  refine ⟨f, fd, hm, F.kp, F.binds (ps := ["x"]) fun _ _ _ _ _ _ us hl => match us, hl with | [_], _ => rfl, fnHot F Lis_wholeS rfl (fun cdv A outer s H E p hr => ?_)⟩
  exact (pxs_one (pxs_ret (px_and (px_isi T.isinstance_ T.int_ bt_int (px_v 0)) (px_one (px_not (px_isi T.isinstance_ T.bool_ bt_bool (px_v 0)))))))
/-! _law_dep -/
abbrev s_Ldep : Stmt := top 21
theorem LdepS : FnScope ["one", "other", "thing"] ["one", "other"] (defScope s_Ldep) := ⟨rfl, rfl, rfl, by decide +kernel, rfl, by decide +kernel, by decide +kernel⟩
def b_Ldep : SF := (sSeq (sIf (bV (d2 oEq (d2 oIx (dV 0) (dK (.int 0))) (d2 oIx (dV 1) (dK (.int 0))))) (sRet (dK (.bool true))) sNo) (sRet (d2 oGt (dCall oLen (aCons (dFz (dLc (iSeq (d2 oIx (dV 0) (dK (.int 2)))) (.nm 2) [2] (bV (d2 oIn (dV 2) (d2 oIx (dV 1) (dK (.int 2))))) (dV 2))) aNil)) (dK (.int 0)))))
def d_Ldep : FF := fnD 2 1 b_Ldep
theorem x_Ldep (F : Fun K "_law_dep" "_law_dep" s_Ldep f fd) (hm : mg "_law_dep" = some (.ref f)) (T : Bi mg) : Df P w K mg base "_law_dep" 1 ["one", "other"] d_Ldep := by
  refine ⟨f, fd, hm, F.kp, F.binds (ps := ["one", "other"]) fun _ _ _ _ _ _ us hl => match us, hl with | [_, _], _ => rfl, fnN F LdepS rfl (fun cdv A outer s H E hr => ?_)⟩
  exact (pxs_cons (pxs_if (pt_c (c_eq hr) (px_i (px_v 0) px_int) (px_i (px_v 1) px_int)) (pxs_one (pxs_ret px_bl)) pxs_nil) (pxs_one (pxs_ret (px_c c_gt (px_cb call_len len_g T.len_ bt_len (pxa_cons (px_fz (pl_lc (own := [(("thing" : Str), 2)]) rfl LdepS.nd (pix_seq (px_i (px_v 0) px_int)) (blkOk_by rfl) (fun _ _ _ _ _ => by exact (pgx_nm (i := 2) LdepS.nd)) (fun _ _ _ _ _ => by exact (pts_one (pt_c (c_in hr) (px_v 2) (px_i (px_v 1) px_int)))) (fun _ _ _ _ _ => by exact (px_v 2)) (by decide))) pxa_nil)) px_int))))
/-! _law_length -/
abbrev s_Llength : Stmt := top 25
theorem LlengthS : FnScope ["hours", "plan", "k"] ["hours", "plan"] (defScope s_Llength) := ⟨rfl, rfl, rfl, by decide +kernel, rfl, by decide +kernel, by decide +kernel⟩
def b_Llength : SF := (sRet (dCall oMax (aCons (d2 oAdd (dFz (dLst (aCons (dK (.int 0)) aNil))) (dFz (dLc (iRg1 (dCall oLen (aCons (dV 1) aNil))) (.nm 2) [2] bYes (d2 oAdd (d2 oIx (dV 1) (dV 2)) (d2 oIx (dV 0) (dV 2)))))) aNil)))
def d_Llength : FF := fnD 2 1 b_Llength
theorem x_Llength (F : Fun K "_law_length" "_law_length" s_Llength f fd) (hm : mg "_law_length" = some (.ref f)) (T : Bi mg) : Df P w K mg base "_law_length" 1 ["hours", "plan"] d_Llength := by
  refine ⟨f, fd, hm, F.kp, F.binds (ps := ["hours", "plan"]) fun _ _ _ _ _ _ us hl => match us, hl with | [_, _], _ => rfl, fnN F LlengthS rfl (fun cdv A outer s H E hr => ?_)⟩
  exact (pxs_one (pxs_ret (px_cb (cr_max rfl) max_g T.max_ bt_max (pxa_cons (px_add (px_fz (pl_lst (pxa_cons px_int pxa_nil))) (px_fz (pl_lc (own := [(("k" : Str), 2)]) rfl LlengthS.nd (pix_rg1 T.range_ (px_cb call_len len_g T.len_ bt_len (pxa_cons (px_v 1) pxa_nil))) (blkOk_by rfl) (fun _ _ _ _ _ => by exact (pgx_nm (i := 2) LlengthS.nd)) (fun _ _ _ _ _ => by exact pts_no) (fun _ _ _ _ _ => by exact (px_add (px_i (px_v 1) (px_v 2)) (px_i (px_v 0) (px_v 2)))) (by decide)))) pxa_nil))))
/-! _law_turned -/
abbrev s_Lturned : Stmt := top 29
theorem LturnedS : FnScope ["row", "k"] ["row", "k"] (defScope s_Lturned) := ⟨rfl, rfl, rfl, by decide +kernel, rfl, by decide +kernel, by decide +kernel⟩
def b_Lturned : SF := (sRet (d2 oAdd (d2 oAdd (dSl (dV 0) pNo (pYes (dV 1))) (dFz (dLst (aCons (d2 oIx (dV 0) (d2 oAdd (dV 1) (dK (.int 1)))) (aCons (d2 oIx (dV 0) (dV 1)) aNil))))) (dSl (dV 0) (pYes (d2 oAdd (dV 1) (dK (.int 2)))) pNo)))
def d_Lturned : FF := fnD 2 0 b_Lturned
theorem x_Lturned (F : Fun K "_law_turned" "_law_turned" s_Lturned f fd) (hm : mg "_law_turned" = some (.ref f)) (T : Bi mg) : Df P w K mg base "_law_turned" 1 ["row", "k"] d_Lturned := by
  refine ⟨f, fd, hm, F.kp, F.binds (ps := ["row", "k"]) fun _ _ _ _ _ _ us hl => match us, hl with | [_, _], _ => rfl, fnN F LturnedS rfl (fun cdv A outer s H E hr => ?_)⟩
  exact (pxs_one (pxs_ret (px_add (px_add (px_sl (px_v 0) po_no (po_yes (px_v 1))) (px_fz (pl_lst (pxa_cons (px_i (px_v 0) (px_add (px_v 1) px_int)) (pxa_cons (px_i (px_v 0) (px_v 1)) pxa_nil))))) (px_sl (px_v 0) (po_yes (px_add (px_v 1) px_int)) po_no))))
/-! earliest -/
abbrev s_earliest : Stmt := top 8
theorem earliestS : FnScope ["steps", "hours", "plan", "j", "step", "ends", "i"] ["steps", "hours"] (defScope s_earliest) := ⟨rfl, rfl, rfl, by decide +kernel, rfl, by decide +kernel, by decide +kernel⟩
def b_earliest : SF := (sSeq (sSet 2 (dCe (dLst aNil))) (sSeq (sFor (iEn (dV 0)) (.tp (.cons (.nm 3) (.cons (.nm 4) Tgs.nil))) [5, 3, 4] (sSeq (sSet 5 (dFz (dLc (iRg1 (dV 3)) (.nm 6) [6] (bV (dFn d_depends (aCons (d2 oIx (dV 0) (dV 6)) (aCons (dV 4) aNil)))) (d2 oAdd (d2 oIx (dV 2) (dV 6)) (d2 oIx (dV 1) (dV 6)))))) (sEx (dApp (dV 2) (dDft maxI (dV 5) (dK (.int 0))))))) (sRet (dFr (dV 2)))))
def d_earliest : FF := fnD 2 5 b_earliest
theorem x_earliest (F : Fun K "earliest" "earliest" s_earliest f fd) (hm : mg "earliest" = some (.ref f)) (T : Bi mg) (D_depends : Df P w K mg base "depends" 1 ["step", "other"] d_depends) : Df P w K mg base "earliest" 2 ["steps", "hours"] d_earliest := by
  obtain ⟨f_depends, fd_depends, m_depends, k_depends, b_depends, F_depends⟩ := D_depends
  refine ⟨f, fd, hm, F.kp, F.binds (ps := ["steps", "hours"]) fun _ _ _ _ _ _ us hl => match us, hl with | [_, _], _ => rfl, fnN F earliestS rfl (fun cdv A outer s H E hr => ?_)⟩
  exact (pxs_cons (pxs_set (i := 2) earliestS.nd (px_ce (pl_lst pxa_nil))) (pxs_cons (pxs_for (t := (.tp (.cons (.nm 3) (.cons (.nm 4) Tgs.nil)))) PassesOwn.never rfl (pix_enum T.enumerate_ (px_v 0)) (pgx_tup rfl (pgx_cons (pgx_nm (i := 3) earliestS.nd) (pgx_cons (pgx_nm (i := 4) earliestS.nd) pgx_nil))) (pxs_cons (pxs_setLc (j := 5) (h := dFz) (own := [(("i" : Str), 6)]) (fun l => fz_d) rfl earliestS.nd rfl rfl (sw_true rfl rfl rfl (by decide +kernel)) (pix_rg1 T.range_ (px_v 3)) (blkOk_by rfl) (fun _ _ _ _ _ => by exact (pgx_nm (i := 6) earliestS.nd)) (fun _ _ _ _ _ => by exact (pts_one (pt_b (px_call F_depends (hr.mono (by decide)) m_depends k_depends b_depends (pxa_cons (px_i (px_v 0) (px_v 6)) (pxa_cons (px_v 4) pxa_nil)))))) (fun _ _ _ _ _ => by exact (px_add (px_i (px_v 2) (px_v 6)) (px_i (px_v 1) (px_v 6)))) (by decide)) (pxs_one (pxs_ex (px_app (px_v 2) (px_dft (call_maxD hr) T.max_ bt_max (px_v 5) px_int))))) [5, 3, 4]) (pxs_one (pxs_ret (px_fr (px_v 2))))))
/-! hours_from -/
abbrev s_hours_from : Stmt := top 9
theorem hours_fromS : FnScope ["steps", "hours", "most", "k", "onward", "j"] ["steps", "hours"] (defScope s_hours_from) := ⟨rfl, rfl, rfl, by decide +kernel, rfl, by decide +kernel, by decide +kernel⟩
def b_hours_from : SF := (sSeq (sSet 2 (dCe (d2L oRep (dFz (dLst (aCons (dK (.int 0)) aNil))) (dCall oLen (aCons (dV 0) aNil))))) (sSeq (sFor (iRev1 (dCall oLen (aCons (dV 0) aNil))) (.nm 3) [4, 3] (sSeq (sSet 4 (dFz (dLc (iRg2 (d2 oAdd (dV 3) (dK (.int 1))) (dCall oLen (aCons (dV 0) aNil))) (.nm 5) [5] (bV (dFn d_depends (aCons (d2 oIx (dV 0) (dV 3)) (aCons (d2 oIx (dV 0) (dV 5)) aNil)))) (d2 oIx (dV 2) (dV 5))))) (sSub (d2 oAdd (d2 oIx (dV 1) (dV 3)) (dDft maxI (dV 4) (dK (.int 0)))) (dV 2) (dV 3)))) (sRet (dFr (dV 2)))))
def d_hours_from : FF := fnD 2 4 b_hours_from
theorem x_hours_from (F : Fun K "hours_from" "hours_from" s_hours_from f fd) (hm : mg "hours_from" = some (.ref f)) (T : Bi mg) (D_depends : Df P w K mg base "depends" 1 ["step", "other"] d_depends) : Df P w K mg base "hours_from" 2 ["steps", "hours"] d_hours_from := by
  obtain ⟨f_depends, fd_depends, m_depends, k_depends, b_depends, F_depends⟩ := D_depends
  refine ⟨f, fd, hm, F.kp, F.binds (ps := ["steps", "hours"]) fun _ _ _ _ _ _ us hl => match us, hl with | [_, _], _ => rfl, fnN F hours_fromS rfl (fun cdv A outer s H E hr => ?_)⟩
  exact (pxs_cons (pxs_set (i := 2) hours_fromS.nd (px_ce (pl_mul (px_fz (pl_lst (pxa_cons px_int pxa_nil))) (px_cb call_len len_g T.len_ bt_len (pxa_cons (px_v 0) pxa_nil))))) (pxs_cons (pxs_for (t := (.nm 3)) PassesOwn.never rfl (pix_rev1 T.reversed_ T.range_ (px_cb call_len len_g T.len_ bt_len (pxa_cons (px_v 0) pxa_nil))) (pgx_nm (i := 3) hours_fromS.nd) (pxs_cons (pxs_setLc (j := 4) (h := dFz) (own := [(("j" : Str), 5)]) (fun l => fz_d) rfl hours_fromS.nd rfl rfl (sw_true rfl rfl rfl (by decide +kernel)) (pix_rg2 T.range_ (px_add (px_v 3) px_int) (px_cb call_len len_g T.len_ bt_len (pxa_cons (px_v 0) pxa_nil))) (blkOk_by rfl) (fun _ _ _ _ _ => by exact (pgx_nm (i := 5) hours_fromS.nd)) (fun _ _ _ _ _ => by exact (pts_one (pt_b (px_call F_depends (hr.mono (by decide)) m_depends k_depends b_depends (pxa_cons (px_i (px_v 0) (px_v 3)) (pxa_cons (px_i (px_v 0) (px_v 5)) pxa_nil)))))) (fun _ _ _ _ _ => by exact (px_i (px_v 2) (px_v 5))) (by decide)) (pxs_one (pxs_sub (px_add (px_i (px_v 1) (px_v 3)) (px_dft (call_maxD hr) T.max_ bt_max (px_v 4) px_int)) (px_v 2) (px_v 3)))) [4, 3]) (pxs_one (pxs_ret (px_fr (px_v 2))))))
/-! _law_are_wholes -/
abbrev s_Lare_wholes : Stmt := top 18
theorem Lare_wholesS : FnScope ["row", "many", "x"] ["row", "many"] (defScope s_Lare_wholes) := ⟨rfl, rfl, rfl, by decide +kernel, rfl, by decide +kernel, by decide +kernel⟩
def b_Lare_wholes : SF := (sSeq (sIf (bOr (bNot (bV (isiD "list" (dV 0)))) (bV (d2 oNe (dCall oLen (aCons (dV 0) aNil)) (dV 1)))) (sRet (dK (.bool false))) sNo) (sRet (d2 oEq (dCall oLen (aCons (dFz (dLc (iSeq (dV 0)) (.nm 2) [2] (bNot (bV (dFn d_Lis_whole (aCons (dV 2) aNil)))) (dV 2))) aNil)) (dK (.int 0)))))
def d_Lare_wholes : FF := fnD 2 1 b_Lare_wholes
theorem x_Lare_wholes (F : Fun K "_law_are_wholes" "_law_are_wholes" s_Lare_wholes f fd) (hm : mg "_law_are_wholes" = some (.ref f)) (T : Bi mg) (D_Lis_whole : Df P w K mg base "_law_is_whole" 1 ["x"] d_Lis_whole) : Df P w K mg base "_law_are_wholes" 2 ["row", "many"] d_Lare_wholes := by
  obtain ⟨f_Lis_whole, fd_Lis_whole, m_Lis_whole, k_Lis_whole, b_Lis_whole, F_Lis_whole⟩ := D_Lis_whole
  refine ⟨f, fd, hm, F.kp, F.binds (ps := ["row", "many"]) fun _ _ _ _ _ _ us hl => match us, hl with | [_, _], _ => rfl, fnN F Lare_wholesS rfl (fun cdv A outer s H E hr => ?_)⟩
  exact (pxs_cons (pxs_if (PW.pt (pw_o (pt_n (pt_b (px_isi T.isinstance_ T.list_ bt_list (px_v 0)))) (pw_o1 (pt_c (c_ne hr) (px_cb call_len len_g T.len_ bt_len (pxa_cons (px_v 0) pxa_nil)) (px_v 1))))) (pxs_one (pxs_ret px_bl)) pxs_nil) (pxs_one (pxs_ret (px_c (c_eq hr) (px_cb call_len len_g T.len_ bt_len (pxa_cons (px_fz (pl_lc (own := [(("x" : Str), 2)]) rfl Lare_wholesS.nd (pix_seq (px_v 0)) (blkOk_by rfl) (fun _ _ _ _ _ => by exact (pgx_nm (i := 2) Lare_wholesS.nd)) (fun _ _ _ _ _ => by exact (pts_one (pt_n (pt_b (px_call F_Lis_whole (hr.mono (by decide)) m_Lis_whole k_Lis_whole b_Lis_whole (pxa_cons (px_v 2) pxa_nil)))))) (fun _ _ _ _ _ => by exact (px_v 2)) (by decide))) pxa_nil)) px_int))))
/-! _law_step -/
abbrev s_Lstep : Stmt := top 19
theorem LstepS : FnScope ["feed", "hands", "things", "acts", "thick", "own", "thing"] ["feed", "hands", "things", "acts", "thick"] (defScope s_Lstep) := ⟨rfl, rfl, rfl, by decide +kernel, rfl, by decide +kernel, by decide +kernel⟩
def b_Lstep : SF := (sSeq (sSet 5 (dFz (dLc (iSeq (dV 2)) (.nm 6) [6] (bV (d2 oEq (dFn d_Ldraw (aCons (dV 0) (aCons (dV 4) aNil))) (dK (.int 0)))) (dV 6)))) (sRet (dTup (aCons (d2 oIx (dV 1) (dFn d_Ldraw (aCons (dV 0) (aCons (dCall oLen (aCons (dV 1) aNil)) aNil)))) (aCons (d2 oIx (dV 3) (dFn d_Ldraw (aCons (dV 0) (aCons (dCall oLen (aCons (dV 3) aNil)) aNil)))) (aCons (dCall oTuple (aCons (dSl (dV 5) pNo (pYes (dK (.int 4)))) aNil)) aNil))))))
def d_Lstep : FF := fnD 5 2 b_Lstep
theorem x_Lstep (F : Fun K "_law_step" "_law_step" s_Lstep f fd) (hm : mg "_law_step" = some (.ref f)) (T : Bi mg) (D_Ldraw : Df P w K mg base "_law_draw" 1 ["feed", "many"] d_Ldraw) : Df P w K mg base "_law_step" 2 ["feed", "hands", "things", "acts", "thick"] d_Lstep := by
  obtain ⟨f_Ldraw, fd_Ldraw, m_Ldraw, k_Ldraw, b_Ldraw, F_Ldraw⟩ := D_Ldraw
  refine ⟨f, fd, hm, F.kp, F.binds (ps := ["feed", "hands", "things", "acts", "thick"]) fun _ _ _ _ _ _ us hl => match us, hl with | [_, _, _, _, _], _ => rfl, fnN F LstepS rfl (fun cdv A outer s H E hr => ?_)⟩
  exact (pxs_cons (pxs_setLc (j := 5) (h := dFz) (own := [(("thing" : Str), 6)]) (fun l => fz_d) rfl LstepS.nd rfl rfl (sw_true rfl rfl rfl (by decide +kernel)) (pix_seq (px_v 2)) (blkOk_by rfl) (fun _ _ _ _ _ => by exact (pgx_nm (i := 6) LstepS.nd)) (fun _ _ _ _ _ => by exact (pts_one (pt_c (c_eq hr) (px_call F_Ldraw (hr.mono (by decide)) m_Ldraw k_Ldraw b_Ldraw (pxa_cons (px_v 0) (pxa_cons (px_v 4) pxa_nil))) px_int))) (fun _ _ _ _ _ => by exact (px_v 6)) (by decide)) (pxs_one (pxs_ret (px_tup (pxa_cons (px_i (px_v 1) (px_call F_Ldraw (hr.mono (by decide)) m_Ldraw k_Ldraw b_Ldraw (pxa_cons (px_v 0) (pxa_cons (px_cb call_len len_g T.len_ bt_len (pxa_cons (px_v 1) pxa_nil)) pxa_nil)))) (pxa_cons (px_i (px_v 3) (px_call F_Ldraw (hr.mono (by decide)) m_Ldraw k_Ldraw b_Ldraw (pxa_cons (px_v 0) (pxa_cons (px_cb call_len len_g T.len_ bt_len (pxa_cons (px_v 3) pxa_nil)) pxa_nil)))) (pxa_cons (px_ct call_tuple_of tuple_g T.tuple_ bt_tuple (pxa_cons (px_sl (px_v 5) po_no (po_yes px_int)) pxa_nil)) pxa_nil)))))))
/-! _law_hours -/
abbrev s_Lhours : Stmt := top 22
theorem LhoursS : FnScope ["feed", "many", "most", "least", "k"] ["feed", "many"] (defScope s_Lhours) := ⟨rfl, rfl, rfl, by decide +kernel, rfl, by decide +kernel, by decide +kernel⟩
def b_Lhours : SF := (sSeq (sSet 2 (d2 oIx (dFz (dLst (aCons (dK (.int 1)) (aCons (dK (.int 3)) (aCons (dK (.int 9)) (aCons (dK (.int 99)) aNil)))))) (dFn d_Ldraw (aCons (dV 0) (aCons (dK (.int 4)) aNil))))) (sSeq (sSet 3 (dK (.int 1))) (sSeq (sIf (bV (d2 oEq (dFn d_Ldraw (aCons (dV 0) (aCons (dK (.int 6)) aNil))) (dK (.int 0)))) (sSet 3 (dV 2)) sNo) (sRet (dFz (dLc (iRg1 (dV 1)) (.nm 4) [4] bYes (d2 oAdd (dV 3) (dFn d_Ldraw (aCons (dV 0) (aCons (d2 oAdd (d2 oSub (dV 2) (dV 3)) (dK (.int 1))) aNil))))))))))
def d_Lhours : FF := fnD 2 3 b_Lhours
theorem x_Lhours (F : Fun K "_law_hours" "_law_hours" s_Lhours f fd) (hm : mg "_law_hours" = some (.ref f)) (T : Bi mg) (D_Ldraw : Df P w K mg base "_law_draw" 1 ["feed", "many"] d_Ldraw) : Df P w K mg base "_law_hours" 2 ["feed", "many"] d_Lhours := by
  obtain ⟨f_Ldraw, fd_Ldraw, m_Ldraw, k_Ldraw, b_Ldraw, F_Ldraw⟩ := D_Ldraw
  refine ⟨f, fd, hm, F.kp, F.binds (ps := ["feed", "many"]) fun _ _ _ _ _ _ us hl => match us, hl with | [_, _], _ => rfl, fnN F LhoursS rfl (fun cdv A outer s H E hr => ?_)⟩
  exact (pxs_cons (pxs_set (i := 2) LhoursS.nd (px_i (px_fz (pl_lst (pxa_cons px_int (pxa_cons px_int (pxa_cons px_int (pxa_cons px_int pxa_nil)))))) (px_call F_Ldraw (hr.mono (by decide)) m_Ldraw k_Ldraw b_Ldraw (pxa_cons (px_v 0) (pxa_cons px_int pxa_nil))))) (pxs_cons (pxs_set (i := 3) LhoursS.nd px_int) (pxs_cons (pxs_if (pt_c (c_eq hr) (px_call F_Ldraw (hr.mono (by decide)) m_Ldraw k_Ldraw b_Ldraw (pxa_cons (px_v 0) (pxa_cons px_int pxa_nil))) px_int) (pxs_one (pxs_set (i := 3) LhoursS.nd (px_v 2))) pxs_nil) (pxs_one (pxs_ret (px_fz (pl_lc (own := [(("k" : Str), 4)]) rfl LhoursS.nd (pix_rg1 T.range_ (px_v 1)) (blkOk_by rfl) (fun _ _ _ _ _ => by exact (pgx_nm (i := 4) LhoursS.nd)) (fun _ _ _ _ _ => by exact pts_no) (fun _ _ _ _ _ => by exact (px_add (px_v 3) (px_call F_Ldraw (hr.mono (by decide)) m_Ldraw k_Ldraw b_Ldraw (pxa_cons (px_v 0) (pxa_cons (px_add (px_sub (px_v 2) (px_v 3)) px_int) pxa_nil))))) (by decide))))))))
/-! _law_early -/
abbrev s_Learly : Stmt := top 23
theorem LearlyS : FnScope ["steps", "hours", "plan", "j", "i"] ["steps", "hours"] (defScope s_Learly) := ⟨rfl, rfl, rfl, by decide +kernel, rfl, by decide +kernel, by decide +kernel⟩
def b_Learly : SF := (sSeq (sSet 2 (dCe (dLst aNil))) (sSeq (sFor (iRg1 (dCall oLen (aCons (dV 0) aNil))) (.nm 3) [3] (sEx (dApp (dV 2) (dCall oMax (aCons (d2 oAdd (dFz (dLst (aCons (dK (.int 0)) aNil))) (dFz (dLc (iRg1 (dV 3)) (.nm 4) [4] (bV (dFn d_Ldep (aCons (d2 oIx (dV 0) (dV 4)) (aCons (d2 oIx (dV 0) (dV 3)) aNil)))) (d2 oAdd (d2 oIx (dV 2) (dV 4)) (d2 oIx (dV 1) (dV 4)))))) aNil))))) (sRet (dFr (dV 2)))))
def d_Learly : FF := fnD 2 3 b_Learly
theorem x_Learly (F : Fun K "_law_early" "_law_early" s_Learly f fd) (hm : mg "_law_early" = some (.ref f)) (T : Bi mg) (D_Ldep : Df P w K mg base "_law_dep" 1 ["one", "other"] d_Ldep) : Df P w K mg base "_law_early" 2 ["steps", "hours"] d_Learly := by
  obtain ⟨f_Ldep, fd_Ldep, m_Ldep, k_Ldep, b_Ldep, F_Ldep⟩ := D_Ldep
  refine ⟨f, fd, hm, F.kp, F.binds (ps := ["steps", "hours"]) fun _ _ _ _ _ _ us hl => match us, hl with | [_, _], _ => rfl, fnN F LearlyS rfl (fun cdv A outer s H E hr => ?_)⟩
  exact (pxs_cons (pxs_set (i := 2) LearlyS.nd (px_ce (pl_lst pxa_nil))) (pxs_cons (pxs_for (t := (.nm 3)) PassesOwn.never rfl (pix_rg1 T.range_ (px_cb call_len len_g T.len_ bt_len (pxa_cons (px_v 0) pxa_nil))) (pgx_nm (i := 3) LearlyS.nd) (pxs_one (pxs_ex (px_app (px_v 2) (px_cb (cr_max rfl) max_g T.max_ bt_max (pxa_cons (px_add (px_fz (pl_lst (pxa_cons px_int pxa_nil))) (px_fz (pl_lc (own := [(("i" : Str), 4)]) rfl LearlyS.nd (pix_rg1 T.range_ (px_v 3)) (blkOk_by rfl) (fun _ _ _ _ _ => by exact (pgx_nm (i := 4) LearlyS.nd)) (fun _ _ _ _ _ => by exact (pts_one (pt_b (px_call F_Ldep (hr.mono (by decide)) m_Ldep k_Ldep b_Ldep (pxa_cons (px_i (px_v 0) (px_v 4)) (pxa_cons (px_i (px_v 0) (px_v 3)) pxa_nil)))))) (fun _ _ _ _ _ => by exact (px_add (px_i (px_v 2) (px_v 4)) (px_i (px_v 1) (px_v 4)))) (by decide)))) pxa_nil))))) [3]) (pxs_one (pxs_ret (px_fr (px_v 2))))))
/-! _law_late -/
abbrev s_Llate : Stmt := top 24
theorem LlateS : FnScope ["steps", "hours", "length", "plan", "k", "begins", "j"] ["steps", "hours", "length"] (defScope s_Llate) := ⟨rfl, rfl, rfl, by decide +kernel, rfl, by decide +kernel, by decide +kernel⟩
def b_Llate : SF := (sSeq (sSet 3 (dCe (d2L oRep (dFz (dLst (aCons (dK (.int 0)) aNil))) (dCall oLen (aCons (dV 0) aNil))))) (sSeq (sFor (iRev1 (dCall oLen (aCons (dV 0) aNil))) (.nm 4) [5, 4] (sSeq (sSet 5 (dFz (dLc (iRg2 (d2 oAdd (dV 4) (dK (.int 1))) (dCall oLen (aCons (dV 0) aNil))) (.nm 6) [6] (bV (dFn d_Ldep (aCons (d2 oIx (dV 0) (dV 4)) (aCons (d2 oIx (dV 0) (dV 6)) aNil)))) (d2 oIx (dV 3) (dV 6))))) (sSub (d2 oSub (dCall oMin (aCons (d2 oAdd (dFz (dLst (aCons (dV 2) aNil))) (dV 5)) aNil)) (d2 oIx (dV 1) (dV 4))) (dV 3) (dV 4)))) (sRet (dFr (dV 3)))))
def d_Llate : FF := fnD 3 4 b_Llate
theorem x_Llate (F : Fun K "_law_late" "_law_late" s_Llate f fd) (hm : mg "_law_late" = some (.ref f)) (T : Bi mg) (D_Ldep : Df P w K mg base "_law_dep" 1 ["one", "other"] d_Ldep) : Df P w K mg base "_law_late" 2 ["steps", "hours", "length"] d_Llate := by
  obtain ⟨f_Ldep, fd_Ldep, m_Ldep, k_Ldep, b_Ldep, F_Ldep⟩ := D_Ldep
  refine ⟨f, fd, hm, F.kp, F.binds (ps := ["steps", "hours", "length"]) fun _ _ _ _ _ _ us hl => match us, hl with | [_, _, _], _ => rfl, fnN F LlateS rfl (fun cdv A outer s H E hr => ?_)⟩
  exact (pxs_cons (pxs_set (i := 3) LlateS.nd (px_ce (pl_mul (px_fz (pl_lst (pxa_cons px_int pxa_nil))) (px_cb call_len len_g T.len_ bt_len (pxa_cons (px_v 0) pxa_nil))))) (pxs_cons (pxs_for (t := (.nm 4)) PassesOwn.never rfl (pix_rev1 T.reversed_ T.range_ (px_cb call_len len_g T.len_ bt_len (pxa_cons (px_v 0) pxa_nil))) (pgx_nm (i := 4) LlateS.nd) (pxs_cons (pxs_setLc (j := 5) (h := dFz) (own := [(("j" : Str), 6)]) (fun l => fz_d) rfl LlateS.nd rfl rfl (sw_true rfl rfl rfl (by decide +kernel)) (pix_rg2 T.range_ (px_add (px_v 4) px_int) (px_cb call_len len_g T.len_ bt_len (pxa_cons (px_v 0) pxa_nil))) (blkOk_by rfl) (fun _ _ _ _ _ => by exact (pgx_nm (i := 6) LlateS.nd)) (fun _ _ _ _ _ => by exact (pts_one (pt_b (px_call F_Ldep (hr.mono (by decide)) m_Ldep k_Ldep b_Ldep (pxa_cons (px_i (px_v 0) (px_v 4)) (pxa_cons (px_i (px_v 0) (px_v 6)) pxa_nil)))))) (fun _ _ _ _ _ => by exact (px_i (px_v 3) (px_v 6))) (by decide)) (pxs_one (pxs_sub (px_sub (px_cb (cr_min rfl) min_g T.min_ bt_min (pxa_cons (px_add (px_fz (pl_lst (pxa_cons (px_v 2) pxa_nil))) (px_v 5)) pxa_nil)) (px_i (px_v 1) (px_v 4))) (px_v 3) (px_v 4)))) [5, 4]) (pxs_one (pxs_ret (px_fr (px_v 3))))))
/-! heaviest_chain -/
abbrev s_heaviest_chain : Stmt := top 10
theorem heaviest_chainS : FnScope ["steps", "hours", "most", "left", "chain", "k"] ["steps", "hours"] (defScope s_heaviest_chain) := ⟨rfl, rfl, rfl, by decide +kernel, rfl, by decide +kernel, by decide +kernel⟩
def b_heaviest_chain : SF := (sSeq (sSet 2 (dFn d_hours_from (aCons (dV 0) (aCons (dV 1) aNil)))) (sSeq (sSet 3 (dDft maxI (dV 2) (dK (.int 0)))) (sSeq (sSet 4 (dCe (dLst aNil))) (sSeq (sFor (iRg1 (dCall oLen (aCons (dV 0) aNil))) (.nm 5) [5] (sIf (bAnd (bV (d2 oEq (d2 oIx (dV 2) (dV 5)) (dV 3))) (bOr (bV (d2 oEq (dCall oLen (aCons (dV 4) aNil)) (dK (.int 0)))) (bV (dFn d_depends (aCons (d2 oIx (dV 0) (d2 oIx (dV 4) (dNeg (dK (.int 1))))) (aCons (d2 oIx (dV 0) (dV 5)) aNil)))))) (sSeq (sEx (dApp (dV 4) (dV 5))) (sAug 3 (fun i j => i - j) (d2 oIx (dV 1) (dV 5)))) sNo)) (sRet (dFr (dV 4)))))))
def d_heaviest_chain : FF := fnD 2 4 b_heaviest_chain
theorem x_heaviest_chain (F : Fun K "heaviest_chain" "heaviest_chain" s_heaviest_chain f fd) (hm : mg "heaviest_chain" = some (.ref f)) (T : Bi mg) (D_hours_from : Df P w K mg base "hours_from" 2 ["steps", "hours"] d_hours_from) (D_depends : Df P w K mg base "depends" 1 ["step", "other"] d_depends) : Df P w K mg base "heaviest_chain" 3 ["steps", "hours"] d_heaviest_chain := by
  obtain ⟨f_hours_from, fd_hours_from, m_hours_from, k_hours_from, b_hours_from, F_hours_from⟩ := D_hours_from
  obtain ⟨f_depends, fd_depends, m_depends, k_depends, b_depends, F_depends⟩ := D_depends
  refine ⟨f, fd, hm, F.kp, F.binds (ps := ["steps", "hours"]) fun _ _ _ _ _ _ us hl => match us, hl with | [_, _], _ => rfl, fnN F heaviest_chainS rfl (fun cdv A outer s H E hr => ?_)⟩
  exact (pxs_cons (pxs_set (i := 2) heaviest_chainS.nd (px_call F_hours_from (hr.mono (by decide)) m_hours_from k_hours_from b_hours_from (pxa_cons (px_v 0) (pxa_cons (px_v 1) pxa_nil)))) (pxs_cons (pxs_set (i := 3) heaviest_chainS.nd (px_dft (call_maxD hr) T.max_ bt_max (px_v 2) px_int)) (pxs_cons (pxs_set (i := 4) heaviest_chainS.nd (px_ce (pl_lst pxa_nil))) (pxs_cons (pxs_for (t := (.nm 5)) PassesOwn.never rfl (pix_rg1 T.range_ (px_cb call_len len_g T.len_ bt_len (pxa_cons (px_v 0) pxa_nil))) (pgx_nm (i := 5) heaviest_chainS.nd) (pxs_one (pxs_if (PW.pt (pw_a (pt_c (c_eq hr) (px_i (px_v 2) (px_v 5)) (px_v 3)) (pw_a1 (PW.pt (pw_o (pt_c (c_eq hr) (px_cb call_len len_g T.len_ bt_len (pxa_cons (px_v 4) pxa_nil)) px_int) (pw_o1 (pt_b (px_call F_depends (hr.mono (by decide)) m_depends k_depends b_depends (pxa_cons (px_i (px_v 0) (px_i (px_v 4) (px_neg px_int))) (pxa_cons (px_i (px_v 0) (px_v 5)) pxa_nil)))))))))) (pxs_cons (pxs_ex (px_app (px_v 4) (px_v 5))) (pxs_one (pxs_aug (i := 3) heaviest_chainS.nd ip_sub (px_i (px_v 1) (px_v 5))))) pxs_nil)) [5]) (pxs_one (pxs_ret (px_fr (px_v 4))))))))
/-! _law_steps -/
abbrev s_Lsteps : Stmt := top 20
theorem LstepsS : FnScope ["feed", "many", "hands", "things", "acts", "thick", "k"] ["feed", "many"] (defScope s_Lsteps) := ⟨rfl, rfl, rfl, by decide +kernel, rfl, by decide +kernel, by decide +kernel⟩
def b_Lsteps : SF := (sSeq (sSet 2 (dSl (dFz (dLst (aCons (dK (.str "ann")) (aCons (dK (.str "bob")) (aCons (dK (.str "cy")) (aCons (dK (.str "dot")) (aCons (dK (.str "annabell")) aNil))))))) pNo (pYes (d2 oAdd (dK (.int 1)) (dFn d_Ldraw (aCons (dV 0) (aCons (dK (.int 5)) aNil))))))) (sSeq (sSet 3 (dFz (dCallL oSorted (aCons (dSl (dFz (dLst (aCons (dK (.str "axe")) (aCons (dK (.str "box")) (aCons (dK (.str "cup")) (aCons (dK (.str "dye")) (aCons (dK (.str "axes")) aNil))))))) pNo (pYes (dFn d_Ldraw (aCons (dV 0) (aCons (dK (.int 6)) aNil))))) aNil)))) (sSeq (sSet 4 (dSl (dFz (dLst (aCons (dK (.str "cut")) (aCons (dK (.str "dry")) (aCons (dK (.str "mend")) (aCons (dK (.str "oil")) aNil)))))) pNo (pYes (d2 oAdd (dK (.int 1)) (dFn d_Ldraw (aCons (dV 0) (aCons (dK (.int 4)) aNil))))))) (sSeq (sSet 5 (d2 oAdd (dK (.int 2)) (dFn d_Ldraw (aCons (dV 0) (aCons (dK (.int 4)) aNil))))) (sRet (dFz (dLc (iRg1 (dV 1)) (.nm 6) [6] bYes (dFn d_Lstep (aCons (dV 0) (aCons (dV 2) (aCons (dV 3) (aCons (dV 4) (aCons (dV 5) aNil)))))))))))))
def d_Lsteps : FF := fnD 2 5 b_Lsteps
theorem x_Lsteps (F : Fun K "_law_steps" "_law_steps" s_Lsteps f fd) (hm : mg "_law_steps" = some (.ref f)) (T : Bi mg) (D_Ldraw : Df P w K mg base "_law_draw" 1 ["feed", "many"] d_Ldraw) (D_Lstep : Df P w K mg base "_law_step" 2 ["feed", "hands", "things", "acts", "thick"] d_Lstep) : Df P w K mg base "_law_steps" 3 ["feed", "many"] d_Lsteps := by
  obtain ⟨f_Ldraw, fd_Ldraw, m_Ldraw, k_Ldraw, b_Ldraw, F_Ldraw⟩ := D_Ldraw
  obtain ⟨f_Lstep, fd_Lstep, m_Lstep, k_Lstep, b_Lstep, F_Lstep⟩ := D_Lstep
  refine ⟨f, fd, hm, F.kp, F.binds (ps := ["feed", "many"]) fun _ _ _ _ _ _ us hl => match us, hl with | [_, _], _ => rfl, fnN F LstepsS rfl (fun cdv A outer s H E hr => ?_)⟩
  exact (pxs_cons (pxs_set (i := 2) LstepsS.nd (px_sl (px_fz (pl_lst (pxa_cons px_str (pxa_cons px_str (pxa_cons px_str (pxa_cons px_str (pxa_cons px_str pxa_nil))))))) po_no (po_yes (px_add px_int (px_call F_Ldraw (hr.mono (by decide)) m_Ldraw k_Ldraw b_Ldraw (pxa_cons (px_v 0) (pxa_cons px_int pxa_nil))))))) (pxs_cons (pxs_set (i := 3) LstepsS.nd (px_fz (pl_cb (call_sortD hr) sorted_l T.sorted_ bt_sorted (pxa_cons (px_sl (px_fz (pl_lst (pxa_cons px_str (pxa_cons px_str (pxa_cons px_str (pxa_cons px_str (pxa_cons px_str pxa_nil))))))) po_no (po_yes (px_call F_Ldraw (hr.mono (by decide)) m_Ldraw k_Ldraw b_Ldraw (pxa_cons (px_v 0) (pxa_cons px_int pxa_nil))))) pxa_nil)))) (pxs_cons (pxs_set (i := 4) LstepsS.nd (px_sl (px_fz (pl_lst (pxa_cons px_str (pxa_cons px_str (pxa_cons px_str (pxa_cons px_str pxa_nil)))))) po_no (po_yes (px_add px_int (px_call F_Ldraw (hr.mono (by decide)) m_Ldraw k_Ldraw b_Ldraw (pxa_cons (px_v 0) (pxa_cons px_int pxa_nil))))))) (pxs_cons (pxs_set (i := 5) LstepsS.nd (px_add px_int (px_call F_Ldraw (hr.mono (by decide)) m_Ldraw k_Ldraw b_Ldraw (pxa_cons (px_v 0) (pxa_cons px_int pxa_nil))))) (pxs_one (pxs_ret (px_fz (pl_lc (own := [(("k" : Str), 6)]) rfl LstepsS.nd (pix_rg1 T.range_ (px_v 1)) (blkOk_by rfl) (fun _ _ _ _ _ => by exact (pgx_nm (i := 6) LstepsS.nd)) (fun _ _ _ _ _ => by exact pts_no) (fun _ _ _ _ _ => by exact (px_call F_Lstep (hr.mono (by decide)) m_Lstep k_Lstep b_Lstep (pxa_cons (px_v 0) (pxa_cons (px_v 2) (pxa_cons (px_v 3) (pxa_cons (px_v 4) (pxa_cons (px_v 5) pxa_nil))))))) (by decide)))))))))
/-! _law_due -/
abbrev s_Ldue : Stmt := top 28
theorem LdueS : FnScope ["steps", "hours", "length", "early", "late", "k"] ["steps", "hours", "length"] (defScope s_Ldue) := ⟨rfl, rfl, rfl, by decide +kernel, rfl, by decide +kernel, by decide +kernel⟩
def b_Ldue : SF := (sSeq (sSet 3 (dFn d_Learly (aCons (dV 0) (aCons (dV 1) aNil)))) (sSeq (sSet 4 (dFn d_Llate (aCons (dV 0) (aCons (dV 1) (aCons (dFn d_Llength (aCons (dV 1) (aCons (dV 3) aNil))) aNil))))) (sRet (dFz (dLst (aCons (dV 3) (aCons (dFn d_Llate (aCons (dV 0) (aCons (dV 1) (aCons (dV 2) aNil)))) (aCons (dFz (dLc (iRg1 (dCall oLen (aCons (dV 0) aNil))) (.nm 5) [5] bYes (d2 oSub (d2 oIx (dV 4) (dV 5)) (d2 oIx (dV 3) (dV 5))))) aNil))))))))
def d_Ldue : FF := fnD 3 3 b_Ldue
theorem x_Ldue (F : Fun K "_law_due" "_law_due" s_Ldue f fd) (hm : mg "_law_due" = some (.ref f)) (T : Bi mg) (D_Learly : Df P w K mg base "_law_early" 2 ["steps", "hours"] d_Learly) (D_Llate : Df P w K mg base "_law_late" 2 ["steps", "hours", "length"] d_Llate) (D_Llength : Df P w K mg base "_law_length" 1 ["hours", "plan"] d_Llength) : Df P w K mg base "_law_due" 3 ["steps", "hours", "length"] d_Ldue := by
  obtain ⟨f_Learly, fd_Learly, m_Learly, k_Learly, b_Learly, F_Learly⟩ := D_Learly
  obtain ⟨f_Llate, fd_Llate, m_Llate, k_Llate, b_Llate, F_Llate⟩ := D_Llate
  obtain ⟨f_Llength, fd_Llength, m_Llength, k_Llength, b_Llength, F_Llength⟩ := D_Llength
  refine ⟨f, fd, hm, F.kp, F.binds (ps := ["steps", "hours", "length"]) fun _ _ _ _ _ _ us hl => match us, hl with | [_, _, _], _ => rfl, fnN F LdueS rfl (fun cdv A outer s H E hr => ?_)⟩
  exact (pxs_cons (pxs_set (i := 3) LdueS.nd (px_call F_Learly (hr.mono (by decide)) m_Learly k_Learly b_Learly (pxa_cons (px_v 0) (pxa_cons (px_v 1) pxa_nil)))) (pxs_cons (pxs_set (i := 4) LdueS.nd (px_call F_Llate (hr.mono (by decide)) m_Llate k_Llate b_Llate (pxa_cons (px_v 0) (pxa_cons (px_v 1) (pxa_cons (px_call F_Llength (hr.mono (by decide)) m_Llength k_Llength b_Llength (pxa_cons (px_v 1) (pxa_cons (px_v 3) pxa_nil))) pxa_nil))))) (pxs_one (pxs_ret (px_fz (pl_lst (pxa_cons (px_v 3) (pxa_cons (px_call F_Llate (hr.mono (by decide)) m_Llate k_Llate b_Llate (pxa_cons (px_v 0) (pxa_cons (px_v 1) (pxa_cons (px_v 2) pxa_nil)))) (pxa_cons (px_fz (pl_lc (own := [(("k" : Str), 5)]) rfl LdueS.nd (pix_rg1 T.range_ (px_cb call_len len_g T.len_ bt_len (pxa_cons (px_v 0) pxa_nil))) (blkOk_by rfl) (fun _ _ _ _ _ => by exact (pgx_nm (i := 5) LdueS.nd)) (fun _ _ _ _ _ => by exact pts_no) (fun _ _ _ _ _ => by exact (px_sub (px_i (px_v 4) (px_v 5)) (px_i (px_v 3) (px_v 5)))) (by decide))) pxa_nil)))))))))
/-! _law_backwards -/
abbrev s_Lbackwards : Stmt := top 31
theorem LbackwardsS : FnScope ["steps", "hours", "length", "many", "late", "early", "k"] ["steps", "hours", "length"] (defScope s_Lbackwards) := ⟨rfl, rfl, rfl, by decide +kernel, rfl, by decide +kernel, by decide +kernel⟩
def b_Lbackwards : SF := (sSeq (sSet 3 (dCall oLen (aCons (dV 0) aNil))) (sSeq (sSet 4 (dFn d_Llate (aCons (dV 0) (aCons (dV 1) (aCons (dV 2) aNil))))) (sSeq (sSet 5 (dFn d_earliest (aCons (dFz (dLc (iRg1 (dV 3)) (.nm 6) [6] bYes (d2 oIx (dV 0) (d2 oSub (d2 oSub (dV 3) (dK (.int 1))) (dV 6))))) (aCons (dFz (dLc (iRg1 (dV 3)) (.nm 6) [6] bYes (d2 oIx (dV 1) (d2 oSub (d2 oSub (dV 3) (dK (.int 1))) (dV 6))))) aNil)))) (sRet (d2 oEq (dV 5) (dFz (dLc (iRg1 (dV 3)) (.nm 6) [6] bYes (d2 oSub (d2 oSub (dV 2) (d2 oIx (dV 4) (d2 oSub (d2 oSub (dV 3) (dK (.int 1))) (dV 6)))) (d2 oIx (dV 1) (d2 oSub (d2 oSub (dV 3) (dK (.int 1))) (dV 6)))))))))))
def d_Lbackwards : FF := fnD 3 4 b_Lbackwards
theorem x_Lbackwards (F : Fun K "_law_backwards" "_law_backwards" s_Lbackwards f fd) (hm : mg "_law_backwards" = some (.ref f)) (T : Bi mg) (D_Llate : Df P w K mg base "_law_late" 2 ["steps", "hours", "length"] d_Llate) (D_earliest : Df P w K mg base "earliest" 2 ["steps", "hours"] d_earliest) : Df P w K mg base "_law_backwards" 3 ["steps", "hours", "length"] d_Lbackwards := by
  obtain ⟨f_Llate, fd_Llate, m_Llate, k_Llate, b_Llate, F_Llate⟩ := D_Llate
  obtain ⟨f_earliest, fd_earliest, m_earliest, k_earliest, b_earliest, F_earliest⟩ := D_earliest
  refine ⟨f, fd, hm, F.kp, F.binds (ps := ["steps", "hours", "length"]) fun _ _ _ _ _ _ us hl => match us, hl with | [_, _, _], _ => rfl, fnN F LbackwardsS rfl (fun cdv A outer s H E hr => ?_)⟩
  exact (pxs_cons (pxs_set (i := 3) LbackwardsS.nd (px_cb call_len len_g T.len_ bt_len (pxa_cons (px_v 0) pxa_nil))) (pxs_cons (pxs_set (i := 4) LbackwardsS.nd (px_call F_Llate (hr.mono (by decide)) m_Llate k_Llate b_Llate (pxa_cons (px_v 0) (pxa_cons (px_v 1) (pxa_cons (px_v 2) pxa_nil))))) (pxs_cons (pxs_set (i := 5) LbackwardsS.nd (px_call F_earliest (hr.mono (by decide)) m_earliest k_earliest b_earliest (pxa_cons (px_fz (pl_lc (own := [(("k" : Str), 6)]) rfl LbackwardsS.nd (pix_rg1 T.range_ (px_v 3)) (blkOk_by rfl) (fun _ _ _ _ _ => by exact (pgx_nm (i := 6) LbackwardsS.nd)) (fun _ _ _ _ _ => by exact pts_no) (fun _ _ _ _ _ => by exact (px_i (px_v 0) (px_sub (px_sub (px_v 3) px_int) (px_v 6)))) (by decide))) (pxa_cons (px_fz (pl_lc (own := [(("k" : Str), 6)]) rfl LbackwardsS.nd (pix_rg1 T.range_ (px_v 3)) (blkOk_by rfl) (fun _ _ _ _ _ => by exact (pgx_nm (i := 6) LbackwardsS.nd)) (fun _ _ _ _ _ => by exact pts_no) (fun _ _ _ _ _ => by exact (px_i (px_v 1) (px_sub (px_sub (px_v 3) px_int) (px_v 6)))) (by decide))) pxa_nil)))) (pxs_one (pxs_ret (px_c (c_eq hr) (px_v 5) (px_fz (pl_lc (own := [(("k" : Str), 6)]) rfl LbackwardsS.nd (pix_rg1 T.range_ (px_v 3)) (blkOk_by rfl) (fun _ _ _ _ _ => by exact (pgx_nm (i := 6) LbackwardsS.nd)) (fun _ _ _ _ _ => by exact pts_no) (fun _ _ _ _ _ => by exact (px_sub (px_sub (px_v 2) (px_i (px_v 4) (px_sub (px_sub (px_v 3) px_int) (px_v 6)))) (px_i (px_v 1) (px_sub (px_sub (px_v 3) px_int) (px_v 6))))) (by decide)))))))))
/-! shortest -/
abbrev s_shortest : Stmt := top 11
theorem shortestS : FnScope ["steps", "hours", "plan"] ["steps", "hours"] (defScope s_shortest) := ⟨rfl, rfl, rfl, by decide +kernel, rfl, by decide +kernel, by decide +kernel⟩
def b_shortest : SF := (sSeq (sSet 2 (dFn d_earliest (aCons (dV 0) (aCons (dV 1) aNil)))) (sRet (dTup (aCons (dFn d_length_of (aCons (dV 1) (aCons (dV 2) aNil))) (aCons (dV 2) (aCons (dFn d_heaviest_chain (aCons (dV 0) (aCons (dV 1) aNil))) aNil))))))
def d_shortest : FF := fnD 2 1 b_shortest
theorem x_shortest (F : Fun K "shortest" "shortest" s_shortest f fd) (hm : mg "shortest" = some (.ref f)) (T : Bi mg) (D_earliest : Df P w K mg base "earliest" 2 ["steps", "hours"] d_earliest) (D_length_of : Df P w K mg base "length_of" 1 ["hours", "plan"] d_length_of) (D_heaviest_chain : Df P w K mg base "heaviest_chain" 3 ["steps", "hours"] d_heaviest_chain) : Df P w K mg base "shortest" 4 ["steps", "hours"] d_shortest := by
  obtain ⟨f_earliest, fd_earliest, m_earliest, k_earliest, b_earliest, F_earliest⟩ := D_earliest
  obtain ⟨f_length_of, fd_length_of, m_length_of, k_length_of, b_length_of, F_length_of⟩ := D_length_of
  obtain ⟨f_heaviest_chain, fd_heaviest_chain, m_heaviest_chain, k_heaviest_chain, b_heaviest_chain, F_heaviest_chain⟩ := D_heaviest_chain
  refine ⟨f, fd, hm, F.kp, F.binds (ps := ["steps", "hours"]) fun _ _ _ _ _ _ us hl => match us, hl with | [_, _], _ => rfl, fnN F shortestS rfl (fun cdv A outer s H E hr => ?_)⟩
  exact (pxs_cons (pxs_set (i := 2) shortestS.nd (px_call F_earliest (hr.mono (by decide)) m_earliest k_earliest b_earliest (pxa_cons (px_v 0) (pxa_cons (px_v 1) pxa_nil)))) (pxs_one (pxs_ret (px_tup (pxa_cons (px_call F_length_of (hr.mono (by decide)) m_length_of k_length_of b_length_of (pxa_cons (px_v 1) (pxa_cons (px_v 2) pxa_nil))) (pxa_cons (px_v 2) (pxa_cons (px_call F_heaviest_chain (hr.mono (by decide)) m_heaviest_chain k_heaviest_chain b_heaviest_chain (pxa_cons (px_v 0) (pxa_cons (px_v 1) pxa_nil))) pxa_nil)))))))
/-! latest -/
abbrev s_latest : Stmt := top 12
theorem latestS : FnScope ["steps", "hours", "length", "plan", "k", "begins", "j"] ["steps", "hours", "length"] (defScope s_latest) := ⟨rfl, rfl, rfl, by decide +kernel, rfl, by decide +kernel, by decide +kernel⟩
def b_latest : SF := (sSeq (sIf (bV (d2 oLt (dV 2) (dFn d_length_of (aCons (dV 1) (aCons (dFn d_earliest (aCons (dV 0) (aCons (dV 1) aNil))) aNil))))) (sRaise "TooShort" "length" (dV 2)) sNo) (sSeq (sSet 3 (dCe (d2L oRep (dFz (dLst (aCons (dK (.int 0)) aNil))) (dCall oLen (aCons (dV 0) aNil))))) (sSeq (sFor (iRev1 (dCall oLen (aCons (dV 0) aNil))) (.nm 4) [5, 4] (sSeq (sSet 5 (dFz (dLc (iRg2 (d2 oAdd (dV 4) (dK (.int 1))) (dCall oLen (aCons (dV 0) aNil))) (.nm 6) [6] (bV (dFn d_depends (aCons (d2 oIx (dV 0) (dV 4)) (aCons (d2 oIx (dV 0) (dV 6)) aNil)))) (d2 oIx (dV 3) (dV 6))))) (sSub (d2 oSub (dDft minI (dV 5) (dV 2)) (d2 oIx (dV 1) (dV 4))) (dV 3) (dV 4)))) (sRet (dFr (dV 3))))))
def d_latest : FF := fnD 3 4 b_latest
theorem x_latest (F : Fun K "latest" "latest" s_latest f fd) (hm : mg "latest" = some (.ref f)) (T : Bi mg) (D_length_of : Df P w K mg base "length_of" 1 ["hours", "plan"] d_length_of) (D_earliest : Df P w K mg base "earliest" 2 ["steps", "hours"] d_earliest) (D_depends : Df P w K mg base "depends" 1 ["step", "other"] d_depends) (De_TooShort : De P w K mg base "TooShort" "length") : Dr P w K mg base "latest" 4 ["steps", "hours", "length"] d_latest := by
  obtain ⟨f_length_of, fd_length_of, m_length_of, k_length_of, b_length_of, F_length_of⟩ := D_length_of
  obtain ⟨f_earliest, fd_earliest, m_earliest, k_earliest, b_earliest, F_earliest⟩ := D_earliest
  obtain ⟨f_depends, fd_depends, m_depends, k_depends, b_depends, F_depends⟩ := D_depends
  obtain ⟨c_TooShort, i_TooShort, fd_TooShort, e_TooShort, F_TooShort, b_TooShort⟩ := De_TooShort
  refine ⟨f, fd, hm, F.kp, F.binds (ps := ["steps", "hours", "length"]) fun _ _ _ _ _ _ us hl => match us, hl with | [_, _, _], _ => rfl, fnR F latestS rfl (fun cdv A outer s H E hr tk hp => ?_)⟩
  exact (pxs_cons (pxs_if (pt_c c_lt (px_v 2) (px_call F_length_of (hr.mono (by decide)) m_length_of k_length_of b_length_of (pxa_cons (px_v 1) (pxa_cons (px_call F_earliest (hr.mono (by decide)) m_earliest k_earliest b_earliest (pxa_cons (px_v 0) (pxa_cons (px_v 1) pxa_nil))) pxa_nil)))) (pxs_one (pxs_raise e_TooShort F_TooShort b_TooShort (hr.mono (by decide)) rfl tk (px_v 2))) pxs_nil) (pxs_cons (pxs_set (i := 3) latestS.nd (px_ce (pl_mul (px_fz (pl_lst (pxa_cons px_int pxa_nil))) (px_cb call_len len_g T.len_ bt_len (pxa_cons (px_v 0) pxa_nil))))) (pxs_cons (pxs_for (t := (.nm 4)) hp rfl (pix_rev1 T.reversed_ T.range_ (px_cb call_len len_g T.len_ bt_len (pxa_cons (px_v 0) pxa_nil))) (pgx_nm (i := 4) latestS.nd) (pxs_cons (pxs_setLc (j := 5) (h := dFz) (own := [(("j" : Str), 6)]) (fun l => fz_d) rfl latestS.nd rfl rfl (sw_true rfl rfl rfl (by decide +kernel)) (pix_rg2 T.range_ (px_add (px_v 4) px_int) (px_cb call_len len_g T.len_ bt_len (pxa_cons (px_v 0) pxa_nil))) (blkOk_by rfl) (fun _ _ _ _ _ => by exact (pgx_nm (i := 6) latestS.nd)) (fun _ _ _ _ _ => by exact (pts_one (pt_b (px_call F_depends (hr.mono (by decide)) m_depends k_depends b_depends (pxa_cons (px_i (px_v 0) (px_v 4)) (pxa_cons (px_i (px_v 0) (px_v 6)) pxa_nil)))))) (fun _ _ _ _ _ => by exact (px_i (px_v 3) (px_v 6))) (by decide)) (pxs_one (pxs_sub (px_sub (px_dft (call_minD hr) T.min_ bt_min (px_v 5) (px_v 2)) (px_i (px_v 1) (px_v 4))) (px_v 3) (px_v 4)))) [5, 4]) (pxs_one (pxs_ret (px_fr (px_v 3)))))))
/-! spare -/
abbrev s_spare : Stmt := top 13
theorem spareS : FnScope ["steps", "hours", "early", "late", "begin", "end"] ["steps", "hours"] (defScope s_spare) := ⟨rfl, rfl, rfl, by decide +kernel, rfl, by decide +kernel, by decide +kernel⟩
def b_spare : SF := (sSeq (sSet 2 (dFn d_earliest (aCons (dV 0) (aCons (dV 1) aNil)))) (sSeq (sSet 3 (dFn d_latest (aCons (dV 0) (aCons (dV 1) (aCons (dFn d_length_of (aCons (dV 1) (aCons (dV 2) aNil))) aNil))))) (sRet (dFz (dLc (iZi (dV 2) (dV 3)) (.tp (.cons (.nm 4) (.cons (.nm 5) Tgs.nil))) [4, 5] bYes (d2 oSub (dV 5) (dV 4)))))))
def d_spare : FF := fnD 2 4 b_spare
theorem x_spare (F : Fun K "spare" "spare" s_spare f fd) (hm : mg "spare" = some (.ref f)) (T : Bi mg) (D_earliest : Df P w K mg base "earliest" 2 ["steps", "hours"] d_earliest) (D_latest : Dr P w K mg base "latest" 4 ["steps", "hours", "length"] d_latest) (D_length_of : Df P w K mg base "length_of" 1 ["hours", "plan"] d_length_of) : Df P w K mg base "spare" 5 ["steps", "hours"] d_spare := by
  obtain ⟨f_earliest, fd_earliest, m_earliest, k_earliest, b_earliest, F_earliest⟩ := D_earliest
  obtain ⟨f_latest, fd_latest, m_latest, k_latest, b_latest, F_latest⟩ := D_latest
  obtain ⟨f_length_of, fd_length_of, m_length_of, k_length_of, b_length_of, F_length_of⟩ := D_length_of
  refine ⟨f, fd, hm, F.kp, F.binds (ps := ["steps", "hours"]) fun _ _ _ _ _ _ us hl => match us, hl with | [_, _], _ => rfl, fnN F spareS rfl (fun cdv A outer s H E hr => ?_)⟩
  exact (pxs_cons (pxs_set (i := 2) spareS.nd (px_call F_earliest (hr.mono (by decide)) m_earliest k_earliest b_earliest (pxa_cons (px_v 0) (pxa_cons (px_v 1) pxa_nil)))) (pxs_cons (pxs_set (i := 3) spareS.nd (px_callR F_latest (hr.mono (by decide)) m_latest k_latest b_latest (pxa_cons (px_v 0) (pxa_cons (px_v 1) (pxa_cons (px_call F_length_of (hr.mono (by decide)) m_length_of k_length_of b_length_of (pxa_cons (px_v 1) (pxa_cons (px_v 2) pxa_nil))) pxa_nil))))) (pxs_one (pxs_ret (px_fz (pl_lc (own := [(("begin" : Str), 4), (("end" : Str), 5)]) rfl spareS.nd (pix_zip T.zip_ (px_v 2) (px_v 3)) (blkOk_by rfl) (fun _ _ _ _ _ => by exact (pgx_tup rfl (pgx_cons (pgx_nm (i := 4) spareS.nd) (pgx_cons (pgx_nm (i := 5) spareS.nd) pgx_nil)))) (fun _ _ _ _ _ => by exact pts_no) (fun _ _ _ _ _ => by exact (px_sub (px_v 5) (px_v 4))) (by decide)))))))
/-! _law_refused -/
abbrev s_Lrefused : Stmt := top 26
theorem LrefusedS : FnScope ["steps", "hours", "length", "e"] ["steps", "hours", "length"] (defScope s_Lrefused) := ⟨rfl, rfl, rfl, by decide +kernel, rfl, by decide +kernel, by decide +kernel⟩
noncomputable def b_Lrefused : SF := (sSeq (sTry "TooShort" 3 (fnOut d_latest (aCons (dFz (dCallL oList (aCons (dV 0) aNil))) (aCons (dFz (dCallL oList (aCons (dV 1) aNil))) (aCons (dV 2) aNil))) kEx) (fun a dd => (sSeq (sIf (bOr (bNot (bV (dXi 3 a dd true))) (bV (dXi 3 a dd false))) (sRet (dK (.bool false))) sNo) (sRet (dAnd (dFn d_Lis_whole (aCons (dXf 3 a dd "length") aNil)) (d2 oEq (dXf 3 a dd "length") (dV 2))))))) (sRet (dK (.bool false))))
noncomputable def d_Lrefused : FF := fnD 3 1 b_Lrefused
theorem x_Lrefused (F : Fun K "_law_refused" "_law_refused" s_Lrefused f fd) (hm : mg "_law_refused" = some (.ref f)) (T : Bi mg) (D_latest : Dr P w K mg base "latest" 4 ["steps", "hours", "length"] d_latest) (Dh_Lis_whole : Dh P w K mg base "_law_is_whole" 1 ["x"] d_Lis_whole) (De_TooShort : De P w K mg base "TooShort" "length") (Dx_TooShort_BadHours : Dx K mg "TooShort" "BadHours" false) (Dx_TooShort_ShopError : Dx K mg "TooShort" "ShopError" true) : Df P w K mg base "_law_refused" 5 ["steps", "hours", "length"] d_Lrefused := by
  obtain ⟨f_latest, fd_latest, m_latest, k_latest, b_latest, F_latest⟩ := D_latest
  obtain ⟨f_Lis_whole, fd_Lis_whole, m_Lis_whole, k_Lis_whole, b_Lis_whole, H_Lis_whole⟩ := Dh_Lis_whole
  obtain ⟨c_TooShort, i_TooShort, fd_TooShort, e_TooShort, F_TooShort, b_TooShort⟩ := De_TooShort
  obtain ⟨_, c_BadHours, z1, g_BadHours, i_TooShort_BadHours⟩ := Dx_TooShort_BadHours
  cases z1.symm.trans e_TooShort.gC
  obtain ⟨_, c_ShopError, z1, g_ShopError, i_TooShort_ShopError⟩ := Dx_TooShort_ShopError
  cases z1.symm.trans e_TooShort.gC
  refine ⟨f, fd, hm, F.kp, F.binds (ps := ["steps", "hours", "length"]) fun _ _ _ _ _ _ us hl => match us, hl with | [_, _, _], _ => rfl, fnN F LrefusedS rfl (fun cdv A outer s H E hr => ?_)⟩
  exact (pxs_cons (pxs_try (i := 3) (g := fun a dd => (sSeq (sIf (bOr (bNot (bV (dXi 3 a dd true))) (bV (dXi 3 a dd false))) (sRet (dK (.bool false))) sNo) (sRet (dAnd (dFn d_Lis_whole (aCons (dXf 3 a dd "length") aNil)) (d2 oEq (dXf 3 a dd "length") (dV 2)))))) LrefusedS.nd e_TooShort.gC e_TooShort.exm takesN0 (fun _ _ _ tk' hp' => (pxs_one (pxs_fnEx (pe_mayX tk' F_latest (hr.mono (by decide)) m_latest k_latest b_latest (pxa_cons (px_fz (pl_ct call_list_of list_l T.list_ bt_list (pxa_cons (px_v 0) pxa_nil))) (pxa_cons (px_fz (pl_ct call_list_of list_l T.list_ bt_list (pxa_cons (px_v 1) pxa_nil))) (pxa_cons (px_v 2) pxa_nil))))))) (fun a dd oe pn hz hf => (pxs_cons (pxs_if (PW.pt (pw_o (pt_n (pt_b (px_isx e_TooShort.isx hz hf 3 (pe_glob (by exact rfl) g_ShopError (v := .ref c_ShopError) rfl) (fun u h => h) i_TooShort_ShopError T.isinstance_))) (pw_o1 (pt_b (px_isx e_TooShort.isx hz hf 3 (pe_glob (by exact rfl) g_BadHours (v := .ref c_BadHours) rfl) (fun u h => h) i_TooShort_BadHours T.isinstance_))))) (pxs_one (pxs_ret px_bl)) pxs_nil) (pxs_one (pxs_ret (px_and (px_hot hz hf H_Lis_whole (hr.mono (by decide)) m_Lis_whole k_Lis_whole b_Lis_whole (pxa_cons (px_xf e_TooShort hz hf 3) pxa_nil)) (px_one (px_c (c_eqS hr) (px_xf e_TooShort hz hf 3) (px_v 2))))))))) (pxs_one (pxs_ret px_bl)))
/-! _law_told -/
abbrev s_Ltold : Stmt := top 27
theorem LtoldS : FnScope ["steps", "hours", "length", "one", "other", "early", "late", "more", "row"] ["steps", "hours", "length"] (defScope s_Ltold) := ⟨rfl, rfl, rfl, by decide +kernel, rfl, by decide +kernel, by decide +kernel⟩
def b_Ltold : SF := (sSeq (sSet 3 (dFz (dCallL oList (aCons (dV 0) aNil)))) (sSeq (sSet 4 (dFz (dCallL oList (aCons (dV 1) aNil)))) (sSeq (sSet 5 (dFn d_earliest (aCons (dV 3) (aCons (dV 4) aNil)))) (sSeq (sSet 6 (dFn d_latest (aCons (dV 3) (aCons (dV 4) (aCons (dV 2) aNil))))) (sSeq (sSet 7 (dFn d_spare (aCons (dV 3) (aCons (dV 4) aNil)))) (sSeq (sIf (bOr (bV (d2 oNe (dV 3) (dV 0))) (bV (d2 oNe (dV 4) (dV 1)))) (sRet (dK .none)) sNo) (sSeq (sFor (iSeq (dFz (dLst (aCons (dV 5) (aCons (dV 6) (aCons (dV 7) aNil)))))) (.nm 8) [8] (sIf (bNot (bV (dFn d_Lare_wholes (aCons (dV 8) (aCons (dCall oLen (aCons (dV 0) aNil)) aNil))))) (sRet (dK .none)) sNo)) (sRet (dFz (dLst (aCons (dV 5) (aCons (dV 6) (aCons (dV 7) aNil)))))))))))))
def d_Ltold : FF := fnD 3 6 b_Ltold
theorem x_Ltold (F : Fun K "_law_told" "_law_told" s_Ltold f fd) (hm : mg "_law_told" = some (.ref f)) (T : Bi mg) (D_earliest : Df P w K mg base "earliest" 2 ["steps", "hours"] d_earliest) (D_latest : Dr P w K mg base "latest" 4 ["steps", "hours", "length"] d_latest) (D_spare : Df P w K mg base "spare" 5 ["steps", "hours"] d_spare) (D_Lare_wholes : Df P w K mg base "_law_are_wholes" 2 ["row", "many"] d_Lare_wholes) : Df P w K mg base "_law_told" 6 ["steps", "hours", "length"] d_Ltold := by
  obtain ⟨f_earliest, fd_earliest, m_earliest, k_earliest, b_earliest, F_earliest⟩ := D_earliest
  obtain ⟨f_latest, fd_latest, m_latest, k_latest, b_latest, F_latest⟩ := D_latest
  obtain ⟨f_spare, fd_spare, m_spare, k_spare, b_spare, F_spare⟩ := D_spare
  obtain ⟨f_Lare_wholes, fd_Lare_wholes, m_Lare_wholes, k_Lare_wholes, b_Lare_wholes, F_Lare_wholes⟩ := D_Lare_wholes
  refine ⟨f, fd, hm, F.kp, F.binds (ps := ["steps", "hours", "length"]) fun _ _ _ _ _ _ us hl => match us, hl with | [_, _, _], _ => rfl, fnN F LtoldS rfl (fun cdv A outer s H E hr => ?_)⟩
  exact (pxs_cons (pxs_set (i := 3) LtoldS.nd (px_fz (pl_ct call_list_of list_l T.list_ bt_list (pxa_cons (px_v 0) pxa_nil)))) (pxs_cons (pxs_set (i := 4) LtoldS.nd (px_fz (pl_ct call_list_of list_l T.list_ bt_list (pxa_cons (px_v 1) pxa_nil)))) (pxs_cons (pxs_set (i := 5) LtoldS.nd (px_call F_earliest (hr.mono (by decide)) m_earliest k_earliest b_earliest (pxa_cons (px_v 3) (pxa_cons (px_v 4) pxa_nil)))) (pxs_cons (pxs_set (i := 6) LtoldS.nd (px_callR F_latest (hr.mono (by decide)) m_latest k_latest b_latest (pxa_cons (px_v 3) (pxa_cons (px_v 4) (pxa_cons (px_v 2) pxa_nil))))) (pxs_cons (pxs_set (i := 7) LtoldS.nd (px_call F_spare (hr.mono (by decide)) m_spare k_spare b_spare (pxa_cons (px_v 3) (pxa_cons (px_v 4) pxa_nil)))) (pxs_cons (pxs_if (PW.pt (pw_o (pt_c (c_ne hr) (px_v 3) (px_v 0)) (pw_o1 (pt_c (c_ne hr) (px_v 4) (px_v 1))))) (pxs_one (pxs_ret px_non)) pxs_nil) (pxs_cons (pxs_for (t := (.nm 8)) PassesOwn.never rfl (pix_seq (px_fz (pl_lst (pxa_cons (px_v 5) (pxa_cons (px_v 6) (pxa_cons (px_v 7) pxa_nil)))))) (pgx_nm (i := 8) LtoldS.nd) (pxs_one (pxs_if (pt_n (pt_b (px_call F_Lare_wholes (hr.mono (by decide)) m_Lare_wholes k_Lare_wholes b_Lare_wholes (pxa_cons (px_v 8) (pxa_cons (px_cb call_len len_g T.len_ bt_len (pxa_cons (px_v 0) pxa_nil)) pxa_nil))))) (pxs_one (pxs_ret px_non)) pxs_nil)) [8]) (pxs_one (pxs_ret (px_fz (pl_lst (pxa_cons (px_v 5) (pxa_cons (px_v 6) (pxa_cons (px_v 7) pxa_nil))))))))))))))
/-! _law_exchanged -/
abbrev s_Lexchanged : Stmt := top 30
theorem LexchangedS : FnScope ["feed", "steps", "hours", "length", "k", "due", "row"] ["feed", "steps", "hours", "length"] (defScope s_Lexchanged) := ⟨rfl, rfl, rfl, by decide +kernel, rfl, by decide +kernel, by decide +kernel⟩
def b_Lexchanged : SF := (sSeq (sIf (bV (d2 oLt (dCall oLen (aCons (dV 1) aNil)) (dK (.int 2)))) (sRet (dK (.bool true))) sNo) (sSeq (sSet 4 (dFn d_Ldraw (aCons (dV 0) (aCons (d2 oSub (dCall oLen (aCons (dV 1) aNil)) (dK (.int 1))) aNil)))) (sSeq (sIf (bV (dFn d_Ldep (aCons (d2 oIx (dV 1) (dV 4)) (aCons (d2 oIx (dV 1) (d2 oAdd (dV 4) (dK (.int 1)))) aNil)))) (sRet (dK (.bool true))) sNo) (sSeq (sSet 5 (dFn d_Ldue (aCons (dV 1) (aCons (dV 2) (aCons (dV 3) aNil))))) (sRet (d2 oEq (dFn d_Ltold (aCons (dFn d_Lturned (aCons (dV 1) (aCons (dV 4) aNil))) (aCons (dFn d_Lturned (aCons (dV 2) (aCons (dV 4) aNil))) (aCons (dV 3) aNil)))) (dFz (dLc (iSeq (dV 5)) (.nm 6) [6] bYes (dFn d_Lturned (aCons (dV 6) (aCons (dV 4) aNil)))))))))))
def d_Lexchanged : FF := fnD 4 3 b_Lexchanged
theorem x_Lexchanged (F : Fun K "_law_exchanged" "_law_exchanged" s_Lexchanged f fd) (hm : mg "_law_exchanged" = some (.ref f)) (T : Bi mg) (D_Ldraw : Df P w K mg base "_law_draw" 1 ["feed", "many"] d_Ldraw) (D_Ldep : Df P w K mg base "_law_dep" 1 ["one", "other"] d_Ldep) (D_Ldue : Df P w K mg base "_law_due" 3 ["steps", "hours", "length"] d_Ldue) (D_Ltold : Df P w K mg base "_law_told" 6 ["steps", "hours", "length"] d_Ltold) (D_Lturned : Df P w K mg base "_law_turned" 1 ["row", "k"] d_Lturned) : Df P w K mg base "_law_exchanged" 7 ["feed", "steps", "hours", "length"] d_Lexchanged := by
  obtain ⟨f_Ldraw, fd_Ldraw, m_Ldraw, k_Ldraw, b_Ldraw, F_Ldraw⟩ := D_Ldraw
  obtain ⟨f_Ldep, fd_Ldep, m_Ldep, k_Ldep, b_Ldep, F_Ldep⟩ := D_Ldep
  obtain ⟨f_Ldue, fd_Ldue, m_Ldue, k_Ldue, b_Ldue, F_Ldue⟩ := D_Ldue
  obtain ⟨f_Ltold, fd_Ltold, m_Ltold, k_Ltold, b_Ltold, F_Ltold⟩ := D_Ltold
  obtain ⟨f_Lturned, fd_Lturned, m_Lturned, k_Lturned, b_Lturned, F_Lturned⟩ := D_Lturned
  refine ⟨f, fd, hm, F.kp, F.binds (ps := ["feed", "steps", "hours", "length"]) fun _ _ _ _ _ _ us hl => match us, hl with | [_, _, _, _], _ => rfl, fnN F LexchangedS rfl (fun cdv A outer s H E hr => ?_)⟩
  exact (pxs_cons (pxs_if (pt_c c_lt (px_cb call_len len_g T.len_ bt_len (pxa_cons (px_v 1) pxa_nil)) px_int) (pxs_one (pxs_ret px_bl)) pxs_nil) (pxs_cons (pxs_set (i := 4) LexchangedS.nd (px_call F_Ldraw (hr.mono (by decide)) m_Ldraw k_Ldraw b_Ldraw (pxa_cons (px_v 0) (pxa_cons (px_sub (px_cb call_len len_g T.len_ bt_len (pxa_cons (px_v 1) pxa_nil)) px_int) pxa_nil)))) (pxs_cons (pxs_if (pt_b (px_call F_Ldep (hr.mono (by decide)) m_Ldep k_Ldep b_Ldep (pxa_cons (px_i (px_v 1) (px_v 4)) (pxa_cons (px_i (px_v 1) (px_add (px_v 4) px_int)) pxa_nil)))) (pxs_one (pxs_ret px_bl)) pxs_nil) (pxs_cons (pxs_set (i := 5) LexchangedS.nd (px_call F_Ldue (hr.mono (by decide)) m_Ldue k_Ldue b_Ldue (pxa_cons (px_v 1) (pxa_cons (px_v 2) (pxa_cons (px_v 3) pxa_nil))))) (pxs_one (pxs_ret (px_c (c_eq hr) (px_call F_Ltold (hr.mono (by decide)) m_Ltold k_Ltold b_Ltold (pxa_cons (px_call F_Lturned (hr.mono (by decide)) m_Lturned k_Lturned b_Lturned (pxa_cons (px_v 1) (pxa_cons (px_v 4) pxa_nil))) (pxa_cons (px_call F_Lturned (hr.mono (by decide)) m_Lturned k_Lturned b_Lturned (pxa_cons (px_v 2) (pxa_cons (px_v 4) pxa_nil))) (pxa_cons (px_v 3) pxa_nil)))) (px_fz (pl_lc (own := [(("row" : Str), 6)]) rfl LexchangedS.nd (pix_seq (px_v 5)) (blkOk_by rfl) (fun _ _ _ _ _ => by exact (pgx_nm (i := 6) LexchangedS.nd)) (fun _ _ _ _ _ => by exact pts_no) (fun _ _ _ _ _ => by exact (px_call F_Lturned (hr.mono (by decide)) m_Lturned k_Lturned b_Lturned (pxa_cons (px_v 6) (pxa_cons (px_v 4) pxa_nil)))) (by decide))))))))))
/-! the law -/
abbrev s_law : Stmt := top 32
theorem lawS : FnScope ["script", "feed", "turn", "many", "steps", "hours", "least", "length", "turns", "saw", "oil", "glue"] ["script"] (defScope s_law) := ⟨rfl, rfl, rfl, by decide +kernel, rfl, by decide +kernel, by decide +kernel⟩
noncomputable def b_law : SF := (sSeq (sFor (iRg1 (dK (.int 2))) (.nm 2) [3, 4, 5, 6, 7, 8, 2] (sSeq (sSet 3 (dFn d_Ldraw (aCons (dV 1) (aCons (dK (.int 9)) aNil)))) (sSeq (sIf (bAnd (bV (d2 oEq (dV 2) (dK (.int 0)))) (bV (d2 oEq (dFn d_Ldraw (aCons (dV 1) (aCons (dK (.int 6)) aNil))) (dK (.int 0))))) (sSet 3 (dK (.int 24))) sNo) (sSeq (sSet 4 (dFn d_Lsteps (aCons (dV 1) (aCons (dV 3) aNil)))) (sSeq (sSet 5 (dFn d_Lhours (aCons (dV 1) (aCons (dV 3) aNil)))) (sSeq (sSet 6 (dFn d_Llength (aCons (dV 5) (aCons (dFn d_Learly (aCons (dV 4) (aCons (dV 5) aNil))) aNil)))) (sSeq (sIf (bOr (bV (d2 oNe (d2 oIx (dFn d_shortest (aCons (dFz (dCallL oList (aCons (dV 4) aNil))) (aCons (dFz (dCallL oList (aCons (dV 5) aNil))) aNil))) (dK (.int 0))) (dV 6))) (bNot (bV (dFn d_Lbackwards (aCons (dV 4) (aCons (dV 5) (aCons (dV 6) aNil))))))) (sRet (dK (.bool false))) sNo) (sSeq (sFor (iSeq (dFz (dLst (aCons (dV 6) (aCons (d2 oAdd (d2 oAdd (dV 6) (dK (.int 1))) (dFn d_Ldraw (aCons (dV 1) (aCons (dK (.int 40)) aNil)))) (aCons (d2 oPow (dK (.int 10)) (dK (.int 59))) (aCons (dV 6) aNil))))))) (.nm 7) [7] (sIf (bV (d2 oNe (dFn d_Ltold (aCons (dV 4) (aCons (dV 5) (aCons (dV 7) aNil)))) (dFn d_Ldue (aCons (dV 4) (aCons (dV 5) (aCons (dV 7) aNil)))))) (sRet (dK (.bool false))) sNo)) (sSeq (sFor (iSeq (dFz (dLst (aCons (d2 oSub (dV 6) (dK (.int 1))) (aCons (d2 oSub (d2 oSub (dV 6) (dK (.int 1))) (dFn d_Ldraw (aCons (dV 1) (aCons (dK (.int 40)) aNil)))) (aCons (d2 oSub (dNeg (dK (.int 1))) (dFn d_Ldraw (aCons (dV 1) (aCons (dK (.int 9)) aNil)))) (aCons (dNeg (d2 oPow (dK (.int 10)) (dK (.int 59)))) aNil))))))) (.nm 7) [7] (sIf (bNot (bV (dFn d_Lrefused (aCons (dV 4) (aCons (dV 5) (aCons (dV 7) aNil)))))) (sRet (dK (.bool false))) sNo)) (sFor (iRg1 (dK (.int 3))) (.nm 8) [8] (sIf (bNot (bV (dFn d_Lexchanged (aCons (dV 1) (aCons (dV 4) (aCons (dV 5) (aCons (d2 oAdd (dV 6) (dFn d_Ldraw (aCons (dV 1) (aCons (dK (.int 3)) aNil)))) aNil))))))) (sRet (dK (.bool false))) sNo))))))))))) (sSeq (sSet 9 (dTup (aCons (dK (.str "ann")) (aCons (dK (.str "saw")) (aCons (dTup (aCons (dK (.str "plank")) aNil)) aNil))))) (sSeq (sSet 10 (dTup (aCons (dK (.str "bob")) (aCons (dK (.str "oil")) (aCons (dTup (aCons (dK (.str "lathe")) aNil)) aNil))))) (sSeq (sSet 11 (dTup (aCons (dK (.str "bob")) (aCons (dK (.str "glue")) (aCons (dTup (aCons (dK (.str "plank")) aNil)) aNil))))) (sSeq (sIf (bV (d2 oNe (dFn d_latest (aCons (dFz (dLst (aCons (dV 9) (aCons (dV 10) (aCons (dV 11) aNil))))) (aCons (dFz (dLst (aCons (dK (.int 3)) (aCons (dK (.int 2)) (aCons (dK (.int 1)) aNil))))) (aCons (dK (.int 5)) aNil)))) (dFz (dLst (aCons (dK (.int 1)) (aCons (dK (.int 2)) (aCons (dK (.int 4)) aNil))))))) (sRet (dK (.bool false))) sNo) (sRet (dAnd (d2 oEq (dFn d_spare (aCons (dFz (dLst (aCons (dV 9) (aCons (dV 10) (aCons (dV 11) aNil))))) (aCons (dFz (dLst (aCons (dK (.int 3)) (aCons (dK (.int 2)) (aCons (dK (.int 1)) aNil))))) aNil))) (dFz (dLst (aCons (dK (.int 0)) (aCons (dK (.int 1)) (aCons (dK (.int 0)) aNil)))))) (d2 oEq (dFn d_latest (aCons (dFz (dLst aNil)) (aCons (dFz (dLst aNil)) (aCons (dK (.int 0)) aNil)))) (dFz (dLst aNil))))))))))
abbrev s_Lfeed : Stmt := top 15
theorem LfeedS : FnScope ["script"] ["script"] (defScope s_Lfeed) := ⟨rfl, rfl, rfl, by decide +kernel, rfl, by decide +kernel, by decide +kernel⟩
theorem x_Lfeed (F : Fun K "_law_feed" "_law_feed" s_Lfeed f fd) (T : Bi mg) : FnOk P w K mg base CX0 1 f fd ["script"] (spFeed K) := by
  refine F.ok LfeedS (fun vs H Q E h => ?_) (fun cdv A outer s H vs Q E hr h => ⟨_, pss_one (ps_ret (pe_lst (pa_cons (pe_callTy call_list_of (by exact rfl) T.list_ bt_list (pa_cons (pv 0) pa_nil) (by decide) (by decide) rfl rfl) (pa_cons pe_int (pa_cons pe_int (pa_cons pe_int pa_nil)))))), ?_⟩)
  · obtain ⟨_, _, _, _, a, ns, _, rfl, _⟩ := h
    rfl
  · obtain ⟨B, G, ps, cs, a, ns, c, rfl, hs, q⟩ := h
    exact feed_d c hs q rfl
def lawSl : Sl := (List.replicate 12 none).set 1 (some (.ce 0))
def LawTrue : Prop := ∀ ns : List Int, ns.length ≤ 63 → ∃ cs, b_law lawSl [some (feed0 ns)] = some (.ret (.fr (.bool true)) cs)
theorem x_law (LT : LawTrue) (F : Fun K "law" "law" s_law f fd) (T : Bi mg) (D_Lfeed : ∃ f fd, mg "_law_feed" = some (.ref f) ∧ PySem.W.keepIn K (.ref f) = true ∧ L2.Binds K fd ["script"] [] ∧ FnOk P w K mg base CX0 1 f fd ["script"] (spFeed K)) (D_Ldraw : Df P w K mg base "_law_draw" 1 ["feed", "many"] d_Ldraw) (D_Lsteps : Df P w K mg base "_law_steps" 3 ["feed", "many"] d_Lsteps) (D_Lhours : Df P w K mg base "_law_hours" 2 ["feed", "many"] d_Lhours) (D_Llength : Df P w K mg base "_law_length" 1 ["hours", "plan"] d_Llength) (D_latest : Dr P w K mg base "latest" 4 ["steps", "hours", "length"] d_latest) (D_Learly : Df P w K mg base "_law_early" 2 ["steps", "hours"] d_Learly) (D_spare : Df P w K mg base "spare" 5 ["steps", "hours"] d_spare) (D_Lbackwards : Df P w K mg base "_law_backwards" 3 ["steps", "hours", "length"] d_Lbackwards) (D_Ltold : Df P w K mg base "_law_told" 6 ["steps", "hours", "length"] d_Ltold) (D_Ldue : Df P w K mg base "_law_due" 3 ["steps", "hours", "length"] d_Ldue) (D_Lrefused : Df P w K mg base "_law_refused" 5 ["steps", "hours", "length"] d_Lrefused) (D_Lexchanged : Df P w K mg base "_law_exchanged" 7 ["feed", "steps", "hours", "length"] d_Lexchanged) (D_shortest : Df P w K mg base "shortest" 4 ["steps", "hours"] d_shortest) : FnOk P w K mg base CX0 8 f fd ["script"] (spLaw K) := by
  obtain ⟨f_Lfeed, fd_Lfeed, m_Lfeed, k_Lfeed, b_Lfeed, F_Lfeed⟩ := D_Lfeed
  obtain ⟨f_Ldraw, fd_Ldraw, m_Ldraw, k_Ldraw, b_Ldraw, F_Ldraw⟩ := D_Ldraw
  obtain ⟨f_Lsteps, fd_Lsteps, m_Lsteps, k_Lsteps, b_Lsteps, F_Lsteps⟩ := D_Lsteps
  obtain ⟨f_Lhours, fd_Lhours, m_Lhours, k_Lhours, b_Lhours, F_Lhours⟩ := D_Lhours
  obtain ⟨f_Llength, fd_Llength, m_Llength, k_Llength, b_Llength, F_Llength⟩ := D_Llength
  obtain ⟨f_latest, fd_latest, m_latest, k_latest, b_latest, F_latest⟩ := D_latest
  obtain ⟨f_Learly, fd_Learly, m_Learly, k_Learly, b_Learly, F_Learly⟩ := D_Learly
  obtain ⟨f_spare, fd_spare, m_spare, k_spare, b_spare, F_spare⟩ := D_spare
  obtain ⟨f_Lbackwards, fd_Lbackwards, m_Lbackwards, k_Lbackwards, b_Lbackwards, F_Lbackwards⟩ := D_Lbackwards
  obtain ⟨f_Ltold, fd_Ltold, m_Ltold, k_Ltold, b_Ltold, F_Ltold⟩ := D_Ltold
  obtain ⟨f_Ldue, fd_Ldue, m_Ldue, k_Ldue, b_Ldue, F_Ldue⟩ := D_Ldue
  obtain ⟨f_Lrefused, fd_Lrefused, m_Lrefused, k_Lrefused, b_Lrefused, F_Lrefused⟩ := D_Lrefused
  obtain ⟨f_Lexchanged, fd_Lexchanged, m_Lexchanged, k_Lexchanged, b_Lexchanged, F_Lexchanged⟩ := D_Lexchanged
  obtain ⟨f_shortest, fd_shortest, m_shortest, k_shortest, b_shortest, F_shortest⟩ := D_shortest
  refine F.ok lawS (fun vs H Q E h => ?_) (fun cdv A outer s H vs Q E hr h => ⟨tSeq (tAsg (fun σ H Q => tVar 0 σ H fun x H1 => spFeed K [x] H1 Q fun _ _ _ => False) (gName 1)) (tS mg (fun _ _ _ _ => False) b_law), ?_, ?_⟩)
  · obtain ⟨a, ns, rfl, _⟩ := h
    rfl
  · refine pss_cons (ps_set (i := 1) lawS.nd rfl (Or.inl rfl) ?_ rfl (by first | exact .inl rfl | exact .inr rfl)) ?_
    · exact PE.to (pe_call F_Lfeed (hr.mono (by decide)) (by exact rfl) m_Lfeed k_Lfeed b_Lfeed .nil pass0 (pa_cons (pv 0) pa_nil) (by decide) rfl rfl) fun σ H Q ⟨x, h1, h2⟩ => ⟨x, h1, h2⟩
    · exact (pxs_cons (pxs_for (t := (.nm 2)) PassesOwn.never rfl (pix_rg1 T.range_ px_int) (pgx_nm (i := 2) lawS.nd) (pxs_cons (pxs_set (i := 3) lawS.nd (px_call F_Ldraw (hr.mono (by decide)) m_Ldraw k_Ldraw b_Ldraw (pxa_cons (px_v 1) (pxa_cons px_int pxa_nil)))) (pxs_cons (pxs_if (PW.pt (pw_a (pt_c (c_eq hr) (px_v 2) px_int) (pw_a1 (pt_c (c_eq hr) (px_call F_Ldraw (hr.mono (by decide)) m_Ldraw k_Ldraw b_Ldraw (pxa_cons (px_v 1) (pxa_cons px_int pxa_nil))) px_int)))) (pxs_one (pxs_set (i := 3) lawS.nd px_int)) pxs_nil) (pxs_cons (pxs_set (i := 4) lawS.nd (px_call F_Lsteps (hr.mono (by decide)) m_Lsteps k_Lsteps b_Lsteps (pxa_cons (px_v 1) (pxa_cons (px_v 3) pxa_nil)))) (pxs_cons (pxs_set (i := 5) lawS.nd (px_call F_Lhours (hr.mono (by decide)) m_Lhours k_Lhours b_Lhours (pxa_cons (px_v 1) (pxa_cons (px_v 3) pxa_nil)))) (pxs_cons (pxs_set (i := 6) lawS.nd (px_call F_Llength (hr.mono (by decide)) m_Llength k_Llength b_Llength (pxa_cons (px_v 5) (pxa_cons (px_call F_Learly (hr.mono (by decide)) m_Learly k_Learly b_Learly (pxa_cons (px_v 4) (pxa_cons (px_v 5) pxa_nil))) pxa_nil)))) (pxs_cons (pxs_if (PW.pt (pw_o (pt_c (c_ne hr) (px_i (px_call F_shortest (hr.mono (by decide)) m_shortest k_shortest b_shortest (pxa_cons (px_fz (pl_ct call_list_of list_l T.list_ bt_list (pxa_cons (px_v 4) pxa_nil))) (pxa_cons (px_fz (pl_ct call_list_of list_l T.list_ bt_list (pxa_cons (px_v 5) pxa_nil))) pxa_nil))) px_int) (px_v 6)) (pw_o1 (pt_n (pt_b (px_call F_Lbackwards (hr.mono (by decide)) m_Lbackwards k_Lbackwards b_Lbackwards (pxa_cons (px_v 4) (pxa_cons (px_v 5) (pxa_cons (px_v 6) pxa_nil))))))))) (pxs_one (pxs_ret px_bl)) pxs_nil) (pxs_cons (pxs_for (t := (.nm 7)) PassesOwn.never rfl (pix_seq (px_fz (pl_lst (pxa_cons (px_v 6) (pxa_cons (px_add (px_add (px_v 6) px_int) (px_call F_Ldraw (hr.mono (by decide)) m_Ldraw k_Ldraw b_Ldraw (pxa_cons (px_v 1) (pxa_cons px_int pxa_nil)))) (pxa_cons (px_pow px_int px_int) (pxa_cons (px_v 6) pxa_nil))))))) (pgx_nm (i := 7) lawS.nd) (pxs_one (pxs_if (pt_c (c_ne hr) (px_call F_Ltold (hr.mono (by decide)) m_Ltold k_Ltold b_Ltold (pxa_cons (px_v 4) (pxa_cons (px_v 5) (pxa_cons (px_v 7) pxa_nil)))) (px_call F_Ldue (hr.mono (by decide)) m_Ldue k_Ldue b_Ldue (pxa_cons (px_v 4) (pxa_cons (px_v 5) (pxa_cons (px_v 7) pxa_nil))))) (pxs_one (pxs_ret px_bl)) pxs_nil)) [7]) (pxs_cons (pxs_for (t := (.nm 7)) PassesOwn.never rfl (pix_seq (px_fz (pl_lst (pxa_cons (px_sub (px_v 6) px_int) (pxa_cons (px_sub (px_sub (px_v 6) px_int) (px_call F_Ldraw (hr.mono (by decide)) m_Ldraw k_Ldraw b_Ldraw (pxa_cons (px_v 1) (pxa_cons px_int pxa_nil)))) (pxa_cons (px_sub (px_neg px_int) (px_call F_Ldraw (hr.mono (by decide)) m_Ldraw k_Ldraw b_Ldraw (pxa_cons (px_v 1) (pxa_cons px_int pxa_nil)))) (pxa_cons (px_neg (px_pow px_int px_int)) pxa_nil))))))) (pgx_nm (i := 7) lawS.nd) (pxs_one (pxs_if (pt_n (pt_b (px_call F_Lrefused (hr.mono (by decide)) m_Lrefused k_Lrefused b_Lrefused (pxa_cons (px_v 4) (pxa_cons (px_v 5) (pxa_cons (px_v 7) pxa_nil)))))) (pxs_one (pxs_ret px_bl)) pxs_nil)) [7]) (pxs_one (pxs_for (t := (.nm 8)) PassesOwn.never rfl (pix_rg1 T.range_ px_int) (pgx_nm (i := 8) lawS.nd) (pxs_one (pxs_if (pt_n (pt_b (px_call F_Lexchanged (hr.mono (by decide)) m_Lexchanged k_Lexchanged b_Lexchanged (pxa_cons (px_v 1) (pxa_cons (px_v 4) (pxa_cons (px_v 5) (pxa_cons (px_add (px_v 6) (px_call F_Ldraw (hr.mono (by decide)) m_Ldraw k_Ldraw b_Ldraw (pxa_cons (px_v 1) (pxa_cons px_int pxa_nil)))) pxa_nil))))))) (pxs_one (pxs_ret px_bl)) pxs_nil)) [8])))))))))) [3, 4, 5, 6, 7, 8, 2]) (pxs_cons (pxs_set (i := 9) lawS.nd (px_tup (pxa_cons px_str (pxa_cons px_str (pxa_cons (px_tup (pxa_cons px_str pxa_nil)) pxa_nil))))) (pxs_cons (pxs_set (i := 10) lawS.nd (px_tup (pxa_cons px_str (pxa_cons px_str (pxa_cons (px_tup (pxa_cons px_str pxa_nil)) pxa_nil))))) (pxs_cons (pxs_set (i := 11) lawS.nd (px_tup (pxa_cons px_str (pxa_cons px_str (pxa_cons (px_tup (pxa_cons px_str pxa_nil)) pxa_nil))))) (pxs_cons (pxs_if (pt_c (c_ne hr) (px_callR F_latest (hr.mono (by decide)) m_latest k_latest b_latest (pxa_cons (px_fz (pl_lst (pxa_cons (px_v 9) (pxa_cons (px_v 10) (pxa_cons (px_v 11) pxa_nil))))) (pxa_cons (px_fz (pl_lst (pxa_cons px_int (pxa_cons px_int (pxa_cons px_int pxa_nil))))) (pxa_cons px_int pxa_nil)))) (px_fz (pl_lst (pxa_cons px_int (pxa_cons px_int (pxa_cons px_int pxa_nil)))))) (pxs_one (pxs_ret px_bl)) pxs_nil) (pxs_one (pxs_ret (px_and (px_c (c_eq hr) (px_call F_spare (hr.mono (by decide)) m_spare k_spare b_spare (pxa_cons (px_fz (pl_lst (pxa_cons (px_v 9) (pxa_cons (px_v 10) (pxa_cons (px_v 11) pxa_nil))))) (pxa_cons (px_fz (pl_lst (pxa_cons px_int (pxa_cons px_int (pxa_cons px_int pxa_nil))))) pxa_nil))) (px_fz (pl_lst (pxa_cons px_int (pxa_cons px_int (pxa_cons px_int pxa_nil)))))) (px_one (px_c (c_eq hr) (px_callR F_latest (hr.mono (by decide)) m_latest k_latest b_latest (pxa_cons (px_fz (pl_lst pxa_nil)) (pxa_cons (px_fz (pl_lst pxa_nil)) (pxa_cons px_int pxa_nil)))) (px_fz (pl_lst pxa_nil))))))))))))
  · obtain ⟨a, ns, rfl, hl, hO, hS, q⟩ := h
    obtain ⟨cs, hb⟩ := LT ns hl
    have c0 : COk ⟨H, fun _ => none, []⟩ (fun _ => none) [] [] H := law0 H
    refine ⟨_, rfl, ⟨_, _, _, _, a, ns, c0, rfl, hS, fun p F' H' x k => ?_⟩⟩
    exact ⟨_, F', [p], lawSl, _, _, ⟨k, law_sl rfl, rfl⟩, hb, fun x F2 ps2 H2 k2 r2 => by cases r2; exact q H2⟩
end
end Dk61
set_option maxHeartbeats 1000000
namespace Dk61
open PySem L2 PySem.Spec PyProof.Rows DX
abbrev cl (l : List Int) : PyData := .list (l.map .int)
section
variable {h : AF} {f g : EF} {sl : Sl} {cs c1 c2 : Cs}
theorem dLst_v {vs : List Val} {ds : List PyData} (hh : h sl cs = some (vs, c1)) (hf : fzAll vs c1 = some (ds, c2)) (hl : ds.length ≤ 16777216) : dLst h sl cs = some (ds, c2) := by
  unfold dLst
  rw [hh]
  dsimp only
  rw [hf]
  dsimp only
  rw [if_pos hl]
theorem neg_v {i : Int} (hf : f sl cs = some (.fr (.int i), c1)) : dNeg f sl cs = some (.fr (.int (-i)), c1) := by
  simp [hf]
end
theorem feed_lt {c : Nat} {cs : Cs} (h : FeedAt c cs) : c < cs.length := by
  obtain ⟨_, _, _, _, h1, _⟩ := h
  exact (List.getElem?_eq_some_iff.mp h1).1
theorem turned_ok {A : Type} (e : A → PyData) (d : A) {l : List A} {k : Nat} {cs : Cs} (hk : k + 1 < l.length) (hl : l.length ≤ 1000) : d_Lturned [.fr (.list (l.map e)), .fr (.int k)] cs = some (.ret (.fr (.list ((turned l k d).map e))) cs) := by
  refine fn_go (v := .fr (.list ((turned l k d).map e))) (c1 := cs) rfl ?_ (by simp)
  have l1 : (l.take ((k : Int)).toNat).length ≤ l.length := by rw [List.length_take]; exact Nat.min_le_right _ _
  have l2 : (l.drop ((k : Int) + 2).toNat).length ≤ l.length := by rw [List.length_drop]; omega
  have two : ∀ {sl : Sl}, sl[0]? = some (some (.fr (.list (l.map e)))) → sl[1]? = some (some (.fr (.int k))) → dFz (dLst (aCons (d2 oIx (dV 0) (d2 oAdd (dV 1) (dK (.int 1)))) (aCons (d2 oIx (dV 0) (dV 1)) aNil))) sl cs = some (.fr (.list ([l.getD (k + 1) d, l.getD k d].map e)), cs) := fun {sl} a b =>
    dFz_v (dLst_v (aCons_v (ix_v (k := k + 1) (dV_v a) (add_i (dV_v b) dK_v) (at_map e d hk)) (aCons_v (ix_v (dV_v a) (dV_v b) (at_map e d (by omega))) aNil_v)) rfl (by simp))
  have q := cat_v (cs := cs) (sl := [some (.fr (.list (l.map e))), some (.fr (.int k))]) (cat_v (to_v (e := e) (xs := l) (i := k) (f := dV 0) (g := dV 1) (dV_v rfl) (dV_v rfl) (by omega)) (two rfl rfl) (by simp; omega)) (from_v (e := e) (xs := l) (i := (k : Int) + 2) (f := dV 0) (g := d2 oAdd (dV 1) (dK (.int 2))) (dV_v rfl) (add_i (dV_v rfl) dK_v) (by omega)) (by rw [List.length_append]; simp; omega)
  have e1 : ((k : Int)).toNat = k := by omega
  have e2 : ((k : Int) + 2).toNat = k + 2 := by omega
  rw [e1, e2] at q
  exact sRet_v q
theorem ext_getD {l m : List Int} (h : l.length = m.length) (q : ∀ j, j < l.length → l.getD j 0 = m.getD j 0) : l = m := by
  apply List.ext_getElem h
  intro j h1 h2
  have := q j h1
  simpa [List.getD, h1, h2] using this
theorem mr_get {n : Nat} {P : Nat → Int} {j : Nat} (h : j < n) : ((List.range n).map P).getD j 0 = P j := by
  simp [List.getD, h]
def spL (st : List DX.Step) (hs : List Int) : List Int := (List.range st.length).map fun k => late st hs (least st hs) k - ev st hs k
def rows (st : List DX.Step) (hs : List Int) (len : Int) : List (List Int) := [plan st hs st.length, lateL st hs len, spL st hs]
theorem due_ok {st : List DX.Step} {hs : List Int} {len : Int} {cs : Cs} (h : Small st hs) (hn : ∀ x ∈ hs, 0 ≤ x) : d_Ldue [.fr (.list (st.map sc)), .fr (cl hs), .fr (.int len)] cs = some (.ret (.fr (.list ((rows st hs len).map cl))) cs) := by
  have h1 := h.1
  have h2 := h.2.1
  have v1 := Learly_ok (cs := cs) h hn
  have v2 := Llength_ok (hs := hs) (pl := plan st hs st.length) (cs := cs) (by rw [plan_len]; omega) (by rw [plan_len]; omega) hn (plan_nn hn _)
  have v3 := Llate_ok (len := lenOf hs (plan st hs st.length)) (cs := cs) h hn
  have v4 := Llate_ok (len := len) (cs := cs) h hn
  refine fn_go (v := .fr (.list ((rows st hs len).map cl))) (c1 := cs) rfl ?_ (by simp)
  refine (sSeq_n (sSet_v (dFn_v (aCons_v (dV_v rfl) (aCons_v (dV_v rfl) aNil_v)) v1))).trans ?_
  refine (sSeq_n (sSet_v (dFn_v (aCons_v (dV_v rfl) (aCons_v (dV_v rfl) (aCons_v (dFn_v (aCons_v (dV_v rfl) (aCons_v (dV_v rfl) aNil_v)) v2) aNil_v))) v3))).trans ?_
  have hll : ∀ x, (lateL st hs x).length = st.length := fun x => by unfold lateL; rw [List.length_map, List.length_range]
  have run := lcD_map (tg := .nm 5) (cond := bYes) (elt := d2 oSub (d2 oIx (dV 4) (dV 5)) (d2 oIx (dV 3) (dV 5))) (sl := [some (.fr (.list (st.map sc))), some (.fr (cl hs)), some (.fr (.int len)), some (.fr (cl (plan st hs st.length))), some (.fr (cl (lateL st hs (lenOf hs (plan st hs st.length))))), none]) (cs := cs) (fun i : Nat => nI i) (fun _ => true) (fun k => .int (late st hs (least st hs) k - ev st hs k)) (List.range st.length) (fun i hi => ⟨_, e_tgn _ _ _, rfl, fun _ => by
    have hi' := List.mem_range.mp hi
    have a1 := at_map PyData.int 0 (xs := lateL st hs (lenOf hs (plan st hs st.length))) (i := i) (by rw [hll]; exact hi')
    have a2 := at_map PyData.int 0 (xs := plan st hs st.length) (i := i) (by rw [plan_len]; exact hi')
    rw [plan_get hi'] at a2
    unfold lateL at a1
    rw [mr_get hi'] at a1
    exact sub_i (ix_v (dV_v rfl) (dV_v rfl) a1) (ix_v (dV_v rfl) (dV_v rfl) a2)⟩)
  rw [List.filter_eq_self.mpr (fun _ _ => rfl)] at run
  have r3 : dFz (dLc (iRg1 (dCall oLen (aCons (dV 0) aNil))) (.nm 5) [5] bYes (d2 oSub (d2 oIx (dV 4) (dV 5)) (d2 oIx (dV 3) (dV 5)))) [some (.fr (.list (st.map sc))), some (.fr (cl hs)), some (.fr (.int len)), some (.fr (cl (plan st hs st.length))), some (.fr (cl (lateL st hs (lenOf hs (plan st hs st.length))))), none] cs = some (.fr (cl (spL st hs)), cs) := by
    refine dFz_v (dLc_v (iRg1_v (len_v (dV_v rfl)) (by omega) (by rw [List.length_map]; omega)) ?_ ?_)
    · rw [List.length_map, rangeD_nat, List.length_map, List.length_range]
      omega
    · rw [List.length_map, rangeD_nat]
      unfold spL
      rw [List.map_map]
      exact run
  exact sRet_v (dFz_v (dLst_v (aCons_v (dV_v rfl) (aCons_v (dFn_v (aCons_v (dV_v rfl) (aCons_v (dV_v rfl) (aCons_v (dV_v rfl) aNil_v))) v4) (aCons_v r3 aNil_v))) rfl (by show 3 ≤ 16777216; decide)))
theorem rows_len {st : List DX.Step} {hs : List Int} {len : Int} : ∀ r ∈ rows st hs len, r.length = st.length := by
  intro r q
  unfold rows at q
  simp only [List.mem_cons, List.not_mem_nil, or_false] at q
  rcases q with rfl | rfl | rfl
  · exact plan_len _ _ _
  · unfold lateL; rw [List.length_map, List.length_range]
  · unfold spL; rw [List.length_map, List.length_range]
theorem told_loop {b c d e f g h : PyData} {n : Nat} {ss : List PyData} {cs : Cs} (hn : ss.length = n) (hn2 : n ≤ 1000) : ∀ rs : List (List Int), (∀ r ∈ rs, r.length = n) →
    forD (.nm 8) [] [8] cs.length (sIf (bNot (bV (dFn d_Lare_wholes (aCons (dV 8) (aCons (dCall oLen (aCons (dV 0) aNil)) aNil))))) (sRet (dK .none)) sNo) (rs.map cl) [some (.fr (.list ss)), some (.fr b), some (.fr c), some (.fr d), some (.fr e), some (.fr f), some (.fr g), some (.fr h), none] cs = some (.nxt [some (.fr (.list ss)), some (.fr b), some (.fr c), some (.fr d), some (.fr e), some (.fr f), some (.fr g), some (.fr h), none] cs)
  | [], _ => by
    rw [List.map_nil, forD]
    rfl
  | r :: rs, hr => by
    have v : d_Lare_wholes [.fr (cl r), .fr (.int (ss.length : Nat))] cs = some (.ret (.fr (.bool true)) cs) := wholes_ok (ns := r) (m := (ss.length : Nat)) (cs := cs) (by rw [hr r (List.mem_cons_self ..), hn]) (by rw [hr r (List.mem_cons_self ..)]; omega)
    rw [List.map_cons, forD_go rfl (turn_g (sl3 := [some (.fr (.list ss)), some (.fr b), some (.fr c), some (.fr d), some (.fr e), some (.fr f), some (.fr g), some (.fr h), none]) (e_tgn _ _ _) ((sIf_f (bNot_v (k := true) (bV_v (dFn_v (aCons_v (dV_v rfl) (aCons_v (len_v (dV_v rfl)) aNil_v)) v)))).trans rfl) (by simp) (List.take_length (l := cs)))]
    exact told_loop hn hn2 rs fun x hx => hr x (List.mem_cons_of_mem _ hx)
theorem told_ok {st : List DX.Step} {hs : List Int} {len : Int} {cs : Cs} (h : Small st hs) (hl : least st hs ≤ len) : d_Ltold [.fr (.list (st.map sc)), .fr (cl hs), .fr (.int len)] cs = some (.ret (.fr (.list ((rows st hs len).map cl))) cs) := by
  have h1 := h.1
  have v1 := earliest_ok (cs := cs) h
  have v2 := latest_ok (cs := cs) h hl
  have v3 := spare_ok (cs := cs) h
  have lp := told_loop (b := cl hs) (c := .int len) (d := .list (st.map sc)) (e := cl hs) (f := cl (plan st hs st.length)) (g := cl (lateL st hs len)) (h := cl (spL st hs)) (n := st.length) (ss := st.map sc) (cs := cs) (by rw [List.length_map]) (by omega) (rows st hs len) rows_len
  refine fn_go (v := .fr (.list ((rows st hs len).map cl))) (c1 := cs) rfl ?_ (by simp)
  refine (sSeq_n (sSet_v (list_v (dV_v rfl)))).trans ((sSeq_n (sSet_v (list_v (dV_v rfl)))).trans ?_)
  refine (sSeq_n (sSet_v (dFn_v (aCons_v (dV_v rfl) (aCons_v (dV_v rfl) aNil_v)) v1))).trans ?_
  refine (sSeq_n (sSet_v (dFn_v (aCons_v (dV_v rfl) (aCons_v (dV_v rfl) (aCons_v (dV_v rfl) aNil_v))) v2))).trans ?_
  refine (sSeq_n (sSet_v (dFn_v (aCons_v (dV_v rfl) (aCons_v (dV_v rfl) aNil_v)) v3))).trans ?_
  refine (sSeq_n ((sIf_f ((bOr_f (bV_v (d2_v (dV_v rfl) (dV_v rfl) (ne_map es_sc ds_sc (by decide))))).trans (bV_v (d2_v (dV_v rfl) (dV_v rfl) (ne_map es_int ds_int (by decide)))))).trans rfl)).trans ?_
  have three : ∀ {sl : Sl}, sl[5]? = some (some (.fr (cl (plan st hs st.length)))) → sl[6]? = some (some (.fr (cl (lateL st hs len)))) → sl[7]? = some (some (.fr (cl (spL st hs)))) → dFz (dLst (aCons (dV 5) (aCons (dV 6) (aCons (dV 7) aNil)))) sl cs = some (.fr (.list ((rows st hs len).map cl)), cs) := fun {sl} a b c =>
    dFz_v (dLst_v (aCons_v (dV_v a) (aCons_v (dV_v b) (aCons_v (dV_v c) aNil_v))) rfl (by show 3 ≤ 16777216; decide))
  exact (sSeq_n ((sFor_i (iSeq_l (three rfl rfl rfl))).trans lp)).trans (sRet_v (three rfl rfl rfl))
end Dk61
set_option maxHeartbeats 1000000
namespace Dk61
open PySem L2 PySem.Spec PyProof.Rows DX
/-! ### exchanged neighbours -/
theorem turned_rev {A : Type} {l : List A} {k : Nat} {d : A} (h : k + 1 < l.length) : (turned l k d).reverse = turned l.reverse (l.length - 2 - k) d := by
  apply List.ext_getElem
  · rw [List.length_reverse, turned_len h, turned_len (by rw [List.length_reverse]; omega), List.length_reverse]
  · intro j h1 h2
    have h1' := h1
    have hl : (turned l k d).length = l.length := turned_len h
    rw [List.length_reverse, hl] at h1
    have a : (turned l k d).reverse.getD j d = (turned l.reverse (l.length - 2 - k) d).getD j d := by
      rw [rev_get (by omega), turned_get h, turned_get (by rw [List.length_reverse]; omega), hl, rev_get]
      · congr 1
        unfold sw
        split <;> split <;> (try split) <;> (try split) <;> omega
      · unfold sw
        split <;> (try split) <;> omega
    simp only [List.getD, List.getElem?_eq_getElem h1', List.getElem?_eq_getElem h2, Option.getD_some] at a
    exact a
theorem sw_lt {k n j : Nat} (h : k + 1 < n) (hj : j < n) : sw k j < n := by
  unfold sw
  split <;> (try split) <;> omega
theorem least_turned {st : List DX.Step} {hs : List Int} {k : Nat} (h : k + 1 < st.length) (h2 : hs.length = st.length) (hd : dep (st.getD k nilS) (st.getD (k + 1) nilS) = false) : least (turned st k nilS) (turned hs k 0) = least st hs := by
  unfold least lenOf
  have l1 : (turned st k nilS).length = st.length := turned_len h
  have l2 : (turned hs k 0).length = hs.length := turned_len (by omega)
  rw [fin_eq (by rw [plan_len]; omega), fin_eq (by rw [plan_len]; omega), plan_len, plan_len, l1]
  refine top0_congr fun x => ?_
  rw [List.mem_map, List.mem_map]
  constructor
  · rintro ⟨j, hj, rfl⟩
    have hj' := List.mem_range.mp hj
    refine ⟨sw k j, List.mem_range.mpr (sw_lt h hj'), ?_⟩
    rw [plan_get hj', plan_get (sw_lt h hj'), ev_turned h h2 hd j hj', turned_get (by omega)]
  · rintro ⟨j, hj, rfl⟩
    have hj' := List.mem_range.mp hj
    refine ⟨sw k j, List.mem_range.mpr (sw_lt h hj'), ?_⟩
    rw [plan_get hj', plan_get (sw_lt h hj'), ev_turned h h2 hd _ (sw_lt h hj'), turned_get (by omega), sw_sw]
theorem late_turned {st : List DX.Step} {hs : List Int} {len : Int} {k : Nat} (h : k + 1 < st.length) (h2 : hs.length = st.length) (hd : dep (st.getD k nilS) (st.getD (k + 1) nilS) = false) : ∀ j, j < st.length → late (turned st k nilS) (turned hs k 0) len j = late st hs len (sw k j) := by
  intro j hj
  unfold late
  have l1 : (turned st k nilS).length = st.length := turned_len h
  rw [turned_rev h, turned_rev (by omega), l1, h2, turned_get (by omega)]
  have hd' : dep (st.reverse.getD (st.length - 2 - k) nilS) (st.reverse.getD (st.length - 2 - k + 1) nilS) = false := by
    rw [rev_get (by omega), rev_get (by omega), dep_comm]
    have e1 : st.length - 1 - (st.length - 2 - k) = k + 1 := by omega
    have e2 : st.length - 1 - (st.length - 2 - k + 1) = k := by omega
    rw [e1, e2]
    exact hd
  rw [ev_turned (st := st.reverse) (hs := hs.reverse) (k := st.length - 2 - k) (by rw [List.length_reverse]; omega) (by rw [List.length_reverse, List.length_reverse]; exact h2) hd' _ (by rw [List.length_reverse]; omega)]
  have e : sw (st.length - 2 - k) (st.length - 1 - j) = st.length - 1 - sw k j := by
    unfold sw
    split <;> split <;> (try split) <;> (try split) <;> omega
  rw [e]
theorem rows_turned {st : List DX.Step} {hs : List Int} {len : Int} {k : Nat} (h : k + 1 < st.length) (h2 : hs.length = st.length) (hd : dep (st.getD k nilS) (st.getD (k + 1) nilS) = false) : rows (turned st k nilS) (turned hs k 0) len = (rows st hs len).map fun r => turned r k 0 := by
  have l1 : (turned st k nilS).length = st.length := turned_len h
  have key : ∀ (P Q : Nat → Int), (∀ j, j < st.length → P j = Q (sw k j)) → (List.range st.length).map P = turned ((List.range st.length).map Q) k 0 := fun P Q q => by
    refine ext_getD (by rw [turned_len (by simpa using h)]; simp) fun j hj => ?_
    have hj' : j < st.length := by simpa using hj
    rw [turned_get (by simpa using h), mr_get hj', mr_get (sw_lt h hj'), q j hj']
  unfold rows
  rw [List.map_cons, List.map_cons, List.map_cons, List.map_nil, plan_map, plan_map, l1]
  unfold lateL spL
  rw [l1, least_turned h h2 hd]
  rw [key (ev (turned st k nilS) (turned hs k 0)) (ev st hs) (ev_turned h h2 hd), key _ (late st hs len) (late_turned h h2 hd),
    key (fun j => late (turned st k nilS) (turned hs k 0) (least st hs) j - ev (turned st k nilS) (turned hs k 0) j) (fun j => late st hs (least st hs) j - ev st hs j) (fun j hj => by rw [late_turned h h2 hd j hj, ev_turned h h2 hd j hj])]
theorem eqv_rows (rs : List (List Int)) : PyData.eqv (.list (rs.map cl)) (.list (rs.map cl)) = true := by
  rw [q_l]
  exact ea_map (fun l => by simp [ea_map es_int]) rs
theorem dep_rows (rs : List (List Int)) : (PyData.list (rs.map cl)).depth ≤ 64 := by
  have := da_map (f := cl) (n := 1) (fun l => by have := da_map ds_int l; simp; omega) rs
  simp
  omega
theorem small_turned {st : List DX.Step} {hs : List Int} {k : Nat} (h : Small st hs) (hk : k + 1 < st.length) : Small (turned st k nilS) (turned hs k 0) := by
  obtain ⟨h1, h2, h3⟩ := h
  refine ⟨by rw [turned_len hk]; exact h1, by rw [turned_len hk, turned_len (by omega)]; exact h2, fun s q => ?_⟩
  unfold turned at q
  rcases List.mem_append.mp q with q | q
  · rcases List.mem_append.mp q with q | q
    · exact h3 s (List.mem_of_mem_take q)
    · simp only [List.mem_cons, List.not_mem_nil, or_false] at q
      rcases q with rfl | rfl
      · exact h3 _ (getD_mem hk)
      · exact h3 _ (getD_mem (by omega))
  · exact h3 s (List.mem_of_mem_drop q)
theorem exchanged_ok {c : Nat} {st : List DX.Step} {hs : List Int} {len : Int} {cs : Cs} (hf : FeedAt c cs) (h : Small st hs) (hn : ∀ x ∈ hs, 0 ≤ x) (hl : least st hs ≤ len) :
    ∃ cs', d_Lexchanged [.ce c, .fr (.list (st.map sc)), .fr (cl hs), .fr (.int len)] cs = some (.ret (.fr (.bool true)) cs') ∧ FeedTo c cs cs' := by
  have h1 := h.1
  have h2 := h.2.1
  by_cases h0 : st.length < 2
  · refine ⟨cs, fn_go (v := .fr (.bool true)) (c1 := cs) rfl ?_ (by simp), FeedTo.refl hf⟩
    exact sSeq_r ((sIf_t (bV_v (k := true) (d2_v (len_v (dV_v rfl)) dK_v (by rw [List.length_map]; simp; omega)))).trans (sRet_v dK_v))
  · obtain ⟨k, cs1, e1, k0, k1, f1⟩ := draw_ok (m := (st.length : Nat) - 1) hf (by omega) (by omega)
    obtain ⟨k, rfl⟩ := Int.eq_ofNat_of_zero_le k0
    have hk : k + 1 < st.length := by omega
    have v1 : d_Ldep [.fr (sc (st.getD k nilS)), .fr (sc (st.getD (k + 1) nilS))] cs1 = some (.ret (.fr (.bool (dep (st.getD k nilS) (st.getD (k + 1) nilS)))) cs1) := Ldep_ok (h.2.2 _ (getD_mem (by omega)))
    have hpre : ∀ (G : SF), (sSeq (sIf (bV (d2 oLt (dCall oLen (aCons (dV 1) aNil)) (dK (.int 2)))) (sRet (dK (.bool true))) sNo) (sSeq (sSet 4 (dFn d_Ldraw (aCons (dV 0) (aCons (d2 oSub (dCall oLen (aCons (dV 1) aNil)) (dK (.int 1))) aNil)))) G)) [some (.ce c), some (.fr (.list (st.map sc))), some (.fr (cl hs)), some (.fr (.int len)), none, none, none] cs = G [some (.ce c), some (.fr (.list (st.map sc))), some (.fr (cl hs)), some (.fr (.int len)), some (.fr (.int k)), none, none] cs1 := fun G => by
      refine (sSeq_n ((sIf_f (bV_v (k := false) (d2_v (len_v (dV_v rfl)) dK_v (by rw [List.length_map]; simp; omega)))).trans rfl)).trans ?_
      exact sSeq_n (sSet_v (draw_v rfl (sub_i (len_v (dV_v rfl)) dK_v) (by rw [List.length_map]; exact e1)))
    have tdep : (bV (dFn d_Ldep (aCons (d2 oIx (dV 1) (dV 4)) (aCons (d2 oIx (dV 1) (d2 oAdd (dV 4) (dK (.int 1)))) aNil)))) [some (.ce c), some (.fr (.list (st.map sc))), some (.fr (cl hs)), some (.fr (.int len)), some (.fr (.int k)), none, none] cs1 = some (dep (st.getD k nilS) (st.getD (k + 1) nilS), cs1) :=
      bV_v (dFn_v (aCons_v (ix_v (dV_v rfl) (dV_v rfl) (at_map sc nilS (by omega))) (aCons_v (ixi_v (k := (k : Int) + 1) (dV_v rfl) (add_i (dV_v rfl) dK_v) (by exact at_map sc nilS hk)) aNil_v)) v1)
    cases hd : dep (st.getD k nilS) (st.getD (k + 1) nilS) with
    | true =>
      rw [hd] at tdep
      refine ⟨cs1, fn_go (v := .fr (.bool true)) (c1 := cs1) rfl ((hpre _).trans (sSeq_r ((sIf_t tdep).trans (sRet_v dK_v)))) (by rw [← f1.len]; simp), f1⟩
    | false =>
      rw [hd] at tdep
      have v2 := due_ok (len := len) (cs := cs1) h hn
      have v3 : d_Lturned [.fr (.list (st.map sc)), .fr (.int k)] cs1 = _ := turned_ok sc nilS (cs := cs1) hk (by omega)
      have v4 : d_Lturned [.fr (.list (hs.map .int)), .fr (.int k)] cs1 = _ := turned_ok PyData.int 0 (cs := cs1) (l := hs) (k := k) (by omega) (by omega)
      have v5 := told_ok (len := len) (cs := cs1) (small_turned h hk) (by rw [least_turned hk h2 hd]; exact hl)
      rw [rows_turned hk h2 hd] at v5
      have run := lcD_map (tg := .nm 6) (cond := bYes) (elt := dFn d_Lturned (aCons (dV 6) (aCons (dV 4) aNil))) (sl := [some (.ce c), some (.fr (.list (st.map sc))), some (.fr (cl hs)), some (.fr (.int len)), some (.fr (.int k)), some (.fr (.list ((rows st hs len).map cl))), none]) (cs := cs1) cl (fun _ => true) (fun r => cl (turned r k 0)) (rows st hs len) (fun r hr => ⟨_, e_tgn _ _ _, rfl, fun _ => dFn_v (aCons_v (dV_v rfl) (aCons_v (dV_v rfl) aNil_v)) (turned_ok PyData.int 0 (cs := cs1) (l := r) (k := k) (by rw [rows_len r hr]; omega) (by rw [rows_len r hr]; omega))⟩)
      rw [List.filter_eq_self.mpr (fun _ _ => rfl)] at run
      have em : (rows st hs len).map (fun r => cl (turned r k 0)) = ((rows st hs len).map fun r => turned r k 0).map cl := by rw [List.map_map]; rfl
      rw [em] at run
      refine ⟨cs1, fn_go (v := .fr (.bool true)) (c1 := cs1) rfl ((hpre _).trans ((sSeq_n ((sIf_f tdep).trans rfl)).trans ?_)) (by rw [← f1.len]; simp), f1⟩
      refine (sSeq_n (sSet_v (dFn_v (aCons_v (dV_v rfl) (aCons_v (dV_v rfl) (aCons_v (dV_v rfl) aNil_v))) v2))).trans (sRet_v ?_)
      exact d2_v (dFn_v (aCons_v (dFn_v (aCons_v (dV_v rfl) (aCons_v (dV_v rfl) aNil_v)) v3) (aCons_v (dFn_v (aCons_v (dV_v rfl) (aCons_v (dV_v rfl) aNil_v)) v4) (aCons_v (dV_v rfl) aNil_v))) v5) (dFz_v (dLc_v (iSeq_l (dV_v rfl)) (by show 3 ≤ 16777216; decide) run)) (eq_same (eqv_rows _) (dep_rows _))

/-! ### refused, backwards -/
theorem refused_ok {st : List DX.Step} {hs : List Int} {len : Int} {cs : Cs} (h : Small st hs) (hl : len < least st hs) : d_Lrefused [.fr (.list (st.map sc)), .fr (cl hs), .fr (.int len)] cs = some (.ret (.fr (.bool true)) cs) := by
  have hc : d_latest [.fr (.list (st.map sc)), .fr (cl hs), .fr (.int len)] cs = _ := latest_no (cs := cs) h (by omega)
  have e1 : kitB "int" "int" = some true := by decide +kernel
  have e2 : kitB "int" "bool" = some false := by decide +kernel
  have hw : d_Lis_whole [.fr (.int len)] cs = some (.ret (.fr (.bool true)) cs) := by
    simp [d_Lis_whole, b_Lis_whole, tyC, tyD, e1, e2]
  refine fn_go (v := .fr (.bool true)) (c1 := cs) rfl ?_ (by simp)
  refine sSeq_r (sTry_ex (x := "TooShort") (f := "length") (d := .int len) (sl1 := [some (.fr (.list (st.map sc))), some (.fr (cl hs)), some (.fr (.int len)), none]) (cs1 := cs) (o := .ret (.fr (.bool true)) cs) ?_ fun a dd => ?_)
  · generalize d_latest = L at hc ⊢
    simp [hc]
  · simp [hw, e_clr]
theorem backwards_ok {st : List DX.Step} {hs : List Int} {len : Int} {cs : Cs} (h : Small st hs) (hn : ∀ x ∈ hs, 0 ≤ x) : d_Lbackwards [.fr (.list (st.map sc)), .fr (cl hs), .fr (.int len)] cs = some (.ret (.fr (.bool true)) cs) := by
  have h1 := h.1
  have h2 := h.2.1
  have v1 := Llate_ok (len := len) (cs := cs) h hn
  have sm : Small st.reverse hs.reverse := ⟨by rw [List.length_reverse]; exact h1, by rw [List.length_reverse, List.length_reverse]; exact h2, fun s q => h.2.2 s (List.mem_reverse.mp q)⟩
  have v2 := earliest_ok (cs := cs) sm
  have lt : ∀ {A : Type} (e : A → PyData) (d : A) (l : List A), l.length = st.length → ∀ {i : Nat} {sl : Sl} {f : EF}, i < st.length → f sl cs = some (.fr (.list (l.map e)), cs) → sl[3]? = some (some (.fr (.int (st.length : Nat)))) → sl[6]? = some (some (.fr (.int (i : Nat)))) → d2 oIx f (d2 oSub (d2 oSub (dV 3) (dK (.int 1))) (dV 6)) sl cs = some (.fr (e (l.getD (st.length - 1 - i) d)), cs) := fun {A} e d l hl {i sl f} hi q a b => by
    have := at_map e d (xs := l) (i := st.length - 1 - i) (by omega)
    have ei : ((st.length - 1 - i : Nat) : Int) = (st.length : Int) - 1 - i := by omega
    rw [ei] at this
    exact ixi_v (k := (st.length : Int) - 1 - i) q (sub_i (sub_i (dV_v a) dK_v) (dV_v b)) this
  have comp : ∀ {A : Type} (e : A → PyData) (P : Nat → A) (f : EF) (sl : Sl), sl[3]? = some (some (.fr (.int (st.length : Nat)))) → (∀ i, i < st.length → f ((wp [6] sl).set 6 (some (.fr (.int (i : Nat))))) cs = some (.fr (e (P i)), cs)) → dFz (dLc (iRg1 (dV 3)) (.nm 6) [6] bYes f) sl cs = some (.fr (.list (((List.range st.length).map P).map e)), cs) := fun {A} e P f sl a q => by
    have run := lcD_map (tg := .nm 6) (cond := bYes) (elt := f) (sl := wp [6] sl) (cs := cs) (fun i : Nat => nI i) (fun _ => true) (fun i => e (P i)) (List.range st.length) (fun i hi => ⟨_, e_tgn _ _ _, rfl, fun _ => q i (List.mem_range.mp hi)⟩)
    rw [List.filter_eq_self.mpr (fun _ _ => rfl)] at run
    refine dFz_v (dLc_v (iRg1_v (dV_v a) (by omega) (by omega)) ?_ ?_)
    · rw [rangeD_nat, List.length_map, List.length_range]
      omega
    · rw [rangeD_nat, List.map_map]
      exact run
  have rs : (List.range st.length).map (fun i => st.getD (st.length - 1 - i) nilS) = st.reverse := by
    apply List.ext_getElem
    · simp
    · intro j a b
      simp only [List.length_map, List.length_range] at a
      have := rev_get (l := st) (d := nilS) (i := j) a
      simp only [List.getD, List.getElem?_eq_getElem b, Option.getD_some] at this
      simp only [List.getElem_map, List.getElem_range, List.getD]
      exact this.symm
  have rh : (List.range st.length).map (fun i => hs.getD (st.length - 1 - i) 0) = hs.reverse := by
    apply List.ext_getElem
    · simp [h2]
    · intro j a b
      simp only [List.length_map, List.length_range] at a
      have := rev_get (l := hs) (d := 0) (i := j) (by omega)
      simp only [List.getD, List.getElem?_eq_getElem b, Option.getD_some] at this
      rw [h2] at this
      simp only [List.getElem_map, List.getElem_range, List.getD]
      exact this.symm
  have hll : (lateL st hs len).length = st.length := by unfold lateL; rw [List.length_map, List.length_range]
  refine fn_go (v := .fr (.bool true)) (c1 := cs) rfl ?_ (by simp)
  refine (sSeq_n (sSet_v (v := .fr (.int (st.length : Nat))) (c1 := cs) (by rw [len_v (dV_v rfl), List.length_map]))).trans ?_
  refine (sSeq_n (sSet_v (dFn_v (aCons_v (dV_v rfl) (aCons_v (dV_v rfl) (aCons_v (dV_v rfl) aNil_v))) v1))).trans ?_
  have c1 := comp sc (fun i => st.getD (st.length - 1 - i) nilS) (d2 oIx (dV 0) (d2 oSub (d2 oSub (dV 3) (dK (.int 1))) (dV 6))) [some (.fr (.list (st.map sc))), some (.fr (cl hs)), some (.fr (.int len)), some (.fr (.int (st.length : Nat))), some (.fr (cl (lateL st hs len))), none, none] rfl (fun i hi => lt sc nilS st rfl hi (dV_v rfl) rfl rfl)
  have c2 := comp PyData.int (fun i => hs.getD (st.length - 1 - i) 0) (d2 oIx (dV 1) (d2 oSub (d2 oSub (dV 3) (dK (.int 1))) (dV 6))) [some (.fr (.list (st.map sc))), some (.fr (cl hs)), some (.fr (.int len)), some (.fr (.int (st.length : Nat))), some (.fr (cl (lateL st hs len))), none, none] rfl (fun i hi => lt PyData.int 0 hs h2 hi (dV_v rfl) rfl rfl)
  rw [rs] at c1
  rw [rh] at c2
  refine (sSeq_n (sSet_v (dFn_v (aCons_v c1 (aCons_v c2 aNil_v)) v2))).trans (sRet_v ?_)
  have c3 := comp PyData.int (fun i => ev st.reverse hs.reverse i) (d2 oSub (d2 oSub (dV 2) (d2 oIx (dV 4) (d2 oSub (d2 oSub (dV 3) (dK (.int 1))) (dV 6)))) (d2 oIx (dV 1) (d2 oSub (d2 oSub (dV 3) (dK (.int 1))) (dV 6)))) [some (.fr (.list (st.map sc))), some (.fr (cl hs)), some (.fr (.int len)), some (.fr (.int (st.length : Nat))), some (.fr (cl (lateL st hs len))), some (.fr (cl (plan st.reverse hs.reverse st.reverse.length))), none] rfl (fun i hi => by
    have e : ev st.reverse hs.reverse i = len - (lateL st hs len).getD (st.length - 1 - i) 0 - hs.getD (st.length - 1 - i) 0 := by
      unfold lateL
      rw [mr_get (by omega)]
      unfold late
      have : st.length - 1 - (st.length - 1 - i) = i := by omega
      rw [this]
      omega
    rw [e]
    exact sub_i (sub_i (dV_v rfl) (lt PyData.int 0 (lateL st hs len) hll hi (dV_v rfl) rfl rfl)) (lt PyData.int 0 hs h2 hi (dV_v rfl) rfl rfl))
  have ep : (List.range st.length).map (fun i => ev st.reverse hs.reverse i) = plan st.reverse hs.reverse st.reverse.length := by rw [plan_map, List.length_reverse]
  rw [ep] at c3
  exact d2_v (dV_v rfl) c3 (eq_map es_int ds_int (by decide))
end Dk61
set_option maxHeartbeats 1000000
namespace Dk61
open PySem L2 PySem.Spec PyProof.Rows DX
abbrev S0 : Sl := [none, some (.ce 0), none, none, none, none, none, none, none, none, none, none]
abbrev S1 (d m : Int) (st : List DX.Step) (hs : List Int) (le : Int) : Sl := [none, some (.ce 0), some (.fr (.int d)), some (.fr (.int m)), some (.fr (.list (st.map sc))), some (.fr (cl hs)), some (.fr (.int le)), none, none, none, none, none]
theorem loopA {d m le : Int} {st : List DX.Step} {hs : List Int} {cs : Cs} (h0 : 0 < cs.length) (h : Small st hs) (hn : ∀ x ∈ hs, 0 ≤ x) : ∀ L : List Int, (∀ x ∈ L, least st hs ≤ x) →
    forD (.nm 7) [] [7] cs.length (sIf (bV (d2 oNe (dFn d_Ltold (aCons (dV 4) (aCons (dV 5) (aCons (dV 7) aNil)))) (dFn d_Ldue (aCons (dV 4) (aCons (dV 5) (aCons (dV 7) aNil)))))) (sRet (dK (.bool false))) sNo) (L.map .int) (S1 d m st hs le) cs = some (.nxt (S1 d m st hs le) cs)
  | [], _ => by
    rw [List.map_nil, forD]
    rfl
  | x :: L, hL => by
    have v1 := told_ok (cs := cs) h (hL x (List.mem_cons_self ..))
    have v2 := due_ok (len := x) (cs := cs) h hn
    rw [List.map_cons, forD_go rfl (turn_g (sl3 := S1 d m st hs le) (e_tgn _ _ _) ((sIf_f (bV_v (d2_v (dFn_v (aCons_v (dV_v rfl) (aCons_v (dV_v rfl) (aCons_v (dV_v rfl) aNil_v))) v1) (dFn_v (aCons_v (dV_v rfl) (aCons_v (dV_v rfl) (aCons_v (dV_v rfl) aNil_v))) v2) (ne_same (eqv_rows _) (dep_rows _))))).trans rfl) (by simp [h0]) (List.take_length (l := cs)))]
    exact loopA h0 h hn L fun y hy => hL y (List.mem_cons_of_mem _ hy)
theorem loopB {d m le : Int} {st : List DX.Step} {hs : List Int} {cs : Cs} (h0 : 0 < cs.length) (h : Small st hs) : ∀ L : List Int, (∀ x ∈ L, x < least st hs) →
    forD (.nm 7) [] [7] cs.length (sIf (bNot (bV (dFn d_Lrefused (aCons (dV 4) (aCons (dV 5) (aCons (dV 7) aNil)))))) (sRet (dK (.bool false))) sNo) (L.map .int) (S1 d m st hs le) cs = some (.nxt (S1 d m st hs le) cs)
  | [], _ => by
    rw [List.map_nil, forD]
    rfl
  | x :: L, hL => by
    have v1 := refused_ok (cs := cs) h (hL x (List.mem_cons_self ..))
    rw [List.map_cons, forD_go rfl (turn_g (sl3 := S1 d m st hs le) (e_tgn _ _ _) ((sIf_f (bNot_v (k := true) (bV_v (dFn_v (aCons_v (dV_v rfl) (aCons_v (dV_v rfl) (aCons_v (dV_v rfl) aNil_v))) v1)))).trans rfl) (by simp [h0]) (List.take_length (l := cs)))]
    exact loopB h0 h L fun y hy => hL y (List.mem_cons_of_mem _ hy)
theorem loopC {d m : Int} {st : List DX.Step} {hs : List Int} {cs : Cs} (hf : FeedAt 0 cs) (h : Small st hs) (hn : ∀ x ∈ hs, 0 ≤ x) : ∃ cs', forD (.nm 8) [] [8] cs.length (sIf (bNot (bV (dFn d_Lexchanged (aCons (dV 1) (aCons (dV 4) (aCons (dV 5) (aCons (d2 oAdd (dV 6) (dFn d_Ldraw (aCons (dV 1) (aCons (dK (.int 3)) aNil)))) aNil))))))) (sRet (dK (.bool false))) sNo) (rangeD 0 3) (S1 d m st hs (least st hs)) cs = some (.nxt (S1 d m st hs (least st hs)) cs') ∧ FeedTo 0 cs cs' := by
  obtain ⟨o, e, cs', rfl, f⟩ := forD_J (tg := .nm 8) (g := []) (ws := [8]) (n := cs.length) (body := (sIf (bNot (bV (dFn d_Lexchanged (aCons (dV 1) (aCons (dV 4) (aCons (dV 5) (aCons (d2 oAdd (dV 6) (dFn d_Ldraw (aCons (dV 1) (aCons (dK (.int 3)) aNil)))) aNil))))))) (sRet (dK (.bool false))) sNo)) (its := rangeD 0 3)
    (fun k sl c => sl = S1 d m st hs (least st hs) ∧ FeedTo 0 cs c) (fun o => ∃ cs', o = .nxt (S1 d m st hs (least st hs)) cs' ∧ FeedTo 0 cs cs')
    (fun _ _ _ _ => rfl) (fun k x sl c hd ⟨hsl, f⟩ => by
      subst hsl
      obtain ⟨r, c1, e1, r0, r1, f1⟩ := draw_ok (m := 3) f.1 (by decide) (by decide)
      obtain ⟨c2, e2, f2⟩ := exchanged_ok (len := least st hs + r) f1.1 h hn (by omega)
      have hl : c2.length = cs.length := by rw [f2.len, f1.len, f.len]
      have h0 := feed_lt hf
      refine ⟨_, turn_g (sl3 := S1 d m st hs (least st hs)) (c2 := c2) (e_tgn _ _ _) ((sIf_f (bNot_v (k := true) (bV_v (dFn_v (aCons_v (dV_v rfl) (aCons_v (dV_v rfl) (aCons_v (dV_v rfl) (aCons_v (add_i (dV_v rfl) (draw_v rfl dK_v e1)) aNil_v)))) e2)))).trans rfl) (by simp [h0]) (by rw [← hl, List.take_length]), rfl, (f.trans f1).trans f2⟩) (fun sl c ⟨hsl, f⟩ => ⟨c, by rw [hsl], f⟩) _ _ ⟨rfl, FeedTo.refl hf⟩
  exact ⟨cs', e, f⟩
theorem turn_law {d : Int} {cs : Cs} (h : FeedAt 0 cs) : ∃ cs', turnD (.nm 2) [3, 4, 5, 6, 7, 8, 2] cs.length (sSeq (sSet 3 (dFn d_Ldraw (aCons (dV 1) (aCons (dK (.int 9)) aNil)))) (sSeq (sIf (bAnd (bV (d2 oEq (dV 2) (dK (.int 0)))) (bV (d2 oEq (dFn d_Ldraw (aCons (dV 1) (aCons (dK (.int 6)) aNil))) (dK (.int 0))))) (sSet 3 (dK (.int 24))) sNo) (sSeq (sSet 4 (dFn d_Lsteps (aCons (dV 1) (aCons (dV 3) aNil)))) (sSeq (sSet 5 (dFn d_Lhours (aCons (dV 1) (aCons (dV 3) aNil)))) (sSeq (sSet 6 (dFn d_Llength (aCons (dV 5) (aCons (dFn d_Learly (aCons (dV 4) (aCons (dV 5) aNil))) aNil)))) (sSeq (sIf (bOr (bV (d2 oNe (d2 oIx (dFn d_shortest (aCons (dFz (dCallL oList (aCons (dV 4) aNil))) (aCons (dFz (dCallL oList (aCons (dV 5) aNil))) aNil))) (dK (.int 0))) (dV 6))) (bNot (bV (dFn d_Lbackwards (aCons (dV 4) (aCons (dV 5) (aCons (dV 6) aNil))))))) (sRet (dK (.bool false))) sNo) (sSeq (sFor (iSeq (dFz (dLst (aCons (dV 6) (aCons (d2 oAdd (d2 oAdd (dV 6) (dK (.int 1))) (dFn d_Ldraw (aCons (dV 1) (aCons (dK (.int 40)) aNil)))) (aCons (d2 oPow (dK (.int 10)) (dK (.int 59))) (aCons (dV 6) aNil))))))) (.nm 7) [7] (sIf (bV (d2 oNe (dFn d_Ltold (aCons (dV 4) (aCons (dV 5) (aCons (dV 7) aNil)))) (dFn d_Ldue (aCons (dV 4) (aCons (dV 5) (aCons (dV 7) aNil)))))) (sRet (dK (.bool false))) sNo)) (sSeq (sFor (iSeq (dFz (dLst (aCons (d2 oSub (dV 6) (dK (.int 1))) (aCons (d2 oSub (d2 oSub (dV 6) (dK (.int 1))) (dFn d_Ldraw (aCons (dV 1) (aCons (dK (.int 40)) aNil)))) (aCons (d2 oSub (dNeg (dK (.int 1))) (dFn d_Ldraw (aCons (dV 1) (aCons (dK (.int 9)) aNil)))) (aCons (dNeg (d2 oPow (dK (.int 10)) (dK (.int 59)))) aNil))))))) (.nm 7) [7] (sIf (bNot (bV (dFn d_Lrefused (aCons (dV 4) (aCons (dV 5) (aCons (dV 7) aNil)))))) (sRet (dK (.bool false))) sNo)) (sFor (iRg1 (dK (.int 3))) (.nm 8) [8] (sIf (bNot (bV (dFn d_Lexchanged (aCons (dV 1) (aCons (dV 4) (aCons (dV 5) (aCons (d2 oAdd (dV 6) (dFn d_Ldraw (aCons (dV 1) (aCons (dK (.int 3)) aNil)))) aNil))))))) (sRet (dK (.bool false))) sNo)))))))))) (.int d) S0 cs = some (.go S0 cs') ∧ FeedTo 0 cs cs' := by
  obtain ⟨m0, cs1, e1, a0, a1, f1⟩ := draw_ok (m := 9) h (by decide) (by decide)
  have step2 : ∃ (m : Int) (cs2 : Cs), (sIf (bAnd (bV (d2 oEq (dV 2) (dK (.int 0)))) (bV (d2 oEq (dFn d_Ldraw (aCons (dV 1) (aCons (dK (.int 6)) aNil))) (dK (.int 0))))) (sSet 3 (dK (.int 24))) sNo) [none, some (.ce 0), some (.fr (.int d)), some (.fr (.int m0)), none, none, none, none, none, none, none, none] cs1 =
      some (.nxt [none, some (.ce 0), some (.fr (.int d)), some (.fr (.int m)), none, none, none, none, none, none, none, none] cs2) ∧ FeedTo 0 cs1 cs2 ∧ 0 ≤ m ∧ m ≤ 24 := by
    by_cases hd : d = 0
    · obtain ⟨r, cs2, e2, r0, r1, f2⟩ := draw_ok (m := 6) f1.1 (by decide) (by decide)
      by_cases hr : r = 0
      · refine ⟨24, cs2, ?_, f2, by decide, by decide⟩
        refine (sIf_t ((bAnd_t (bV_v (k := true) (d2_v (dV_v rfl) dK_v ?_))).trans (bV_v (k := true) (d2_v (draw_v rfl dK_v e2) dK_v ?_)))).trans ((sSet_v dK_v).trans rfl)
        · simp [hd]
        · simp [hr]
      · refine ⟨m0, cs2, ?_, f2, a0, by omega⟩
        refine (sIf_f ((bAnd_t (bV_v (k := true) (d2_v (dV_v rfl) dK_v ?_))).trans (bV_v (k := false) (d2_v (draw_v rfl dK_v e2) dK_v ?_)))).trans rfl
        · simp [hd]
        · simp [hr]
    · refine ⟨m0, cs1, ?_, FeedTo.refl f1.1, a0, by omega⟩
      refine (sIf_f (bAnd_f (bV_v (k := false) (d2_v (dV_v rfl) dK_v ?_)))).trans rfl
      simp [hd]
  obtain ⟨m, cs2, e2, f2, m1, m2⟩ := step2
  obtain ⟨st, cs3, e3, f3, sl3, hst⟩ := steps_ok (c := 0) (many := m) f2.1 m1 (by omega)
  obtain ⟨hs, cs4, e4, f4, hl4, hg⟩ := hours_ok (c := 0) (many := m) f3.1 m1 (by omega)
  have sm : Small st hs := ⟨by omega, by omega, fun s q => Nat.le_trans (hst s q).2.2.2.2 (by decide)⟩
  have hn0 : ∀ x ∈ hs, 0 ≤ x := fun x q => by have := hg x q; omega
  have l0 : 0 ≤ least st hs := top0_nn (fin_nn hn0 (plan_nn hn0 _))
  have v1 := Learly_ok (cs := cs4) sm hn0
  have v2 : d_Llength [.fr (cl hs), .fr (cl (plan st hs st.length))] cs4 = some (.ret (.fr (.int (least st hs))) cs4) := Llength_ok (cs := cs4) (by rw [plan_len]; omega) (by rw [plan_len]; omega) hn0 (plan_nn hn0 _)
  have v3 := shortest_ok (cs := cs4) sm
  have v4 := backwards_ok (len := least st hs) (cs := cs4) sm hn0
  obtain ⟨r5, cs5, e5, r50, r51, f5⟩ := draw_ok (m := 40) f4.1 (by decide) (by decide)
  have A1 := loopA (d := d) (m := m) (le := least st hs) (cs := cs5) (feed_lt f5.1) sm hn0 [least st hs, least st hs + 1 + r5, 10 ^ 59, least st hs] (by
    intro x q
    have big : least st hs ≤ 10 ^ 59 := by
      have hb : ∀ x ∈ fin hs (plan st hs st.length), x ≤ 10 ^ 59 := by
        have hp : ∀ n, ∀ x ∈ plan st hs n, x ≤ 100 * (n : Int) := by
          intro n
          induction n with
          | zero => intro x hx; simp [plan] at hx
          | succ n ih =>
            intro x hx
            rw [plan] at hx
            rcases List.mem_append.mp hx with z | z
            · have := ih x z
              omega
            · rw [List.mem_singleton.mp z]
              unfold top0
              cases em : maxI (ends st hs (plan st hs n) n) with
              | none => show (0 : Int) ≤ _; omega
              | some y =>
                obtain ⟨i, hi, rfl⟩ := List.mem_map.mp (maxI_is em).1
                have hi' := List.mem_range.mp (List.mem_filter.mp hi).1
                have g1 := ih _ (getD_mem (d := 0) (i := i) (xs := plan st hs n) (by rw [plan_len]; exact hi'))
                have g2 : hs.getD i 0 ≤ 99 := by
                  by_cases z2 : i < hs.length
                  · exact (hg _ (DX.getD_mem z2)).2
                  · simp [List.getD, z2]
                show (plan st hs n).getD i 0 + hs.getD i 0 ≤ _
                omega
        intro x hx
        unfold fin at hx
        obtain ⟨p, hp1, rfl⟩ := List.mem_map.mp hx
        obtain ⟨z1, z2⟩ := List.of_mem_zip hp1
        have g1 := hp _ _ z1
        have g2 := hg _ z2
        have : (10 : Int) ^ 59 ≥ 1000000 := by decide
        omega
      unfold least lenOf top0
      cases em : maxI (fin hs (plan st hs st.length)) with
      | none => decide
      | some y => exact hb _ (maxI_is em).1
    simp only [List.mem_cons, List.not_mem_nil, or_false] at q
    rcases q with rfl | rfl | rfl | rfl
    · omega
    · omega
    · exact big
    · omega)
  obtain ⟨r6, cs6, e6, r60, r61, f6⟩ := draw_ok (m := 40) f5.1 (by decide) (by decide)
  obtain ⟨r7, cs7, e7, r70, r71, f7⟩ := draw_ok (m := 9) f6.1 (by decide) (by decide)
  have B1 := loopB (d := d) (m := m) (le := least st hs) (cs := cs7) (feed_lt f7.1) sm [least st hs - 1, least st hs - 1 - r6, -1 - r7, -10 ^ 59] (by
    intro x q
    simp only [List.mem_cons, List.not_mem_nil, or_false] at q
    rcases q with rfl | rfl | rfl | rfl
    · omega
    · omega
    · omega
    · have : -(10 : Int) ^ 59 < 0 := by decide
      omega)
  obtain ⟨cs8, C1, f8⟩ := loopC (d := d) (m := m) f7.1 sm hn0
  have hll : cs8.length = cs.length := by rw [f8.len, f7.len, f6.len, f5.len, f4.len, f3.len, f2.len, f1.len]
  refine ⟨cs8, turn_g (sl2 := S1 d m st hs (least st hs)) (c2 := cs8) (e_tgn _ _ _) ?_ ?_ ?_, ((((((f1.trans f2).trans f3).trans f4).trans f5).trans f6).trans f7).trans f8⟩
  · refine (sSeq_n (sSet_v (draw_v rfl dK_v e1))).trans ?_
    refine (sSeq_n e2).trans ?_
    refine (sSeq_n (sSet_v (dFn_v (aCons_v (dV_v rfl) (aCons_v (dV_v rfl) aNil_v)) e3))).trans ?_
    refine (sSeq_n (sSet_v (dFn_v (aCons_v (dV_v rfl) (aCons_v (dV_v rfl) aNil_v)) e4))).trans ?_
    refine (sSeq_n (sSet_v (dFn_v (aCons_v (dV_v rfl) (aCons_v (dFn_v (aCons_v (dV_v rfl) (aCons_v (dV_v rfl) aNil_v)) v1) aNil_v)) v2))).trans ?_
    have sh0 : ∀ {sl : Sl}, sl[4]? = some (some (.fr (.list (st.map sc)))) → sl[5]? = some (some (.fr (cl hs))) → d2 oIx (dFn d_shortest (aCons (dFz (dCallL oList (aCons (dV 4) aNil))) (aCons (dFz (dCallL oList (aCons (dV 5) aNil))) aNil))) (dK (.int 0)) sl cs4 = some (.fr (.int (least st hs)), cs4) := fun {sl} a b =>
      d2_v (dFn_v (aCons_v (list_v (dV_v a)) (aCons_v (list_v (dV_v b)) aNil_v)) v3) dK_v (by simp)
    refine (sSeq_n ((sIf_f ((bOr_f (bV_v (k := false) (d2_v (sh0 rfl rfl) (dV_v rfl) (by simp)))).trans (bNot_v (k := true) (bV_v (dFn_v (aCons_v (dV_v rfl) (aCons_v (dV_v rfl) (aCons_v (dV_v rfl) aNil_v))) v4))))).trans rfl)).trans ?_
    have p59 : ∀ {sl : Sl} {c : Cs}, d2 oPow (dK (.int 10)) (dK (.int 59)) sl c = some (.fr (.int (10 ^ 59)), c) := by intro sl c; simp
    refine (sSeq_n ((sFor_i (iSeq_l (dFz_v (dLst_v (aCons_v (dV_v rfl) (aCons_v (add_i (add_i (dV_v rfl) dK_v) (draw_v rfl dK_v e5)) (aCons_v p59 (aCons_v (dV_v rfl) aNil_v)))) rfl (by show 4 ≤ 16777216; decide))))).trans A1)).trans ?_
    refine (sSeq_n ((sFor_i (iSeq_l (dFz_v (dLst_v (aCons_v (sub_i (dV_v rfl) dK_v) (aCons_v (sub_i (sub_i (dV_v rfl) dK_v) (draw_v rfl dK_v e6)) (aCons_v (sub_i (neg_v dK_v) (draw_v rfl dK_v e7)) (aCons_v (neg_v p59) aNil_v)))) rfl (by show 4 ≤ 16777216; decide))))).trans B1)).trans ?_
    exact (sFor_i (iRg1_v dK_v (by decide) (by decide))).trans C1
  · have := feed_lt h
    simp [this]
  · rw [← hll, List.take_length]
abbrev saw : DX.Step := (Str.ofString "ann", Str.ofString "saw", [Str.ofString "plank"])
abbrev oil : DX.Step := (Str.ofString "bob", Str.ofString "oil", [Str.ofString "lathe"])
abbrev glue : DX.Step := (Str.ofString "bob", Str.ofString "glue", [Str.ofString "plank"])
theorem sc_v {a b t : Str} {sl : Sl} {cs : Cs} : dTup (aCons (dK (.str a)) (aCons (dK (.str b)) (aCons (dTup (aCons (dK (.str t)) aNil)) aNil))) sl cs = some (.fr (sc (a, b, [t])), cs) :=
  dTup_v (aCons_v dK_v (aCons_v dK_v (aCons_v (dTup_v (aCons_v dK_v aNil_v) rfl (by simp)) aNil_v))) rfl (by simp)
theorem lawTrue : LawTrue := fun ns _ => by
  obtain ⟨o, e, cs', rfl, f⟩ := forD_J (tg := .nm 2) (g := []) (ws := [3, 4, 5, 6, 7, 8, 2]) (n := 1) (body := (sSeq (sSet 3 (dFn d_Ldraw (aCons (dV 1) (aCons (dK (.int 9)) aNil)))) (sSeq (sIf (bAnd (bV (d2 oEq (dV 2) (dK (.int 0)))) (bV (d2 oEq (dFn d_Ldraw (aCons (dV 1) (aCons (dK (.int 6)) aNil))) (dK (.int 0))))) (sSet 3 (dK (.int 24))) sNo) (sSeq (sSet 4 (dFn d_Lsteps (aCons (dV 1) (aCons (dV 3) aNil)))) (sSeq (sSet 5 (dFn d_Lhours (aCons (dV 1) (aCons (dV 3) aNil)))) (sSeq (sSet 6 (dFn d_Llength (aCons (dV 5) (aCons (dFn d_Learly (aCons (dV 4) (aCons (dV 5) aNil))) aNil)))) (sSeq (sIf (bOr (bV (d2 oNe (d2 oIx (dFn d_shortest (aCons (dFz (dCallL oList (aCons (dV 4) aNil))) (aCons (dFz (dCallL oList (aCons (dV 5) aNil))) aNil))) (dK (.int 0))) (dV 6))) (bNot (bV (dFn d_Lbackwards (aCons (dV 4) (aCons (dV 5) (aCons (dV 6) aNil))))))) (sRet (dK (.bool false))) sNo) (sSeq (sFor (iSeq (dFz (dLst (aCons (dV 6) (aCons (d2 oAdd (d2 oAdd (dV 6) (dK (.int 1))) (dFn d_Ldraw (aCons (dV 1) (aCons (dK (.int 40)) aNil)))) (aCons (d2 oPow (dK (.int 10)) (dK (.int 59))) (aCons (dV 6) aNil))))))) (.nm 7) [7] (sIf (bV (d2 oNe (dFn d_Ltold (aCons (dV 4) (aCons (dV 5) (aCons (dV 7) aNil)))) (dFn d_Ldue (aCons (dV 4) (aCons (dV 5) (aCons (dV 7) aNil)))))) (sRet (dK (.bool false))) sNo)) (sSeq (sFor (iSeq (dFz (dLst (aCons (d2 oSub (dV 6) (dK (.int 1))) (aCons (d2 oSub (d2 oSub (dV 6) (dK (.int 1))) (dFn d_Ldraw (aCons (dV 1) (aCons (dK (.int 40)) aNil)))) (aCons (d2 oSub (dNeg (dK (.int 1))) (dFn d_Ldraw (aCons (dV 1) (aCons (dK (.int 9)) aNil)))) (aCons (dNeg (d2 oPow (dK (.int 10)) (dK (.int 59)))) aNil))))))) (.nm 7) [7] (sIf (bNot (bV (dFn d_Lrefused (aCons (dV 4) (aCons (dV 5) (aCons (dV 7) aNil)))))) (sRet (dK (.bool false))) sNo)) (sFor (iRg1 (dK (.int 3))) (.nm 8) [8] (sIf (bNot (bV (dFn d_Lexchanged (aCons (dV 1) (aCons (dV 4) (aCons (dV 5) (aCons (d2 oAdd (dV 6) (dFn d_Ldraw (aCons (dV 1) (aCons (dK (.int 3)) aNil)))) aNil))))))) (sRet (dK (.bool false))) sNo))))))))))) (its := rangeD 0 2)
    (fun k sl c => sl = S0 ∧ FeedTo 0 [some (feed0 ns)] c) (fun o => ∃ cs', o = .nxt S0 cs' ∧ FeedTo 0 [some (feed0 ns)] cs')
    (fun _ _ _ _ => rfl) (fun k d sl c hd ⟨hsl, f⟩ => by
      subst hsl
      obtain ⟨rfl, hk⟩ := range_get hd
      obtain ⟨c', e, f'⟩ := turn_law (d := 0 + (k : Nat)) f.1
      rw [f.len] at e
      exact ⟨_, e, rfl, f.trans f'⟩) (fun sl c ⟨hsl, f⟩ => ⟨c, by rw [hsl], f⟩) _ _ ⟨rfl, FeedTo.refl (feed_at0 ns)⟩
  have hi : iRg1 (dK (.int 2)) lawSl [some (feed0 ns)] = some (rangeD 0 2, [], [some (feed0 ns)]) := iRg1_v dK_v (by decide) (by decide)
  have sm : Small [saw, oil, glue] [3, 2, 1] := ⟨by simp, rfl, fun s q => by
    simp only [List.mem_cons, List.not_mem_nil, or_false] at q
    rcases q with rfl | rfl | rfl <;> (show 1 ≤ 100; decide)⟩
  have sm0 : Small [] [] := ⟨by simp, rfl, fun s q => by simp at q⟩
  have v1 := latest_ok (len := 5) (cs := cs') sm (by decide +kernel)
  have v2 := spare_ok (cs := cs') sm
  have v3 := latest_ok (len := 0) (cs := cs') sm0 (by decide +kernel)
  rw [show lateL [saw, oil, glue] [3, 2, 1] 5 = [1, 2, 4] by decide +kernel] at v1
  rw [show ((List.range [saw, oil, glue].length).map fun k => late [saw, oil, glue] [3, 2, 1] (least [saw, oil, glue] [3, 2, 1]) k - ev [saw, oil, glue] [3, 2, 1] k) = [0, 1, 0] by decide +kernel] at v2
  refine ⟨cs', ?_⟩
  unfold b_law
  refine (sSeq_n ((sFor_i hi).trans e)).trans ?_
  refine (sSeq_n (sSet_v (sc_v (a := Str.ofString "ann") (b := Str.ofString "saw") (t := Str.ofString "plank")))).trans ((sSeq_n (sSet_v (sc_v (a := Str.ofString "bob") (b := Str.ofString "oil") (t := Str.ofString "lathe")))).trans ((sSeq_n (sSet_v (sc_v (a := Str.ofString "bob") (b := Str.ofString "glue") (t := Str.ofString "plank")))).trans ?_))
  have l3 : ∀ {x y z : Int} {sl : Sl}, dFz (dLst (aCons (dK (.int x)) (aCons (dK (.int y)) (aCons (dK (.int z)) aNil)))) sl cs' = some (.fr (.list ([x, y, z].map .int)), cs') := by intro x y z sl; simp
  have l0 : ∀ {A : Type} {e : A → PyData} {sl : Sl}, dFz (dLst aNil) sl cs' = some (.fr (.list (([] : List A).map e)), cs') := by intro A e sl; simp
  have s3 : ∀ {i j k : Nat} {x y z : DX.Step} {sl : Sl}, sl[i]? = some (some (.fr (sc x))) → sl[j]? = some (some (.fr (sc y))) → sl[k]? = some (some (.fr (sc z))) → dFz (dLst (aCons (dV i) (aCons (dV j) (aCons (dV k) aNil)))) sl cs' = some (.fr (.list ([x, y, z].map sc)), cs') := fun {i j k x y z sl} h1 h2 h3 =>
    dFz_v (dLst_v (aCons_v (dV_v h1) (aCons_v (dV_v h2) (aCons_v (dV_v h3) aNil_v))) rfl (by simp))
  refine (sSeq_n ((sIf_f (bV_v (d2_v (dFn_v (aCons_v (s3 (x := saw) (y := oil) (z := glue) rfl rfl rfl) (aCons_v l3 (aCons_v dK_v aNil_v))) v1) l3 (ne_map es_int ds_int (by decide))))).trans rfl)).trans ?_
  exact sRet_v ((dAnd_t (d2_v (dFn_v (aCons_v (s3 (x := saw) (y := oil) (z := glue) rfl rfl rfl) (aCons_v l3 aNil_v)) v2) l3 (eq_map es_int ds_int (by decide)))).trans (d2_v (dFn_v (aCons_v (l0 (e := sc)) (aCons_v (l0 (e := PyData.int)) (aCons_v dK_v aNil_v))) v3) (l0 (e := PyData.int)) (eq_map (l := ([] : List Int)) es_int ds_int (by decide))))
end Dk61
set_option maxHeartbeats 4000000
namespace Dk61
open PySem L2 PySem.Spec PyProof.Rows DX
theorem all_mk {l : PySem.W.OpenLaw} {w : World} {K : PySem.W.Frag} {h : Heap} {mg : Str → Option Value} (LT : LawTrue) {fa f_depends f_length_of f_Ldraw f_Lis_whole f_Ldep f_Llength f_Lturned f_earliest f_hours_from f_Lare_wholes f_Lstep f_Lhours f_Learly f_Llate f_heaviest_chain f_Lsteps f_Ldue f_Lbackwards f_shortest f_latest f_spare f_Lrefused f_Ltold f_Lexchanged f_Lfeed f_law c_TooShort i_TooShort c_BadHours c_ShopError : Addr} {od_depends an_depends od_length_of an_length_of od_Ldraw an_Ldraw od_Lis_whole an_Lis_whole od_Ldep an_Ldep od_Llength an_Llength od_Lturned an_Lturned od_earliest an_earliest od_hours_from an_hours_from od_Lare_wholes an_Lare_wholes od_Lstep an_Lstep od_Lhours an_Lhours od_Learly an_Learly od_Llate an_Llate od_heaviest_chain an_heaviest_chain od_Lsteps an_Lsteps od_Ldue an_Ldue od_Lbackwards an_Lbackwards od_shortest an_shortest od_latest an_latest od_spare an_spare od_Lrefused an_Lrefused od_Ltold an_Ltold od_Lexchanged an_Lexchanged od_Lfeed an_Lfeed od_law an_law od_i_TooShort an_i_TooShort : Option Addr} {sl_depends sl_length_of sl_Ldraw sl_Lis_whole sl_Ldep sl_Llength sl_Lturned sl_earliest sl_hours_from sl_Lare_wholes sl_Lstep sl_Lhours sl_Learly sl_Llate sl_heaviest_chain sl_Lsteps sl_Ldue sl_Lbackwards sl_shortest sl_latest sl_spare sl_Lrefused sl_Ltold sl_Lexchanged sl_Lfeed sl_law sl_i_TooShort : Array (Option Value)} {oc_depends kV_depends dc_depends pm_depends cd_depends ct_depends oc_length_of kV_length_of dc_length_of pm_length_of cd_length_of ct_length_of oc_Ldraw kV_Ldraw dc_Ldraw pm_Ldraw cd_Ldraw ct_Ldraw oc_Lis_whole kV_Lis_whole dc_Lis_whole pm_Lis_whole cd_Lis_whole ct_Lis_whole oc_Ldep kV_Ldep dc_Ldep pm_Ldep cd_Ldep ct_Ldep oc_Llength kV_Llength dc_Llength pm_Llength cd_Llength ct_Llength oc_Lturned kV_Lturned dc_Lturned pm_Lturned cd_Lturned ct_Lturned oc_earliest kV_earliest dc_earliest pm_earliest cd_earliest ct_earliest oc_hours_from kV_hours_from dc_hours_from pm_hours_from cd_hours_from ct_hours_from oc_Lare_wholes kV_Lare_wholes dc_Lare_wholes pm_Lare_wholes cd_Lare_wholes ct_Lare_wholes oc_Lstep kV_Lstep dc_Lstep pm_Lstep cd_Lstep ct_Lstep oc_Lhours kV_Lhours dc_Lhours pm_Lhours cd_Lhours ct_Lhours oc_Learly kV_Learly dc_Learly pm_Learly cd_Learly ct_Learly oc_Llate kV_Llate dc_Llate pm_Llate cd_Llate ct_Llate oc_heaviest_chain kV_heaviest_chain dc_heaviest_chain pm_heaviest_chain cd_heaviest_chain ct_heaviest_chain oc_Lsteps kV_Lsteps dc_Lsteps pm_Lsteps cd_Lsteps ct_Lsteps oc_Ldue kV_Ldue dc_Ldue pm_Ldue cd_Ldue ct_Ldue oc_Lbackwards kV_Lbackwards dc_Lbackwards pm_Lbackwards cd_Lbackwards ct_Lbackwards oc_shortest kV_shortest dc_shortest pm_shortest cd_shortest ct_shortest oc_latest kV_latest dc_latest pm_latest cd_latest ct_latest oc_spare kV_spare dc_spare pm_spare cd_spare ct_spare oc_Lrefused kV_Lrefused dc_Lrefused pm_Lrefused cd_Lrefused ct_Lrefused oc_Ltold kV_Ltold dc_Ltold pm_Ltold cd_Ltold ct_Ltold oc_Lexchanged kV_Lexchanged dc_Lexchanged pm_Lexchanged cd_Lexchanged ct_Lexchanged oc_Lfeed kV_Lfeed dc_Lfeed pm_Lfeed cd_Lfeed ct_Lfeed oc_law kV_law dc_law pm_law cd_law ct_law oc_i_TooShort kV_i_TooShort dc_i_TooShort pm_i_TooShort cd_i_TooShort ct_i_TooShort : Value} {nm_TooShort q_TooShort : Str} {N_TooShort : Addr} {bs_TooShort bm_TooShort sub_TooShort : List Value} {sn_TooShort : List Str} {ab_TooShort : Bool} {col_TooShort : Option Bool} {dd_TooShort : Option Addr} {m0_TooShort m1_TooShort m2_TooShort m3_TooShort m5_TooShort : Option Value} (X : K.In h) (G : h.Ns mainGlobals mg) (hfa : mg "law" = some (.ref fa))
    (a_depends : PySem.W.nsIn K mainGlobals "depends" = some (some (.ref f_depends)))
    (l_depends : K.lookup f_depends = some ⟨oc_depends, od_depends, .func (PySem.W.fnOf "depends" "depends" (defArgs (top 5)) (defBody (top 5)) (defScope (top 5)) .none kV_depends dc_depends pm_depends an_depends cd_depends ct_depends), sl_depends⟩)
    (c_depends : PySem.W.codeIn K cd_depends "depends" = true)
    (k_depends : PySem.W.keepIn K (.ref f_depends) = true)
    (a_length_of : PySem.W.nsIn K mainGlobals "length_of" = some (some (.ref f_length_of)))
    (l_length_of : K.lookup f_length_of = some ⟨oc_length_of, od_length_of, .func (PySem.W.fnOf "length_of" "length_of" (defArgs (top 7)) (defBody (top 7)) (defScope (top 7)) .none kV_length_of dc_length_of pm_length_of an_length_of cd_length_of ct_length_of), sl_length_of⟩)
    (c_length_of : PySem.W.codeIn K cd_length_of "length_of" = true)
    (k_length_of : PySem.W.keepIn K (.ref f_length_of) = true)
    (a_Ldraw : PySem.W.nsIn K mainGlobals "_law_draw" = some (some (.ref f_Ldraw)))
    (l_Ldraw : K.lookup f_Ldraw = some ⟨oc_Ldraw, od_Ldraw, .func (PySem.W.fnOf "_law_draw" "_law_draw" (defArgs (top 16)) (defBody (top 16)) (defScope (top 16)) .none kV_Ldraw dc_Ldraw pm_Ldraw an_Ldraw cd_Ldraw ct_Ldraw), sl_Ldraw⟩)
    (c_Ldraw : PySem.W.codeIn K cd_Ldraw "_law_draw" = true)
    (k_Ldraw : PySem.W.keepIn K (.ref f_Ldraw) = true)
    (a_Lis_whole : PySem.W.nsIn K mainGlobals "_law_is_whole" = some (some (.ref f_Lis_whole)))
    (l_Lis_whole : K.lookup f_Lis_whole = some ⟨oc_Lis_whole, od_Lis_whole, .func (PySem.W.fnOf "_law_is_whole" "_law_is_whole" (defArgs (top 17)) (defBody (top 17)) (defScope (top 17)) .none kV_Lis_whole dc_Lis_whole pm_Lis_whole an_Lis_whole cd_Lis_whole ct_Lis_whole), sl_Lis_whole⟩)
    (c_Lis_whole : PySem.W.codeIn K cd_Lis_whole "_law_is_whole" = true)
    (k_Lis_whole : PySem.W.keepIn K (.ref f_Lis_whole) = true)
    (a_Ldep : PySem.W.nsIn K mainGlobals "_law_dep" = some (some (.ref f_Ldep)))
    (l_Ldep : K.lookup f_Ldep = some ⟨oc_Ldep, od_Ldep, .func (PySem.W.fnOf "_law_dep" "_law_dep" (defArgs (top 21)) (defBody (top 21)) (defScope (top 21)) .none kV_Ldep dc_Ldep pm_Ldep an_Ldep cd_Ldep ct_Ldep), sl_Ldep⟩)
    (c_Ldep : PySem.W.codeIn K cd_Ldep "_law_dep" = true)
    (k_Ldep : PySem.W.keepIn K (.ref f_Ldep) = true)
    (a_Llength : PySem.W.nsIn K mainGlobals "_law_length" = some (some (.ref f_Llength)))
    (l_Llength : K.lookup f_Llength = some ⟨oc_Llength, od_Llength, .func (PySem.W.fnOf "_law_length" "_law_length" (defArgs (top 25)) (defBody (top 25)) (defScope (top 25)) .none kV_Llength dc_Llength pm_Llength an_Llength cd_Llength ct_Llength), sl_Llength⟩)
    (c_Llength : PySem.W.codeIn K cd_Llength "_law_length" = true)
    (k_Llength : PySem.W.keepIn K (.ref f_Llength) = true)
    (a_Lturned : PySem.W.nsIn K mainGlobals "_law_turned" = some (some (.ref f_Lturned)))
    (l_Lturned : K.lookup f_Lturned = some ⟨oc_Lturned, od_Lturned, .func (PySem.W.fnOf "_law_turned" "_law_turned" (defArgs (top 29)) (defBody (top 29)) (defScope (top 29)) .none kV_Lturned dc_Lturned pm_Lturned an_Lturned cd_Lturned ct_Lturned), sl_Lturned⟩)
    (c_Lturned : PySem.W.codeIn K cd_Lturned "_law_turned" = true)
    (k_Lturned : PySem.W.keepIn K (.ref f_Lturned) = true)
    (a_earliest : PySem.W.nsIn K mainGlobals "earliest" = some (some (.ref f_earliest)))
    (l_earliest : K.lookup f_earliest = some ⟨oc_earliest, od_earliest, .func (PySem.W.fnOf "earliest" "earliest" (defArgs (top 8)) (defBody (top 8)) (defScope (top 8)) .none kV_earliest dc_earliest pm_earliest an_earliest cd_earliest ct_earliest), sl_earliest⟩)
    (c_earliest : PySem.W.codeIn K cd_earliest "earliest" = true)
    (k_earliest : PySem.W.keepIn K (.ref f_earliest) = true)
    (a_hours_from : PySem.W.nsIn K mainGlobals "hours_from" = some (some (.ref f_hours_from)))
    (l_hours_from : K.lookup f_hours_from = some ⟨oc_hours_from, od_hours_from, .func (PySem.W.fnOf "hours_from" "hours_from" (defArgs (top 9)) (defBody (top 9)) (defScope (top 9)) .none kV_hours_from dc_hours_from pm_hours_from an_hours_from cd_hours_from ct_hours_from), sl_hours_from⟩)
    (c_hours_from : PySem.W.codeIn K cd_hours_from "hours_from" = true)
    (k_hours_from : PySem.W.keepIn K (.ref f_hours_from) = true)
    (a_Lare_wholes : PySem.W.nsIn K mainGlobals "_law_are_wholes" = some (some (.ref f_Lare_wholes)))
    (l_Lare_wholes : K.lookup f_Lare_wholes = some ⟨oc_Lare_wholes, od_Lare_wholes, .func (PySem.W.fnOf "_law_are_wholes" "_law_are_wholes" (defArgs (top 18)) (defBody (top 18)) (defScope (top 18)) .none kV_Lare_wholes dc_Lare_wholes pm_Lare_wholes an_Lare_wholes cd_Lare_wholes ct_Lare_wholes), sl_Lare_wholes⟩)
    (c_Lare_wholes : PySem.W.codeIn K cd_Lare_wholes "_law_are_wholes" = true)
    (k_Lare_wholes : PySem.W.keepIn K (.ref f_Lare_wholes) = true)
    (a_Lstep : PySem.W.nsIn K mainGlobals "_law_step" = some (some (.ref f_Lstep)))
    (l_Lstep : K.lookup f_Lstep = some ⟨oc_Lstep, od_Lstep, .func (PySem.W.fnOf "_law_step" "_law_step" (defArgs (top 19)) (defBody (top 19)) (defScope (top 19)) .none kV_Lstep dc_Lstep pm_Lstep an_Lstep cd_Lstep ct_Lstep), sl_Lstep⟩)
    (c_Lstep : PySem.W.codeIn K cd_Lstep "_law_step" = true)
    (k_Lstep : PySem.W.keepIn K (.ref f_Lstep) = true)
    (a_Lhours : PySem.W.nsIn K mainGlobals "_law_hours" = some (some (.ref f_Lhours)))
    (l_Lhours : K.lookup f_Lhours = some ⟨oc_Lhours, od_Lhours, .func (PySem.W.fnOf "_law_hours" "_law_hours" (defArgs (top 22)) (defBody (top 22)) (defScope (top 22)) .none kV_Lhours dc_Lhours pm_Lhours an_Lhours cd_Lhours ct_Lhours), sl_Lhours⟩)
    (c_Lhours : PySem.W.codeIn K cd_Lhours "_law_hours" = true)
    (k_Lhours : PySem.W.keepIn K (.ref f_Lhours) = true)
    (a_Learly : PySem.W.nsIn K mainGlobals "_law_early" = some (some (.ref f_Learly)))
    (l_Learly : K.lookup f_Learly = some ⟨oc_Learly, od_Learly, .func (PySem.W.fnOf "_law_early" "_law_early" (defArgs (top 23)) (defBody (top 23)) (defScope (top 23)) .none kV_Learly dc_Learly pm_Learly an_Learly cd_Learly ct_Learly), sl_Learly⟩)
    (c_Learly : PySem.W.codeIn K cd_Learly "_law_early" = true)
    (k_Learly : PySem.W.keepIn K (.ref f_Learly) = true)
    (a_Llate : PySem.W.nsIn K mainGlobals "_law_late" = some (some (.ref f_Llate)))
    (l_Llate : K.lookup f_Llate = some ⟨oc_Llate, od_Llate, .func (PySem.W.fnOf "_law_late" "_law_late" (defArgs (top 24)) (defBody (top 24)) (defScope (top 24)) .none kV_Llate dc_Llate pm_Llate an_Llate cd_Llate ct_Llate), sl_Llate⟩)
    (c_Llate : PySem.W.codeIn K cd_Llate "_law_late" = true)
    (k_Llate : PySem.W.keepIn K (.ref f_Llate) = true)
    (a_heaviest_chain : PySem.W.nsIn K mainGlobals "heaviest_chain" = some (some (.ref f_heaviest_chain)))
    (l_heaviest_chain : K.lookup f_heaviest_chain = some ⟨oc_heaviest_chain, od_heaviest_chain, .func (PySem.W.fnOf "heaviest_chain" "heaviest_chain" (defArgs (top 10)) (defBody (top 10)) (defScope (top 10)) .none kV_heaviest_chain dc_heaviest_chain pm_heaviest_chain an_heaviest_chain cd_heaviest_chain ct_heaviest_chain), sl_heaviest_chain⟩)
    (c_heaviest_chain : PySem.W.codeIn K cd_heaviest_chain "heaviest_chain" = true)
    (k_heaviest_chain : PySem.W.keepIn K (.ref f_heaviest_chain) = true)
    (a_Lsteps : PySem.W.nsIn K mainGlobals "_law_steps" = some (some (.ref f_Lsteps)))
    (l_Lsteps : K.lookup f_Lsteps = some ⟨oc_Lsteps, od_Lsteps, .func (PySem.W.fnOf "_law_steps" "_law_steps" (defArgs (top 20)) (defBody (top 20)) (defScope (top 20)) .none kV_Lsteps dc_Lsteps pm_Lsteps an_Lsteps cd_Lsteps ct_Lsteps), sl_Lsteps⟩)
    (c_Lsteps : PySem.W.codeIn K cd_Lsteps "_law_steps" = true)
    (k_Lsteps : PySem.W.keepIn K (.ref f_Lsteps) = true)
    (a_Ldue : PySem.W.nsIn K mainGlobals "_law_due" = some (some (.ref f_Ldue)))
    (l_Ldue : K.lookup f_Ldue = some ⟨oc_Ldue, od_Ldue, .func (PySem.W.fnOf "_law_due" "_law_due" (defArgs (top 28)) (defBody (top 28)) (defScope (top 28)) .none kV_Ldue dc_Ldue pm_Ldue an_Ldue cd_Ldue ct_Ldue), sl_Ldue⟩)
    (c_Ldue : PySem.W.codeIn K cd_Ldue "_law_due" = true)
    (k_Ldue : PySem.W.keepIn K (.ref f_Ldue) = true)
    (a_Lbackwards : PySem.W.nsIn K mainGlobals "_law_backwards" = some (some (.ref f_Lbackwards)))
    (l_Lbackwards : K.lookup f_Lbackwards = some ⟨oc_Lbackwards, od_Lbackwards, .func (PySem.W.fnOf "_law_backwards" "_law_backwards" (defArgs (top 31)) (defBody (top 31)) (defScope (top 31)) .none kV_Lbackwards dc_Lbackwards pm_Lbackwards an_Lbackwards cd_Lbackwards ct_Lbackwards), sl_Lbackwards⟩)
    (c_Lbackwards : PySem.W.codeIn K cd_Lbackwards "_law_backwards" = true)
    (k_Lbackwards : PySem.W.keepIn K (.ref f_Lbackwards) = true)
    (a_shortest : PySem.W.nsIn K mainGlobals "shortest" = some (some (.ref f_shortest)))
    (l_shortest : K.lookup f_shortest = some ⟨oc_shortest, od_shortest, .func (PySem.W.fnOf "shortest" "shortest" (defArgs (top 11)) (defBody (top 11)) (defScope (top 11)) .none kV_shortest dc_shortest pm_shortest an_shortest cd_shortest ct_shortest), sl_shortest⟩)
    (c_shortest : PySem.W.codeIn K cd_shortest "shortest" = true)
    (k_shortest : PySem.W.keepIn K (.ref f_shortest) = true)
    (a_latest : PySem.W.nsIn K mainGlobals "latest" = some (some (.ref f_latest)))
    (l_latest : K.lookup f_latest = some ⟨oc_latest, od_latest, .func (PySem.W.fnOf "latest" "latest" (defArgs (top 12)) (defBody (top 12)) (defScope (top 12)) .none kV_latest dc_latest pm_latest an_latest cd_latest ct_latest), sl_latest⟩)
    (c_latest : PySem.W.codeIn K cd_latest "latest" = true)
    (k_latest : PySem.W.keepIn K (.ref f_latest) = true)
    (a_spare : PySem.W.nsIn K mainGlobals "spare" = some (some (.ref f_spare)))
    (l_spare : K.lookup f_spare = some ⟨oc_spare, od_spare, .func (PySem.W.fnOf "spare" "spare" (defArgs (top 13)) (defBody (top 13)) (defScope (top 13)) .none kV_spare dc_spare pm_spare an_spare cd_spare ct_spare), sl_spare⟩)
    (c_spare : PySem.W.codeIn K cd_spare "spare" = true)
    (k_spare : PySem.W.keepIn K (.ref f_spare) = true)
    (a_Lrefused : PySem.W.nsIn K mainGlobals "_law_refused" = some (some (.ref f_Lrefused)))
    (l_Lrefused : K.lookup f_Lrefused = some ⟨oc_Lrefused, od_Lrefused, .func (PySem.W.fnOf "_law_refused" "_law_refused" (defArgs (top 26)) (defBody (top 26)) (defScope (top 26)) .none kV_Lrefused dc_Lrefused pm_Lrefused an_Lrefused cd_Lrefused ct_Lrefused), sl_Lrefused⟩)
    (c_Lrefused : PySem.W.codeIn K cd_Lrefused "_law_refused" = true)
    (k_Lrefused : PySem.W.keepIn K (.ref f_Lrefused) = true)
    (a_Ltold : PySem.W.nsIn K mainGlobals "_law_told" = some (some (.ref f_Ltold)))
    (l_Ltold : K.lookup f_Ltold = some ⟨oc_Ltold, od_Ltold, .func (PySem.W.fnOf "_law_told" "_law_told" (defArgs (top 27)) (defBody (top 27)) (defScope (top 27)) .none kV_Ltold dc_Ltold pm_Ltold an_Ltold cd_Ltold ct_Ltold), sl_Ltold⟩)
    (c_Ltold : PySem.W.codeIn K cd_Ltold "_law_told" = true)
    (k_Ltold : PySem.W.keepIn K (.ref f_Ltold) = true)
    (a_Lexchanged : PySem.W.nsIn K mainGlobals "_law_exchanged" = some (some (.ref f_Lexchanged)))
    (l_Lexchanged : K.lookup f_Lexchanged = some ⟨oc_Lexchanged, od_Lexchanged, .func (PySem.W.fnOf "_law_exchanged" "_law_exchanged" (defArgs (top 30)) (defBody (top 30)) (defScope (top 30)) .none kV_Lexchanged dc_Lexchanged pm_Lexchanged an_Lexchanged cd_Lexchanged ct_Lexchanged), sl_Lexchanged⟩)
    (c_Lexchanged : PySem.W.codeIn K cd_Lexchanged "_law_exchanged" = true)
    (k_Lexchanged : PySem.W.keepIn K (.ref f_Lexchanged) = true)
    (a_Lfeed : PySem.W.nsIn K mainGlobals "_law_feed" = some (some (.ref f_Lfeed)))
    (l_Lfeed : K.lookup f_Lfeed = some ⟨oc_Lfeed, od_Lfeed, .func (PySem.W.fnOf "_law_feed" "_law_feed" (defArgs (top 15)) (defBody (top 15)) (defScope (top 15)) .none kV_Lfeed dc_Lfeed pm_Lfeed an_Lfeed cd_Lfeed ct_Lfeed), sl_Lfeed⟩)
    (c_Lfeed : PySem.W.codeIn K cd_Lfeed "_law_feed" = true)
    (k_Lfeed : PySem.W.keepIn K (.ref f_Lfeed) = true)
    (a_law : PySem.W.nsIn K mainGlobals "law" = some (some (.ref f_law)))
    (l_law : K.lookup f_law = some ⟨oc_law, od_law, .func (PySem.W.fnOf "law" "law" (defArgs (top 32)) (defBody (top 32)) (defScope (top 32)) .none kV_law dc_law pm_law an_law cd_law ct_law), sl_law⟩)
    (c_law : PySem.W.codeIn K cd_law "law" = true)
    (k_law : PySem.W.keepIn K (.ref f_law) = true)
    (aC_TooShort : PySem.W.nsIn K mainGlobals "TooShort" = some (some (.ref c_TooShort)))
    (xL_TooShort : K.lookup c_TooShort = some (excClassObj nm_TooShort q_TooShort c_TooShort N_TooShort bs_TooShort bm_TooShort true sn_TooShort sub_TooShort ab_TooShort col_TooShort dd_TooShort m0_TooShort m1_TooShort m2_TooShort m3_TooShort m5_TooShort "ValueError.__new__"))
    (rv_TooShort : PySem.HandSPX.refsVE bm_TooShort = true)
    (sa_TooShort : PySem.W.findIn K (.ref c_TooShort) "__setattr__" = some (some (.builtin "object.__setattr__")))
    (ga_TooShort : PySem.W.findIn K (.ref c_TooShort) "__getattribute__" = some (some (.builtin "BaseException.__getattribute__")))
    (gg_TooShort : PySem.W.findIn K (.ref c_TooShort) "__getattr__" = some none)
    (nb_TooShort : PySem.W.findIn K (.ref c_TooShort) "length" = some none)
    (ai_TooShort : PySem.W.findIn K (.ref c_TooShort) "__init__" = some (some (.ref i_TooShort)))
    (ti_TooShort : PySem.W.typeIn K (.ref i_TooShort) = some (.type "function"))
    (li_TooShort : K.lookup i_TooShort = some ⟨oc_i_TooShort, od_i_TooShort, .func (PySem.W.fnOf "__init__" "TooShort.__init__" (defArgs (inClass (top 3) 0)) (defBody (inClass (top 3) 0)) (defScope (inClass (top 3) 0)) .none kV_i_TooShort dc_i_TooShort pm_i_TooShort an_i_TooShort cd_i_TooShort ct_i_TooShort), sl_i_TooShort⟩)
    (ci_TooShort : PySem.W.codeIn K cd_i_TooShort "TooShort.__init__" = true)
    (ki_TooShort : PySem.W.keepIn K (.ref i_TooShort) = true)
    (kC_TooShort : PySem.W.keepIn K (.ref c_TooShort) = true)
    (eC_TooShort : PySem.W.subIn K (.ref c_TooShort) (.type "BaseException") = some true)
    (tC_TooShort : PySem.W.typeIn K (.ref c_TooShort) = some (.type "type"))
    (hC_TooShort : PySem.W.hasDictIn K c_TooShort = true)
    (sC_TooShort : PySem.W.subIn K (.ref c_TooShort) (.ref c_TooShort) = some true)
    (uc_TooShort : PySem.W.findIn K (.ref c_TooShort) "__class__" = some (some (.builtin "object.__class__")))
    (mo_TooShort : PySem.W.mroIn K c_TooShort (.type "object") = some true)
    (gs : PySem.W.specialIn K (.builtin "object.__class__") "__get__" = some (some (.builtin "getset_descriptor.__get__")))
    (tk : PySem.W.takesIn K (.builtin "object.__class__") = some true)
    (aC_BadHours : PySem.W.nsIn K mainGlobals "BadHours" = some (some (.ref c_BadHours)))
    (aC_ShopError : PySem.W.nsIn K mainGlobals "ShopError" = some (some (.ref c_ShopError)))
    (is_TooShort_BadHours : PySem.W.kitOne K (.ref c_TooShort) (.ref c_BadHours) = some false)
    (is_TooShort_ShopError : PySem.W.kitOne K (.ref c_TooShort) (.ref c_ShopError) = some true)
    (z_abs : PySem.W.nsIn K mainGlobals "abs" = some none)
    (z_any : PySem.W.nsIn K mainGlobals "any" = some none)
    (z_bool : PySem.W.nsIn K mainGlobals "bool" = some none)
    (z_enumerate : PySem.W.nsIn K mainGlobals "enumerate" = some none)
    (z_int : PySem.W.nsIn K mainGlobals "int" = some none)
    (z_isinstance : PySem.W.nsIn K mainGlobals "isinstance" = some none)
    (z_len : PySem.W.nsIn K mainGlobals "len" = some none)
    (z_list : PySem.W.nsIn K mainGlobals "list" = some none)
    (z_max : PySem.W.nsIn K mainGlobals "max" = some none)
    (z_min : PySem.W.nsIn K mainGlobals "min" = some none)
    (z_range : PySem.W.nsIn K mainGlobals "range" = some none)
    (z_reversed : PySem.W.nsIn K mainGlobals "reversed" = some none)
    (z_sorted : PySem.W.nsIn K mainGlobals "sorted" = some none)
    (z_tuple : PySem.W.nsIn K mainGlobals "tuple" = some none)
    (z_zip : PySem.W.nsIn K mainGlobals "zip" = some none)
    : ∃ fd : FuncData, (∀ (s : Shared) (v : Value), BindsTo s fd ⟨[v], []⟩ [("script", v)]) ∧ ∀ base : Heap, K.In base → base.Ns mainGlobals mg → FnOk l.prog w K mg base CX0 8 fa fd ["script"] (spLaw K) := by
  have e := hfa.symm.trans (PySem.W.mg_of X G a_law)
  cases e
  have T : Bi mg := ⟨PySem.W.mg_none_of X G z_abs, PySem.W.mg_none_of X G z_any, PySem.W.mg_none_of X G z_bool, PySem.W.mg_none_of X G z_enumerate, PySem.W.mg_none_of X G z_int, PySem.W.mg_none_of X G z_isinstance, PySem.W.mg_none_of X G z_len, PySem.W.mg_none_of X G z_list, PySem.W.mg_none_of X G z_max, PySem.W.mg_none_of X G z_min, PySem.W.mg_none_of X G z_range, PySem.W.mg_none_of X G z_reversed, PySem.W.mg_none_of X G z_sorted, PySem.W.mg_none_of X G z_tuple, PySem.W.mg_none_of X G z_zip⟩
  refine ⟨PySem.W.fnOf "law" "law" (defArgs (top 32)) (defBody (top 32)) (defScope (top 32)) .none kV_law dc_law pm_law an_law cd_law ct_law, fun s v => .of_eq rfl, fun base _ _ => ?_⟩
  have Fi_TooShort := fun_mk (st := inClass (top 3) 0) li_TooShort ci_TooShort ki_TooShort
  have ox_TooShort : ExcC K c_TooShort := ⟨ga_TooShort, gg_TooShort, eC_TooShort, hC_TooShort, uc_TooShort, gs, tk, mo_TooShort⟩
  have De_TooShort : De l.prog w K mg base "TooShort" "length" := ⟨c_TooShort, i_TooShort, _, ⟨PySem.W.mg_of X G aC_TooShort, ⟨⟨_, _, _, _, _, _, _, _, _, _, _, _, _, _, _, xL_TooShort, rv_TooShort⟩, sa_TooShort, eC_TooShort, tC_TooShort, kC_TooShort⟩, nb_TooShort, ai_TooShort, ti_TooShort, ⟨ga_TooShort, gg_TooShort, eC_TooShort, hC_TooShort⟩, ox_TooShort, PySem.W.exm_ref eC_TooShort hC_TooShort tC_TooShort sC_TooShort⟩,
    fnIni (fld := "length") Fi_TooShort ⟨rfl, rfl, rfl, by decide +kernel, rfl, by decide +kernel, by decide +kernel⟩ rfl (fun _ _ _ _ _ _ => ⟨Or.inl rfl, Or.inl rfl, rfl⟩) (by decide) (by decide), Fi_TooShort.binds (ps := ["self", "length"]) fun _ _ _ _ _ _ us hl => match us, hl with | [_, _], _ => rfl⟩
  have Dx_TooShort_BadHours : Dx K mg "TooShort" "BadHours" false := ⟨_, _, PySem.W.mg_of X G aC_TooShort, PySem.W.mg_of X G aC_BadHours, is_TooShort_BadHours⟩
  have Dx_TooShort_ShopError : Dx K mg "TooShort" "ShopError" true := ⟨_, _, PySem.W.mg_of X G aC_TooShort, PySem.W.mg_of X G aC_ShopError, is_TooShort_ShopError⟩
  have D_depends := x_depends (P := l.prog) (w := w) (base := base) (fun_mk (st := top 5) l_depends c_depends k_depends) (PySem.W.mg_of X G a_depends) T
  have D_length_of := x_length_of (P := l.prog) (w := w) (base := base) (fun_mk (st := top 7) l_length_of c_length_of k_length_of) (PySem.W.mg_of X G a_length_of) T
  have D_Ldraw := x_Ldraw (P := l.prog) (w := w) (base := base) (fun_mk (st := top 16) l_Ldraw c_Ldraw k_Ldraw) (PySem.W.mg_of X G a_Ldraw) T
  have D_Lis_whole := x_Lis_whole (P := l.prog) (w := w) (base := base) (fun_mk (st := top 17) l_Lis_whole c_Lis_whole k_Lis_whole) (PySem.W.mg_of X G a_Lis_whole) T
  have Dh_Lis_whole := h_Lis_whole (P := l.prog) (w := w) (base := base) (fun_mk (st := top 17) l_Lis_whole c_Lis_whole k_Lis_whole) (PySem.W.mg_of X G a_Lis_whole) T
  have D_Ldep := x_Ldep (P := l.prog) (w := w) (base := base) (fun_mk (st := top 21) l_Ldep c_Ldep k_Ldep) (PySem.W.mg_of X G a_Ldep) T
  have D_Llength := x_Llength (P := l.prog) (w := w) (base := base) (fun_mk (st := top 25) l_Llength c_Llength k_Llength) (PySem.W.mg_of X G a_Llength) T
  have D_Lturned := x_Lturned (P := l.prog) (w := w) (base := base) (fun_mk (st := top 29) l_Lturned c_Lturned k_Lturned) (PySem.W.mg_of X G a_Lturned) T
  have D_earliest := x_earliest (P := l.prog) (w := w) (base := base) (fun_mk (st := top 8) l_earliest c_earliest k_earliest) (PySem.W.mg_of X G a_earliest) T D_depends
  have D_hours_from := x_hours_from (P := l.prog) (w := w) (base := base) (fun_mk (st := top 9) l_hours_from c_hours_from k_hours_from) (PySem.W.mg_of X G a_hours_from) T D_depends
  have D_Lare_wholes := x_Lare_wholes (P := l.prog) (w := w) (base := base) (fun_mk (st := top 18) l_Lare_wholes c_Lare_wholes k_Lare_wholes) (PySem.W.mg_of X G a_Lare_wholes) T D_Lis_whole
  have D_Lstep := x_Lstep (P := l.prog) (w := w) (base := base) (fun_mk (st := top 19) l_Lstep c_Lstep k_Lstep) (PySem.W.mg_of X G a_Lstep) T D_Ldraw
  have D_Lhours := x_Lhours (P := l.prog) (w := w) (base := base) (fun_mk (st := top 22) l_Lhours c_Lhours k_Lhours) (PySem.W.mg_of X G a_Lhours) T D_Ldraw
  have D_Learly := x_Learly (P := l.prog) (w := w) (base := base) (fun_mk (st := top 23) l_Learly c_Learly k_Learly) (PySem.W.mg_of X G a_Learly) T D_Ldep
  have D_Llate := x_Llate (P := l.prog) (w := w) (base := base) (fun_mk (st := top 24) l_Llate c_Llate k_Llate) (PySem.W.mg_of X G a_Llate) T D_Ldep
  have D_heaviest_chain := x_heaviest_chain (P := l.prog) (w := w) (base := base) (fun_mk (st := top 10) l_heaviest_chain c_heaviest_chain k_heaviest_chain) (PySem.W.mg_of X G a_heaviest_chain) T D_hours_from D_depends
  have D_Lsteps := x_Lsteps (P := l.prog) (w := w) (base := base) (fun_mk (st := top 20) l_Lsteps c_Lsteps k_Lsteps) (PySem.W.mg_of X G a_Lsteps) T D_Ldraw D_Lstep
  have D_Ldue := x_Ldue (P := l.prog) (w := w) (base := base) (fun_mk (st := top 28) l_Ldue c_Ldue k_Ldue) (PySem.W.mg_of X G a_Ldue) T D_Learly D_Llate D_Llength
  have D_Lbackwards := x_Lbackwards (P := l.prog) (w := w) (base := base) (fun_mk (st := top 31) l_Lbackwards c_Lbackwards k_Lbackwards) (PySem.W.mg_of X G a_Lbackwards) T D_Llate D_earliest
  have D_shortest := x_shortest (P := l.prog) (w := w) (base := base) (fun_mk (st := top 11) l_shortest c_shortest k_shortest) (PySem.W.mg_of X G a_shortest) T D_earliest D_length_of D_heaviest_chain
  have D_latest := x_latest (P := l.prog) (w := w) (base := base) (fun_mk (st := top 12) l_latest c_latest k_latest) (PySem.W.mg_of X G a_latest) T D_length_of D_earliest D_depends De_TooShort
  have D_spare := x_spare (P := l.prog) (w := w) (base := base) (fun_mk (st := top 13) l_spare c_spare k_spare) (PySem.W.mg_of X G a_spare) T D_earliest D_latest D_length_of
  have D_Lrefused := x_Lrefused (P := l.prog) (w := w) (base := base) (fun_mk (st := top 26) l_Lrefused c_Lrefused k_Lrefused) (PySem.W.mg_of X G a_Lrefused) T D_latest Dh_Lis_whole De_TooShort Dx_TooShort_BadHours Dx_TooShort_ShopError
  have D_Ltold := x_Ltold (P := l.prog) (w := w) (base := base) (fun_mk (st := top 27) l_Ltold c_Ltold k_Ltold) (PySem.W.mg_of X G a_Ltold) T D_earliest D_latest D_spare D_Lare_wholes
  have D_Lexchanged := x_Lexchanged (P := l.prog) (w := w) (base := base) (fun_mk (st := top 30) l_Lexchanged c_Lexchanged k_Lexchanged) (PySem.W.mg_of X G a_Lexchanged) T D_Ldraw D_Ldep D_Ldue D_Ltold D_Lturned
  have FL := (fun_mk (st := top 15) l_Lfeed c_Lfeed k_Lfeed)
  exact x_law LT (fun_mk (st := top 32) l_law c_law k_law) T ⟨_, _, PySem.W.mg_of X G a_Lfeed, k_Lfeed, FL.binds (ps := ["script"]) fun _ _ _ _ _ _ us hl => match us, hl with | [_], _ => rfl, x_Lfeed FL T⟩ D_Ldraw D_Lsteps D_Lhours D_Llength D_latest D_Learly D_spare D_Lbackwards D_Ltold D_Ldue D_Lrefused D_Lexchanged D_shortest
theorem walk {l : PySem.W.OpenLaw} {q : Program} {loose : List Str} {XP : (Str → Option Value) → Heap → Prop} {YP : World → Heap → Prop} {d : DefRec} {K : Params → PySem.W.Frag} (hn : l.most = some 63) (hdf : d.params.defaults = [])
    (hY : ∀ (w : World) (h : Heap), YP w h → (K w.params).In h)
    (F : ∀ (w : World) (mg : Str → Option Value) (fa : Addr) (h : Heap), (K w.params).In h → h.Ns mainGlobals mg → mg d.name = some (.ref fa) →
      ∃ fd : FuncData, (∀ (s : Shared) (u : Value), BindsTo s fd ⟨[u], []⟩ [("script", u)]) ∧ ∀ base : Heap, (K w.params).In base → base.Ns mainGlobals mg → FnOk l.prog w (K w.params) mg base CX0 8 fa fd ["script"] (spLaw (K w.params))) :
    PySem.W.WalkO q loose XP YP l.row.toRowW d [] (fun f vs => PySem.call f vs) :=
  L2.walk_of (n := 63) (k := 8) (x := "script") (CX := fun _ => CX0) (sp := fun w => spLaw (K w.params)) hn (by decide) hdf ⟨rfl, by decide, by decide⟩ hY F (fun _ H a ns hl hO hS => ⟨a, ns, rfl, hl, hO, hS, fun _ => rfl⟩) fun _ _ _ _ _ z => z
end Dk61
open PySem PySem.W PyProof.Rows in
set_option maxRecDepth 100000 in
set_option maxHeartbeats 0 in
theorem PySem.Challenge.cw_daybooktold_k61_whole_latest_plans_and_s_holds : PySem.Challenge.rw_daybooktold_k61_whole_latest_plans_and_s.Holds := by
  w_on; o_law; k_head; (case hw => w_witness2)
  k_fill
  refine Dk61.walk (l := PySem.Challenge.rw_daybooktold_k61_whole_latest_plans_and_s) rfl rfl (fun w h Y => PySem.W.kIn_of Y) ?F
  case F =>
    intro w mg fa h KX G hmg
    refine' Dk61.all_mk Dk61.lawTrue KX G hmg ?a_depends ?l_depends ?c_depends ?k_depends ?a_length_of ?l_length_of ?c_length_of ?k_length_of ?a_Ldraw ?l_Ldraw ?c_Ldraw ?k_Ldraw ?a_Lis_whole ?l_Lis_whole ?c_Lis_whole ?k_Lis_whole ?a_Ldep ?l_Ldep ?c_Ldep ?k_Ldep ?a_Llength ?l_Llength ?c_Llength ?k_Llength ?a_Lturned ?l_Lturned ?c_Lturned ?k_Lturned ?a_earliest ?l_earliest ?c_earliest ?k_earliest ?a_hours_from ?l_hours_from ?c_hours_from ?k_hours_from ?a_Lare_wholes ?l_Lare_wholes ?c_Lare_wholes ?k_Lare_wholes ?a_Lstep ?l_Lstep ?c_Lstep ?k_Lstep ?a_Lhours ?l_Lhours ?c_Lhours ?k_Lhours ?a_Learly ?l_Learly ?c_Learly ?k_Learly ?a_Llate ?l_Llate ?c_Llate ?k_Llate ?a_heaviest_chain ?l_heaviest_chain ?c_heaviest_chain ?k_heaviest_chain ?a_Lsteps ?l_Lsteps ?c_Lsteps ?k_Lsteps ?a_Ldue ?l_Ldue ?c_Ldue ?k_Ldue ?a_Lbackwards ?l_Lbackwards ?c_Lbackwards ?k_Lbackwards ?a_shortest ?l_shortest ?c_shortest ?k_shortest ?a_latest ?l_latest ?c_latest ?k_latest ?a_spare ?l_spare ?c_spare ?k_spare ?a_Lrefused ?l_Lrefused ?c_Lrefused ?k_Lrefused ?a_Ltold ?l_Ltold ?c_Ltold ?k_Ltold ?a_Lexchanged ?l_Lexchanged ?c_Lexchanged ?k_Lexchanged ?a_Lfeed ?l_Lfeed ?c_Lfeed ?k_Lfeed ?a_law ?l_law ?c_law ?k_law ?aC_TooShort ?xL_TooShort ?rv_TooShort ?sa_TooShort ?ga_TooShort ?gg_TooShort ?nb_TooShort ?ai_TooShort ?ti_TooShort ?li_TooShort ?ci_TooShort ?ki_TooShort ?kC_TooShort ?eC_TooShort ?tC_TooShort ?hC_TooShort ?sC_TooShort ?uc_TooShort ?mo_TooShort ?gs ?tk ?aC_BadHours ?aC_ShopError ?is_TooShort_BadHours ?is_TooShort_ShopError ?z_abs ?z_any ?z_bool ?z_enumerate ?z_int ?z_isinstance ?z_len ?z_list ?z_max ?z_min ?z_range ?z_reversed ?z_sorted ?z_tuple ?z_zip
    (case a_depends => k_is)
    (case l_depends => k_is)
    (case c_depends => k_is)
    (case k_depends => k_is)
    (case a_length_of => k_is)
    (case l_length_of => k_is)
    (case c_length_of => k_is)
    (case k_length_of => k_is)
    (case a_Ldraw => k_is)
    (case l_Ldraw => k_is)
    (case c_Ldraw => k_is)
    (case k_Ldraw => k_is)
    (case a_Lis_whole => k_is)
    (case l_Lis_whole => k_is)
    (case c_Lis_whole => k_is)
    (case k_Lis_whole => k_is)
    (case a_Ldep => k_is)
    (case l_Ldep => k_is)
    (case c_Ldep => k_is)
    (case k_Ldep => k_is)
    (case a_Llength => k_is)
    (case l_Llength => k_is)
    (case c_Llength => k_is)
    (case k_Llength => k_is)
    (case a_Lturned => k_is)
    (case l_Lturned => k_is)
    (case c_Lturned => k_is)
    (case k_Lturned => k_is)
    (case a_earliest => k_is)
    (case l_earliest => k_is)
    (case c_earliest => k_is)
    (case k_earliest => k_is)
    (case a_hours_from => k_is)
    (case l_hours_from => k_is)
    (case c_hours_from => k_is)
    (case k_hours_from => k_is)
    (case a_Lare_wholes => k_is)
    (case l_Lare_wholes => k_is)
    (case c_Lare_wholes => k_is)
    (case k_Lare_wholes => k_is)
    (case a_Lstep => k_is)
    (case l_Lstep => k_is)
    (case c_Lstep => k_is)
    (case k_Lstep => k_is)
    (case a_Lhours => k_is)
    (case l_Lhours => k_is)
    (case c_Lhours => k_is)
    (case k_Lhours => k_is)
    (case a_Learly => k_is)
    (case l_Learly => k_is)
    (case c_Learly => k_is)
    (case k_Learly => k_is)
    (case a_Llate => k_is)
    (case l_Llate => k_is)
    (case c_Llate => k_is)
    (case k_Llate => k_is)
    (case a_heaviest_chain => k_is)
    (case l_heaviest_chain => k_is)
    (case c_heaviest_chain => k_is)
    (case k_heaviest_chain => k_is)
    (case a_Lsteps => k_is)
    (case l_Lsteps => k_is)
    (case c_Lsteps => k_is)
    (case k_Lsteps => k_is)
    (case a_Ldue => k_is)
    (case l_Ldue => k_is)
    (case c_Ldue => k_is)
    (case k_Ldue => k_is)
    (case a_Lbackwards => k_is)
    (case l_Lbackwards => k_is)
    (case c_Lbackwards => k_is)
    (case k_Lbackwards => k_is)
    (case a_shortest => k_is)
    (case l_shortest => k_is)
    (case c_shortest => k_is)
    (case k_shortest => k_is)
    (case a_latest => k_is)
    (case l_latest => k_is)
    (case c_latest => k_is)
    (case k_latest => k_is)
    (case a_spare => k_is)
    (case l_spare => k_is)
    (case c_spare => k_is)
    (case k_spare => k_is)
    (case a_Lrefused => k_is)
    (case l_Lrefused => k_is)
    (case c_Lrefused => k_is)
    (case k_Lrefused => k_is)
    (case a_Ltold => k_is)
    (case l_Ltold => k_is)
    (case c_Ltold => k_is)
    (case k_Ltold => k_is)
    (case a_Lexchanged => k_is)
    (case l_Lexchanged => k_is)
    (case c_Lexchanged => k_is)
    (case k_Lexchanged => k_is)
    (case a_Lfeed => k_is)
    (case l_Lfeed => k_is)
    (case c_Lfeed => k_is)
    (case k_Lfeed => k_is)
    (case a_law => k_is)
    (case l_law => k_is)
    (case c_law => k_is)
    (case k_law => k_is)
    (case aC_TooShort => k_is)
    (case xL_TooShort => k_is)
    (case rv_TooShort => first | rfl | decide +kernel)
    (case sa_TooShort => k_is)
    (case ga_TooShort => k_is)
    (case gg_TooShort => k_is)
    (case nb_TooShort => k_is)
    (case ai_TooShort => k_is)
    (case ti_TooShort => k_is)
    (case li_TooShort => k_is)
    (case ci_TooShort => k_is)
    (case ki_TooShort => k_is)
    (case kC_TooShort => k_is)
    (case eC_TooShort => k_is)
    (case tC_TooShort => k_is)
    (case hC_TooShort => k_is)
    (case sC_TooShort => first | rfl | k_is | decide +kernel)
    (case uc_TooShort => k_is)
    (case mo_TooShort => k_is)
    (case gs => k_is)
    (case tk => k_is)
    (case aC_BadHours => k_is)
    (case aC_ShopError => k_is)
    (case is_TooShort_BadHours => first | rfl | k_is | decide +kernel)
    (case is_TooShort_ShopError => first | rfl | k_is | decide +kernel)
    (case z_abs => k_is)
    (case z_any => k_is)
    (case z_bool => k_is)
    (case z_enumerate => k_is)
    (case z_int => k_is)
    (case z_isinstance => k_is)
    (case z_len => k_is)
    (case z_list => k_is)
    (case z_max => k_is)
    (case z_min => k_is)
    (case z_range => k_is)
    (case z_reversed => k_is)
    (case z_sorted => k_is)
    (case z_tuple => k_is)
    (case z_zip => k_is)
#print axioms PySem.Challenge.cw_daybooktold_k61_whole_latest_plans_and_s_holds
