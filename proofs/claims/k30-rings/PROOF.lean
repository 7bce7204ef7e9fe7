import PyProof.Rows.All
import Wide.All
import OpenK.AllK
import Wide.FinOn
import HandS.ForMost
import HandS.TupMul
import HandS.TupAny
import HandS.IsInst
import HandS.Wide
import HandS.Conv
import KE.SortData
import PySem.Challenge.RW_loveboon_k30_whole_knots_of_rings_and_cr
set_option Elab.async false
set_option linter.all false
set_option maxRecDepth 100000
set_option maxHeartbeats 4000000
/-! A layer of data over the hand layer: a heap G of what never changes, the local lists that do (Ms), and what each expression evaluates to as plain data. -/
namespace Lw
open PySem L2

/-! ### heaps -/
def Ex (H H' : Hp) : Prop := ∀ a o, H a = some o → H' a = some o
theorem Ex.refl (H : Hp) : Ex H H := fun _ _ h => h
theorem Ex.trans {H H1 H2 : Hp} (a : Ex H H1) (b : Ex H1 H2) : Ex H H2 := fun x o h => b x o (a x o h)
theorem Ex.new {H : Hp} {p : Addr} {o : HO} (h : H p = none) : Ex H (upd H p o) := fun a u e => by
  rw [upd_ne (ne_of_none e h)]
  exact e
theorem Ex.mut {H H' : Hp} {p : Addr} {o : HO} (e : Ex H H') (h : H p = none) : Ex H (upd H' p o) := fun a u ha => by
  rw [upd_ne (ne_of_none ha h)]
  exact e a u ha
theorem Ex.both {H H' : Hp} {p : Addr} {o : HO} (e : Ex H H') : Ex (upd H p o) (upd H' p o) := fun a u ha => by
  by_cases h : a = p
  · subst h; rw [upd_same] at ha ⊢; exact ha
  · rw [upd_ne h] at ha ⊢; exact e a u ha
theorem Ex.none {H H' : Hp} {p : Addr} (e : Ex H H') (h : H' p = none) : H p = none := by
  cases h1 : H p with
  | none => rfl
  | some o => rw [e p o h1] at h; cases h
theorem Ex.at {H H' : Hp} {p : Addr} {o : HO} (e : Ex H H') (h : H' p = some o) : Ex (upd H p o) H' := fun a u ha => by
  by_cases q : a = p
  · subst q; rw [upd_same] at ha; rw [h]; exact ha
  · rw [upd_ne q] at ha; exact e a u ha

/-! ### data in a heap -/
mutual
inductive Rp (H : Hp) : V → PyData → Prop
  | non : Rp H .non .none
  | bl (b : Bool) : Rp H (.bl b) (.bool b)
  | int (i : Int) : Rp H (.int i) (.int i)
  | str (x : Str) : Rp H (.str x) (.str x)
  | lst {a : Addr} {xs : List V} {ds : List PyData} : H a = some (.lst xs) → RpAll H xs ds → Rp H (.ref a) (.list ds)
  | tup {a : Addr} {xs : List V} {ds : List PyData} : H a = some (.tup xs) → RpAll H xs ds → Rp H (.ref a) (.tuple ds)
inductive RpAll (H : Hp) : List V → List PyData → Prop
  | nil : RpAll H [] []
  | cons {v : V} {vs : List V} {d : PyData} {ds : List PyData} : Rp H v d → RpAll H vs ds → RpAll H (v :: vs) (d :: ds)
end
mutual
theorem Rp.mono {H H' : Hp} (e : Ex H H') : ∀ (d : PyData) (v : V), Rp H v d → Rp H' v d
  | .none, _, h => by cases h; exact .non
  | .bool b, _, h => by cases h; exact .bl b
  | .int i, _, h => by cases h; exact .int i
  | .str x, _, h => by cases h; exact .str x
  | .list ds, _, h => by
    cases h with
    | lst h1 h2 => exact .lst (e _ _ h1) (RpAll.mono e ds _ h2)
  | .tuple ds, _, h => by
    cases h with
    | tup h1 h2 => exact .tup (e _ _ h1) (RpAll.mono e ds _ h2)
  | .dict _, _, h => by cases h
theorem RpAll.mono {H H' : Hp} (e : Ex H H') : ∀ (ds : List PyData) (vs : List V), RpAll H vs ds → RpAll H' vs ds
  | [], _, h => by cases h; exact .nil
  | d :: ds, _, h => by
    cases h with
    | cons h1 h2 => exact .cons (Rp.mono e d _ h1) (RpAll.mono e ds _ h2)
end
mutual
theorem Rp.dp {K : PySem.W.Frag} {H : Hp} : ∀ (d : PyData) (v : V), Rp H v d → Dp K H v d
  | .none, _, h => by cases h; exact .non
  | .bool b, _, h => by cases h; exact .bl b
  | .int i, _, h => by cases h; exact .int i
  | .str x, _, h => by cases h; exact .str x
  | .list ds, _, h => by
    cases h with
    | lst h1 h2 => exact .lst (SqL.of h1) (RpAll.dp ds _ h2)
  | .tuple ds, _, h => by
    cases h with
    | tup h1 h2 => exact .tup (SqT.of h1) (RpAll.dp ds _ h2)
  | .dict _, _, h => by cases h
theorem RpAll.dp {K : PySem.W.Frag} {H : Hp} : ∀ (ds : List PyData) (vs : List V), RpAll H vs ds → DpAll K H vs ds
  | [], _, h => by cases h; exact .nil
  | d :: ds, _, h => by
    cases h with
    | cons h1 h2 => exact .cons (Rp.dp d _ h1) (RpAll.dp ds _ h2)
end
theorem RpAll.len {H : Hp} : ∀ {vs : List V} {ds : List PyData}, RpAll H vs ds → vs.length = ds.length
  | _, [], h => by cases h; rfl
  | _, d :: ds, h => by
    cases h with
    | cons h1 h2 => rw [List.length_cons, List.length_cons, RpAll.len h2]
theorem RpAll.app {H : Hp} : ∀ {vs ws : List V} {ds es : List PyData}, RpAll H vs ds → RpAll H ws es → RpAll H (vs ++ ws) (ds ++ es)
  | _, _, [], _, h, k => by cases h; exact k
  | _, _, d :: ds, _, h, k => by
    cases h with
    | cons h1 h2 => exact .cons h1 (RpAll.app h2 k)
theorem RpAll.one {H : Hp} {v : V} {d : PyData} (h : Rp H v d) : RpAll H [v] [d] := .cons h .nil
theorem RpAll.get {H : Hp} : ∀ {vs : List V} {ds : List PyData} {i : Nat} {v : V}, RpAll H vs ds → vs[i]? = some v → ∃ d, ds[i]? = some d ∧ Rp H v d
  | _, [], i, v, h, e => by cases h; simp at e
  | _, d :: ds, i, v, h, e => by
    cases h with
    | cons h1 h2 =>
      cases i with
      | zero => simp at e; subst e; exact ⟨d, by simp, h1⟩
      | succ i =>
        obtain ⟨d', q, r⟩ := RpAll.get (i := i) h2 (by simpa using e)
        exact ⟨d', by simpa using q, r⟩
theorem RpAll.get' {H : Hp} : ∀ {vs : List V} {ds : List PyData} {i : Nat} {d : PyData}, RpAll H vs ds → ds[i]? = some d → ∃ v, vs[i]? = some v ∧ Rp H v d
  | _, [], i, d, h, e => by cases h; simp at e
  | _, d0 :: ds, i, d, h, e => by
    cases h with
    | cons h1 h2 =>
      cases i with
      | zero => simp at e; subst e; exact ⟨_, by simp, h1⟩
      | succ i =>
        obtain ⟨v, q, r⟩ := RpAll.get' (i := i) h2 (by simpa using e)
        exact ⟨v, by simpa using q, r⟩
theorem RpAll.set {H : Hp} {v : V} {d : PyData} (h : Rp H v d) : ∀ {vs : List V} {ds : List PyData} (i : Nat), RpAll H vs ds → RpAll H (vs.set i v) (ds.set i d)
  | _, [], i, k => by cases k; exact .nil
  | _, d0 :: ds, i, k => by
    cases k with
    | cons h1 h2 =>
      cases i with
      | zero => exact .cons h h2
      | succ i => exact .cons h1 (RpAll.set h i h2)
theorem RpAll.erase {H : Hp} : ∀ {vs : List V} {ds : List PyData} (i : Nat), RpAll H vs ds → RpAll H (vs.eraseIdx i) (ds.eraseIdx i)
  | _, [], i, k => by cases k; exact .nil
  | _, d0 :: ds, i, k => by
    cases k with
    | cons h1 h2 =>
      cases i with
      | zero => exact h2
      | succ i => exact .cons h1 (RpAll.erase i h2)
theorem RpAll.take {H : Hp} : ∀ {vs : List V} {ds : List PyData} (i : Nat), RpAll H vs ds → RpAll H (vs.take i) (ds.take i)
  | _, [], i, k => by cases k; simp; exact .nil
  | _, d0 :: ds, i, k => by
    cases k with
    | cons h1 h2 =>
      cases i with
      | zero => exact .nil
      | succ i => exact .cons h1 (RpAll.take i h2)
theorem RpAll.drop {H : Hp} : ∀ {vs : List V} {ds : List PyData} (i : Nat), RpAll H vs ds → RpAll H (vs.drop i) (ds.drop i)
  | _, [], i, k => by cases k; simp; exact .nil
  | _, d0 :: ds, i, k => by
    cases k with
    | cons h1 h2 =>
      cases i with
      | zero => exact .cons h1 h2
      | succ i => exact RpAll.drop i h2
theorem RpAll.ints {H : Hp} : ∀ {ns : List Int} {vs : List V}, RpAll H vs (ns.map .int) → vs = ns.map V.int
  | [], _, h => by cases h; rfl
  | n :: ns, _, h => by
    have h' : RpAll H _ (PyData.int n :: ns.map .int) := h
    cases h' with
    | cons h1 h2 =>
      cases h1
      rw [RpAll.ints h2]
      rfl
theorem RpAll.bools {H : Hp} : ∀ {ns : List Bool} {vs : List V}, RpAll H vs (ns.map .bool) → vs = ns.map V.bl
  | [], _, h => by cases h; rfl
  | n :: ns, _, h => by
    have h' : RpAll H _ (PyData.bool n :: ns.map .bool) := h
    cases h' with
    | cons h1 h2 =>
      cases h1
      rw [RpAll.bools h2]
      rfl
theorem RpAll.of_ints {H : Hp} : ∀ (ns : List Int), RpAll H (ns.map V.int) (ns.map .int)
  | [] => .nil
  | n :: ns => .cons (.int n) (RpAll.of_ints ns)
theorem RpAll.snoc {H : Hp} {vs : List V} {ds : List PyData} {v : V} {d : PyData} (h : RpAll H vs ds) (k : Rp H v d) : RpAll H (vs ++ [v]) (ds ++ [d]) := h.app (.one k)

/-! ### from (G, H) to (G', H'): all stays, what is new in G' is new -/
structure Nx (G H G' H' : Hp) : Prop where
  hh : Ex H H'
  gh : Ex G' H'
  gg : Ex G G'
  aw : ∀ a o, H a = some o → G a = none → G' a = none
theorem Nx.refl {G H : Hp} (e : Ex G H) : Nx G H G H := ⟨.refl H, e, .refl G, fun _ _ _ h => h⟩
theorem Nx.trans {G H G1 H1 G2 H2 : Hp} (a : Nx G H G1 H1) (b : Nx G1 H1 G2 H2) : Nx G H G2 H2 :=
  ⟨a.hh.trans b.hh, b.gh, a.gg.trans b.gg, fun x o h g => b.aw x o (a.hh x o h) (a.aw x o h g)⟩
/-- a new object, known for good -/
theorem Nx.new {G H G1 H1 : Hp} (a : Nx G H G1 H1) {p : Addr} {o : HO} (h : H1 p = none) : Nx G H (upd G1 p o) (upd H1 p o) :=
  ⟨a.hh.trans (.new h), a.gh.both, a.gg.mut (a.gg.none (a.gh.none h)), fun x u e g => by
    rw [upd_ne (ne_of_none (a.hh x u e) h)]
    exact a.aw x u e g⟩
/-- a new object that may change -/
theorem Nx.mut {G H G1 H1 : Hp} (a : Nx G H G1 H1) {p : Addr} {o : HO} (h : H p = none) (g : G1 p = none) : Nx G H G1 (upd H1 p o) :=
  ⟨a.hh.mut h, a.gh.mut g, a.gg, a.aw⟩
/-- it is known for good from now on -/
theorem Nx.frz {G H G1 H1 : Hp} (a : Nx G H G1 H1) {p : Addr} {o : HO} (h : H p = none) (g : G1 p = none) (e : H1 p = some o) : Nx G H (upd G1 p o) H1 :=
  ⟨a.hh, a.gh.at e, a.gg.mut (a.gg.none g), fun x u e' g' => by
    rw [upd_ne (ne_of_none e' h)]
    exact a.aw x u e' g'⟩

/-! ### slots, local lists -/
inductive SP where
  | un
  | da (d : PyData)
  | vw (v : V)
def SlOk (G : Hp) : Option V → SP → Prop
  | _, .un => True
  | o, .da d => ∃ v, o = some v ∧ Rp G v d
  | o, .vw v => o = some v
def Sl (G : Hp) : St → List SP → Prop
  | [], [] => True
  | o :: σ, s :: ss => SlOk G o s ∧ Sl G σ ss
  | [], _ :: _ => False
  | _ :: _, [] => False
theorem SlOk.mono {G G' : Hp} (e : Ex G G') {o : Option V} : ∀ {s : SP}, SlOk G o s → SlOk G' o s
  | .un, _ => trivial
  | .da d, ⟨v, h, r⟩ => ⟨v, h, Rp.mono e d v r⟩
  | .vw _, h => h
theorem Sl.mono {G G' : Hp} (e : Ex G G') : ∀ {σ : St} {ss : List SP}, Sl G σ ss → Sl G' σ ss
  | [], [], _ => trivial
  | _ :: _, _ :: _, ⟨h, t⟩ => ⟨h.mono e, Sl.mono e t⟩
  | [], _ :: _, h => h
  | _ :: _, [], h => h
theorem Sl.get {G : Hp} : ∀ {σ : St} {ss : List SP} {i : Nat} {s : SP}, Sl G σ ss → ss[i]? = some s → ∃ o, σ[i]? = some o ∧ SlOk G o s
  | [], [], _, _, _, e => by simp at e
  | o :: _, s :: _, 0, _, ⟨h, _⟩, e => by simp at e; subst e; exact ⟨o, by simp, h⟩
  | _ :: _, _ :: _, i + 1, _, ⟨_, t⟩, e => by
    obtain ⟨o, q, r⟩ := Sl.get (i := i) t (by simpa using e)
    exact ⟨o, by simpa using q, r⟩
  | [], _ :: _, _, _, h, _ => h.elim
  | _ :: _, [], _, _, h, _ => h.elim
theorem Sl.set {G : Hp} {o : Option V} {s : SP} (k : SlOk G o s) : ∀ {σ : St} {ss : List SP} (i : Nat), Sl G σ ss → Sl G (σ.set i o) (ss.set i s)
  | [], [], _, h => h
  | _ :: _, _ :: _, 0, ⟨_, t⟩ => ⟨k, t⟩
  | _ :: _, _ :: _, i + 1, ⟨h, t⟩ => ⟨h, Sl.set k i t⟩
  | [], _ :: _, _, h => h.elim
  | _ :: _, [], _, h => h.elim
def wipeS (ss : List SP) : List Nat → List SP
  | [] => ss
  | v :: vs => (wipeS ss vs).set v .un
theorem Sl.wipe {G : Hp} {σ : St} {ss : List SP} (h : Sl G σ ss) : ∀ vs : List Nat, Sl G (L2.wipe σ vs) (wipeS ss vs)
  | [] => h
  | v :: vs => Sl.set (s := .un) trivial v (Sl.wipe h vs)
theorem wipe_at (σ : St) : ∀ (vs : List Nat) (i : Nat), (wipe σ vs)[i]? = if i ∈ vs ∧ i < σ.length then some none else σ[i]?
  | [], i => by simp [wipe]
  | v :: vs, i => by
    show ((wipe σ vs).set v none)[i]? = _
    rw [List.getElem?_set, wipe_length, wipe_at σ vs i]
    by_cases h : v = i
    · subst h
      by_cases hl : v < σ.length <;> simp [hl]
    · have h' : ¬ i = v := fun q => h q.symm
      simp [h, h']
theorem wipe_idem (σ : St) (vs : List Nat) : wipe (wipe σ vs) vs = wipe σ vs := by
  apply List.ext_getElem?
  intro i
  rw [wipe_at, wipe_length, wipe_at]
  by_cases h : i ∈ vs ∧ i < σ.length <;> simp [h]
theorem wipe_set {σ : St} {vs : List Nat} {j : Nat} {o : Option V} (hj : j ∈ vs) : wipe (σ.set j o) vs = wipe σ vs := by
  apply List.ext_getElem?
  intro i
  rw [wipe_at, wipe_at, List.length_set, List.getElem?_set]
  by_cases h : j = i
  · subst h
    by_cases hl : j < σ.length <;> simp [hj, hl]
  · simp [h]

/-- what a local object holds: data that never change, or what it holds outright -/
inductive CO where
  | l (ds : List PyData)
  | raw (o : HO)
def CoOk (G H : Hp) (p : Addr) : CO → Prop
  | .l ds => ∃ vs, H p = some (.lst vs) ∧ RpAll G vs ds
  | .raw o => H p = some o
abbrev MS := List (Addr × CO)
structure Hm (G H : Hp) (Ms : MS) : Prop where
  nd : (Ms.map (·.1)).Nodup
  ok : ∀ p c, (p, c) ∈ Ms → G p = none ∧ CoOk G H p c
theorem CoOk.some {G H : Hp} {p : Addr} : ∀ {c : CO}, CoOk G H p c → ∃ o, H p = some o
  | .l _, ⟨_, h, _⟩ => ⟨_, h⟩
  | .raw _, h => ⟨_, h⟩
theorem CoOk.mono {G H G' H' : Hp} (a : Nx G H G' H') {p : Addr} : ∀ {c : CO}, CoOk G H p c → CoOk G' H' p c
  | .l ds, ⟨vs, h, r⟩ => ⟨vs, a.hh _ _ h, RpAll.mono a.gg ds vs r⟩
  | .raw _, h => a.hh _ _ h
theorem Hm.mono {G H G' H' : Hp} {Ms : MS} (h : Hm G H Ms) (a : Nx G H G' H') : Hm G' H' Ms :=
  ⟨h.nd, fun p c m => by
    obtain ⟨g, k⟩ := h.ok p c m
    obtain ⟨o, e⟩ := k.some
    exact ⟨a.aw p o e g, k.mono a⟩⟩
theorem Hm.nil {G H : Hp} : Hm G H [] := ⟨by simp, fun _ _ m => nomatch m⟩

/-! ### what evaluates to what -/
def EM (ss : List SP) (Ms : MS) (te : TE) (d : PyData) : Prop := ∀ G H σ, Ex G H → Sl G σ ss → Hm G H Ms → ∀ Q : VK, (∀ v G' H', Nx G H G' H' → Rp G' v d → Q v H') → te σ H Q
/-- a new list, told by nobody else -/
def EN (ss : List SP) (Ms : MS) (te : TE) (ds : List PyData) : Prop := ∀ G H σ, Ex G H → Sl G σ ss → Hm G H Ms → ∀ Q : VK, (∀ p vs G' H', Nx G H G' H' → H p = none → G' p = none → H' p = some (.lst vs) → RpAll G' vs ds → Q (.ref p) H') → te σ H Q
/-- this very value -/
def EV (ss : List SP) (Ms : MS) (te : TE) (v : V) : Prop := ∀ G H σ, Ex G H → Sl G σ ss → Hm G H Ms → ∀ Q : VK, (∀ G' H', Nx G H G' H' → Q v H') → te σ H Q
def ET (ss : List SP) (Ms : MS) (tt : TT) (b : Bool) : Prop := ∀ G H σ, Ex G H → Sl G σ ss → Hm G H Ms → ∀ Q : Bool → Hp → Prop, (∀ G' H', Nx G H G' H' → Q b H') → tt σ H Q
def ED (ss : List SP) (Ms : MS) (ta : TA) (ds : List PyData) : Prop := ∀ G H σ, Ex G H → Sl G σ ss → Hm G H Ms → ∀ Q : List V → Hp → Prop, (∀ vs G' H', Nx G H G' H' → RpAll G' vs ds → Q vs H') → ta σ H Q
def EO (ss : List SP) (Ms : MS) (to : TO) (o : Option Int) : Prop := ∀ G H σ, Ex G H → Sl G σ ss → Hm G H Ms → ∀ Q : Option Int → Hp → Prop, (∀ G' H', Nx G H G' H' → Q o H') → to σ H Q
/-- relations of values, on data -/
def RO (r : R2) (x y z : PyData) : Prop := ∀ G H v w, Ex G H → Rp G v x → Rp G w y → ∀ Q : VK, (∀ u G' H', Nx G H G' H' → Rp G' u z → Q u H') → r v w H Q
def RON (r : R2) (x y : PyData) (ds : List PyData) : Prop := ∀ G H v w, Ex G H → Rp G v x → Rp G w y → ∀ Q : VK, (∀ p vs G' H', Nx G H G' H' → H p = none → G' p = none → H' p = some (.lst vs) → RpAll G' vs ds → Q (.ref p) H') → r v w H Q
def RC (r : List V → Hp → VK → Prop) (xs : List PyData) (z : PyData) : Prop := ∀ G H vs, Ex G H → RpAll G vs xs → ∀ Q : VK, (∀ u G' H', Nx G H G' H' → Rp G' u z → Q u H') → r vs H Q
def RCN (r : List V → Hp → VK → Prop) (xs : List PyData) (ds : List PyData) : Prop := ∀ G H vs, Ex G H → RpAll G vs xs → ∀ Q : VK, (∀ p vs G' H', Nx G H G' H' → H p = none → G' p = none → H' p = some (.lst vs) → RpAll G' vs ds → Q (.ref p) H') → r vs H Q

section
variable {K : PySem.W.Frag} {ss : List SP} {Ms : MS} {ta tb te tl : TE} {t u tt : TT} {d x y z : PyData} {ds es xs : List PyData} {r : R2} {v : V} {b c : Bool}

theorem EN.em (h : EN ss Ms te ds) : EM ss Ms te (.list ds) := fun G H σ e s m Q q => h G H σ e s m Q fun p vs G' H' a hp gp e1 r =>
  q _ (upd G' p (.lst vs)) H' (a.frz hp gp e1) (.lst upd_same (RpAll.mono (Ex.new gp) ds vs r))
theorem RON.ro (h : RON r x y ds) : RO r x y (.list ds) := fun G H v w e rx ry Q q => h G H v w e rx ry Q fun p vs G' H' a hp gp e1 r =>
  q _ (upd G' p (.lst vs)) H' (a.frz hp gp e1) (.lst upd_same (RpAll.mono (Ex.new gp) ds vs r))
theorem RCN.rc {r : List V → Hp → VK → Prop} (h : RCN r xs ds) : RC r xs (.list ds) := fun G H vs e rx Q q => h G H vs e rx Q fun p vs G' H' a hp gp e1 r =>
  q _ (upd G' p (.lst vs)) H' (a.frz hp gp e1) (.lst upd_same (RpAll.mono (Ex.new gp) ds vs r))
theorem em_var {i : Nat} (h : ss[i]? = some (.da d)) : EM ss Ms (tVar i) d := fun G H σ e s m Q q => by
  obtain ⟨o, h1, v, rfl, r⟩ := s.get h
  exact ⟨v, h1, q v G H (.refl e) r⟩
theorem ev_var {i : Nat} (h : ss[i]? = some (.vw v)) : EV ss Ms (tVar i) v := fun G H σ e s m Q q => by
  obtain ⟨o, h1, h2⟩ := s.get h
  cases (show o = some v from h2)
  exact ⟨v, h1, q G H (.refl e)⟩
theorem em_int {i : Int} : EM ss Ms (tC (.int i)) (.int i) := fun G H σ e s m Q q => q _ G H (.refl e) (.int i)
theorem em_bl {i : Bool} : EM ss Ms (tC (.bl i)) (.bool i) := fun G H σ e s m Q q => q _ G H (.refl e) (.bl i)
theorem em_str {i : Str} : EM ss Ms (tC (.str i)) (.str i) := fun G H σ e s m Q q => q _ G H (.refl e) (.str i)
theorem em_non : EM ss Ms (tC .non) .none := fun G H σ e s m Q q => q _ G H (.refl e) .non
theorem em_is {d' : PyData} (h : EM ss Ms te d) (e : d = d') : EM ss Ms te d' := e ▸ h
theorem et_is {b' : Bool} (h : ET ss Ms tt b) (e : b = b') : ET ss Ms tt b' := e ▸ h
theorem en_is {ds' : List PyData} (h : EN ss Ms te ds) (e : ds = ds') : EN ss Ms te ds' := e ▸ h
theorem em_op (ha : EM ss Ms ta x) (hb : EM ss Ms tb y) (hr : RO r x y z) : EM ss Ms (tOp r ta tb) z := fun G H σ e s m Q q =>
  ha G H σ e s m _ fun v1 G1 H1 a1 r1 => hb G1 H1 σ a1.gh (s.mono a1.gg) (m.mono a1) _ fun v2 G2 H2 a2 r2 =>
    hr G2 H2 v1 v2 a2.gh (Rp.mono a2.gg _ _ r1) r2 Q fun w G3 H3 a3 r3 => q w G3 H3 ((a1.trans a2).trans a3) r3
theorem en_op (ha : EM ss Ms ta x) (hb : EM ss Ms tb y) (hr : RON r x y ds) : EN ss Ms (tOp r ta tb) ds := fun G H σ e s m Q q =>
  ha G H σ e s m _ fun v1 G1 H1 a1 r1 => hb G1 H1 σ a1.gh (s.mono a1.gg) (m.mono a1) _ fun v2 G2 H2 a2 r2 =>
    hr G2 H2 v1 v2 a2.gh (Rp.mono a2.gg _ _ r1) r2 Q fun w vs G3 H3 a3 hp gp e3 r3 => q w vs G3 H3 ((a1.trans a2).trans a3) ((a1.trans a2).hh.none hp) gp e3 r3
theorem em_un {r : V → Hp → VK → Prop} (ha : EM ss Ms ta x) (hr : ∀ H v, (∀ G, Rp G v x → ∀ Q : VK, (∀ u, (∀ G, Rp G u z) → Q u H) → r v H Q)) : EM ss Ms (tUn r ta) z := fun G H σ e s m Q q =>
  ha G H σ e s m _ fun v1 G1 H1 a1 r1 => hr H1 v1 G1 r1 Q fun u k => q u G1 H1 a1 (k G1)
theorem ed_nil : ED ss Ms tNil [] := fun G H σ e s m Q q => q [] G H (.refl e) .nil
theorem ed_cons {tr : TA} (h : EM ss Ms te d) (k : ED ss Ms tr ds) : ED ss Ms (tCons te tr) (d :: ds) := fun G H σ e s m Q q =>
  h G H σ e s m _ fun v1 G1 H1 a1 r1 => k G1 H1 σ a1.gh (s.mono a1.gg) (m.mono a1) _ fun vs G2 H2 a2 r2 => q _ G2 H2 (a1.trans a2) (.cons (Rp.mono a2.gg _ _ r1) r2)
theorem sz_of {n : Nat} (h : n ≤ 100000) : n ≤ sizeLine := Nat.le_trans h (by decide)
theorem sz_lt {n : Nat} (h : n < 100000) : n < sizeLine := Nat.lt_of_lt_of_le h (by decide)
theorem em_tup {ta : TA} (h : ED ss Ms ta ds) (hl : ds.length ≤ 100000) : EM ss Ms (tTup ta) (.tuple ds) := fun G H σ e s m Q q =>
  h G H σ e s m _ fun vs G1 H1 a1 r1 => ⟨by rw [r1.len]; exact sz_of hl, fun p hp => q _ (upd G1 p (.tup vs)) _ (a1.new hp) (.tup upd_same (RpAll.mono (Ex.new (a1.gh.none hp)) _ _ r1))⟩
theorem en_lst {ta : TA} (h : ED ss Ms ta ds) (hl : ds.length ≤ 100000) : EN ss Ms (tLst ta) ds := fun G H σ e s m Q q =>
  h G H σ e s m _ fun vs G1 H1 a1 r1 => ⟨by rw [r1.len]; exact sz_of hl, fun p hp => q p vs G1 _ (a1.mut (a1.hh.none hp) (a1.gh.none hp)) (a1.hh.none hp) (a1.gh.none hp) upd_same r1⟩
theorem em_cb {r : List V → Hp → VK → Prop} {ta : TA} (h : ED ss Ms ta xs) (hr : RC r xs z) : EM ss Ms (tCB r ta) z := fun G H σ e s m Q q =>
  h G H σ e s m _ fun vs G1 H1 a1 r1 => hr G1 H1 vs a1.gh r1 Q fun w G3 H3 a3 r3 => q w G3 H3 (a1.trans a3) r3
theorem en_cb {r : List V → Hp → VK → Prop} {ta : TA} (h : ED ss Ms ta xs) (hr : RCN r xs ds) : EN ss Ms (tCB r ta) ds := fun G H σ e s m Q q =>
  h G H σ e s m _ fun vs G1 H1 a1 r1 => hr G1 H1 vs a1.gh r1 Q fun w vs G3 H3 a3 hp gp e3 r3 => q w vs G3 H3 (a1.trans a3) (a1.hh.none hp) gp e3 r3
/-! tests -/
theorem et_test (h : EM ss Ms te (.bool b)) : ET ss Ms (tTest te) b := fun G H σ e s m Q q => h G H σ e s m _ fun v G1 H1 a1 r1 => by
  cases r1
  exact ⟨b, rfl, q G1 H1 a1⟩
theorem et_B (h : EM ss Ms te (.bool b)) : ET ss Ms (tB te) b := fun G H σ e s m Q q => h G H σ e s m _ fun v G1 H1 a1 r1 => by
  cases r1
  exact ⟨b, rfl, q G1 H1 a1⟩
theorem et_and (h : ET ss Ms t b) (k : b = true → ET ss Ms u c) : ET ss Ms (tAnd t u) (b && c) := fun G H σ e s m Q q => h G H σ e s m _ fun G1 H1 a1 => by
  cases b with
  | true =>
    show u σ H1 Q
    exact k rfl G1 H1 σ a1.gh (s.mono a1.gg) (m.mono a1) Q fun G2 H2 a2 => q G2 H2 (a1.trans a2)
  | false =>
    show Q false H1
    exact q G1 H1 a1
theorem et_or (h : ET ss Ms t b) (k : b = false → ET ss Ms u c) : ET ss Ms (tOr t u) (b || c) := fun G H σ e s m Q q => h G H σ e s m _ fun G1 H1 a1 => by
  cases b with
  | true =>
    show Q true H1
    exact q G1 H1 a1
  | false =>
    show u σ H1 Q
    exact k rfl G1 H1 σ a1.gh (s.mono a1.gg) (m.mono a1) Q fun G2 H2 a2 => q G2 H2 (a1.trans a2)
theorem et_not (h : ET ss Ms t b) : ET ss Ms (tNot t) (!b) := fun G H σ e s m Q q => h G H σ e s m _ fun G1 H1 a1 => q G1 H1 a1
theorem et_yes : ET ss Ms tYes true := fun G H σ e s m Q q => q G H (.refl e)
theorem em_andV (h : EM ss Ms ta (.bool b)) (k : b = true → EM ss Ms tb (.bool c)) : EM ss Ms (tAndV ta tb) (.bool (b && c)) := fun G H σ e s m Q q => h G H σ e s m _ fun v G1 H1 a1 r1 => by
  cases r1
  refine ⟨b, rfl, ?_⟩
  cases b with
  | true =>
    show tb σ H1 Q
    exact k rfl G1 H1 σ a1.gh (s.mono a1.gg) (m.mono a1) Q fun v G2 H2 a2 r2 => q v G2 H2 (a1.trans a2) r2
  | false =>
    show Q (.bl false) H1
    exact q _ G1 H1 a1 (.bl false)
theorem em_orV (h : EM ss Ms ta (.bool b)) (k : b = false → EM ss Ms tb (.bool c)) : EM ss Ms (tOrV ta tb) (.bool (b || c)) := fun G H σ e s m Q q => h G H σ e s m _ fun v G1 H1 a1 r1 => by
  cases r1
  refine ⟨b, rfl, ?_⟩
  cases b with
  | true =>
    show Q (.bl true) H1
    exact q _ G1 H1 a1 (.bl true)
  | false =>
    show tb σ H1 Q
    exact k rfl G1 H1 σ a1.gh (s.mono a1.gg) (m.mono a1) Q fun v G2 H2 a2 r2 => q v G2 H2 (a1.trans a2) r2
theorem em_notV (h : EM ss Ms ta (.bool b)) : EM ss Ms (tNotV ta) (.bool (!b)) := fun G H σ e s m Q q => h G H σ e s m _ fun v G1 H1 a1 r1 => by
  cases r1
  exact ⟨b, rfl, q _ G1 H1 a1 (.bl _)⟩
theorem em_if (h : ET ss Ms t b) (h1 : b = true → EM ss Ms ta d) (h2 : b = false → EM ss Ms tb d) : EM ss Ms (tIf t ta tb) d := fun G H σ e s m Q q => h G H σ e s m _ fun G1 H1 a1 => by
  cases b with
  | true =>
    show ta σ H1 Q
    exact h1 rfl G1 H1 σ a1.gh (s.mono a1.gg) (m.mono a1) Q fun v G2 H2 a2 r2 => q v G2 H2 (a1.trans a2) r2
  | false =>
    show tb σ H1 Q
    exact h2 rfl G1 H1 σ a1.gh (s.mono a1.gg) (m.mono a1) Q fun v G2 H2 a2 r2 => q v G2 H2 (a1.trans a2) r2
theorem eo_none : EO ss Ms tNoPart none := fun G H σ e s m Q q => q G H (.refl e)
theorem eo_some {i : Int} (h : EM ss Ms te (.int i)) : EO ss Ms (tPart te) (some i) := fun G H σ e s m Q q => h G H σ e s m _ fun v G1 H1 a1 r1 => by
  cases r1
  exact ⟨i, rfl, q G1 H1 a1⟩
def isNone : PyData → Bool
  | .none => true
  | _ => false
theorem em_isN (h : EM ss Ms ta d) : EM ss Ms (tIsN ta) (.bool (isNone d)) := fun G H σ e s m Q q => h G H σ e s m _ fun v G1 H1 a1 r1 => by
  have k : decide (v = V.non) = isNone d := by cases r1 <;> rfl
  show Q (.bl (decide (v = V.non))) H1
  rw [k]
  exact q _ G1 H1 a1 (.bl _)

/-! ### promises of pure defs -/
def spR (R : List PyData → PyData → Prop) : Sp := fun vs H Q _ => ∃ G ds d, Ex G H ∧ RpAll G vs ds ∧ R ds d ∧ ∀ v G' H', Nx G H G' H' → Rp G' v d → Q v H'
theorem em_call {R : List PyData → PyData → Prop} {E : XK} {ta : TA} (h : ED ss Ms ta ds) (k : R ds d) : EM ss Ms (tCall (spR R) [] E ta) d := fun G H σ e s m Q q =>
  h G H σ e s m _ fun vs G1 H1 a1 r1 => by
    show spR R (vs ++ []) H1 Q E
    rw [List.append_nil]
    exact ⟨G1, ds, d, a1.gh, r1, k, fun v G2 H2 a2 r2 => q v G2 H2 (a1.trans a2) r2⟩

/-! ### local lists read -/
theorem em_ixM {p : Addr} {i : Int} (hp : EV ss Ms ta (.ref p)) (hm : (p, CO.l ds) ∈ Ms) (hi : EM ss Ms tb (.int i)) {j : Nat} (hj : ds[j]? = some d) (ha : ∀ vs : List V, vs.length = ds.length → atI vs i = vs[j]?) : EM ss Ms (tOp (rIxL K) ta tb) d := fun G H σ e s m Q q =>
  hp G H σ e s m _ fun G1 H1 a1 => hi G1 H1 σ a1.gh (s.mono a1.gg) (m.mono a1) _ fun v G2 H2 a2 r2 => by
    cases r2
    obtain ⟨g, vs, e2, rv⟩ := ((m.mono a1).mono a2).ok _ _ hm
    obtain ⟨w, h1, h2⟩ := rv.get' hj
    exact ⟨p, vs, i, w, rfl, rfl, SqL.of e2, (ha vs rv.len).trans h1, q w G2 H2 (a1.trans a2) h2⟩
theorem em_lenM {p : Addr} (hp : EV ss Ms ta (.ref p)) (hm : (p, CO.l ds) ∈ Ms) : EM ss Ms (tCB (fun xs H Q => ∃ p ys, xs = [.ref p] ∧ (SqL K H p ys ∨ SqT K H p ys) ∧ Q (.int ys.length) H) (tCons ta tNil)) (.int ds.length) := fun G H σ e s m Q q =>
  hp G H σ e s m _ fun G1 H1 a1 => by
    obtain ⟨g, vs, e2, rv⟩ := (m.mono a1).ok _ _ hm
    refine ⟨p, vs, rfl, .inl (SqL.of e2), q _ G1 H1 a1 ?_⟩
    rw [rv.len]
    exact .int _
/-- read as data for one answer that holds no object -/
def scalarD : PyData → Bool
  | .list _ => false
  | .tuple _ => false
  | .dict _ => false
  | _ => true
theorem Rp.scalar {H H' : Hp} {v : V} {d : PyData} (h : Rp H v d) (s : scalarD d = true) : Rp H' v d := by
  cases h with
  | non => exact .non
  | bl b => exact .bl b
  | int i => exact .int i
  | str x => exact .str x
  | lst _ _ => cases s
  | tup _ _ => cases s
theorem nodup_idx {α : Type} : ∀ {l : List α} {i j : Nat} {a : α}, l.Nodup → l[i]? = some a → l[j]? = some a → i = j
  | [], _, _, _, _, h, _ => by simp at h
  | _ :: _, 0, 0, _, _, _, _ => rfl
  | b :: l, 0, j + 1, a, n, h1, h2 => by
    simp at h1 h2
    subst h1
    exact absurd (List.mem_of_getElem? h2) (List.nodup_cons.mp n).1
  | b :: l, i + 1, 0, a, n, h1, h2 => by
    simp at h1 h2
    subst h2
    exact absurd (List.mem_of_getElem? h1) (List.nodup_cons.mp n).1
  | b :: l, i + 1, j + 1, a, n, h1, h2 => by
    simp at h1 h2
    rw [nodup_idx (List.nodup_cons.mp n).2 h1 h2]
theorem mem_erase_idx {α : Type} : ∀ {l : List α} {k : Nat} {a : α}, a ∈ l.eraseIdx k → ∃ i, i ≠ k ∧ l[i]? = some a
  | [], _, _, h => by simp at h
  | b :: l, 0, a, h => by
    have h' : a ∈ l := h
    obtain ⟨i, hi⟩ := List.mem_iff_getElem?.mp h'
    exact ⟨i + 1, by omega, by simpa using hi⟩
  | b :: l, k + 1, a, h => by
    rw [List.eraseIdx_cons_succ] at h
    rcases List.mem_cons.mp h with rfl | h
    · exact ⟨0, by omega, by simp⟩
    · obtain ⟨i, hi, e⟩ := mem_erase_idx h
      exact ⟨i + 1, by omega, by simpa using e⟩
theorem map_erase {α β : Type} (f : α → β) : ∀ (l : List α) (k : Nat), (l.eraseIdx k).map f = (l.map f).eraseIdx k
  | [], _ => by simp
  | _ :: _, 0 => by simp
  | a :: l, k + 1 => by
    rw [List.eraseIdx_cons_succ, List.map_cons, List.map_cons, List.eraseIdx_cons_succ, map_erase f l k]
theorem Hm.frz {G H : Hp} {k : Nat} {p : Addr} (m : Hm G H Ms) (hk : Ms[k]? = some (p, .l ds)) {vs : List V} (hp : H p = some (.lst vs)) : Hm (upd G p (.lst vs)) H (Ms.eraseIdx k) := by
  refine ⟨by rw [map_erase]; exact m.nd.sublist (List.eraseIdx_sublist _ _), fun q c hc => ?_⟩
  obtain ⟨i, hi, e⟩ := mem_erase_idx hc
  have hq : q ≠ p := fun h => hi (nodup_idx (a := q) m.nd (by rw [List.getElem?_map, e]; rfl) (by rw [List.getElem?_map, hk, h]; rfl))
  obtain ⟨g, ok⟩ := m.ok q c (List.mem_of_getElem? e)
  refine ⟨by rw [upd_ne hq]; exact g, ?_⟩
  cases c with
  | l es =>
    obtain ⟨ws, h1, h2⟩ := ok
    exact ⟨ws, h1, RpAll.mono (Ex.new (m.ok _ _ (List.mem_of_getElem? hk)).1) _ _ h2⟩
  | raw o => exact ok
theorem em_frz (k i : Nat) {p : Addr} (hk : Ms[k]? = some (p, .l ds)) (hi : ss[i]? = some (.vw (.ref p))) (h : EM (ss.set i (.da (.list ds))) (Ms.eraseIdx k) te d) (hd : scalarD d = true) : EM ss Ms te d := fun G H σ e s m Q q => by
  obtain ⟨g, vs, e2, rv⟩ := m.ok _ _ (List.mem_of_getElem? hk)
  have ex : Ex G (upd G p (.lst vs)) := Ex.new g
  obtain ⟨o, h1, h2⟩ := s.get hi
  have s' : Sl (upd G p (.lst vs)) (σ.set i o) (ss.set i (.da (.list ds))) := Sl.set (s := .da (.list ds)) ⟨_, h2, .lst upd_same (RpAll.mono ex _ _ rv)⟩ i (s.mono ex)
  have es : σ.set i o = σ := by
    apply List.ext_getElem?
    intro j
    rw [List.getElem?_set]
    by_cases hj : i = j
    · subst hj
      by_cases hl : i < σ.length
      · simp [hl, ← h1]
      · rw [List.getElem?_eq_none_iff.mpr (by omega)] at h1; cases h1
    · simp [hj]
  rw [es] at s'
  refine h _ H σ (e.at e2) s' (m.frz hk e2) Q fun v G' H' a rv' => q v G H' ⟨a.hh, (e.trans a.hh), .refl G, fun _ _ _ x => x⟩ (rv'.scalar hd)
theorem et_frz (k i : Nat) {p : Addr} (hk : Ms[k]? = some (p, .l ds)) (hi : ss[i]? = some (.vw (.ref p))) (h : ET (ss.set i (.da (.list ds))) (Ms.eraseIdx k) tt b) : ET ss Ms tt b := fun G H σ e s m Q q => by
  obtain ⟨g, vs, e2, rv⟩ := m.ok _ _ (List.mem_of_getElem? hk)
  have ex : Ex G (upd G p (.lst vs)) := Ex.new g
  obtain ⟨o, h1, h2⟩ := s.get hi
  have s' : Sl (upd G p (.lst vs)) (σ.set i o) (ss.set i (.da (.list ds))) := Sl.set (s := .da (.list ds)) ⟨_, h2, .lst upd_same (RpAll.mono ex _ _ rv)⟩ i (s.mono ex)
  have es : σ.set i o = σ := by
    apply List.ext_getElem?
    intro j
    rw [List.getElem?_set]
    by_cases hj : i = j
    · subst hj
      by_cases hl : i < σ.length
      · simp [hl, ← h1]
      · rw [List.getElem?_eq_none_iff.mpr (by omega)] at h1; cases h1
    · simp [hj]
  rw [es] at s'
  refine h _ H σ (e.at e2) s' (m.frz hk e2) Q fun G' H' a => q G H' ⟨a.hh, (e.trans a.hh), .refl G, fun _ _ _ x => x⟩
end
end Lw
namespace Lw
open PySem L2

/-! ### targets -/
def EG (g : TG) (js : List Nat) (ss : List SP) (d : PyData) (ss' : List SP) : Prop := ∀ G H σ v, Ex G H → Sl G σ ss → Rp G v d → ∀ Q : L2.St → Hp → Prop, (∀ σ', Sl G σ' ss' → (∀ vs : List Nat, (∀ j ∈ js, j ∈ vs) → wipe σ' vs = wipe σ vs) → Q σ' H) → g v σ H Q
def EGs (g : TGs) (js : List Nat) (ss : List SP) (ds : List PyData) (ss' : List SP) : Prop := ∀ G H σ vs, Ex G H → Sl G σ ss → RpAll G vs ds → ∀ Q : L2.St → Hp → Prop, (∀ σ', Sl G σ' ss' → (∀ vs : List Nat, (∀ j ∈ js, j ∈ vs) → wipe σ' vs = wipe σ vs) → Q σ' H) → g vs σ H Q
section
variable {K : PySem.W.Frag} {ss ss' ss1 : List SP} {Ms : MS} {ta tb te tl : TE} {t u tt : TT} {d x y z : PyData} {ds es xs : List PyData} {r : R2} {v : V} {b c : Bool} {g : TG} {gs : TGs} {js js' vs : List Nat}
theorem eg_name {j : Nat} : EG (gName j) [j] ss d (ss.set j (.da d)) := fun G H σ v e s r Q q => by
  refine q _ (Sl.set (s := .da d) ⟨v, rfl, r⟩ j s) fun vs h => ?_
  exact wipe_set (h j (List.mem_singleton.mpr rfl))
theorem egs_nil : EGs gNil [] ss [] ss := fun G H σ vs e s r Q q => by
  cases r
  exact ⟨rfl, q σ s fun _ _ => rfl⟩
theorem egs_cons (h : EG g js ss d ss1) (k : EGs gs js' ss1 ds ss') : EGs (gCons g gs) (js ++ js') ss (d :: ds) ss' := fun G H σ vs e s r Q q => by
  cases r with
  | cons r1 r2 =>
    refine ⟨_, _, rfl, h G H σ _ e s r1 _ fun σ1 s1 w1 => k G H σ1 _ e s1 r2 _ fun σ2 s2 w2 => q σ2 s2 fun vs hv => ?_⟩
    rw [w2 vs fun j hj => hv j (List.mem_append_right _ hj), w1 vs fun j hj => hv j (List.mem_append_left _ hj)]
theorem eg_tup {n : Nat} (h : EGs gs js ss ds ss') (hn : ds.length = n) : EG (gTup K n gs) js ss (.tuple ds) ss' := fun G H σ v e s r Q q => by
  cases r with
  | tup h1 h2 => exact ⟨_, _, rfl, SqT.of (e _ _ h1), h2.len.trans hn, h G H σ _ e s h2 Q q⟩

/-! ### comprehensions -/
/-- behind i turns: the list so far at D -/
def Cw (G H : Hp) (D : Addr) (ds : List PyData) (H' : Hp) : Prop := ∃ G' acc, Nx G H G' H' ∧ H' D = some (.lst acc) ∧ G' D = none ∧ RpAll G' acc ds
theorem Cw.start {G H : Hp} {D : Addr} (e : Ex G H) (h : H D = none) : Cw G H D [] (upd H D (.lst [])) :=
  ⟨G, [], (Nx.refl e).mut h (e.none h), upd_same, e.none h, .nil⟩
theorem cw_turn {G H H' : Hp} {D : Addr} {σ : L2.St} {f : Bool} {n : Nat} (hD : H D = none) (c : Cw G H D ds H') (hl : ds.length < 100000) (s : ∀ G' H', Nx G H G' H' → Sl G' σ ss) (m : Hm G H Ms) (ht : ET ss Ms tt f) (he : f = true → EM ss Ms te d) :
    tt σ H' fun b H3 => if b = true then te σ H3 fun y H4 => ∃ acc, H4 D = some (.lst acc) ∧ acc.length < sizeLine ∧ Cw G H D (ds ++ if f then [d] else []) (upd H4 D (.lst (acc ++ [y]))) else Cw G H D (ds ++ if f then [d] else []) H3 := by
  obtain ⟨G', acc, a, e1, g1, r1⟩ := c
  refine ht G' H' σ a.gh (s _ _ a) (m.mono a) _ fun G2 H2 a2 => ?_
  cases f with
  | true =>
    show te σ H2 fun y H4 => ∃ acc, H4 D = some (.lst acc) ∧ acc.length < sizeLine ∧ Cw G H D (ds ++ [d]) (upd H4 D (.lst (acc ++ [y])))
    refine he rfl G2 H2 σ a2.gh (s _ _ (a.trans a2)) (m.mono (a.trans a2)) _ fun v G3 H3 a3 r3 => ?_
    have gD : G3 D = none := a3.aw D _ (a2.hh _ _ e1) (a2.aw D _ e1 g1)
    exact ⟨acc, a3.hh _ _ (a2.hh _ _ e1), by rw [r1.len]; exact sz_lt hl, G3, acc ++ [v], ((a.trans a2).trans a3).mut hD gD, upd_same, gD, (RpAll.mono (a2.gg.trans a3.gg) _ _ r1).snoc r3⟩
  | false =>
    show Cw G H D (ds ++ []) H2
    rw [List.append_nil]
    exact ⟨G2, acc, a.trans a2, a2.hh _ _ e1, a2.aw D _ e1 g1, RpAll.mono a2.gg _ _ r1⟩
def lcOut {α : Type} (f : α → Bool) (g : α → PyData) (xs : List α) : List PyData := (xs.filter f).map g
theorem lcOut_take {α : Type} {f : α → Bool} {g : α → PyData} {xs : List α} {i : Nat} {a : α} (h : xs[i]? = some a) : lcOut f g (xs.take (i + 1)) = lcOut f g (xs.take i) ++ if f a then [g a] else [] := by
  unfold lcOut
  rw [List.take_add_one, h, Option.toList_some, List.filter_append, List.map_append]
  cases hf : f a <;> simp [hf]
theorem lcOut_len {α : Type} (f : α → Bool) (g : α → PyData) (xs : List α) : (lcOut f g xs).length ≤ xs.length := by
  unfold lcOut
  rw [List.length_map]
  exact List.length_filter_le _ _
/-- [e for target in xs if ..], xs a list of the items α -/
theorem en_lcL {α : Type} (enc : α → PyData) (xs : List α) (f : α → Bool) (ge : α → PyData) (h : EM ss Ms tl (.list (xs.map enc))) (hz : xs.length < 100000)
    (ht : ∀ a ∈ xs, ∃ ss1, EG g js (wipeS ss vs) (enc a) ss1 ∧ ET ss1 Ms tt (f a) ∧ (f a = true → EM ss1 Ms te (ge a))) (hj : ∀ j ∈ js, j ∈ vs) : EN ss Ms (tLc (iList K tl) g tt te vs) (lcOut f ge xs) := fun G0 H0 σ e0 s0 m0 Q q =>
  h G0 H0 σ e0 s0 m0 _ fun v G H a r => by
    cases r with
    | @lst la vs' _ hv rv =>
      refine ⟨_, rfl, ⟨vs', SqL.of (a.gh _ _ hv)⟩, fun D hD => ?_⟩
      have hlen : vs'.length = xs.length := by rw [rv.len, List.length_map]
      refine lc_list (xs := vs') (fun i H' => Cw G H D (lcOut f ge (xs.take i)) H') (Cw.start a.gh hD) (fun i H' _ c => ?_) (fun i x H' hx c => ?_) fun H' c => ?_
      · obtain ⟨G', acc, a', _⟩ := c
        exact SqL.of (a'.gh _ _ (a'.gg _ _ hv))
      · obtain ⟨d, hd, rd⟩ := rv.get hx
        rw [List.getElem?_map] at hd
        obtain ⟨b, hb, rfl⟩ := Option.map_eq_some_iff.mp hd
        obtain ⟨ss1, hg, ht1, he1⟩ := ht b (List.mem_of_getElem? hb)
        have hi : i < xs.length := (List.getElem?_eq_some_iff.mp hb).1
        have c0 := id c
        obtain ⟨G', acc, a', e1, g1, r1⟩ := c
        refine hg G H' (wipe σ vs) x (a.gh.trans a'.hh) ((s0.mono a.gg).wipe vs) rd _ fun σ2 s2 w2 => ⟨by rw [w2 vs hj, wipe_idem], ?_⟩
        rw [lcOut_take hb]
        exact cw_turn (n := i) hD c0 (Nat.lt_of_le_of_lt (lcOut_len f ge _) (by rw [List.length_take]; omega)) (fun G2 H2 a2 => s2.mono a2.gg) (m0.mono a) ht1 he1
      · obtain ⟨G', acc, a', e1, g1, r1⟩ := c
        rw [hlen, List.take_length] at r1
        exact q D acc G' H' (a.trans a') (a.hh.none hD) g1 e1 r1
theorem en_lcT {α : Type} (enc : α → PyData) (xs : List α) (f : α → Bool) (ge : α → PyData) (h : EM ss Ms tl (.tuple (xs.map enc))) (hz : xs.length < 100000)
    (ht : ∀ a ∈ xs, ∃ ss1, EG g js (wipeS ss vs) (enc a) ss1 ∧ ET ss1 Ms tt (f a) ∧ (f a = true → EM ss1 Ms te (ge a))) (hj : ∀ j ∈ js, j ∈ vs) : EN ss Ms (tLc (iTup K tl) g tt te vs) (lcOut f ge xs) := fun G0 H0 σ e0 s0 m0 Q q =>
  h G0 H0 σ e0 s0 m0 _ fun v G H a r => by
    cases r with
    | @tup la vs' _ hv rv =>
      refine ⟨_, rfl, ⟨vs', SqT.of (a.gh _ _ hv)⟩, fun D hD => ?_⟩
      have hlen : vs'.length = xs.length := by rw [rv.len, List.length_map]
      refine lc_tup (xs := vs') (fun i H' => Cw G H D (lcOut f ge (xs.take i)) H') (Cw.start a.gh hD) (fun i H' _ c => ?_) (fun i x H' hx c => ?_) fun H' c => ?_
      · obtain ⟨G', acc, a', _⟩ := c
        exact SqT.of (a'.gh _ _ (a'.gg _ _ hv))
      · obtain ⟨d, hd, rd⟩ := rv.get hx
        rw [List.getElem?_map] at hd
        obtain ⟨b, hb, rfl⟩ := Option.map_eq_some_iff.mp hd
        obtain ⟨ss1, hg, ht1, he1⟩ := ht b (List.mem_of_getElem? hb)
        have hi : i < xs.length := (List.getElem?_eq_some_iff.mp hb).1
        have c0 := id c
        obtain ⟨G', acc, a', e1, g1, r1⟩ := c
        refine hg G H' (wipe σ vs) x (a.gh.trans a'.hh) ((s0.mono a.gg).wipe vs) rd _ fun σ2 s2 w2 => ⟨by rw [w2 vs hj, wipe_idem], ?_⟩
        rw [lcOut_take hb]
        exact cw_turn (n := i) hD c0 (Nat.lt_of_le_of_lt (lcOut_len f ge _) (by rw [List.length_take]; omega)) (fun G2 H2 a2 => s2.mono a2.gg) (m0.mono a) ht1 he1
      · obtain ⟨G', acc, a', e1, g1, r1⟩ := c
        rw [hlen, List.take_length] at r1
        exact q D acc G' H' (a.trans a') (a.hh.none hD) g1 e1 r1
theorem en_lcR {ta : TA} {j n : Nat} (f : Nat → Bool) (ge : Nat → PyData) (h : ED ss Ms ta [.int (n : Int)]) (hz : n < 100000)
    (ht : ∀ i : Nat, i < n → ET ((wipeS ss vs).set j (.da (.int (i : Int)))) Ms tt (f i) ∧ (f i = true → EM ((wipeS ss vs).set j (.da (.int (i : Int)))) Ms te (ge i))) (hj : j ∈ vs) : EN ss Ms (tLc (iRng1 ta) (gName j) tt te vs) (lcOut f ge (List.range n)) := fun G0 H0 σ e0 s0 m0 Q q =>
  h G0 H0 σ e0 s0 m0 _ fun v G H a r => by
    cases r with
    | cons r1 r2 =>
    cases r1
    cases r2
    refine ⟨n, rfl, by omega, by omega, fun D hD => ?_⟩
    refine lc_range (lo := 0) (n := n) (fun i H' => Cw G H D (lcOut f ge ((List.range n).take i)) H') (Cw.start a.gh hD) (fun i H' hi c => ?_) fun H' c => ?_
    · have e0 : (0 : Int) + (i : Int) = (i : Int) := Int.zero_add _
      have hb : (List.range n)[i]? = some i := by simp [hi]
      obtain ⟨ht1, he1⟩ := ht i hi
      refine ⟨by rw [e0, wipe_set hj, wipe_idem], ?_⟩
      rw [e0, lcOut_take hb]
      exact cw_turn (n := i) hD c (Nat.lt_of_le_of_lt (lcOut_len f ge _) (by rw [List.length_take, List.length_range]; omega)) (fun G2 H2 a2 => Sl.set (s := .da (.int (i : Int))) ⟨_, rfl, .int _⟩ j (((s0.mono a.gg).wipe vs).mono a2.gg)) (m0.mono a) ht1 he1
    · obtain ⟨G', acc, a', e1, g1, r1⟩ := c
      rw [List.take_of_length_le (by simp)] at r1
      exact q D acc G' H' (a.trans a') (a.hh.none hD) g1 e1 r1

/-! ### the built-ins, on data -/
theorem rc_len_l : RC (fun xs H Q => ∃ p ys, xs = [.ref p] ∧ (SqL K H p ys ∨ SqT K H p ys) ∧ Q (.int ys.length) H) [.list ds] (.int ds.length) := fun G H vs e r Q q => by
  cases r with
  | cons r1 r2 =>
    cases r2
    cases r1 with
    | lst h1 h2 => exact ⟨_, _, rfl, .inl (SqL.of (e _ _ h1)), by rw [h2.len]; exact q _ G H (.refl e) (.int _)⟩
theorem rc_len_t : RC (fun xs H Q => ∃ p ys, xs = [.ref p] ∧ (SqL K H p ys ∨ SqT K H p ys) ∧ Q (.int ys.length) H) [.tuple ds] (.int ds.length) := fun G H vs e r Q q => by
  cases r with
  | cons r1 r2 =>
    cases r2
    cases r1 with
    | tup h1 h2 => exact ⟨_, _, rfl, .inr (SqT.of (e _ _ h1)), by rw [h2.len]; exact q _ G H (.refl e) (.int _)⟩
theorem rc_tuple_l : RC (fun xs H Q => ∃ p ys, xs = [.ref p] ∧ ((SqL K H p ys ∧ ∀ l, H l = none → Q (.ref l) (upd H l (.tup ys))) ∨ (SqT K H p ys ∧ Q (.ref p) H))) [.list ds] (.tuple ds) := fun G H vs e r Q q => by
  cases r with
  | cons r1 r2 =>
    cases r2
    cases r1 with
    | lst h1 h2 => exact ⟨_, _, rfl, .inl ⟨SqL.of (e _ _ h1), fun l hl => q _ (upd G l (.tup _)) _ ((Nx.refl e).new hl) (.tup upd_same (RpAll.mono (Ex.new (e.none hl)) _ _ h2))⟩⟩
theorem rcn_list_l : RCN (fun xs H Q => ∃ p ys, xs = [.ref p] ∧ (SqL K H p ys ∨ SqT K H p ys) ∧ ∀ l, H l = none → Q (.ref l) (upd H l (.lst ys))) [.list ds] ds := fun G H vs e r Q q => by
  cases r with
  | cons r1 r2 =>
    cases r2
    cases r1 with
    | lst h1 h2 => exact ⟨_, _, rfl, .inl (SqL.of (e _ _ h1)), fun l hl => q l _ G _ ((Nx.refl e).mut hl (e.none hl)) hl (e.none hl) upd_same h2⟩
theorem rcn_list_t : RCN (fun xs H Q => ∃ p ys, xs = [.ref p] ∧ (SqL K H p ys ∨ SqT K H p ys) ∧ ∀ l, H l = none → Q (.ref l) (upd H l (.lst ys))) [.tuple ds] ds := fun G H vs e r Q q => by
  cases r with
  | cons r1 r2 =>
    cases r2
    cases r1 with
    | tup h1 h2 => exact ⟨_, _, rfl, .inr (SqT.of (e _ _ h1)), fun l hl => q l _ G _ ((Nx.refl e).mut hl (e.none hl)) hl (e.none hl) upd_same h2⟩
theorem rc_max2 {i j : Int} : RC (fun xs H Q => ∃ i j, xs = [.int i, .int j] ∧ Q (.int (if j > i then j else i)) H) [.int i, .int j] (.int (if j > i then j else i)) := fun G H vs e r Q q => by
  cases r with
  | cons r1 r2 =>
    cases r2 with
    | cons r2 r3 =>
      cases r1; cases r2; cases r3
      exact ⟨i, j, rfl, q _ G H (.refl e) (.int _)⟩
theorem rc_sum {ns : List Int} : RC (rSum K) [.list (ns.map .int)] (.int ns.sum) := fun G H vs e r Q q => by
  cases r with
  | cons r1 r2 =>
    cases r2
    cases r1 with
    | lst h1 h2 =>
      cases h2.ints
      exact ⟨_, ns, rfl, SqL.of (e _ _ h1), q _ G H (.refl e) (.int _)⟩
theorem rc_any {ns : List Bool} : RC (rAny K) [.list (ns.map .bool)] (.bool (ns.any id)) := fun G H vs e r Q q => by
  cases r with
  | cons r1 r2 =>
    cases r2
    cases r1 with
    | lst h1 h2 =>
      cases h2.bools
      exact ⟨_, ns, rfl, SqL.of (e _ _ h1), q _ G H (.refl e) (.bl _)⟩
theorem rc_all {ns : List Bool} : RC (rAll K) [.list (ns.map .bool)] (.bool (ns.all id)) := fun G H vs e r Q q => by
  cases r with
  | cons r1 r2 =>
    cases r2
    cases r1 with
    | lst h1 h2 =>
      cases h2.bools
      exact ⟨_, ns, rfl, SqL.of (e _ _ h1), q _ G H (.refl e) (.bl _)⟩
def maxI (m : Int) (ns : List Int) : Int := ns.foldl max m
theorem foldl_max_ge : ∀ (ns : List Int) (m : Int), m ≤ maxI m ns ∧ ∀ y ∈ ns, y ≤ maxI m ns
  | [], m => ⟨Int.le_refl m, fun y h => nomatch h⟩
  | n :: ns, m => by
    obtain ⟨h1, h2⟩ := foldl_max_ge ns (max m n)
    refine ⟨Int.le_trans (Int.le_max_left m n) h1, fun y h => ?_⟩
    rcases List.mem_cons.mp h with rfl | h
    · exact Int.le_trans (Int.le_max_right m _) h1
    · exact h2 y h
theorem maxI_mem : ∀ (ns : List Int) (m : Int), maxI m ns = m ∨ maxI m ns ∈ ns
  | [], m => .inl rfl
  | n :: ns, m => by
    rcases maxI_mem ns (max m n) with h | h
    · by_cases hc : n ≤ m
      · left
        show maxI (max m n) ns = m
        rw [h, Int.max_eq_left hc]
      · right
        show maxI (max m n) ns ∈ _
        rw [h, Int.max_eq_right (by omega)]
        exact List.mem_cons_self
    · right
      exact List.mem_cons_of_mem _ h
theorem maxI_unique {m k : Int} {ns : List Int} (h : k ∈ m :: ns) (g : ∀ y ∈ m :: ns, y ≤ k) : k = maxI m ns := by
  obtain ⟨h1, h2⟩ := foldl_max_ge ns m
  apply Int.le_antisymm
  · rcases List.mem_cons.mp h with rfl | h
    · exact h1
    · exact h2 k h
  · rcases maxI_mem ns m with e | e
    · rw [e]; exact g m List.mem_cons_self
    · exact g _ (List.mem_cons_of_mem _ e)
theorem rc_max {m : Int} {ns : List Int} : RC (rMax K) [.list (.int m :: ns.map .int)] (.int (maxI m ns)) := fun G H vs e r Q q => by
  cases r with
  | cons r1 r2 =>
    cases r2
    cases r1 with
    | lst h1 h2 =>
      have h3 : RpAll G _ ((m :: ns).map .int) := h2
      cases h3.ints
      refine ⟨_, m :: ns, rfl, SqL.of (e _ _ h1), Nat.succ_pos _, fun k hk hle => ?_⟩
      rw [maxI_unique hk hle]
      exact q _ G H (.refl e) (.int _)
/-! operators -/
theorem ro_I0 {g : Int → Int → V} {d : PyData} {i j : Int} (h : ∀ H, Rp H (g i j) d) : RO (rI0 g) (.int i) (.int j) d := fun G H v w e rx ry Q q => by
  cases rx; cases ry
  exact ⟨i, j, rfl, rfl, q _ G H (.refl e) (h G)⟩
theorem ro_add {i j : Int} : RO (rI0 fun i j => .int (i + j)) (.int i) (.int j) (.int (i + j)) := ro_I0 fun _ => .int _
theorem ro_sub {i j : Int} : RO (rI0 fun i j => .int (i - j)) (.int i) (.int j) (.int (i - j)) := ro_I0 fun _ => .int _
theorem ro_cmp {p : Int → Int → Bool} {i j : Int} : RO (rI0 fun i j => .bl (p i j)) (.int i) (.int j) (.bool (p i j)) := ro_I0 fun _ => .bl _
theorem ro_I {C : Int → Int → Prop} {g : Int → Int → V} {d : PyData} {i j : Int} (hc : C i j) (h : ∀ H, Rp H (g i j) d) : RO (rI C g) (.int i) (.int j) d := fun G H v w e rx ry Q q => by
  cases rx; cases ry
  exact ⟨i, j, rfl, rfl, hc, q _ G H (.refl e) (h G)⟩
theorem ro_ixL {i : Int} {j : Nat} (hj : ds[j]? = some d) (ha : ∀ vs : List V, vs.length = ds.length → atI vs i = vs[j]?) : RO (rIxL K) (.list ds) (.int i) d := fun G H v w e rx ry Q q => by
  cases ry
  cases rx with
  | lst h1 h2 =>
    obtain ⟨u, k1, k2⟩ := h2.get' hj
    exact ⟨_, _, i, u, rfl, rfl, SqL.of (e _ _ h1), (ha _ h2.len).trans k1, q u G H (.refl e) k2⟩
theorem ro_ixT {i : Int} {j : Nat} (hj : ds[j]? = some d) (ha : ∀ vs : List V, vs.length = ds.length → atI vs i = vs[j]?) : RO (rIxT K) (.tuple ds) (.int i) d := fun G H v w e rx ry Q q => by
  cases ry
  cases rx with
  | tup h1 h2 =>
    obtain ⟨u, k1, k2⟩ := h2.get' hj
    exact ⟨_, _, i, u, rfl, rfl, SqT.of (e _ _ h1), (ha _ h2.len).trans k1, q u G H (.refl e) k2⟩
theorem ro_ixL_n {j : Nat} (hj : ds[j]? = some d) : RO (rIxL K) (.list ds) (.int (j : Int)) d := by
  refine ro_ixL hj fun vs hl => ?_
  obtain ⟨v, hv⟩ : ∃ v, vs[j]? = some v := by
    have := (List.getElem?_eq_some_iff.mp hj).1
    exact ⟨vs[j]'(by omega), List.getElem?_eq_getElem (by omega)⟩
  rw [atI_nat hv, hv]
theorem ro_ixT_n {j : Nat} (hj : ds[j]? = some d) : RO (rIxT K) (.tuple ds) (.int (j : Int)) d := by
  refine ro_ixT hj fun vs hl => ?_
  obtain ⟨v, hv⟩ : ∃ v, vs[j]? = some v := by
    have := (List.getElem?_eq_some_iff.mp hj).1
    exact ⟨vs[j]'(by omega), List.getElem?_eq_getElem (by omega)⟩
  rw [atI_nat hv, hv]
theorem ro_eqD (sx : SeqAt.shaped x = true) (sy : SeqAt.shaped y = true) : RO (rEqD K) x y (.bool (PyData.eqv x y)) := fun G H v w e rx ry Q q =>
  ⟨x, y, Rp.dp _ _ (Rp.mono e _ _ rx), Rp.dp _ _ (Rp.mono e _ _ ry), sx, sy, q _ G H (.refl e) (.bl _)⟩
theorem ro_neD (sx : SeqAt.shaped x = true) (sy : SeqAt.shaped y = true) : RO (rNeD K) x y (.bool (!PyData.eqv x y)) := fun G H v w e rx ry Q q =>
  ⟨x, y, Rp.dp _ _ (Rp.mono e _ _ rx), Rp.dp _ _ (Rp.mono e _ _ ry), sx, sy, q _ G H (.refl e) (.bl _)⟩
theorem ro_eqI {i j : Int} : RO rEq (.int i) (.int j) (.bool (decide (i = j))) := fun G H v w e rx ry Q q => by
  cases rx; cases ry
  have h : decide (V.int i = V.int j) = decide (i = j) := by simp
  refine ⟨rfl, ?_⟩
  rw [h]
  exact q _ G H (.refl e) (.bl _)
theorem ro_eqS {i j : Str} : RO rEq (.str i) (.str j) (.bool (decide (i = j))) := fun G H v w e rx ry Q q => by
  cases rx; cases ry
  have h : decide (V.str i = V.str j) = decide (i = j) := by simp
  refine ⟨rfl, ?_⟩
  rw [h]
  exact q _ G H (.refl e) (.bl _)
theorem ro_neI {i j : Int} : RO rNe (.int i) (.int j) (.bool (!decide (i = j))) := fun G H v w e rx ry Q q => by
  cases rx; cases ry
  have h : decide (V.int i = V.int j) = decide (i = j) := by simp
  refine ⟨rfl, ?_⟩
  rw [h]
  exact q _ G H (.refl e) (.bl _)
theorem ron_cat (hl : ds.length + es.length ≤ 100000) : RON rCat (.list ds) (.list es) (ds ++ es) := fun G H v w e rx ry Q q => by
  cases rx with
  | lst h1 h2 =>
    cases ry with
    | lst k1 k2 => exact ⟨_, _, _, _, rfl, rfl, e _ _ h1, e _ _ k1, by rw [h2.len, k2.len]; exact sz_of hl, fun p hp => q p _ G _ ((Nx.refl e).mut hp (e.none hp)) hp (e.none hp) upd_same (h2.app k2)⟩
theorem inV_ints {i : Int} {ns : List Int} : inV (.int i) (ns.map V.int) = decide (i ∈ ns) := by
  induction ns with
  | nil => simp [inV]
  | cons n ns ih =>
    have h : inV (V.int i) ((n :: ns).map V.int) = (eqV (.int n) (.int i) || inV (.int i) (ns.map V.int)) := by simp [inV]
    rw [h, ih]
    have h2 : eqV (V.int n) (V.int i) = decide (i = n) := by
      show (n == i) = decide (i = n)
      by_cases hc : i = n
      · subst hc; simp
      · have : ¬ n = i := fun z => hc z.symm
        simp [hc, this]
    rw [h2]
    by_cases hc : i = n <;> simp [hc]
theorem flat_ints (ns : List Int) : (ns.map V.int).all flatV = true := by
  rw [List.all_map, List.all_eq_true]
  intro x _
  rfl
theorem ro_inL {i : Int} {ns : List Int} : RO (rIn K false) (.int i) (.list (ns.map .int)) (.bool (decide (i ∈ ns))) := fun G H v w e rx ry Q q => by
  cases rx
  cases ry with
  | lst h1 h2 =>
    cases h2.ints
    refine ⟨_, _, rfl, .inl (SqL.of (e _ _ h1)), rfl, flat_ints ns, ?_⟩
    show Q (.bl (inV (.int i) (ns.map V.int))) H
    rw [inV_ints]
    exact q _ G H (.refl e) (.bl _)
theorem em_sl {tl' th : TO} {lo hi : Option Int} (h : EM ss Ms te (.list ds)) (h1 : EO ss Ms tl' lo) (h2 : EO ss Ms th hi) (hc : ∀ G vs, RpAll G vs ds → RpAll G (cutV vs lo hi) es) : EN ss Ms (tSl (rSlL K) te tl' th) es := fun G H σ e s m Q q =>
  h G H σ e s m _ fun v G1 H1 a1 r1 => h1 G1 H1 σ a1.gh (s.mono a1.gg) (m.mono a1) _ fun G2 H2 a2 => h2 G2 H2 σ a2.gh (s.mono (a1.gg.trans a2.gg)) ((m.mono a1).mono a2) _ fun G3 H3 a3 => by
    have r3 := Rp.mono (a2.gg.trans a3.gg) _ _ r1
    cases r3 with
    | lst k1 k2 =>
      have a := (a1.trans a2).trans a3
      exact ⟨_, _, rfl, SqL.of (a3.gh _ _ k1), fun p hp => q p _ G3 _ (a.mut (a.hh.none hp) (a.gh.none hp)) (a.hh.none hp) (a.gh.none hp) upd_same (hc G3 _ k2)⟩

/-! ### statements -/
/-- where a def stands: G0, H0 what it began with -/
def At (G0 H0 : Hp) (ss : List SP) (Ms : MS) (σ : L2.St) (H : Hp) : Prop := ∃ G, Nx G0 H0 G H ∧ Sl G σ ss ∧ Hm G H Ms ∧ ∀ p c, (p, c) ∈ Ms → H0 p = none
def Go (t : TS) (D : Ends) (G0 H0 : Hp) (ss : List SP) (Ms : MS) : Prop := ∀ σ H, At G0 H0 ss Ms σ H → t D σ H
def Nt (D : Ends) (G0 H0 : Hp) (ss : List SP) (Ms : MS) : Prop := ∀ σ H, At G0 H0 ss Ms σ H → D.nx σ H
/-- the def may hand back d -/
def Rt (D : Ends) (G0 H0 : Hp) (d : PyData) : Prop := ∀ v G' H', Nx G0 H0 G' H' → Rp G' v d → D.rt v H'
/-- a later base -/
structure Up (G0 H0 G1 : Hp) : Prop where
  gg : Ex G0 G1
  aw : ∀ a o, H0 a = some o → G0 a = none → G1 a = none
theorem Up.nx {G0 H0 G1 G H : Hp} (u : Up G0 H0 G1) (a : Nx G1 H0 G H) : Nx G0 H0 G H := ⟨a.hh, a.gh, u.gg.trans a.gg, fun x o h g => a.aw x o h (u.aw x o h g)⟩
theorem Rt.up {D : Ends} {G0 H0 G1 : Hp} (h : Rt D G0 H0 d) (u : Up G0 H0 G1) : Rt D G1 H0 d := fun v G' H' a r => h v G' H' (u.nx a) r
theorem At.up {G0 H0 G1 H : Hp} {σ : L2.St} (u : Up G0 H0 G1) (h : At G1 H0 ss Ms σ H) : At G0 H0 ss Ms σ H := by
  obtain ⟨G, a, s, m, k⟩ := h
  exact ⟨G, u.nx a, s, m, k⟩
/-- what is known of the slots, made less -/
def Wk : List SP → List SP → Prop
  | [], [] => True
  | s :: ss, t :: ts => (t = .un ∨ s = t) ∧ Wk ss ts
  | _, _ => False
theorem Wk.refl : ∀ ss : List SP, Wk ss ss
  | [] => trivial
  | _ :: ss => ⟨.inr rfl, Wk.refl ss⟩
theorem Sl.wk {G : Hp} : ∀ {ss ts : List SP} {σ : L2.St}, Wk ss ts → Sl G σ ss → Sl G σ ts
  | [], [], _, _, h => h
  | s :: ss, t :: ts, o :: σ, ⟨w, ws⟩, ⟨h, hs⟩ => by
    refine ⟨?_, Sl.wk ws hs⟩
    rcases w with rfl | rfl
    · trivial
    · exact h
  | _ :: _, _ :: _, [], _, h => h.elim
  | [], _ :: _, _, w, _ => w.elim
  | _ :: _, [], _, w, _ => w.elim
theorem At.wk {G0 H0 H : Hp} {σ : L2.St} (w : Wk ss ss') (h : At G0 H0 ss Ms σ H) : At G0 H0 ss' Ms σ H := by
  obtain ⟨G, a, s, m, k⟩ := h
  exact ⟨G, a, s.wk w, m, k⟩
variable {D : Ends} {G0 H0 : Hp} {tu tw : TS} {p : Addr}
theorem g_seq (h : Go tu { D with nx := tw D } G0 H0 ss Ms) : Go (tSeq tu tw) D G0 H0 ss Ms := h
theorem g_ret (h : EM ss Ms te d) (k : Rt D G0 H0 d) : Go (tRet te) D G0 H0 ss Ms := fun σ H ⟨G, a, s, m, _⟩ => h G H σ a.gh s m _ fun v G1 H1 a1 r1 => k v G1 H1 (a.trans a1) r1
theorem g_asg {i : Nat} (h : EM ss Ms te d) (k : Nt D G0 H0 (ss.set i (.da d)) Ms) : Go (tAsg te (gName i)) D G0 H0 ss Ms := fun σ H ⟨G, a, s, m, z⟩ => h G H σ a.gh s m _ fun v G1 H1 a1 r1 =>
  k _ H1 ⟨G1, a.trans a1, Sl.set (s := .da d) ⟨v, rfl, r1⟩ i (s.mono a1.gg), m.mono a1, z⟩
theorem q_asg {i : Nat} (h : EM ss Ms te d) (k : Go tw D G0 H0 (ss.set i (.da d)) Ms) : Go (tSeq (tAsg te (gName i)) tw) D G0 H0 ss Ms := g_seq (g_asg h k)
theorem g_asgG {g : TG} (h : EM ss Ms te d) (hg : EG g js ss d ss') (k : Nt D G0 H0 ss' Ms) : Go (tAsg te g) D G0 H0 ss Ms := fun σ H ⟨G, a, s, m, z⟩ => h G H σ a.gh s m _ fun v G1 H1 a1 r1 =>
  hg G1 H1 σ v a1.gh (s.mono a1.gg) r1 _ fun σ' s' _ => k σ' H1 ⟨G1, a.trans a1, s', m.mono a1, z⟩
theorem q_asgG {g : TG} (h : EM ss Ms te d) (hg : EG g js ss d ss') (k : Go tw D G0 H0 ss' Ms) : Go (tSeq (tAsg te g) tw) D G0 H0 ss Ms := g_seq (g_asgG h hg k)
/-- a new list that will change -/
theorem Hm.new {G H G1 H1 : Hp} {c : CO} (m : Hm G H Ms) (a1 : Nx G H G1 H1) (hp : H p = none) (gp : G1 p = none) (ok : CoOk G1 H1 p c) : Hm G1 H1 ((p, c) :: Ms) := by
  refine ⟨?_, ?_⟩
  · rw [List.map_cons, List.nodup_cons]
    refine ⟨fun hm => ?_, m.nd⟩
    obtain ⟨⟨q, c'⟩, hq, e⟩ := List.mem_map.mp hm
    have e' : q = p := e
    subst e'
    obtain ⟨o, ho⟩ := (m.ok _ _ hq).2.some
    rw [hp] at ho
    cases ho
  · intro q c' hq
    rcases List.mem_cons.mp hq with h | h
    · cases h
      exact ⟨gp, ok⟩
    · exact (m.mono a1).ok q c' h
theorem zcons {c : CO} {H : Hp} (hp : H p = none) (z : ∀ q c, (q, c) ∈ Ms → H q = none) : ∀ q c', (q, c') ∈ (p, c) :: Ms → H q = none := by
  intro q c' hq
  rcases List.mem_cons.mp hq with h | h
  · cases h
    exact hp
  · exact z q c' h
theorem g_asgN {i : Nat} (h : EN ss Ms te ds) (k : ∀ p, Nt D G0 H0 (ss.set i (.vw (.ref p))) ((p, .l ds) :: Ms)) : Go (tAsg te (gName i)) D G0 H0 ss Ms := fun σ H ⟨G, a, s, m, z⟩ => h G H σ a.gh s m _ fun p vs G1 H1 a1 hp gp e1 r1 =>
  k p _ H1 ⟨G1, a.trans a1, Sl.set (s := .vw (.ref p)) rfl i (s.mono a1.gg), m.new a1 hp gp ⟨vs, e1, r1⟩, zcons (a.hh.none hp) z⟩
theorem q_asgN {i : Nat} (h : EN ss Ms te ds) (k : ∀ p, Go tw D G0 H0 (ss.set i (.vw (.ref p))) ((p, .l ds) :: Ms)) : Go (tSeq (tAsg te (gName i)) tw) D G0 H0 ss Ms := g_seq (g_asgN h k)
theorem g_if (h : ET ss Ms t b) (h1 : b = true → Go tu D G0 H0 ss Ms) (h2 : b = false → Go tw D G0 H0 ss Ms) : Go (tIfS t tu tw) D G0 H0 ss Ms := fun σ H ⟨G, a, s, m, z⟩ => h G H σ a.gh s m _ fun G1 H1 a1 => by
  have at1 : At G0 H0 ss Ms σ H1 := ⟨G1, a.trans a1, s.mono a1.gg, m.mono a1, z⟩
  cases b with
  | true =>
    show tu D σ H1
    exact h1 rfl σ H1 at1
  | false =>
    show tw D σ H1
    exact h2 rfl σ H1 at1
theorem g_next (h : Nt D G0 H0 ss Ms) : Go tNext D G0 H0 ss Ms := h
theorem g_cont (h : ∀ σ H, At G0 H0 ss Ms σ H → D.ct σ H) : Go tCont D G0 H0 ss Ms := h
/-- if c: .. (ends elsewhere) ; rest -/
theorem q_if {tz : TS} (h : ET ss Ms t b) (h1 : b = true → Go tu { D with nx := tz D } G0 H0 ss Ms) (h2 : b = false → Go tw { D with nx := tz D } G0 H0 ss Ms) : Go (tSeq (tIfS t tu tw) tz) D G0 H0 ss Ms := g_seq (g_if h h1 h2)
theorem g_drop (h : EM ss Ms te d) (k : Nt D G0 H0 ss Ms) : Go (tDrop te) D G0 H0 ss Ms := fun σ H ⟨G, a, s, m, z⟩ => h G H σ a.gh s m _ fun v G1 H1 a1 r1 => k σ H1 ⟨G1, a.trans a1, s.mono a1.gg, m.mono a1, z⟩
/-- a local list changed -/
theorem At.put {σ : L2.St} {H : Hp} {k : Nat} {G : Hp} (a : Nx G0 H0 G H) (s : Sl G σ ss) (m : Hm G H Ms) (z : ∀ p c, (p, c) ∈ Ms → H0 p = none) {c : CO} (hk : Ms[k]? = some (p, c)) {es : List PyData} {vs : List V} (r : RpAll G vs es) : At G0 H0 ss (Ms.set k (p, .l es)) σ (upd H p (.lst vs)) := by
  have hm := List.mem_of_getElem? hk
  have hp := z p c hm
  obtain ⟨g, _⟩ := m.ok p c hm
  refine ⟨G, ⟨a.hh.mut hp, a.gh.mut g, a.gg, a.aw⟩, s, ⟨?_, fun q c' hq => ?_⟩, fun q c' hq => ?_⟩
  · have e : (Ms.set k (p, CO.l es)).map (·.1) = Ms.map (·.1) := by
      rw [List.map_set]
      apply List.ext_getElem?
      intro j
      rw [List.getElem?_set]
      by_cases hj : k = j
      · subst hj
        rw [List.getElem?_map, hk, List.length_map]
        have := (List.getElem?_eq_some_iff.mp hk).1
        simp [this]
      · simp [hj]
    rw [e]
    exact m.nd
  · obtain ⟨j, hj⟩ := List.mem_iff_getElem?.mp hq
    rw [List.getElem?_set] at hj
    by_cases hkj : k = j
    · subst hkj
      have hlt := (List.getElem?_eq_some_iff.mp hk).1
      simp [hlt] at hj
      obtain ⟨rfl, rfl⟩ := hj
      exact ⟨g, vs, upd_same, r⟩
    · rw [if_neg hkj] at hj
      have hqp : q ≠ p := fun h => hkj (nodup_idx (a := p) m.nd (by rw [List.getElem?_map, hk]; rfl) (by rw [List.getElem?_map, hj, h]; rfl))
      obtain ⟨g', ok⟩ := m.ok q c' (List.mem_of_getElem? hj)
      refine ⟨g', ?_⟩
      cases c' with
      | l fs =>
        obtain ⟨ws, e1, e2⟩ := ok
        exact ⟨ws, by rw [upd_ne hqp]; exact e1, e2⟩
      | raw o =>
        show upd H p (.lst vs) q = some o
        rw [upd_ne hqp]
        exact ok
  · obtain ⟨j, hj⟩ := List.mem_iff_getElem?.mp hq
    rw [List.getElem?_set] at hj
    by_cases hkj : k = j
    · subst hkj
      have hlt := (List.getElem?_eq_some_iff.mp hk).1
      simp [hlt] at hj
      obtain ⟨rfl, rfl⟩ := hj
      exact hp
    · rw [if_neg hkj] at hj
      exact z q c' (List.mem_of_getElem? hj)
theorem g_app {k : Nat} (hk : Ms[k]? = some (p, .l ds)) (hl : EV ss Ms ta (.ref p)) (h : EM ss Ms te d) (hz : ds.length < 100000) (n : Nt D G0 H0 ss (Ms.set k (p, .l (ds ++ [d])))) :
    Go (tDrop (tBM K "list" rAppend ta (tCons te tNil))) D G0 H0 ss Ms := fun σ H ⟨G, a, s, m, z⟩ => hl G H σ a.gh s m _ fun G1 H1 a1 => by
  obtain ⟨g, vs, e1, r1⟩ := (m.mono a1).ok _ _ (List.mem_of_getElem? hk)
  refine ⟨Or.inl ⟨rfl, vs, SqL.of e1⟩, h G1 H1 σ a1.gh (s.mono a1.gg) (m.mono a1) _ fun v G2 H2 a2 r2 => ⟨p, vs, v, rfl, rfl, a2.hh _ _ e1, by rw [r1.len]; exact sz_lt hz, ?_⟩⟩
  exact n σ _ (At.put (a.trans (a1.trans a2)) (s.mono (a1.trans a2).gg) (m.mono (a1.trans a2)) z hk ((RpAll.mono a2.gg _ _ r1).snoc r2))
theorem g_frz {tu : TS} (k i : Nat) (hk : Ms[k]? = some (p, .l ds)) (hi : ss[i]? = some (.vw (.ref p))) (h : Go tu D G0 H0 (ss.set i (.da (.list ds))) (Ms.eraseIdx k)) : Go tu D G0 H0 ss Ms := fun σ H ⟨G, a, s, m, z⟩ => by
  have hm := List.mem_of_getElem? hk
  obtain ⟨g, vs, e2, rv⟩ := m.ok _ _ hm
  have ex : Ex G (upd G p (.lst vs)) := Ex.new g
  obtain ⟨o, h1, h2⟩ := s.get hi
  have s' : Sl (upd G p (.lst vs)) (σ.set i o) (ss.set i (.da (.list ds))) := Sl.set (s := .da (.list ds)) ⟨_, h2, .lst upd_same (RpAll.mono ex _ _ rv)⟩ i (s.mono ex)
  have es : σ.set i o = σ := by
    apply List.ext_getElem?
    intro j
    rw [List.getElem?_set]
    by_cases hj : i = j
    · subst hj
      by_cases hl : i < σ.length
      · simp [hl, ← h1]
      · rw [List.getElem?_eq_none_iff.mpr (by omega)] at h1; cases h1
    · simp [hj]
  rw [es] at s'
  exact h σ H ⟨_, a.frz (z _ _ hm) g e2, s', m.frz hk e2, fun q c hq => z q c (List.mem_of_mem_eraseIdx hq)⟩
theorem g_setL {k : Nat} {j : Nat} (hk : Ms[k]? = some (p, .l ds)) (h : EM ss Ms te d) (hl : EV ss Ms ta (.ref p)) (hi : EM ss Ms tb (.int (j : Int))) (hj : j < ds.length) (n : Nt D G0 H0 ss (Ms.set k (p, .l (ds.set j d)))) :
    Go (tAsg te (gSub ta tb rSetL)) D G0 H0 ss Ms := fun σ H ⟨G, a, s, m, z⟩ => h G H σ a.gh s m _ fun v G1 H1 a1 r1 => hl G1 H1 σ a1.gh (s.mono a1.gg) (m.mono a1) _ fun G2 H2 a2 =>
  hi G2 H2 σ a2.gh (s.mono (a1.trans a2).gg) (m.mono (a1.trans a2)) _ fun w G3 H3 a3 r3 => by
    cases r3
    have a' := (a1.trans a2).trans a3
    obtain ⟨g, vs, e1, r2⟩ := (m.mono a').ok _ _ (List.mem_of_getElem? hk)
    have hx : ixN vs.length (j : Int) = some j := by
      unfold ixN
      rw [r2.len, if_pos (by omega), if_pos (by omega)]
      simp
    exact ⟨p, vs, (j : Int), j, rfl, rfl, e1, hx, n σ _ (At.put (a.trans a') (s.mono a'.gg) (m.mono a') z hk (r2.set (Rp.mono (a2.trans a3).gg _ _ r1) j))⟩

/-! ### loops: s what is carried, Inv i s what holds of it ahead of the i-th turn -/
section
variable {S : Type} (Inv : Nat → S → Prop) (sf : S → List SP) (mf : S → MS)
def Pi (G0 H0 : Hp) (i : Nat) (σ : L2.St) (H : Hp) : Prop := ∃ s, Inv i s ∧ At G0 H0 (sf s) (mf s) σ H
/-- what stands behind a turn -/
theorem nt_pi {i : Nat} {s : S} {bk ct : L2.St → Hp → Prop} {rt : VK} (h : Inv i s) (w : Wk ss (sf s)) (e : Ms = mf s) : Nt ⟨Pi Inv sf mf G0 H0 i, rt, bk, ct⟩ G0 H0 ss Ms := fun σ H a => ⟨s, h, e ▸ a.wk w⟩
theorem g_forL {α : Type} (enc : α → PyData) (xs : List α) (h : EM ss Ms tl (.list (xs.map enc))) (s0 : S) (i0 : Inv 0 s0) (w0 : Wk ss (sf s0)) (wm : Ms = mf s0)
    (hs : ∀ (i : Nat) (x : α) (s : S) (G1 : Hp), Up G0 H0 G1 → xs[i]? = some x → Inv i s → ∃ ss1 js, EG g js (sf s) (enc x) ss1 ∧ Go tu { D with nx := Pi Inv sf mf G1 H0 (i + 1), ct := Pi Inv sf mf G1 H0 (i + 1), bk := D.nx } G1 H0 ss1 (mf s))
    (hd : ∀ s, Inv xs.length s → Nt D G0 H0 (sf s) (mf s)) : Go (tFor (iList K tl) g tu) D G0 H0 ss Ms := fun σ H ⟨G, a, s, m, z⟩ => h G H σ a.gh s m _ fun v G1 H1 a1 r1 => by
  cases r1 with
  | @lst la vs' _ hv rv =>
    have up : Up G0 H0 G1 := ⟨a.gg.trans a1.gg, fun x o e g => a1.aw x o (a.hh x o e) (a.aw x o e g)⟩
    have hlen : vs'.length = xs.length := by rw [rv.len, List.length_map]
    refine ⟨la, rfl, ⟨vs', SqL.of (a1.gh _ _ hv)⟩, ?_⟩
    refine for_list (xs := vs') (Pi Inv sf mf G1 H0) ?_ ?_ ?_ ?_
    · exact ⟨s0, i0, At.wk w0 (wm ▸ ⟨G1, ⟨a.hh.trans a1.hh, a1.gh, .refl G1, fun _ _ _ g => g⟩, s.mono a1.gg, m.mono a1, z⟩)⟩
    · rintro i σ' H' _ ⟨s', _, G2, a2, _⟩
      exact SqL.of (a2.gh _ _ (a2.gg _ _ hv))
    · rintro i x σ' H' hx ⟨s', hi, G2, a2, sl, m2, z2⟩
      obtain ⟨d, hd', rd⟩ := rv.get hx
      rw [List.getElem?_map] at hd'
      obtain ⟨b, hb, rfl⟩ := Option.map_eq_some_iff.mp hd'
      obtain ⟨ss1, js, hg, hgo⟩ := hs i b s' G1 up hb hi
      exact hg G2 H' σ' x a2.gh sl (Rp.mono a2.gg _ _ rd) _ fun σ2 s2 _ => hgo σ2 H' ⟨G2, a2, s2, m2, z2⟩
    · rintro σ' H' ⟨s', hi, a2⟩
      rw [hlen] at hi
      exact hd s' hi σ' H' (a2.up up)
theorem g_forT {α : Type} (enc : α → PyData) (xs : List α) (h : EM ss Ms tl (.tuple (xs.map enc))) (s0 : S) (i0 : Inv 0 s0) (w0 : Wk ss (sf s0)) (wm : Ms = mf s0)
    (hs : ∀ (i : Nat) (x : α) (s : S) (G1 : Hp), Up G0 H0 G1 → xs[i]? = some x → Inv i s → ∃ ss1 js, EG g js (sf s) (enc x) ss1 ∧ Go tu { D with nx := Pi Inv sf mf G1 H0 (i + 1), ct := Pi Inv sf mf G1 H0 (i + 1), bk := D.nx } G1 H0 ss1 (mf s))
    (hd : ∀ s, Inv xs.length s → Nt D G0 H0 (sf s) (mf s)) : Go (tFor (iTup K tl) g tu) D G0 H0 ss Ms := fun σ H ⟨G, a, s, m, z⟩ => h G H σ a.gh s m _ fun v G1 H1 a1 r1 => by
  cases r1 with
  | @tup la vs' _ hv rv =>
    have up : Up G0 H0 G1 := ⟨a.gg.trans a1.gg, fun x o e g => a1.aw x o (a.hh x o e) (a.aw x o e g)⟩
    have hlen : vs'.length = xs.length := by rw [rv.len, List.length_map]
    refine ⟨la, rfl, ⟨vs', SqT.of (a1.gh _ _ hv)⟩, ?_⟩
    refine for_tup (xs := vs') (Pi Inv sf mf G1 H0) ?_ ?_ ?_ ?_
    · exact ⟨s0, i0, At.wk w0 (wm ▸ ⟨G1, ⟨a.hh.trans a1.hh, a1.gh, .refl G1, fun _ _ _ g => g⟩, s.mono a1.gg, m.mono a1, z⟩)⟩
    · rintro i σ' H' _ ⟨s', _, G2, a2, _⟩
      exact SqT.of (a2.gh _ _ (a2.gg _ _ hv))
    · rintro i x σ' H' hx ⟨s', hi, G2, a2, sl, m2, z2⟩
      obtain ⟨d, hd', rd⟩ := rv.get hx
      rw [List.getElem?_map] at hd'
      obtain ⟨b, hb, rfl⟩ := Option.map_eq_some_iff.mp hd'
      obtain ⟨ss1, js, hg, hgo⟩ := hs i b s' G1 up hb hi
      exact hg G2 H' σ' x a2.gh sl (Rp.mono a2.gg _ _ rd) _ fun σ2 s2 _ => hgo σ2 H' ⟨G2, a2, s2, m2, z2⟩
    · rintro σ' H' ⟨s', hi, a2⟩
      rw [hlen] at hi
      exact hd s' hi σ' H' (a2.up up)
theorem g_forR {ta : TA} {n j : Nat} (h : ED ss Ms ta [.int (n : Int)]) (hn : n ≤ 100000) (s0 : S) (i0 : Inv 0 s0) (w0 : Wk ss (sf s0)) (wm : Ms = mf s0)
    (hs : ∀ (i : Nat) (s : S), i < n → Inv i s → Go tu { D with nx := Pi Inv sf mf G0 H0 (i + 1), ct := Pi Inv sf mf G0 H0 (i + 1), bk := D.nx } G0 H0 ((sf s).set j (.da (.int (i : Int)))) (mf s))
    (hd : ∀ s, Inv n s → Nt D G0 H0 (sf s) (mf s)) : Go (tFor (iRng1 ta) (gName j) tu) D G0 H0 ss Ms := fun σ H ⟨G, a, s, m, z⟩ => h G H σ a.gh s m _ fun v G1 H1 a1 r1 => by
  cases r1 with
  | cons r1 r2 =>
    cases r1
    cases r2
    refine ⟨n, rfl, by omega, by omega, ?_⟩
    refine for_range (lo := 0) (n := n) (Pi Inv sf mf G0 H0) ?_ ?_ ?_
    · exact ⟨s0, i0, At.wk w0 (wm ▸ ⟨G1, a.trans a1, s.mono a1.gg, m.mono a1, z⟩)⟩
    · rintro i σ' H' hi ⟨s', hv, G2, a2, sl, m2, z2⟩
      have e0 : (0 : Int) + (i : Int) = (i : Int) := Int.zero_add _
      rw [e0]
      exact hs i s' hi hv _ H' ⟨G2, a2, Sl.set (s := .da (.int (i : Int))) ⟨_, rfl, .int _⟩ j sl, m2, z2⟩
    · rintro σ' H' ⟨s', hi, a2⟩
      exact hd s' hi σ' H' a2
end
section
variable {S : Type} (Inv : Nat → S → Prop) (sf : S → List SP) (mf : S → MS)
def Pw (G0 H0 : Hp) (m : Nat) (σ : L2.St) (H : Hp) : Prop := ∃ m' s, m' < m ∧ Inv m' s ∧ At G0 H0 (sf s) (mf s) σ H
theorem nt_pw {m m' : Nat} {s : S} {bk ct : L2.St → Hp → Prop} {rt : VK} (hm : m' < m) (h : Inv m' s) (w : Wk ss (sf s)) (e : Ms = mf s) : Nt ⟨Pw Inv sf mf G0 H0 m, rt, bk, ct⟩ G0 H0 ss Ms := fun σ H a => ⟨m', s, hm, h, e ▸ a.wk w⟩
/-- while: m a measure that falls -/
theorem g_while (m0 : Nat) (s0 : S) (i0 : Inv m0 s0) (w0 : Wk ss (sf s0)) (wm : Ms = mf s0)
    (hs : ∀ m s, Inv m s → ∃ b, ET (sf s) (mf s) tt b ∧ (b = true → Go tu { D with nx := Pw Inv sf mf G0 H0 m, ct := Pw Inv sf mf G0 H0 m, bk := D.nx } G0 H0 (sf s) (mf s)) ∧ (b = false → Nt D G0 H0 (sf s) (mf s))) : Go (tWhile tt tu) D G0 H0 ss Ms := fun σ H a => by
  refine ⟨fun m σ H => ∃ s, Inv m s ∧ At G0 H0 (sf s) (mf s) σ H, ⟨m0, s0, i0, At.wk w0 (wm ▸ a)⟩, ?_⟩
  rintro m σ' H' ⟨s, hi, G, a, sl, m2, z⟩
  obtain ⟨b, ht, h1, h2⟩ := hs m s hi
  refine ht G H' σ' a.gh sl m2 _ fun G1 H1 a1 => ?_
  have at1 : At G0 H0 (sf s) (mf s) σ' H1 := ⟨G1, a.trans a1, sl.mono a1.gg, m2.mono a1, z⟩
  cases b with
  | true =>
    refine ⟨Pw Inv sf mf G0 H0 m, fun σ2 H2 ⟨m', s', hm, hi', a'⟩ => ⟨m', hm, s', hi', a'⟩, ?_⟩
    exact h1 rfl σ' H1 at1
  | false =>
    show D.nx σ' H1
    exact h2 rfl σ' H1 at1
end

/-! ### a def as a whole -/
def startS (N : Nat) (ds : List PyData) : List SP := ds.map .da ++ List.replicate (N - ds.length) .un
theorem sl_da {G : Hp} : ∀ {vs : List V} {ds : List PyData}, RpAll G vs ds → Sl G (vs.map some) (ds.map .da)
  | _, [], h => by cases h; trivial
  | _, d :: ds, h => by
    cases h with
    | cons h1 h2 => exact ⟨⟨_, rfl, h1⟩, sl_da h2⟩
theorem sl_app {G : Hp} : ∀ {σ σ' : L2.St} {ss ss' : List SP}, Sl G σ ss → Sl G σ' ss' → Sl G (σ ++ σ') (ss ++ ss')
  | [], _, [], _, _, k => k
  | _ :: _, _, _ :: _, _, ⟨h, t⟩, k => ⟨h, sl_app t k⟩
  | [], _, _ :: _, _, h, _ => h.elim
  | _ :: _, _, [], _, h, _ => h.elim
theorem sl_un {G : Hp} : ∀ n : Nat, Sl G (List.replicate n none) (List.replicate n .un)
  | 0 => trivial
  | n + 1 => ⟨trivial, sl_un n⟩
theorem sl_start {G : Hp} {N : List Str} {vs : List V} {ds : List PyData} (h : RpAll G vs ds) : Sl G (start N vs) (startS N.length ds) := by
  unfold L2.start startS
  rw [h.len]
  exact sl_app (sl_da h) (sl_un _)
/-- the body t answers R's d -/
def Body (R : List PyData → PyData → Prop) (n : Nat) (t : TS) : Prop := ∀ ds d, R ds d → ∀ (G0 H0 : Hp) (Q : VK), (∀ v G' H', Nx G0 H0 G' H' → Rp G' v d → Q v H') → Go t { nx := fun _ H' => Q .non H', rt := Q } G0 H0 (startS n ds) []
end
section
variable {P : Program} {w : World} {K : PySem.W.Frag} {mg : Str → Option Value} {base : Heap}
theorem fn_pure {x qual : Str} {st : Stmt} {f : Addr} {fd : FuncData} {N ps : List Str} {k : Nat} {R : List PyData → PyData → Prop} (F : Fun K x qual st f fd) (S : FnScope N ps (defScope st)) (len : ∀ ds d, R ds d → ds.length = ps.length)
    (hbody : ∀ (cdv : Value) (A : Around) (outer : List Env) (s : Shared) (H : Hp) (E : XK), Room k (A.deeper (PyProof.Rows.envOfC qual (defScope st) s.heap.objs.size f cdv)) →
      ∃ t, PSs (cxOf CX0 P w K mg base N qual (defScope st) f cdv A outer s H E).nox (defBody st) t ∧ Body R N.length t) : FnOk P w K mg base CX0 (k + 1) f fd ps (spR R) := by
  refine F.ok S (fun vs H Q E h => ?_) (fun cdv A outer s H vs Q E hr h => ?_)
  · obtain ⟨G, ds, d, _, r, hR, _⟩ := h
    rw [r.len, len ds d hR]
  · obtain ⟨G, ds, d, e, r, hR, q⟩ := h
    obtain ⟨t, h1, h2⟩ := hbody cdv A outer s H E hr
    exact ⟨t, h1, h2 ds d hR G H Q q _ _ ⟨G, .refl e, sl_start r, Hm.nil, fun _ _ m => nomatch m⟩⟩
theorem fn_none {f : Addr} {fd : FuncData} {ps : List Str} {R : List PyData → PyData → Prop} (h : ∀ ds d, ¬ R ds d) : FnOk P w K mg base CX0 0 f fd ps (spR R) :=
  ⟨fun vs H Q E ⟨_, ds, d, _, _, hR, _⟩ => absurd hR (h ds d), fun A outer s H args us vs Q E _ _ _ _ ⟨_, ds, d, _, _, hR, _⟩ => absurd hR (h ds d)⟩
theorem spR_imp {R R' : List PyData → PyData → Prop} (h : ∀ ds d, R' ds d → R ds d) : ∀ vs H Q E, spR R' vs H Q E → spR R vs H Q E := fun vs H Q E ⟨G, ds, d, e, r, k, q⟩ => ⟨G, ds, d, e, r, h ds d k, q⟩
end
end Lw
namespace Lw
open PySem L2

/-! ### the rules with the written part named -/
section
variable {X : Cx} (K : PySem.W.Frag)
theorem ixT (h : X.K = K := by rfl) : IxR X (rIxT K) := by subst h; exact ix_tup
theorem ixL (h : X.K = K := by rfl) : IxR X (rIxL K) := by subst h; exact ix_list
theorem lenS (h : X.K = K := by rfl) : CallR X (.builtin "len") (fun xs H Q => ∃ p ys, xs = [.ref p] ∧ (SqL K H p ys ∨ SqT K H p ys) ∧ Q (.int ys.length) H) := by subst h; exact call_len_seq
theorem tupOf (h : X.K = K := by rfl) : CallR X (.type "tuple") (fun xs H Q => ∃ p ys, xs = [.ref p] ∧ ((SqL K H p ys ∧ ∀ l, H l = none → Q (.ref l) (upd H l (.tup ys))) ∨ (SqT K H p ys ∧ Q (.ref p) H))) := by subst h; exact call_tuple_of
theorem listOf (h : X.K = K := by rfl) : CallR X (.type "list") (fun xs H Q => ∃ p ys, xs = [.ref p] ∧ (SqL K H p ys ∨ SqT K H p ys) ∧ ∀ l, H l = none → Q (.ref l) (upd H l (.lst ys))) := by subst h; exact call_list_of
theorem sumL (h : X.K = K := by rfl) (hc : X.calm = true := by rfl) : CallR X (.builtin "sum") (rSum K) := by subst h; exact cr_sum hc
theorem maxL (h : X.K = K := by rfl) (hc : X.calm = true := by rfl) : CallR X (.builtin "max") (rMax K) := by subst h; exact cr_max hc
theorem anyL (h : X.K = K := by rfl) (hc : X.calm = true := by rfl) : CallR X (.builtin "any") (rAny K) := by subst h; exact cr_any hc
theorem allL (h : X.K = K := by rfl) (hc : X.calm = true := by rfl) : CallR X (.builtin "all") (rAll K) := by subst h; exact cr_all hc
theorem isiO (h : X.K = K := by rfl) : CallR X (.builtin "isinstance") (rIsi K) := by subst h; exact call_isi
theorem inS (h : X.K = K := by rfl) : OpR X (compareOp .In) (rIn K false) := by subst h; exact op_in_seq
theorem notInS (h : X.K = K := by rfl) : OpR X (compareOp .NotIn) (rIn K true) := by subst h; exact op_notIn_seq
theorem eqD (hu : X.A.units + 64 < cLine) (h : X.K = K := by rfl) : OpR X (compareOp .Eq) (rEqD K) := by subst h; exact op_eqD hu
theorem neD (hu : X.A.units + 64 < cLine) (h : X.K = K := by rfl) : OpR X (compareOp .NotEq) (rNeD K) := by subst h; exact op_neD hu
theorem repT (h : X.K = K := by rfl) : OpR X (binaryOp .Mult) (rRepT K) := by subst h; exact op_repT
theorem catA (h : X.K = K := by rfl) : OpR X (binaryOp .Add) (rCatA K) := by subst h; exact op_catA
theorem slL (h : X.K = K := by rfl) : SlR X (rSlL K) := by subst h; exact sl_list
theorem slA (h : X.K = K := by rfl) : SlR X (rSlA K) := by subst h; exact sl_tupA
theorem piL {tg l : Expr} {tl : TE} (hl : PE X l tl) (h : X.K = K := by rfl) : PI X tg l (iList K tl) := by subst h; exact pi_list hl
theorem piT {tg l : Expr} {tl : TE} (hl : PE X l tl) (h : X.K = K := by rfl) : PI X tg l (iTup K tl) := by subst h; exact pi_tup hl
theorem pgT {es : List Expr} {k : Nat} {t : TGs} {n : Nat} {pos : Pos} (h : PGs X es t) (hn : (assignEach es X.env).length = n := by rfl) (hst : (assignEach es X.env).findIdx? (·.1) = none := by rfl) (hK : X.K = K := by rfl) (hc : X.calm = true := by rfl) : PG X (.Tuple es k pos) (gTup K n t) := by
  subst hK
  exact pg_tup hc h hn hst
end

/-! ### sorted of data of any depth -/
def sortD (ds : List PyData) : List PyData := ds.mergeSort (PySem.W.dataLe false id)
def rSortedD (K : PySem.W.Frag) : List V → Hp → VK → Prop := fun vs H Q => ∃ (a : Addr) (xs : List V) (ds : List PyData), vs = [.ref a] ∧ SqL K H a xs ∧ DpAll K H xs ds ∧ PySem.W.AllAlike ds ∧ PySem.W.Sortable ds ∧ (∀ d ∈ ds, d.depth ≤ 50) ∧
  ∀ ys p, (∀ R : V → PyData → Prop, PySem.W.EachIs R xs ds → PySem.W.EachIs R ys (sortD ds)) → H p = none → Q (.ref p) (upd H p (.lst ys))
theorem each_dp {K : PySem.W.Frag} {H : Hp} : ∀ {xs : List V} {ds : List PyData}, DpAll K H xs ds → PySem.W.EachIs (Dp K H) xs ds
  | _, [], h => by cases h; exact .nil
  | _, _ :: _, h => by
    cases h with
    | cons h1 h2 => exact .cons h1 (each_dp h2)
theorem each_len {α β : Type} {R : α → β → Prop} : ∀ {xs : List α} {ds : List β}, PySem.W.EachIs R xs ds → xs.length = ds.length
  | _, _, .nil => rfl
  | _, _, .cons _ t => by rw [List.length_cons, List.length_cons, each_len t]
theorem each_vals {R : V → PyData → Prop} : ∀ {xs : List V} {us : List Value} {ds : List PyData}, Vals xs us → PySem.W.EachIs R xs ds → PySem.W.EachIs (fun u d => ∃ v, RelV v u ∧ R v d) us ds
  | _, _, _, .nil, .nil => .nil
  | _, _, _, .cons r t, .cons h k => .cons ⟨_, r, h⟩ (each_vals t k)
theorem vals_each {R : V → PyData → Prop} : ∀ {us : List Value} {ds : List PyData}, PySem.W.EachIs (fun u d => ∃ v, RelV v u ∧ R v d) us ds → ∃ xs, Vals xs us ∧ PySem.W.EachIs R xs ds
  | _, _, .nil => ⟨[], .nil, .nil⟩
  | _, _, .cons ⟨v, r, h⟩ t => by
    obtain ⟨xs, k1, k2⟩ := vals_each t
    exact ⟨v :: xs, .cons r k1, .cons h k2⟩
theorem each_and {α β : Type} {R S : α → β → Prop} : ∀ {xs : List α} {ds : List β}, PySem.W.EachIs R xs ds → PySem.W.EachIs S xs ds → PySem.W.EachIs (fun a b => R a b ∧ S a b) xs ds
  | _, _, .nil, .nil => .nil
  | _, _, .cons h t, .cons k u => .cons ⟨h, k⟩ (each_and t u)
theorem each_mono {α β : Type} {R S : α → β → Prop} (h : ∀ a b, R a b → S a b) : ∀ {xs : List α} {ds : List β}, PySem.W.EachIs R xs ds → PySem.W.EachIs S xs ds
  | _, _, .nil => .nil
  | _, _, .cons k t => .cons (h _ _ k) (each_mono h t)
theorem RpAll.each {G : Hp} : ∀ {xs : List V} {ds : List PyData}, RpAll G xs ds → PySem.W.EachIs (Rp G) xs ds
  | _, [], h => by cases h; exact .nil
  | _, _ :: _, h => by
    cases h with
    | cons h1 h2 => exact .cons h1 (RpAll.each h2)
theorem RpAll.of_each {G : Hp} : ∀ {xs : List V} {ds : List PyData}, PySem.W.EachIs (Rp G) xs ds → RpAll G xs ds
  | _, _, .nil => .nil
  | _, _, .cons h t => .cons h (RpAll.of_each t)
theorem cr_sortedD {X : Cx} (hu : X.A.units + 100 < cLine) : CallR X (.builtin "sorted") (rSortedD X.K) := by
  intro pins s σ H vs us Q I r h
  obtain ⟨a, xs, ds, rfl, hs, hd, hal, hsk, hdep, q⟩ := h
  obtain ⟨its, rv, hl, hz⟩ := I.list hs
  rw [Vals.ref1 r]
  have e0 : PySem.W.EachIs (fun v d => Dp X.K H v d) xs ds := each_dp hd
  have er : PySem.W.EachIs (fun u d => ∃ as, Reads s.heap u d as) its ds := each_mono (fun u d ⟨v, r, k⟩ => Dp.reads I d v u k r) (each_vals rv e0)
  -- every relation at once: place by place
  have e1 : PySem.W.EachIs (fun u d => ∃ v, RelV v u ∧ ∀ R : V → PyData → Prop, PySem.W.EachIs R xs ds → R v d) its ds := by
    refine each_vals rv ?_
    have aux : ∀ (xs : List V) (ds : List PyData), xs.length = ds.length → PySem.W.EachIs (fun v d => ∀ R : V → PyData → Prop, PySem.W.EachIs R xs ds → R v d) xs ds := by
      intro xs
      induction xs with
      | nil => intro ds hl; cases ds with
        | nil => exact .nil
        | cons _ _ => cases hl
      | cons x xs ih => intro ds hl; cases ds with
        | nil => cases hl
        | cons d ds =>
          refine .cons (fun R hR => ?_) (each_mono (fun v d' hv R hR => ?_) (ih ds (Nat.succ.inj hl)))
          · cases hR with
            | cons h _ => exact h
          · cases hR with
            | cons _ t => exact hv R t
    exact aux xs ds (each_len e0)
  refine PySem.W.sorted_data (β := PyData) (bs := ds) (enc := id) hl.isList e1 er (by simpa using hal) (by simpa using hsk) (by rw [← each_len er, ← rv.length]; exact hz) (fun d m => ?_) fun out ho eo => ?_
  · have := hdep d m
    show X.A.units + 2 + d.depth < cLine
    omega
  · obtain ⟨ep, he'⟩ := PyProof.Rows.sortedAll_at s.heap its out.toArray
    obtain ⟨ys, k1, k2⟩ := vals_each eo
    refine ⟨.ref _, upd H (s.heap.objs.size + 1) (.lst ys), I.laid (t' := s.toks) (fun _ _ => PyProof.Rows.sortedAll_old) (Nat.le_succ _) ⟨?_, out, ep, k1, he'⟩, rfl, ?_⟩
    · rw [k1.length, ho, ← each_len er, ← rv.length]
      exact hz
    · exact q ys _ (fun R hR => each_mono (fun v d k => k R hR) k2) (I.hok.fresh (Nat.le_succ _))
theorem sortedD {X : Cx} (K : PySem.W.Frag) (hu : X.A.units + 100 < cLine) (h : X.K = K := by rfl) : CallR X (.builtin "sorted") (rSortedD K) := by subst h; exact cr_sortedD hu
theorem rcn_sorted {K : PySem.W.Frag} {ds : List PyData} (h1 : PySem.W.AllAlike ds) (h2 : PySem.W.Sortable ds) (h3 : ∀ d ∈ ds, d.depth ≤ 50) : RCN (rSortedD K) [.list ds] (sortD ds) := fun G H vs e r Q q => by
  cases r with
  | cons r1 r2 =>
    cases r2
    cases r1 with
    | @lst a xs _ k1 k2 =>
      refine ⟨a, xs, ds, rfl, SqL.of (e _ _ k1), RpAll.dp _ _ (RpAll.mono e _ _ k2), h1, h2, h3, fun ys p hy hp => ?_⟩
      exact q p ys G _ ((Nx.refl e).mut hp (e.none hp)) hp (e.none hp) upd_same (RpAll.of_each (hy _ k2.each))
/-- a method of a built-in list within a comprehension's block -/
theorem bmK {X : Cx} (K : PySem.W.Frag) {o e : Expr} {es : List Expr} {to : TE} {t : TA} {name : Str} {apos cpos : Pos} {T id : String} {r : V → List V → Hp → VK → Prop} (pa : PySem.PlainAttrs T) (slot : PySem.Slot T name id) (hty : typeOf (.builtin id) = pure (.type "method_descriptor")) (hm : MtR X id r) (ho : PE X o to) (ha : PA X (e :: es) t)
    (hK : X.K = K := by rfl) (hbase : attributeBase o name X.env (eval o X.env) = eval o X.env := by rfl)
    (hfew : ((backTo cpos (starEach (e :: es) X.env)).all (fun x => !x.1) && (backToKw cpos (keywordEach [] X.env)).all (fun x => x.1.isSome)
      && decide ((e :: es).length + ([] : List Keyword).length + (if ([] : List Keyword).isEmpty then 0 else 1) < 30)) = true := by rfl)
    (hline : (apos.endLine == cpos.line) = true := by rfl) (hs : starEach (e :: es) X.env = (false, eval e X.env) :: starEach es X.env := by rfl) (hplain : (backTo cpos (starEach es X.env)).any (·.1) = false := by rfl) :
    PE X (.Call (.Attribute o name apos) (e :: es) [] cpos) (tBM K T r to t) := by
  subst hK
  exact pe_bm pa slot hty hm ho ha hbase hfew hline hs hplain
end Lw
namespace Lw
open PySem L2
/-! ## the program as plain functions -/
def iN (c : List Nat) : List Int := c.map fun (o : Nat) => (o : Int)
def eN (c : List Nat) : List PyData := (iN c).map .int
inductive Term where
  | free | never
  | gives (one : Nat) (step : Int)
  | sum (crowd : List Nat) (step : Int)
  | crowd (crowd : List Nat) (step many : Int)
  | all (ps : List Term)
  | any (ps : List Term)
mutual
def eTerm : Term → PyData
  | .free => .tuple [.str "free"]
  | .never => .tuple [.str "never"]
  | .gives o s => .tuple [.str "gives", .int (o : Int), .int s]
  | .sum c s => .tuple [.str "sum", .tuple (eN c), .int s]
  | .crowd c s m => .tuple [.str "crowd", .tuple (eN c), .int s, .int m]
  | .all ps => .tuple [.str "all", .tuple (eTerms ps)]
  | .any ps => .tuple [.str "any", .tuple (eTerms ps)]
def eTerms : List Term → List PyData
  | [] => []
  | t :: ts => eTerm t :: eTerms ts
end
theorem eTerms_map : ∀ ts : List Term, eTerms ts = ts.map eTerm
  | [] => by rw [eTerms]; rfl
  | t :: ts => by rw [eTerms, eTerms_map ts]; rfl
def gv (g : List Int) (o : Nat) : Int := g.getD o 0
mutual
def holds (g : List Int) : Term → Bool
  | .free => true
  | .never => false
  | .gives o s => decide (s ≤ gv g o)
  | .sum c s => decide (s ≤ (c.map (gv g)).sum)
  | .crowd c s m => decide (m ≤ ((c.filter fun o => decide (s ≤ gv g o)).length : Int))
  | .all ps => holdsAll g ps
  | .any ps => holdsAny g ps
def holdsAll (g : List Int) : List Term → Bool
  | [] => true
  | t :: ts => holds g t && holdsAll g ts
def holdsAny (g : List Int) : List Term → Bool
  | [] => false
  | t :: ts => holds g t || holdsAny g ts
end
/-! folk below n, depth at most d, few parts -/
mutual
def wfT (n : Nat) : Nat → Term → Prop
  | _ + 1, .free => True
  | _ + 1, .never => True
  | _ + 1, .gives o _ => o < n
  | _ + 1, .sum c _ => c.length ≤ 1000 ∧ ∀ o ∈ c, o < n
  | _ + 1, .crowd c _ _ => c.length ≤ 1000 ∧ ∀ o ∈ c, o < n
  | d + 1, .all ps => ps.length ≤ 1000 ∧ wfTs n d ps
  | d + 1, .any ps => ps.length ≤ 1000 ∧ wfTs n d ps
  | 0, _ => False
def wfTs (n : Nat) : Nat → List Term → Prop
  | _, [] => True
  | d, t :: ts => wfT n d t ∧ wfTs n d ts
end
theorem wfTs_mem {n d : Nat} : ∀ {ts : List Term}, wfTs n d ts → ∀ t ∈ ts, wfT n d t
  | [], _, _, h => nomatch h
  | t :: ts, h, u, hu => by
    rw [wfTs] at h
    rcases List.mem_cons.mp hu with rfl | hu
    · exact h.1
    · exact wfTs_mem h.2 u hu
def eG (g : List Int) : PyData := .tuple (g.map .int)
def joined (a b : List Int) : List Int := (List.range a.length).map fun i => if gv b i > gv a i then gv b i else gv a i
abbrev Pledge := List (Int × Term)
def eR (r : Int × Term) : PyData := .tuple [.int r.1, eTerm r.2]
def eP (p : Pledge) : PyData := .tuple (p.map eR)
def ePs (ps : List Pledge) : PyData := .list (ps.map eP)
abbrev Book := List (List Pledge)
def eB (b : Book) : PyData := .list (b.map ePs)
def owes (g : List Int) (p : Pledge) : Int := maxI 0 ((p.filter fun r => holds g r.2).map (·.1))
def lastStep (p : Pledge) : Int := (p.getLastD (0, .never)).1
def owedBy (g : List Int) (ps : List Pledge) : Int := maxI 0 (ps.map (owes g))
def due (b : Book) (f g : List Int) : List Int := joined f (b.map (owedBy g))
def roof (b : Book) (f : List Int) : List Int := joined f (b.map fun ps => maxI 0 (ps.map lastStep))
/-- the rows of what is due, again and again, till nothing changes -/
inductive Rounds (b : Book) (f : List Int) : List Int → List (List Int) → Prop
  | done {g : List Int} : due b f g = g → Rounds b f g [g]
  | step {g : List Int} {xs : List (List Int)} : due b f g ≠ g → Rounds b f (due b f g) xs → Rounds b f g (g :: xs)
def eC (c : List Nat) : PyData := .list (eN c)
def onlyFor (c : List Nat) (a b : List Int) : List Int := (List.range a.length).map fun i => if i ∈ c then gv a i else gv b i
/-- what a crowd holds from a giving on, in so many turns -/
inductive Held (b : Book) (f base : List Int) (c : List Nat) : Nat → List Int → List Int → Prop
  | done {g : List Int} : onlyFor c (due b f g) base = g → Held b f base c 0 g g
  | step {k : Nat} {g r : List Int} : onlyFor c (due b f g) base ≠ g → Held b f base c k (onlyFor c (due b f g) base) r → Held b f base c (k + 1) g r
def wfP (n d : Nat) (p : Pledge) : Prop := p ≠ [] ∧ p.length ≤ 1000 ∧ ∀ r ∈ p, wfT n d r.2
def wfPs (n d : Nat) (ps : List Pledge) : Prop := ps.length ≤ 1000 ∧ ∀ p ∈ ps, wfP n d p
/-- a book of n folk -/
def wfB (n d : Nat) (b : Book) : Prop := b.length = n ∧ n ≤ 1000 ∧ ∀ ps ∈ b, wfPs n d ps
def crowdStep (found : List (List Nat)) (one : Nat) : List (List Nat) := found ++ found.map (· ++ [one])
def crowds0 (n : Nat) : List (List Nat) := (List.range n).foldl crowdStep [[]]

theorem holdsAll_map (g : List Int) : ∀ ts : List Term, holdsAll g ts = (ts.map (holds g)).all id
  | [] => by rw [holdsAll]; rfl
  | t :: ts => by rw [holdsAll, holdsAll_map g ts]; rfl
theorem holdsAny_map (g : List Int) : ∀ ts : List Term, holdsAny g ts = (ts.map (holds g)).any id
  | [] => by rw [holdsAny]; rfl
  | t :: ts => by rw [holdsAny, holdsAny_map g ts]; rfl
/-! ### data compared -/
theorem en_nil {ss : List SP} {Ms : MS} : EN ss Ms (tLst tNil) [] := en_lst ed_nil (Nat.zero_le _)
theorem en_one {ss : List SP} {Ms : MS} {te : TE} {d : PyData} (h : EM ss Ms te d) : EN ss Ms (tLst (tCons te tNil)) [d] := en_lst (ed_cons h ed_nil) (show 1 ≤ 100000 by decide)
theorem em_pair {ss : List SP} {Ms : MS} {ta tb : TE} {x y : PyData} (h : EM ss Ms ta x) (k : EM ss Ms tb y) : EM ss Ms (tTup (tCons ta (tCons tb tNil))) (.tuple [x, y]) := em_tup (ed_cons h (ed_cons k ed_nil)) (show 2 ≤ 100000 by decide)
theorem eqvAll_map {α : Type} [DecidableEq α] (enc : α → PyData) (h : ∀ a b, PyData.eqv (enc a) (enc b) = decide (a = b)) : ∀ xs ys : List α, PyData.eqvAll (xs.map enc) (ys.map enc) = decide (xs = ys)
  | [], [] => by simp [PyData.eqvAll]
  | [], _ :: _ => by simp [PyData.eqvAll]
  | _ :: _, [] => by simp [PyData.eqvAll]
  | x :: xs, y :: ys => by
    rw [List.map_cons, List.map_cons, PyData.eqvAll, h, eqvAll_map enc h xs ys, Bool.eq_iff_iff]
    simp
theorem eqv_int (a b : Int) : PyData.eqv (.int a) (.int b) = decide (a = b) := by
  rw [PyData.eqv, Bool.eq_iff_iff]
  simp
theorem eqv_eG (a b : List Int) : PyData.eqv (eG a) (eG b) = decide (a = b) := by
  rw [eG, eG, PyData.eqv]
  exact eqvAll_map _ eqv_int a b
theorem eqv_ints (a b : List Int) : PyData.eqv (.list (a.map .int)) (.list (b.map .int)) = decide (a = b) := by
  rw [PyData.eqv]
  exact eqvAll_map _ eqv_int a b
theorem eqv_eLs (a b : List (List Nat)) : PyData.eqv (.list (a.map eC)) (.list (b.map eC)) = decide (a = b) := by
  rw [PyData.eqv]
  refine eqvAll_map _ (fun x y => ?_) a b
  rw [eC, eC, eN, eN, eqv_ints]
  refine decide_eq_decide.mpr ⟨fun h => ?_, fun h => by rw [h]⟩
  exact List.map_inj_right (fun a b h => by omega) |>.mp h
theorem canLay_all {α : Type} (enc : α → PyData) (h : ∀ a, PyData.canLay0 (enc a) = true) : ∀ xs : List α, PyData.canLayAll0 (xs.map enc) = true
  | [] => by simp [PyData.canLayAll0]
  | x :: xs => by
    rw [List.map_cons, PyData.canLayAll0, h, canLay_all enc h xs]
    rfl
theorem depth_all {α : Type} (enc : α → PyData) (n : Nat) (h : ∀ a, (enc a).depth ≤ n) : ∀ xs : List α, PyData.depthAll (xs.map enc) ≤ n
  | [] => by simp [PyData.depthAll]
  | x :: xs => by
    rw [List.map_cons, PyData.depthAll]
    exact Nat.max_le.mpr ⟨h x, depth_all enc n h xs⟩
/-- what can be compared, and how deep -/
structure Sh (n : Nat) (d : PyData) : Prop where
  lay : PyData.canLay0 d = true
  dep : d.depth ≤ n
theorem Sh.shaped {n : Nat} {d : PyData} (h : Sh n d) (hn : n ≤ 64) : SeqAt.shaped d = true := by
  unfold SeqAt.shaped
  rw [h.lay, decide_eq_true (Nat.le_trans h.dep hn)]
  rfl
theorem sh_int (i : Int) : Sh 0 (.int i) := ⟨by simp [PyData.canLay0], by simp [PyData.depth]⟩
theorem sh_bool (i : Bool) : Sh 0 (.bool i) := ⟨by simp [PyData.canLay0], by simp [PyData.depth]⟩
theorem sh_list {α : Type} {enc : α → PyData} {n : Nat} (h : ∀ a, Sh n (enc a)) (xs : List α) : Sh (n + 1) (.list (xs.map enc)) := ⟨by
    rw [PyData.canLay0]
    exact canLay_all enc (fun a => (h a).lay) xs, by
    rw [PyData.depth]
    have := depth_all enc n (fun a => (h a).dep) xs
    omega⟩
theorem sh_tuple {α : Type} {enc : α → PyData} {n : Nat} (h : ∀ a, Sh n (enc a)) (xs : List α) : Sh (n + 1) (.tuple (xs.map enc)) := ⟨by
    rw [PyData.canLay0]
    exact canLay_all enc (fun a => (h a).lay) xs, by
    rw [PyData.depth]
    have := depth_all enc n (fun a => (h a).dep) xs
    omega⟩
theorem sh_eG (g : List Int) : Sh 1 (eG g) := sh_tuple sh_int g
/-! ### small things for readings -/
theorem em_neg {ss : List SP} {Ms : MS} {ta : TE} {i : Int} (h : EM ss Ms ta (.int i)) : EM ss Ms (tUn (rU fun i => .int (-i)) ta) (.int (-i)) := em_un h fun H v G r Q q => by
  cases r
  exact ⟨i, rfl, q _ fun _ => .int _⟩
theorem atI_neg1 {n : Nat} (h : 0 < n) : ∀ vs : List V, vs.length = n → atI vs (-1) = vs[n - 1]? := fun vs hl => by
  have hne : vs ≠ [] := by rintro rfl; simp at hl; omega
  obtain ⟨init, v, rfl⟩ : ∃ init v, vs = init ++ [v] := ⟨vs.dropLast, vs.getLast hne, (List.dropLast_concat_getLast hne).symm⟩
  rw [atI_last]
  rw [List.length_append, List.length_singleton] at hl
  subst hl
  simp
theorem last_at {α : Type} {xs : List α} {a : α} (h : xs.getLast? = some a) : xs[xs.length - 1]? = some a := by
  rw [← List.getLast?_eq_getElem?]
  exact h
theorem ix_int {g : List Int} {i : Nat} (h : i < g.length) : (g.map PyData.int)[i]? = some (.int (gv g i)) := by
  rw [List.getElem?_map, List.getElem?_eq_getElem h]
  unfold gv
  rw [List.getD_eq_getElem?_getD, List.getElem?_eq_getElem h]
  rfl
theorem lcOut_true {α : Type} (g : α → PyData) (xs : List α) : lcOut (fun _ => true) g xs = xs.map g := by
  unfold lcOut
  rw [List.filter_eq_self.mpr (by intro a _; rfl)]
variable {ss : List SP} {Ms : MS} {K : PySem.W.Frag} {tt : TT} {tu tw tz : TS} {D : Ends} {G0 H0 : Hp} {b : Bool} {ta tb : TE} {d : PyData}
theorem q_yes (h : ET ss Ms tt b) (e : b = true) (k : Go tu { D with nx := tz D } G0 H0 ss Ms) : Go (tSeq (tIfS tt tu tw) tz) D G0 H0 ss Ms := q_if h (fun _ => k) fun e' => by rw [e] at e'; cases e'
theorem q_no (h : ET ss Ms tt b) (e : b = false) (k : Go tz D G0 H0 ss Ms) : Go (tSeq (tIfS tt tu tNext) tz) D G0 H0 ss Ms := q_if h (fun e' => by rw [e] at e'; cases e') fun _ => k
theorem g_yes (h : ET ss Ms tt b) (e : b = true) (k : Go tu D G0 H0 ss Ms) : Go (tIfS tt tu tw) D G0 H0 ss Ms := g_if h (fun _ => k) fun e' => by rw [e] at e'; cases e'
theorem g_no (h : ET ss Ms tt b) (e : b = false) (k : Go tw D G0 H0 ss Ms) : Go (tIfS tt tu tw) D G0 H0 ss Ms := g_if h (fun e' => by rw [e] at e'; cases e') fun _ => k
/-- x[0], x[1], .. of a tuple -/
theorem em_t0 {x : PyData} {xs : List PyData} (h : EM ss Ms ta (.tuple (x :: xs))) : EM ss Ms (tOp (rIxT K) ta (tC (.int 0))) x := em_op h em_int (ro_ixT_n (j := 0) rfl)
theorem em_t1 {y x : PyData} {xs : List PyData} (h : EM ss Ms ta (.tuple (y :: x :: xs))) : EM ss Ms (tOp (rIxT K) ta (tC (.int 1))) x := em_op h em_int (ro_ixT_n (j := 1) rfl)
theorem em_t2 {y z x : PyData} {xs : List PyData} (h : EM ss Ms ta (.tuple (y :: z :: x :: xs))) : EM ss Ms (tOp (rIxT K) ta (tC (.int 2))) x := em_op h em_int (ro_ixT_n (j := 2) rfl)
theorem em_t3 {y z w x : PyData} {xs : List PyData} (h : EM ss Ms ta (.tuple (y :: z :: w :: x :: xs))) : EM ss Ms (tOp (rIxT K) ta (tC (.int 3))) x := em_op h em_int (ro_ixT_n (j := 3) rfl)
/-- g[i], a giving -/
theorem em_ixT_last {ds : List PyData} (h : EM ss Ms ta (.tuple ds)) (k : EM ss Ms tb (.int (-1))) (hd : ds[ds.length - 1]? = some d) : EM ss Ms (tOp (rIxT K) ta tb) d :=
  em_op h k (ro_ixT hd (atI_neg1 (by have := (List.getElem?_eq_some_iff.mp hd).1; omega)))
theorem em_ixL_last {ds : List PyData} (h : EM ss Ms ta (.list ds)) (k : EM ss Ms tb (.int (-1))) (hd : ds[ds.length - 1]? = some d) : EM ss Ms (tOp (rIxL K) ta tb) d :=
  em_op h k (ro_ixL hd (atI_neg1 (by have := (List.getElem?_eq_some_iff.mp hd).1; omega)))
theorem last_map {α : Type} {xs : List α} {r : α} {e : α → PyData} (h : xs.getLast? = some r) : (xs.map e)[(xs.map e).length - 1]? = some (e r) := by
  rw [List.length_map, List.getElem?_map, last_at h]
  rfl
theorem em_l0 {x : PyData} {xs : List PyData} (h : EM ss Ms ta (.list (x :: xs))) : EM ss Ms (tOp (rIxL K) ta (tC (.int 0))) x := em_op h em_int (ro_ixL_n (j := 0) rfl)
theorem em_gi {g : List Int} {i : Nat} (h : EM ss Ms ta (eG g)) (k : EM ss Ms tb (.int (i : Int))) (hi : i < g.length) : EM ss Ms (tOp (rIxT K) ta tb) (.int (gv g i)) := em_op h k (ro_ixT_n (ix_int hi))
theorem em_len_t {ds : List PyData} (h : EM ss Ms ta (.tuple ds)) : EM ss Ms (tCB (fun xs H Q => ∃ p ys, xs = [.ref p] ∧ (SqL K H p ys ∨ SqT K H p ys) ∧ Q (.int ys.length) H) (tCons ta tNil)) (.int ds.length) := em_cb (ed_cons h ed_nil) rc_len_t
theorem em_len_l {ds : List PyData} (h : EM ss Ms ta (.list ds)) : EM ss Ms (tCB (fun xs H Q => ∃ p ys, xs = [.ref p] ∧ (SqL K H p ys ∨ SqT K H p ys) ∧ Q (.int ys.length) H) (tCons ta tNil)) (.int ds.length) := em_cb (ed_cons h ed_nil) rc_len_l
theorem em_len_g {g : List Int} (h : EM ss Ms ta (eG g)) : EM ss Ms (tCB (fun xs H Q => ∃ p ys, xs = [.ref p] ∧ (SqL K H p ys ∨ SqT K H p ys) ∧ Q (.int ys.length) H) (tCons ta tNil)) (.int (g.length : Int)) := by
  have := em_len_t (K := K) h
  rw [List.length_map] at this
  exact this
theorem rounds_ne {b : Book} {f g : List Int} {xs : List (List Int)} (h : Rounds b f g xs) : xs ≠ [] := by cases h <;> simp
theorem due_len (b : Book) (f g : List Int) : (due b f g).length = f.length := by unfold due joined; rw [List.length_map, List.length_range]
theorem roof_len (b : Book) (f : List Int) : (roof b f).length = f.length := by unfold roof joined; rw [List.length_map, List.length_range]
/-- the promises -/
def Rl_joined : List PyData → PyData → Prop := fun ds d => ∃ a b : List Int, a.length = b.length ∧ a.length ≤ 1000 ∧ ds = [eG a, eG b] ∧ d = eG (joined a b)
def Rl_holds (n : Nat) : List PyData → PyData → Prop := fun ds d => ∃ (t : Term) (g : List Int), wfT g.length n t ∧ ds = [eTerm t, eG g] ∧ d = .bool (holds g t)
def Rl_owes (n : Nat) : List PyData → PyData → Prop := fun ds d => ∃ (p : Pledge) (g : List Int), wfP g.length n p ∧ ds = [eP p, eG g] ∧ d = .int (owes g p)
def Rl_last : List PyData → PyData → Prop := fun ds d => ∃ (p : Pledge), p ≠ [] ∧ ds = [eP p] ∧ d = .int (lastStep p)
def Rl_owedBy (n : Nat) : List PyData → PyData → Prop := fun ds d => ∃ (ps : List Pledge) (g : List Int), wfPs g.length n ps ∧ ds = [ePs ps, eG g] ∧ d = .int (owedBy g ps)
def Rl_due (n : Nat) : List PyData → PyData → Prop := fun ds d => ∃ (b : Book) (f g : List Int), wfB g.length n b ∧ f.length = g.length ∧ ds = [eB b, eG f, eG g] ∧ d = eG (due b f g)
def Rl_roof (n : Nat) : List PyData → PyData → Prop := fun ds d => ∃ (b : Book) (f : List Int), wfB f.length n b ∧ ds = [eB b, eG f] ∧ d = eG (roof b f)
def Rl_rounds (n : Nat) : List PyData → PyData → Prop := fun ds d => ∃ (b : Book) (f g : List Int) (xs : List (List Int)), wfB g.length n b ∧ f.length = g.length ∧ Rounds b f g xs ∧ xs.length ≤ 10000 ∧ ds = [eB b, eG f, eG g] ∧ d = .list (xs.map eG)
def Rl_rise (n : Nat) : List PyData → PyData → Prop := fun ds d => ∃ (b : Book) (f : List Int) (xs : List (List Int)), wfB f.length n b ∧ Rounds b f f xs ∧ xs.length ≤ 10000 ∧ ds = [eB b, eG f] ∧ d = .list (xs.map eG)
def Rl_fall (n : Nat) : List PyData → PyData → Prop := fun ds d => ∃ (b : Book) (f : List Int) (xs : List (List Int)), wfB f.length n b ∧ Rounds b f (roof b f) xs ∧ xs.length ≤ 10000 ∧ ds = [eB b, eG f] ∧ d = .list (xs.map eG)
def Rl_least (n : Nat) : List PyData → PyData → Prop := fun ds d => ∃ (b : Book) (f : List Int) (xs : List (List Int)) (r : List Int), wfB f.length n b ∧ Rounds b f f xs ∧ xs.length ≤ 10000 ∧ xs.getLast? = some r ∧ ds = [eB b, eG f] ∧ d = eG r
def Rl_greatest (n : Nat) : List PyData → PyData → Prop := fun ds d => ∃ (b : Book) (f : List Int) (xs : List (List Int)) (r : List Int), wfB f.length n b ∧ Rounds b f (roof b f) xs ∧ xs.length ≤ 10000 ∧ xs.getLast? = some r ∧ ds = [eB b, eG f] ∧ d = eG r

/-! ### crowds -/
def eLC (c : List Nat) : PyData := .tuple [.int (c.length : Int), eC c]
def leLC (a b : List Nat) : Bool := PySem.W.dataLe false eLC a b
def crowdsOf (n : Nat) : List (List Nat) := (crowds0 n).mergeSort leLC
def leC (a b : List Nat) : Bool := PySem.W.dataLe false eC a b
def sortC (xs : List (List Nat)) : List (List Nat) := xs.mergeSort leC
theorem alike_eC (a b : List Nat) : PySem.W.alike (eC a) (eC b) = true := by
  rw [eC, eC, PySem.W.alike]
  exact PySem.W.alike_ints _ _
theorem alike_int (a b : Int) : PySem.W.alike (.int a) (.int b) = true := by rw [PySem.W.alike]
theorem alike_pair {x y x' y' : PyData} (h : PySem.W.alike x x' = true) (h' : PySem.W.alike y y' = true) : PySem.W.alike (.tuple [x, y]) (.tuple [x', y']) = true := by
  rw [PySem.W.alike]
  simp [PySem.W.alikeAll, h, h']
theorem alike_eLC (a b : List Nat) : PySem.W.alike (eLC a) (eLC b) = true := alike_pair (alike_int _ _) (alike_eC a b)
theorem sh_eC (c : List Nat) : Sh 1 (eC c) := sh_list sh_int _
theorem sh_pair {x y : PyData} {n : Nat} (h : Sh n x) (k : Sh n y) : Sh (n + 1) (.tuple [x, y]) := ⟨by
    rw [PyData.canLay0]
    simp [PyData.canLayAll0, h.lay, k.lay], by
    rw [PyData.depth]
    simp only [PyData.depthAll]
    have := h.dep
    have := k.dep
    omega⟩
theorem Sh.mono {n m : Nat} {d : PyData} (h : Sh n d) (k : n ≤ m) : Sh m d := ⟨h.lay, Nat.le_trans h.dep k⟩
theorem sh_eLC (c : List Nat) : Sh 2 (eLC c) := sh_pair ((sh_int _).mono (by decide)) (sh_eC c)
theorem sortD_map {α : Type} (enc : α → PyData) (xs : List α) : sortD (xs.map enc) = (xs.mergeSort (PySem.W.dataLe false enc)).map enc := by
  unfold sortD
  rw [List.map_mergeSort (s := PySem.W.dataLe false id)]
  intro a _ b _
  rfl
theorem en_sorted {α : Type} {ss : List SP} {Ms : MS} {K : PySem.W.Frag} {ta : TE} (enc : α → PyData) (xs : List α) (h : EM ss Ms ta (.list (xs.map enc))) (h1 : ∀ a b, PySem.W.alike (enc a) (enc b) = true) (h2 : PySem.W.Sortable (xs.map enc)) (h3 : ∀ a, (enc a).depth ≤ 50) :
    EN ss Ms (tCB (rSortedD K) (tCons ta tNil)) ((xs.mergeSort (PySem.W.dataLe false enc)).map enc) := by
  rw [← sortD_map]
  refine en_cb (ed_cons h ed_nil) (rcn_sorted (PySem.W.AllAlike.of h1) h2 fun d hd => ?_)
  obtain ⟨a, _, rfl⟩ := List.mem_map.mp hd
  exact h3 a
theorem sortable_eC (xs : List (List Nat)) : PySem.W.Sortable (xs.map eC) := PySem.W.Sortable.others fun c => ⟨(fun h => nomatch h), fun ys => (fun h => nomatch h)⟩
theorem sortable_eLC (xs : List (List Nat)) : PySem.W.Sortable (xs.map eLC) := PySem.W.Sortable.tuples fun c => ⟨_, _, rfl⟩
theorem crowds0_succ (n : Nat) : crowds0 (n + 1) = crowdStep (crowds0 n) n := by
  unfold crowds0
  rw [List.range_succ, List.foldl_append]
  rfl
theorem crowds0_len : ∀ n : Nat, (crowds0 n).length = 2 ^ n
  | 0 => rfl
  | n + 1 => by
    rw [crowds0_succ, crowdStep, List.length_append, List.length_map, crowds0_len n]
    omega
theorem pow12 {n : Nat} (h : n ≤ 12) : 2 ^ n ≤ 4096 := Nat.pow_le_pow_right (by decide) h
theorem eN_snoc (c : List Nat) (i : Nat) : eN (c ++ [i]) = eN c ++ [.int (i : Int)] := by simp [eN, iN]
theorem crowds0_mem_len : ∀ (n : Nat) (c : List Nat), c ∈ crowds0 n → c.length ≤ n
  | 0, c, h => by
    have : c ∈ [[]] := h
    simp at this
    subst this
    exact Nat.le_refl _
  | n + 1, c, h => by
    rw [crowds0_succ, crowdStep, List.mem_append] at h
    rcases h with h | h
    · exact Nat.le_succ_of_le (crowds0_mem_len n c h)
    · obtain ⟨c', h', rfl⟩ := List.mem_map.mp h
      have := crowds0_mem_len n c' h'
      rw [List.length_append, List.length_singleton]
      omega
theorem mem_iN {i : Nat} {c : List Nat} : (i : Int) ∈ iN c ↔ i ∈ c := by
  unfold iN
  rw [List.mem_map]
  constructor
  · rintro ⟨o, h, e⟩
    have : o = i := by omega
    exact this ▸ h
  · exact fun h => ⟨i, h, rfl⟩
theorem em_in {ss : List SP} {Ms : MS} {K : PySem.W.Frag} {ta tb : TE} {i : Nat} {c : List Nat} (h : EM ss Ms ta (.int (i : Int))) (k : EM ss Ms tb (eC c)) : EM ss Ms (tOp (rIn K false) ta tb) (.bool (decide (i ∈ c))) := by
  have := em_op h k (ro_inL (K := K))
  rw [decide_eq_decide.mpr mem_iN] at this
  exact this
/-- the knots by what each crowd holds -/
def hitBy (crowd k : List Nat) : Bool := k.all fun o => decide (o ∈ crowd)
def knotStep (hv : List Nat → List Int) (base : List Int) (found : List (List Nat)) (crowd : List Nat) : List (List Nat) :=
  if found.any (hitBy crowd) then found else if hv crowd = base then found else found ++ [crowd]
def knots0 (hv : List Nat → List Int) (base : List Int) (cs : List (List Nat)) : List (List Nat) := cs.foldl (knotStep hv base) []
theorem knots0_snoc (hv : List Nat → List Int) (base : List Int) (cs : List (List Nat)) (c : List Nat) : knots0 hv base (cs ++ [c]) = knotStep hv base (knots0 hv base cs) c := by
  unfold knots0
  rw [List.foldl_append]
  rfl
theorem knotStep_len (hv : List Nat → List Int) (base : List Int) (found : List (List Nat)) (c : List Nat) : (knotStep hv base found c).length ≤ found.length + 1 := by
  unfold knotStep
  split
  · omega
  · split
    · omega
    · simp
theorem foldl_len (hv : List Nat → List Int) (base : List Int) : ∀ (cs : List (List Nat)) (found : List (List Nat)), (cs.foldl (knotStep hv base) found).length ≤ found.length + cs.length
  | [], _ => by simp
  | c :: cs, found => by
    rw [List.foldl_cons, List.length_cons]
    have h1 := foldl_len hv base cs (knotStep hv base found c)
    have h2 := knotStep_len hv base found c
    omega
theorem knots0_len (hv : List Nat → List Int) (base : List Int) (cs : List (List Nat)) : (knots0 hv base cs).length ≤ cs.length := by
  have := foldl_len hv base cs []
  simpa [knots0] using this
theorem foldl_sub (hv : List Nat → List Int) (base : List Int) : ∀ (cs : List (List Nat)) (found : List (List Nat)) (k : List Nat), k ∈ cs.foldl (knotStep hv base) found → k ∈ found ∨ k ∈ cs
  | [], _, _, h => .inl h
  | c :: cs, found, k, h => by
    rw [List.foldl_cons] at h
    rcases foldl_sub hv base cs _ k h with h | h
    · unfold knotStep at h
      split at h
      · exact .inl h
      · split at h
        · exact .inl h
        · rcases List.mem_append.mp h with h | h
          · exact .inl h
          · rw [List.mem_singleton.mp h]
            exact .inr List.mem_cons_self
    · exact .inr (List.mem_cons_of_mem _ h)
theorem knots0_sub {hv : List Nat → List Int} {base : List Int} {cs : List (List Nat)} {k : List Nat} (h : k ∈ knots0 hv base cs) : k ∈ cs := by
  rcases foldl_sub hv base cs [] k h with h | h
  · exact nomatch h
  · exact h
/-- the least of a book, by its rows -/
def LeastR (b : Book) (f r : List Int) : Prop := ∃ xs, Rounds b f f xs ∧ xs.length ≤ 10000 ∧ xs.getLast? = some r
def GreatR (b : Book) (f r : List Int) : Prop := ∃ xs, Rounds b f (roof b f) xs ∧ xs.length ≤ 10000 ∧ xs.getLast? = some r
def HeldR (b : Book) (f base : List Int) (c : List Nat) (r : List Int) : Prop := ∃ k, Held b f base c k (onlyFor c (roof b f) base) r
def KnotsR (b : Book) (f : List Int) (ks : List (List Nat)) : Prop := ∃ base hv, LeastR b f base ∧ base.length = f.length ∧ (∀ c ∈ crowdsOf f.length, HeldR b f base c (hv c)) ∧ ks = sortC (knots0 hv base (crowdsOf f.length))
inductive Climb (b : Book) : Nat → List Int → List (List Nat) → List (List Nat × List Int) → Prop
  | done {here : List Int} : KnotsR b here [] → Climb b 0 here [] []
  | step {n : Nat} {here g r : List Int} {k : List Nat} {ks ks' : List (List Nat)} {xs : List (List Int)} {rest : List (List Nat × List Int)} : KnotsR b here (k :: ks) → HeldR b here here k g → g.length = here.length → Rounds b here g xs → xs.length ≤ 10000 → xs.getLast? = some r → r.length = here.length → Climb b n r ks' rest → Climb b (n + 1) here (k :: ks) ((k, r) :: rest)
theorem Climb.kn {b : Book} {n : Nat} {here : List Int} {ks : List (List Nat)} {rest : List (List Nat × List Int)} (h : Climb b n here ks rest) : KnotsR b here ks := by
  cases h with
  | done h => exact h
  | step h _ _ _ _ _ _ _ => exact h
def eKG (x : List Nat × List Int) : PyData := .tuple [eC x.1, eG x.2]
def Rl_crowds : List PyData → PyData → Prop := fun ds d => ∃ n : Nat, n ≤ 12 ∧ ds = [.int (n : Int)] ∧ d = .list ((crowdsOf n).map eC)
def Rl_onlyFor : List PyData → PyData → Prop := fun ds d => ∃ (c : List Nat) (a b : List Int), a.length = b.length ∧ a.length ≤ 1000 ∧ ds = [eC c, eG a, eG b] ∧ d = eG (onlyFor c a b)
def Rl_held (n : Nat) : List PyData → PyData → Prop := fun ds d => ∃ (b : Book) (f base : List Int) (c : List Nat) (r : List Int), wfB f.length n b ∧ base.length = f.length ∧ HeldR b f base c r ∧ ds = [eB b, eG f, eG base, eC c] ∧ d = eG r
def Rl_alone (n : Nat) : List PyData → PyData → Prop := fun ds d => ∃ (b : Book) (f base : List Int) (c : List Nat) (r : List Int), wfB f.length n b ∧ LeastR b f base ∧ base.length = f.length ∧ HeldR b f base c r ∧ ds = [eB b, eG f, eC c] ∧ d = eG r
def Rl_knots (n : Nat) : List PyData → PyData → Prop := fun ds d => ∃ (b : Book) (f : List Int) (ks : List (List Nat)), wfB f.length n b ∧ f.length ≤ 12 ∧ KnotsR b f ks ∧ ds = [eB b, eG f] ∧ d = .list (ks.map eC)
def Rl_climb (n : Nat) : List PyData → PyData → Prop := fun ds d => ∃ (b : Book) (f base : List Int) (m : Nat) (ks : List (List Nat)) (out : List (List Nat × List Int)), wfB f.length n b ∧ f.length ≤ 12 ∧ LeastR b f base ∧ base.length = f.length ∧ Climb b m base ks out ∧ out.length ≤ 1000 ∧ ds = [eB b, eG f] ∧ d = .list (out.map eKG)
end Lw
namespace Lw
open PySem L2
theorem ixS (K : PySem.W.Frag) {X : Cx} (h : X.K = K := by rfl) : IxR X (rIx K) := by subst h; exact ix_seq
section
variable {K : PySem.W.Frag} {ss ss' ss1 : List SP} {Ms Ms' : MS} {ta tb te tl : TE} {t u tt : TT} {d x y z : PyData} {ds es xs : List PyData} {D : Ends} {G0 H0 : Hp} {tu tw : TS} {p : Addr}

/-! ### isinstance, an item of a list or a tuple, repeats -/
def dTy : PyData → String
  | .none => "NoneType"
  | .bool _ => "bool"
  | .int _ => "int"
  | .str _ => "str"
  | .list _ => "list"
  | .tuple _ => "tuple"
  | .dict _ => "dict"
theorem Rp.ty {H : Hp} {v : V} (h : Rp H v d) : TyX K H v (.type (dTy d)) := by
  cases h with
  | non => exact .base .non
  | bl b => exact .base (.bl b)
  | int i => exact .base (.int i)
  | str x => exact .base (.str x)
  | lst e _ => exact .base (.lst e)
  | tup e _ => exact .base (.tup e)
theorem em_isi {n : String} {r : Bool} (h : EM ss Ms ta d) (k : kitB (dTy d) n = some r) : EM ss Ms (tCB (rIsi K) (tCons ta (tCons (tC (.ty n)) tNil))) (.bool r) := fun G H σ e s m Q q =>
  h G H σ e s m _ fun v G1 H1 a1 r1 => ⟨v, .ty n, _, _, r, rfl, .ty n, (Rp.mono a1.gh _ _ r1).ty, kit_ty k, q _ G1 H1 a1 (.bl r)⟩
theorem em_isiT {n : String} {r : Bool} (t : String) (h : EM ss Ms ta d) (e : dTy d = t) (k : kitB t n = some r) : EM ss Ms (tCB (rIsi K) (tCons ta (tCons (tC (.ty n)) tNil))) (.bool r) := em_isi h (by rw [e]; exact k)
theorem ro_seqL {j : Nat} (hj : ds[j]? = some d) : RO (rIx K) (.list ds) (.int (j : Int)) d := fun G H v w e rx ry Q q => .inl (ro_ixL_n hj G H v w e rx ry Q q)
theorem ro_seqT {j : Nat} (hj : ds[j]? = some d) : RO (rIx K) (.tuple ds) (.int (j : Int)) d := fun G H v w e rx ry Q q => .inr (.inl (ro_ixT_n hj G H v w e rx ry Q q))
theorem ron_rep {k : Nat} (hk : k ≤ 10000) (hl : ds.length * k ≤ 100000) : RON rRep (.list ds) (.int (k : Int)) (List.replicate k ds).flatten := fun G H v w e rx ry Q q => by
  cases ry
  cases rx with
  | @lst a xs _ h1 h2 =>
    refine ⟨a, k, xs, rfl, rfl, e _ _ h1, by omega, by omega, by rw [h2.len]; exact sz_of (by simpa using hl), fun p hp => ?_⟩
    have e1 : ((k : Int)).toNat = k := by omega
    rw [e1]
    refine q p _ G _ ((Nx.refl e).mut hp (e.none hp)) hp (e.none hp) upd_same ?_
    induction k with
    | zero => exact .nil
    | succ n ih =>
      rw [List.replicate_succ, List.replicate_succ, List.flatten_cons, List.flatten_cons]
      exact h2.app (by
        have aux : ∀ n : Nat, RpAll G (List.replicate n xs).flatten (List.replicate n ds).flatten := by
          intro n
          induction n with
          | zero => exact .nil
          | succ n ih => rw [List.replicate_succ, List.replicate_succ, List.flatten_cons, List.flatten_cons]; exact h2.app ih
        exact aux n)
theorem ro_repT {k : Nat} (h2 : 2 ≤ k) (hk : k ≤ 1000) (hne : ds ≠ []) (hl : ds.length ≤ 1000) : RO (rRepT K) (.tuple ds) (.int (k : Int)) (.tuple (List.replicate k ds).flatten) := fun G H v w e rx ry Q q => by
  cases ry
  cases rx with
  | @tup a xs _ h1 h3 =>
    refine ⟨a, k, xs, rfl, rfl, SqT.of (e _ _ h1), fun z => ?_, by omega, by omega, by rw [h3.len]; exact hl, fun p hp => ?_⟩
    · subst z
      have := h3.len
      cases ds with
      | nil => exact hne rfl
      | cons _ _ => simp at this
    · have e1 : ((k : Int)).toNat = k := by omega
      rw [e1]
      have aux : ∀ n : Nat, RpAll G (List.replicate n xs).flatten (List.replicate n ds).flatten := by
        intro n
        induction n with
        | zero => exact .nil
        | succ n ih => rw [List.replicate_succ, List.replicate_succ, List.flatten_cons, List.flatten_cons]; exact h3.app ih
      exact q _ (upd G p (.tup _)) _ ((Nx.refl e).new hp) (.tup upd_same (RpAll.mono (Ex.new (e.none hp)) _ _ (aux k)))
theorem flat_one {α : Type} (a : α) : ∀ n : Nat, (List.replicate n [a]).flatten = List.replicate n a
  | 0 => rfl
  | n + 1 => by rw [List.replicate_succ, List.flatten_cons, flat_one a n, List.replicate_succ]; rfl
theorem cut_hi {vs : List V} {ds : List PyData} {G : Hp} (k : Nat) (h : RpAll G vs ds) : RpAll G (cutV vs none (some (k : Int))) (ds.take k) := by
  unfold cutV
  rw [HT.sIx_none, HT.sIx_nat, List.drop_zero, Nat.sub_zero]
  have e : vs.take (min k vs.length) = vs.take k := by
    by_cases hc : k ≤ vs.length
    · rw [Nat.min_eq_left hc]
    · rw [Nat.min_eq_right (by omega), List.take_length, List.take_of_length_le (by omega)]
  rw [e]
  exact h.take k
theorem cut_lo {vs : List V} {ds : List PyData} {G : Hp} (k : Nat) (h : RpAll G vs ds) : RpAll G (cutV vs (some (k : Int)) none) (ds.drop k) := by
  unfold cutV
  rw [HT.sIx_none, HT.sIx_nat]
  have e : (vs.drop (min k vs.length)).take (vs.length - min k vs.length) = vs.drop k := by
    by_cases hc : k ≤ vs.length
    · rw [Nat.min_eq_left hc, List.take_of_length_le (by rw [List.length_drop]; omega)]
    · rw [Nat.min_eq_right (by omega), List.drop_of_length_le (Nat.le_refl _), List.drop_of_length_le (by omega), List.take_nil]
  rw [e]
  exact h.drop k
theorem en_hi (k : Nat) (h : EM ss Ms te (.list ds)) : EN ss Ms (tSl (rSlL K) te tNoPart (tPart (tC (.int (k : Int))))) (ds.take k) := em_sl h eo_none (eo_some em_int) fun G vs r => cut_hi k r
theorem en_lo (k : Nat) (h : EM ss Ms te (.list ds)) : EN ss Ms (tSl (rSlL K) te (tPart (tC (.int (k : Int)))) tNoPart) (ds.drop k) := em_sl h (eo_some em_int) eo_none fun G vs r => cut_lo k r
theorem rc_abs {i : Int} : RC (fun xs H Q => ∃ i, xs = [.int i] ∧ Q (.int (if i < 0 then -i else i)) H) [.int i] (.int (if i < 0 then -i else i)) := fun G H vs e r Q q => by
  cases r with
  | cons r1 r2 =>
    cases r1
    cases r2
    exact ⟨i, rfl, q _ G H (.refl e) (.int _)⟩
theorem ro_mul {i j : Int} (h : CMul i j) : RO (rI CMul fun i j => .int (i * j)) (.int i) (.int j) (.int (i * j)) := ro_I h fun _ => .int _
theorem ro_mod {i j : Int} (h : 0 < j) : RO (rI (fun _ j => 0 < j) fun i j => .int (i % j)) (.int i) (.int j) (.int (i % j)) := ro_I h fun _ => .int _
theorem ro_fdiv {i j : Int} (h : CDiv i j) : RO (rI CDiv fun i j => .int (i / j)) (.int i) (.int j) (.int (i / j)) := ro_I h fun _ => .int _
theorem ro_pow {i j : Int} (h : CPow i j) : RO (rI CPow fun i j => .int (i ^ j.toNat)) (.int i) (.int j) (.int (i ^ j.toNat)) := ro_I h fun _ => .int _
/-- list(range(n)) -/
theorem en_lstRg {n : Nat} (h : EM ss Ms te (.int (n : Int))) (hn : n ≤ 100000) : EN ss Ms (tLstRg (tRg1 te)) (eN (List.range n)) := fun G H σ e s m Q q => h G H σ e s m _ fun v G1 H1 a1 r1 => by
  cases r1
  refine ⟨n, rfl, RgOk.of_le (by omega) (by omega) (by omega) (by omega), fun l hl => ?_⟩
  refine q l _ G1 _ (a1.mut (a1.hh.none hl) (a1.gh.none hl)) (a1.hh.none hl) (a1.gh.none hl) upd_same ?_
  have e1 : rgV 0 (n : Int) = (iN (List.range n)).map V.int := by
    unfold rgV iN
    rw [List.map_map]
    have : ((n : Int) - 0).toNat = n := by omega
    rw [this]
    refine List.map_congr_left fun i _ => ?_
    simp
  rw [e1]
  exact .of_ints _

/-! ### local lists changed within expressions -/
theorem Hm.put {H G : Hp} {k : Nat} (m : Hm G H Ms) {c : CO} (hk : Ms[k]? = some (p, c)) {vs : List V} (r : RpAll G vs es) : Hm G (upd H p (.lst vs)) (Ms.set k (p, .l es)) := by
  have hm := List.mem_of_getElem? hk
  obtain ⟨g, _⟩ := m.ok p c hm
  refine ⟨?_, fun q c' hq => ?_⟩
  · have e : (Ms.set k (p, CO.l es)).map (·.1) = Ms.map (·.1) := by
      rw [List.map_set]
      apply List.ext_getElem?
      intro j
      rw [List.getElem?_set]
      by_cases hj : k = j
      · subst hj
        rw [List.getElem?_map, hk, List.length_map]
        have := (List.getElem?_eq_some_iff.mp hk).1
        simp [this]
      · simp [hj]
    rw [e]
    exact m.nd
  · obtain ⟨j, hj⟩ := List.mem_iff_getElem?.mp hq
    rw [List.getElem?_set] at hj
    by_cases hkj : k = j
    · subst hkj
      have hlt := (List.getElem?_eq_some_iff.mp hk).1
      simp [hlt] at hj
      obtain ⟨rfl, rfl⟩ := hj
      exact ⟨g, vs, upd_same, r⟩
    · rw [if_neg hkj] at hj
      have hqp : q ≠ p := fun h => hkj (nodup_idx (a := p) m.nd (by rw [List.getElem?_map, hk]; rfl) (by rw [List.getElem?_map, hj, h]; rfl))
      obtain ⟨g', ok⟩ := m.ok q c' (List.mem_of_getElem? hj)
      refine ⟨g', ?_⟩
      cases c' with
      | l fs =>
        obtain ⟨ws, e1, e2⟩ := ok
        exact ⟨ws, by rw [upd_ne hqp]; exact e1, e2⟩
      | raw o =>
        show upd H p (.lst vs) q = some o
        rw [upd_ne hqp]
        exact ok
/-- te gives d and leaves the local lists as Ms' tells -/
def SE (G0 H0 : Hp) (ss : List SP) (Ms : MS) (te : TE) (d : PyData) (Ms' : MS) : Prop := ∀ G H σ, Nx G0 H0 G H → Sl G σ ss → Hm G H Ms → (∀ p c, (p, c) ∈ Ms → H0 p = none) → ∀ Q : VK, (∀ v G' H', Nx G0 H0 G' H' → Ex G G' → Hm G' H' Ms' → Rp G' v d → Q v H') → te σ H Q
theorem se_pop {k : Nat} {j : Nat} (hk : Ms[k]? = some (p, .l ds)) (hl : EV ss Ms ta (.ref p)) (hi : EM ss Ms tb (.int (j : Int))) (hj : ds[j]? = some d) (hz : ds.length ≤ 100000) : SE G0 H0 ss Ms (tBM K "list" rPopAt ta (tCons tb tNil)) d (Ms.set k (p, .l (ds.eraseIdx j))) := fun G H σ a s m z Q q =>
  hl G H σ a.gh s m _ fun G1 H1 a1 => by
    obtain ⟨g, vs, e1, r1⟩ := (m.mono a1).ok _ _ (List.mem_of_getElem? hk)
    refine ⟨Or.inl ⟨rfl, vs, SqL.of e1⟩, hi G1 H1 σ a1.gh (s.mono a1.gg) (m.mono a1) _ fun w G2 H2 a2 r2 => ?_⟩
    cases r2
    have a' := a1.trans a2
    obtain ⟨v, hv, rv⟩ := r1.get' hj
    have hlt := (List.getElem?_eq_some_iff.mp hv).1
    have hsq : seqIndex? (j : Int) vs.length = some j := (ixN_seq (show ixN vs.length (j : Int) = some j by unfold ixN; rw [if_pos (by omega), if_pos (by omega)]; simp)).1
    have hb := r1.len
    refine ⟨p, vs, (j : Int), j, v, rfl, rfl, a2.hh _ _ e1, by omega, by omega, hsq, hv, ?_⟩
    have aa := a.trans a'
    obtain ⟨g2, _⟩ := (m.mono a').ok _ _ (List.mem_of_getElem? hk)
    exact q v G2 _ ⟨aa.hh.mut (z _ _ (List.mem_of_getElem? hk)), aa.gh.mut g2, aa.gg, aa.aw⟩ a'.gg ((m.mono a').put hk (RpAll.mono a2.gg _ _ (r1.erase j))) (Rp.mono a2.gg _ _ rv)
/-- x = [e for _ in range(n)], e changing the local lists -/
theorem g_lcS {ta : TA} {j i0 n : Nat} {vs : List Nat} (h : ED ss Ms ta [.int (n : Int)]) (hz : n ≤ 100000) (rs : Nat → MS) (vals : Nat → PyData) (r0 : rs 0 = Ms) (rk : ∀ i, (rs i).map (·.1) = Ms.map (·.1)) (hj : j ∈ vs)
    (he : ∀ (i : Nat) (Dl : Addr), i < n → SE G0 H0 ((wipeS ss vs).set j (.da (.int (i : Int)))) ((Dl, .l ((List.range i).map vals)) :: rs i) te (vals i) ((Dl, .l ((List.range i).map vals)) :: rs (i + 1)))
    (k : ∀ Dl, Nt D G0 H0 (ss.set i0 (.vw (.ref Dl))) ((Dl, .l ((List.range n).map vals)) :: rs n)) : Go (tAsg (tLc (iRng1 ta) (gName j) tYes te vs) (gName i0)) D G0 H0 ss Ms := fun σ H ⟨G, a, s, m, z⟩ => by
  refine h G H σ a.gh s m _ fun v G1 H1 a1 r1 => ?_
  cases r1 with
  | cons r1 r2 =>
  cases r1
  cases r2
  refine ⟨n, rfl, by omega, by omega, fun Dl hD => ?_⟩
  have aa := a.trans a1
  have z1 : ∀ i p c, (p, c) ∈ rs i → H0 p = none := fun i p c hc => by
    have hm : p ∈ (rs i).map (·.1) := List.mem_map.mpr ⟨_, hc, rfl⟩
    rw [rk i] at hm
    obtain ⟨⟨p', c'⟩, hc', e⟩ := List.mem_map.mp hm
    exact e ▸ z _ _ hc'
  refine lc_range (lo := 0) (n := n) (fun i H' => ∃ G', Nx G0 H0 G' H' ∧ Ex G1 G' ∧ Hm G' H' ((Dl, .l ((List.range i).map vals)) :: rs i)) ⟨G1, aa.mut (aa.hh.none hD) (aa.gh.none hD), .refl _, ?_⟩ (fun i H' hi c => ?_) fun H' c => ?_
  · rw [r0]
    exact (m.mono a1).new (p := Dl) (G := G1) (H := H1) (c := .l []) ((Nx.refl aa.gh).mut hD (aa.gh.none hD)) hD (aa.gh.none hD) ⟨[], upd_same, .nil⟩
  · obtain ⟨G', a', ge, m'⟩ := c
    have e0 : (0 : Int) + (i : Int) = (i : Int) := Int.zero_add _
    refine ⟨by rw [e0, wipe_set hj, wipe_idem], ?_⟩
    rw [e0]
    show te _ H' _
    have hDl : H0 Dl = none := aa.hh.none hD
    refine he i Dl hi G' H' _ a' (Sl.set (s := .da (.int (i : Int))) ⟨_, rfl, .int _⟩ j (((s.mono a1.gg).wipe vs).mono ge)) m' (zcons hDl (z1 i)) _ fun v G2 H2 a2 g2 m2 r2 => ?_
    obtain ⟨gD, acc, eD, rD⟩ := m2.ok Dl _ List.mem_cons_self
    refine ⟨acc, eD, by rw [rD.len, List.length_map, List.length_range]; exact sz_lt (by omega), G2, ⟨a2.hh.mut hDl, a2.gh.mut gD, a2.gg, a2.aw⟩, ge.trans g2, ?_⟩
    have e2 : (List.range (i + 1)).map vals = (List.range i).map vals ++ [vals i] := by rw [List.range_succ, List.map_append]; rfl
    rw [e2]
    exact m2.put (k := 0) rfl (rD.snoc r2)
  · obtain ⟨G', a', ge, m'⟩ := c
    exact k Dl _ H' ⟨G', a', Sl.set (s := .vw (.ref Dl)) rfl i0 ((s.mono a1.gg).mono ge), m', zcons (aa.hh.none hD) (z1 n)⟩
theorem g_ext {k : Nat} (hk : Ms[k]? = some (p, .l ds)) (hl : EV ss Ms ta (.ref p)) (h : EM ss Ms te (.list es)) (hz : ds.length + es.length ≤ 100000) (n : Nt D G0 H0 ss (Ms.set k (p, .l (ds ++ es)))) :
    Go (tDrop (tBM K "list" rExtend ta (tCons te tNil))) D G0 H0 ss Ms := fun σ H ⟨G, a, s, m, z⟩ => hl G H σ a.gh s m _ fun G1 H1 a1 => by
  obtain ⟨g, vs, e1, r1⟩ := (m.mono a1).ok _ _ (List.mem_of_getElem? hk)
  refine ⟨Or.inl ⟨rfl, vs, SqL.of e1⟩, h G1 H1 σ a1.gh (s.mono a1.gg) (m.mono a1) _ fun v G2 H2 a2 r2 => ?_⟩
  cases r2 with
  | @lst b ws _ k1 k2 =>
    refine ⟨p, b, vs, ws, rfl, rfl, a2.hh _ _ e1, a2.gh _ _ k1, by rw [r1.len, k2.len]; exact sz_of hz, ?_⟩
    exact n σ _ (At.put (a.trans (a1.trans a2)) (s.mono (a1.trans a2).gg) (m.mono (a1.trans a2)) z hk ((RpAll.mono a2.gg _ _ r1).app k2))
/-- an item of a list of objects -/
theorem ev_ixM {vs : List V} {v : V} {j : Nat} (hp : EV ss Ms ta (.ref p)) (hm : (p, CO.raw (.lst vs)) ∈ Ms) (hi : EM ss Ms tb (.int (j : Int))) (hj : vs[j]? = some v) : EV ss Ms (tOp (rIxL K) ta tb) v := fun G H σ e s m Q q =>
  hp G H σ e s m _ fun G1 H1 a1 => hi G1 H1 σ a1.gh (s.mono a1.gg) (m.mono a1) _ fun w G2 H2 a2 r2 => by
    cases r2
    obtain ⟨g, e2⟩ := ((m.mono a1).mono a2).ok _ _ hm
    exact ⟨p, vs, j, v, rfl, rfl, SqL.of e2, atI_nat hj, q G2 H2 (a1.trans a2)⟩

/-! ### a list of local lists -/
def rowsM : List Addr → List (List PyData) → MS
  | q :: qs, ds :: dss => (q, .l ds) :: rowsM qs dss
  | _, _ => []
def refs (qs : List Addr) : List V := qs.map V.ref
theorem rowsM_get : ∀ {qs : List Addr} {dss : List (List PyData)} {j : Nat} {q : Addr} {ds : List PyData}, qs[j]? = some q → dss[j]? = some ds → (rowsM qs dss)[j]? = some (q, .l ds)
  | [], _, _, _, _, h, _ => by simp at h
  | _ :: _, [], _, _, _, _, h => by simp at h
  | _ :: _, _ :: _, 0, _, _, h, k => by simp at h k; subst h; subst k; rfl
  | _ :: qs, _ :: dss, j + 1, _, _, h, k => by
    have := rowsM_get (qs := qs) (dss := dss) (j := j) (by simpa using h) (by simpa using k)
    simpa [rowsM] using this
theorem rowsM_set : ∀ {qs : List Addr} {dss : List (List PyData)} {j : Nat} {q : Addr} {ds : List PyData}, qs[j]? = some q → (rowsM qs dss).set j (q, .l ds) = rowsM qs (dss.set j ds)
  | [], _, _, _, _, h => by simp at h
  | _ :: _, [], _, _, _, _ => by simp [rowsM]
  | _ :: _, _ :: _, 0, _, _, h => by simp at h; subst h; rfl
  | _ :: qs, _ :: dss, j + 1, _, _, h => by
    have := rowsM_set (qs := qs) (dss := dss) (j := j) (ds := by assumption) (by simpa using h)
    simpa [rowsM] using this
theorem rowsM_snoc {q : Addr} {ds : List PyData} : ∀ {qs : List Addr} {dss : List (List PyData)}, qs.length = dss.length → rowsM (qs ++ [q]) (dss ++ [ds]) = rowsM qs dss ++ [(q, .l ds)]
  | [], [], _ => rfl
  | [], _ :: _, h => by simp at h
  | _ :: _, [], h => by simp at h
  | _ :: qs, _ :: dss, h => by
    have := rowsM_snoc (q := q) (ds := ds) (qs := qs) (dss := dss) (by simpa using h)
    show _ :: rowsM (qs ++ [q]) (dss ++ [ds]) = _
    rw [this]
    rfl
theorem Hm.perm {G H : Hp} (m : Hm G H Ms) (e : Ms.Perm Ms') : Hm G H Ms' := ⟨(e.map (·.1)).nodup m.nd, fun p c hc => m.ok p c (e.mem_iff.mpr hc)⟩
/-- the first one's content changed -/
theorem Hm.put1 {H H' G : Hp} {c c' : CO} (m : Hm G H ((p, c) :: Ms)) (hH : ∀ q, q ≠ p → H' q = H q) (ok : CoOk G H' p c') : Hm G H' ((p, c') :: Ms) := by
  refine ⟨m.nd, fun q c1 hq => ?_⟩
  have gp := (m.ok p c List.mem_cons_self).1
  rcases List.mem_cons.mp hq with h | h
  · cases h
    exact ⟨gp, ok⟩
  · obtain ⟨g, k⟩ := m.ok q c1 (List.mem_cons_of_mem _ h)
    have hqp : q ≠ p := by
      rintro rfl
      have := m.nd
      rw [List.map_cons, List.nodup_cons] at this
      exact this.1 (List.mem_map.mpr ⟨_, h, rfl⟩)
    refine ⟨g, ?_⟩
    cases c1 with
    | l fs =>
      obtain ⟨ws, e1, e2⟩ := k
      exact ⟨ws, by rw [hH q hqp]; exact e1, e2⟩
    | raw o =>
      show H' q = some o
      rw [hH q hqp]
      exact k
theorem rowsM_keys : ∀ {qs : List Addr} {dss : List (List PyData)} {q : Addr} {c : CO}, (q, c) ∈ rowsM qs dss → q ∈ qs
  | [], _, _, _, h => by simp [rowsM] at h
  | _ :: _, [], _, _, h => by simp [rowsM] at h
  | q0 :: qs, _ :: dss, q, c, h => by
    rw [rowsM] at h
    rcases List.mem_cons.mp h with h | h
    · cases h; exact List.mem_cons_self
    · exact List.mem_cons_of_mem _ (rowsM_keys h)
/-- x = [[] for _ in range(n)] -/
theorem g_rows {ta : TA} {j i0 n : Nat} {vs : List Nat} (h : ED ss Ms ta [.int (n : Int)]) (hz : n ≤ 10000) (hj : j ∈ vs)
    (k : ∀ Dl qs, qs.length = n → Nt D G0 H0 (ss.set i0 (.vw (.ref Dl))) ((Dl, .raw (.lst (refs qs))) :: (rowsM qs (List.replicate n []) ++ Ms))) : Go (tAsg (tLc (iRng1 ta) (gName j) tYes (tLst tNil) vs) (gName i0)) D G0 H0 ss Ms := fun σ H ⟨G, a, s, m, z⟩ => by
  refine h G H σ a.gh s m _ fun v G1 H1 a1 r1 => ?_
  cases r1 with
  | cons r1 r2 =>
  cases r1
  cases r2
  refine ⟨n, rfl, by omega, by omega, fun Dl hD => ?_⟩
  have aa := a.trans a1
  have hDl : H0 Dl = none := aa.hh.none hD
  refine lc_range (lo := 0) (n := n) (fun i H' => ∃ qs, Nx G0 H0 G1 H' ∧ qs.length = i ∧ (∀ q ∈ qs, H0 q = none) ∧ Hm G1 H' ((Dl, .raw (.lst (refs qs))) :: (rowsM qs (List.replicate i []) ++ Ms))) ⟨[], aa.mut (aa.hh.none hD) (aa.gh.none hD), rfl, (fun _ hq => (nomatch hq)), ?_⟩ (fun i H' hi c => ?_) fun H' c => ?_
  · exact (m.mono a1).new (p := Dl) (G := G1) (H := H1) (c := .raw (.lst [])) ((Nx.refl aa.gh).mut hD (aa.gh.none hD)) hD (aa.gh.none hD) upd_same
  · obtain ⟨qs, a', hl, hq0, m'⟩ := c
    have e0 : (0 : Int) + (i : Int) = (i : Int) := Int.zero_add _
    refine ⟨by rw [e0, wipe_set hj, wipe_idem], ?_⟩
    rw [e0]
    unfold tYes
    dsimp only
    rw [if_pos rfl]
    refine ⟨Nat.zero_le _, fun q hq => ?_⟩
    have hqD : Dl ≠ q := by
      obtain ⟨_, e⟩ := m'.ok Dl _ List.mem_cons_self
      exact ne_of_none (show H' Dl = some _ from e) hq
    obtain ⟨gD, eD⟩ := m'.ok Dl _ List.mem_cons_self
    have hq00 : H0 q = none := a'.hh.none hq
    have gq : G1 q = none := a'.gh.none hq
    refine ⟨refs qs, by rw [upd_ne hqD]; exact eD, by unfold refs; rw [List.length_map]; exact sz_lt (by omega), qs ++ [q], (a'.mut hq00 gq).mut hDl gD, by rw [List.length_append, hl]; rfl, fun x hx => ?_, ?_⟩
    · rcases List.mem_append.mp hx with h | h
      · exact hq0 x h
      · rw [List.mem_singleton.mp h]; exact hq00
    · have m2 := m'.new (p := q) (c := .l []) ((Nx.refl a'.gh).mut hq gq) hq gq ⟨[], upd_same, .nil⟩
      have m3 := m2.perm (Ms' := (Dl, .raw (.lst (refs qs))) :: (rowsM (qs ++ [q]) (List.replicate (i + 1) []) ++ Ms)) (by
        rw [List.replicate_succ', rowsM_snoc (by rw [hl, List.length_replicate])]
        refine (List.Perm.swap _ _ _).trans (List.Perm.cons _ ?_)
        rw [List.append_assoc]
        exact (List.perm_middle (a := (q, CO.l [])) (l₁ := rowsM qs (List.replicate i [])) (l₂ := Ms)).symm)
      refine m3.put1 (fun x hx => upd_ne hx) ?_
      show upd _ Dl _ Dl = _
      rw [upd_same]
      unfold refs
      rw [List.map_append]
      rfl
  · obtain ⟨qs, a', hl, hq0, m'⟩ := c
    refine k Dl qs hl _ H' ⟨G1, a', Sl.set (s := .vw (.ref Dl)) rfl i0 (s.mono a1.gg), m', zcons hDl fun q c hc => ?_⟩
    rcases List.mem_append.mp hc with h | h
    · exact hq0 q (rowsM_keys h)
    · exact z q c h
theorem frz_rows {H : Hp} : ∀ (qs : List Addr) (dss : List (List PyData)) (G : Hp), qs.length = dss.length → Nx G0 H0 G H → Hm G H (rowsM qs dss ++ Ms) → (∀ q c, (q, c) ∈ rowsM qs dss ++ Ms → H0 q = none) → ∃ G', Nx G0 H0 G' H ∧ Ex G G' ∧ Hm G' H Ms ∧ RpAll G' (refs qs) (dss.map .list)
  | [], [], G, _, a, m, _ => ⟨G, a, .refl G, m, .nil⟩
  | q :: qs, ds :: dss, G, hl, a, m, z => by
    have m' : Hm G H ((q, .l ds) :: (rowsM qs dss ++ Ms)) := m
    obtain ⟨g, vs, e1, r1⟩ := m'.ok q _ List.mem_cons_self
    have hq : H0 q = none := z q (.l ds) List.mem_cons_self
    have m2 : Hm (upd G q (.lst vs)) H (rowsM qs dss ++ Ms) := m'.frz (k := 0) rfl e1
    obtain ⟨G', a2, x2, m3, r3⟩ := frz_rows qs dss (upd G q (.lst vs)) (by simpa using hl) (a.frz hq g e1) m2 fun p c hc => z p c (List.mem_cons_of_mem _ hc)
    exact ⟨G', a2, (Ex.new g).trans x2, m3, .cons (.lst (x2 _ _ upd_same) (RpAll.mono ((Ex.new g).trans x2) _ _ r1)) r3⟩
  | [], _ :: _, _, h, _, _, _ => by simp at h
  | _ :: _, [], _, h, _, _, _ => by simp at h
/-- the list of lists, known for good from now on -/
theorem g_frzRows {tu : TS} {qs : List Addr} {dss : List (List PyData)} (i : Nat) (hl : qs.length = dss.length) (hi : ss[i]? = some (.vw (.ref p))) (hM : Ms = (p, .raw (.lst (refs qs))) :: (rowsM qs dss ++ Ms')) (h : Go tu D G0 H0 (ss.set i (.da (.list (dss.map .list)))) Ms') : Go tu D G0 H0 ss Ms := fun σ H ⟨G, a, s, m, z⟩ => by
  subst hM
  have e : ((p, CO.raw (.lst (refs qs))) :: (rowsM qs dss ++ Ms')).Perm (rowsM qs dss ++ (p, CO.raw (.lst (refs qs))) :: Ms') := List.perm_middle.symm
  obtain ⟨G', a2, x2, m3, r3⟩ := frz_rows qs dss G hl a (m.perm e) fun q c hc => z q c (e.mem_iff.mpr hc)
  obtain ⟨gp, ep⟩ := m3.ok p _ List.mem_cons_self
  have hp0 : H0 p = none := z p _ List.mem_cons_self
  have a3 := a2.frz hp0 gp (show H p = some _ from ep)
  obtain ⟨o, h1, h2⟩ := s.get hi
  have ex : Ex G' (upd G' p (.lst (refs qs))) := Ex.new gp
  have s' : Sl (upd G' p (.lst (refs qs))) (σ.set i o) (ss.set i (.da (.list (dss.map .list)))) := Sl.set (s := .da (.list (dss.map .list))) ⟨_, h2, .lst upd_same (RpAll.mono ex _ _ r3)⟩ i ((s.mono x2).mono ex)
  have es : σ.set i o = σ := by
    apply List.ext_getElem?
    intro j
    rw [List.getElem?_set]
    by_cases hj : i = j
    · subst hj
      by_cases hl : i < σ.length
      · simp [hl, ← h1]
      · rw [List.getElem?_eq_none_iff.mpr (by omega)] at h1; cases h1
    · simp [hj]
  rw [es] at s'
  refine h σ H ⟨_, a3, s', ⟨?_, fun q c hq => ?_⟩, fun q c hq => z q c (List.mem_cons_of_mem _ (List.mem_append_right _ hq))⟩
  · have := m3.nd
    rw [List.map_cons, List.nodup_cons] at this
    exact this.2
  · obtain ⟨g, k⟩ := m3.ok q c (List.mem_cons_of_mem _ hq)
    have hqp : q ≠ p := by
      rintro rfl
      have := m3.nd
      rw [List.map_cons, List.nodup_cons] at this
      exact this.1 (List.mem_map.mpr ⟨_, hq, rfl⟩)
    refine ⟨by rw [upd_ne hqp]; exact g, ?_⟩
    cases c with
    | l fs =>
      obtain ⟨ws, e1, e2⟩ := k
      exact ⟨ws, e1, RpAll.mono ex _ _ e2⟩
    | raw o => exact k
/-- the script, cut: x = script[:63] -/
theorem g_script {i0 k : Nat} {sa : Addr} {ns : List Int} (hS : SqL K H0 sa (ns.map V.int)) (h : ss[i0]? = some (.vw (.ref sa))) (n : Nt D G0 H0 (ss.set i0 (.da (.list ((ns.take k).map .int)))) Ms) : Go (tAsg (tSl (rSlL K) (tVar i0) tNoPart (tPart (tC (.int (k : Int))))) (gName i0)) D G0 H0 ss Ms := fun σ H ⟨G, a, s, m, z⟩ => by
  obtain ⟨o, h1, h2⟩ := s.get h
  cases (show o = some (V.ref sa) from h2)
  have hS' : SqL K H sa (ns.map V.int) := by
    rcases hS with (q | ⟨o, q⟩) | q
    · exact .inl (.inl (a.hh _ _ q))
    · exact .inl (.inr ⟨o, a.hh _ _ q⟩)
    · exact .inr q
  refine ⟨_, h1, (k : Int), rfl, sa, _, rfl, hS', fun p hp => ?_⟩
  have rr : RpAll G (cutV (ns.map V.int) none (some (k : Int))) ((ns.map .int).take k) := cut_hi k (.of_ints ns)
  rw [← List.map_take] at rr
  exact n _ _ ⟨upd G p (.lst _), a.new hp, Sl.set (s := .da (.list ((ns.take k).map .int))) ⟨_, rfl, .lst upd_same (RpAll.mono (Ex.new (a.gh.none hp)) _ _ rr)⟩ i0 (s.mono (Ex.new (a.gh.none hp))), m.mono ((Nx.refl a.gh).new hp), z⟩
end
end Lw
namespace Lw
open PySem L2
/-! ## the law's own reckonings as plain functions -/
def absI (i : Int) : Int := if i < 0 then -i else i
def seedC (c : Int) : Int :=
  if absI c < 10 ^ 18 then
    ((((c * 48271 + 11) % 2147483647) * ((c * 48271 + 11) % 2147483647) + 40692 * ((c * 48271 + 11) % 2147483647) + c) % 2147483399) +
      2147483399 * ((((((c * 48271 + 11) % 2147483647) * ((c * 48271 + 11) % 2147483647) + 40692 * ((c * 48271 + 11) % 2147483647) + c) % 2147483399) * 16807 + ((c * 48271 + 11) % 2147483647)) % 1000000007 + 1000000007 * ((c * 48271 + 11) % 2147483647))
  else absI c - 10 ^ 18
def walkD : Int → List Int → List Int
  | _, [] => []
  | c, p :: ps => c % p :: walkD (c / p) ps
def drawsF (c : Int) (parts : List Int) : List Int := walkD (seedC c) parts
section
variable {K : PySem.W.Frag} {ss ss' ss2 : List SP} {Ms Ms' : MS} {tt : TT} {D : Ends} {G0 H0 : Hp} {tu tw tz : TS} {b : Bool}
theorem q_join (ss2 : List SP) (h : ET ss Ms tt b) (h3 : Go tz D G0 H0 ss2 Ms) (h1 : b = true → (∀ ss', Wk ss' ss2 → Nt { D with nx := tz D } G0 H0 ss' Ms) → Go tu { D with nx := tz D } G0 H0 ss Ms)
    (h2 : b = false → (∀ ss', Wk ss' ss2 → Nt { D with nx := tz D } G0 H0 ss' Ms) → Go tw { D with nx := tz D } G0 H0 ss Ms) : Go (tSeq (tIfS tt tu tw) tz) D G0 H0 ss Ms :=
  q_if h (fun e => h1 e fun ss' w σ H a => h3 σ H (a.wk w)) fun e => h2 e fun ss' w σ H a => h3 σ H (a.wk w)
end
theorem q_joinM (ss2 : List SP) (Ms2 : MS) (h : ET ss Ms tt b) (h3 : Go tz D G0 H0 ss2 Ms2) (h1 : b = true → (∀ ss' Ms', Wk ss' ss2 → Ms' = Ms2 → Nt { D with nx := tz D } G0 H0 ss' Ms') → Go tu { D with nx := tz D } G0 H0 ss Ms)
    (h2 : b = false → (∀ ss' Ms', Wk ss' ss2 → Ms' = Ms2 → Nt { D with nx := tz D } G0 H0 ss' Ms') → Go tw { D with nx := tz D } G0 H0 ss Ms) : Go (tSeq (tIfS tt tu tw) tz) D G0 H0 ss Ms :=
  q_if h (fun e => h1 e fun ss' Ms' w em σ H a => h3 σ H (em ▸ a.wk w)) fun e => h2 e fun ss' Ms' w em σ H a => h3 σ H (em ▸ a.wk w)
theorem ro_isN {d : PyData} : RO (fun x y H Q => y = .non ∧ Q (.bl (decide (x = .non))) H) d .none (.bool (isNone d)) := fun G H v w e rx ry Q q => by
  cases ry
  have k : decide (v = V.non) = isNone d := by cases rx <;> rfl
  refine ⟨rfl, ?_⟩
  rw [k]
  exact q _ G H (.refl e) (.bl _)
theorem walkD_len : ∀ (c : Int) (ps : List Int), (walkD c ps).length = ps.length
  | _, [] => rfl
  | c, p :: ps => by rw [walkD, List.length_cons, List.length_cons, walkD_len]
def Rl_draws : List PyData → PyData → Prop := fun ds d => ∃ (c : Int) (ps : List Int), (∀ p ∈ ps, 0 < p ∧ p < 1000000000) ∧ ps.length ≤ 1000 ∧ ds = [.int c, .list (ps.map .int)] ∧ d = .list ((drawsF c ps).map .int)
/-- data that are compared with themselves -/
def okS : Nat → PyData → Prop
  | _ + 1, .none => True
  | _ + 1, .bool _ => True
  | _ + 1, .int _ => True
  | _ + 1, .str s => PyData.canLay0 (.str s) = true
  | n + 1, .list xs => xs.length ≤ 99999 ∧ ∀ x ∈ xs, okS n x
  | n + 1, .tuple xs => xs.length ≤ 99999 ∧ ∀ x ∈ xs, okS n x
  | _ + 1, .dict _ => False
  | 0, _ => False
def Rl_same (n : Nat) : List PyData → PyData → Prop := fun ds d => ∃ x, okS n x ∧ ds = [x, x] ∧ d = .bool true
def picksN (c : Int) (m : Nat) : List Nat :=
  if absI c ≥ 10 ^ 18 then (drawsF c (List.replicate m 27720)).map Int.toNat else (List.range m).map fun (k : Nat) => ((drawsF (c + 101 * (k : Int)) [27720]).headD 0).toNat
theorem walkD_nn : ∀ (c : Int) (ps : List Int), (∀ p ∈ ps, 0 < p) → ∀ x ∈ walkD c ps, 0 ≤ x
  | _, [], _, x, h => nomatch h
  | c, p :: ps, hp, x, h => by
    rw [walkD] at h
    rcases List.mem_cons.mp h with rfl | h
    · exact Int.emod_nonneg _ (by have := hp p List.mem_cons_self; omega)
    · exact walkD_nn _ ps (fun q hq => hp q (List.mem_cons_of_mem _ hq)) x h
theorem iN_toNat {xs : List Int} (h : ∀ x ∈ xs, 0 ≤ x) : iN (xs.map Int.toNat) = xs := by
  unfold iN
  rw [List.map_map]
  conv => rhs; rw [← List.map_id xs]
  exact List.map_congr_left fun x hx => by
    have := h x hx
    show ((x.toNat : Nat) : Int) = x
    omega
def Rl_picks : List PyData → PyData → Prop := fun ds d => ∃ (c : Int) (m : Nat), m ≤ 100 ∧ ds = [.int c, .int (m : Int)] ∧ d = .list (eN (picksN c m))
def restAt (q : Nat) (rest : List Nat) : Nat → List Nat
  | 0 => rest
  | i + 1 => (restAt q rest i).eraseIdx (q % (restAt q rest i).length)
def ringOf (q : Nat) (rest : List Nat) (len : Nat) : List Nat := (List.range len).map fun i => (restAt q rest i).getD (q % (restAt q rest i).length) 0
def ringStep (p : Nat) (s : List (List Nat) × List Nat) : List (List Nat) × List Nat :=
  if 2 + p % 3 ≤ s.2.length then (s.1 ++ [ringOf (p / 3) s.2 (2 + p % 3)], restAt (p / 3) s.2 (2 + p % 3)) else s
def ringsGo (m n : Nat) : List Nat → List (List Nat) × List Nat → List (List Nat) × List Nat
  | [], s => s
  | p :: ps, s => if p % m = 0 ∧ (ringStep p s).2.length < n / 2 then ringStep p s else ringsGo m n ps (ringStep p s)
def ringsF (m : Nat) (c : Int) (n : Nat) : List (List Nat) × List Nat := ringsGo m n (picksN c 12) ([], List.range n)
theorem restAt_len (q : Nat) (rest : List Nat) : ∀ i, i ≤ rest.length → (restAt q rest i).length = rest.length - i
  | 0, _ => rfl
  | i + 1, h => by
    have ih := restAt_len q rest i (by omega)
    rw [restAt, List.length_eraseIdx, if_pos (by rw [ih]; exact Nat.mod_lt _ (by omega)), ih]
    omega
theorem ringStep_len (p : Nat) (s : List (List Nat) × List Nat) : (ringStep p s).2.length ≤ s.2.length ∧ (ringStep p s).1.length + (ringStep p s).2.length ≤ s.1.length + s.2.length := by
  unfold ringStep
  split
  · rename_i h
    have := restAt_len (p / 3) s.2 (2 + p % 3) h
    simp only [List.length_append, List.length_singleton]
    omega
  · omega
theorem restAt_le (q : Nat) (rest : List Nat) : ∀ i, (restAt q rest i).length ≤ rest.length
  | 0 => Nat.le_refl _
  | i + 1 => by
    have ih := restAt_le q rest i
    rw [restAt, List.length_eraseIdx]
    split <;> omega
theorem eN_erase (c : List Nat) (i : Nat) : eN (c.eraseIdx i) = (eN c).eraseIdx i := by
  unfold eN iN
  rw [map_erase, map_erase]
theorem eN_len (c : List Nat) : (eN c).length = c.length := by simp [eN, iN]
theorem eN_get {c : List Nat} {i : Nat} (h : i < c.length) : (eN c)[i]? = some (.int ((c.getD i 0 : Nat) : Int)) := by
  unfold eN iN
  rw [List.getElem?_map, List.getElem?_map, List.getElem?_eq_getElem h, List.getD_eq_getElem?_getD, List.getElem?_eq_getElem h]
  rfl
theorem eN_map {f : Nat → Nat} (n : Nat) : eN ((List.range n).map f) = (List.range n).map fun i => .int ((f i : Nat) : Int) := by
  unfold eN iN
  rw [List.map_map, List.map_map]
  rfl
def eRR (s : List (List Nat) × List Nat) : PyData := .tuple [.list (s.1.map eC), eC s.2]
def Rl_rings (m : Nat) : List PyData → PyData → Prop := fun ds d => ∃ (c : Int) (n : Nat), n ≤ 12 ∧ ds = [.int c, .int (n : Int)] ∧ d = eRR (ringsF m c n)
def addP (b : Book) (o : Nat) (p : Pledge) : Book := b.set o (b.getD o [] ++ [p])
theorem addP_len (b : Book) (o : Nat) (p : Pledge) : (addP b o p).length = b.length := List.length_set
def ringPl (st : Int) (ring : List Nat) (b : Book) (k : Nat) : Book := addP b (ring.getD k 0) [(st, .gives (ring.getD ((k + 1) % ring.length) 0) st)]
def laidRing (st : Int) (ring : List Nat) (b : Book) : Nat → Book
  | 0 => b
  | k + 1 => ringPl st ring (laidRing st ring b k) k
def laidOne (st : Int) (ring : List Nat) (fr : Bool) (b : Book) : Book := if fr then addP (laidRing st ring b ring.length) (ring.getD 0 0) [(st, .free)] else laidRing st ring b ring.length
def laidRings (rings : List (List Nat)) (st : List Int) (free : Nat) (b : Book) : Nat → Book
  | 0 => b
  | k + 1 => laidOne (gv st k) (rings.getD k []) (decide (k = free)) (laidRings rings st free b k)
def leN (a b : Nat) : Bool := PySem.W.dataLe false (fun o : Nat => PyData.int (o : Int)) a b
def insideF (rings : List (List Nat)) : List Nat := rings.flatten.mergeSort leN
def laidRest (inside : List Nat) (many : Int) (b : Book) (one : Nat) : Book := if inside = [] then b else addP b one [(3, .crowd inside 1 many)]
def laidF (rings : List (List Nat)) (rest : List Nat) (st : List Int) (n : Nat) (many : Int) (free : Nat) : Book :=
  rest.foldl (laidRest (insideF rings) many) (laidRings rings st free (List.replicate n []) rings.length)
/-- rings and rest of n folk -/
structure RR (n : Nat) (rings : List (List Nat)) (rest : List Nat) (st : List Int) : Prop where
  hn : n ≤ 12
  hr : ∀ r ∈ rings, r ≠ [] ∧ r.length ≤ 12 ∧ ∀ o ∈ r, o < n
  hs : ∀ o ∈ rest, o < n
  hrl : rings.length ≤ 12
  hsl : rest.length ≤ 12
  hst : rings.length ≤ st.length
def Rl_laid : List PyData → PyData → Prop := fun ds d => ∃ (rings : List (List Nat)) (rest : List Nat) (st : List Int) (n : Nat) (many : Int) (free : Nat), RR n rings rest st ∧
  ds = [.list (rings.map eC), eC rest, .list (st.map .int), .int (n : Int), .int many, .int (free : Int)] ∧ d = eB (laidF rings rest st n many free)
def setAll (v : Int) (ring : List Nat) (g : List Int) : List Int := ring.foldl (fun g o => g.set o v) g
def closedF (rings : List (List Nat)) (st : List Int) (s : List Int × Nat) (at_ : Nat) : List Int × Nat := (setAll (gv st at_) (rings.getD at_ []) s.1, s.2 + (rings.getD at_ []).length)
def givenF (rings : List (List Nat)) (rest : List Nat) (st : List Int) (n : Nat) (many : Int) (closed : List Nat) : List Int :=
  let s := closed.foldl (closedF rings st) (List.replicate n 0, 0)
  if many ≤ (s.2 : Int) ∧ rings ≠ [] then setAll 3 rest s.1 else s.1
def Rl_given : List PyData → PyData → Prop := fun ds d => ∃ (rings : List (List Nat)) (rest : List Nat) (st : List Int) (n : Nat) (many : Int) (closed : List Nat), RR n rings rest st ∧ (∀ a ∈ closed, a < rings.length) ∧ closed.length ≤ 100 ∧
  ds = [.list (rings.map eC), eC rest, .list (st.map .int), .int (n : Int), .int many, eC closed] ∧ d = eG (givenF rings rest st n many closed)

def eRow (ps : List Pledge) : List PyData := ps.map eP
def bookM (Dl : Addr) (qs : List Addr) (b : Book) : MS := (Dl, .raw (.lst (refs qs))) :: rowsM qs (b.map eRow)
section
variable {K : PySem.W.Frag} {ss : List SP} {D : Ends} {G0 H0 : Hp} {ta te : TE} {Dl : Addr} {qs : List Addr} {b : Book}
/-- book[o].append(p) -/
theorem g_addP {o i : Nat} {p : Pledge} (hq : qs.length = b.length) (ho : o < b.length) (hz : ∀ ps ∈ b, ps.length ≤ 1000) (hb : ss[i]? = some (.vw (.ref Dl))) (hi : EM ss (bookM Dl qs b) ta (.int (o : Int))) (he : EM ss (bookM Dl qs b) te (eP p)) (n : Nt D G0 H0 ss (bookM Dl qs (addP b o p))) :
    Go (tDrop (tBM K "list" rAppend (tOp (rIxL K) (tVar i) ta) (tCons te tNil))) D G0 H0 ss (bookM Dl qs b) := by
  have hqo : qs[o]? = some qs[o] := List.getElem?_eq_getElem (by omega)
  have hbo : (b.map eRow)[o]? = some (eRow b[o]) := by rw [List.getElem?_map, List.getElem?_eq_getElem ho]; rfl
  refine g_app (K := K) (k := o + 1) (p := qs[o]) (ds := eRow b[o]) ?_ (ev_ixM (p := Dl) (vs := refs qs) (j := o) (ev_var hb) List.mem_cons_self hi ?_) he ?_ ?_
  · show (rowsM qs (b.map eRow))[o]? = _
    exact rowsM_get hqo hbo
  · unfold refs
    rw [List.getElem?_map, hqo]
    rfl
  · unfold eRow
    rw [List.length_map]
    have := hz b[o] (List.getElem_mem ho)
    omega
  · have e : (bookM Dl qs b).set (o + 1) (qs[o], CO.l (eRow b[o] ++ [eP p])) = bookM Dl qs (addP b o p) := by
      show (Dl, _) :: (rowsM qs (b.map eRow)).set o (qs[o], CO.l (eRow b[o] ++ [eP p])) = (Dl, _) :: rowsM qs ((addP b o p).map eRow)
      rw [rowsM_set hqo, addP, List.map_set, List.getD_eq_getElem?_getD, List.getElem?_eq_getElem ho]
      simp [eRow]
    rw [e]
    exact n
end
theorem addP_rows {b : Book} {o : Nat} {p : Pledge} {k : Nat} (h : ∀ ps ∈ b, ps.length ≤ k) : ∀ ps ∈ addP b o p, ps.length ≤ k + 1 := fun ps hp => by
  unfold addP at hp
  rcases List.mem_or_eq_of_mem_set hp with h1 | rfl
  · exact Nat.le_succ_of_le (h ps h1)
  · rw [List.length_append, List.length_singleton, List.getD_eq_getElem?_getD]
    by_cases ho : o < b.length
    · rw [List.getElem?_eq_getElem ho]
      have := h _ (List.getElem_mem ho)
      simpa using this
    · rw [List.getElem?_eq_none_iff.mpr (by omega)]
      simp
/-- at most so many pledges a row -/
def Rows (k : Nat) (b : Book) : Prop := ∀ ps ∈ b, ps.length ≤ k
theorem laidRing_rows (st : Int) (ring : List Nat) {b : Book} {m : Nat} (h : Rows m b) : ∀ k, Rows (m + k) (laidRing st ring b k) ∧ (laidRing st ring b k).length = b.length
  | 0 => ⟨h, rfl⟩
  | k + 1 => by
    obtain ⟨h1, h2⟩ := laidRing_rows st ring h k
    rw [laidRing, ringPl]
    exact ⟨addP_rows h1, by rw [addP_len, h2]⟩
theorem laidOne_rows (st : Int) (ring : List Nat) (fr : Bool) {b : Book} {m : Nat} (h : Rows m b) : Rows (m + ring.length + 1) (laidOne st ring fr b) ∧ (laidOne st ring fr b).length = b.length := by
  obtain ⟨h1, h2⟩ := laidRing_rows st ring h ring.length
  unfold laidOne
  split
  · exact ⟨addP_rows h1, by rw [addP_len, h2]⟩
  · exact ⟨fun ps hp => Nat.le_succ_of_le (h1 ps hp), h2⟩
theorem laidRings_rows {rings : List (List Nat)} (st : List Int) (free : Nat) {b : Book} (hr : ∀ r ∈ rings, r.length ≤ 12) {m : Nat} (h : Rows m b) : ∀ k, Rows (m + 13 * k) (laidRings rings st free b k) ∧ (laidRings rings st free b k).length = b.length
  | 0 => ⟨h, rfl⟩
  | k + 1 => by
    obtain ⟨h1, h2⟩ := laidRings_rows st free hr h k
    rw [laidRings]
    obtain ⟨h3, h4⟩ := laidOne_rows (gv st k) (rings.getD k []) (decide (k = free)) h1
    refine ⟨fun ps hp => ?_, by rw [h4, h2]⟩
    have h5 := h3 ps hp
    have h6 : (rings.getD k []).length ≤ 12 := by
      rw [List.getD_eq_getElem?_getD]
      cases e : rings[k]? with
      | none => simp
      | some r => exact hr r (List.mem_of_getElem? e)
    omega
theorem laidRest_rows (inside : List Nat) (many : Int) {b : Book} {one m : Nat} (h : Rows m b) : Rows (m + 1) (laidRest inside many b one) ∧ (laidRest inside many b one).length = b.length := by
  unfold laidRest
  split
  · exact ⟨fun ps hp => Nat.le_succ_of_le (h ps hp), rfl⟩
  · exact ⟨addP_rows h, addP_len _ _ _⟩
theorem foldRest_rows (inside : List Nat) (many : Int) : ∀ (rest : List Nat) {b : Book} {m : Nat}, Rows m b → Rows (m + rest.length) (rest.foldl (laidRest inside many) b) ∧ (rest.foldl (laidRest inside many) b).length = b.length
  | [], b, m, h => ⟨h, rfl⟩
  | o :: rest, b, m, h => by
    obtain ⟨h1, h2⟩ := laidRest_rows inside many (one := o) h
    obtain ⟨h3, h4⟩ := foldRest_rows inside many rest h1
    rw [List.foldl_cons, List.length_cons]
    exact ⟨fun ps hp => by have := h3 ps hp; omega, by rw [h4, h2]⟩
theorem take_fold {α β : Type} (f : β → α → β) (b : β) {xs : List α} {i : Nat} {x : α} (h : xs[i]? = some x) : (xs.take (i + 1)).foldl f b = f ((xs.take i).foldl f b) x := by
  rw [List.take_add_one, h, Option.toList_some, List.foldl_append]
  rfl
theorem em_ixC {K : PySem.W.Frag} {ss : List SP} {Ms : MS} {ta tb : TE} {c : List Nat} {i : Nat} (h : EM ss Ms ta (eC c)) (k : EM ss Ms tb (.int (i : Int))) (hi : i < c.length) : EM ss Ms (tOp (rIxL K) ta tb) (.int ((c.getD i 0 : Nat) : Int)) := em_op h k (ro_ixL_n (eN_get hi))
theorem em_ixI {K : PySem.W.Frag} {ss : List SP} {Ms : MS} {ta tb : TE} {c : List Int} {i : Nat} (h : EM ss Ms ta (.list (c.map .int))) (k : EM ss Ms tb (.int (i : Int))) (hi : i < c.length) : EM ss Ms (tOp (rIxL K) ta tb) (.int (gv c i)) := em_op h k (ro_ixL_n (ix_int hi))
theorem em_ixR {K : PySem.W.Frag} {ss : List SP} {Ms : MS} {ta tb : TE} {rs : List (List Nat)} {i : Nat} (h : EM ss Ms ta (.list (rs.map eC))) (k : EM ss Ms tb (.int (i : Int))) (hi : i < rs.length) : EM ss Ms (tOp (rIxL K) ta tb) (eC (rs.getD i [])) := em_op h k (ro_ixL_n (by
  rw [List.getElem?_map, List.getElem?_eq_getElem hi, List.getD_eq_getElem?_getD, List.getElem?_eq_getElem hi]
  rfl))
theorem getD_mem {α : Type} {rs : List α} {i : Nat} {a : α} (hi : i < rs.length) : rs.getD i a ∈ rs := by
  rw [List.getD_eq_getElem?_getD, List.getElem?_eq_getElem hi]
  exact List.getElem_mem hi
theorem em_len_c {K : PySem.W.Frag} {ss : List SP} {Ms : MS} {ta : TE} {c : List Nat} (h : EM ss Ms ta (eC c)) : EM ss Ms (tCB (fun xs H Q => ∃ p ys, xs = [.ref p] ∧ (SqL K H p ys ∨ SqT K H p ys) ∧ Q (.int ys.length) H) (tCons ta tNil)) (.int (c.length : Int)) := by
  have := em_len_l (K := K) (ds := eN c) h
  rw [eN_len] at this
  exact this
theorem alike_nat (a b : Nat) : PySem.W.alike (.int (a : Int)) (.int (b : Int)) = true := alike_int _ _
theorem en_sortN {K : PySem.W.Frag} {ss : List SP} {Ms : MS} {ta : TE} {xs : List Nat} (h : EM ss Ms ta (eC xs)) : EN ss Ms (tCB (rSortedD K) (tCons ta tNil)) (eN (xs.mergeSort leN)) := by
  have := en_sorted (K := K) (fun o : Nat => PyData.int (o : Int)) xs (em_is h (by unfold eC eN iN; rw [List.map_map]; rfl)) alike_nat (PySem.W.Sortable.others fun c => ⟨(fun h => nomatch h), fun ys => (fun h => nomatch h)⟩) (fun a => Nat.le_trans (sh_int a).dep (by decide))
  unfold eN iN
  rw [List.map_map]
  exact this
theorem eqv_eNt (a : List Nat) : PyData.eqv (.tuple (eN a)) (.tuple []) = decide (a = []) := by
  cases a with
  | nil => simp [eN, iN, PyData.eqv, PyData.eqvAll]
  | cons _ _ => simp [eN, iN, PyData.eqv, PyData.eqvAll]
theorem sh_eNt (a : List Nat) : Sh 1 (.tuple (eN a)) := sh_tuple sh_int _
end Lw
namespace Lw
open PySem L2
def eKA (x : List Nat × Nat) : PyData := .tuple [eC x.1, .int (x.2 : Int)]
def leKA (a b : List Nat × Nat) : Bool := PySem.W.dataLe false eKA a b
def leftF (rings : List (List Nat)) (free : Nat) : List (List Nat × Nat) := (((List.range rings.length).filter fun a => !decide (a = free)).map fun a => ((rings.getD a []).mergeSort leN, a)).mergeSort leKA
def closedI (rings : List (List Nat)) (free : Nat) : List Nat := (List.range rings.length).filter fun a => decide (a = free)
def wantF (gf : List Nat → List Int) : List Nat → List (List Nat × Nat) → List (List Nat × List Int)
  | _, [] => []
  | cl, x :: l => (x.1, gf (cl ++ [x.2])) :: wantF gf (cl ++ [x.2]) l
theorem wantF_len (gf : List Nat → List Int) : ∀ (cl : List Nat) (l : List (List Nat × Nat)), (wantF gf cl l).length = l.length
  | _, [] => rfl
  | cl, x :: l => by rw [wantF, List.length_cons, List.length_cons, wantF_len]
/-- what the law asks of one lot of rings -/
structure M30 (n : Nat) (rings : List (List Nat)) (rest : List Nat) (st : List Int) (many : Int) (free : Nat) : Prop where
  rr : RR n rings rest st
  n2 : 2 ≤ n
  wf : wfB n 5 (laidF rings rest st n many free)
  least : LeastR (laidF rings rest st n many free) (List.replicate n 0) (givenF rings rest st n many (closedI rings free))
  great : GreatR (laidF rings rest st n many free) (List.replicate n 0) (givenF rings rest st n many (List.range rings.length))
  knots : KnotsR (laidF rings rest st n many free) (List.replicate n 0) ((leftF rings free).map (·.1))
  alone : ∀ x ∈ leftF rings free, ∃ r, HeldR (laidF rings rest st n many free) (List.replicate n 0) (givenF rings rest st n many (closedI rings free)) x.1 r ∧ r.length = n ∧ x.1.map (gv r) = List.replicate x.1.length (gv st x.2)
  climb : ∃ m ks, Climb (laidF rings rest st n many free) m (givenF rings rest st n many (closedI rings free)) ks (wantF (givenF rings rest st n many) (closedI rings free) (leftF rings free))
  left : ∀ x ∈ leftF rings free, x.1.length ≤ 12 ∧ x.2 < rings.length ∧ ∀ o ∈ x.1, o < n
theorem setAll_len (v : Int) : ∀ (ring : List Nat) (g : List Int), (setAll v ring g).length = g.length
  | [], _ => rfl
  | o :: r, g => by
    unfold setAll
    rw [List.foldl_cons]
    have := setAll_len v r (g.set o v)
    unfold setAll at this
    rw [this, List.length_set]
theorem closedF_len (rings : List (List Nat)) (st : List Int) : ∀ (cl : List Nat) (s : List Int × Nat), (cl.foldl (closedF rings st) s).1.length = s.1.length
  | [], _ => rfl
  | a :: cl, s => by
    rw [List.foldl_cons, closedF_len rings st cl, closedF, setAll_len]
theorem givenF_len (rings : List (List Nat)) (rest : List Nat) (st : List Int) (n : Nat) (many : Int) (cl : List Nat) : (givenF rings rest st n many cl).length = n := by
  have h := closedF_len rings st cl (List.replicate n 0, 0)
  simp only [List.length_replicate] at h
  show (if many ≤ ((cl.foldl (closedF rings st) (List.replicate n 0, 0)).2 : Int) ∧ rings ≠ [] then setAll 3 rest (cl.foldl (closedF rings st) (List.replicate n 0, 0)).1 else (cl.foldl (closedF rings st) (List.replicate n 0, 0)).1).length = n
  split
  · rw [setAll_len]; exact h
  · exact h
theorem leftF_len (rings : List (List Nat)) (free : Nat) : (leftF rings free).length ≤ rings.length := by
  unfold leftF
  rw [List.length_mergeSort, List.length_map]
  have := List.length_filter_le (fun a => !decide (a = free)) (List.range rings.length)
  rw [List.length_range] at this
  exact this
def drw30 (c : Int) : List Int := drawsF c [6, 8, 4, 9, 9, 9, 9]
def n30 (c : Int) : Nat := 3 + (gv (drw30 c) 0).toNat
def rs30 (c : Int) : List (List Nat) × List Nat := ringsF 5 (c + 3) (n30 c)
def st30 (c : Int) : List Int := ((drw30 c).drop 3).map fun s => 1 + s
def many30 (c : Int) : Int := 1 + gv (drw30 c) 1
def free30 (c : Int) : Nat := (gv (drw30 c) 2).toNat
theorem drw30_eq (c : Int) : ∃ a b e x1 x2 x3 x4, drw30 c = [a, b, e, x1, x2, x3, x4] ∧ 0 ≤ a ∧ a < 6 ∧ 0 ≤ b ∧ b < 8 ∧ 0 ≤ e ∧ e < 4 ∧ 0 ≤ x1 ∧ x1 < 9 ∧ 0 ≤ x2 ∧ x2 < 9 ∧ 0 ≤ x3 ∧ x3 < 9 ∧ 0 ≤ x4 ∧ x4 < 9 := by
  unfold drw30 drawsF
  simp only [walkD]
  exact ⟨_, _, _, _, _, _, _, rfl, Int.emod_nonneg _ (by decide), Int.emod_lt_of_pos _ (by decide), Int.emod_nonneg _ (by decide), Int.emod_lt_of_pos _ (by decide), Int.emod_nonneg _ (by decide), Int.emod_lt_of_pos _ (by decide), Int.emod_nonneg _ (by decide), Int.emod_lt_of_pos _ (by decide), Int.emod_nonneg _ (by decide), Int.emod_lt_of_pos _ (by decide), Int.emod_nonneg _ (by decide), Int.emod_lt_of_pos _ (by decide), Int.emod_nonneg _ (by decide), Int.emod_lt_of_pos _ (by decide)⟩
theorem em_same {ss : List SP} {Ms : MS} {ta tb : TE} {E : XK} {n : Nat} {x : PyData} (hx : okS n x) (h1 : EM ss Ms ta x) (h2 : EM ss Ms tb x) : EM ss Ms (tCall (spR (Rl_same n)) [] E (tCons ta (tCons tb tNil))) (.bool true) := em_call (ed_cons h1 (ed_cons h2 ed_nil)) ⟨x, hx, rfl, rfl⟩
theorem et_same {ss : List SP} {Ms : MS} {ta tb : TE} {E : XK} {n : Nat} {x : PyData} (hx : okS n x) (h1 : EM ss Ms ta x) (h2 : EM ss Ms tb x) : ET ss Ms (tNot (tB (tCall (spR (Rl_same n)) [] E (tCons ta (tCons tb tNil))))) false := et_not (et_B (em_same hx h1 h2))
theorem em_list2 {ss : List SP} {Ms : MS} {ta tb : TE} {x y : PyData} (h : EM ss Ms ta x) (k : EM ss Ms tb y) : EM ss Ms (tLst (tCons ta (tCons tb tNil))) (.list [x, y]) := EN.em (en_lst (ed_cons h (ed_cons k ed_nil)) (show 2 ≤ 100000 by decide))
theorem go_eq {ss ss' : List SP} {Ms : MS} {tu : TS} {D : Ends} {G0 H0 : Hp} (e : ss = ss') (h : Go tu D G0 H0 ss' Ms) : Go tu D G0 H0 ss Ms := e ▸ h
/-! data compared with themselves -/
theorem okS_int {n : Nat} (i : Int) : okS (n + 1) (.int i) := trivial
theorem okS_list {α : Type} {n : Nat} {e : α → PyData} {xs : List α} (hl : xs.length ≤ 99999) (h : ∀ a ∈ xs, okS n (e a)) : okS (n + 1) (.list (xs.map e)) := ⟨by rw [List.length_map]; exact hl, fun x hx => by
  obtain ⟨a, ha, rfl⟩ := List.mem_map.mp hx
  exact h a ha⟩
theorem okS_tuple {α : Type} {n : Nat} {e : α → PyData} {xs : List α} (hl : xs.length ≤ 99999) (h : ∀ a ∈ xs, okS n (e a)) : okS (n + 1) (.tuple (xs.map e)) := ⟨by rw [List.length_map]; exact hl, fun x hx => by
  obtain ⟨a, ha, rfl⟩ := List.mem_map.mp hx
  exact h a ha⟩
theorem okS_eG {n : Nat} {g : List Int} (h : g.length ≤ 99999) : okS (n + 2) (eG g) := okS_tuple h fun i _ => okS_int i
theorem okS_eC {n : Nat} {c : List Nat} (h : c.length ≤ 99999) : okS (n + 2) (eC c) := okS_list (e := PyData.int) (xs := iN c) (by unfold iN; rw [List.length_map]; exact h) fun i _ => okS_int i
theorem alike_eKA (a b : List Nat × Nat) : PySem.W.alike (eKA a) (eKA b) = true := alike_pair (alike_eC _ _) (alike_int _ _)
theorem sh_eKA (a : List Nat × Nat) : Sh 2 (eKA a) := sh_pair (sh_eC _) ((sh_int _).mono (by decide))
theorem rng_map {f : Nat → Bool} (n : Nat) : lcOut f (fun i => .int (i : Int)) (List.range n) = eN ((List.range n).filter f) := by
  unfold lcOut eN iN
  rw [List.map_map]
  rfl
def spLaw (K : PySem.W.Frag) : Sp := fun vs H Q _ => ∃ (a : Addr) (ns : List Int), vs = [.ref a] ∧ SqL K H a (ns.map V.int) ∧ ns.length ≤ 63 ∧ ∀ H', Q (.bl true) H'
end Lw
namespace Lw
open PySem L2
/-! ## plain: givings above givings, rounds up and down -/
theorem gv_out {a : List Int} {i : Nat} (h : a.length ≤ i) : gv a i = 0 := by
  unfold gv
  rw [List.getD_eq_getElem?_getD, List.getElem?_eq_none_iff.mpr h]
  rfl
theorem gv_in {a : List Int} {i : Nat} (h : i < a.length) : gv a i = a[i] := by
  unfold gv
  rw [List.getD_eq_getElem?_getD, List.getElem?_eq_getElem h]
  rfl
theorem gv_map_range {n i : Nat} {f : Nat → Int} (h : i < n) : gv ((List.range n).map f) i = f i := by
  rw [gv_in (by simpa using h)]
  simp
theorem ext_gv {a b : List Int} (hl : a.length = b.length) (h : ∀ i, i < a.length → gv a i = gv b i) : a = b := by
  apply List.ext_getElem hl
  intro i h1 h2
  have := h i h1
  rw [gv_in h1, gv_in h2] at this
  exact this
structure Le (a b : List Int) : Prop where
  len : a.length = b.length
  le : ∀ i, gv a i ≤ gv b i
theorem Le.refl (a : List Int) : Le a a := ⟨rfl, fun _ => Int.le_refl _⟩
theorem Le.trans {a b c : List Int} (h : Le a b) (k : Le b c) : Le a c := ⟨h.len.trans k.len, fun i => Int.le_trans (h.le i) (k.le i)⟩
theorem Le.antisymm {a b : List Int} (h : Le a b) (k : Le b a) : a = b := ext_gv h.len fun i _ => Int.le_antisymm (h.le i) (k.le i)
theorem gv_cons_succ (x : Int) (a : List Int) (i : Nat) : gv (x :: a) (i + 1) = gv a i := rfl
theorem gv_cons_zero (x : Int) (a : List Int) : gv (x :: a) 0 = x := rfl
theorem Le.sum : ∀ {a b : List Int}, Le a b → a.sum ≤ b.sum
  | [], [], _ => Int.le_refl _
  | [], _ :: _, h => by have := h.len; simp at this
  | _ :: _, [], h => by have := h.len; simp at this
  | x :: a, y :: b, h => by
    have h0 : x ≤ y := h.le 0
    have ht : Le a b := ⟨by simpa using h.len, fun i => h.le (i + 1)⟩
    have := ht.sum
    simp only [List.sum_cons]
    omega
theorem Le.sum_eq : ∀ {a b : List Int}, Le a b → a.sum = b.sum → a = b
  | [], [], _, _ => rfl
  | [], _ :: _, h, _ => by have := h.len; simp at this
  | _ :: _, [], h, _ => by have := h.len; simp at this
  | x :: a, y :: b, h, e => by
    have h0 : x ≤ y := h.le 0
    have ht : Le a b := ⟨by simpa using h.len, fun i => h.le (i + 1)⟩
    have h1 := ht.sum
    simp only [List.sum_cons] at e
    rw [ht.sum_eq (by omega)]
    have : x = y := by omega
    rw [this]
theorem Le.lt {a b : List Int} (h : Le a b) (k : a ≠ b) : a.sum < b.sum := by
  rcases Int.lt_or_eq_of_le h.sum with q | q
  · exact q
  · exact absurd (h.sum_eq q) k
theorem sum_nn : ∀ {a : List Int}, (∀ i, 0 ≤ gv a i) → 0 ≤ a.sum
  | [], _ => Int.le_refl _
  | x :: a, h => by
    have h0 : 0 ≤ x := h 0
    have := sum_nn (a := a) fun i => h (i + 1)
    simp only [List.sum_cons]
    omega
inductive It (T : List Int → List Int) : Nat → List Int → List Int → Prop
  | done {g : List Int} : T g = g → It T 0 g g
  | step {k : Nat} {g p : List Int} : T g ≠ g → It T k (T g) p → It T (k + 1) g p
theorem It.rounds {b : Book} {f : List Int} : ∀ {k : Nat} {g p : List Int}, It (due b f) k g p → ∃ xs, Rounds b f g xs ∧ xs.length = k + 1 ∧ xs.getLast? = some p
  | _, g, _, .done h => ⟨[g], .done h, rfl, rfl⟩
  | _, g, _, .step h t => by
    obtain ⟨xs, h1, h2, h3⟩ := t.rounds
    refine ⟨g :: xs, .step h h1, by rw [List.length_cons, h2], ?_⟩
    cases xs with
    | nil => simp at h2
    | cons x xs => simpa using h3
theorem It.held {b : Book} {f base : List Int} {c : List Nat} : ∀ {k : Nat} {g p : List Int}, It (fun g => onlyFor c (due b f g) base) k g p → Held b f base c k g p
  | _, _, _, .done h => .done h
  | _, _, _, .step h t => .step h t.held
theorem it_down {T : List Int → List Int} (mono : ∀ a b, Le a b → Le (T a) (T b)) (nn : ∀ a i, 0 ≤ gv (T a) i) : ∀ (m : Nat) (g : List Int), g.sum.toNat ≤ m → Le (T g) g → ∃ k p, It T k g p ∧ T p = p ∧ Le p g ∧ (∀ q, Le q (T q) → Le q g → Le q p) ∧ k ≤ m := by
  intro m
  induction m with
  | zero =>
    intro g hm h
    by_cases e : T g = g
    · exact ⟨0, g, .done e, e, .refl g, fun q _ h => h, Nat.le_refl _⟩
    · have := h.lt e
      have := sum_nn (nn g)
      omega
  | succ m ih =>
    intro g hm h
    by_cases e : T g = g
    · exact ⟨0, g, .done e, e, .refl g, fun q _ h => h, Nat.zero_le _⟩
    · have h1 := h.lt e
      have h2 := sum_nn (nn g)
      obtain ⟨k, p, i1, i2, i3, i4, i5⟩ := ih (T g) (by omega) (mono _ _ h)
      exact ⟨k + 1, p, .step e i1, i2, i3.trans h, fun q hq hg => i4 q hq (hq.trans (mono _ _ hg)), by omega⟩
theorem it_up {T : List Int → List Int} (mono : ∀ a b, Le a b → Le (T a) (T b)) {u : List Int} (hu : Le (T u) u) : ∀ (m : Nat) (g : List Int), (u.sum - g.sum).toNat ≤ m → Le g (T g) → Le g u → ∃ k p, It T k g p ∧ T p = p ∧ Le g p ∧ (∀ q, Le (T q) q → Le g q → Le p q) ∧ k ≤ m := by
  intro m
  induction m with
  | zero =>
    intro g hm h hgu
    by_cases e : T g = g
    · exact ⟨0, g, .done e, e, .refl g, fun q _ h => h, Nat.le_refl _⟩
    · have h1 := h.lt (fun z => e z.symm)
      have h2 := ((mono _ _ hgu).trans hu).sum
      omega
  | succ m ih =>
    intro g hm h hgu
    by_cases e : T g = g
    · exact ⟨0, g, .done e, e, .refl g, fun q _ h => h, Nat.zero_le _⟩
    · have h1 := h.lt (fun z => e z.symm)
      have h2 := ((mono _ _ hgu).trans hu).sum
      obtain ⟨k, p, i1, i2, i3, i4, i5⟩ := ih (T g) (by omega) (mono _ _ h) ((mono _ _ hgu).trans hu)
      exact ⟨k + 1, p, .step e i1, i2, h.trans i3, fun q hq hg => i4 q hq ((mono _ _ hg).trans hq), by omega⟩

/-! ### what is due rises with what is given -/
theorem sum_map_le {c : List Nat} {f g : Nat → Int} (h : ∀ o, f o ≤ g o) : (c.map f).sum ≤ (c.map g).sum := by
  induction c with
  | nil => exact Int.le_refl _
  | cons o c ih =>
    have := h o
    simp only [List.map_cons, List.sum_cons]
    omega
theorem filter_len_le {α : Type} {p q : α → Bool} (c : List α) (h : ∀ o ∈ c, p o = true → q o = true) : (c.filter p).length ≤ (c.filter q).length := by
  induction c with
  | nil => exact Nat.le_refl _
  | cons o c ih =>
    have ih' := ih fun x hx => h x (List.mem_cons_of_mem _ hx)
    have ho := h o List.mem_cons_self
    simp only [List.filter_cons]
    cases hp : p o with
    | true => rw [ho hp]; simpa using ih'
    | false =>
      cases q o with
      | true => simp; omega
      | false => simpa using ih'
mutual
theorem holds_mono {g g' : List Int} (h : ∀ i, gv g i ≤ gv g' i) : ∀ t : Term, holds g t = true → holds g' t = true
  | .free, _ => by rw [holds]
  | .never, k => by rw [holds] at k; cases k
  | .gives o s, k => by
    rw [holds] at k ⊢
    have := h o
    have := of_decide_eq_true k
    exact decide_eq_true (by omega)
  | .sum c s, k => by
    rw [holds] at k ⊢
    have := of_decide_eq_true k
    have := sum_map_le (c := c) h
    exact decide_eq_true (by omega)
  | .crowd c s m, k => by
    rw [holds] at k ⊢
    have := of_decide_eq_true k
    have := filter_len_le (p := fun o => decide (s ≤ gv g o)) (q := fun o => decide (s ≤ gv g' o)) c fun o _ e => by
      have := h o
      have := of_decide_eq_true e
      exact decide_eq_true (by omega)
    exact decide_eq_true (by omega)
  | .all ps, k => by
    rw [holds] at k ⊢
    exact holdsAll_mono h ps k
  | .any ps, k => by
    rw [holds] at k ⊢
    exact holdsAny_mono h ps k
theorem holdsAll_mono {g g' : List Int} (h : ∀ i, gv g i ≤ gv g' i) : ∀ ts : List Term, holdsAll g ts = true → holdsAll g' ts = true
  | [], _ => by rw [holdsAll]
  | t :: ts, k => by
    rw [holdsAll, Bool.and_eq_true] at k ⊢
    exact ⟨holds_mono h t k.1, holdsAll_mono h ts k.2⟩
theorem holdsAny_mono {g g' : List Int} (h : ∀ i, gv g i ≤ gv g' i) : ∀ ts : List Term, holdsAny g ts = true → holdsAny g' ts = true
  | [], k => by rw [holdsAny] at k; cases k
  | t :: ts, k => by
    rw [holdsAny, Bool.or_eq_true] at k ⊢
    rcases k with k | k
    · exact .inl (holds_mono h t k)
    · exact .inr (holdsAny_mono h ts k)
end
theorem maxI_le {m k : Int} {xs : List Int} (h0 : m ≤ k) (h : ∀ x ∈ xs, x ≤ k) : maxI m xs ≤ k := by
  rcases maxI_mem xs m with e | e
  · rw [e]; exact h0
  · exact h _ e
theorem maxI_ge {m : Int} {xs : List Int} : m ≤ maxI m xs := (foldl_max_ge xs m).1
theorem maxI_ge_mem {m x : Int} {xs : List Int} (h : x ∈ xs) : x ≤ maxI m xs := (foldl_max_ge xs m).2 x h
theorem owes_nn (g : List Int) (p : Pledge) : 0 ≤ owes g p := maxI_ge
theorem owedBy_nn (g : List Int) (ps : List Pledge) : 0 ≤ owedBy g ps := maxI_ge
theorem owes_mono {g g' : List Int} (h : ∀ i, gv g i ≤ gv g' i) (p : Pledge) : owes g p ≤ owes g' p := by
  refine maxI_le maxI_ge fun x hx => ?_
  obtain ⟨r, hr, rfl⟩ := List.mem_map.mp hx
  obtain ⟨h1, h2⟩ := List.mem_filter.mp hr
  exact maxI_ge_mem (List.mem_map.mpr ⟨r, List.mem_filter.mpr ⟨h1, holds_mono h r.2 h2⟩, rfl⟩)
theorem owedBy_mono {g g' : List Int} (h : ∀ i, gv g i ≤ gv g' i) (ps : List Pledge) : owedBy g ps ≤ owedBy g' ps := by
  refine maxI_le maxI_ge fun x hx => ?_
  obtain ⟨p, hp, rfl⟩ := List.mem_map.mp hx
  exact Int.le_trans (owes_mono h p) (maxI_ge_mem (List.mem_map.mpr ⟨p, hp, rfl⟩))
theorem gv_joined {a b : List Int} {i : Nat} (h : i < a.length) : gv (joined a b) i = max (gv a i) (gv b i) := by
  unfold joined
  rw [gv_map_range h]
  split
  · omega
  · omega
theorem joined_len (a b : List Int) : (joined a b).length = a.length := by unfold joined; rw [List.length_map, List.length_range]
def row (b : Book) (i : Nat) : List Pledge := b.getD i []
theorem gv_map_row {b : Book} {i : Nat} (f : List Pledge → Int) (h : i < b.length) : gv (b.map f) i = f (row b i) := by
  rw [gv_in (by simpa using h), List.getElem_map, row, List.getD_eq_getElem?_getD, List.getElem?_eq_getElem h]
  rfl
theorem gv_due {b : Book} {f g : List Int} {i : Nat} (hb : b.length = f.length) (h : i < f.length) : gv (due b f g) i = max (gv f i) (owedBy g (row b i)) := by
  unfold due
  rw [gv_joined h, gv_map_row _ (by omega)]
theorem gv_roof {b : Book} {f : List Int} {i : Nat} (hb : b.length = f.length) (h : i < f.length) : gv (roof b f) i = max (gv f i) (maxI 0 ((row b i).map lastStep)) := by
  unfold roof
  rw [gv_joined h, gv_map_row _ (by omega)]
theorem due_mono {b : Book} {f : List Int} (hb : b.length = f.length) : ∀ g g', Le g g' → Le (due b f g) (due b f g') := fun g g' h => ⟨by rw [due_len, due_len], fun i => by
  by_cases hi : i < f.length
  · rw [gv_due hb hi, gv_due hb hi]
    have := owedBy_mono h.le (row b i)
    omega
  · rw [gv_out (by rw [due_len]; omega), gv_out (by rw [due_len]; omega)]
    exact Int.le_refl _⟩
theorem due_nn {b : Book} {f : List Int} (hb : b.length = f.length) (g : List Int) (i : Nat) : 0 ≤ gv (due b f g) i := by
  by_cases hi : i < f.length
  · rw [gv_due hb hi]
    have := owedBy_nn g (row b i)
    omega
  · rw [gv_out (by rw [due_len]; omega)]
    exact Int.le_refl _
theorem due_ge {b : Book} {f : List Int} (hb : b.length = f.length) (g : List Int) : Le f (due b f g) := ⟨(due_len b f g).symm, fun i => by
  by_cases hi : i < f.length
  · rw [gv_due hb hi]; omega
  · rw [gv_out (a := f) (by omega), gv_out (by rw [due_len]; omega)]
    exact Int.le_refl _⟩
theorem onlyFor_len (c : List Nat) (a b : List Int) : (onlyFor c a b).length = a.length := by unfold onlyFor; rw [List.length_map, List.length_range]
theorem gv_only {c : List Nat} {a b : List Int} {i : Nat} (h : i < a.length) : gv (onlyFor c a b) i = if i ∈ c then gv a i else gv b i := by
  unfold onlyFor
  rw [gv_map_range h]
theorem only_mono {c : List Nat} {a a' b : List Int} (h : Le a a') : Le (onlyFor c a b) (onlyFor c a' b) := ⟨by rw [onlyFor_len, onlyFor_len, h.len], fun i => by
  by_cases hi : i < a.length
  · rw [gv_only hi, gv_only (by rw [← h.len]; exact hi)]
    split
    · exact h.le i
    · exact Int.le_refl _
  · rw [gv_out (by rw [onlyFor_len]; omega), gv_out (by rw [onlyFor_len]; have := h.len; omega)]
    exact Int.le_refl _⟩
/-- nothing pledged goes beyond the last steps -/
def risesB (b : Book) : Prop := ∀ ps ∈ b, ∀ p ∈ ps, ∀ r ∈ p, r.1 ≤ lastStep p
theorem row_mem {b : Book} {i : Nat} (h : i < b.length) : row b i ∈ b := getD_mem h
theorem due_roof {b : Book} {f g : List Int} (hb : b.length = f.length) (hr : risesB b) : Le (due b f g) (roof b f) := ⟨by rw [due_len, roof_len], fun i => by
  by_cases hi : i < f.length
  · rw [gv_due hb hi, gv_roof hb hi]
    have : owedBy g (row b i) ≤ maxI 0 ((row b i).map lastStep) := by
      refine maxI_le maxI_ge fun x hx => ?_
      obtain ⟨p, hp, rfl⟩ := List.mem_map.mp hx
      have h1 : lastStep p ≤ maxI 0 ((row b i).map lastStep) := maxI_ge_mem (List.mem_map.mpr ⟨p, hp, rfl⟩)
      refine maxI_le maxI_ge fun y hy => ?_
      obtain ⟨r, hr', rfl⟩ := List.mem_map.mp hy
      exact Int.le_trans (hr _ (row_mem (by omega)) p hp r (List.mem_filter.mp hr').1) h1
    omega
  · rw [gv_out (by rw [due_len]; omega), gv_out (by rw [roof_len]; omega)]
    exact Int.le_refl _⟩
end Lw
namespace Lw
open PySem L2
/-! ## plain: rings and a crowd -/
abbrev rg (rings : List (List Nat)) (a : Nat) : List Nat := rings.getD a []
structure Cf (n : Nat) (rings : List (List Nat)) (rest : List Nat) (st : List Int) (many : Int) : Prop where
  perm : (rings.flatten ++ rest).Perm (List.range n)
  hn : n ≤ 12
  len : ∀ r ∈ rings, 2 ≤ r.length
  st1 : ∀ a, a < rings.length → 1 ≤ gv st a ∧ gv st a ≤ 9
  hst : rings.length ≤ st.length
  hm : 1 ≤ many
section
variable {n : Nat} {rings : List (List Nat)} {rest : List Nat} {st : List Int} {many : Int} {free : Nat}
theorem rg_mem {a : Nat} (h : a < rings.length) : rg rings a ∈ rings := getD_mem h
theorem rg_eq {a : Nat} (h : a < rings.length) : rg rings a = rings[a] := by
  unfold rg
  rw [List.getD_eq_getElem?_getD, List.getElem?_eq_getElem h]
  rfl
theorem mem_flat {a o : Nat} (h : a < rings.length) (ho : o ∈ rg rings a) : o ∈ rings.flatten := List.mem_flatten.mpr ⟨_, rg_mem h, ho⟩
theorem Cf.nd (C : Cf n rings rest st many) : (rings.flatten ++ rest).Nodup := C.perm.nodup_iff.mpr List.nodup_range
theorem Cf.lt (C : Cf n rings rest st many) {a o : Nat} (h : a < rings.length) (ho : o ∈ rg rings a) : o < n :=
  List.mem_range.mp (C.perm.mem_iff.mp (List.mem_append_left _ (mem_flat h ho)))
theorem Cf.ltR (C : Cf n rings rest st many) {o : Nat} (ho : o ∈ rest) : o < n :=
  List.mem_range.mp (C.perm.mem_iff.mp (List.mem_append_right _ ho))
theorem Cf.ndr (C : Cf n rings rest st many) {a : Nat} (h : a < rings.length) : (rg rings a).Nodup := by
  have := (List.nodup_append.mp C.nd).1
  rw [List.nodup_iff_pairwise_ne, List.pairwise_flatten] at this
  exact List.nodup_iff_pairwise_ne.mpr (this.1 _ (rg_mem h))
theorem Cf.ndR (C : Cf n rings rest st many) : rest.Nodup := (List.nodup_append.mp C.nd).2.1
theorem Cf.apart (C : Cf n rings rest st many) {a b o : Nat} (ha : a < rings.length) (hb : b < rings.length) (h : o ∈ rg rings a) (k : o ∈ rg rings b) : a = b := by
  have := (List.nodup_append.mp C.nd).1
  rw [List.nodup_iff_pairwise_ne, List.pairwise_flatten] at this
  have p := List.pairwise_iff_getElem.mp this.2
  rw [rg_eq ha] at h
  rw [rg_eq hb] at k
  rcases Nat.lt_trichotomy a b with q | q | q
  · exact absurd rfl (p a b ha hb q o h o k)
  · exact q
  · exact absurd rfl (p b a hb ha q o k o h)
theorem Cf.off (C : Cf n rings rest st many) {a o : Nat} (ha : a < rings.length) (h : o ∈ rg rings a) : o ∉ rest := fun k =>
  (List.nodup_append.mp C.nd).2.2 o (mem_flat ha h) o k rfl
theorem Cf.cases (C : Cf n rings rest st many) {o : Nat} (h : o < n) : (∃ a, a < rings.length ∧ o ∈ rg rings a) ∨ o ∈ rest := by
  rcases List.mem_append.mp (C.perm.mem_iff.mpr (List.mem_range.mpr h)) with q | q
  · obtain ⟨r, hr, ho⟩ := List.mem_flatten.mp q
    obtain ⟨a, ha, e⟩ := List.mem_iff_getElem.mp hr
    exact .inl ⟨a, ha, by rw [rg_eq ha, e]; exact ho⟩
  · exact .inr q
theorem pos_of {r : List Nat} {o : Nat} (h : o ∈ r) : ∃ j, j < r.length ∧ r.getD j 0 = o := by
  obtain ⟨j, hj, e⟩ := List.mem_iff_getElem.mp h
  exact ⟨j, hj, by rw [List.getD_eq_getElem?_getD, List.getElem?_eq_getElem hj]; exact e⟩
theorem pos_inj {r : List Nat} (nd : r.Nodup) {i j : Nat} (hi : i < r.length) (hj : j < r.length) (e : r.getD i 0 = r.getD j 0) : i = j := by
  rw [List.getD_eq_getElem?_getD, List.getElem?_eq_getElem hi, List.getD_eq_getElem?_getD, List.getElem?_eq_getElem hj] at e
  exact nodup_idx nd (List.getElem?_eq_getElem hi) (by rw [List.getElem?_eq_getElem hj]; exact congrArg some e.symm)

/-! ### the book's rows -/
theorem row_addP {b : Book} {o i : Nat} {p : Pledge} (ho : o < b.length) : row (addP b o p) i = if i = o then row b i ++ [p] else row b i := by
  unfold row addP
  rw [List.getD_eq_getElem?_getD, List.getElem?_set]
  by_cases h : i = o
  · subst h
    rw [if_pos rfl, if_pos rfl, if_pos ho]
    rfl
  · rw [if_neg (fun z => h z.symm), if_neg h, ← List.getD_eq_getElem?_getD]
def plG (st : Int) (ring : List Nat) (j : Nat) : Pledge := [(st, .gives (ring.getD ((j + 1) % ring.length) 0) st)]
theorem laidRing_len (st : Int) (ring : List Nat) (b : Book) : ∀ k, (laidRing st ring b k).length = b.length
  | 0 => rfl
  | k + 1 => by rw [laidRing, ringPl, addP_len, laidRing_len]
theorem ring_out {st : Int} {ring : List Nat} {b : Book} {i : Nat} (hb : ∀ o ∈ ring, o < b.length) : ∀ k, k ≤ ring.length → (∀ j, j < k → ring.getD j 0 ≠ i) → row (laidRing st ring b k) i = row b i
  | 0, _, _ => rfl
  | k + 1, hk, h => by
    rw [laidRing, ringPl, row_addP (by rw [laidRing_len]; exact hb _ (getD_mem (by omega))), if_neg (fun z => h k (by omega) z.symm)]
    exact ring_out hb k (by omega) fun j hj => h j (by omega)
theorem ring_in {st : Int} {ring : List Nat} {b : Book} (nd : ring.Nodup) (hb : ∀ o ∈ ring, o < b.length) : ∀ k, k ≤ ring.length → ∀ j, j < k → row (laidRing st ring b k) (ring.getD j 0) = row b (ring.getD j 0) ++ [plG st ring j]
  | 0, _, j, hj => by omega
  | k + 1, hk, j, hj => by
    rw [laidRing, ringPl, row_addP (by rw [laidRing_len]; exact hb _ (getD_mem (by omega)))]
    by_cases e : j = k
    · subst e
      rw [if_pos rfl, ring_out hb j (by omega) fun i hi z => by have := pos_inj nd (by omega) (by omega) z; omega]
      rfl
    · rw [if_neg (fun z => e (pos_inj nd (by omega) (by omega) z)), ring_in nd hb k (by omega) j (by omega)]
theorem laidOne_len (st : Int) (ring : List Nat) (fr : Bool) (b : Book) : (laidOne st ring fr b).length = b.length := by
  unfold laidOne
  split
  · rw [addP_len, laidRing_len]
  · rw [laidRing_len]
theorem one_out {st : Int} {ring : List Nat} {fr : Bool} {b : Book} {i : Nat} (hne : ring ≠ []) (hb : ∀ o ∈ ring, o < b.length) (h : i ∉ ring) : row (laidOne st ring fr b) i = row b i := by
  have hp : 0 < ring.length := List.length_pos_iff.mpr hne
  have h0 : ∀ j, j < ring.length → ring.getD j 0 ≠ i := fun j hj z => h (z ▸ getD_mem hj)
  unfold laidOne
  split
  · rw [row_addP (by rw [laidRing_len]; exact hb _ (getD_mem hp)), if_neg (fun z => h0 0 hp z.symm), ring_out hb _ (Nat.le_refl _) h0]
  · rw [ring_out hb _ (Nat.le_refl _) h0]
theorem one_in {st : Int} {ring : List Nat} {fr : Bool} {b : Book} {j : Nat} (nd : ring.Nodup) (hb : ∀ o ∈ ring, o < b.length) (hj : j < ring.length) : row (laidOne st ring fr b) (ring.getD j 0) = row b (ring.getD j 0) ++ ([plG st ring j] ++ if fr = true ∧ j = 0 then [[(st, .free)]] else []) := by
  unfold laidOne
  cases fr with
  | true =>
    rw [if_pos rfl, row_addP (by rw [laidRing_len]; exact hb _ (getD_mem (by omega)))]
    by_cases e : j = 0
    · subst e
      rw [if_pos rfl, if_pos ⟨rfl, rfl⟩, ring_in nd hb _ (Nat.le_refl _) 0 hj, List.append_assoc]
    · rw [if_neg (fun z => e (pos_inj nd hj (by omega) z)), if_neg (fun z => e z.2), ring_in nd hb _ (Nat.le_refl _) j hj, List.append_nil]
  | false =>
    rw [if_neg (by decide), if_neg (fun z => absurd z.1 (by decide)), ring_in nd hb _ (Nat.le_refl _) j hj, List.append_nil]
theorem laidRings_len (st : List Int) (free : Nat) (b : Book) : ∀ k, (laidRings rings st free b k).length = b.length
  | 0 => rfl
  | k + 1 => by rw [laidRings, laidOne_len, laidRings_len st free b k]
theorem Cf.ne (C : Cf n rings rest st many) {a : Nat} (h : a < rings.length) : rg rings a ≠ [] := by
  have := C.len _ (rg_mem h)
  intro e
  rw [e] at this
  simp at this
theorem Cf.rings_out (C : Cf n rings rest st many) {i : Nat} : ∀ k, k ≤ rings.length → (∀ a, a < k → i ∉ rg rings a) → row (laidRings rings st free (List.replicate n []) k) i = []
  | 0, _, _ => by
    show row (List.replicate n []) i = []
    unfold row
    rw [List.getD_eq_getElem?_getD, List.getElem?_replicate]
    split <;> rfl
  | k + 1, hk, h => by
    rw [laidRings, one_out (C.ne (by omega)) (fun o ho => by rw [laidRings_len, List.length_replicate]; exact C.lt (by omega) ho) (h k (by omega))]
    exact C.rings_out k (by omega) fun a ha => h a (by omega)
theorem Cf.rings_in (C : Cf n rings rest st many) : ∀ k, k ≤ rings.length → ∀ a, a < k → ∀ j, j < (rg rings a).length → row (laidRings rings st free (List.replicate n []) k) ((rg rings a).getD j 0) = [plG (gv st a) (rg rings a) j] ++ if a = free ∧ j = 0 then [[(gv st a, .free)]] else []
  | 0, _, a, ha, _, _ => by omega
  | k + 1, hk, a, ha, j, hj => by
    have hb : ∀ o ∈ rg rings k, o < (laidRings rings st free (List.replicate n []) k).length := fun o ho => by rw [laidRings_len, List.length_replicate]; exact C.lt (by omega) ho
    rw [laidRings]
    by_cases e : a = k
    · subst e
      rw [one_in (C.ndr (by omega)) hb hj, C.rings_out a (by omega) fun b hb' z => by have := C.apart (by omega) (by omega) z (getD_mem hj); omega]
      simp
    · rw [one_out (C.ne (by omega)) hb fun z => e (C.apart (by omega) (by omega) (getD_mem hj) z)]
      exact C.rings_in k (by omega) a (by omega) j hj
theorem rest_out {inside : List Nat} {many : Int} {i : Nat} : ∀ (rest : List Nat) (b : Book), (∀ o ∈ rest, o < b.length) → i ∉ rest → row (rest.foldl (laidRest inside many) b) i = row b i
  | [], _, _, _ => rfl
  | o :: rest, b, hb, h => by
    rw [List.foldl_cons]
    have hl : (laidRest inside many b o).length = b.length := by unfold laidRest; split; rfl; exact addP_len _ _ _
    rw [rest_out rest _ (fun x hx => by rw [hl]; exact hb x (List.mem_cons_of_mem _ hx)) fun z => h (List.mem_cons_of_mem _ z)]
    unfold laidRest
    split
    · rfl
    · rw [row_addP (hb o List.mem_cons_self), if_neg fun z => h (by rw [z]; exact List.mem_cons_self)]
theorem rest_in {inside : List Nat} {many : Int} {i : Nat} : ∀ (rest : List Nat) (b : Book), rest.Nodup → (∀ o ∈ rest, o < b.length) → i ∈ rest → row (rest.foldl (laidRest inside many) b) i = row b i ++ if inside = [] then [] else [[(3, .crowd inside 1 many)]]
  | [], _, _, _, h => nomatch h
  | o :: rest, b, nd, hb, h => by
    rw [List.foldl_cons]
    have hl : (laidRest inside many b o).length = b.length := by unfold laidRest; split; rfl; exact addP_len _ _ _
    have hb' : ∀ x ∈ rest, x < (laidRest inside many b o).length := fun x hx => by rw [hl]; exact hb x (List.mem_cons_of_mem _ hx)
    rcases List.mem_cons.mp h with e | h
    · subst e
      rw [rest_out rest _ hb' (List.nodup_cons.mp nd).1]
      unfold laidRest
      split
      · rw [List.append_nil]
      · rw [row_addP (hb _ List.mem_cons_self), if_pos rfl]
    · rw [rest_in rest _ (List.nodup_cons.mp nd).2 hb' h]
      have hne : i ≠ o := fun z => (List.nodup_cons.mp nd).1 (z ▸ h)
      congr 1
      unfold laidRest
      split
      · rfl
      · rw [row_addP (hb o List.mem_cons_self), if_neg hne]
abbrev bk (rings : List (List Nat)) (rest : List Nat) (st : List Int) (n : Nat) (many : Int) (free : Nat) : Book := laidF rings rest st n many free
theorem bk_len : (bk rings rest st n many free).length = n := by
  have aux : ∀ (rest : List Nat) (b : Book), (rest.foldl (laidRest (insideF rings) many) b).length = b.length := by
    intro rest
    induction rest with
    | nil => intro b; rfl
    | cons o rest ih =>
      intro b
      rw [List.foldl_cons, ih]
      unfold laidRest
      split
      · rfl
      · exact addP_len _ _ _
  unfold bk laidF
  rw [aux, laidRings_len, List.length_replicate]
theorem Cf.row_ring (C : Cf n rings rest st many) {a j : Nat} (ha : a < rings.length) (hj : j < (rg rings a).length) : row (bk rings rest st n many free) ((rg rings a).getD j 0) = [plG (gv st a) (rg rings a) j] ++ if a = free ∧ j = 0 then [[(gv st a, .free)]] else [] := by
  unfold bk laidF
  rw [rest_out rest _ (fun o ho => by rw [laidRings_len, List.length_replicate]; exact C.ltR ho) (C.off ha (getD_mem hj)), C.rings_in _ (Nat.le_refl _) a ha j hj]
theorem Cf.row_rest (C : Cf n rings rest st many) {o : Nat} (ho : o ∈ rest) : row (bk rings rest st n many free) o = if insideF rings = [] then [] else [[(3, .crowd (insideF rings) 1 many)]] := by
  unfold bk laidF
  rw [rest_in rest _ C.ndR (fun o ho => by rw [laidRings_len, List.length_replicate]; exact C.ltR ho) ho, C.rings_out _ (Nat.le_refl _) (fun a ha z => C.off ha z ho), List.nil_append]
def cnt (rings : List (List Nat)) (g : List Int) : Nat := (rings.flatten.filter fun o => decide (1 ≤ gv g o)).length
theorem owes_one (g : List Int) (s : Int) (t : Term) (h : 0 ≤ s) : owes g [(s, t)] = if holds g t = true then s else 0 := by
  unfold owes
  cases e : holds g t with
  | true => simp [e, maxI]; omega
  | false => simp [e, maxI]
theorem owedBy_one (g : List Int) (p : Pledge) : owedBy g [p] = owes g p := by
  unfold owedBy
  have := owes_nn g p
  simp only [List.map_cons, List.map_nil, maxI, List.foldl_cons, List.foldl_nil]
  omega
theorem owedBy_two (g : List Int) (p q : Pledge) : owedBy g [p, q] = max (owes g p) (owes g q) := by
  unfold owedBy
  have := owes_nn g p
  simp only [List.map_cons, List.map_nil, maxI, List.foldl_cons, List.foldl_nil]
  omega
theorem Cf.ow_ring (C : Cf n rings rest st many) (g : List Int) {a j : Nat} (ha : a < rings.length) (hj : j < (rg rings a).length) : owedBy g (row (bk rings rest st n many free) ((rg rings a).getD j 0)) = if a = free ∧ j = 0 then gv st a else if gv st a ≤ gv g ((rg rings a).getD ((j + 1) % (rg rings a).length) 0) then gv st a else 0 := by
  have h1 := C.st1 a ha
  rw [C.row_ring ha hj]
  by_cases e : a = free ∧ j = 0
  · rw [if_pos e, if_pos e]
    show owedBy g [plG (gv st a) (rg rings a) j, [(gv st a, .free)]] = _
    rw [owedBy_two, owes_one _ _ _ (by omega), plG, owes_one _ _ _ (by omega), holds, if_pos rfl]
    split <;> omega
  · rw [if_neg e, if_neg e, List.append_nil, owedBy_one, plG, owes_one _ _ _ (by omega), holds]
    simp only [decide_eq_true_eq]
theorem inside_perm (rings : List (List Nat)) : (insideF rings).Perm rings.flatten := List.mergeSort_perm _ _
theorem Cf.ow_rest (C : Cf n rings rest st many) (g : List Int) {o : Nat} (ho : o ∈ rest) : owedBy g (row (bk rings rest st n many free) o) = if many ≤ (cnt rings g : Int) then 3 else 0 := by
  have hm := C.hm
  have hc : ((insideF rings).filter fun o => decide (1 ≤ gv g o)).length = cnt rings g := ((inside_perm rings).filter _).length_eq
  rw [C.row_rest ho]
  by_cases e : insideF rings = []
  · rw [if_pos e]
    have : cnt rings g = 0 := by rw [← hc, e]; rfl
    rw [this, if_neg (by omega)]
    rfl
  · rw [if_neg e, owedBy_one, owes_one _ _ _ (by decide), holds, hc]
    simp only [decide_eq_true_eq]

/-! ### the givings by closed rings -/
theorem gv_setAll (v : Int) : ∀ (ring : List Nat) (g : List Int) (o : Nat), gv (setAll v ring g) o = if o ∈ ring ∧ o < g.length then v else gv g o
  | [], g, o => by simp [setAll]
  | x :: r, g, o => by
    have ih := gv_setAll v r (g.set x v) o
    have e : setAll v (x :: r) g = setAll v r (g.set x v) := rfl
    rw [e, ih, List.length_set]
    have hs : gv (g.set x v) o = if o = x ∧ o < g.length then v else gv g o := by
      unfold gv
      rw [List.getD_eq_getElem?_getD, List.getElem?_set, List.getD_eq_getElem?_getD]
      by_cases h : x = o
      · subst h
        by_cases hl : x < g.length
        · simp [hl]
        · simp [hl]
      · have h' : ¬ o = x := fun z => h z.symm
        simp [h, h']
    rw [hs]
    by_cases h1 : o < g.length
    · by_cases h2 : o ∈ r
      · simp [h1, h2]
      · by_cases h3 : o = x
        · subst h3
          rw [if_neg (fun z => h2 z.1), if_pos ⟨rfl, h1⟩, if_pos ⟨List.mem_cons_self, h1⟩]
        · rw [if_neg (fun z => h2 z.1), if_neg (fun z => h3 z.1), if_neg fun z => by
            rcases List.mem_cons.mp z.1 with q | q
            · exact h3 q
            · exact h2 q]
    · simp [h1]
def cntL (rings : List (List Nat)) (cl : List Nat) : Nat := (cl.map fun a => (rg rings a).length).sum
theorem fold_cnt (rings : List (List Nat)) (st : List Int) : ∀ (cl : List Nat) (s : List Int × Nat), (cl.foldl (closedF rings st) s).2 = s.2 + cntL rings cl
  | [], s => by simp [cntL]
  | a :: cl, s => by
    rw [List.foldl_cons, fold_cnt rings st cl]
    simp only [closedF, cntL, List.map_cons, List.sum_cons, rg]
    omega
theorem Cf.fold_ring (C : Cf n rings rest st many) {a o : Nat} (ha : a < rings.length) (ho : o ∈ rg rings a) : ∀ (cl : List Nat) (s : List Int × Nat), (∀ b ∈ cl, b < rings.length) → s.1.length = n → gv (cl.foldl (closedF rings st) s).1 o = if a ∈ cl then gv st a else gv s.1 o
  | [], s, _, _ => by simp
  | b :: cl, s, hc, hs => by
    rw [List.foldl_cons, C.fold_ring ha ho cl _ (fun x hx => hc x (List.mem_cons_of_mem _ hx)) (by rw [closedF, setAll_len]; exact hs)]
    have hon := C.lt ha ho
    by_cases h : a ∈ cl
    · simp [h]
    · rw [if_neg h, closedF, gv_setAll]
      by_cases e : a = b
      · subst e
        rw [if_pos ⟨ho, by omega⟩, if_pos List.mem_cons_self]
      · rw [if_neg fun z => e (C.apart ha (hc b List.mem_cons_self) ho z.1), if_neg fun z => by
          rcases List.mem_cons.mp z with z | z
          · exact e z
          · exact h z]
theorem Cf.fold_rest (C : Cf n rings rest st many) {o : Nat} (ho : o ∈ rest) : ∀ (cl : List Nat) (s : List Int × Nat), (∀ b ∈ cl, b < rings.length) → gv (cl.foldl (closedF rings st) s).1 o = gv s.1 o
  | [], s, _ => rfl
  | b :: cl, s, hc => by
    rw [List.foldl_cons, C.fold_rest ho cl _ (fun x hx => hc x (List.mem_cons_of_mem _ hx)), closedF, gv_setAll, if_neg fun z => C.off (hc b List.mem_cons_self) z.1 ho]
abbrev Gc (rings : List (List Nat)) (rest : List Nat) (st : List Int) (n : Nat) (many : Int) (cl : List Nat) : List Int := givenF rings rest st n many cl
theorem given_eq (cl : List Nat) : Gc rings rest st n many cl = if many ≤ (cntL rings cl : Int) ∧ rings ≠ [] then setAll 3 rest (cl.foldl (closedF rings st) (List.replicate n 0, 0)).1 else (cl.foldl (closedF rings st) (List.replicate n 0, 0)).1 := by
  have := fold_cnt rings st cl (List.replicate n 0, 0)
  simp only [Nat.zero_add] at this
  rw [← this]
  rfl
theorem gv_rep (n o : Nat) : gv (List.replicate n 0) o = 0 := by
  unfold gv
  rw [List.getD_eq_getElem?_getD, List.getElem?_replicate]
  split <;> rfl
theorem Cf.G_ring (C : Cf n rings rest st many) {cl : List Nat} (hc : ∀ b ∈ cl, b < rings.length) {a o : Nat} (ha : a < rings.length) (ho : o ∈ rg rings a) : gv (Gc rings rest st n many cl) o = if a ∈ cl then gv st a else 0 := by
  have h := C.fold_ring ha ho cl (List.replicate n 0, 0) hc List.length_replicate
  rw [gv_rep] at h
  rw [given_eq]
  split
  · rw [gv_setAll, if_neg fun z => C.off ha ho z.1, h]
  · rw [h]
theorem Cf.G_rest (C : Cf n rings rest st many) {cl : List Nat} (hc : ∀ b ∈ cl, b < rings.length) {o : Nat} (ho : o ∈ rest) : gv (Gc rings rest st n many cl) o = if many ≤ (cntL rings cl : Int) then 3 else 0 := by
  have h := C.fold_rest ho cl (List.replicate n 0, 0) hc
  rw [gv_rep] at h
  have hm := C.hm
  have hl := closedF_len rings st cl (List.replicate n 0, 0)
  rw [List.length_replicate] at hl
  rw [given_eq]
  by_cases e : many ≤ (cntL rings cl : Int)
  · have hne : rings ≠ [] := by
      rintro rfl
      have : cl = [] := by
        cases cl with
        | nil => rfl
        | cons b _ => exact absurd (hc b List.mem_cons_self) (by simp)
      subst this
      simp [cntL] at e
      omega
    rw [if_pos ⟨e, hne⟩, if_pos e, gv_setAll, if_pos ⟨ho, by rw [hl]; exact C.ltR ho⟩]
  · rw [if_neg (fun z => e z.1), if_neg e, h]
theorem sum_ite {f : Nat → Nat} (a m : Nat) (h : a < m) : ((List.range m).map fun x => if x = a then f a else 0).sum = f a := by
  induction m with
  | zero => omega
  | succ m ih =>
    rw [List.range_succ, List.map_append, List.sum_append]
    by_cases e : a = m
    · subst e
      have : ((List.range a).map fun x => if x = a then f a else 0).sum = 0 := by
        have hz : (List.range a).map (fun x => if x = a then f a else 0) = (List.range a).map fun _ => 0 := List.map_congr_left fun x hx => if_neg (by have := List.mem_range.mp hx; omega)
        rw [hz]
        clear h ih hz
        induction a with
        | zero => rfl
        | succ a ih => rw [List.range_succ, List.map_append, List.sum_append, ih]; rfl
      simp [this]
    · rw [ih (by omega)]
      have : ¬ m = a := fun z => e z.symm
      simp [this]
theorem sum_cl {f : Nat → Nat} (m : Nat) : ∀ cl : List Nat, cl.Nodup → (∀ a ∈ cl, a < m) → ((List.range m).map fun x => if x ∈ cl then f x else 0).sum = (cl.map f).sum
  | [], _, _ => by
    induction m with
    | zero => rfl
    | succ m ih => rw [List.range_succ, List.map_append, List.sum_append, ih (by simp)]; rfl
  | a :: cl, nd, h => by
    have ih := sum_cl (f := f) m cl (List.nodup_cons.mp nd).2 fun x hx => h x (List.mem_cons_of_mem _ hx)
    rw [List.map_cons, List.sum_cons, ← ih, ← sum_ite (f := f) a m (h a List.mem_cons_self)]
    generalize List.range m = l
    induction l with
    | nil => rfl
    | cons x l ih2 =>
      simp only [List.map_cons, List.sum_cons, ih2]
      by_cases e : x = a
      · subst e
        have := (List.nodup_cons.mp nd).1
        simp [this]
        omega
      · simp [e]
        omega
theorem rings_range (rings : List (List Nat)) : rings = (List.range rings.length).map (rg rings) := by
  apply List.ext_getElem (by simp)
  intro i h1 h2
  simp only [List.getElem_map, List.getElem_range]
  rw [rg_eq h1]
theorem cnt_of {g : List Int} {cl : List Nat} (nd : cl.Nodup) (hc : ∀ a ∈ cl, a < rings.length) (h : ∀ a, a < rings.length → ∀ o ∈ rg rings a, (1 ≤ gv g o ↔ a ∈ cl)) : cnt rings g = cntL rings cl := by
  unfold cnt cntL
  rw [← sum_cl (f := fun a => (rg rings a).length) rings.length cl nd hc, List.filter_flatten, List.length_flatten, List.map_map]
  conv => lhs; rw [rings_range rings]
  rw [List.map_map]
  congr 1
  refine List.map_congr_left fun a ha => ?_
  have ha' := List.mem_range.mp ha
  show ((rg rings a).filter fun o => decide (1 ≤ gv g o)).length = if a ∈ cl then (rg rings a).length else 0
  by_cases e : a ∈ cl
  · rw [if_pos e, List.filter_eq_self.mpr fun o ho => decide_eq_true ((h a ha' o ho).mpr e)]
  · rw [if_neg e, List.filter_eq_nil_iff.mpr fun o ho z => e ((h a ha' o ho).mp (of_decide_eq_true z))]
    rfl
theorem Cf.cnt_G (C : Cf n rings rest st many) {cl : List Nat} (nd : cl.Nodup) (hc : ∀ b ∈ cl, b < rings.length) : cnt rings (Gc rings rest st n many cl) = cntL rings cl := cnt_of nd hc fun a ha o ho => by
  rw [C.G_ring hc ha ho]
  have := C.st1 a ha
  split
  · rename_i e
    exact ⟨fun _ => e, fun _ => this.1⟩
  · rename_i e
    exact ⟨fun z => absurd z (by omega), fun z => absurd z e⟩
end
end Lw
namespace Lw
open PySem L2
theorem cyc {len : Nat} {P : Nat → Prop} (step : ∀ k, k < len → P ((k + 1) % len) → P k) {j0 : Nat} (hj : j0 < len) (h0 : P j0) : ∀ k, k < len → P k := by
  have aux : ∀ d, d ≤ len → P ((j0 + (len - d)) % len) := by
    intro d
    induction d with
    | zero => intro _; rw [Nat.sub_zero, Nat.add_mod_right, Nat.mod_eq_of_lt hj]; exact h0
    | succ d ih =>
      intro hd
      refine step _ (Nat.mod_lt _ (by omega)) ?_
      rw [Nat.mod_add_mod]
      have : j0 + (len - (d + 1)) + 1 = j0 + (len - d) := by omega
      rw [this]
      exact ih (by omega)
  intro k hk
  by_cases h : k ≤ j0
  · have := aux (j0 - k) (by omega)
    have e : j0 + (len - (j0 - k)) = k + len := by omega
    rw [e, Nat.add_mod_right, Nat.mod_eq_of_lt hk] at this
    exact this
  · have := aux (len - (k - j0)) (by omega)
    have e : j0 + (len - (len - (k - j0))) = k := by omega
    rw [e, Nat.mod_eq_of_lt hk] at this
    exact this
theorem sum_le9 : ∀ {u : List Int}, (∀ i, gv u i ≤ 9) → u.sum ≤ 9 * (u.length : Int)
  | [], _ => by simp
  | x :: u, h => by
    have h0 : x ≤ 9 := h 0
    have := sum_le9 (u := u) fun i => h (i + 1)
    simp only [List.sum_cons, List.length_cons]
    omega
section
variable {n : Nat} {rings : List (List Nat)} {rest : List Nat} {st : List Int} {many : Int} {free : Nat}
/-- cl0 lies there, cl are closed in all -/
structure Cl (rings : List (List Nat)) (free : Nat) (cl0 cl : List Nat) : Prop where
  nd0 : cl0.Nodup
  nd : cl.Nodup
  hc : ∀ b ∈ cl, b < rings.length
  hs : ∀ b ∈ cl0, b ∈ cl
  hf : free < rings.length → free ∈ cl
theorem Cl.hc0 {cl0 cl : List Nat} (L : Cl rings free cl0 cl) : ∀ b ∈ cl0, b < rings.length := fun b h => L.hc b (L.hs b h)
theorem G_len (cl : List Nat) : (Gc rings rest st n many cl).length = n := givenF_len _ _ _ _ _ _
theorem Cf.cntL_le (C : Cf n rings rest st many) {cl0 cl : List Nat} (nd0 : cl0.Nodup) (nd : cl.Nodup) (hc : ∀ b ∈ cl, b < rings.length) (hs : ∀ b ∈ cl0, b ∈ cl) : cntL rings cl0 ≤ cntL rings cl := by
  have hc0 : ∀ b ∈ cl0, b < rings.length := fun b h => hc b (hs b h)
  rw [← C.cnt_G nd0 hc0, ← C.cnt_G nd hc]
  refine filter_len_le _ fun o ho e => ?_
  obtain ⟨r, hr, hor⟩ := List.mem_flatten.mp ho
  obtain ⟨a, ha, e2⟩ := List.mem_iff_getElem.mp hr
  have hoa : o ∈ rg rings a := by rw [rg_eq ha, e2]; exact hor
  have e1 := of_decide_eq_true e
  rw [C.G_ring hc0 ha hoa] at e1
  refine decide_eq_true ?_
  rw [C.G_ring hc ha hoa]
  split at e1
  · rename_i h
    rw [if_pos (hs a h)]
    exact e1
  · omega
theorem Cf.rest_val (C : Cf n rings rest st many) {cl0 cl : List Nat} (L : Cl rings free cl0 cl) {o : Nat} (ho : o ∈ rest) : max (gv (Gc rings rest st n many cl0) o) (if many ≤ (cntL rings cl : Int) then 3 else 0) = gv (Gc rings rest st n many cl) o := by
  rw [C.G_rest L.hc0 ho, C.G_rest L.hc ho]
  have := C.cntL_le L.nd0 L.nd L.hc L.hs
  split <;> split <;> omega
theorem Cf.even (C : Cf n rings rest st many) {cl0 cl : List Nat} (L : Cl rings free cl0 cl) : due (bk rings rest st n many free) (Gc rings rest st n many cl0) (Gc rings rest st n many cl) = Gc rings rest st n many cl := by
  refine ext_gv (by rw [due_len, G_len, G_len]) fun i hi => ?_
  rw [due_len, G_len] at hi
  rw [gv_due (by rw [bk_len, G_len]) (by rw [G_len]; exact hi)]
  rcases C.cases hi with ⟨a, ha, hia⟩ | hr
  · obtain ⟨j, hj, rfl⟩ := pos_of hia
    have hp : 0 < (rg rings a).length := by omega
    have h1 := C.st1 a ha
    rw [C.ow_ring _ ha hj, C.G_ring L.hc0 ha hia, C.G_ring L.hc ha hia, C.G_ring L.hc ha (getD_mem (Nat.mod_lt _ hp))]
    by_cases e : a ∈ cl
    · rw [if_pos e]
      by_cases e0 : a ∈ cl0
      · rw [if_pos e0]
        split
        · omega
        · rw [if_pos (Int.le_refl _)]; omega
      · rw [if_neg e0]
        split
        · omega
        · rw [if_pos (Int.le_refl _)]; omega
    · have e0 : a ∉ cl0 := fun z => e (L.hs a z)
      have ef : ¬ (a = free ∧ j = 0) := fun z => e (by have := z.1; subst this; exact L.hf ha)
      rw [if_neg e, if_neg e0, if_neg ef, if_neg (by omega)]
      rfl
  · rw [C.ow_rest _ hr, C.cnt_G L.nd L.hc]
    exact C.rest_val L hr
theorem Cf.G_le (C : Cf n rings rest st many) {cl0 cl : List Nat} (L : Cl rings free cl0 cl) : Le (Gc rings rest st n many cl0) (Gc rings rest st n many cl) := by
  have := due_ge (b := bk rings rest st n many free) (f := Gc rings rest st n many cl0) (by rw [bk_len, G_len]) (Gc rings rest st n many cl)
  rw [C.even L] at this
  exact this
theorem Cf.G_bd (C : Cf n rings rest st many) {cl : List Nat} (hc : ∀ b ∈ cl, b < rings.length) (i : Nat) : 0 ≤ gv (Gc rings rest st n many cl) i ∧ gv (Gc rings rest st n many cl) i ≤ 9 := by
  by_cases hi : i < n
  · rcases C.cases hi with ⟨a, ha, hia⟩ | hr
    · have := C.st1 a ha
      rw [C.G_ring hc ha hia]
      split <;> omega
    · rw [C.G_rest hc hr]
      split <;> omega
  · rw [gv_out (by rw [G_len]; omega)]
    omega
/-- who agrees on the rings agrees -/
theorem Cf.agree (C : Cf n rings rest st many) {cl0 cl : List Nat} (L : Cl rings free cl0 cl) {p : List Int} (hl : p.length = n) (hr : ∀ a, a < rings.length → ∀ o ∈ rg rings a, gv p o = gv (Gc rings rest st n many cl) o)
    (he : ∀ o ∈ rest, gv p o = gv (due (bk rings rest st n many free) (Gc rings rest st n many cl0) p) o ∨ gv p o = gv (Gc rings rest st n many cl) o) : p = Gc rings rest st n many cl := by
  have hcnt : cnt rings p = cntL rings cl := cnt_of L.nd L.hc fun a ha o ho => by
    rw [hr a ha o ho, C.G_ring L.hc ha ho]
    have := C.st1 a ha
    split
    · rename_i e
      exact ⟨fun _ => e, fun _ => this.1⟩
    · rename_i e
      exact ⟨fun z => absurd z (by omega), fun z => absurd z e⟩
  refine ext_gv (by rw [hl, G_len]) fun i hi => ?_
  rcases C.cases (show i < n by omega) with ⟨a, ha, hia⟩ | hr'
  · exact hr a ha i hia
  · rcases he i hr' with e | e
    · rw [e, gv_due (by rw [bk_len, G_len]) (by rw [G_len]; exact C.ltR hr'), C.ow_rest _ hr', hcnt]
      exact C.rest_val L hr'
    · exact e
theorem Cf.rise (C : Cf n rings rest st many) {cl0 cl : List Nat} (L : Cl rings free cl0 cl) {g : List Int} (h1 : Le g (due (bk rings rest st n many free) (Gc rings rest st n many cl0) g)) (h2 : Le g (Gc rings rest st n many cl)) (h0 : ∀ i, 0 ≤ gv g i) :
    ∃ xs p, Rounds (bk rings rest st n many free) (Gc rings rest st n many cl0) g xs ∧ xs.length ≤ 10000 ∧ xs.getLast? = some p ∧ due (bk rings rest st n many free) (Gc rings rest st n many cl0) p = p ∧ Le g p ∧ Le p (Gc rings rest st n many cl) := by
  have hu : Le (due (bk rings rest st n many free) (Gc rings rest st n many cl0) (Gc rings rest st n many cl)) (Gc rings rest st n many cl) := by rw [C.even L]; exact .refl _
  obtain ⟨k, p, i1, i2, i3, i4, i5⟩ := it_up (due_mono (f := Gc rings rest st n many cl0) (by rw [bk_len, G_len])) hu 200 g (by
    have := sum_le9 fun i => (C.G_bd (cl := cl) L.hc i).2
    have := sum_nn h0
    have hn := C.hn
    rw [G_len] at *
    omega) h1 h2
  obtain ⟨xs, j1, j2, j3⟩ := i1.rounds
  exact ⟨xs, p, j1, by omega, j3, i2, i3, i4 _ hu h2⟩
/-- begun where somebody gives freely, a ring closes -/
theorem Cf.begun (C : Cf n rings rest st many) {f p : List Int} (hf : f.length = n) (hp : due (bk rings rest st n many free) f p = p) (h : free < rings.length) : ∀ o ∈ rg rings free, gv st free ≤ gv p o := by
  have hlp : 0 < (rg rings free).length := List.length_pos_iff.mpr (C.ne h)
  have val : ∀ k, k < (rg rings free).length → owedBy p (row (bk rings rest st n many free) ((rg rings free).getD k 0)) ≤ gv p ((rg rings free).getD k 0) := fun k hk => by
    conv => rhs; rw [← hp]
    rw [gv_due (by rw [bk_len, hf]) (by rw [hf]; exact C.lt h (getD_mem hk))]
    omega
  have all := cyc (len := (rg rings free).length) (P := fun k => gv st free ≤ gv p ((rg rings free).getD k 0)) (fun k hk hn => by
    have v := val k hk
    rw [C.ow_ring _ h hk] at v
    by_cases e : free = free ∧ k = 0
    · rw [if_pos e] at v; exact v
    · rw [if_neg e, if_pos hn] at v; exact v) (j0 := 0) hlp (by
    have v := val 0 hlp
    rw [C.ow_ring _ h hlp, if_pos ⟨rfl, rfl⟩] at v
    exact v)
  intro o ho
  obtain ⟨j, hj, rfl⟩ := pos_of ho
  exact all j hj
theorem Cf.leastR (C : Cf n rings rest st many) {cl0 cl : List Nat} (L : Cl rings free cl0 cl) (hx : ∀ a ∈ cl, a ∈ cl0 ∨ a = free) : LeastR (bk rings rest st n many free) (Gc rings rest st n many cl0) (Gc rings rest st n many cl) := by
  obtain ⟨xs, p, h1, h2, h3, h4, h5, h6⟩ := C.rise L (g := Gc rings rest st n many cl0) (due_ge (by rw [bk_len, G_len]) _) (C.G_le L) fun i => (C.G_bd L.hc0 i).1
  refine ⟨xs, h1, h2, ?_⟩
  rw [h3]
  congr 1
  refine C.agree L (by rw [← h5.len, G_len]) (fun a ha o ho => ?_) fun o ho => .inl (by rw [h4])
  have q1 := h5.le o
  have q2 := h6.le o
  rw [C.G_ring L.hc0 ha ho] at q1
  rw [C.G_ring L.hc ha ho] at q2 ⊢
  by_cases e : a ∈ cl
  · rw [if_pos e] at q2 ⊢
    rcases hx a e with e0 | e0
    · rw [if_pos e0] at q1; omega
    · subst e0
      have := C.begun (free := a) (by rw [G_len]) h4 ha o ho
      omega
  · rw [if_neg e] at q2 ⊢
    rw [if_neg fun z => e (L.hs a z)] at q1
    omega
theorem Cf.single (C : Cf n rings rest st many) : ∀ ps ∈ bk rings rest st n many free, ∀ p ∈ ps, (∃ a, a < rings.length ∧ ∃ t, p = [(gv st a, t)]) ∨ ∃ t, p = [(3, t)] := fun ps hps p hp => by
  obtain ⟨i, hi, e⟩ := List.mem_iff_getElem.mp hps
  have hrow : ps = row (bk rings rest st n many free) i := by
    unfold row
    rw [List.getD_eq_getElem?_getD, List.getElem?_eq_getElem hi]
    exact e.symm
  rw [bk_len] at hi
  rw [hrow] at hp
  rcases C.cases hi with ⟨a, ha, hia⟩ | hr
  · obtain ⟨j, hj, rfl⟩ := pos_of hia
    rw [C.row_ring ha hj] at hp
    left
    refine ⟨a, ha, ?_⟩
    rcases List.mem_append.mp hp with h | h
    · exact ⟨_, List.mem_singleton.mp h⟩
    · split at h
      · exact ⟨_, List.mem_singleton.mp h⟩
      · exact nomatch h
  · rw [C.row_rest hr] at hp
    split at hp
    · exact nomatch hp
    · exact .inr ⟨_, List.mem_singleton.mp hp⟩
theorem Cf.risesB (C : Cf n rings rest st many) : risesB (bk rings rest st n many free) := fun ps hps p hp r hr => by
  rcases C.single ps hps p hp with ⟨a, _, t, rfl⟩ | ⟨t, rfl⟩
  · rw [List.mem_singleton.mp hr]; exact Int.le_refl _
  · rw [List.mem_singleton.mp hr]; exact Int.le_refl _
theorem Cf.G_nil (C : Cf n rings rest st many) : Gc rings rest st n many [] = List.replicate n 0 := by
  refine ext_gv (by rw [G_len, List.length_replicate]) fun i hi => ?_
  rw [G_len] at hi
  rw [gv_rep]
  rcases C.cases hi with ⟨a, ha, hia⟩ | hr
  · rw [C.G_ring (cl := []) (fun _ h => (nomatch h)) ha hia]; simp
  · rw [C.G_rest (cl := []) (fun _ h => (nomatch h)) hr]
    have := C.hm
    rw [if_neg]
    simp only [cntL, List.map_nil, List.sum_nil]
    omega
theorem Cf.greatR (C : Cf n rings rest st many) : GreatR (bk rings rest st n many free) (List.replicate n 0) (Gc rings rest st n many (List.range rings.length)) := by
  have L : Cl rings free [] (List.range rings.length) := ⟨List.nodup_nil, List.nodup_range, fun b h => List.mem_range.mp h, (fun _ h => (nomatch h)), fun h => List.mem_range.mpr h⟩
  have hfl : (bk rings rest st n many free).length = (List.replicate n (0 : Int)).length := by rw [bk_len, List.length_replicate]
  have hev := C.even L
  rw [C.G_nil] at hev
  have bd : ∀ i, gv (roof (bk rings rest st n many free) (List.replicate n 0)) i ≤ 9 := fun i => by
    by_cases hi : i < n
    · rw [gv_roof hfl (by rw [List.length_replicate]; exact hi), gv_rep]
      have : maxI 0 ((row (bk rings rest st n many free) i).map lastStep) ≤ 9 := by
        refine maxI_le (by decide) fun x hx => ?_
        obtain ⟨p, hp, rfl⟩ := List.mem_map.mp hx
        rcases C.single _ (row_mem (by rw [bk_len]; exact hi)) p hp with ⟨a, ha, t, rfl⟩ | ⟨t, rfl⟩
        · exact (C.st1 a ha).2
        · show (3 : Int) ≤ 9; decide
      omega
    · rw [gv_out (by rw [roof_len, List.length_replicate]; omega)]
      decide
  obtain ⟨k, p, i1, i2, i3, i4, i5⟩ := it_down (due_mono hfl) (due_nn hfl) 200 (roof (bk rings rest st n many free) (List.replicate n 0)) (by
    have := sum_le9 bd
    have hn := C.hn
    rw [roof_len, List.length_replicate] at this
    omega) (due_roof hfl C.risesB)
  obtain ⟨xs, j1, j2, j3⟩ := i1.rounds
  refine ⟨xs, j1, by omega, ?_⟩
  rw [j3]
  congr 1
  have hq : Le (Gc rings rest st n many (List.range rings.length)) p := i4 _ (by rw [hev]; exact .refl _) (by
    have := due_roof (g := Gc rings rest st n many (List.range rings.length)) hfl C.risesB
    rw [hev] at this
    exact this)
  refine C.agree L (by rw [← hq.len, G_len]) (fun a ha o ho => ?_) fun o ho => .inl (by rw [C.G_nil, i2])
  have q1 := hq.le o
  have h1 := C.st1 a ha
  rw [C.G_ring L.hc ha ho, if_pos (List.mem_range.mpr ha)] at q1 ⊢
  obtain ⟨j, hj, rfl⟩ := pos_of ho
  have e : gv p ((rg rings a).getD j 0) = gv (due (bk rings rest st n many free) (List.replicate n 0) p) ((rg rings a).getD j 0) := by rw [i2]
  rw [gv_due hfl (by rw [List.length_replicate]; exact C.lt ha ho), gv_rep, C.ow_ring _ ha hj] at e
  split at e
  · omega
  · split at e <;> omega

/-! ### what a crowd holds -/
structure HeldP (rings : List (List Nat)) (rest : List Nat) (st : List Int) (n : Nat) (many : Int) (free : Nat) (cl0 cl c : List Nat) (p : List Int) : Prop where
  held : HeldR (bk rings rest st n many free) (Gc rings rest st n many cl0) (Gc rings rest st n many cl) c p
  len : p.length = n
  fix : onlyFor c (due (bk rings rest st n many free) (Gc rings rest st n many cl0) p) (Gc rings rest st n many cl) = p
  top : ∀ q, q.length = n → Le q (onlyFor c (due (bk rings rest st n many free) (Gc rings rest st n many cl0) q) (Gc rings rest st n many cl)) → Le q p
theorem Cf.heldP (C : Cf n rings rest st many) {cl0 cl : List Nat} (L : Cl rings free cl0 cl) (c : List Nat) : ∃ p, HeldP rings rest st n many free cl0 cl c p := by
  have hfl : (bk rings rest st n many free).length = (Gc rings rest st n many cl0).length := by rw [bk_len, G_len]
  have mono : ∀ a b, Le a b → Le (onlyFor c (due (bk rings rest st n many free) (Gc rings rest st n many cl0) a) (Gc rings rest st n many cl)) (onlyFor c (due (bk rings rest st n many free) (Gc rings rest st n many cl0) b) (Gc rings rest st n many cl)) := fun a b h => only_mono (due_mono hfl a b h)
  have up : ∀ q, Le (onlyFor c (due (bk rings rest st n many free) (Gc rings rest st n many cl0) q) (Gc rings rest st n many cl)) (onlyFor c (roof (bk rings rest st n many free) (Gc rings rest st n many cl0)) (Gc rings rest st n many cl)) := fun q => only_mono (due_roof hfl C.risesB)
  obtain ⟨k, p, i1, i2, i3, i4, _⟩ := it_down mono (fun a i => by
    by_cases hi : i < n
    · rw [gv_only (by rw [due_len, G_len]; exact hi)]
      split
      · exact due_nn hfl _ _
      · exact (C.G_bd L.hc i).1
    · rw [gv_out (by rw [onlyFor_len, due_len, G_len]; omega)]
      exact Int.le_refl _) _ (onlyFor c (roof (bk rings rest st n many free) (Gc rings rest st n many cl0)) (Gc rings rest st n many cl)) (Nat.le_refl _) (up _)
  exact ⟨p, ⟨k, i1.held⟩, by rw [i3.len, onlyFor_len, roof_len, G_len], i2, fun q _ hq => i4 q hq (hq.trans (up q))⟩
section
variable {cl0 cl c : List Nat} {p : List Int}
theorem HeldP.val (H : HeldP rings rest st n many free cl0 cl c p) {i : Nat} (hi : i < n) : gv p i = if i ∈ c then max (gv (Gc rings rest st n many cl0) i) (owedBy p (row (bk rings rest st n many free) i)) else gv (Gc rings rest st n many cl) i := by
  conv => lhs; rw [← H.fix]
  rw [gv_only (by rw [due_len, G_len]; exact hi)]
  split
  · rw [gv_due (by rw [bk_len, G_len]) (by rw [G_len]; exact hi)]
  · rfl
theorem Cf.held_base (C : Cf n rings rest st many) (L : Cl rings free cl0 cl) (H : HeldP rings rest st n many free cl0 cl c p) : Le (Gc rings rest st n many cl) p := H.top _ (G_len _) (by
  rw [C.even L]
  have : onlyFor c (Gc rings rest st n many cl) (Gc rings rest st n many cl) = Gc rings rest st n many cl := ext_gv (by rw [onlyFor_len]) fun i hi => by
    rw [onlyFor_len] at hi
    rw [gv_only hi]
    split <;> rfl
  rw [this]
  exact .refl _)
/-- one more ring -/
abbrev Qc (rings : List (List Nat)) (rest : List Nat) (st : List Int) (n : Nat) (many : Int) (cl : List Nat) (a : Nat) : List Int := onlyFor (rg rings a) (Gc rings rest st n many (cl ++ [a])) (Gc rings rest st n many cl)
theorem Q_len (a : Nat) : (Qc rings rest st n many cl a).length = n := by rw [onlyFor_len, G_len]
theorem Cl.snoc (L : Cl rings free cl0 cl) {a : Nat} (ha : a < rings.length) (h : a ∉ cl) : Cl rings free cl0 (cl ++ [a]) := ⟨L.nd0, by
    rw [List.nodup_append]
    refine ⟨L.nd, by simp, fun x hx y hy e => ?_⟩
    rw [List.mem_singleton.mp hy] at e
    exact h (e ▸ hx), fun b hb => by
    rcases List.mem_append.mp hb with q | q
    · exact L.hc b q
    · rw [List.mem_singleton.mp q]; exact ha, fun b hb => List.mem_append_left _ (L.hs b hb), fun hf => List.mem_append_left _ (L.hf hf)⟩
theorem Cf.gv_Q (C : Cf n rings rest st many) (L : Cl rings free cl0 cl) {a : Nat} (ha : a < rings.length) (h : a ∉ cl) {i : Nat} (hi : i < n) : gv (Qc rings rest st n many cl a) i = if i ∈ rg rings a then gv st a else gv (Gc rings rest st n many cl) i := by
  rw [gv_only (by rw [G_len]; exact hi)]
  split
  · rename_i e
    rw [C.G_ring (L.snoc ha h).hc ha e, if_pos (List.mem_append_right _ List.mem_cons_self)]
  · rfl
theorem Cf.Q_base (C : Cf n rings rest st many) (L : Cl rings free cl0 cl) {a : Nat} (ha : a < rings.length) (h : a ∉ cl) : Le (Gc rings rest st n many cl) (Qc rings rest st n many cl a) := ⟨by rw [G_len, Q_len], fun i => by
  by_cases hi : i < n
  · rw [C.gv_Q L ha h hi]
    split
    · rename_i e
      rw [C.G_ring L.hc ha e, if_neg h]
      have := C.st1 a ha
      omega
    · exact Int.le_refl _
  · rw [gv_out (a := Gc rings rest st n many cl) (by rw [G_len]; omega), gv_out (by rw [Q_len]; omega)]
    exact Int.le_refl _⟩
theorem Cl.nfree (L : Cl rings free cl0 cl) {a : Nat} (ha : a < rings.length) (h : a ∉ cl) : a ≠ free := fun z => h (by subst z; exact L.hf ha)
theorem Cf.Q_due (C : Cf n rings rest st many) (L : Cl rings free cl0 cl) {a : Nat} (ha : a < rings.length) (h : a ∉ cl) : Le (Qc rings rest st n many cl a) (due (bk rings rest st n many free) (Gc rings rest st n many cl0) (Qc rings rest st n many cl a)) := ⟨by rw [Q_len, due_len, G_len], fun i => by
  by_cases hi : i < n
  · rw [C.gv_Q L ha h hi]
    split
    · rename_i e
      obtain ⟨j, hj, rfl⟩ := pos_of e
      have hlp : 0 < (rg rings a).length := by omega
      have hm := getD_mem (a := 0) (Nat.mod_lt (j + 1) hlp)
      rw [gv_due (by rw [bk_len, G_len]) (by rw [G_len]; exact hi), C.ow_ring _ ha hj, if_neg (fun z => L.nfree ha h z.1), C.gv_Q L ha h (C.lt ha hm), if_pos hm, if_pos (Int.le_refl _)]
      omega
    · have := (due_mono (b := bk rings rest st n many free) (f := Gc rings rest st n many cl0) (by rw [bk_len, G_len]) _ _ (C.Q_base L ha h)).le i
      rw [C.even L] at this
      exact this
  · rw [gv_out (by rw [Q_len]; omega), gv_out (by rw [due_len, G_len]; omega)]
    exact Int.le_refl _⟩
theorem Cf.held_ge (C : Cf n rings rest st many) (L : Cl rings free cl0 cl) (H : HeldP rings rest st n many free cl0 cl c p) {a : Nat} (ha : a < rings.length) (h : a ∉ cl) (hc : ∀ o ∈ rg rings a, o ∈ c) : Le (Qc rings rest st n many cl a) p := H.top _ (Q_len _) ⟨by rw [Q_len, onlyFor_len, due_len, G_len], fun i => by
  by_cases hi : i < n
  · rw [gv_only (c := c) (by rw [due_len, G_len]; exact hi)]
    split
    · exact (C.Q_due L ha h).le i
    · rename_i e
      rw [C.gv_Q L ha h hi, if_neg fun z => e (hc i z)]
      exact Int.le_refl _
  · rw [gv_out (by rw [Q_len]; omega), gv_out (by rw [onlyFor_len, due_len, G_len]; omega)]
    exact Int.le_refl _⟩
/-- folk of a ring give at most its step -/
theorem Cf.held_le (C : Cf n rings rest st many) (L : Cl rings free cl0 cl) (H : HeldP rings rest st n many free cl0 cl c p) {a o : Nat} (ha : a < rings.length) (ho : o ∈ rg rings a) : gv p o ≤ gv st a := by
  have h1 := C.st1 a ha
  obtain ⟨j, hj, rfl⟩ := pos_of ho
  rw [H.val (C.lt ha ho), C.ow_ring _ ha hj, C.G_ring L.hc ha ho, C.G_ring L.hc0 ha ho]
  split
  · split <;> split <;> first | omega | (split <;> omega)
  · split <;> omega
theorem Cf.held_ring (C : Cf n rings rest st many) (L : Cl rings free cl0 cl) (H : HeldP rings rest st n many free cl0 cl c p) {a : Nat} (ha : a < rings.length) (h : a ∉ cl) (hc : ∀ o ∈ rg rings a, o ∈ c) : ∀ o ∈ rg rings a, gv p o = gv st a := fun o ho => by
  have h1 := (C.held_ge L H ha h hc).le o
  rw [C.gv_Q L ha h (C.lt ha ho), if_pos ho] at h1
  have := C.held_le L H ha ho
  omega
theorem Cf.held_more (C : Cf n rings rest st many) (L : Cl rings free cl0 cl) (H : HeldP rings rest st n many free cl0 cl c p) {a : Nat} (ha : a < rings.length) (h : a ∉ cl) (hc : ∀ o ∈ rg rings a, o ∈ c) : p ≠ Gc rings rest st n many cl := fun e => by
  have hm := getD_mem (a := 0) (List.length_pos_iff.mpr (C.ne ha))
  have h1 := C.held_ring L H ha h hc _ hm
  have h2 := C.st1 a ha
  rw [e, C.G_ring L.hc ha hm, if_neg h] at h1
  omega
theorem Cf.held_none (C : Cf n rings rest st many) (L : Cl rings free cl0 cl) (H : HeldP rings rest st n many free cl0 cl c p) (hn : ∀ a, a < rings.length → a ∉ cl → ∃ o ∈ rg rings a, o ∉ c) : p = Gc rings rest st n many cl := by
  refine C.agree L H.len (fun a ha o ho => ?_) fun o ho => ?_
  · have q1 := (C.held_base L H).le o
    rw [C.G_ring L.hc ha ho] at q1 ⊢
    by_cases e : a ∈ cl
    · rw [if_pos e] at q1 ⊢
      have := C.held_le L H ha ho
      omega
    · rw [if_neg e]
      obtain ⟨o0, h0, h0c⟩ := hn a ha e
      obtain ⟨j0, hj0, rfl⟩ := pos_of h0
      obtain ⟨j, hj, rfl⟩ := pos_of ho
      have h1 := C.st1 a ha
      refine cyc (len := (rg rings a).length) (P := fun k => gv p ((rg rings a).getD k 0) = 0) (fun k hk hz => ?_) hj0 ?_ j hj
      · have hm := getD_mem (a := 0) hk
        rw [H.val (C.lt ha hm), C.G_ring L.hc ha hm, if_neg e]
        split
        · rw [C.G_ring L.hc0 ha hm, if_neg fun z => e (L.hs a z), C.ow_ring _ ha hk, if_neg fun z => L.nfree ha e z.1, hz, if_neg (by omega)]
          rfl
        · rfl
      · rw [H.val (C.lt ha h0), if_neg h0c, C.G_ring L.hc ha h0, if_neg e]
  · by_cases e : o ∈ c
    · left
      conv => lhs; rw [← H.fix]
      rw [gv_only (by rw [due_len, G_len]; exact C.ltR ho), if_pos e]
    · right
      rw [H.val (C.ltR ho), if_neg e]
theorem Cf.held_exact (C : Cf n rings rest st many) (L : Cl rings free cl0 cl) (H : HeldP rings rest st n many free cl0 cl c p) {a : Nat} (ha : a < rings.length) (h : a ∉ cl) (hc : ∀ o, o ∈ c ↔ o ∈ rg rings a) : p = Qc rings rest st n many cl a := by
  refine ext_gv (by rw [H.len, Q_len]) fun i hi => ?_
  rw [H.len] at hi
  rw [C.gv_Q L ha h hi]
  split
  · rename_i e
    exact C.held_ring L H ha h (fun o ho => (hc o).mpr ho) i e
  · rename_i e
    rw [H.val hi, if_neg fun z => e ((hc i).mp z)]
end
/-- behind a climbed ring -/
theorem Cf.climbed (C : Cf n rings rest st many) {cl : List Nat} (L : Cl rings free cl cl) {a : Nat} (ha : a < rings.length) (h : a ∉ cl) : ∃ xs, Rounds (bk rings rest st n many free) (Gc rings rest st n many cl) (Qc rings rest st n many cl a) xs ∧ xs.length ≤ 10000 ∧ xs.getLast? = some (Gc rings rest st n many (cl ++ [a])) := by
  have L2 := L.snoc ha h
  have ring_eq : ∀ b, b < rings.length → ∀ o ∈ rg rings b, gv (Qc rings rest st n many cl a) o = gv (Gc rings rest st n many (cl ++ [a])) o := fun b hb o ho => by
    rw [C.gv_Q L ha h (C.lt hb ho), C.G_ring L2.hc hb ho, C.G_ring L.hc hb ho]
    by_cases e : a = b
    · subst e
      rw [if_pos ho, if_pos (List.mem_append_right _ List.mem_cons_self)]
    · rw [if_neg fun z => e (C.apart ha hb z ho)]
      have : b ∈ cl ++ [a] ↔ b ∈ cl := by
        rw [List.mem_append, List.mem_singleton]
        exact ⟨fun z => z.elim id fun q => absurd q.symm e, .inl⟩
      by_cases q : b ∈ cl
      · rw [if_pos q, if_pos (this.mpr q)]
      · rw [if_neg q, if_neg fun z => q (this.mp z)]
  have hle : Le (Qc rings rest st n many cl a) (Gc rings rest st n many (cl ++ [a])) := ⟨by rw [Q_len, G_len], fun i => by
    by_cases hi : i < n
    · rcases C.cases hi with ⟨b, hb, hib⟩ | hr
      · rw [ring_eq b hb i hib]; exact Int.le_refl _
      · rw [C.gv_Q L ha h hi, if_neg fun z => C.off ha z hr]
        exact (C.G_le (free := free) (cl0 := cl) (cl := cl ++ [a]) ⟨L.nd, L2.nd, L2.hc, fun b hb => List.mem_append_left _ hb, L2.hf⟩).le i
    · rw [gv_out (by rw [Q_len]; omega), gv_out (a := Gc rings rest st n many (cl ++ [a])) (by rw [G_len]; omega)]
      exact Int.le_refl _⟩
  obtain ⟨xs, p, h1, h2, h3, h4, h5, h6⟩ := C.rise L2 (C.Q_due L ha h) hle fun i => Int.le_trans (C.G_bd L.hc i).1 ((C.Q_base L ha h).le i)
  refine ⟨xs, h1, h2, ?_⟩
  rw [h3]
  congr 1
  refine C.agree L2 (by rw [← h5.len, Q_len]) (fun b hb o ho => ?_) fun o ho => .inl (by rw [h4])
  have q1 := h5.le o
  have q2 := h6.le o
  rw [ring_eq b hb o ho] at q1
  omega
end
end Lw
namespace Lw
open PySem L2
/-! ## plain: crowds in order, knots -/
theorem leC_eq (a b : List Nat) : leC a b = decide (iN a ≤ iN b) := congrFun (congrFun (PySem.W.dataLe_rows iN) a) b
theorem leC_total (a b : List Nat) : (leC a b || leC b a) = true := by
  rw [leC_eq, leC_eq]
  rcases List.le_total (iN a) (iN b) with h | h <;> simp [h]
theorem leC_trans (a b c : List Nat) (h : leC a b = true) (k : leC b c = true) : leC a c = true := by
  rw [leC_eq] at *
  exact decide_eq_true (List.le_trans (of_decide_eq_true h) (of_decide_eq_true k))
theorem iN_inj {a b : List Nat} (h : iN a = iN b) : a = b := List.map_inj_right (fun x y e => by omega) |>.mp h
theorem leC_anti {a b : List Nat} (h : leC a b = true) (k : leC b a = true) : a = b := by
  rw [leC_eq] at *
  exact iN_inj (List.le_antisymm (of_decide_eq_true h) (of_decide_eq_true k))
theorem leC_refl (a : List Nat) : leC a a = true := by have := leC_total a a; simpa using this
theorem eqv_eC (a b : List Nat) : PyData.eqv (eC a) (eC b) = decide (a = b) := by
  rw [eC, eC, eN, eN, eqv_ints]
  exact decide_eq_decide.mpr ⟨iN_inj, fun h => by rw [h]⟩
theorem leLC_eq (a b : List Nat) : leLC a b = if a.length = b.length then leC a b else decide (a.length < b.length) := by
  show (!PySem.W.dataLt (eLC b) (eLC a)) = _
  unfold eLC
  rw [PySem.W.dataLt_pair (alike_int _ _) (alike_eC _ _), eqv_int, PySem.W.dataLt_int]
  by_cases h : a.length = b.length
  · rw [if_pos (decide_eq_true (by omega)), if_pos h, eqv_eC]
    by_cases e : b = a
    · subst e
      rw [if_pos (by simp), leC_refl]
      rfl
    · rw [if_neg (by simpa using e)]
      rfl
  · rw [if_neg (by simp; omega), if_neg h]
    by_cases q : a.length < b.length
    · have : ¬ (b.length : Int) < (a.length : Int) := by omega
      simp [q, this]
    · have : (b.length : Int) < (a.length : Int) := by omega
      simp [q, this]
theorem leLC_len {a b : List Nat} (h : leLC a b = true) : a.length ≤ b.length := by
  rw [leLC_eq] at h
  split at h
  · omega
  · have := of_decide_eq_true h
    omega
theorem leLC_total (a b : List Nat) : (leLC a b || leLC b a) = true := by
  rw [leLC_eq, leLC_eq]
  by_cases h : a.length = b.length
  · rw [if_pos h, if_pos h.symm]; exact leC_total a b
  · rw [if_neg h, if_neg fun z => h z.symm]
    rcases Nat.lt_or_gt_of_ne h with q | q <;> simp [q]
theorem leLC_trans (a b c : List Nat) (h : leLC a b = true) (k : leLC b c = true) : leLC a c = true := by
  have h1 := leLC_len h
  have k1 := leLC_len k
  rw [leLC_eq] at *
  by_cases e : a.length = c.length
  · rw [if_pos e]
    rw [if_pos (by omega)] at h k
    exact leC_trans a b c h k
  · rw [if_neg e]
    exact decide_eq_true (by omega)
theorem crowds_mem (n : Nat) : ∀ c, c ∈ crowds0 n ↔ c.Pairwise (· < ·) ∧ ∀ o ∈ c, o < n := by
  induction n with
  | zero =>
    intro c
    show c ∈ [[]] ↔ _
    rw [List.mem_singleton]
    constructor
    · rintro rfl; exact ⟨.nil, fun _ h => nomatch h⟩
    · rintro ⟨_, h⟩
      cases c with
      | nil => rfl
      | cons o _ => exact absurd (h o List.mem_cons_self) (by omega)
  | succ n ih =>
    intro c
    rw [crowds0_succ, crowdStep, List.mem_append, ih]
    constructor
    · rintro (⟨h1, h2⟩ | h)
      · exact ⟨h1, fun o ho => Nat.lt_succ_of_lt (h2 o ho)⟩
      · obtain ⟨c', hc', rfl⟩ := List.mem_map.mp h
        obtain ⟨h1, h2⟩ := (ih c').mp hc'
        refine ⟨List.pairwise_append.mpr ⟨h1, List.pairwise_singleton _ _, fun x hx y hy => ?_⟩, fun o ho => ?_⟩
        · rw [List.mem_singleton.mp hy]; exact h2 x hx
        · rcases List.mem_append.mp ho with q | q
          · exact Nat.lt_succ_of_lt (h2 o q)
          · rw [List.mem_singleton.mp q]; exact Nat.lt_succ_self n
    · rintro ⟨h1, h2⟩
      by_cases hn : n ∈ c
      · right
        have hne : c ≠ [] := by rintro rfl; exact nomatch hn
        have e : c = c.dropLast ++ [c.getLast hne] := (List.dropLast_concat_getLast hne).symm
        rw [e] at h1
        obtain ⟨p1, _, p3⟩ := List.pairwise_append.mp h1
        have hlast : c.getLast hne = n := by
          rw [e] at hn
          rcases List.mem_append.mp hn with q | q
          · have := p3 n q _ List.mem_cons_self
            have := h2 _ (List.getLast_mem hne)
            omega
          · exact (List.mem_singleton.mp q).symm
        refine List.mem_map.mpr ⟨c.dropLast, (ih _).mpr ⟨p1, fun o ho => ?_⟩, ?_⟩
        · have := p3 o ho _ List.mem_cons_self
          omega
        · rw [hlast] at e; exact e.symm
      · left
        refine ⟨h1, fun o ho => ?_⟩
        have := h2 o ho
        have : o ≠ n := fun z => hn (z ▸ ho)
        omega
theorem crowds_nd (n : Nat) : (crowds0 n).Nodup := by
  induction n with
  | zero => show [[]].Nodup; simp
  | succ n ih =>
    rw [crowds0_succ, crowdStep, List.nodup_append]
    refine ⟨ih, ?_, fun a ha b hb e => ?_⟩
    · rw [List.nodup_iff_pairwise_ne, List.pairwise_map]
      exact (List.nodup_iff_pairwise_ne.mp ih).imp fun h z => h (List.append_cancel_right z)
    · obtain ⟨c, hc, rfl⟩ := List.mem_map.mp hb
      have := ((crowds_mem n a).mp ha).2 n (by rw [e]; exact List.mem_append_right _ List.mem_cons_self)
      omega
theorem crowdsOf_mem {n : Nat} {c : List Nat} : c ∈ crowdsOf n ↔ c.Pairwise (· < ·) ∧ ∀ o ∈ c, o < n := by
  unfold crowdsOf
  rw [List.mem_mergeSort, crowds_mem]
theorem crowdsOf_nd (n : Nat) : (crowdsOf n).Nodup := (List.mergeSort_perm _ _).nodup_iff.mpr (crowds_nd n)
theorem crowdsOf_so (n : Nat) : (crowdsOf n).Pairwise fun a b => a.length ≤ b.length := (List.pairwise_mergeSort leLC_trans leLC_total _).imp fun h => leLC_len h
theorem rising_sub : ∀ {c k : List Nat}, c.Pairwise (· < ·) → k.Pairwise (· < ·) → (∀ o ∈ k, o ∈ c) → k.Sublist c
  | [], [], _, _, _ => .slnil
  | [], y :: k, _, _, h => nomatch h y List.mem_cons_self
  | x :: c, [], _, _, _ => List.nil_sublist _
  | x :: c, y :: k, hc, hk, h => by
    obtain ⟨c1, c2⟩ := List.pairwise_cons.mp hc
    obtain ⟨k1, k2⟩ := List.pairwise_cons.mp hk
    by_cases e : y = x
    · subst e
      refine .cons_cons _ (rising_sub c2 k2 fun o ho => ?_)
      rcases List.mem_cons.mp (h o (List.mem_cons_of_mem _ ho)) with q | q
      · have := k1 o ho; omega
      · exact q
    · have hy : y ∈ c := by
        rcases List.mem_cons.mp (h y List.mem_cons_self) with q | q
        · exact absurd q e
        · exact q
      have := c1 y hy
      refine .cons _ (rising_sub c2 hk fun o ho => ?_)
      rcases List.mem_cons.mp (h o ho) with q | q
      · rcases List.mem_cons.mp ho with z | z
        · omega
        · have := k1 o z; omega
      · exact q
theorem rising_eq {c k : List Nat} (hc : c.Pairwise (· < ·)) (hk : k.Pairwise (· < ·)) (h : ∀ o, o ∈ k ↔ o ∈ c) : k = c :=
  (rising_sub hc hk fun o ho => (h o).mp ho).eq_of_length_le (rising_sub hk hc fun o ho => (h o).mpr ho).length_le
theorem leN_eq (a b : Nat) : leN a b = decide (a ≤ b) := by
  have := congrFun (congrFun (PySem.W.dataLe_int fun o : Nat => (o : Int)) a) b
  show PySem.W.dataLe false (fun o : Nat => PyData.int (o : Int)) a b = _
  rw [this]
  exact decide_eq_decide.mpr (by omega)
def srt (rings : List (List Nat)) (a : Nat) : List Nat := (rg rings a).mergeSort leN
theorem sort_rising {l : List Nat} (nd : l.Nodup) : (l.mergeSort leN).Pairwise (· < ·) := by
  have h1 := List.pairwise_mergeSort (le := leN) (fun a b c h k => by rw [leN_eq] at *; have := of_decide_eq_true h; have := of_decide_eq_true k; exact decide_eq_true (by omega)) (fun a b => by rw [leN_eq, leN_eq]; rcases Nat.le_total a b with h | h <;> simp [h]) l
  have h2 := List.nodup_iff_pairwise_ne.mp ((List.mergeSort_perm l leN).nodup_iff.mpr nd)
  refine (List.pairwise_and_iff.mpr ⟨h1, h2⟩).imp fun {a b} h => ?_
  have := h.1
  rw [leN_eq] at this
  have := of_decide_eq_true this
  have := h.2
  omega
theorem srt_mem {rings : List (List Nat)} {a o : Nat} : o ∈ srt rings a ↔ o ∈ rg rings a := List.mem_mergeSort
section
variable {n : Nat} {rings : List (List Nat)} {rest : List Nat} {st : List Int} {many : Int} {free : Nat}
theorem Cf.srt_rising (C : Cf n rings rest st many) {a : Nat} (ha : a < rings.length) : (srt rings a).Pairwise (· < ·) := sort_rising (C.ndr ha)
theorem Cf.srt_crowd (C : Cf n rings rest st many) {a : Nat} (ha : a < rings.length) : srt rings a ∈ crowdsOf n := crowdsOf_mem.mpr ⟨C.srt_rising ha, fun o ho => C.lt ha (srt_mem.mp ho)⟩
theorem Cf.srt_inj (C : Cf n rings rest st many) {a b : Nat} (ha : a < rings.length) (hb : b < rings.length) (h : ∀ o ∈ srt rings a, o ∈ srt rings b) : a = b := by
  have hm := getD_mem (a := 0) (List.length_pos_iff.mpr (C.ne ha))
  exact C.apart ha hb hm (srt_mem.mp (h _ (srt_mem.mpr hm)))
theorem hit_iff {c k : List Nat} : hitBy c k = true ↔ ∀ o ∈ k, o ∈ c := by
  unfold hitBy
  rw [List.all_eq_true]
  exact ⟨fun h o ho => of_decide_eq_true (h o ho), fun h o ho => decide_eq_true (h o ho)⟩
theorem Cf.knots (C : Cf n rings rest st many) {cl0 cl : List Nat} (L : Cl rings free cl0 cl) (hx : ∀ a ∈ cl, a ∈ cl0 ∨ a = free) {Ls : List (List Nat)} (hL : ∀ c, c ∈ Ls ↔ ∃ a, a < rings.length ∧ a ∉ cl ∧ c = srt rings a) (nd : Ls.Nodup) (so : Ls.Pairwise fun a b => leC a b = true) :
    KnotsR (bk rings rest st n many free) (Gc rings rest st n many cl0) Ls := by
  have hH := fun c => (C.heldP L c).choose_spec
  refine ⟨Gc rings rest st n many cl, fun c => (C.heldP L c).choose, C.leastR L hx, by rw [G_len, G_len], fun c _ => (hH c).held, ?_⟩
  rw [G_len]
  generalize hhv : (fun c => (C.heldP L c).choose) = hv
  have hH : ∀ c, HeldP rings rest st n many free cl0 cl c (hv c) := by rw [← hhv]; exact hH
  have hcn := crowdsOf_nd n
  have hcs := List.pairwise_iff_getElem.mp (crowdsOf_so n)
  have claim : ∀ k, k ≤ (crowdsOf n).length → knots0 hv (Gc rings rest st n many cl) ((crowdsOf n).take k) = ((crowdsOf n).take k).filter fun c => decide (c ∈ Ls) := by
    intro k
    induction k with
    | zero => intro _; rw [List.take_zero]; rfl
    | succ k ih =>
      intro hk
      have hkl : k < (crowdsOf n).length := hk
      have hc : (crowdsOf n)[k]? = some (crowdsOf n)[k] := List.getElem?_eq_getElem hkl
      rw [List.take_add_one, hc, Option.toList_some, knots0_snoc, List.filter_append, ih (by omega)]
      generalize hcc : (crowdsOf n)[k] = c at *
      have hcm : c ∈ crowdsOf n := List.mem_of_getElem? hc
      obtain ⟨c1, c2⟩ := crowdsOf_mem.mp hcm
      have hpre : c ∉ (crowdsOf n).take k := fun z => by
        obtain ⟨j, hj, e⟩ := List.mem_iff_getElem.mp z
        rw [List.length_take] at hj
        rw [List.getElem_take] at e
        have := nodup_idx hcn (List.getElem?_eq_getElem (by omega : j < (crowdsOf n).length)) (by rw [hc, e])
        omega
      by_cases hin : c ∈ Ls
      · obtain ⟨a, ha, hacl, rfl⟩ := (hL c).mp hin
        have hb : hv (srt rings a) ≠ Gc rings rest st n many cl := C.held_more L (hH _) ha hacl fun o ho => srt_mem.mpr ho
        have hnh : (((crowdsOf n).take k).filter fun c => decide (c ∈ Ls)).any (hitBy (srt rings a)) = false := by
          rw [List.any_eq_false]
          intro kn hkn hh
          obtain ⟨m1, m2⟩ := List.mem_filter.mp hkn
          obtain ⟨b, hb', _, rfl⟩ := (hL kn).mp (of_decide_eq_true m2)
          have := C.srt_inj hb' ha (hit_iff.mp hh)
          subst this
          exact hpre m1
        rw [knotStep, hnh, if_neg Bool.false_ne_true, if_neg hb]
        simp [hin]
      · have hfil : [c].filter (fun c => decide (c ∈ Ls)) = [] := by simp [hin]
        rw [hfil, List.append_nil]
        by_cases hbad : ∃ a, a < rings.length ∧ a ∉ cl ∧ ∀ o ∈ rg rings a, o ∈ c
        · obtain ⟨a, ha, hacl, hsub⟩ := hbad
          have hkL : srt rings a ∈ Ls := (hL _).mpr ⟨a, ha, hacl, rfl⟩
          have hne : srt rings a ≠ c := fun z => hin (z ▸ hkL)
          have hsl := rising_sub c1 (C.srt_rising ha) fun o ho => hsub o (srt_mem.mp ho)
          have hlt : (srt rings a).length < c.length := by
            rcases Nat.lt_or_eq_of_le hsl.length_le with q | q
            · exact q
            · exact absurd (hsl.eq_of_length q) hne
          obtain ⟨j, hj, e⟩ := List.mem_iff_getElem.mp (C.srt_crowd ha)
          have hjk : j < k := by
            rcases Nat.lt_trichotomy j k with q | q | q
            · exact q
            · subst q
              have : (crowdsOf n)[j] = c := by rw [List.getElem?_eq_getElem hj] at hc; exact Option.some.inj hc
              exact absurd (e.symm.trans this) hne
            · have := hcs k j hkl hj q
              have e2 : (crowdsOf n)[k] = c := by rw [List.getElem?_eq_getElem hkl] at hc; exact Option.some.inj hc
              rw [e, e2] at this
              omega
          have hmem : srt rings a ∈ (crowdsOf n).take k := by
            rw [List.mem_iff_getElem]
            exact ⟨j, by rw [List.length_take]; omega, by rw [List.getElem_take]; exact e⟩
          have hany : (((crowdsOf n).take k).filter fun c => decide (c ∈ Ls)).any (hitBy c) = true :=
            List.any_eq_true.mpr ⟨srt rings a, List.mem_filter.mpr ⟨hmem, decide_eq_true hkL⟩, hit_iff.mpr fun o ho => hsub o (srt_mem.mp ho)⟩
          rw [knotStep, hany, if_pos rfl]
        · have hb : hv c = Gc rings rest st n many cl := C.held_none L (hH c) fun a ha hacl => by
            apply Classical.byContradiction
            intro z
            exact hbad ⟨a, ha, hacl, fun o ho => Classical.byContradiction fun q => z ⟨o, ho, q⟩⟩
          rw [knotStep, if_pos hb]
          split <;> rfl
  have hfin := claim _ (Nat.le_refl _)
  rw [List.take_length] at hfin
  rw [hfin]
  have hp : ((crowdsOf n).filter fun c => decide (c ∈ Ls)).Perm Ls := (List.perm_ext_iff_of_nodup (hcn.filter _) nd).mpr fun c => by
    rw [List.mem_filter]
    constructor
    · exact fun h => of_decide_eq_true h.2
    · intro h
      obtain ⟨a, ha, _, rfl⟩ := (hL c).mp h
      exact ⟨C.srt_crowd ha, decide_eq_true h⟩
  exact List.Perm.eq_of_pairwise (fun a b _ _ h k => leC_anti h k) so (List.pairwise_mergeSort leC_trans leC_total _) (hp.symm.trans (List.mergeSort_perm _ _).symm)
/-! ### the climb -/
theorem leKA_fst {a b : List Nat × Nat} (h : leKA a b = true) : leC a.1 b.1 = true := by
  have h' : (!PySem.W.dataLt (eKA b) (eKA a)) = true := h
  unfold eKA at h'
  rw [PySem.W.dataLt_pair (alike_eC _ _) (alike_int _ _), eqv_eC] at h'
  by_cases e : b.1 = a.1
  · rw [e]; exact leC_refl _
  · rw [if_neg (by simpa using e)] at h'
    exact h'
theorem Cf.climbR (C : Cf n rings rest st many) : ∀ (l : List (List Nat × Nat)) (cl : List Nat), Cl rings free cl cl → (∀ x, x ∈ l ↔ ∃ a, a < rings.length ∧ a ∉ cl ∧ x = (srt rings a, a)) → l.Nodup → l.Pairwise (fun a b => leKA a b = true) →
    ∃ m, Climb (bk rings rest st n many free) m (Gc rings rest st n many cl) (l.map (·.1)) (wantF (givenF rings rest st n many) cl l) := by
  intro l
  have kn : ∀ (l : List (List Nat × Nat)) (cl : List Nat), Cl rings free cl cl → (∀ x, x ∈ l ↔ ∃ a, a < rings.length ∧ a ∉ cl ∧ x = (srt rings a, a)) → l.Nodup → l.Pairwise (fun a b => leKA a b = true) → KnotsR (bk rings rest st n many free) (Gc rings rest st n many cl) (l.map (·.1)) := fun l cl L hl nd so => by
    refine C.knots L (fun a ha => .inl ha) (fun c => ?_) ?_ (List.pairwise_map.mpr (so.imp leKA_fst))
    · rw [List.mem_map]
      constructor
      · rintro ⟨x, hx, rfl⟩
        obtain ⟨a, h1, h2, rfl⟩ := (hl x).mp hx
        exact ⟨a, h1, h2, rfl⟩
      · rintro ⟨a, h1, h2, rfl⟩
        exact ⟨_, (hl _).mpr ⟨a, h1, h2, rfl⟩, rfl⟩
    · rw [List.nodup_iff_pairwise_ne, List.pairwise_map]
      refine (List.nodup_iff_pairwise_ne.mp nd).imp_of_mem fun {x y} hx hy hne e => ?_
      obtain ⟨a, h1, _, rfl⟩ := (hl x).mp hx
      obtain ⟨b, k1, _, rfl⟩ := (hl y).mp hy
      have e' : srt rings a = srt rings b := e
      have := C.srt_inj h1 k1 fun o ho => e' ▸ ho
      subst this
      exact hne rfl
  induction l with
  | nil =>
    intro cl L hl nd so
    exact ⟨0, .done (kn [] cl L hl nd so)⟩
  | cons x l ih =>
    intro cl L hl nd so
    obtain ⟨a, ha, hacl, rfl⟩ := (hl x).mp List.mem_cons_self
    obtain ⟨nd1, nd2⟩ := List.nodup_cons.mp nd
    have L2 := L.snoc ha hacl
    have L3 : Cl rings free (cl ++ [a]) (cl ++ [a]) := ⟨L2.nd, L2.nd, L2.hc, fun _ h => h, L2.hf⟩
    obtain ⟨m, hm⟩ := ih (cl ++ [a]) L3 (fun y => by
      constructor
      · intro hy
        obtain ⟨b, h1, h2, rfl⟩ := (hl y).mp (List.mem_cons_of_mem _ hy)
        refine ⟨b, h1, fun z => ?_, rfl⟩
        rcases List.mem_append.mp z with q | q
        · exact h2 q
        · rw [List.mem_singleton.mp q] at hy
          exact nd1 hy
      · rintro ⟨b, h1, h2, rfl⟩
        rcases List.mem_cons.mp ((hl _).mpr ⟨b, h1, fun z => h2 (List.mem_append_left _ z), rfl⟩) with q | q
        · have : b = a := congrArg Prod.snd q
          exact absurd (List.mem_append_right _ (by rw [this]; exact List.mem_cons_self)) h2
        · exact q) nd2 (List.pairwise_cons.mp so).2
    obtain ⟨p, hp⟩ := C.heldP L (srt rings a)
    have he := C.held_exact L hp ha hacl fun o => srt_mem
    obtain ⟨xs, x1, x2, x3⟩ := C.climbed L ha hacl
    have hk := kn ((srt rings a, a) :: l) cl L hl nd so
    exact ⟨m + 1, .step hk (he ▸ hp.held) (by rw [Q_len, G_len]) x1 x2 x3 (by rw [G_len, G_len]) hm⟩
end
end Lw
namespace Lw
open PySem L2
/-! ## plain: the rings that the law lays -/
theorem erase_perm : ∀ (l : List Nat) (i : Nat), i < l.length → (l.getD i 0 :: l.eraseIdx i).Perm l
  | [], _, h => by simp at h
  | x :: l, 0, _ => .refl _
  | x :: l, i + 1, h => by
    have ih := erase_perm l i (by simpa using h)
    rw [List.eraseIdx_cons_succ]
    exact (List.Perm.swap _ _ _).trans (ih.cons x)
theorem ring_perm (q : Nat) (rest : List Nat) : ∀ len, len ≤ rest.length → (ringOf q rest len ++ restAt q rest len).Perm rest
  | 0, _ => .refl _
  | len + 1, h => by
    have ih := ring_perm q rest len (by omega)
    have hl := restAt_len q rest len (by omega)
    have hp := erase_perm (restAt q rest len) (q % (restAt q rest len).length) (Nat.mod_lt _ (by omega))
    have e : ringOf q rest (len + 1) = ringOf q rest len ++ [(restAt q rest len).getD (q % (restAt q rest len).length) 0] := by
      unfold ringOf
      rw [List.range_succ, List.map_append]
      rfl
    rw [e, restAt, List.append_assoc]
    exact ((List.Perm.refl _).append hp).trans ih
theorem ringOf_len (q : Nat) (rest : List Nat) (len : Nat) : (ringOf q rest len).length = len := by unfold ringOf; rw [List.length_map, List.length_range]
structure RI (n : Nat) (s : List (List Nat) × List Nat) : Prop where
  perm : (s.1.flatten ++ s.2).Perm (List.range n)
  len : ∀ r ∈ s.1, 2 ≤ r.length ∧ r.length ≤ 4
theorem RI.step {n : Nat} {s : List (List Nat) × List Nat} (h : RI n s) (p : Nat) : RI n (ringStep p s) := by
  unfold ringStep
  split
  · rename_i hl
    refine ⟨?_, fun r hr => ?_⟩
    · show ((s.1 ++ [_]).flatten ++ _).Perm _
      rw [List.flatten_append, List.flatten_cons, List.flatten_nil, List.append_nil, List.append_assoc]
      exact ((List.Perm.refl _).append (ring_perm _ _ _ hl)).trans h.perm
    · rcases List.mem_append.mp hr with q | q
      · exact h.len r q
      · rw [List.mem_singleton.mp q, ringOf_len]
        omega
  · exact h
theorem RI.go {n : Nat} (m : Nat) : ∀ (ps : List Nat) {s : List (List Nat) × List Nat}, RI n s → RI n (ringsGo m n ps s)
  | [], _, h => h
  | p :: ps, s, h => by
    rw [ringsGo]
    split
    · exact h.step p
    · exact RI.go m ps (h.step p)
theorem ri_of (m : Nat) (c : Int) (n : Nat) : RI n (ringsF m c n) := RI.go m _ ⟨.refl _, fun _ h => nomatch h⟩
theorem sum_ge2 : ∀ {rs : List (List Nat)}, (∀ r ∈ rs, 2 ≤ r.length) → 2 * rs.length ≤ rs.flatten.length
  | [], _ => Nat.le_refl _
  | r :: rs, h => by
    have := h r List.mem_cons_self
    have := sum_ge2 (rs := rs) fun x hx => h x (List.mem_cons_of_mem _ hx)
    simp only [List.length_cons, List.flatten_cons, List.length_append]
    omega
section
variable {n : Nat} {rings : List (List Nat)} {rest : List Nat} {st : List Int} {many : Int} {free : Nat}
theorem Cf.sizes (C : Cf n rings rest st many) : 2 * rings.length ≤ n ∧ rest.length ≤ n := by
  have h1 := C.perm.length_eq
  rw [List.length_append, List.length_range] at h1
  have := sum_ge2 C.len
  omega
theorem flat_ge : ∀ {rs : List (List Nat)} {r : List Nat}, r ∈ rs → r.length ≤ rs.flatten.length
  | x :: rs, r, h => by
    rw [List.flatten_cons, List.length_append]
    rcases List.mem_cons.mp h with rfl | h
    · omega
    · have := flat_ge h
      omega
theorem Cf.rr (C : Cf n rings rest st many) : RR n rings rest st := by
  obtain ⟨s1, s2⟩ := C.sizes
  have hn := C.hn
  refine ⟨C.hn, fun r hr => ⟨?_, ?_, fun o ho => ?_⟩, fun o ho => C.ltR ho, by omega, by omega, C.hst⟩
  · intro e
    have := C.len r hr
    rw [e] at this
    simp at this
  · have h1 := C.perm.length_eq
    rw [List.length_append, List.length_range] at h1
    have := flat_ge hr
    omega
  · exact List.mem_range.mp (C.perm.mem_iff.mp (List.mem_append_left _ (List.mem_flatten.mpr ⟨r, hr, ho⟩)))
theorem Cf.wf (C : Cf n rings rest st many) : wfB n 5 (bk rings rest st n many free) := by
  have hn := C.hn
  refine ⟨bk_len, by omega, fun ps hps => ?_⟩
  obtain ⟨i, hi, e⟩ := List.mem_iff_getElem.mp hps
  have hrow : ps = row (bk rings rest st n many free) i := by
    unfold row
    rw [List.getD_eq_getElem?_getD, List.getElem?_eq_getElem hi]
    exact e.symm
  rw [bk_len] at hi
  have one : ∀ (s : Int) (t : Term), wfT n 5 t → wfP n 5 [(s, t)] := fun s t h => ⟨by simp, by simp, fun r hr => by rw [List.mem_singleton.mp hr]; exact h⟩
  rw [hrow]
  rcases C.cases hi with ⟨a, ha, hia⟩ | hr
  · obtain ⟨j, hj, rfl⟩ := pos_of hia
    have hlp : 0 < (rg rings a).length := by omega
    rw [C.row_ring ha hj]
    have w1 : wfP n 5 (plG (gv st a) (rg rings a) j) := one _ _ (by
      show (rg rings a).getD ((j + 1) % (rg rings a).length) 0 < n
      exact C.lt ha (getD_mem (Nat.mod_lt _ hlp)))
    split
    · refine ⟨by simp, fun p hp => ?_⟩
      rcases List.mem_append.mp hp with q | q
      · rw [List.mem_singleton.mp q]; exact w1
      · rw [List.mem_singleton.mp q]; exact one _ _ trivial
    · refine ⟨by simp, fun p hp => ?_⟩
      rw [List.append_nil] at hp
      rw [List.mem_singleton.mp hp]; exact w1
  · rw [C.row_rest hr]
    split
    · exact ⟨by simp, fun p hp => nomatch hp⟩
    · refine ⟨by simp, fun p hp => ?_⟩
      rw [List.mem_singleton.mp hp]
      refine one _ _ ⟨?_, fun o ho => ?_⟩
      · have h1 := C.perm.length_eq
        rw [List.length_append, List.length_range] at h1
        have := (inside_perm rings).length_eq
        omega
      · exact List.mem_range.mp (C.perm.mem_iff.mp (List.mem_append_left _ ((inside_perm rings).mem_iff.mp ho)))
theorem leKA_eq (a b : List Nat × Nat) : leKA a b = if a.1 = b.1 then decide (a.2 ≤ b.2) else leC a.1 b.1 := by
  show (!PySem.W.dataLt (eKA b) (eKA a)) = _
  unfold eKA
  rw [PySem.W.dataLt_pair (alike_eC _ _) (alike_int _ _), eqv_eC, eqv_int, PySem.W.dataLt_int]
  by_cases e : a.1 = b.1
  · rw [if_pos (by simpa using e.symm), if_pos e]
    by_cases q : (b.2 : Int) = (a.2 : Int)
    · rw [if_pos (by simpa using q)]
      have : a.2 ≤ b.2 := by omega
      simp [this]
    · rw [if_neg (by simpa using q)]
      by_cases z : a.2 ≤ b.2
      · have : ¬ (b.2 : Int) < (a.2 : Int) := by omega
        simp [z, this]
      · have : (b.2 : Int) < (a.2 : Int) := by omega
        simp [z, this]
  · rw [if_neg (by simpa using fun z : b.1 = a.1 => e z.symm), if_neg e]
    rfl
theorem leKA_total (a b : List Nat × Nat) : (leKA a b || leKA b a) = true := by
  rw [leKA_eq, leKA_eq]
  by_cases e : a.1 = b.1
  · rw [if_pos e, if_pos e.symm]
    rcases Nat.le_total a.2 b.2 with h | h <;> simp [h]
  · rw [if_neg e, if_neg fun z => e z.symm]
    exact leC_total a.1 b.1
theorem leKA_trans (a b c : List Nat × Nat) (h : leKA a b = true) (k : leKA b c = true) : leKA a c = true := by
  rw [leKA_eq] at *
  by_cases e1 : a.1 = b.1
  · by_cases e2 : b.1 = c.1
    · rw [if_pos e1] at h
      rw [if_pos e2] at k
      rw [if_pos (e1.trans e2)]
      have := of_decide_eq_true h
      have := of_decide_eq_true k
      exact decide_eq_true (by omega)
    · rw [if_neg e2] at k
      rw [if_neg fun z => e2 (e1.symm.trans z), e1]
      exact k
  · by_cases e2 : b.1 = c.1
    · rw [if_neg e1] at h
      rw [if_neg fun z => e1 (z.trans e2.symm), ← e2]
      exact h
    · rw [if_neg e1] at h
      rw [if_neg e2] at k
      by_cases e3 : a.1 = c.1
      · rw [← e3] at k
        exact absurd (leC_anti h k) e1
      · rw [if_neg e3]
        exact leC_trans _ _ _ h k
theorem leftF_mem {x : List Nat × Nat} : x ∈ leftF rings free ↔ ∃ a, a < rings.length ∧ a ∉ closedI rings free ∧ x = (srt rings a, a) := by
  unfold leftF
  rw [List.mem_mergeSort, List.mem_map]
  constructor
  · rintro ⟨a, ha, rfl⟩
    obtain ⟨h1, h2⟩ := List.mem_filter.mp ha
    have h1' := List.mem_range.mp h1
    refine ⟨a, h1', fun z => ?_, rfl⟩
    have := of_decide_eq_true (List.mem_filter.mp z).2
    simp [this] at h2
  · rintro ⟨a, ha, h2, rfl⟩
    refine ⟨a, List.mem_filter.mpr ⟨List.mem_range.mpr ha, ?_⟩, rfl⟩
    have : ¬ a = free := fun z => h2 (List.mem_filter.mpr ⟨List.mem_range.mpr ha, decide_eq_true z⟩)
    simp [this]
theorem Cf.m30 (C : Cf n rings rest st many) (n2 : 2 ≤ n) : M30 n rings rest st many free := by
  have L : Cl rings free (closedI rings free) (closedI rings free) := ⟨List.nodup_range.filter _, List.nodup_range.filter _, fun b h => List.mem_range.mp (List.mem_filter.mp h).1, fun _ h => h, fun h => List.mem_filter.mpr ⟨List.mem_range.mpr h, decide_eq_true rfl⟩⟩
  have L0 : Cl rings free [] (closedI rings free) := ⟨List.nodup_nil, L.nd, L.hc, (fun _ h => (nomatch h)), L.hf⟩
  have hx : ∀ a ∈ closedI rings free, a ∈ ([] : List Nat) ∨ a = free := fun a h => .inr (of_decide_eq_true (List.mem_filter.mp h).2)
  have hnd : (leftF rings free).Nodup := by
    unfold leftF
    refine (List.mergeSort_perm _ _).nodup_iff.mpr ?_
    rw [List.nodup_iff_pairwise_ne, List.pairwise_map]
    exact (List.nodup_iff_pairwise_ne.mp (List.nodup_range.filter _)).imp fun h z => h (congrArg Prod.snd z)
  have hso : (leftF rings free).Pairwise fun a b => leKA a b = true := List.pairwise_mergeSort leKA_trans leKA_total _
  have hk : KnotsR (bk rings rest st n many free) (Gc rings rest st n many []) ((leftF rings free).map (·.1)) := by
    refine C.knots L0 hx (fun c => ?_) ?_ (List.pairwise_map.mpr (hso.imp leKA_fst))
    · rw [List.mem_map]
      constructor
      · rintro ⟨x, hx, rfl⟩
        obtain ⟨a, h1, h2, rfl⟩ := leftF_mem.mp hx
        exact ⟨a, h1, h2, rfl⟩
      · rintro ⟨a, h1, h2, rfl⟩
        exact ⟨_, leftF_mem.mpr ⟨a, h1, h2, rfl⟩, rfl⟩
    · rw [List.nodup_iff_pairwise_ne, List.pairwise_map]
      refine (List.nodup_iff_pairwise_ne.mp hnd).imp_of_mem fun {x y} hx hy hne e => ?_
      obtain ⟨a, h1, _, rfl⟩ := leftF_mem.mp hx
      obtain ⟨b, k1, _, rfl⟩ := leftF_mem.mp hy
      have e' : srt rings a = srt rings b := e
      have := C.srt_inj h1 k1 fun o ho => e' ▸ ho
      subst this
      exact hne rfl
  have hl := C.leastR L0 hx
  rw [C.G_nil] at hk hl
  have hrl := C.rr.hr
  obtain ⟨m, hm⟩ := C.climbR (leftF rings free) (closedI rings free) L (fun x => leftF_mem) hnd hso
  refine ⟨C.rr, n2, C.wf, hl, C.greatR, hk, fun x hx => ?_, ⟨m, _, hm⟩, fun x hx => ?_⟩
  · obtain ⟨a, h1, h2, rfl⟩ := leftF_mem.mp hx
    obtain ⟨p, hp⟩ := C.heldP L0 (srt rings a)
    have hh := hp.held
    rw [C.G_nil] at hh
    refine ⟨p, hh, hp.len, ?_⟩
    show (srt rings a).map (gv p) = List.replicate (srt rings a).length (gv st a)
    rw [List.eq_replicate_iff]
    refine ⟨List.length_map _, fun b hb => ?_⟩
    obtain ⟨o, ho, rfl⟩ := List.mem_map.mp hb
    exact C.held_ring L0 hp h1 h2 (fun o ho => srt_mem.mpr ho) o (srt_mem.mp ho)
  · obtain ⟨a, h1, h2, rfl⟩ := leftF_mem.mp hx
    refine ⟨?_, h1, fun o ho => C.lt h1 (srt_mem.mp ho)⟩
    show (srt rings a).length ≤ 12
    unfold srt
    rw [List.length_mergeSort]
    exact (hrl _ (rg_mem h1)).2.1
end
theorem math30 : ∀ c, M30 (n30 c) (rs30 c).1 (rs30 c).2 (st30 c) (many30 c) (free30 c) := fun c => by
  obtain ⟨a, b, e, x1, x2, x3, x4, hd, ha0, ha1, hb0, hb1, he0, he1, p1, p2, p3, p4, p5, p6, p7, p8⟩ := drw30_eq c
  have hn : (n30 c : Int) = 3 + a := by
    unfold n30
    rw [hd]
    show ((3 + a.toNat : Nat) : Int) = 3 + a
    omega
  have hst : st30 c = [1 + x1, 1 + x2, 1 + x3, 1 + x4] := by unfold st30; rw [hd]; rfl
  have hmany : many30 c = 1 + b := by unfold many30; rw [hd]; rfl
  have I := ri_of 5 (c + 3) (n30 c)
  have hlen : 2 * (rs30 c).1.length ≤ n30 c := by
    have h1 := I.perm.length_eq
    rw [List.length_append, List.length_range] at h1
    have := sum_ge2 fun r hr => (I.len r hr).1
    unfold rs30
    omega
  refine Cf.m30 ⟨I.perm, by omega, fun r hr => (I.len r hr).1, fun k hk => ?_, by rw [hst]; simp; omega, by omega⟩ (by omega)
  rw [hst]
  have hk4 : k < 4 := by omega
  match k, hk4 with
  | 0, _ => exact ⟨show 1 ≤ 1 + x1 by omega, show 1 + x1 ≤ 9 by omega⟩
  | 1, _ => exact ⟨show 1 ≤ 1 + x2 by omega, show 1 + x2 ≤ 9 by omega⟩
  | 2, _ => exact ⟨show 1 ≤ 1 + x3 by omega, show 1 + x3 ≤ 9 by omega⟩
  | 3, _ => exact ⟨show 1 ≤ 1 + x4 by omega, show 1 + x4 ≤ 9 by omega⟩
end Lw
namespace Lw
open PySem L2
def topS (i : Nat) : Stmt := PySem.Challenge.pw_loveboon_k30_whole_knots_of_rings_and_cr.main.body.getD i (.Pass ⟨0, 0, 0, 0⟩)
structure Bi (mg : Str → Option Value) : Prop where
  len : mg "len" = none
  max : mg "max" = none
  tuple : mg "tuple" = none
  list : mg "list" = none
  range : mg "range" = none
  sum : mg "sum" = none
  any : mg "any" = none
  all : mg "all" = none
  sorted : mg "sorted" = none
  abs : mg "abs" = none
  isinstance : mg "isinstance" = none
  int : mg "int" = none
  bool : mg "bool" = none
  str : mg "str" = none
structure Df (P : Program) (w : World) (K : PySem.W.Frag) (mg : Str → Option Value) (base : Heap) (k : Nat) (x : Str) (ps : List Str) (sp : Sp) (f : Addr) (fd : FuncData) : Prop where
  ok : FnOk P w K mg base CX0 k f fd ps sp
  bi : Binds K fd ps []
  kp : PySem.W.keepIn K (.ref f) = true
  mg : mg x = some (.ref f)
theorem Df.mono {P : Program} {w : World} {K : PySem.W.Frag} {mg : Str → Option Value} {base : Heap} {j k : Nat} {x : Str} {ps : List Str} {sp : Sp} {f : Addr} {fd : FuncData} (D : Df P w K mg base j x ps sp f fd) (h : j ≤ k) : Df P w K mg base k x ps sp f fd := ⟨D.ok.mono h, D.bi, D.kp, D.mg⟩
theorem uq {k : Nat} {A : Around} (hr : Room k A) : A.units + 64 < cLine := by have := hr.un; omega
theorem us {k : Nat} {A : Around} (hr : Room k A) : A.units + 100 < cLine := by have := hr.un; omega
section
variable {P : Program} {w : World} {K : PySem.W.Frag} {mg : Str → Option Value} {base : Heap}
abbrev s_joined : Stmt := topS 1
theorem sc_joined : FnScope ["one", "other", "at"] ["one", "other"] (defScope s_joined) := ⟨rfl, rfl, rfl, by decide +kernel, rfl, by decide +kernel, by decide +kernel⟩
theorem ok_joined {f : Addr} {fd : FuncData} (F : Fun K "joined" "joined" s_joined f fd) (B : Bi mg) : FnOk P w K mg base CX0 1 f fd ["one", "other"] (spR Rl_joined) := by
  refine fn_pure F sc_joined (by rintro ds d ⟨a, b, _, _, rfl, rfl⟩; rfl) fun cdv A outer s H E hr => ?_
  have nd := sc_joined.nd
  refine ⟨_, (pss_one (ps_ret (pe_callTy (tupOf K) (by rfl) B.tuple (by decide +kernel) (pa_cons (pe_lc (own := [("at", 2)]) (g := (gName 2)) (tt := tYes) rfl nd (pi_range1 rfl B.range (pa_cons (pe_callB (lenS K) (by rfl) B.len (by decide +kernel) (pa_cons (pv 0) pa_nil)) pa_nil)) (blkOk_by (N := ["one", "other", "at"]) (sc := (defScope s_joined)) (by decide +kernel)) (fun _ _ _ _ _ => (pg_name (i := 2) nd rfl (Or.inl rfl))) (fun _ _ _ _ _ => pts_nil) (fun _ _ _ _ _ => (pe_callB (call_max2 rfl) (by rfl) B.max (by decide +kernel) (pa_cons (pe_ix (ixT K) (pv 0) (pv 2) (fun _ _ => rfl)) (pa_cons (pe_ix (ixT K) (pv 1) (pv 2) (fun _ _ => rfl)) pa_nil))))) pa_nil)))),
    ?_⟩
  rintro ds d ⟨a, b, hl, hz, rfl, rfl⟩ G0 H0 Q hQ
  refine g_ret (em_is (em_cb (ed_cons (EN.em (en_lcR (n := a.length) (fun _ => true) (fun i => .int (if gv b i > gv a i then gv b i else gv a i)) (ed_cons (em_len_g (em_var rfl)) ed_nil) (by omega) (fun i hi => ⟨et_yes, fun _ => ?_⟩) (by decide))) ed_nil) rc_tuple_l) ?_) hQ
  · exact em_cb (ed_cons (em_gi (em_var rfl) (em_var rfl) hi) (ed_cons (em_gi (em_var rfl) (em_var rfl) (by omega)) ed_nil)) rc_max2
  · rw [lcOut_true, eG, joined, List.map_map]
    rfl
abbrev s_holds : Stmt := topS 3
theorem sc_holds : FnScope ["term", "giving", "word", "part", "one"] ["term", "giving"] (defScope s_holds) := ⟨rfl, rfl, rfl, by decide +kernel, rfl, by decide +kernel, by decide +kernel⟩
theorem ok_holds0 {n : Nat} {f f' : Addr} {fd fd' : FuncData} (F : Fun K "holds" "holds" s_holds f fd) (B : Bi mg) (D_holds : Df P w K mg base n "holds" ["term", "giving"] (spR (Rl_holds n)) f' fd') : FnOk P w K mg base CX0 (n + 1) f fd ["term", "giving"] (spR (Rl_holds (n + 1))) := by
  refine fn_pure F sc_holds (by rintro ds d ⟨a, b, _, rfl, rfl⟩; rfl) fun cdv A outer s H E hr => ?_
  have nd := sc_holds.nd
  refine ⟨_, (pss_cons (ps_set (i := 2) nd rfl (Or.inl rfl) (pe_ix (ixT K) (pv 0) pe_int (fun _ _ => rfl)))
    (pss_cons (ps_if (pt_cmpR op_eq (pv 2) pe_str (nomark _)) (pss_one (ps_ret (pe_cmpR op_ge (pe_ix (ixT K) (pv 1) (pe_ix (ixT K) (pv 0) pe_int (fun _ _ => rfl)) (fun _ _ => rfl)) (pe_ix (ixT K) (pv 0) pe_int (fun _ _ => rfl)) (nomark _)))) pss_nil)
    (pss_cons (ps_if (pt_cmpR op_eq (pv 2) pe_str (nomark _)) (pss_one (ps_ret (pe_cmpR op_ge (pe_callB (sumL K) (by rfl) B.sum (by decide +kernel) (pa_cons (pe_lc (own := [("one", 4)]) (g := (gName 4)) (tt := tYes) rfl nd (piT K (pe_ix (ixT K) (pv 0) pe_int (fun _ _ => rfl))) (blkOk_by (N := ["term", "giving", "word", "part", "one"]) (sc := (defScope s_holds)) (by decide +kernel)) (fun _ _ _ _ _ => (pg_name (i := 4) nd rfl (Or.inl rfl))) (fun _ _ _ _ _ => pts_nil) (fun _ _ _ _ _ => (pe_ix (ixT K) (pv 1) (pv 4) (fun _ _ => rfl)))) pa_nil)) (pe_ix (ixT K) (pv 0) pe_int (fun _ _ => rfl)) (nomark _)))) pss_nil)
    (pss_cons (ps_if (pt_cmpR op_eq (pv 2) pe_str (nomark _)) (pss_one (ps_ret (pe_cmpR op_ge (pe_callB (lenS K) (by rfl) B.len (by decide +kernel) (pa_cons (pe_lc (own := [("one", 4)]) (g := (gName 4)) (tt := _) rfl nd (piT K (pe_ix (ixT K) (pv 0) pe_int (fun _ _ => rfl))) (blkOk_by (N := ["term", "giving", "word", "part", "one"]) (sc := (defScope s_holds)) (by decide +kernel)) (fun _ _ _ _ _ => (pg_name (i := 4) nd rfl (Or.inl rfl))) (fun _ _ _ _ _ => (pts_one (pt_cmpR op_ge (pe_ix (ixT K) (pv 1) (pv 4) (fun _ _ => rfl)) (pe_ix (ixT K) (pv 0) pe_int (fun _ _ => rfl)) (nomark _)))) (fun _ _ _ _ _ => (pv 4))) pa_nil)) (pe_ix (ixT K) (pv 0) pe_int (fun _ _ => rfl)) (nomark _)))) pss_nil)
    (pss_cons (ps_if (pt_cmpR op_eq (pv 2) pe_str (nomark _)) (pss_one (ps_ret (pe_callB (allL K) (by rfl) B.all (by decide +kernel) (pa_cons (pe_lc (own := [("part", 3)]) (g := (gName 3)) (tt := tYes) rfl nd (piT K (pe_ix (ixT K) (pv 0) pe_int (fun _ _ => rfl))) (blkOk_by (N := ["term", "giving", "word", "part", "one"]) (sc := (defScope s_holds)) (by decide +kernel)) (fun _ _ _ _ _ => (pg_name (i := 3) nd rfl (Or.inl rfl))) (fun _ _ _ _ _ => pts_nil) (fun _ _ _ _ _ => (pe_call D_holds.ok (hr.mono (by omega)) (by rfl) D_holds.mg D_holds.kp D_holds.bi .nil pass0 (pa_cons (pv 3) (pa_cons (pv 1) pa_nil))))) pa_nil)))) pss_nil)
    (pss_cons (ps_if (pt_cmpR op_eq (pv 2) pe_str (nomark _)) (pss_one (ps_ret (pe_callB (anyL K) (by rfl) B.any (by decide +kernel) (pa_cons (pe_lc (own := [("part", 3)]) (g := (gName 3)) (tt := tYes) rfl nd (piT K (pe_ix (ixT K) (pv 0) pe_int (fun _ _ => rfl))) (blkOk_by (N := ["term", "giving", "word", "part", "one"]) (sc := (defScope s_holds)) (by decide +kernel)) (fun _ _ _ _ _ => (pg_name (i := 3) nd rfl (Or.inl rfl))) (fun _ _ _ _ _ => pts_nil) (fun _ _ _ _ _ => (pe_call D_holds.ok (hr.mono (by omega)) (by rfl) D_holds.mg D_holds.kp D_holds.bi .nil pass0 (pa_cons (pv 3) (pa_cons (pv 1) pa_nil))))) pa_nil)))) pss_nil)
    (pss_one (ps_ret (pe_cmpR op_eq (pv 2) pe_str (nomark _)))))))))),
    ?_⟩
  rintro ds d ⟨t, g, hw, rfl, rfl⟩ G0 H0 Q hQ
  cases t with
  | gives o s =>
    refine q_asg (em_t0 (em_var (d := eTerm (.gives o s)) rfl)) ?_
    refine q_yes (et_test (em_op (em_var rfl) em_str ro_eqS)) (by decide +kernel) ?_
    refine g_ret (em_is (em_op (em_gi (em_var rfl) (em_t1 (em_var (d := eTerm (.gives o s)) rfl)) (by simpa [wfT] using hw)) (em_t2 (em_var (d := eTerm (.gives o s)) rfl)) ro_cmp) ?_) hQ
    rw [holds]
  | sum c s =>
    obtain ⟨hl, hc⟩ : c.length ≤ 1000 ∧ ∀ o ∈ c, o < g.length := by simpa [wfT] using hw
    refine q_asg (em_t0 (em_var (d := eTerm (.sum c s)) rfl)) ?_
    refine q_no (et_test (em_op (em_var rfl) em_str ro_eqS)) (by decide +kernel) ?_
    refine q_yes (et_test (em_op (em_var rfl) em_str ro_eqS)) (by decide +kernel) ?_
    refine g_ret (em_is (em_op (em_cb (ed_cons (em_is (EN.em (en_lcT (α := Nat) (fun o => .int (o : Int)) c (fun _ => true) (fun o => .int (gv g o)) (em_is (em_t1 (em_var (d := eTerm (.sum c s)) rfl)) (by simp [eN, iN])) (by omega) (fun o ho => ⟨_, eg_name, et_yes, fun _ => em_gi (em_var rfl) (em_var rfl) (hc o ho)⟩) (by decide))) (show _ = PyData.list ((c.map (gv g)).map .int) by rw [lcOut_true, List.map_map]; rfl)) ed_nil) rc_sum) (em_t2 (em_var (d := eTerm (.sum c s)) rfl)) ro_cmp) ?_) hQ
    rw [holds]
  | crowd c s m =>
    obtain ⟨hl, hc⟩ : c.length ≤ 1000 ∧ ∀ o ∈ c, o < g.length := by simpa [wfT] using hw
    refine q_asg (em_t0 (em_var (d := eTerm (.crowd c s m)) rfl)) ?_
    refine q_no (et_test (em_op (em_var rfl) em_str ro_eqS)) (by decide +kernel) ?_
    refine q_no (et_test (em_op (em_var rfl) em_str ro_eqS)) (by decide +kernel) ?_
    refine q_yes (et_test (em_op (em_var rfl) em_str ro_eqS)) (by decide +kernel) ?_
    refine g_ret (em_is (em_op (em_len_l (EN.em (en_lcT (α := Nat) (fun o => .int (o : Int)) c (fun o => decide (s ≤ gv g o)) (fun o => .int (o : Int)) (em_is (em_t1 (em_var (d := eTerm (.crowd c s m)) rfl)) (by simp [eN, iN])) (by omega) (fun o ho => ⟨_, eg_name, et_test (em_op (em_gi (em_var rfl) (em_var rfl) (hc o ho)) (em_t2 (em_var (d := eTerm (.crowd c s m)) rfl)) ro_cmp), fun _ => em_var rfl⟩) (by decide)))) (em_t3 (em_var (d := eTerm (.crowd c s m)) rfl)) ro_cmp) ?_) hQ
    rw [holds, lcOut, List.length_map]
  | all ps =>
    obtain ⟨hl, hc⟩ : ps.length ≤ 1000 ∧ wfTs g.length n ps := by simpa [wfT] using hw
    refine q_asg (em_t0 (em_var (d := eTerm (.all ps)) rfl)) ?_
    refine q_no (et_test (em_op (em_var rfl) em_str ro_eqS)) (by decide +kernel) ?_
    refine q_no (et_test (em_op (em_var rfl) em_str ro_eqS)) (by decide +kernel) ?_
    refine q_no (et_test (em_op (em_var rfl) em_str ro_eqS)) (by decide +kernel) ?_
    refine q_yes (et_test (em_op (em_var rfl) em_str ro_eqS)) (by decide +kernel) ?_
    refine g_ret (em_is (em_cb (ed_cons (em_is (EN.em (en_lcT (α := Term) eTerm ps (fun _ => true) (fun t => .bool (holds g t)) (em_is (em_t1 (em_var (d := eTerm (.all ps)) rfl)) (by rw [eTerms_map])) (by omega) (fun t ht => ⟨_, eg_name, et_yes, fun _ => em_call (ed_cons (em_var rfl) (ed_cons (em_var rfl) ed_nil)) ⟨t, g, wfTs_mem hc t ht, rfl, rfl⟩⟩) (by decide))) (show _ = PyData.list ((ps.map (holds g)).map .bool) by rw [lcOut_true, List.map_map]; rfl)) ed_nil) rc_all) ?_) hQ
    rw [holds, holdsAll_map]
  | any ps =>
    obtain ⟨hl, hc⟩ : ps.length ≤ 1000 ∧ wfTs g.length n ps := by simpa [wfT] using hw
    refine q_asg (em_t0 (em_var (d := eTerm (.any ps)) rfl)) ?_
    refine q_no (et_test (em_op (em_var rfl) em_str ro_eqS)) (by decide +kernel) ?_
    refine q_no (et_test (em_op (em_var rfl) em_str ro_eqS)) (by decide +kernel) ?_
    refine q_no (et_test (em_op (em_var rfl) em_str ro_eqS)) (by decide +kernel) ?_
    refine q_no (et_test (em_op (em_var rfl) em_str ro_eqS)) (by decide +kernel) ?_
    refine q_yes (et_test (em_op (em_var rfl) em_str ro_eqS)) (by decide +kernel) ?_
    refine g_ret (em_is (em_cb (ed_cons (em_is (EN.em (en_lcT (α := Term) eTerm ps (fun _ => true) (fun t => .bool (holds g t)) (em_is (em_t1 (em_var (d := eTerm (.any ps)) rfl)) (by rw [eTerms_map])) (by omega) (fun t ht => ⟨_, eg_name, et_yes, fun _ => em_call (ed_cons (em_var rfl) (ed_cons (em_var rfl) ed_nil)) ⟨t, g, wfTs_mem hc t ht, rfl, rfl⟩⟩) (by decide))) (show _ = PyData.list ((ps.map (holds g)).map .bool) by rw [lcOut_true, List.map_map]; rfl)) ed_nil) rc_any) ?_) hQ
    rw [holds, holdsAny_map]
  | free =>
    refine q_asg (em_t0 (em_var (d := eTerm .free) rfl)) ?_
    refine q_no (et_test (em_op (em_var rfl) em_str ro_eqS)) (by decide +kernel) ?_
    refine q_no (et_test (em_op (em_var rfl) em_str ro_eqS)) (by decide +kernel) ?_
    refine q_no (et_test (em_op (em_var rfl) em_str ro_eqS)) (by decide +kernel) ?_
    refine q_no (et_test (em_op (em_var rfl) em_str ro_eqS)) (by decide +kernel) ?_
    refine q_no (et_test (em_op (em_var rfl) em_str ro_eqS)) (by decide +kernel) ?_
    refine g_ret (em_is (em_op (em_var rfl) em_str ro_eqS) ?_) hQ
    exact congrArg PyData.bool (by rw [holds]; decide +kernel)
  | never =>
    refine q_asg (em_t0 (em_var (d := eTerm .never) rfl)) ?_
    refine q_no (et_test (em_op (em_var rfl) em_str ro_eqS)) (by decide +kernel) ?_
    refine q_no (et_test (em_op (em_var rfl) em_str ro_eqS)) (by decide +kernel) ?_
    refine q_no (et_test (em_op (em_var rfl) em_str ro_eqS)) (by decide +kernel) ?_
    refine q_no (et_test (em_op (em_var rfl) em_str ro_eqS)) (by decide +kernel) ?_
    refine q_no (et_test (em_op (em_var rfl) em_str ro_eqS)) (by decide +kernel) ?_
    refine g_ret (em_is (em_op (em_var rfl) em_str ro_eqS) ?_) hQ
    exact congrArg PyData.bool (by rw [holds]; decide +kernel)
theorem ok_holds {f : Addr} {fd : FuncData} (F : Fun K "holds" "holds" s_holds f fd) (B : Bi mg) (bi : Binds K fd ["term", "giving"] []) (m : mg "holds" = some (.ref f)) : ∀ n, FnOk P w K mg base CX0 n f fd ["term", "giving"] (spR (Rl_holds n))
  | 0 => fn_none (by rintro ds d ⟨t, g, hw, _⟩; cases t <;> simp [wfT] at hw)
  | n + 1 => ok_holds0 F B ⟨ok_holds F B bi m n, bi, F.kp, m⟩
abbrev s_owes : Stmt := topS 5
theorem sc_owes : FnScope ["pledge", "giving", "step", "term"] ["pledge", "giving"] (defScope s_owes) := ⟨rfl, rfl, rfl, by decide +kernel, rfl, by decide +kernel, by decide +kernel⟩
theorem ok_owes {k n : Nat} {f f1 : Addr} {fd fd1 : FuncData} (F : Fun K "owes" "owes" s_owes f fd) (B : Bi mg) (D_holds : Df P w K mg base k "holds" ["term", "giving"] (spR (Rl_holds n)) f1 fd1) : FnOk P w K mg base CX0 (k + 1) f fd ["pledge", "giving"] (spR (Rl_owes n)) := by
  refine fn_pure F sc_owes (by rintro ds d ⟨a, b, _, rfl, rfl⟩; rfl) fun cdv A outer s H E hr => ?_
  have nd := sc_owes.nd
  refine ⟨_, (pss_one (ps_ret (pe_callB (maxL K) (by rfl) B.max (by decide +kernel) (pa_cons (pe_op op_cat (pe_lst (pa_cons pe_int pa_nil)) (pe_lc (own := [("step", 2), ("term", 3)]) (g := (gTup K 2 (gCons (gName 2) (gCons (gName 3) gNil)))) (tt := _) rfl nd (piT K (pv 0)) (blkOk_by (N := ["pledge", "giving", "step", "term"]) (sc := (defScope s_owes)) (by decide +kernel)) (fun _ _ _ _ _ => (pgT K (pgs_cons (pg_name (i := 2) nd rfl (Or.inl rfl)) (pgs_cons (pg_name (i := 3) nd rfl (Or.inl rfl)) pgs_nil)))) (fun _ _ _ _ _ => (pts_one (pt_val (pe_call D_holds.ok (hr.mono (by omega)) (by rfl) D_holds.mg D_holds.kp D_holds.bi .nil pass0 (pa_cons (pv 3) (pa_cons (pv 1) pa_nil)))))) (fun _ _ _ _ _ => (pv 2)))) pa_nil)))),
    ?_⟩
  rintro ds d ⟨p, g, hw, rfl, rfl⟩ G0 H0 Q hQ
  refine g_ret (em_cb (ed_cons (em_is (EN.em (en_op (EN.em (en_lst (ed_cons em_int ed_nil) (by decide))) (EN.em (en_lcT (α := Int × Term) eR p (fun r => holds g r.2) (fun r => .int r.1) (em_var rfl) (by have := hw.2.1; omega) (fun r hr' => ⟨_, eg_tup (egs_cons eg_name (egs_cons eg_name egs_nil)) rfl, et_B (em_call (ed_cons (em_var rfl) (ed_cons (em_var rfl) ed_nil)) ⟨r.2, g, hw.2.2 r hr', rfl, rfl⟩), fun _ => em_var rfl⟩) (by decide))) (ron_cat ?_))) (show _ = PyData.list (.int 0 :: ((p.filter fun r => holds g r.2).map (·.1)).map .int) by rw [lcOut, List.map_map]; rfl)) ed_nil) rc_max) hQ
  have := lcOut_len (fun r : Int × Term => holds g r.2) (fun r => .int r.1) p
  have := hw.2.1
  simp only [List.length_singleton]
  omega
abbrev s_last_step : Stmt := topS 6
theorem sc_last_step : FnScope ["pledge"] ["pledge"] (defScope s_last_step) := ⟨rfl, rfl, rfl, by decide +kernel, rfl, by decide +kernel, by decide +kernel⟩
theorem ok_last_step {f : Addr} {fd : FuncData} (F : Fun K "last_step" "last_step" s_last_step f fd) : FnOk P w K mg base CX0 1 f fd ["pledge"] (spR Rl_last) := by
  refine fn_pure F sc_last_step (by rintro ds d ⟨a, _, rfl, rfl⟩; rfl) fun cdv A outer s H E hr => ?_
  have nd := sc_last_step.nd
  refine ⟨_, (pss_one (ps_ret (pe_ix (ixT K) (pe_ix (ixT K) (pv 0) (pe_un un_neg pe_int) (fun _ _ => rfl)) pe_int (fun _ _ => rfl)))),
    ?_⟩
  rintro ds d ⟨p, hw, rfl, rfl⟩ G0 H0 Q hQ
  obtain ⟨init, r, rfl⟩ : ∃ init r, p = init ++ [r] := ⟨p.dropLast, p.getLast hw, (List.dropLast_concat_getLast hw).symm⟩
  refine g_ret (em_is (em_t0 (K := K) (em_ixT_last (d := eR r) (em_var rfl) (em_neg em_int) (by simp))) ?_) hQ
  simp [lastStep, List.getLastD_eq_getLast?]
abbrev s_owed_by : Stmt := topS 8
theorem sc_owed_by : FnScope ["pledges", "giving", "pledge"] ["pledges", "giving"] (defScope s_owed_by) := ⟨rfl, rfl, rfl, by decide +kernel, rfl, by decide +kernel, by decide +kernel⟩
theorem ok_owed_by {k n : Nat} {f f1 : Addr} {fd fd1 : FuncData} (F : Fun K "owed_by" "owed_by" s_owed_by f fd) (B : Bi mg) (D_owes : Df P w K mg base k "owes" ["pledge", "giving"] (spR (Rl_owes n)) f1 fd1) : FnOk P w K mg base CX0 (k + 1) f fd ["pledges", "giving"] (spR (Rl_owedBy n)) := by
  refine fn_pure F sc_owed_by (by rintro ds d ⟨a, b, _, rfl, rfl⟩; rfl) fun cdv A outer s H E hr => ?_
  have nd := sc_owed_by.nd
  refine ⟨_, (pss_one (ps_ret (pe_callB (maxL K) (by rfl) B.max (by decide +kernel) (pa_cons (pe_op op_cat (pe_lst (pa_cons pe_int pa_nil)) (pe_lc (own := [("pledge", 2)]) (g := (gName 2)) (tt := tYes) rfl nd (piL K (pv 0)) (blkOk_by (N := ["pledges", "giving", "pledge"]) (sc := (defScope s_owed_by)) (by decide +kernel)) (fun _ _ _ _ _ => (pg_name (i := 2) nd rfl (Or.inl rfl))) (fun _ _ _ _ _ => pts_nil) (fun _ _ _ _ _ => (pe_call D_owes.ok (hr.mono (by omega)) (by rfl) D_owes.mg D_owes.kp D_owes.bi .nil pass0 (pa_cons (pv 2) (pa_cons (pv 1) pa_nil)))))) pa_nil)))),
    ?_⟩
  rintro ds d ⟨ps, g, hw, rfl, rfl⟩ G0 H0 Q hQ
  refine g_ret (em_cb (ed_cons (em_is (EN.em (en_op (EN.em (en_lst (ed_cons em_int ed_nil) (by decide))) (EN.em (en_lcL (α := Pledge) eP ps (fun _ => true) (fun p => .int (owes g p)) (em_var rfl) (by have := hw.1; omega) (fun p hp => ⟨_, eg_name, et_yes, fun _ => em_call (ed_cons (em_var rfl) (ed_cons (em_var rfl) ed_nil)) ⟨p, g, hw.2 p hp, rfl, rfl⟩⟩) (by decide))) (ron_cat ?_))) (show _ = PyData.list (.int 0 :: (ps.map (owes g)).map .int) by rw [lcOut_true, List.map_map]; rfl)) ed_nil) rc_max) hQ
  have := lcOut_len (fun _ : Pledge => true) (fun p => .int (owes g p)) ps
  have := hw.1
  simp only [List.length_singleton]
  omega
abbrev s_what_is_due : Stmt := topS 9
theorem sc_what_is_due : FnScope ["book", "floor", "giving", "pledges"] ["book", "floor", "giving"] (defScope s_what_is_due) := ⟨rfl, rfl, rfl, by decide +kernel, rfl, by decide +kernel, by decide +kernel⟩
theorem ok_what_is_due {k n : Nat} {f f1 f2 : Addr} {fd fd1 fd2 : FuncData} (F : Fun K "what_is_due" "what_is_due" s_what_is_due f fd) (B : Bi mg) (hk : 1 ≤ k) (D_owed_by : Df P w K mg base k "owed_by" ["pledges", "giving"] (spR (Rl_owedBy n)) f1 fd1) (D_joined : Df P w K mg base 1 "joined" ["one", "other"] (spR Rl_joined) f2 fd2) : FnOk P w K mg base CX0 (k + 1) f fd ["book", "floor", "giving"] (spR (Rl_due n)) := by
  refine fn_pure F sc_what_is_due (by rintro ds d ⟨a, b, c, _, _, rfl, rfl⟩; rfl) fun cdv A outer s H E hr => ?_
  have nd := sc_what_is_due.nd
  refine ⟨_, (pss_one (ps_ret (pe_call D_joined.ok (hr.mono (by omega)) (by rfl) D_joined.mg D_joined.kp D_joined.bi .nil pass0 (pa_cons (pv 1) (pa_cons (pe_callTy (tupOf K) (by rfl) B.tuple (by decide +kernel) (pa_cons (pe_lc (own := [("pledges", 3)]) (g := (gName 3)) (tt := tYes) rfl nd (piL K (pv 0)) (blkOk_by (N := ["book", "floor", "giving", "pledges"]) (sc := (defScope s_what_is_due)) (by decide +kernel)) (fun _ _ _ _ _ => (pg_name (i := 3) nd rfl (Or.inl rfl))) (fun _ _ _ _ _ => pts_nil) (fun _ _ _ _ _ => (pe_call D_owed_by.ok (hr.mono (by omega)) (by rfl) D_owed_by.mg D_owed_by.kp D_owed_by.bi .nil pass0 (pa_cons (pv 3) (pa_cons (pv 2) pa_nil))))) pa_nil)) pa_nil))))),
    ?_⟩
  rintro ds d ⟨b, f, g, hw, hl, rfl, rfl⟩ G0 H0 Q hQ
  obtain ⟨h1, h2, h3⟩ := hw
  refine g_ret (em_call (ds := [eG f, eG (b.map (owedBy g))]) (ed_cons (em_var rfl) (ed_cons (em_is (em_cb (ed_cons (EN.em (en_lcL (α := List Pledge) ePs b (fun _ => true) (fun ps => .int (owedBy g ps)) (em_var rfl) (by omega) (fun ps hp => ⟨_, eg_name, et_yes, fun _ => em_call (ed_cons (em_var rfl) (ed_cons (em_var rfl) ed_nil)) ⟨ps, g, h3 ps hp, rfl, rfl⟩⟩) (by decide))) ed_nil) rc_tuple_l) ?_) ed_nil)) ?_) hQ
  · rw [lcOut_true, eG, List.map_map]
    rfl
  · exact ⟨f, b.map (owedBy g), by rw [List.length_map]; omega, by omega, rfl, rfl⟩
abbrev s_roof : Stmt := topS 10
theorem sc_roof : FnScope ["book", "floor", "pledges", "pledge"] ["book", "floor"] (defScope s_roof) := ⟨rfl, rfl, rfl, by decide +kernel, rfl, by decide +kernel, by decide +kernel⟩
theorem ok_roof {n : Nat} {f f1 f2 : Addr} {fd fd1 fd2 : FuncData} (F : Fun K "roof" "roof" s_roof f fd) (B : Bi mg) (D_last_step : Df P w K mg base 1 "last_step" ["pledge"] (spR Rl_last) f1 fd1) (D_joined : Df P w K mg base 1 "joined" ["one", "other"] (spR Rl_joined) f2 fd2) : FnOk P w K mg base CX0 (1 + 1) f fd ["book", "floor"] (spR (Rl_roof n)) := by
  refine fn_pure F sc_roof (by rintro ds d ⟨a, b, _, rfl, rfl⟩; rfl) fun cdv A outer s H E hr => ?_
  have nd := sc_roof.nd
  refine ⟨_, (pss_one (ps_ret (pe_call D_joined.ok (hr.mono (by omega)) (by rfl) D_joined.mg D_joined.kp D_joined.bi .nil pass0 (pa_cons (pv 1) (pa_cons (pe_callTy (tupOf K) (by rfl) B.tuple (by decide +kernel) (pa_cons (pe_lc (own := [("pledges", 2)]) (g := (gName 2)) (tt := tYes) rfl nd (piL K (pv 0)) (blkOk_by (N := ["book", "floor", "pledges", "pledge"]) (sc := (defScope s_roof)) (by decide +kernel)) (fun _ _ _ _ _ => (pg_name (i := 2) nd rfl (Or.inl rfl))) (fun _ _ _ _ _ => pts_nil) (fun _ _ _ _ _ => (pe_callB (maxL K) (by rfl) B.max (by decide +kernel) (pa_cons (pe_op op_cat (pe_lst (pa_cons pe_int pa_nil)) (pe_lc (own := [("pledge", 3)]) (g := (gName 3)) (tt := tYes) rfl nd (piL K (pv 2)) (blkOk_by (N := ["book", "floor", "pledges", "pledge"]) (sc := (relS _ (defScope s_roof))) (by decide +kernel)) (fun _ _ _ _ _ => (pg_name (i := 3) nd rfl (Or.inl rfl))) (fun _ _ _ _ _ => pts_nil) (fun _ _ _ _ _ => (pe_call D_last_step.ok (hr.mono (by omega)) (by rfl) D_last_step.mg D_last_step.kp D_last_step.bi .nil pass0 (pa_cons (pv 3) pa_nil))))) pa_nil)))) pa_nil)) pa_nil))))),
    ?_⟩
  rintro ds d ⟨b, f, hw, rfl, rfl⟩ G0 H0 Q hQ
  obtain ⟨h1, h2, h3⟩ := hw
  refine g_ret (em_call (ds := [eG f, eG (b.map fun ps => maxI 0 (ps.map lastStep))]) (ed_cons (em_var rfl) (ed_cons (em_is (em_cb (ed_cons (EN.em (en_lcL (α := List Pledge) ePs b (fun _ => true) (fun ps => .int (maxI 0 (ps.map lastStep))) (em_var rfl) (by omega) (fun ps hp => ⟨_, eg_name, et_yes, fun _ => ?_⟩) (by decide))) ed_nil) rc_tuple_l) ?_) ed_nil)) ?_) hQ
  · have hq := h3 ps hp
    refine em_cb (ed_cons (em_is (EN.em (en_op (EN.em (en_lst (ed_cons em_int ed_nil) (by decide))) (EN.em (en_lcL (α := Pledge) eP ps (fun _ => true) (fun p => .int (lastStep p)) (em_var rfl) (by have := hq.1; omega) (fun p hp' => ⟨_, eg_name, et_yes, fun _ => em_call (ed_cons (em_var rfl) ed_nil) ⟨p, (hq.2 p hp').1, rfl, rfl⟩⟩) (by decide))) (ron_cat ?_))) (show _ = PyData.list (.int 0 :: (ps.map lastStep).map .int) by rw [lcOut_true, List.map_map]; rfl)) ed_nil) rc_max
    have := lcOut_len (fun _ : Pledge => true) (fun p => .int (lastStep p)) ps
    have := hq.1
    simp only [List.length_singleton]
    omega
  · rw [lcOut_true, eG, List.map_map]
    rfl
  · exact ⟨f, _, by rw [List.length_map]; omega, by omega, rfl, rfl⟩
abbrev s_rounds_from : Stmt := topS 11
theorem sc_rounds_from : FnScope ["book", "floor", "giving", "found", "later"] ["book", "floor", "giving"] (defScope s_rounds_from) := ⟨rfl, rfl, rfl, by decide +kernel, rfl, by decide +kernel, by decide +kernel⟩
theorem ok_rounds_from {k n : Nat} {f f1 : Addr} {fd fd1 : FuncData} (F : Fun K "rounds_from" "rounds_from" s_rounds_from f fd) (D_what_is_due : Df P w K mg base k "what_is_due" ["book", "floor", "giving"] (spR (Rl_due n)) f1 fd1) : FnOk P w K mg base CX0 (k + 1) f fd ["book", "floor", "giving"] (spR (Rl_rounds n)) := by
  refine fn_pure F sc_rounds_from (by rintro ds d ⟨a, b, c, e, _, _, _, _, rfl, rfl⟩; rfl) fun cdv A outer s H E hr => ?_
  have nd := sc_rounds_from.nd
  refine ⟨_, (pss_cons (ps_set (i := 3) nd rfl (Or.inl rfl) (pe_lst (pa_cons (pv 2) pa_nil)))
    (pss_cons (ps_set (i := 4) nd rfl (Or.inl rfl) (pe_call D_what_is_due.ok (hr.mono (by omega)) (by rfl) D_what_is_due.mg D_what_is_due.kp D_what_is_due.bi .nil pass0 (pa_cons (pv 0) (pa_cons (pv 1) (pa_cons (pv 2) pa_nil)))))
    (pss_cons (ps_while PassesOwn.never (pt_cmpR (neD K (uq hr)) (pv 4) (pe_ix (ixL K) (pv 3) (pe_un un_neg pe_int) (fun _ _ => rfl)) (nomark _))
      (pss_cons (ps_expr (bmK K PySem.F.plainAttrs_list PySem.F.slot_list_append PySem.F.type_list_append mt_append (pv 3) (pa_cons (pv 4) pa_nil)))
      (pss_one (ps_set (i := 4) nd rfl (Or.inl rfl) (pe_call D_what_is_due.ok (hr.mono (by omega)) (by rfl) D_what_is_due.mg D_what_is_due.kp D_what_is_due.bi .nil pass0 (pa_cons (pv 0) (pa_cons (pv 1) (pa_cons (pv 4) pa_nil))))))))
    (pss_one (ps_ret (pv 3)))))),
    ?_⟩
  rintro ds d ⟨b, f, g, xs, hw, hl, hR, hz, rfl, rfl⟩ G0 H0 Q hQ
  refine q_asgN (ds := [eG g]) (en_lst (ed_cons (em_var rfl) ed_nil) (by simp)) fun p => ?_
  refine q_asg (em_call (ed_cons (em_var rfl) (ed_cons (em_var rfl) (ed_cons (em_var rfl) ed_nil))) ⟨b, f, g, hw, hl, rfl, rfl⟩) ?_
  refine g_seq (g_while (S := List (List Int) × List Int) (fun m s => ∃ r, Rounds b f s.2 r ∧ s.1 ++ r = xs ∧ m = r.length ∧ s.2.length = g.length)
    (fun s => [.da (eB b), .da (eG f), .da (eG g), .vw (.ref p), .da (eG (due b f s.2))]) (fun s => [(p, .l ((s.1 ++ [s.2]).map eG))]) xs.length ([], g) ⟨xs, hR, rfl, rfl, rfl⟩ (Wk.refl _) rfl ?_)
  rintro m ⟨pre, c⟩ ⟨r, h1, h2, rfl, h3⟩
  have h1 : Rounds b f c r := h1
  have h2 : pre ++ r = xs := h2
  have h3 : c.length = g.length := h3
  have hlast : ((pre ++ [c]).map eG)[((pre ++ [c]).map eG).length - 1]? = some (eG c) := by simp
  refine ⟨_, et_test (em_op (em_var rfl) (em_ixM (ev_var rfl) (List.mem_singleton.mpr rfl) (em_neg em_int) hlast (atI_neg1 (by simp))) (ro_neD ((sh_eG _).shaped (by decide)) ((sh_eG _).shaped (by decide)))), fun e => ?_, fun e => ?_⟩
  · rw [eqv_eG] at e
    have hne : due b f c ≠ c := by simpa using e
    cases h1 with
    | done h => exact absurd h hne
    | @step _ r' _ h1' =>
      have hn : wfB (due b f c).length n b := by rw [due_len, hl]; exact hw
      refine g_seq (g_app (k := 0) rfl (ev_var rfl) (em_var rfl) (by
        rw [List.length_map, List.length_append]
        have := congrArg List.length h2
        rw [List.length_append, List.length_cons] at this
        simp only [List.length_singleton]
        omega) ?_)
      refine g_asg (em_call (ed_cons (em_var rfl) (ed_cons (em_var rfl) (ed_cons (em_var rfl) ed_nil))) ⟨b, f, due b f c, hn, by rw [due_len], rfl, rfl⟩) ?_
      refine nt_pw (m' := r'.length) (s := (pre ++ [c], due b f c)) _ _ _ (by simp) ⟨r', h1', by simpa using h2, rfl, by show (due b f c).length = _; rw [due_len, hl]⟩ (Wk.refl _) ?_
      simp
  · rw [eqv_eG] at e
    have heq : due b f c = c := by simpa using e
    cases h1 with
    | step h _ => exact absurd heq h
    | done _ =>
      refine g_frz 0 3 rfl rfl (g_ret (em_var (d := .list ((pre ++ [c]).map eG)) rfl) ?_)
      rw [h2]
      exact hQ
abbrev s_rise : Stmt := topS 12
theorem sc_rise : FnScope ["book", "floor"] ["book", "floor"] (defScope s_rise) := ⟨rfl, rfl, rfl, by decide +kernel, rfl, by decide +kernel, by decide +kernel⟩
theorem ok_rise {k n : Nat} {f f1 : Addr} {fd fd1 : FuncData} (F : Fun K "rise" "rise" s_rise f fd) (D_rounds_from : Df P w K mg base k "rounds_from" ["book", "floor", "giving"] (spR (Rl_rounds n)) f1 fd1) : FnOk P w K mg base CX0 (k + 1) f fd ["book", "floor"] (spR (Rl_rise n)) := by
  refine fn_pure F sc_rise (by rintro ds d ⟨a, b, c, _, _, _, rfl, rfl⟩; rfl) fun cdv A outer s H E hr => ?_
  have nd := sc_rise.nd
  refine ⟨_, (pss_one (ps_ret (pe_call D_rounds_from.ok (hr.mono (by omega)) (by rfl) D_rounds_from.mg D_rounds_from.kp D_rounds_from.bi .nil pass0 (pa_cons (pv 0) (pa_cons (pv 1) (pa_cons (pv 1) pa_nil)))))),
    ?_⟩
  rintro ds d ⟨b, f, xs, hw, hR, hz, rfl, rfl⟩ G0 H0 Q hQ
  exact g_ret (em_call (ed_cons (em_var rfl) (ed_cons (em_var rfl) (ed_cons (em_var rfl) ed_nil))) ⟨b, f, f, xs, hw, rfl, hR, hz, rfl, rfl⟩) hQ
abbrev s_fall : Stmt := topS 13
theorem sc_fall : FnScope ["book", "floor"] ["book", "floor"] (defScope s_fall) := ⟨rfl, rfl, rfl, by decide +kernel, rfl, by decide +kernel, by decide +kernel⟩
theorem ok_fall {k n : Nat} {f f1 f2 : Addr} {fd fd1 fd2 : FuncData} (F : Fun K "fall" "fall" s_fall f fd) (hk : 2 ≤ k) (D_rounds_from : Df P w K mg base k "rounds_from" ["book", "floor", "giving"] (spR (Rl_rounds n)) f1 fd1) (D_roof : Df P w K mg base 2 "roof" ["book", "floor"] (spR (Rl_roof n)) f2 fd2) : FnOk P w K mg base CX0 (k + 1) f fd ["book", "floor"] (spR (Rl_fall n)) := by
  refine fn_pure F sc_fall (by rintro ds d ⟨a, b, c, _, _, _, rfl, rfl⟩; rfl) fun cdv A outer s H E hr => ?_
  have nd := sc_fall.nd
  refine ⟨_, (pss_one (ps_ret (pe_call D_rounds_from.ok (hr.mono (by omega)) (by rfl) D_rounds_from.mg D_rounds_from.kp D_rounds_from.bi .nil pass0 (pa_cons (pv 0) (pa_cons (pv 1) (pa_cons (pe_call D_roof.ok (hr.mono (by omega)) (by rfl) D_roof.mg D_roof.kp D_roof.bi .nil pass0 (pa_cons (pv 0) (pa_cons (pv 1) pa_nil))) pa_nil)))))),
    ?_⟩
  rintro ds d ⟨b, f, xs, hw, hR, hz, rfl, rfl⟩ G0 H0 Q hQ
  exact g_ret (em_call (ed_cons (em_var rfl) (ed_cons (em_var rfl) (ed_cons (em_call (ed_cons (em_var rfl) (ed_cons (em_var rfl) ed_nil)) ⟨b, f, hw, rfl, rfl⟩) ed_nil))) ⟨b, f, roof b f, xs, by rw [roof_len]; exact hw, by rw [roof_len], hR, hz, rfl, rfl⟩) hQ
abbrev s_least : Stmt := topS 14
theorem sc_least : FnScope ["book", "floor"] ["book", "floor"] (defScope s_least) := ⟨rfl, rfl, rfl, by decide +kernel, rfl, by decide +kernel, by decide +kernel⟩
theorem ok_least {k n : Nat} {f f1 : Addr} {fd fd1 : FuncData} (F : Fun K "least" "least" s_least f fd) (D_rise : Df P w K mg base k "rise" ["book", "floor"] (spR (Rl_rise n)) f1 fd1) : FnOk P w K mg base CX0 (k + 1) f fd ["book", "floor"] (spR (Rl_least n)) := by
  refine fn_pure F sc_least (by rintro ds d ⟨a, b, c, _, _, _, _, _, rfl, rfl⟩; rfl) fun cdv A outer s H E hr => ?_
  have nd := sc_least.nd
  refine ⟨_, (pss_one (ps_ret (pe_ix (ixL K) (pe_call D_rise.ok (hr.mono (by omega)) (by rfl) D_rise.mg D_rise.kp D_rise.bi .nil pass0 (pa_cons (pv 0) (pa_cons (pv 1) pa_nil))) (pe_un un_neg pe_int) (fun _ _ => rfl)))),
    ?_⟩
  rintro ds d ⟨b, f, xs, r, hw, hR, hz, hr', rfl, rfl⟩ G0 H0 Q hQ
  exact g_ret (em_ixL_last (em_call (ed_cons (em_var rfl) (ed_cons (em_var rfl) ed_nil)) ⟨b, f, xs, hw, hR, hz, rfl, rfl⟩) (em_neg em_int) (last_map hr')) hQ
abbrev s_greatest : Stmt := topS 15
theorem sc_greatest : FnScope ["book", "floor"] ["book", "floor"] (defScope s_greatest) := ⟨rfl, rfl, rfl, by decide +kernel, rfl, by decide +kernel, by decide +kernel⟩
theorem ok_greatest {k n : Nat} {f f1 : Addr} {fd fd1 : FuncData} (F : Fun K "greatest" "greatest" s_greatest f fd) (D_fall : Df P w K mg base k "fall" ["book", "floor"] (spR (Rl_fall n)) f1 fd1) : FnOk P w K mg base CX0 (k + 1) f fd ["book", "floor"] (spR (Rl_greatest n)) := by
  refine fn_pure F sc_greatest (by rintro ds d ⟨a, b, c, _, _, _, _, _, rfl, rfl⟩; rfl) fun cdv A outer s H E hr => ?_
  have nd := sc_greatest.nd
  refine ⟨_, (pss_one (ps_ret (pe_ix (ixL K) (pe_call D_fall.ok (hr.mono (by omega)) (by rfl) D_fall.mg D_fall.kp D_fall.bi .nil pass0 (pa_cons (pv 0) (pa_cons (pv 1) pa_nil))) (pe_un un_neg pe_int) (fun _ _ => rfl)))),
    ?_⟩
  rintro ds d ⟨b, f, xs, r, hw, hR, hz, hr', rfl, rfl⟩ G0 H0 Q hQ
  exact g_ret (em_ixL_last (em_call (ed_cons (em_var rfl) (ed_cons (em_var rfl) ed_nil)) ⟨b, f, xs, hw, hR, hz, rfl, rfl⟩) (em_neg em_int) (last_map hr')) hQ
abbrev s_crowds_of : Stmt := topS 17
theorem sc_crowds_of : FnScope ["many", "found", "one", "length", "crowd"] ["many"] (defScope s_crowds_of) := ⟨rfl, rfl, rfl, by decide +kernel, rfl, by decide +kernel, by decide +kernel⟩
theorem ok_crowds_of {f : Addr} {fd : FuncData} (F : Fun K "crowds_of" "crowds_of" s_crowds_of f fd) (B : Bi mg) : FnOk P w K mg base CX0 1 f fd ["many"] (spR Rl_crowds) := by
  refine fn_pure F sc_crowds_of (by rintro ds d ⟨a, _, rfl, rfl⟩; rfl) fun cdv A outer s H E hr => ?_
  have nd := sc_crowds_of.nd
  refine ⟨_, (pss_cons (ps_set (i := 1) nd rfl (Or.inl rfl) (pe_lst (pa_cons (pe_lst pa_nil) pa_nil)))
    (pss_cons (ps_for PassesOwn.never rfl (pi_range1 rfl B.range (pa_cons (pv 0) pa_nil)) (pg_name (i := 2) nd rfl (Or.inr rfl))
      (pss_one (ps_set (i := 1) nd rfl (Or.inl rfl) (pe_op op_cat (pv 1) (pe_lc (own := [("crowd", 4)]) (g := (gName 4)) (tt := tYes) rfl nd (piL K (pv 1)) (blkOk_by (N := ["many", "found", "one", "length", "crowd"]) (sc := (defScope s_crowds_of)) (by decide +kernel)) (fun _ _ _ _ _ => (pg_name (i := 4) nd rfl (Or.inl rfl))) (fun _ _ _ _ _ => pts_nil) (fun _ _ _ _ _ => (pe_op op_cat (pv 4) (pe_lst (pa_cons (pv 2) pa_nil)))))))))
    (pss_one (ps_ret (pe_lc (own := [("length", 3), ("crowd", 4)]) (g := (gTup K 2 (gCons (gName 3) (gCons (gName 4) gNil)))) (tt := tYes) rfl nd (piL K (pe_callB (sortedD K (us hr)) (by rfl) B.sorted (by decide +kernel) (pa_cons (pe_lc (own := [("crowd", 4)]) (g := (gName 4)) (tt := tYes) rfl nd (piL K (pv 1)) (blkOk_by (N := ["many", "found", "one", "length", "crowd"]) (sc := (defScope s_crowds_of)) (by decide +kernel)) (fun _ _ _ _ _ => (pg_name (i := 4) nd rfl (Or.inl rfl))) (fun _ _ _ _ _ => pts_nil) (fun _ _ _ _ _ => (pe_tup (pa_cons (pe_callB (lenS K) (by rfl) B.len (by decide +kernel) (pa_cons (pv 4) pa_nil)) (pa_cons (pv 4) pa_nil))))) pa_nil))) (blkOk_by (N := ["many", "found", "one", "length", "crowd"]) (sc := (defScope s_crowds_of)) (by decide +kernel)) (fun _ _ _ _ _ => (pgT K (pgs_cons (pg_name (i := 3) nd rfl (Or.inl rfl)) (pgs_cons (pg_name (i := 4) nd rfl (Or.inl rfl)) pgs_nil)))) (fun _ _ _ _ _ => pts_nil) (fun _ _ _ _ _ => (pv 4))))))),
    ?_⟩
  rintro ds d ⟨n, hn, rfl, rfl⟩ G0 H0 Q hQ
  refine q_asg (d := .list ([[]].map eC)) (EN.em (en_one (EN.em en_nil))) ?_
  refine g_seq (g_forR (S := List (List Nat)) (fun i s => s = crowds0 i) (fun s => [.da (.int (n : Int)), .da (.list (s.map eC)), .un, .un, .un]) (fun _ => []) (n := n) (ed_cons (em_var rfl) ed_nil) (by omega) [[]] rfl (Wk.refl _) rfl ?_ ?_)
  · rintro i s hi rfl
    have hp := crowds0_len i
    have h2 := pow12 (n := i) (by omega)
    refine g_asg (d := .list ((crowds0 (i + 1)).map eC)) (em_is (EN.em (en_op (em_var rfl) (EN.em (en_lcL eC (crowds0 i) (fun _ => true) (fun c => eC (c ++ [i])) (em_var rfl) (by omega) (fun c hc => ⟨_, eg_name, et_yes, fun _ => em_is (EN.em (en_op (em_var rfl) (EN.em (en_one (em_var rfl))) (ron_cat ?_))) (by rw [eC, eN_snoc])⟩) (by decide))) (ron_cat ?_))) ?_) ?_
    · have := crowds0_mem_len i c hc
      simp only [eN, iN, List.length_map, List.length_singleton]
      omega
    · have := lcOut_len (fun _ : List Nat => true) (fun c => eC (c ++ [i])) (crowds0 i)
      rw [List.length_map]
      omega
    · rw [lcOut_true, crowds0_succ, crowdStep, List.map_append, List.map_map]
      rfl
    · exact nt_pi _ _ _ (s := crowds0 (i + 1)) rfl ⟨.inr rfl, .inr rfl, .inl rfl, .inl rfl, .inl rfl, trivial⟩ rfl
  · rintro s rfl
    have hp := crowds0_len n
    have h2 := pow12 hn
    refine g_ret (em_is (EN.em (en_lcL eLC (crowdsOf n) (fun _ => true) eC (EN.em (en_sorted eLC (crowds0 n) (em_is (EN.em (en_lcL eC (crowds0 n) (fun _ => true) eLC (em_var rfl) (by omega) (fun c hc => ⟨_, eg_name, et_yes, fun _ => em_is (em_pair (em_len_l (em_var rfl)) (em_var rfl)) ?_⟩) (by decide))) (by rw [lcOut_true])) alike_eLC (sortable_eLC _) (fun c => Nat.le_trans (sh_eLC c).dep (by decide)))) ?_ (fun c hc => ⟨_, eg_tup (egs_cons eg_name (egs_cons eg_name egs_nil)) rfl, et_yes, fun _ => em_var rfl⟩) (by decide))) (by rw [lcOut_true])) hQ
    · simp [eLC, eC, eN, iN]
    · unfold crowdsOf
      rw [List.length_mergeSort]
      omega
abbrev s_only_for : Stmt := topS 18
theorem sc_only_for : FnScope ["crowd", "one", "other", "at"] ["crowd", "one", "other"] (defScope s_only_for) := ⟨rfl, rfl, rfl, by decide +kernel, rfl, by decide +kernel, by decide +kernel⟩
theorem ok_only_for {f : Addr} {fd : FuncData} (F : Fun K "only_for" "only_for" s_only_for f fd) (B : Bi mg) : FnOk P w K mg base CX0 1 f fd ["crowd", "one", "other"] (spR Rl_onlyFor) := by
  refine fn_pure F sc_only_for (by rintro ds d ⟨a, b, c, _, _, rfl, rfl⟩; rfl) fun cdv A outer s H E hr => ?_
  have nd := sc_only_for.nd
  refine ⟨_, (pss_one (ps_ret (pe_callTy (tupOf K) (by rfl) B.tuple (by decide +kernel) (pa_cons (pe_lc (own := [("at", 3)]) (g := (gName 3)) (tt := tYes) rfl nd (pi_range1 rfl B.range (pa_cons (pe_callB (lenS K) (by rfl) B.len (by decide +kernel) (pa_cons (pv 1) pa_nil)) pa_nil)) (blkOk_by (N := ["crowd", "one", "other", "at"]) (sc := (defScope s_only_for)) (by decide +kernel)) (fun _ _ _ _ _ => (pg_name (i := 3) nd rfl (Or.inl rfl))) (fun _ _ _ _ _ => pts_nil) (fun _ _ _ _ _ => (pe_ifExp (pt_cmpR (inS K) (pv 3) (pv 0) (by rfl)) (pe_ix (ixT K) (pv 1) (pv 3) (fun _ _ => rfl)) (pe_ix (ixT K) (pv 2) (pv 3) (fun _ _ => rfl))))) pa_nil)))),
    ?_⟩
  rintro ds d ⟨c, a, b, hl, hz, rfl, rfl⟩ G0 H0 Q hQ
  refine g_ret (em_is (em_cb (ed_cons (EN.em (en_lcR (n := a.length) (fun _ => true) (fun i => .int (if i ∈ c then gv a i else gv b i)) (ed_cons (em_len_g (em_var rfl)) ed_nil) (by omega) (fun i hi => ⟨et_yes, fun _ => ?_⟩) (by decide))) ed_nil) rc_tuple_l) ?_) hQ
  · refine em_if (et_test (em_in (em_var rfl) (em_var rfl))) (fun e => ?_) (fun e => ?_)
    · rw [if_pos (of_decide_eq_true e)]
      exact em_gi (em_var rfl) (em_var rfl) hi
    · rw [if_neg (of_decide_eq_false e)]
      exact em_gi (em_var rfl) (em_var rfl) (by omega)
  · rw [lcOut_true, eG, onlyFor, List.map_map]
    rfl
abbrev s_held : Stmt := topS 19
theorem sc_held : FnScope ["book", "floor", "base", "crowd", "giving", "later"] ["book", "floor", "base", "crowd"] (defScope s_held) := ⟨rfl, rfl, rfl, by decide +kernel, rfl, by decide +kernel, by decide +kernel⟩
theorem ok_held {k n : Nat} {f f1 f2 f3 : Addr} {fd fd1 fd2 fd3 : FuncData} (F : Fun K "held" "held" s_held f fd) (hk : 2 ≤ k) (D_what_is_due : Df P w K mg base k "what_is_due" ["book", "floor", "giving"] (spR (Rl_due n)) f1 fd1) (D_roof : Df P w K mg base 2 "roof" ["book", "floor"] (spR (Rl_roof n)) f2 fd2)
    (D_only_for : Df P w K mg base 1 "only_for" ["crowd", "one", "other"] (spR Rl_onlyFor) f3 fd3) : FnOk P w K mg base CX0 (k + 1) f fd ["book", "floor", "base", "crowd"] (spR (Rl_held n)) := by
  refine fn_pure F sc_held (by rintro ds d ⟨_, _, _, _, _, _, _, _, rfl, rfl⟩; rfl) fun cdv A outer s H E hr => ?_
  have nd := sc_held.nd
  refine ⟨_, (pss_cons (ps_set (i := 4) nd rfl (Or.inl rfl) (pe_call D_only_for.ok (hr.mono (by omega)) (by rfl) D_only_for.mg D_only_for.kp D_only_for.bi .nil pass0 (pa_cons (pv 3) (pa_cons (pe_call D_roof.ok (hr.mono (by omega)) (by rfl) D_roof.mg D_roof.kp D_roof.bi .nil pass0 (pa_cons (pv 0) (pa_cons (pv 1) pa_nil))) (pa_cons (pv 2) pa_nil)))))
    (pss_cons (ps_set (i := 5) nd rfl (Or.inl rfl) (pe_call D_only_for.ok (hr.mono (by omega)) (by rfl) D_only_for.mg D_only_for.kp D_only_for.bi .nil pass0 (pa_cons (pv 3) (pa_cons (pe_call D_what_is_due.ok (hr.mono (by omega)) (by rfl) D_what_is_due.mg D_what_is_due.kp D_what_is_due.bi .nil pass0 (pa_cons (pv 0) (pa_cons (pv 1) (pa_cons (pv 4) pa_nil)))) (pa_cons (pv 2) pa_nil)))))
    (pss_cons (ps_while PassesOwn.never (pt_cmpR (neD K (uq hr)) (pv 5) (pv 4) (nomark _))
      (pss_cons (ps_set (i := 4) nd rfl (Or.inl rfl) (pv 5))
      (pss_one (ps_set (i := 5) nd rfl (Or.inl rfl) (pe_call D_only_for.ok (hr.mono (by omega)) (by rfl) D_only_for.mg D_only_for.kp D_only_for.bi .nil pass0 (pa_cons (pv 3) (pa_cons (pe_call D_what_is_due.ok (hr.mono (by omega)) (by rfl) D_what_is_due.mg D_what_is_due.kp D_what_is_due.bi .nil pass0 (pa_cons (pv 0) (pa_cons (pv 1) (pa_cons (pv 4) pa_nil)))) (pa_cons (pv 2) pa_nil))))))))
    (pss_one (ps_ret (pv 4)))))),
    ?_⟩
  rintro ds d ⟨b, f, bs, c, r, hw, hl, ⟨m, hR⟩, rfl, rfl⟩ G0 H0 Q hQ
  have hz := hw.2.1
  have ol : ∀ x : List Int, (onlyFor c x bs).length = x.length := fun x => by unfold onlyFor; rw [List.length_map, List.length_range]
  have nxt : ∀ (ss : List SP) (Ms : MS) (g : List Int) (i j l q t : Nat) (hg : g.length = f.length), ss[i]? = some (.da (eC c)) → ss[j]? = some (.da (eB b)) → ss[l]? = some (.da (eG f)) → ss[q]? = some (.da (eG g)) → ss[t]? = some (.da (eG bs)) →
      EM ss Ms (tCall (spR Rl_onlyFor) [] E0 (tCons (tVar i) (tCons (tCall (spR (Rl_due n)) [] E0 (tCons (tVar j) (tCons (tVar l) (tCons (tVar q) tNil)))) (tCons (tVar t) tNil)))) (eG (onlyFor c (due b f g) bs)) := fun ss Ms g i j l q t hg h1 h2 h3 h4 h5 =>
    em_call (ed_cons (em_var h1) (ed_cons (em_call (ed_cons (em_var h2) (ed_cons (em_var h3) (ed_cons (em_var h4) ed_nil))) ⟨b, f, g, by rw [hg]; exact hw, hg.symm, rfl, rfl⟩) (ed_cons (em_var h5) ed_nil))) ⟨c, due b f g, bs, by rw [due_len, hl], by rw [due_len]; exact hz, rfl, rfl⟩
  refine q_asg (d := eG (onlyFor c (roof b f) bs)) (em_call (ed_cons (em_var rfl) (ed_cons (em_call (ed_cons (em_var rfl) (ed_cons (em_var rfl) ed_nil)) ⟨b, f, hw, rfl, rfl⟩) (ed_cons (em_var rfl) ed_nil))) ⟨c, roof b f, bs, by rw [roof_len, hl], by rw [roof_len]; exact hz, rfl, rfl⟩) ?_
  refine q_asg (nxt _ _ (onlyFor c (roof b f) bs) _ _ _ _ _ (by rw [ol, roof_len]) rfl rfl rfl rfl rfl) ?_
  refine g_seq (g_while (S := List Int) (fun m g => Held b f bs c m g r ∧ g.length = f.length) (fun g => [.da (eB b), .da (eG f), .da (eG bs), .da (eC c), .da (eG g), .da (eG (onlyFor c (due b f g) bs))]) (fun _ => []) m (onlyFor c (roof b f) bs) ⟨hR, by rw [ol, roof_len]⟩ (Wk.refl _) rfl ?_)
  rintro m g ⟨h1, hg⟩
  refine ⟨_, et_test (em_op (em_var rfl) (em_var rfl) (ro_neD ((sh_eG _).shaped (by decide)) ((sh_eG _).shaped (by decide)))), fun e => ?_, fun e => ?_⟩
  · rw [eqv_eG] at e
    have hne : onlyFor c (due b f g) bs ≠ g := by simpa using e
    cases h1 with
    | done h => exact absurd h hne
    | @step m' _ _ _ h1' =>
      have hg' : (onlyFor c (due b f g) bs).length = f.length := by rw [ol, due_len]
      refine q_asg (em_var rfl) ?_
      refine g_asg (nxt _ _ (onlyFor c (due b f g) bs) _ _ _ _ _ hg' rfl rfl rfl rfl rfl) ?_
      exact nt_pw _ _ _ (m' := m') (s := onlyFor c (due b f g) bs) (by omega) ⟨h1', hg'⟩ (Wk.refl _) rfl
  · rw [eqv_eG] at e
    have heq : onlyFor c (due b f g) bs = g := by simpa using e
    cases h1 with
    | step h _ => exact absurd heq h
    | done _ => exact g_ret (em_var rfl) hQ
abbrev s_alone : Stmt := topS 20
theorem sc_alone : FnScope ["book", "floor", "crowd"] ["book", "floor", "crowd"] (defScope s_alone) := ⟨rfl, rfl, rfl, by decide +kernel, rfl, by decide +kernel, by decide +kernel⟩
theorem ok_alone {k n : Nat} {f f1 f2 : Addr} {fd fd1 fd2 : FuncData} (F : Fun K "alone" "alone" s_alone f fd) (D_held : Df P w K mg base k "held" ["book", "floor", "base", "crowd"] (spR (Rl_held n)) f1 fd1) (D_least : Df P w K mg base k "least" ["book", "floor"] (spR (Rl_least n)) f2 fd2) : FnOk P w K mg base CX0 (k + 1) f fd ["book", "floor", "crowd"] (spR (Rl_alone n)) := by
  refine fn_pure F sc_alone (by rintro ds d ⟨_, _, _, _, _, _, _, _, _, rfl, rfl⟩; rfl) fun cdv A outer s H E hr => ?_
  have nd := sc_alone.nd
  refine ⟨_, (pss_one (ps_ret (pe_call D_held.ok (hr.mono (by omega)) (by rfl) D_held.mg D_held.kp D_held.bi .nil pass0 (pa_cons (pv 0) (pa_cons (pv 1) (pa_cons (pe_call D_least.ok (hr.mono (by omega)) (by rfl) D_least.mg D_least.kp D_least.bi .nil pass0 (pa_cons (pv 0) (pa_cons (pv 1) pa_nil))) (pa_cons (pv 2) pa_nil))))))),
    ?_⟩
  rintro ds d ⟨b, f, bs, c, r, hw, ⟨xs, x1, x2, x3⟩, hl, hR, rfl, rfl⟩ G0 H0 Q hQ
  exact g_ret (em_call (ed_cons (em_var rfl) (ed_cons (em_var rfl) (ed_cons (em_call (ed_cons (em_var rfl) (ed_cons (em_var rfl) ed_nil)) ⟨b, f, xs, bs, hw, x1, x2, x3, rfl, rfl⟩) (ed_cons (em_var rfl) ed_nil)))) ⟨b, f, bs, c, r, hw, hl, hR, rfl, rfl⟩) hQ
abbrev s_knots : Stmt := topS 21
theorem sc_knots : FnScope ["book", "floor", "base", "found", "crowd", "knot", "one"] ["book", "floor"] (defScope s_knots) := ⟨rfl, rfl, rfl, by decide +kernel, rfl, by decide +kernel, by decide +kernel⟩
theorem ok_knots {k n : Nat} {f f1 f2 f3 : Addr} {fd fd1 fd2 fd3 : FuncData} (F : Fun K "knots" "knots" s_knots f fd) (B : Bi mg) (hk : 1 ≤ k) (D_held : Df P w K mg base k "held" ["book", "floor", "base", "crowd"] (spR (Rl_held n)) f1 fd1) (D_least : Df P w K mg base k "least" ["book", "floor"] (spR (Rl_least n)) f2 fd2)
    (D_crowds_of : Df P w K mg base 1 "crowds_of" ["many"] (spR Rl_crowds) f3 fd3) : FnOk P w K mg base CX0 (k + 1) f fd ["book", "floor"] (spR (Rl_knots n)) := by
  refine fn_pure F sc_knots (by rintro ds d ⟨_, _, _, _, _, _, rfl, rfl⟩; rfl) fun cdv A outer s H E hr => ?_
  have nd := sc_knots.nd
  refine ⟨_, (pss_cons (ps_set (i := 2) nd rfl (Or.inl rfl) (pe_call D_least.ok (hr.mono (by omega)) (by rfl) D_least.mg D_least.kp D_least.bi .nil pass0 (pa_cons (pv 0) (pa_cons (pv 1) pa_nil))))
    (pss_cons (ps_set (i := 3) nd rfl (Or.inl rfl) (pe_lst pa_nil))
    (pss_cons (ps_for PassesOwn.never rfl (piL K (pe_call D_crowds_of.ok (hr.mono (by omega)) (by rfl) D_crowds_of.mg D_crowds_of.kp D_crowds_of.bi .nil pass0 (pa_cons (pe_callB (lenS K) (by rfl) B.len (by decide +kernel) (pa_cons (pv 0) pa_nil)) pa_nil))) (pg_name (i := 4) nd rfl (Or.inr rfl))
      (pss_one (ps_if (pt_not (pt_val (pe_callB (anyL K) (by rfl) B.any (by decide +kernel) (pa_cons (pe_lc (own := [("knot", 5)]) (g := (gName 5)) (tt := tYes) rfl nd (piL K (pv 3)) (blkOk_by (N := ["book", "floor", "base", "found", "crowd", "knot", "one"]) (sc := (defScope s_knots)) (by decide +kernel)) (fun _ _ _ _ _ => (pg_name (i := 5) nd rfl (Or.inl rfl))) (fun _ _ _ _ _ => pts_nil) (fun _ _ _ _ _ => (pe_callB (allL K) (by rfl) B.all (by decide +kernel) (pa_cons (pe_lc (own := [("one", 6)]) (g := (gName 6)) (tt := tYes) rfl nd (piL K (pv 5)) (blkOk_by (N := ["book", "floor", "base", "found", "crowd", "knot", "one"]) (sc := (relS _ (defScope s_knots))) (by decide +kernel)) (fun _ _ _ _ _ => (pg_name (i := 6) nd rfl (Or.inl rfl))) (fun _ _ _ _ _ => pts_nil) (fun _ _ _ _ _ => (pe_cmpR (inS K) (pv 6) (pv 4) (by rfl)))) pa_nil)))) pa_nil)))) (pss_one (ps_if (pt_cmpR (neD K (uq hr)) (pe_call D_held.ok (hr.mono (by omega)) (by rfl) D_held.mg D_held.kp D_held.bi .nil pass0 (pa_cons (pv 0) (pa_cons (pv 1) (pa_cons (pv 2) (pa_cons (pv 4) pa_nil))))) (pv 2) (nomark _)) (pss_one (ps_expr (bmK K PySem.F.plainAttrs_list PySem.F.slot_list_append PySem.F.type_list_append mt_append (pv 3) (pa_cons (pv 4) pa_nil)))) pss_nil)) pss_nil)))
    (pss_one (ps_ret (pe_callB (sortedD K (us hr)) (by rfl) B.sorted (by decide +kernel) (pa_cons (pv 3) pa_nil))))))),
    ?_⟩
  rintro ds d ⟨b, f, ks, hw, h12, ⟨bs, hv, ⟨xs, x1, x2, x3⟩, hl, hh, rfl⟩, rfl, rfl⟩ G0 H0 Q hQ
  have hcl : (crowdsOf f.length).length = 2 ^ f.length := by unfold crowdsOf; rw [List.length_mergeSort, crowds0_len]
  have h40 := pow12 h12
  have hcm : ∀ c ∈ crowdsOf f.length, c.length ≤ f.length := fun c hc => crowds0_mem_len _ c (by unfold crowdsOf at hc; exact List.mem_mergeSort.mp hc)
  refine q_asg (em_call (ed_cons (em_var rfl) (ed_cons (em_var rfl) ed_nil)) ⟨b, f, xs, bs, hw, x1, x2, x3, rfl, rfl⟩) ?_
  refine q_asgN (ds := []) en_nil fun p => ?_
  refine g_seq (g_forL (S := List (List Nat)) (fun i s => s = knots0 hv bs ((crowdsOf f.length).take i)) (fun s => [.da (eB b), .da (eG f), .da (eG bs), .vw (.ref p), .un, .un, .un]) (fun s => [(p, .l (s.map eC))]) eC (crowdsOf f.length)
    (em_call (ed_cons (em_is (em_len_l (em_var rfl)) (by rw [List.length_map, hw.1])) ed_nil) ⟨f.length, h12, rfl, rfl⟩) [] rfl (Wk.refl _) rfl ?_ ?_)
  · rintro i c s G1 up hc rfl
    have hcm' := List.mem_of_getElem? hc
    have hstep : knots0 hv bs ((crowdsOf f.length).take (i + 1)) = knotStep hv bs (knots0 hv bs ((crowdsOf f.length).take i)) c := by
      rw [List.take_add_one, hc, Option.toList_some, knots0_snoc]
    have hkl : (knots0 hv bs ((crowdsOf f.length).take i)).length ≤ 4096 := Nat.le_trans (knots0_len _ _ _) (by rw [List.length_take]; omega)
    generalize hF : knots0 hv bs ((crowdsOf f.length).take i) = fd0 at *
    refine ⟨_, _, eg_name, ?_⟩
    refine g_if (b := !(fd0.any (hitBy c))) (et_not (et_B (em_frz 0 3 rfl rfl (em_is (em_cb (ed_cons (em_is (EN.em (en_lcL eC fd0 (fun _ => true) (fun kn => .bool (hitBy c kn)) (em_var rfl) (by omega) (fun kn hkn => ⟨_, eg_name, et_yes, fun _ => ?kk⟩) (by decide))) (show _ = PyData.list ((fd0.map (hitBy c)).map .bool) by rw [lcOut_true, List.map_map]; rfl)) ed_nil) rc_any) ?ka) rfl))) (fun e => ?_) (fun e => ?_)
    case kk =>
      have hkl2 : kn.length ≤ f.length := by
        have : kn ∈ knots0 hv bs ((crowdsOf f.length).take i) := by rw [hF]; exact hkn
        exact hcm kn (List.mem_of_mem_take (knots0_sub this))
      refine em_is (em_cb (ed_cons (em_is (EN.em (en_lcL (α := Nat) (fun o => .int (o : Int)) kn (fun _ => true) (fun o => .bool (decide (o ∈ c))) (em_is (em_var rfl) (by simp [eC, eN, iN])) (by omega) (fun o ho => ⟨_, eg_name, et_yes, fun _ => em_in (em_var rfl) (em_var rfl)⟩) (by decide))) (show _ = PyData.list ((kn.map fun o => decide (o ∈ c)).map .bool) by rw [lcOut_true, List.map_map]; rfl)) ed_nil) rc_all) ?_
      rw [hitBy, List.all_map]
      rfl
    case ka =>
      rw [List.any_map]
      rfl
    · have e' : fd0.any (hitBy c) = false := by simpa using e
      refine g_if (b := !decide (hv c = bs)) (et_is (et_test (em_op (em_call (ed_cons (em_var rfl) (ed_cons (em_var rfl) (ed_cons (em_var rfl) (ed_cons (em_var rfl) ed_nil)))) ⟨b, f, bs, c, hv c, hw, hl, hh c hcm', rfl, rfl⟩) (em_var rfl) (ro_neD ((sh_eG _).shaped (by decide)) ((sh_eG _).shaped (by decide))))) (by rw [eqv_eG])) (fun e2 => ?_) (fun e2 => ?_)
      · have e2' : ¬ hv c = bs := by simpa using e2
        refine g_app (k := 0) rfl (ev_var rfl) (em_var rfl) (by rw [List.length_map]; omega) ?_
        refine nt_pi _ _ _ (s := fd0 ++ [c]) ?_ ⟨.inr rfl, .inr rfl, .inr rfl, .inr rfl, .inl rfl, .inl rfl, .inl rfl, trivial⟩ ?_
        · rw [hstep, knotStep, e', if_neg Bool.false_ne_true, if_neg e2']
        · simp
      · have e2' : hv c = bs := by simpa using e2
        refine g_next (nt_pi _ _ _ (s := fd0) ?_ ⟨.inr rfl, .inr rfl, .inr rfl, .inr rfl, .inl rfl, .inl rfl, .inl rfl, trivial⟩ rfl)
        rw [hstep, knotStep, e', if_neg Bool.false_ne_true, if_pos e2']
    · have e' : fd0.any (hitBy c) = true := by simpa using e
      refine g_next (nt_pi _ _ _ (s := fd0) ?_ ⟨.inr rfl, .inr rfl, .inr rfl, .inr rfl, .inl rfl, .inl rfl, .inl rfl, trivial⟩ rfl)
      rw [hstep, knotStep, e', if_pos rfl]
  · rintro s rfl
    rw [List.take_length]
    refine g_frz 0 3 rfl rfl (g_ret (EN.em (en_sorted eC _ (em_var rfl) alike_eC (sortable_eC _) fun c => Nat.le_trans (sh_eC c).dep (by decide))) hQ)
abbrev s_climb : Stmt := topS 22
theorem sc_climb : FnScope ["book", "floor", "found", "here", "ahead", "giving"] ["book", "floor"] (defScope s_climb) := ⟨rfl, rfl, rfl, by decide +kernel, rfl, by decide +kernel, by decide +kernel⟩
theorem ok_climb {k n : Nat} {f f1 f2 f3 f4 : Addr} {fd fd1 fd2 fd3 fd4 : FuncData} (F : Fun K "climb" "climb" s_climb f fd) (D_held : Df P w K mg base k "held" ["book", "floor", "base", "crowd"] (spR (Rl_held n)) f1 fd1) (D_least : Df P w K mg base k "least" ["book", "floor"] (spR (Rl_least n)) f2 fd2)
    (D_rounds_from : Df P w K mg base k "rounds_from" ["book", "floor", "giving"] (spR (Rl_rounds n)) f3 fd3) (D_knots : Df P w K mg base k "knots" ["book", "floor"] (spR (Rl_knots n)) f4 fd4) : FnOk P w K mg base CX0 (k + 1) f fd ["book", "floor"] (spR (Rl_climb n)) := by
  refine fn_pure F sc_climb (by rintro ds d ⟨_, _, _, _, _, _, _, _, _, _, _, _, rfl, rfl⟩; rfl) fun cdv A outer s H E hr => ?_
  have nd := sc_climb.nd
  refine ⟨_, (pss_cons (ps_set (i := 2) nd rfl (Or.inl rfl) (pe_lst pa_nil))
    (pss_cons (ps_set (i := 3) nd rfl (Or.inl rfl) (pe_call D_least.ok (hr.mono (by omega)) (by rfl) D_least.mg D_least.kp D_least.bi .nil pass0 (pa_cons (pv 0) (pa_cons (pv 1) pa_nil))))
    (pss_cons (ps_set (i := 4) nd rfl (Or.inl rfl) (pe_call D_knots.ok (hr.mono (by omega)) (by rfl) D_knots.mg D_knots.kp D_knots.bi .nil pass0 (pa_cons (pv 0) (pa_cons (pv 3) pa_nil))))
    (pss_cons (ps_while PassesOwn.never (pt_cmpR (neD K (uq hr)) (pv 4) (pe_lst pa_nil) (nomark _))
      (pss_cons (ps_set (i := 5) nd rfl (Or.inl rfl) (pe_call D_held.ok (hr.mono (by omega)) (by rfl) D_held.mg D_held.kp D_held.bi .nil pass0 (pa_cons (pv 0) (pa_cons (pv 3) (pa_cons (pv 3) (pa_cons (pe_ix (ixL K) (pv 4) pe_int (fun _ _ => rfl)) pa_nil))))))
      (pss_cons (ps_set (i := 3) nd rfl (Or.inl rfl) (pe_ix (ixL K) (pe_call D_rounds_from.ok (hr.mono (by omega)) (by rfl) D_rounds_from.mg D_rounds_from.kp D_rounds_from.bi .nil pass0 (pa_cons (pv 0) (pa_cons (pv 3) (pa_cons (pv 5) pa_nil)))) (pe_un un_neg pe_int) (fun _ _ => rfl)))
      (pss_cons (ps_expr (bmK K PySem.F.plainAttrs_list PySem.F.slot_list_append PySem.F.type_list_append mt_append (pv 2) (pa_cons (pe_tup (pa_cons (pe_ix (ixL K) (pv 4) pe_int (fun _ _ => rfl)) (pa_cons (pv 3) pa_nil))) pa_nil)))
      (pss_one (ps_set (i := 4) nd rfl (Or.inl rfl) (pe_call D_knots.ok (hr.mono (by omega)) (by rfl) D_knots.mg D_knots.kp D_knots.bi .nil pass0 (pa_cons (pv 0) (pa_cons (pv 3) pa_nil)))))))))
    (pss_one (ps_ret (pv 2))))))),
    ?_⟩
  rintro ds d ⟨b, f, bs, m, ks, out, hw, h12, ⟨xs, x1, x2, x3⟩, hl, hC, hz, rfl, rfl⟩ G0 H0 Q hQ
  have hwb : wfB bs.length n b := by rw [hl]; exact hw
  refine q_asgN (ds := []) en_nil fun p => ?_
  refine q_asg (em_call (ed_cons (em_var rfl) (ed_cons (em_var rfl) ed_nil)) ⟨b, f, xs, bs, hw, x1, x2, x3, rfl, rfl⟩) ?_
  refine q_asg (em_call (ed_cons (em_var rfl) (ed_cons (em_var rfl) ed_nil)) ⟨b, bs, ks, hwb, by omega, hC.kn, rfl, rfl⟩) ?_
  refine g_seq (g_while (S := List (List Nat × List Int) × List Int × List (List Nat)) (fun m s => ∃ rest, Climb b m s.2.1 s.2.2 rest ∧ s.1 ++ rest = out ∧ s.2.1.length = f.length) (fun s => [.da (eB b), .da (eG f), .vw (.ref p), .da (eG s.2.1), .da (.list (s.2.2.map eC)), .un]) (fun s => [(p, .l (s.1.map eKG))]) m ([], bs, ks) ⟨out, hC, rfl, hl⟩ (Wk.refl _) rfl ?_)
  rintro m ⟨acc, here, ks⟩ ⟨rest, h1, h2, h3⟩
  have h1 : Climb b m here ks rest := h1
  have h2 : acc ++ rest = out := h2
  have h3 : here.length = f.length := h3
  refine ⟨!decide (ks = []), et_is (et_test (em_op (em_var rfl) (EN.em en_nil) (ro_neD ((sh_list sh_eC _).shaped (by decide)) ((sh_list sh_eC []).shaped (by decide))))) (congrArg not (eqv_eLs ks [])), fun e => ?_, fun e => ?_⟩
  · cases h1 with
    | done _ => simp at e
    | @step m' _ g r kk ks ks' ys rest' c1 c2 c3 c4 c5 c6 c7 c8 =>
      have hwh : wfB here.length n b := by rw [h3]; exact hw
      refine q_asg (em_call (ed_cons (em_var rfl) (ed_cons (em_var rfl) (ed_cons (em_var rfl) (ed_cons (em_l0 (K := K) (em_var (d := .list ((kk :: ks).map eC)) rfl)) ed_nil)))) ⟨b, here, here, kk, g, hwh, rfl, c2, rfl, rfl⟩) ?_
      refine q_asg (em_ixL_last (em_call (ed_cons (em_var rfl) (ed_cons (em_var rfl) (ed_cons (em_var rfl) ed_nil))) ⟨b, here, g, ys, by rw [c3]; exact hwh, c3.symm, c4, c5, rfl, rfl⟩) (em_neg em_int) (last_map c6)) ?_
      refine g_seq (g_app (k := 0) rfl (ev_var rfl) (d := eKG (kk, r)) (em_pair (em_l0 (K := K) (em_var (d := .list ((kk :: ks).map eC)) rfl)) (em_var rfl)) (by
        rw [List.length_map]
        have := congrArg List.length h2
        rw [List.length_append, List.length_cons] at this
        omega) ?_)
      refine g_asg (em_call (ed_cons (em_var rfl) (ed_cons (em_var rfl) ed_nil)) ⟨b, r, ks', by rw [c7]; exact hwh, by omega, c8.kn, rfl, rfl⟩) ?_
      refine nt_pw _ _ _ (m' := m') (s := (acc ++ [(kk, r)], r, ks')) (by omega) ⟨rest', c8, by simpa using h2, by show r.length = _; omega⟩ ⟨.inr rfl, .inr rfl, .inr rfl, .inr rfl, .inr rfl, .inl rfl, trivial⟩ ?_
      simp
  · cases h1 with
    | step _ _ _ _ _ _ _ _ => simp at e
    | done _ =>
      refine g_frz 0 2 rfl rfl (g_ret (em_var (d := .list (acc.map eKG)) rfl) ?_)
      have : acc = out := by simpa using h2
      rw [this]
      exact hQ
abbrev s__law_draws : Stmt := topS 24
theorem sc__law_draws : FnScope ["_law_cell", "_law_parts", "_law_one", "_law_two", "_law_six", "_law_found", "_law_part"] ["_law_cell", "_law_parts"] (defScope s__law_draws) := ⟨rfl, rfl, rfl, by decide +kernel, rfl, by decide +kernel, by decide +kernel⟩
theorem ok_draws {f : Addr} {fd : FuncData} (F : Fun K "_law_draws" "_law_draws" s__law_draws f fd) (B : Bi mg) : FnOk P w K mg base CX0 1 f fd ["_law_cell", "_law_parts"] (spR Rl_draws) := by
  refine fn_pure F sc__law_draws (by rintro ds d ⟨_, _, _, _, rfl, rfl⟩; rfl) fun cdv A outer s H E hr => ?_
  have nd := sc__law_draws.nd
  refine ⟨_, (pss_cons (ps_if (pt_cmpR op_lt (pe_callB call_abs (by rfl) B.abs (by decide +kernel) (pa_cons (pv 0) pa_nil)) (pe_op op_pow pe_int pe_int) (nomark _)) (pss_cons (ps_set (i := 2) nd rfl (Or.inl rfl) (pe_op op_mod (pe_op op_add (pe_op op_mul (pv 0) pe_int) pe_int) pe_int))
      (pss_cons (ps_set (i := 3) nd rfl (Or.inl rfl) (pe_op op_mod (pe_op op_add (pe_op op_add (pe_op op_mul (pv 2) (pv 2)) (pe_op op_mul pe_int (pv 2))) (pv 0)) pe_int))
      (pss_cons (ps_set (i := 4) nd rfl (Or.inl rfl) (pe_op op_mod (pe_op op_add (pe_op op_mul (pv 3) pe_int) (pv 2)) pe_int))
      (pss_one (ps_set (i := 0) nd rfl (Or.inl rfl) (pe_op op_add (pv 3) (pe_op op_mul pe_int (pe_op op_add (pv 4) (pe_op op_mul pe_int (pv 2)))))))))) (pss_one (ps_set (i := 0) nd rfl (Or.inl rfl) (pe_op op_sub (pe_callB call_abs (by rfl) B.abs (by decide +kernel) (pa_cons (pv 0) pa_nil)) (pe_op op_pow pe_int pe_int)))))
    (pss_cons (ps_set (i := 5) nd rfl (Or.inl rfl) (pe_lst pa_nil))
    (pss_cons (ps_for PassesOwn.never rfl (piL K (pv 1)) (pg_name (i := 6) nd rfl (Or.inl rfl))
      (pss_cons (ps_expr (bmK K PySem.F.plainAttrs_list PySem.F.slot_list_append PySem.F.type_list_append mt_append (pv 5) (pa_cons (pe_op op_mod (pv 0) (pv 6)) pa_nil)))
      (pss_one (ps_set (i := 0) nd rfl (Or.inl rfl) (pe_op op_fdiv (pv 0) (pv 6))))))
    (pss_one (ps_ret (pv 5)))))),
    ?_⟩
  rintro ds d ⟨c, ps, hp, hl, rfl, rfl⟩ G0 H0 Q hQ
  refine q_join (b := decide (absI c < 10 ^ 18)) [.da (.int (seedC c)), .da (.list (ps.map .int)), .un, .un, .un, .un, .un] (et_test (em_op (em_cb (ed_cons (em_var rfl) ed_nil) rc_abs) (em_op em_int em_int (ro_pow ⟨by decide, by decide, by decide⟩)) ro_cmp)) ?rest (fun e k => ?big) (fun e k => ?huge)
  case big =>
    have e1 : absI c < 10 ^ 18 := of_decide_eq_true e
    have e2 : -(10 ^ 18) < c ∧ c < 10 ^ 18 := by
      unfold absI at e1
      split at e1 <;> omega
    have hseed : seedC c = _ := if_pos e1
    generalize h1 : (c * 48271 + 11) % 2147483647 = one at hseed
    have b1 : 0 ≤ one ∧ one < 2147483647 := by rw [← h1]; exact ⟨Int.emod_nonneg _ (by decide), Int.emod_lt_of_pos _ (by decide)⟩
    refine q_asg (d := .int one) (em_is (em_op (em_op (em_op (em_var rfl) em_int (ro_mul (.inl ⟨by omega, by omega⟩))) em_int ro_add) em_int (ro_mod (by decide))) (by rw [h1])) ?_
    generalize h2 : (one * one + 40692 * one + c) % 2147483399 = two at hseed
    have b2 : 0 ≤ two ∧ two < 2147483399 := by rw [← h2]; exact ⟨Int.emod_nonneg _ (by decide), Int.emod_lt_of_pos _ (by decide)⟩
    refine q_asg (d := .int two) (em_is (em_op (em_op (em_op (em_op (em_var rfl) (em_var rfl) (ro_mul (.inl ⟨by omega, by omega⟩))) (em_op em_int (em_var rfl) (ro_mul (.inl ⟨by decide, by decide⟩))) ro_add) (em_var rfl) ro_add) em_int (ro_mod (by decide))) (by rw [h2])) ?_
    generalize h3 : (two * 16807 + one) % 1000000007 = six at hseed
    refine q_asg (d := .int six) (em_is (em_op (em_op (em_op (em_var rfl) em_int (ro_mul (.inl ⟨by omega, by omega⟩))) (em_var rfl) ro_add) em_int (ro_mod (by decide))) (by rw [h3])) ?_
    refine g_asg (d := .int (seedC c)) (em_is (em_op (em_var rfl) (em_op em_int (em_op (em_var rfl) (em_op em_int (em_var rfl) (ro_mul (.inl ⟨by decide, by decide⟩))) ro_add) (ro_mul (.inl ⟨by decide, by decide⟩))) ro_add) (by rw [hseed])) ?_
    exact k _ (by repeat (first | exact trivial | refine ⟨.inr rfl, ?_⟩ | refine ⟨.inl rfl, ?_⟩))
  case huge =>
    have e1 : ¬ absI c < 10 ^ 18 := of_decide_eq_false e
    have hseed : seedC c = _ := if_neg e1
    refine g_asg (d := .int (seedC c)) (em_is (em_op (em_cb (ed_cons (em_var rfl) ed_nil) rc_abs) (em_op em_int em_int (ro_pow ⟨by decide, by decide, by decide⟩)) ro_sub) (by rw [hseed]; rfl)) ?_
    exact k _ (by repeat (first | exact trivial | refine ⟨.inr rfl, ?_⟩ | refine ⟨.inl rfl, ?_⟩))
  case rest =>
    refine q_asgN (ds := []) en_nil fun p => ?_
    refine g_seq (g_forL (S := Int × List Int) (fun i s => s.2 ++ walkD s.1 (ps.drop i) = drawsF c ps ∧ s.2.length = i) (fun s => [.da (.int s.1), .da (.list (ps.map .int)), .un, .un, .un, .vw (.ref p), .un]) (fun s => [(p, .l (s.2.map .int))]) .int ps (em_var rfl) (seedC c, []) ⟨rfl, rfl⟩ (Wk.refl _) rfl ?_ ?_)
    · rintro i q ⟨x, acc⟩ G1 up hq ⟨h1, h2⟩
      have hlt := (List.getElem?_eq_some_iff.mp hq).1
      have hqp := hp q (List.mem_of_getElem? hq)
      have hdrop : ps.drop i = q :: ps.drop (i + 1) := by
        rw [List.drop_eq_getElem_cons hlt]
        rw [List.getElem?_eq_getElem hlt] at hq
        rw [Option.some.inj hq]
      refine ⟨_, _, eg_name, ?_⟩
      refine g_seq (g_app (k := 0) rfl (ev_var rfl) (em_op (em_var rfl) (em_var rfl) (ro_mod hqp.1)) (by rw [List.length_map]; have h2 : acc.length = i := h2; omega) ?_)
      refine g_asg (em_op (em_var rfl) (em_var rfl) (ro_fdiv ⟨hqp.1, by omega⟩)) ?_
      refine nt_pi _ _ _ (s := (x / q, acc ++ [x % q])) ⟨?_, ?_⟩ (by repeat (first | exact trivial | refine ⟨.inr rfl, ?_⟩ | refine ⟨.inl rfl, ?_⟩)) (by simp)
      · have h1 : acc ++ walkD x (ps.drop i) = drawsF c ps := h1
        rw [hdrop, walkD] at h1
        simpa using h1
      · have h2 : acc.length = i := h2
        simp [h2]
    · rintro ⟨x, acc⟩ ⟨h1, h2⟩
      refine g_frz 0 5 rfl rfl (g_ret (em_var (d := .list (acc.map .int)) rfl) ?_)
      have h1 : acc ++ walkD x (ps.drop ps.length) = drawsF c ps := h1
      rw [List.drop_length, walkD, List.append_nil] at h1
      rw [h1]
      exact hQ
abbrev s__law_same : Stmt := topS 25
theorem sc__law_same : FnScope ["_law_found", "_law_due", "_law_k"] ["_law_found", "_law_due"] (defScope s__law_same) := ⟨rfl, rfl, rfl, by decide +kernel, rfl, by decide +kernel, by decide +kernel⟩
theorem ok_same0 {n : Nat} {f f' : Addr} {fd fd' : FuncData} (F : Fun K "_law_same" "_law_same" s__law_same f fd) (B : Bi mg) (D__law_same : Df P w K mg base n "_law_same" ["_law_found", "_law_due"] (spR (Rl_same n)) f' fd') : FnOk P w K mg base CX0 (n + 1) f fd ["_law_found", "_law_due"] (spR (Rl_same (n + 1))) := by
  refine fn_pure F sc__law_same (by rintro ds d ⟨_, _, rfl, rfl⟩; rfl) fun cdv A outer s H E hr => ?_
  have nd := sc__law_same.nd
  refine ⟨_, (pss_cons (ps_if (pt_cmpR op_isN (pv 1) pe_non (nomark _)) (pss_one (ps_ret (pe_cmpR op_isN (pv 0) pe_non (nomark _)))) pss_nil)
    (pss_cons (ps_if (pt_val (pe_callB (isiO K) (by rfl) B.isinstance (by decide +kernel) (pa_cons (pv 1) (pa_cons (pe_bltn (v := .ty "str") (u := .type "str") (by rfl) B.str (by decide +kernel) rfl) pa_nil)))) (pss_one (ps_ret (pe_and (pe_callB (isiO K) (by rfl) B.isinstance (by decide +kernel) (pa_cons (pv 0) (pa_cons (pe_bltn (v := .ty "str") (u := .type "str") (by rfl) B.str (by decide +kernel) rfl) pa_nil))) (pe_one (pe_cmpR (eqD K (uq hr)) (pv 0) (pv 1) (nomark _)))))) pss_nil)
    (pss_cons (ps_if (pt_val (pe_callB (isiO K) (by rfl) B.isinstance (by decide +kernel) (pa_cons (pv 1) (pa_cons (pe_bltn (v := .ty "int") (u := .type "int") (by rfl) B.int (by decide +kernel) rfl) pa_nil)))) (pss_one (ps_ret (pe_and (pe_callB (isiO K) (by rfl) B.isinstance (by decide +kernel) (pa_cons (pv 0) (pa_cons (pe_bltn (v := .ty "int") (u := .type "int") (by rfl) B.int (by decide +kernel) rfl) pa_nil))) (pe_and (pe_cmpR (eqD K (uq hr)) (pe_callB (isiO K) (by rfl) B.isinstance (by decide +kernel) (pa_cons (pv 0) (pa_cons (pe_bltn (v := .ty "bool") (u := .type "bool") (by rfl) B.bool (by decide +kernel) rfl) pa_nil))) (pe_callB (isiO K) (by rfl) B.isinstance (by decide +kernel) (pa_cons (pv 1) (pa_cons (pe_bltn (v := .ty "bool") (u := .type "bool") (by rfl) B.bool (by decide +kernel) rfl) pa_nil))) (nomark _)) (pe_one (pe_cmpR (eqD K (uq hr)) (pv 0) (pv 1) (nomark _))))))) pss_nil)
    (pss_cons (ps_if (PW.pt (pw_or (pt_cmpR (neD K (uq hr)) (pe_callB (isiO K) (by rfl) B.isinstance (by decide +kernel) (pa_cons (pv 1) (pa_cons (pe_bltn (v := .ty "list") (u := .type "list") (by rfl) B.list (by decide +kernel) rfl) pa_nil))) (pe_callB (isiO K) (by rfl) B.isinstance (by decide +kernel) (pa_cons (pv 0) (pa_cons (pe_bltn (v := .ty "list") (u := .type "list") (by rfl) B.list (by decide +kernel) rfl) pa_nil))) (nomark _)) (pw_or1 (pt_cmpR (neD K (uq hr)) (pe_callB (isiO K) (by rfl) B.isinstance (by decide +kernel) (pa_cons (pv 1) (pa_cons (pe_bltn (v := .ty "tuple") (u := .type "tuple") (by rfl) B.tuple (by decide +kernel) rfl) pa_nil))) (pe_callB (isiO K) (by rfl) B.isinstance (by decide +kernel) (pa_cons (pv 0) (pa_cons (pe_bltn (v := .ty "tuple") (u := .type "tuple") (by rfl) B.tuple (by decide +kernel) rfl) pa_nil))) (nomark _))))) (pss_one (ps_ret pe_bl)) pss_nil)
    (pss_one (ps_ret (pe_and (pe_cmpR (eqD K (uq hr)) (pe_callB (lenS K) (by rfl) B.len (by decide +kernel) (pa_cons (pv 0) pa_nil)) (pe_callB (lenS K) (by rfl) B.len (by decide +kernel) (pa_cons (pv 1) pa_nil)) (nomark _)) (pe_one (pe_callB (allL K) (by rfl) B.all (by decide +kernel) (pa_cons (pe_lc (own := [("_law_k", 2)]) (g := (gName 2)) (tt := tYes) rfl nd (pi_range1 rfl B.range (pa_cons (pe_callB (lenS K) (by rfl) B.len (by decide +kernel) (pa_cons (pv 1) pa_nil)) pa_nil)) (blkOk_by (N := ["_law_found", "_law_due", "_law_k"]) (sc := (defScope s__law_same)) (by decide +kernel)) (fun _ _ _ _ _ => (pg_name (i := 2) nd rfl (Or.inl rfl))) (fun _ _ _ _ _ => pts_nil) (fun _ _ _ _ _ => (pe_call D__law_same.ok (hr.mono (by omega)) (by rfl) D__law_same.mg D__law_same.kp D__law_same.bi .nil pass0 (pa_cons (pe_ix (ixS K) (pv 0) (pv 2) (fun _ _ => rfl)) (pa_cons (pe_ix (ixS K) (pv 1) (pv 2) (fun _ _ => rfl)) pa_nil))))) pa_nil)))))))))),
    ?_⟩
  rintro ds d ⟨x, hx, rfl, rfl⟩ G0 H0 Q hQ
  have i0 : ∀ (y : PyData) (r : Bool), kitB (dTy y) "str" = some r → True := fun _ _ _ => trivial
  have sh0 : ∀ b : Bool, SeqAt.shaped (.bool b) = true := fun b => (sh_bool b).shaped (by decide)
  have sh1 : ∀ b : Int, SeqAt.shaped (.int b) = true := fun b => (sh_int b).shaped (by decide)
  cases x with
  | none => exact q_yes (et_test (em_op (em_var rfl) em_non ro_isN)) rfl (g_ret (em_op (em_var rfl) em_non ro_isN) hQ)
  | bool b =>
    refine q_no (et_test (em_op (em_var rfl) em_non ro_isN)) rfl ?_
    refine q_no (et_B (em_isiT (r := false) "bool" (em_var rfl) rfl (by decide +kernel))) rfl ?_
    refine q_yes (et_B (em_isiT (r := true) "bool" (em_var rfl) rfl (by decide +kernel))) rfl ?_
    refine g_ret (em_is (em_andV (em_isiT (r := true) "bool" (em_var rfl) rfl (by decide +kernel)) fun _ => em_andV (em_op (em_isiT (r := true) "bool" (em_var rfl) rfl (by decide +kernel)) (em_isiT (r := true) "bool" (em_var rfl) rfl (by decide +kernel)) (ro_eqD (sh0 _) (sh0 _))) fun _ => em_op (em_var rfl) (em_var rfl) (ro_eqD (sh0 _) (sh0 _))) ?_) hQ
    simp [PyData.eqv]
  | int i =>
    refine q_no (et_test (em_op (em_var rfl) em_non ro_isN)) rfl ?_
    refine q_no (et_B (em_isiT (r := false) "int" (em_var rfl) rfl (by decide +kernel))) rfl ?_
    refine q_yes (et_B (em_isiT (r := true) "int" (em_var rfl) rfl (by decide +kernel))) rfl ?_
    refine g_ret (em_is (em_andV (em_isiT (r := true) "int" (em_var rfl) rfl (by decide +kernel)) fun _ => em_andV (em_op (em_isiT (r := false) "int" (em_var rfl) rfl (by decide +kernel)) (em_isiT (r := false) "int" (em_var rfl) rfl (by decide +kernel)) (ro_eqD (sh0 _) (sh0 _))) fun _ => em_op (em_var rfl) (em_var rfl) (ro_eqD (sh1 _) (sh1 _))) ?_) hQ
    simp [PyData.eqv]
  | str z =>
    refine q_no (et_test (em_op (em_var rfl) em_non ro_isN)) rfl ?_
    refine q_yes (et_B (em_isiT (r := true) "str" (em_var rfl) rfl (by decide +kernel))) rfl ?_
    have hz : SeqAt.shaped (.str z) = true := Sh.shaped (n := 0) ⟨hx, by simp [PyData.depth]⟩ (by decide)
    refine g_ret (em_is (em_andV (em_isiT (r := true) "str" (em_var rfl) rfl (by decide +kernel)) fun _ => em_op (em_var rfl) (em_var rfl) (ro_eqD hz hz)) ?_) hQ
    simp [PyData.eqv]
  | list xs =>
    obtain ⟨hl, hx⟩ : xs.length ≤ 99999 ∧ ∀ x ∈ xs, okS n x := hx
    refine q_no (et_test (em_op (em_var rfl) em_non ro_isN)) rfl ?_
    refine q_no (et_B (em_isiT (r := false) "list" (em_var rfl) rfl (by decide +kernel))) rfl ?_
    refine q_no (et_B (em_isiT (r := false) "list" (em_var rfl) rfl (by decide +kernel))) rfl ?_
    refine q_no (b := false || false) (et_or (et_is (et_test (em_op (em_isiT (r := true) "list" (em_var rfl) rfl (by decide +kernel)) (em_isiT (r := true) "list" (em_var rfl) rfl (by decide +kernel)) (ro_neD (sh0 _) (sh0 _)))) (by simp [PyData.eqv])) fun _ => et_is (et_test (em_op (em_isiT (r := false) "list" (em_var rfl) rfl (by decide +kernel)) (em_isiT (r := false) "list" (em_var rfl) rfl (by decide +kernel)) (ro_neD (sh0 _) (sh0 _)))) (by simp [PyData.eqv])) rfl ?_
    refine g_ret (em_is (em_andV (em_op (em_len_l (em_var rfl)) (em_len_l (em_var rfl)) (ro_eqD (sh1 _) (sh1 _))) fun _ => em_cb (ed_cons (em_is (EN.em (en_lcR (n := xs.length) (fun _ => true) (fun _ => .bool true) (ed_cons (em_len_l (em_var rfl)) ed_nil) (by omega) (fun i hi => ⟨et_yes, fun _ => ?_⟩) (by decide))) (show _ = PyData.list ((List.replicate xs.length true).map .bool) by rw [lcOut_true, List.map_replicate, List.map_const', List.length_range])) ed_nil) rc_all) ?_) hQ
    · have hi' : xs[i]? = some xs[i] := List.getElem?_eq_getElem hi
      exact em_call (ed_cons (em_op (em_var rfl) (em_var rfl) (ro_seqL hi')) (ed_cons (em_op (em_var rfl) (em_var rfl) (ro_seqL hi')) ed_nil)) ⟨xs[i], hx _ (List.getElem_mem hi), rfl, rfl⟩
    · simp [PyData.eqv]
  | tuple xs =>
    obtain ⟨hl, hx⟩ : xs.length ≤ 99999 ∧ ∀ x ∈ xs, okS n x := hx
    refine q_no (et_test (em_op (em_var rfl) em_non ro_isN)) rfl ?_
    refine q_no (et_B (em_isiT (r := false) "tuple" (em_var rfl) rfl (by decide +kernel))) rfl ?_
    refine q_no (et_B (em_isiT (r := false) "tuple" (em_var rfl) rfl (by decide +kernel))) rfl ?_
    refine q_no (b := false || false) (et_or (et_is (et_test (em_op (em_isiT (r := false) "tuple" (em_var rfl) rfl (by decide +kernel)) (em_isiT (r := false) "tuple" (em_var rfl) rfl (by decide +kernel)) (ro_neD (sh0 _) (sh0 _)))) (by simp [PyData.eqv])) fun _ => et_is (et_test (em_op (em_isiT (r := true) "tuple" (em_var rfl) rfl (by decide +kernel)) (em_isiT (r := true) "tuple" (em_var rfl) rfl (by decide +kernel)) (ro_neD (sh0 _) (sh0 _)))) (by simp [PyData.eqv])) rfl ?_
    refine g_ret (em_is (em_andV (em_op (em_len_t (em_var rfl)) (em_len_t (em_var rfl)) (ro_eqD (sh1 _) (sh1 _))) fun _ => em_cb (ed_cons (em_is (EN.em (en_lcR (n := xs.length) (fun _ => true) (fun _ => .bool true) (ed_cons (em_len_t (em_var rfl)) ed_nil) (by omega) (fun i hi => ⟨et_yes, fun _ => ?_⟩) (by decide))) (show _ = PyData.list ((List.replicate xs.length true).map .bool) by rw [lcOut_true, List.map_replicate, List.map_const', List.length_range])) ed_nil) rc_all) ?_) hQ
    · have hi' : xs[i]? = some xs[i] := List.getElem?_eq_getElem hi
      exact em_call (ed_cons (em_op (em_var rfl) (em_var rfl) (ro_seqT hi')) (ed_cons (em_op (em_var rfl) (em_var rfl) (ro_seqT hi')) ed_nil)) ⟨xs[i], hx _ (List.getElem_mem hi), rfl, rfl⟩
    · simp [PyData.eqv]
  | dict _ => exact hx.elim
theorem ok_same {f : Addr} {fd : FuncData} (F : Fun K "_law_same" "_law_same" s__law_same f fd) (B : Bi mg) (bi : Binds K fd ["_law_found", "_law_due"] []) (m : mg "_law_same" = some (.ref f)) : ∀ n, FnOk P w K mg base CX0 n f fd ["_law_found", "_law_due"] (spR (Rl_same n))
  | 0 => fn_none (by rintro ds d ⟨x, hx, _⟩; cases x <;> exact hx.elim)
  | n + 1 => ok_same0 F B ⟨ok_same F B bi m n, bi, F.kp, m⟩
abbrev s__law_picks : Stmt := topS 26
theorem sc__law_picks : FnScope ["_law_cell", "_law_many", "_law_k"] ["_law_cell", "_law_many"] (defScope s__law_picks) := ⟨rfl, rfl, rfl, by decide +kernel, rfl, by decide +kernel, by decide +kernel⟩
theorem ok_picks {f f1 : Addr} {fd fd1 : FuncData} (F : Fun K "_law_picks" "_law_picks" s__law_picks f fd) (B : Bi mg) (D__law_draws : Df P w K mg base 1 "_law_draws" ["_law_cell", "_law_parts"] (spR Rl_draws) f1 fd1) : FnOk P w K mg base CX0 2 f fd ["_law_cell", "_law_many"] (spR Rl_picks) := by
  refine fn_pure F sc__law_picks (by rintro ds d ⟨_, _, _, rfl, rfl⟩; rfl) fun cdv A outer s H E hr => ?_
  have nd := sc__law_picks.nd
  refine ⟨_, (pss_cons (ps_if (pt_cmpR op_ge (pe_callB call_abs (by rfl) B.abs (by decide +kernel) (pa_cons (pv 0) pa_nil)) (pe_op op_pow pe_int pe_int) (nomark _)) (pss_one (ps_ret (pe_call D__law_draws.ok (hr.mono (by omega)) (by rfl) D__law_draws.mg D__law_draws.kp D__law_draws.bi .nil pass0 (pa_cons (pv 0) (pa_cons (pe_op op_rep (pe_lst (pa_cons pe_int pa_nil)) (pv 1)) pa_nil))))) pss_nil)
    (pss_one (ps_ret (pe_lc (own := [("_law_k", 2)]) (g := (gName 2)) (tt := tYes) rfl nd (pi_range1 rfl B.range (pa_cons (pv 1) pa_nil)) (blkOk_by (N := ["_law_cell", "_law_many", "_law_k"]) (sc := (defScope s__law_picks)) (by decide +kernel)) (fun _ _ _ _ _ => (pg_name (i := 2) nd rfl (Or.inl rfl))) (fun _ _ _ _ _ => pts_nil) (fun _ _ _ _ _ => (pe_ix (ixL K) (pe_call D__law_draws.ok (hr.mono (by omega)) (by rfl) D__law_draws.mg D__law_draws.kp D__law_draws.bi .nil pass0 (pa_cons (pe_op op_add (pv 0) (pe_op op_mul pe_int (pv 2))) (pa_cons (pe_lst (pa_cons pe_int pa_nil)) pa_nil))) pe_int (fun _ _ => rfl))))))),
    ?_⟩
  rintro ds d ⟨c, m, hm, rfl, rfl⟩ G0 H0 Q hQ
  refine q_if (b := decide ((10 : Int) ^ 18 ≤ absI c)) (et_test (em_op (em_cb (ed_cons (em_var rfl) ed_nil) rc_abs) (em_op em_int em_int (ro_pow ⟨by decide, by decide, by decide⟩)) ro_cmp)) (fun e => ?_) (fun e => ?_)
  · have e1 : absI c ≥ 10 ^ 18 := of_decide_eq_true e
    have hp : picksN c m = (drawsF c (List.replicate m 27720)).map Int.toNat := if_pos e1
    refine g_ret (em_call (ds := [.int c, .list ((List.replicate m (27720 : Int)).map .int)]) (ed_cons (em_var rfl) (ed_cons (em_is (EN.em (en_op (EN.em (en_one em_int)) (em_var rfl) (ron_rep (by omega) (by simp; omega)))) ?_) ed_nil)) ⟨c, List.replicate m 27720, fun p hp => ?_, by rw [List.length_replicate]; omega, rfl, rfl⟩) ?_
    · rw [flat_one, List.map_replicate]
    · rw [List.eq_of_mem_replicate hp]; decide
    · have : eN (picksN c m) = (drawsF c (List.replicate m 27720)).map .int := by
        rw [hp, eN, iN_toNat]
        exact walkD_nn _ _ fun p hp => by rw [List.eq_of_mem_replicate hp]; decide
      rw [← this]
      exact hQ
  · have e1 : ¬ absI c ≥ 10 ^ 18 := of_decide_eq_false e
    have hp : picksN c m = (List.range m).map fun (k : Nat) => ((drawsF (c + 101 * (k : Int)) [27720]).headD 0).toNat := if_neg e1
    refine g_next (show Go _ _ _ _ _ _ from g_ret (em_is (EN.em (en_lcR (n := m) (fun _ => true) (fun k => .int ((drawsF (c + 101 * (k : Int)) [27720]).headD 0)) (ed_cons (em_var rfl) ed_nil) (by omega) (fun i hi => ⟨et_yes, fun _ => ?_⟩) (by decide))) ?_) hQ)
    · refine em_l0 (K := K) (xs := []) (em_is (em_call (ed_cons (em_op (em_var rfl) (em_op em_int (em_var rfl) (ro_mul (.inl ⟨by decide, by decide⟩))) ro_add) (ed_cons (EN.em (en_one em_int)) ed_nil)) ⟨_, [27720], fun p hp => by rw [List.mem_singleton.mp hp]; decide, by decide, rfl, rfl⟩) ?_)
      simp [drawsF, walkD]
    · rw [lcOut_true, hp, eN]
      congr 1
      unfold iN
      rw [List.map_map, List.map_map]
      refine List.map_congr_left fun k _ => congrArg PyData.int ?_
      show _ = ((((drawsF (c + 101 * (k : Int)) [27720]).headD 0).toNat : Nat) : Int)
      have : 0 ≤ (drawsF (c + 101 * (k : Int)) [27720]).headD 0 := by
        simp only [drawsF, walkD, List.headD_cons]
        exact Int.emod_nonneg _ (by decide)
      omega
abbrev s__law_rings : Stmt := topS 27
theorem sc__law_rings : FnScope ["_law_cell", "_law_n", "_law_rings_here", "_law_rest", "_law_pick", "_law_length", "_law_ring", "_law_k"] ["_law_cell", "_law_n"] (defScope s__law_rings) := ⟨rfl, rfl, rfl, by decide +kernel, rfl, by decide +kernel, by decide +kernel⟩
theorem ok_rings {f f1 : Addr} {fd fd1 : FuncData} (F : Fun K "_law_rings" "_law_rings" s__law_rings f fd) (B : Bi mg) (D__law_picks : Df P w K mg base 2 "_law_picks" ["_law_cell", "_law_many"] (spR Rl_picks) f1 fd1) : FnOk P w K mg base CX0 3 f fd ["_law_cell", "_law_n"] (spR (Rl_rings 5)) := by
  refine fn_pure F sc__law_rings (by rintro ds d ⟨_, _, _, rfl, rfl⟩; rfl) fun cdv A outer s H E hr => ?_
  have nd := sc__law_rings.nd
  refine ⟨_, (pss_cons (ps_set (i := 2) nd rfl (Or.inl rfl) (pe_lst pa_nil))
    (pss_cons (ps_set (i := 3) nd rfl (Or.inr rfl) (pe_listRg rfl (by rfl) B.list (prg_1 (by rfl) B.range (pv 1))))
    (pss_cons (ps_for PassesOwn.never rfl (piL K (pe_call D__law_picks.ok (hr.mono (by omega)) (by rfl) D__law_picks.mg D__law_picks.kp D__law_picks.bi .nil pass0 (pa_cons (pv 0) (pa_cons pe_int pa_nil)))) (pg_name (i := 4) nd rfl (Or.inr rfl))
      (pss_cons (ps_set (i := 5) nd rfl (Or.inl rfl) (pe_op op_add pe_int (pe_op op_mod (pv 4) pe_int)))
      (pss_cons (ps_if (pt_cmpR op_ge (pe_callB (lenS K) (by rfl) B.len (by decide +kernel) (pa_cons (pv 3) pa_nil)) (pv 5) (nomark _)) (pss_cons (ps_setLc (i := 6) (own := [("_law_k", 7)]) (g := (gName 7)) (tt := tYes) rfl nd rfl rfl (sw_true rfl rfl rfl (by decide +kernel)) (pi_range1 rfl B.range (pa_cons (pv 5) pa_nil)) (blkOk_by (N := ["_law_cell", "_law_n", "_law_rings_here", "_law_rest", "_law_pick", "_law_length", "_law_ring", "_law_k"]) (sc := (defScope s__law_rings)) (by decide +kernel)) (fun _ _ _ _ _ => (pg_name (i := 7) nd rfl (Or.inl rfl))) (fun _ _ _ _ _ => pts_nil) (fun _ _ _ _ _ => (bmK K PySem.F.plainAttrs_list PySem.F.slot_list_pop PySem.F.type_list_pop mt_popAt (pv 3) (pa_cons (pe_op op_mod (pe_op op_fdiv (pv 4) pe_int) (pe_callB (lenS K) (by rfl) B.len (by decide +kernel) (pa_cons (pv 3) pa_nil))) pa_nil))))
        (pss_one (ps_expr (bmK K PySem.F.plainAttrs_list PySem.F.slot_list_append PySem.F.type_list_append mt_append (pv 2) (pa_cons (pv 6) pa_nil))))) pss_nil)
      (pss_one (ps_if (PW.pt (pw_and (pt_cmpR op_eq (pe_op op_mod (pv 4) pe_int) pe_int (nomark _)) (pw_and1 (pt_cmpR op_lt (pe_callB (lenS K) (by rfl) B.len (by decide +kernel) (pa_cons (pv 3) pa_nil)) (pe_op op_fdiv (pv 1) pe_int) (nomark _))))) (pss_one (ps_ret (pe_tup (pa_cons (pv 2) (pa_cons (pv 3) pa_nil))))) pss_nil)))))
    (pss_one (ps_ret (pe_tup (pa_cons (pv 2) (pa_cons (pv 3) pa_nil)))))))),
    ?_⟩
  rintro ds d ⟨c, n, hn, rfl, rfl⟩ G0 H0 Q hQ
  refine q_asgN (ds := []) en_nil fun p => ?_
  refine q_asgN (ds := eN (List.range n)) (en_lstRg (em_var rfl) (by omega)) fun q => ?_
  refine g_seq (g_forL (S := List (List Nat) × List Nat) (fun i s => ringsGo 5 n ((picksN c 12).drop i) s = ringsF 5 c n ∧ s.2.length ≤ 12 ∧ s.1.length + s.2.length ≤ 12) (fun s => [.da (.int c), .da (.int (n : Int)), .vw (.ref p), .vw (.ref q), .un, .un, .un, .un]) (fun s => [(q, .l (eN s.2)), (p, .l (s.1.map eC))])
    (fun k : Nat => .int (k : Int)) (picksN c 12) (em_is (em_call (ed_cons (em_var rfl) (ed_cons em_int ed_nil)) ⟨c, 12, by decide, rfl, rfl⟩) (by unfold eN iN; rw [List.map_map]; rfl)) ([], List.range n) ⟨rfl, by simpa using hn, by simpa using hn⟩ (Wk.refl _) rfl ?_ ?_)
  · rintro i pk ⟨rings, rest⟩ G1 up hpk ⟨h1, h2, h3⟩
    have h1 : ringsGo 5 n ((picksN c 12).drop i) (rings, rest) = ringsF 5 c n := h1
    have h2 : rest.length ≤ 12 := h2
    have h3 : rings.length + rest.length ≤ 12 := h3
    have hlt := (List.getElem?_eq_some_iff.mp hpk).1
    have hdrop : (picksN c 12).drop i = pk :: (picksN c 12).drop (i + 1) := by
      rw [List.drop_eq_getElem_cons hlt]
      rw [List.getElem?_eq_getElem hlt] at hpk
      rw [Option.some.inj hpk]
    rw [hdrop, ringsGo] at h1
    refine ⟨_, _, eg_name, ?_⟩
    refine q_asg (d := .int ((2 + pk % 3 : Nat) : Int)) (em_is (em_op em_int (em_op (em_var rfl) em_int (ro_mod (by decide))) ro_add) (by rw [Int.natCast_add, Int.natCast_emod]; rfl)) ?_
    have hs := ringStep_len pk (rings, rest)
    refine q_joinM (b := decide (((2 + pk % 3 : Nat) : Int) ≤ ((eN rest).length : Int))) [.da (.int c), .da (.int (n : Int)), .vw (.ref p), .vw (.ref q), .da (.int (pk : Int)), .un, .un, .un] [(q, .l (eN (ringStep pk (rings, rest)).2)), (p, .l ((ringStep pk (rings, rest)).1.map eC))]
      (et_test (em_op (em_lenM (ev_var rfl) List.mem_cons_self) (em_var rfl) ro_cmp)) ?rest (fun e k => ?take) (fun e k => ?skip)
    case skip =>
      have e' : ¬ 2 + pk % 3 ≤ rest.length := by
        have := of_decide_eq_false e
        rw [eN_len] at this
        omega
      refine g_next (k _ _ (by repeat (first | exact trivial | refine ⟨.inr rfl, ?_⟩ | refine ⟨.inl rfl, ?_⟩)) ?_)
      rw [ringStep, if_neg e']
    case take =>
      have e' : 2 + pk % 3 ≤ rest.length := by
        have := of_decide_eq_true e
        rw [eN_len] at this
        omega
      have hst : ringStep pk (rings, rest) = (rings ++ [ringOf (pk / 3) rest (2 + pk % 3)], restAt (pk / 3) rest (2 + pk % 3)) := if_pos e'
      refine g_seq (g_lcS (n := 2 + pk % 3) (ed_cons (em_var rfl) ed_nil) (by omega) (fun i => [(q, .l (eN (restAt (pk / 3) rest i))), (p, .l (rings.map eC))]) (fun i => .int (((restAt (pk / 3) rest i).getD (pk / 3 % (restAt (pk / 3) rest i).length) 0 : Nat) : Int)) rfl (fun _ => rfl) (by decide) (fun i Dl hi => ?_) fun Dl => ?_)
      · have hl := restAt_len (pk / 3) rest i (by omega)
        have hpos : 0 < (restAt (pk / 3) rest i).length := by omega
        have hlt2 : pk / 3 % (restAt (pk / 3) rest i).length < (restAt (pk / 3) rest i).length := Nat.mod_lt _ hpos
        have hp := se_pop (K := K) (G0 := G1) (H0 := H0) (ss := (wipeS ((([SP.da (.int c), .da (.int (n : Int)), .vw (.ref p), .vw (.ref q), .un, .un, .un, .un].set 4 (.da (.int (pk : Int)))).set 5 (.da (.int ((2 + pk % 3 : Nat) : Int))))) [7]).set 7 (.da (.int (i : Int)))) (Ms := [(Dl, .l ((List.range i).map fun i => .int (((restAt (pk / 3) rest i).getD (pk / 3 % (restAt (pk / 3) rest i).length) 0 : Nat) : Int))), (q, .l (eN (restAt (pk / 3) rest i))), (p, .l (rings.map eC))])
          (k := 1) (j := pk / 3 % (restAt (pk / 3) rest i).length) rfl (ev_var (i := 3) rfl) (em_is (em_op (em_op (em_var (i := 4) rfl) (em_int (i := 3)) (ro_fdiv (j := 3) ⟨by decide, by decide⟩)) (em_lenM (K := K) (ev_var (i := 3) rfl) (List.mem_cons_of_mem _ List.mem_cons_self)) (ro_mod (by rw [eN_len]; omega))) (by rw [eN_len, Int.natCast_emod, Int.natCast_ediv] <;> rfl)) (eN_get hlt2) (by rw [eN_len]; omega)
        rw [← eN_erase] at hp
        exact hp
      · refine g_frz 0 6 rfl rfl ?_
        refine g_app (k := 1) rfl (ev_var rfl) (em_var rfl) (by rw [List.length_map]; omega) ?_
        refine k _ _ (by repeat (first | exact trivial | refine ⟨.inr rfl, ?_⟩ | refine ⟨.inl rfl, ?_⟩)) ?_
        rw [hst, ringOf]
        show [_, _] = _
        simp only [List.map_append, List.map_cons, List.map_nil, eC, eN_map]
    case rest =>
      generalize hss : ringStep pk (rings, rest) = s1 at *
      refine g_if (b := decide ((pk : Int) % 5 = 0) && decide ((s1.2.length : Int) < ((n / 2 : Nat) : Int))) (et_and (et_test (em_op (em_op (em_var rfl) em_int (ro_mod (by decide))) em_int ro_eqI)) fun _ => et_is (et_test (em_op (em_lenM (ev_var rfl) List.mem_cons_self) (em_op (em_var rfl) em_int (ro_fdiv ⟨by decide, by decide⟩)) ro_cmp)) (by rw [eN_len, Int.natCast_ediv]; rfl)) (fun e => ?_) (fun e => ?_)
      · have e' : pk % 5 = 0 ∧ s1.2.length < n / 2 := by
          simp only [Bool.and_eq_true, decide_eq_true_eq] at e
          omega
        rw [if_pos e'] at h1
        refine g_frz 0 3 rfl rfl (g_frz 0 2 rfl rfl (g_ret (em_pair (em_var rfl) (em_var rfl)) ?_))
        have hQ' : Rt ⟨Pi (fun i s => ringsGo 5 n ((picksN c 12).drop i) s = ringsF 5 c n ∧ s.2.length ≤ 12 ∧ s.1.length + s.2.length ≤ 12) (fun s => [.da (.int c), .da (.int (n : Int)), .vw (.ref p), .vw (.ref q), .un, .un, .un, .un]) (fun s => [(q, .l (eN s.2)), (p, .l (s.1.map eC))]) G1 H0 (i + 1), Q, fun _ _ => False, fun _ _ => False⟩ G0 H0 (eRR s1) := by
          rw [h1]
          exact hQ
        exact hQ'.up up
      · have e' : ¬ (pk % 5 = 0 ∧ s1.2.length < n / 2) := by
          intro h
          simp only [Bool.and_eq_false_iff, decide_eq_false_iff_not] at e
          omega
        rw [if_neg e'] at h1
        refine g_next (nt_pi _ _ _ (s := s1) ⟨h1, by omega, by omega⟩ (by repeat (first | exact trivial | refine ⟨.inr rfl, ?_⟩ | refine ⟨.inl rfl, ?_⟩)) rfl)
  · rintro ⟨rings, rest⟩ ⟨h1, h2, h3⟩
    have h1 : ringsGo 5 n ((picksN c 12).drop (picksN c 12).length) (rings, rest) = ringsF 5 c n := h1
    rw [List.drop_length, ringsGo] at h1
    refine g_frz 0 3 rfl rfl (g_frz 0 2 rfl rfl (g_ret (em_pair (em_var rfl) (em_var rfl)) ?_))
    show Rt _ G0 H0 (eRR (rings, rest))
    rw [h1]
    exact hQ
abbrev s__law_laid : Stmt := topS 28
theorem sc__law_laid : FnScope ["_law_rings_here", "_law_rest", "_law_steps", "_law_n", "_law_many", "_law_free", "_law_book", "_law_at", "_law_ring", "_law_k", "_law_inside", "_law_one"] ["_law_rings_here", "_law_rest", "_law_steps", "_law_n", "_law_many", "_law_free"] (defScope s__law_laid) := ⟨rfl, rfl, rfl, by decide +kernel, rfl, by decide +kernel, by decide +kernel⟩
theorem ok_laid {f : Addr} {fd : FuncData} (F : Fun K "_law_laid" "_law_laid" s__law_laid f fd) (B : Bi mg) : FnOk P w K mg base CX0 1 f fd ["_law_rings_here", "_law_rest", "_law_steps", "_law_n", "_law_many", "_law_free"] (spR Rl_laid) := by
  refine fn_pure F sc__law_laid (by rintro ds d ⟨_, _, _, _, _, _, _, rfl, rfl⟩; rfl) fun cdv A outer s H E hr => ?_
  have nd := sc__law_laid.nd
  refine ⟨_, (pss_cons (ps_setLc (i := 6) (own := [("_law_one", 11)]) (g := (gName 11)) (tt := tYes) rfl nd rfl rfl (sw_true rfl rfl rfl (by decide +kernel)) (pi_range1 rfl B.range (pa_cons (pv 3) pa_nil)) (blkOk_by (N := ["_law_rings_here", "_law_rest", "_law_steps", "_law_n", "_law_many", "_law_free", "_law_book", "_law_at", "_law_ring", "_law_k", "_law_inside", "_law_one"]) (sc := (defScope s__law_laid)) (by decide +kernel)) (fun _ _ _ _ _ => (pg_name (i := 11) nd rfl (Or.inl rfl))) (fun _ _ _ _ _ => pts_nil) (fun _ _ _ _ _ => (pe_lst pa_nil)))
    (pss_cons (ps_for PassesOwn.never rfl (pi_range1 rfl B.range (pa_cons (pe_callB (lenS K) (by rfl) B.len (by decide +kernel) (pa_cons (pv 0) pa_nil)) pa_nil)) (pg_name (i := 7) nd rfl (Or.inl rfl))
      (pss_cons (ps_set (i := 8) nd rfl (Or.inl rfl) (pe_ix (ixL K) (pv 0) (pv 7) (fun _ _ => rfl)))
      (pss_cons (ps_for PassesOwn.never rfl (pi_range1 rfl B.range (pa_cons (pe_callB (lenS K) (by rfl) B.len (by decide +kernel) (pa_cons (pv 8) pa_nil)) pa_nil)) (pg_name (i := 9) nd rfl (Or.inl rfl))
        (pss_one (ps_expr (bmK K PySem.F.plainAttrs_list PySem.F.slot_list_append PySem.F.type_list_append mt_append (pe_ix (ixL K) (pv 6) (pe_ix (ixL K) (pv 8) (pv 9) (fun _ _ => rfl)) (fun _ _ => rfl)) (pa_cons (pe_tup (pa_cons (pe_tup (pa_cons (pe_ix (ixL K) (pv 2) (pv 7) (fun _ _ => rfl)) (pa_cons (pe_tup (pa_cons pe_str (pa_cons (pe_ix (ixL K) (pv 8) (pe_op op_mod (pe_op op_add (pv 9) pe_int) (pe_callB (lenS K) (by rfl) B.len (by decide +kernel) (pa_cons (pv 8) pa_nil))) (fun _ _ => rfl)) (pa_cons (pe_ix (ixL K) (pv 2) (pv 7) (fun _ _ => rfl)) pa_nil)))) pa_nil))) pa_nil)) pa_nil)))))
      (pss_one (ps_if (pt_cmpR op_eq (pv 7) (pv 5) (nomark _)) (pss_one (ps_expr (bmK K PySem.F.plainAttrs_list PySem.F.slot_list_append PySem.F.type_list_append mt_append (pe_ix (ixL K) (pv 6) (pe_ix (ixL K) (pv 8) pe_int (fun _ _ => rfl)) (fun _ _ => rfl)) (pa_cons (pe_tup (pa_cons (pe_tup (pa_cons (pe_ix (ixL K) (pv 2) (pv 7) (fun _ _ => rfl)) (pa_cons (pe_tup (pa_cons pe_str pa_nil)) pa_nil))) pa_nil)) pa_nil)))) pss_nil)))))
    (pss_cons (ps_set (i := 10) nd rfl (Or.inl rfl) (pe_lst pa_nil))
    (pss_cons (ps_for PassesOwn.never rfl (piL K (pv 0)) (pg_name (i := 8) nd rfl (Or.inl rfl))
      (pss_one (ps_expr (bmK K PySem.F.plainAttrs_list PySem.F.slot_list_extend PySem.F.type_list_extend mt_extend (pv 10) (pa_cons (pv 8) pa_nil)))))
    (pss_cons (ps_set (i := 10) nd rfl (Or.inl rfl) (pe_callTy (tupOf K) (by rfl) B.tuple (by decide +kernel) (pa_cons (pe_callB (sortedD K (us hr)) (by rfl) B.sorted (by decide +kernel) (pa_cons (pv 10) pa_nil)) pa_nil)))
    (pss_cons (ps_for PassesOwn.never rfl (piL K (pv 1)) (pg_name (i := 11) nd rfl (Or.inl rfl))
      (pss_one (ps_if (pt_cmpR (neD K (uq hr)) (pv 10) (pe_tup pa_nil) (nomark _)) (pss_one (ps_expr (bmK K PySem.F.plainAttrs_list PySem.F.slot_list_append PySem.F.type_list_append mt_append (pe_ix (ixL K) (pv 6) (pv 11) (fun _ _ => rfl)) (pa_cons (pe_tup (pa_cons (pe_tup (pa_cons pe_int (pa_cons (pe_tup (pa_cons pe_str (pa_cons (pv 10) (pa_cons pe_int (pa_cons (pv 4) pa_nil))))) pa_nil))) pa_nil)) pa_nil)))) pss_nil)))
    (pss_one (ps_ret (pv 6))))))))),
    ?_⟩
  rintro ds d ⟨rings, rest, st, n, many, free, R, rfl, rfl⟩ G0 H0 Q hQ
  have hn := R.hn
  have hrl := R.hrl
  have hb0 : Rows 0 (List.replicate n ([] : List Pledge)) := fun ps hp => by rw [List.eq_of_mem_replicate hp]; simp
  refine g_seq (g_rows (n := n) (ed_cons (em_var rfl) ed_nil) (by omega) (by decide) fun Dl qs hqs => ?_)
  have hM0 : ((Dl, CO.raw (.lst (refs qs))) :: (rowsM qs (List.replicate n []) ++ [])) = bookM Dl qs (List.replicate n []) := by
    rw [List.append_nil, bookM, List.map_replicate]
    rfl
  rw [hM0]
  refine g_seq (g_forR (S := Book) (fun i s => s = laidRings rings st free (List.replicate n []) i) (fun _ => [.da (.list (rings.map eC)), .da (eC rest), .da (.list (st.map .int)), .da (.int (n : Int)), .da (.int many), .da (.int (free : Int)), .vw (.ref Dl), .un, .un, .un, .un, .un]) (fun s => bookM Dl qs s) (n := rings.length) (ed_cons (em_is (em_len_l (em_var rfl)) (by rw [List.length_map])) ed_nil) (by omega) _ rfl (Wk.refl _) rfl ?_ ?_)
  · rintro i s hi rfl
    obtain ⟨w1, w2⟩ := laidRings_rows (rings := rings) st free (fun r h => (R.hr r h).2.1) hb0 i
    rw [List.length_replicate] at w2
    have hmem := getD_mem (a := []) hi
    obtain ⟨r1, r2, r3⟩ := R.hr _ hmem
    have hsti : i < st.length := Nat.lt_of_lt_of_le hi R.hst
    have hpos : 0 < (rings.getD i []).length := List.length_pos_iff.mpr r1
    have hlay : laidRings rings st free (List.replicate n []) (i + 1) = laidOne (gv st i) (rings.getD i []) (decide (i = free)) (laidRings rings st free (List.replicate n []) i) := rfl
    generalize laidRings rings st free (List.replicate n []) i = b0 at *
    generalize hring : rings.getD i [] = ring at *
    refine q_asg (d := eC ring) (em_is (em_ixR (em_var rfl) (em_var rfl) hi) (by rw [hring])) ?_
    refine g_seq (g_forR (S := Book) (fun k s => s = laidRing (gv st i) ring b0 k) (fun _ => [.da (.list (rings.map eC)), .da (eC rest), .da (.list (st.map .int)), .da (.int (n : Int)), .da (.int many), .da (.int (free : Int)), .vw (.ref Dl), .da (.int (i : Int)), .da (eC ring), .un, .un, .un]) (fun s => bookM Dl qs s) (n := ring.length) (ed_cons (em_len_c (em_var rfl)) ed_nil) (by omega) b0 rfl (Wk.refl _) rfl ?_ ?_)
    · rintro k s hk rfl
      obtain ⟨x1, x2⟩ := laidRing_rows (gv st i) ring w1 k
      have hlt := Nat.mod_lt (k + 1) hpos
      refine g_addP (by omega) (o := ring.getD k 0) (p := [(gv st i, .gives (ring.getD ((k + 1) % ring.length) 0) (gv st i))]) (by rw [x2, w2]; exact r3 _ (getD_mem hk)) (fun ps hp => by have := x1 ps hp; omega) rfl (em_ixC (em_var rfl) (em_var rfl) hk) ?_ ?_
      · refine em_tup (ed_cons (em_pair (em_ixI (em_var rfl) (em_var rfl) hsti) (em_tup (ed_cons em_str (ed_cons (em_ixC (em_var rfl) (em_is (em_op (em_op (em_var rfl) em_int ro_add) (em_len_c (em_var rfl)) (ro_mod (by omega))) (by rw [Int.natCast_emod]; rfl)) hlt) (ed_cons (em_ixI (em_var rfl) (em_var rfl) hsti) ed_nil))) (show 3 ≤ 100000 by decide))) ed_nil) (show 1 ≤ 100000 by decide)
      · exact nt_pi _ _ _ (s := laidRing (gv st i) ring b0 (k + 1)) rfl (by repeat (first | exact trivial | refine ⟨.inr rfl, ?_⟩ | refine ⟨.inl rfl, ?_⟩)) rfl
    · rintro s rfl
      obtain ⟨x1, x2⟩ := laidRing_rows (gv st i) ring w1 ring.length
      refine g_if (b := decide ((i : Int) = (free : Int))) (et_test (em_op (em_var rfl) (em_var rfl) ro_eqI)) (fun e => ?_) (fun e => ?_)
      · have e' : i = free := by have := of_decide_eq_true e; omega
        refine g_addP (by omega) (o := ring.getD 0 0) (p := [(gv st i, .free)]) (by rw [x2, w2]; exact r3 _ (getD_mem hpos)) (fun ps hp => by have := x1 ps hp; omega) rfl (em_ixC (i := 0) (em_var rfl) em_int hpos) ?_ ?_
        · exact em_tup (ed_cons (em_pair (em_ixI (em_var rfl) (em_var rfl) hsti) (em_tup (ed_cons em_str ed_nil) (show 1 ≤ 100000 by decide))) ed_nil) (show 1 ≤ 100000 by decide)
        · refine nt_pi _ _ _ (s := addP (laidRing (gv st i) ring b0 ring.length) (ring.getD 0 0) [(gv st i, .free)]) ?_ (by repeat (first | exact trivial | refine ⟨.inr rfl, ?_⟩ | refine ⟨.inl rfl, ?_⟩)) rfl
          rw [hlay, laidOne, decide_eq_true e', if_pos rfl]
      · have e' : ¬ i = free := by have := of_decide_eq_false e; omega
        refine g_next (nt_pi _ _ _ (s := laidRing (gv st i) ring b0 ring.length) ?_ (by repeat (first | exact trivial | refine ⟨.inr rfl, ?_⟩ | refine ⟨.inl rfl, ?_⟩)) rfl)
        rw [hlay, laidOne, decide_eq_false e', if_neg Bool.false_ne_true]
  · rintro s rfl
    obtain ⟨w1, w2⟩ := laidRings_rows (rings := rings) st free (fun r h => (R.hr r h).2.1) hb0 rings.length
    rw [List.length_replicate] at w2
    show Go _ _ _ _ _ _
    have hfin : laidF rings rest st n many free = rest.foldl (laidRest (insideF rings) many) (laidRings rings st free (List.replicate n []) rings.length) := rfl
    generalize laidRings rings st free (List.replicate n []) rings.length = b0 at *
    refine q_asgN (ds := []) en_nil fun p => ?_
    refine g_seq (g_forL (S := List Nat) (fun i s => s = (rings.take i).flatten) (fun _ => [.da (.list (rings.map eC)), .da (eC rest), .da (.list (st.map .int)), .da (.int (n : Int)), .da (.int many), .da (.int (free : Int)), .vw (.ref Dl), .un, .un, .un, .vw (.ref p), .un]) (fun s => (p, .l (eN s)) :: bookM Dl qs b0) eC rings (em_var rfl) [] rfl (Wk.refl _) rfl ?_ ?_)
    · rintro i ring s G1 up hi rfl
      have hfl : (rings.take (i + 1)).flatten = (rings.take i).flatten ++ ring := by
        rw [List.take_add_one, hi, Option.toList_some, List.flatten_append]
        simp
      have hl1 : ∀ j, (rings.take j).flatten.length ≤ 12 * j := by
        intro j
        induction j with
        | zero => simp
        | succ j ih =>
          rw [List.take_add_one, List.flatten_append, List.length_append]
          cases e : rings[j]? with
          | none => simp only [Option.toList_none, List.flatten_nil, List.length_nil]; omega
          | some r =>
            have := (R.hr r (List.mem_of_getElem? e)).2.1
            simp only [Option.toList_some, List.flatten_cons, List.flatten_nil, List.append_nil]
            omega
      have hil := (List.getElem?_eq_some_iff.mp hi).1
      refine ⟨_, _, eg_name, ?_⟩
      refine g_ext (k := 0) rfl (ev_var rfl) (em_var (d := .list (eN ring)) rfl) ?_ ?_
      · have := hl1 i
        have := (R.hr ring (List.mem_of_getElem? hi)).2.1
        rw [eN_len, eN_len]
        omega
      · refine nt_pi _ _ _ (s := (rings.take (i + 1)).flatten) rfl (by repeat (first | exact trivial | refine ⟨.inr rfl, ?_⟩ | refine ⟨.inl rfl, ?_⟩)) ?_
        rw [hfl]
        simp [eN, iN]
    · rintro s rfl
      rw [List.take_length]
      refine g_frz 0 10 rfl rfl ?_
      refine q_asg (d := .tuple (eN (insideF rings))) (em_cb (ed_cons (EN.em (en_sortN (em_var rfl))) ed_nil) rc_tuple_l) ?_
      refine g_seq (g_forL (S := Book) (fun i s => s = (rest.take i).foldl (laidRest (insideF rings) many) b0) (fun _ => [.da (.list (rings.map eC)), .da (eC rest), .da (.list (st.map .int)), .da (.int (n : Int)), .da (.int many), .da (.int (free : Int)), .vw (.ref Dl), .un, .un, .un, .da (.tuple (eN (insideF rings))), .un]) (fun s => bookM Dl qs s) (fun o : Nat => .int (o : Int)) rest (em_is (em_var rfl) (by unfold eC eN iN; rw [List.map_map]; rfl)) b0 rfl (by repeat (first | exact trivial | refine ⟨.inr rfl, ?_⟩ | refine ⟨.inl rfl, ?_⟩)) rfl ?_ ?_)
      · rintro i one s G1 up hi rfl
        obtain ⟨x1, x2⟩ := foldRest_rows (insideF rings) many (rest.take i) w1
        have hsl := R.hsl
        have hone := R.hs one (List.mem_of_getElem? hi)
        have hstep := take_fold (laidRest (insideF rings) many) b0 hi
        have htl : (rest.take i).length ≤ 12 := by rw [List.length_take]; omega
        generalize (rest.take i).foldl (laidRest (insideF rings) many) b0 = b1 at *
        refine ⟨_, _, eg_name, ?_⟩
        refine g_if (b := !decide (insideF rings = [])) (et_is (et_test (em_op (em_var rfl) (em_tup ed_nil (Nat.zero_le _)) (ro_neD ((sh_eNt _).shaped (by decide)) ((sh_eNt []).shaped (by decide))))) (by rw [eqv_eNt])) (fun e => ?_) (fun e => ?_)
        · have e' : ¬ insideF rings = [] := by simpa using e
          refine g_addP (by omega) (o := one) (p := [(3, .crowd (insideF rings) 1 many)]) (by omega) (fun ps hp => by have := x1 ps hp; omega) rfl (em_var rfl) ?_ ?_
          · exact em_tup (ed_cons (em_pair em_int (em_tup (ed_cons em_str (ed_cons (em_var rfl) (ed_cons em_int (ed_cons (em_var rfl) ed_nil)))) (show 4 ≤ 100000 by decide))) ed_nil) (show 1 ≤ 100000 by decide)
          · refine nt_pi _ _ _ (s := addP b1 one [(3, .crowd (insideF rings) 1 many)]) ?_ (by repeat (first | exact trivial | refine ⟨.inr rfl, ?_⟩ | refine ⟨.inl rfl, ?_⟩)) rfl
            rw [hstep, laidRest, if_neg e']
        · have e' : insideF rings = [] := by simpa using e
          refine g_next (nt_pi _ _ _ (s := b1) ?_ (by repeat (first | exact trivial | refine ⟨.inr rfl, ?_⟩ | refine ⟨.inl rfl, ?_⟩)) rfl)
          rw [hstep, laidRest, if_pos e']
      · rintro s rfl
        obtain ⟨x1, x2⟩ := foldRest_rows (insideF rings) many rest w1
        rw [List.take_length, ← hfin]
        rw [← hfin] at x2
        refine g_frzRows (Ms' := []) (p := Dl) (qs := qs) (dss := (laidF rings rest st n many free).map eRow) 6 (by rw [List.length_map]; omega) rfl (by rw [bookM, List.append_nil]) ?_
        refine g_ret (em_is (em_var rfl) ?_) hQ
        unfold eB
        rw [List.map_map]
        rfl
abbrev s__law_given : Stmt := topS 29
theorem sc__law_given : FnScope ["_law_rings_here", "_law_rest", "_law_steps", "_law_n", "_law_many", "_law_closed", "_law_giving", "_law_count", "_law_at", "_law_one"] ["_law_rings_here", "_law_rest", "_law_steps", "_law_n", "_law_many", "_law_closed"] (defScope s__law_given) := ⟨rfl, rfl, rfl, by decide +kernel, rfl, by decide +kernel, by decide +kernel⟩
theorem ok_given {f : Addr} {fd : FuncData} (F : Fun K "_law_given" "_law_given" s__law_given f fd) (B : Bi mg) : FnOk P w K mg base CX0 1 f fd ["_law_rings_here", "_law_rest", "_law_steps", "_law_n", "_law_many", "_law_closed"] (spR Rl_given) := by
  refine fn_pure F sc__law_given (by rintro ds d ⟨_, _, _, _, _, _, _, _, _, rfl, rfl⟩; rfl) fun cdv A outer s H E hr => ?_
  have nd := sc__law_given.nd
  refine ⟨_, (pss_cons (ps_set (i := 6) nd rfl (Or.inl rfl) (pe_op op_rep (pe_lst (pa_cons pe_int pa_nil)) (pv 3)))
    (pss_cons (ps_set (i := 7) nd rfl (Or.inl rfl) pe_int)
    (pss_cons (ps_for PassesOwn.never rfl (piL K (pv 5)) (pg_name (i := 8) nd rfl (Or.inl rfl))
      (pss_one (ps_for PassesOwn.never rfl (piL K (pe_ix (ixL K) (pv 0) (pv 8) (fun _ _ => rfl))) (pg_name (i := 9) nd rfl (Or.inl rfl))
        (pss_cons (ps_asg (pe_ix (ixL K) (pv 2) (pv 8) (fun _ _ => rfl)) (pg_sub (pv 6) (pv 9) set_list))
        (pss_one (ps_set (i := 7) nd rfl (Or.inl rfl) (pe_op op_add (pv 7) pe_int)))))))
    (pss_cons (ps_for PassesOwn.never rfl (piL K (pv 1)) (pg_name (i := 9) nd rfl (Or.inl rfl))
      (pss_one (ps_if (PW.pt (pw_and (pt_cmpR op_ge (pv 7) (pv 4) (nomark _)) (pw_and1 (pt_cmpR (neD K (uq hr)) (pv 0) (pe_lst pa_nil) (nomark _))))) (pss_one (ps_asg pe_int (pg_sub (pv 6) (pv 9) set_list))) pss_nil)))
    (pss_one (ps_ret (pe_callTy (tupOf K) (by rfl) B.tuple (by decide +kernel) (pa_cons (pv 6) pa_nil)))))))),
    ?_⟩
  rintro ds d ⟨rings, rest, st, n, many, closed, R, hc, hcl, rfl, rfl⟩ G0 H0 Q hQ
  have hn := R.hn
  refine q_asgN (ds := (List.replicate n (0 : Int)).map .int) (en_is (en_op (EN.em (en_one em_int)) (em_var rfl) (ron_rep (by omega) (by simp; omega))) (by rw [flat_one, List.map_replicate])) fun p => ?_
  refine q_asg em_int ?_
  refine g_seq (g_forL (S := List Int × Nat) (fun i s => s = (closed.take i).foldl (closedF rings st) (List.replicate n 0, 0) ∧ s.1.length = n) (fun s => [.da (.list (rings.map eC)), .da (eC rest), .da (.list (st.map .int)), .da (.int (n : Int)), .da (.int many), .da (eC closed), .vw (.ref p), .da (.int (s.2 : Int)), .un, .un]) (fun s => [(p, .l (s.1.map .int))])
    (fun a : Nat => .int (a : Int)) closed (em_is (em_var rfl) (by unfold eC eN iN; rw [List.map_map]; rfl)) (List.replicate n 0, 0) ⟨rfl, List.length_replicate⟩ (Wk.refl _) rfl ?_ ?_)
  · rintro i a s G1 up hi ⟨hs, hsl⟩
    have hstep := take_fold (closedF rings st) (List.replicate n 0, 0) hi
    rw [← hs] at hstep
    have ha := hc a (List.mem_of_getElem? hi)
    have hmem := getD_mem (a := []) ha
    obtain ⟨r1, r2, r3⟩ := R.hr _ hmem
    have hsta : a < st.length := Nat.lt_of_lt_of_le ha R.hst
    refine ⟨_, _, eg_name, ?_⟩
    generalize hring : rings.getD a [] = ring at *
    refine g_forL (S := List Int × Nat) (fun j t => t = (setAll (gv st a) (ring.take j) s.1, s.2 + j) ∧ t.1.length = n) (fun t => [.da (.list (rings.map eC)), .da (eC rest), .da (.list (st.map .int)), .da (.int (n : Int)), .da (.int many), .da (eC closed), .vw (.ref p), .da (.int (t.2 : Int)), .da (.int (a : Int)), .un]) (fun t => [(p, .l (t.1.map .int))])
      (fun o : Nat => .int (o : Int)) ring (em_is (em_ixR (em_var rfl) (em_var rfl) ha) (by rw [hring]; unfold eC eN iN; rw [List.map_map]; rfl)) s ⟨rfl, hsl⟩ (Wk.refl _) rfl ?_ ?_
    · rintro j o t G2 up2 hj ⟨ht, htl⟩
      have ho := r3 o (List.mem_of_getElem? hj)
      refine ⟨_, _, eg_name, ?_⟩
      refine g_seq (g_setL (k := 0) (j := o) rfl (em_ixI (em_var rfl) (em_var rfl) hsta) (ev_var rfl) (em_var rfl) (by rw [List.length_map, htl]; exact ho) ?_)
      refine g_asg (em_op (em_var rfl) em_int ro_add) ?_
      refine nt_pi _ _ _ (s := (t.1.set o (gv st a), t.2 + 1)) ⟨?_, by rw [List.length_set]; exact htl⟩ (by repeat (first | exact trivial | refine ⟨.inr rfl, ?_⟩ | refine ⟨.inl rfl, ?_⟩)) ?_
      · rw [ht]
        unfold setAll
        rw [take_fold _ _ hj]
        rfl
      · simp [List.map_set]
    · rintro t ⟨ht, htl⟩
      rw [List.take_length] at ht
      refine nt_pi _ _ _ (s := t) ⟨?_, htl⟩ (by repeat (first | exact trivial | refine ⟨.inr rfl, ?_⟩ | refine ⟨.inl rfl, ?_⟩)) rfl
      rw [hstep, closedF, hring, ht]
  · rintro s ⟨hs, hsl⟩
    rw [List.take_length] at hs
    have hg : givenF rings rest st n many closed = if many ≤ (s.2 : Int) ∧ rings ≠ [] then setAll 3 rest s.1 else s.1 := by rw [hs]; rfl
    refine g_seq (g_forL (S := List Int) (fun j t => t = (if many ≤ (s.2 : Int) ∧ rings ≠ [] then setAll 3 (rest.take j) s.1 else s.1) ∧ t.length = n) (fun t => [.da (.list (rings.map eC)), .da (eC rest), .da (.list (st.map .int)), .da (.int (n : Int)), .da (.int many), .da (eC closed), .vw (.ref p), .da (.int (s.2 : Int)), .un, .un]) (fun t => [(p, .l (t.map .int))])
      (fun o : Nat => .int (o : Int)) rest (em_is (em_var rfl) (by unfold eC eN iN; rw [List.map_map]; rfl)) s.1 ⟨by unfold setAll; simp, hsl⟩ (Wk.refl _) rfl ?_ ?_)
    · rintro j o t G1 up hj ⟨ht, htl⟩
      have ho := R.hs o (List.mem_of_getElem? hj)
      refine ⟨_, _, eg_name, ?_⟩
      refine g_if (b := decide (many ≤ (s.2 : Int)) && !decide (rings = [])) (et_and (et_test (em_op (em_var rfl) (em_var rfl) ro_cmp)) fun _ => et_is (et_test (em_op (em_var rfl) (EN.em en_nil) (ro_neD ((sh_list sh_eC _).shaped (by decide)) ((sh_list sh_eC []).shaped (by decide))))) (congrArg not (eqv_eLs rings []))) (fun e => ?_) (fun e => ?_)
      · have e' : many ≤ (s.2 : Int) ∧ rings ≠ [] := by simpa using e
        refine g_setL (k := 0) (j := o) rfl em_int (ev_var rfl) (em_var rfl) (by rw [List.length_map, htl]; exact ho) ?_
        refine nt_pi _ _ _ (s := t.set o 3) ⟨?_, by rw [List.length_set]; exact htl⟩ (by repeat (first | exact trivial | refine ⟨.inr rfl, ?_⟩ | refine ⟨.inl rfl, ?_⟩)) (by simp [List.map_set])
        rw [if_pos e'] at ht ⊢
        rw [ht]
        unfold setAll
        rw [take_fold _ _ hj]
      · have e' : ¬ (many ≤ (s.2 : Int) ∧ rings ≠ []) := by
          intro h
          simp [h.1, h.2] at e
        refine g_next (nt_pi _ _ _ (s := t) ⟨?_, htl⟩ (by repeat (first | exact trivial | refine ⟨.inr rfl, ?_⟩ | refine ⟨.inl rfl, ?_⟩)) rfl)
        rw [if_neg e'] at ht ⊢
        exact ht
    · rintro t ⟨ht, htl⟩
      rw [List.take_length, ← hg] at ht
      refine g_frz 0 6 rfl rfl (g_ret (em_cb (ed_cons (em_var rfl) ed_nil) rc_tuple_l) ?_)
      rw [ht]
      exact hQ
abbrev s_law : Stmt := topS 30
theorem sc_law : FnScope ["_law_script", "_law_cell", "_law_drawn", "_law_n", "_law_rings_here", "_law_rest", "_law_steps", "_law_many", "_law_free", "_law_book", "_law_floor", "_law_closed", "_law_sure_giving", "_law_whole", "_law_left", "_law_want", "_law_knot", "_law_at", "_law_here", "_law_step", "_law_one"] ["_law_script"] (defScope s_law) := ⟨rfl, rfl, rfl, by decide +kernel, rfl, by decide +kernel, by decide +kernel⟩
theorem ok_law {k : Nat} {f a1 a2 a3 a4 a5 a6 a7 a8 a9 a10 : Addr} {fd b1 b2 b3 b4 b5 b6 b7 b8 b9 b10 : FuncData} (F : Fun K "law" "law" s_law f fd) (B : Bi mg)
    (D__law_draws : Df P w K mg base k "_law_draws" ["_law_cell", "_law_parts"] (spR Rl_draws) a1 b1) (D__law_same : Df P w K mg base k "_law_same" ["_law_found", "_law_due"] (spR (Rl_same 5)) a2 b2) (D__law_rings : Df P w K mg base k "_law_rings" ["_law_cell", "_law_n"] (spR (Rl_rings 5)) a3 b3)
    (D__law_laid : Df P w K mg base k "_law_laid" ["_law_rings_here", "_law_rest", "_law_steps", "_law_n", "_law_many", "_law_free"] (spR Rl_laid) a4 b4) (D__law_given : Df P w K mg base k "_law_given" ["_law_rings_here", "_law_rest", "_law_steps", "_law_n", "_law_many", "_law_closed"] (spR Rl_given) a5 b5) (D_least : Df P w K mg base k "least" ["book", "floor"] (spR (Rl_least 5)) a6 b6) (D_greatest : Df P w K mg base k "greatest" ["book", "floor"] (spR (Rl_greatest 5)) a7 b7)
    (D_knots : Df P w K mg base k "knots" ["book", "floor"] (spR (Rl_knots 5)) a8 b8) (D_alone : Df P w K mg base k "alone" ["book", "floor", "crowd"] (spR (Rl_alone 5)) a9 b9) (D_climb : Df P w K mg base k "climb" ["book", "floor"] (spR (Rl_climb 5)) a10 b10)
    (hM : ∀ c, M30 (n30 c) (rs30 c).1 (rs30 c).2 (st30 c) (many30 c) (free30 c)) : FnOk P w K mg base CX0 (k + 1) f fd ["_law_script"] (spLaw K) := by
  refine F.ok sc_law (fun vs H Q E h => ?_) (fun cdv A outer s H vs Q E hr h => ?_)
  · obtain ⟨a, ns, rfl, _⟩ := h
    rfl
  obtain ⟨sa, ns, rfl, hS, h63, hQ⟩ := h
  have nd := sc_law.nd
  refine ⟨_, (pss_cons (ps_set (i := 0) nd rfl (Or.inl rfl) (pe_slice (slL K) (pv 0) po_none (po_some pe_int)))
    (pss_cons (ps_for PassesOwn.never rfl (piL K (pe_op op_cat (pe_slice (slL K) (pv 0) po_none (po_some pe_int)) (pe_lst (pa_cons pe_int (pa_cons pe_int pa_nil))))) (pg_name (i := 1) nd rfl (Or.inl rfl))
      (pss_cons (ps_set (i := 2) nd rfl (Or.inl rfl) (pe_call D__law_draws.ok (hr.mono (by omega)) (by rfl) D__law_draws.mg D__law_draws.kp D__law_draws.bi .nil pass0 (pa_cons (pv 1) (pa_cons (pe_lst (pa_cons pe_int (pa_cons pe_int (pa_cons pe_int (pa_cons pe_int (pa_cons pe_int (pa_cons pe_int (pa_cons pe_int pa_nil)))))))) pa_nil))))
      (pss_cons (ps_set (i := 3) nd rfl (Or.inl rfl) (pe_op op_add pe_int (pe_ix (ixL K) (pv 2) pe_int (fun _ _ => rfl))))
      (pss_cons (ps_asg (pe_call D__law_rings.ok (hr.mono (by omega)) (by rfl) D__law_rings.mg D__law_rings.kp D__law_rings.bi .nil pass0 (pa_cons (pe_op op_add (pv 1) pe_int) (pa_cons (pv 3) pa_nil))) (pgT K (pgs_cons (pg_name (i := 4) nd rfl (Or.inr rfl)) (pgs_cons (pg_name (i := 5) nd rfl (Or.inl rfl)) pgs_nil))))
      (pss_cons (ps_setLc (i := 6) (own := [("_law_step", 19)]) (g := (gName 19)) (tt := tYes) rfl nd rfl rfl (sw_true rfl rfl rfl (by decide +kernel)) (piL K (pe_slice (slL K) (pv 2) (po_some pe_int) po_none)) (blkOk_by (N := ["_law_script", "_law_cell", "_law_drawn", "_law_n", "_law_rings_here", "_law_rest", "_law_steps", "_law_many", "_law_free", "_law_book", "_law_floor", "_law_closed", "_law_sure_giving", "_law_whole", "_law_left", "_law_want", "_law_knot", "_law_at", "_law_here", "_law_step", "_law_one"]) (sc := (defScope s_law)) (by decide +kernel)) (fun _ _ _ _ _ => (pg_name (i := 19) nd rfl (Or.inl rfl))) (fun _ _ _ _ _ => pts_nil) (fun _ _ _ _ _ => (pe_op op_add pe_int (pv 19))))
      (pss_cons (ps_set (i := 7) nd rfl (Or.inl rfl) (pe_op op_add pe_int (pe_ix (ixL K) (pv 2) pe_int (fun _ _ => rfl))))
      (pss_cons (ps_set (i := 8) nd rfl (Or.inr rfl) (pe_ix (ixL K) (pv 2) pe_int (fun _ _ => rfl)))
      (pss_cons (ps_set (i := 9) nd rfl (Or.inl rfl) (pe_call D__law_laid.ok (hr.mono (by omega)) (by rfl) D__law_laid.mg D__law_laid.kp D__law_laid.bi .nil pass0 (pa_cons (pv 4) (pa_cons (pv 5) (pa_cons (pv 6) (pa_cons (pv 3) (pa_cons (pv 7) (pa_cons (pv 8) pa_nil))))))))
      (pss_cons (ps_set (i := 10) nd rfl (Or.inl rfl) (pe_op (repT K) (pe_tup (pa_cons pe_int pa_nil)) (pv 3)))
      (pss_cons (ps_setLc (i := 11) (own := [("_law_at", 17)]) (g := (gName 17)) (tt := _) rfl nd rfl rfl (sw_true rfl rfl rfl (by decide +kernel)) (pi_range1 rfl B.range (pa_cons (pe_callB (lenS K) (by rfl) B.len (by decide +kernel) (pa_cons (pv 4) pa_nil)) pa_nil)) (blkOk_by (N := ["_law_script", "_law_cell", "_law_drawn", "_law_n", "_law_rings_here", "_law_rest", "_law_steps", "_law_many", "_law_free", "_law_book", "_law_floor", "_law_closed", "_law_sure_giving", "_law_whole", "_law_left", "_law_want", "_law_knot", "_law_at", "_law_here", "_law_step", "_law_one"]) (sc := (defScope s_law)) (by decide +kernel)) (fun _ _ _ _ _ => (pg_name (i := 17) nd rfl (Or.inl rfl))) (fun _ _ _ _ _ => (pts_one (pt_cmpR op_eq (pv 17) (pv 8) (nomark _)))) (fun _ _ _ _ _ => (pv 17)))
      (pss_cons (ps_set (i := 12) nd rfl (Or.inl rfl) (pe_call D__law_given.ok (hr.mono (by omega)) (by rfl) D__law_given.mg D__law_given.kp D__law_given.bi .nil pass0 (pa_cons (pv 4) (pa_cons (pv 5) (pa_cons (pv 6) (pa_cons (pv 3) (pa_cons (pv 7) (pa_cons (pv 11) pa_nil))))))))
      (pss_cons (ps_set (i := 13) nd rfl (Or.inl rfl) (pe_call D__law_given.ok (hr.mono (by omega)) (by rfl) D__law_given.mg D__law_given.kp D__law_given.bi .nil pass0 (pa_cons (pv 4) (pa_cons (pv 5) (pa_cons (pv 6) (pa_cons (pv 3) (pa_cons (pv 7) (pa_cons (pe_listRg rfl (by rfl) B.list (prg_1 (by rfl) B.range (pe_callB (lenS K) (by rfl) B.len (by decide +kernel) (pa_cons (pv 4) pa_nil)))) pa_nil))))))))
      (pss_cons (ps_if (pt_not (pt_val (pe_call D__law_same.ok (hr.mono (by omega)) (by rfl) D__law_same.mg D__law_same.kp D__law_same.bi .nil pass0 (pa_cons (pe_lst (pa_cons (pe_call D_least.ok (hr.mono (by omega)) (by rfl) D_least.mg D_least.kp D_least.bi .nil pass0 (pa_cons (pv 9) (pa_cons (pv 10) pa_nil))) (pa_cons (pe_call D_greatest.ok (hr.mono (by omega)) (by rfl) D_greatest.mg D_greatest.kp D_greatest.bi .nil pass0 (pa_cons (pv 9) (pa_cons (pv 10) pa_nil))) pa_nil))) (pa_cons (pe_lst (pa_cons (pv 12) (pa_cons (pv 13) pa_nil))) pa_nil))))) (pss_one (ps_ret pe_bl)) pss_nil)
      (pss_cons (ps_set (i := 14) nd rfl (Or.inl rfl) (pe_callB (sortedD K (us hr)) (by rfl) B.sorted (by decide +kernel) (pa_cons (pe_lc (own := [("_law_at", 17)]) (g := (gName 17)) (tt := _) rfl nd (pi_range1 rfl B.range (pa_cons (pe_callB (lenS K) (by rfl) B.len (by decide +kernel) (pa_cons (pv 4) pa_nil)) pa_nil)) (blkOk_by (N := ["_law_script", "_law_cell", "_law_drawn", "_law_n", "_law_rings_here", "_law_rest", "_law_steps", "_law_many", "_law_free", "_law_book", "_law_floor", "_law_closed", "_law_sure_giving", "_law_whole", "_law_left", "_law_want", "_law_knot", "_law_at", "_law_here", "_law_step", "_law_one"]) (sc := (defScope s_law)) (by decide +kernel)) (fun _ _ _ _ _ => (pg_name (i := 17) nd rfl (Or.inl rfl))) (fun _ _ _ _ _ => (pts_one (pt_cmpR op_ne (pv 17) (pv 8) (nomark _)))) (fun _ _ _ _ _ => (pe_tup (pa_cons (pe_callB (sortedD K (us hr)) (by rfl) B.sorted (by decide +kernel) (pa_cons (pe_ix (ixL K) (pv 4) (pv 17) (fun _ _ => rfl)) pa_nil)) (pa_cons (pv 17) pa_nil))))) pa_nil)))
      (pss_cons (ps_if (pt_not (pt_val (pe_call D__law_same.ok (hr.mono (by omega)) (by rfl) D__law_same.mg D__law_same.kp D__law_same.bi .nil pass0 (pa_cons (pe_call D_knots.ok (hr.mono (by omega)) (by rfl) D_knots.mg D_knots.kp D_knots.bi .nil pass0 (pa_cons (pv 9) (pa_cons (pv 10) pa_nil))) (pa_cons (pe_lc (own := [("_law_knot", 16), ("_law_at", 17)]) (g := (gTup K 2 (gCons (gName 16) (gCons (gName 17) gNil)))) (tt := tYes) rfl nd (piL K (pv 14)) (blkOk_by (N := ["_law_script", "_law_cell", "_law_drawn", "_law_n", "_law_rings_here", "_law_rest", "_law_steps", "_law_many", "_law_free", "_law_book", "_law_floor", "_law_closed", "_law_sure_giving", "_law_whole", "_law_left", "_law_want", "_law_knot", "_law_at", "_law_here", "_law_step", "_law_one"]) (sc := (defScope s_law)) (by decide +kernel)) (fun _ _ _ _ _ => (pgT K (pgs_cons (pg_name (i := 16) nd rfl (Or.inl rfl)) (pgs_cons (pg_name (i := 17) nd rfl (Or.inl rfl)) pgs_nil)))) (fun _ _ _ _ _ => pts_nil) (fun _ _ _ _ _ => (pv 16))) pa_nil))))) (pss_one (ps_ret pe_bl)) pss_nil)
      (pss_cons (ps_set (i := 15) nd rfl (Or.inl rfl) (pe_lst pa_nil))
      (pss_cons (ps_for PassesOwn.never rfl (piL K (pv 14)) (pgT K (pgs_cons (pg_name (i := 16) nd rfl (Or.inl rfl)) (pgs_cons (pg_name (i := 17) nd rfl (Or.inl rfl)) pgs_nil)))
        (pss_cons (ps_set (i := 11) nd rfl (Or.inl rfl) (pe_op op_cat (pv 11) (pe_lst (pa_cons (pv 17) pa_nil))))
        (pss_cons (ps_expr (bmK K PySem.F.plainAttrs_list PySem.F.slot_list_append PySem.F.type_list_append mt_append (pv 15) (pa_cons (pe_tup (pa_cons (pv 16) (pa_cons (pe_call D__law_given.ok (hr.mono (by omega)) (by rfl) D__law_given.mg D__law_given.kp D__law_given.bi .nil pass0 (pa_cons (pv 4) (pa_cons (pv 5) (pa_cons (pv 6) (pa_cons (pv 3) (pa_cons (pv 7) (pa_cons (pv 11) pa_nil))))))) pa_nil))) pa_nil)))
        (pss_cons (ps_set (i := 18) nd rfl (Or.inr rfl) (pe_call D_alone.ok (hr.mono (by omega)) (by rfl) D_alone.mg D_alone.kp D_alone.bi .nil pass0 (pa_cons (pv 9) (pa_cons (pv 10) (pa_cons (pv 16) pa_nil)))))
        (pss_one (ps_if (pt_not (pt_val (pe_call D__law_same.ok (hr.mono (by omega)) (by rfl) D__law_same.mg D__law_same.kp D__law_same.bi .nil pass0 (pa_cons (pe_lc (own := [("_law_one", 20)]) (g := (gName 20)) (tt := tYes) rfl nd (piL K (pv 16)) (blkOk_by (N := ["_law_script", "_law_cell", "_law_drawn", "_law_n", "_law_rings_here", "_law_rest", "_law_steps", "_law_many", "_law_free", "_law_book", "_law_floor", "_law_closed", "_law_sure_giving", "_law_whole", "_law_left", "_law_want", "_law_knot", "_law_at", "_law_here", "_law_step", "_law_one"]) (sc := (defScope s_law)) (by decide +kernel)) (fun _ _ _ _ _ => (pg_name (i := 20) nd rfl (Or.inl rfl))) (fun _ _ _ _ _ => pts_nil) (fun _ _ _ _ _ => (pe_ix (ixT K) (pv 18) (pv 20) (fun _ _ => rfl)))) (pa_cons (pe_op op_rep (pe_lst (pa_cons (pe_ix (ixL K) (pv 6) (pv 17) (fun _ _ => rfl)) pa_nil)) (pe_callB (lenS K) (by rfl) B.len (by decide +kernel) (pa_cons (pv 16) pa_nil))) pa_nil))))) (pss_one (ps_ret pe_bl)) pss_nil))))))
      (pss_one (ps_if (pt_not (pt_val (pe_call D__law_same.ok (hr.mono (by omega)) (by rfl) D__law_same.mg D__law_same.kp D__law_same.bi .nil pass0 (pa_cons (pe_call D_climb.ok (hr.mono (by omega)) (by rfl) D_climb.mg D_climb.kp D_climb.bi .nil pass0 (pa_cons (pv 9) (pa_cons (pv 10) pa_nil))) (pa_cons (pv 15) pa_nil))))) (pss_one (ps_ret pe_bl)) pss_nil)))))))))))))))))))
    (pss_one (ps_ret pe_bl)))),
    ?_⟩
  have hQ' : ∀ (v : V) (G' H' : Hp), Nx (fun _ => none) H G' H' → Rp G' v (.bool true) → Q v H' := fun v G' H' _ r => by
    cases r
    exact hQ H'
  have go : ∀ t : TS, Go t { nx := fun _ H' => Q .non H', rt := Q } (fun _ => none) H [.vw (.ref sa), .un, .un, .un, .un, .un, .un, .un, .un, .un, .un, .un, .un, .un, .un, .un, .un, .un, .un, .un, .un] [] → t { nx := fun _ H' => Q .non H', rt := Q } [some (.ref sa), none, none, none, none, none, none, none, none, none, none, none, none, none, none, none, none, none, none, none, none] H := fun t g =>
    g _ _ ⟨fun _ => none, Nx.refl (fun _ _ e => nomatch e), ⟨rfl, trivial, trivial, trivial, trivial, trivial, trivial, trivial, trivial, trivial, trivial, trivial, trivial, trivial, trivial, trivial, trivial, trivial, trivial, trivial, trivial, trivial⟩, Hm.nil, fun _ _ m => nomatch m⟩
  refine go _ ?_
  refine g_seq (g_script (k := 63) hS rfl ?_)
  show Go _ _ _ _ _ _
  refine g_seq (g_forL (S := Unit) (fun _ _ => True) (fun _ => [.da (.list ((ns.take 63).map .int)), .un, .un, .un, .un, .un, .un, .un, .un, .un, .un, .un, .un, .un, .un, .un, .un, .un, .un, .un, .un]) (fun _ => []) .int (((ns.take 63).take 9) ++ [1, 2]) (em_is (EN.em (en_op (EN.em (en_hi 9 (em_var rfl))) (EN.em (en_lst (ed_cons em_int (ed_cons em_int ed_nil)) (show 2 ≤ 100000 by decide))) (ron_cat ?_))) ?_) () trivial (Wk.refl _) rfl ?_ ?_)
  · simp only [List.length_take, List.length_map, List.length_cons, List.length_nil]
    omega
  · simp only [List.map_append, List.map_take]
    rfl
  · rintro i c _ G1 up _ _
    have hR : ∀ (v : V) (G' H' : Hp), Nx G1 H G' H' → Rp G' v (.bool true) → Q v H' := fun v G' H' _ r => by
      cases r
      exact hQ H'
    have M := hM c
    obtain ⟨a, b, e, x1, x2, x3, x4, hd, ha0, ha1, hb0, hb1, he0, he1, _⟩ := drw30_eq c
    have hn : (n30 c : Int) = 3 + a := by
      unfold n30
      rw [hd]
      show ((3 + a.toNat : Nat) : Int) = 3 + a
      omega
    have hst : st30 c = [1 + x1, 1 + x2, 1 + x3, 1 + x4] := by unfold st30; rw [hd]; rfl
    have hmany : many30 c = 1 + b := by unfold many30; rw [hd]; rfl
    have hfree : (free30 c : Int) = e := by
      unfold free30
      rw [hd]
      show ((e.toNat : Nat) : Int) = e
      omega
    have hn8 : n30 c ≤ 8 := by omega
    have hring : ringsF 5 (c + 3) (n30 c) = ((rs30 c).1, (rs30 c).2) := rfl
    refine ⟨_, _, eg_name, ?_⟩
    -- drawn, n, rings, steps, many, free
    refine q_asg (d := .list ([a, b, e, x1, x2, x3, x4].map .int)) (em_call (ed_cons (em_var rfl) (ed_cons (EN.em (en_lst (ed_cons em_int (ed_cons em_int (ed_cons em_int (ed_cons em_int (ed_cons em_int (ed_cons em_int (ed_cons em_int ed_nil))))))) (show 7 ≤ 100000 by decide))) ed_nil)) ⟨c, [6, 8, 4, 9, 9, 9, 9], by decide, by decide, rfl, by rw [← hd]; rfl⟩) ?_
    refine q_asg (d := .int (n30 c : Int)) (em_is (em_op em_int (em_ixI (i := 0) (c := [a, b, e, x1, x2, x3, x4]) (em_var rfl) em_int (by simp)) ro_add) (by rw [hn]; rfl)) ?_
    refine q_asgG (em_call (d := eRR ((rs30 c).1, (rs30 c).2)) (ed_cons (em_op (em_var rfl) em_int ro_add) (ed_cons (em_var rfl) ed_nil)) ⟨c + 3, n30 c, by omega, rfl, by rw [hring]⟩) (eg_tup (egs_cons eg_name (egs_cons eg_name egs_nil)) rfl) ?_
    refine q_asg (d := .list ((st30 c).map .int)) (em_is (EN.em (en_lcL (α := Int) .int [x1, x2, x3, x4] (fun _ => true) (fun s => .int (1 + s)) (em_is (EN.em (en_lo 3 (em_var (d := .list ([a, b, e, x1, x2, x3, x4].map .int)) rfl))) rfl) (by simp) (fun s hs => ⟨_, eg_name, et_yes, fun _ => em_op em_int (em_var rfl) ro_add⟩) (by decide))) (by rw [lcOut_true, hst]; rfl)) ?_
    refine q_asg (d := .int (many30 c)) (em_is (em_op em_int (em_ixI (i := 1) (c := [a, b, e, x1, x2, x3, x4]) (em_var rfl) em_int (by simp)) ro_add) (by rw [hmany]; rfl)) ?_
    refine q_asg (d := .int (free30 c : Int)) (em_is (em_ixI (i := 2) (c := [a, b, e, x1, x2, x3, x4]) (em_var rfl) em_int (by simp)) (by rw [hfree]; rfl)) ?_
    refine go_eq (by simp only [List.set_cons_zero, List.set_cons_succ]; rfl) ?_
    generalize n30 c = n at *
    generalize (rs30 c).1 = rings at *
    generalize (rs30 c).2 = rest at *
    generalize st30 c = st at *
    generalize many30 c = many at *
    generalize free30 c = free at *
    have R := M.rr
    have hrl := R.hrl
    -- book, floor, closed, sure, whole
    refine q_asg (d := eB (laidF rings rest st n many free)) (em_call (ed_cons (em_var rfl) (ed_cons (em_var rfl) (ed_cons (em_var rfl) (ed_cons (em_var rfl) (ed_cons (em_var rfl) (ed_cons (em_var rfl) ed_nil)))))) ⟨rings, rest, st, n, many, free, R, rfl, rfl⟩) ?_
    refine q_asg (d := eG (List.replicate n 0)) (em_is (em_op (em_tup (ed_cons em_int ed_nil) (show 1 ≤ 100000 by decide)) (em_var rfl) (ro_repT M.n2 (by omega) (by simp) (by simp))) (by rw [flat_one, eG, List.map_replicate])) ?_
    refine q_asg (d := eC (closedI rings free)) (em_is (EN.em (en_lcR (n := rings.length) (fun i => decide (i = free)) (fun i => .int (i : Int)) (ed_cons (em_is (em_len_l (em_var rfl)) (by rw [List.length_map])) ed_nil) (by omega) (fun i hi => ⟨et_is (et_test (em_op (em_var rfl) (em_var rfl) ro_eqI)) (decide_eq_decide.mpr (by omega)), fun _ => em_var rfl⟩) (by decide))) (by rw [rng_map]; rfl)) ?_
    have hcl : ∀ a ∈ closedI rings free, a < rings.length := fun a h => List.mem_range.mp (List.mem_filter.mp h).1
    have hcn : (closedI rings free).length ≤ 12 := Nat.le_trans (List.length_filter_le _ _) (by rw [List.length_range]; exact hrl)
    refine q_asg (d := eG (givenF rings rest st n many (closedI rings free))) (em_call (ed_cons (em_var rfl) (ed_cons (em_var rfl) (ed_cons (em_var rfl) (ed_cons (em_var rfl) (ed_cons (em_var rfl) (ed_cons (em_var rfl) ed_nil)))))) ⟨rings, rest, st, n, many, _, R, hcl, by omega, rfl, rfl⟩) ?_
    refine q_asg (d := eG (givenF rings rest st n many (List.range rings.length))) (em_call (ed_cons (em_var rfl) (ed_cons (em_var rfl) (ed_cons (em_var rfl) (ed_cons (em_var rfl) (ed_cons (em_var rfl) (ed_cons (EN.em (en_lstRg (n := rings.length) (em_is (em_len_l (em_var rfl)) (by rw [List.length_map])) (by omega))) ed_nil)))))) ⟨rings, rest, st, n, many, List.range rings.length, R, fun a h => List.mem_range.mp h, by rw [List.length_range]; omega, rfl, rfl⟩) ?_
    refine go_eq (by simp only [List.set_cons_zero, List.set_cons_succ]; rfl) ?_
    have wf := M.wf
    have wf' : wfB (List.replicate n (0 : Int)).length 5 (laidF rings rest st n many free) := by rw [List.length_replicate]; exact wf
    obtain ⟨lx, l1, l2, l3⟩ := M.least
    obtain ⟨gx, g1, g2, g3⟩ := M.great
    have hL := M.least
    have hK := M.knots
    have hA := M.alone
    obtain ⟨cm, cks, hC⟩ := M.climb
    have hleft := M.left
    have hll := leftF_len rings free
    have glen := givenF_len rings rest st n many
    -- least and greatest
    refine q_no (et_same (x := .list [eG (givenF rings rest st n many (closedI rings free)), eG (givenF rings rest st n many (List.range rings.length))]) ?okg (em_list2 (em_call (ed_cons (em_var rfl) (ed_cons (em_var rfl) ed_nil)) ⟨_, _, lx, _, wf', l1, l2, l3, rfl, rfl⟩) (em_call (ed_cons (em_var rfl) (ed_cons (em_var rfl) ed_nil)) ⟨_, _, gx, _, wf', g1, g2, g3, rfl, rfl⟩)) (em_list2 (em_var rfl) (em_var rfl))) rfl ?_
    case okg =>
      refine okS_list (e := eG) (xs := [givenF rings rest st n many (closedI rings free), givenF rings rest st n many (List.range rings.length)]) (show 2 ≤ 99999 by decide) fun g hg => okS_eG ?_
      rcases List.mem_cons.mp hg with rfl | hg
      · rw [glen]; omega
      · rw [List.mem_singleton.mp hg, glen]; omega
    -- left
    refine q_asg (d := .list ((leftF rings free).map eKA)) (EN.em (en_sorted eKA (((List.range rings.length).filter fun a => !decide (a = free)).map fun a => ((rings.getD a []).mergeSort leN, a)) (em_is (EN.em (en_lcR (n := rings.length) (fun i => !decide (i = free)) (fun i => eKA ((rings.getD i []).mergeSort leN, i)) (ed_cons (em_is (em_len_l (em_var rfl)) (by rw [List.length_map])) ed_nil) (by omega) (fun i hi => ⟨et_is (et_test (em_op (em_var rfl) (em_var rfl) ro_neI)) (congrArg not (decide_eq_decide.mpr (by omega))), fun _ => em_pair (EN.em (en_sortN (em_ixR (em_var rfl) (em_var rfl) hi))) (em_var rfl)⟩) (by decide))) (by rw [lcOut, List.map_map]; rfl)) alike_eKA (PySem.W.Sortable.tuples fun x => ⟨_, _, rfl⟩) fun x => Nat.le_trans (sh_eKA x).dep (by decide))) ?_
    generalize hlf : leftF rings free = left at *
    refine go_eq (by simp only [List.set_cons_zero, List.set_cons_succ]; rfl) ?_
    -- knots
    refine q_no (et_same (x := .list ((left.map (·.1)).map eC)) ?okk (em_call (ed_cons (em_var rfl) (ed_cons (em_var rfl) ed_nil)) ⟨_, _, _, wf', by rw [List.length_replicate]; omega, hK, rfl, rfl⟩) (em_is (EN.em (en_lcL eKA left (fun _ => true) (fun x => eC x.1) (em_var rfl) (by omega) (fun x hx => ⟨_, eg_tup (egs_cons eg_name (egs_cons eg_name egs_nil)) rfl, et_yes, fun _ => em_var rfl⟩) (by decide))) ?kl)) rfl ?_
    case okk =>
      refine okS_list (e := eC) (xs := left.map (·.1)) (by rw [List.length_map]; omega) fun kn hk => ?_
      obtain ⟨x, hx, rfl⟩ := List.mem_map.mp hk
      exact okS_eC (Nat.le_trans (hleft x hx).1 (by decide))
    case kl =>
      rw [lcOut_true, List.map_map]
      rfl
    -- the climb
    refine q_asgN (ds := []) en_nil fun p => ?_
    refine g_seq (g_forL (S := List Nat × List (List Nat × List Int)) (fun i s => s.2 ++ wantF (givenF rings rest st n many) s.1 (left.drop i) = wantF (givenF rings rest st n many) (closedI rings free) left ∧ (∀ a ∈ s.1, a < rings.length) ∧ s.1.length ≤ 12 + i ∧ s.2.length = i)
      (fun s => [.da (.list ((ns.take 63).map .int)), .da (.int c), .da (.list ([a, b, e, x1, x2, x3, x4].map .int)), .da (.int (n : Int)), .da (.list (rings.map eC)), .da (eC rest), .da (.list (st.map .int)), .da (.int many), .da (.int (free : Int)), .da (eB (laidF rings rest st n many free)), .da (eG (List.replicate n 0)), .da (eC s.1), .da (eG (givenF rings rest st n many (closedI rings free))), .da (eG (givenF rings rest st n many (List.range rings.length))), .da (.list (left.map eKA)), .vw (.ref p), .un, .un, .un, .un, .un])
      (fun s => [(p, .l (s.2.map eKG))]) eKA left (em_var rfl) (closedI rings free, []) ⟨rfl, hcl, by omega, rfl⟩ (Wk.refl _) rfl ?_ ?_)
    · rintro j x ⟨cl, wn⟩ G2 up2 hj ⟨i1, i2, i3, i4⟩
      have i1 : wn ++ wantF (givenF rings rest st n many) cl (left.drop j) = wantF (givenF rings rest st n many) (closedI rings free) left := i1
      have i2 : ∀ a ∈ cl, a < rings.length := i2
      have i3 : cl.length ≤ 12 + j := i3
      have i4 : wn.length = j := i4
      have hjl := (List.getElem?_eq_some_iff.mp hj).1
      have hx := List.mem_of_getElem? hj
      obtain ⟨y1, y2, y3⟩ := hleft x hx
      obtain ⟨r, r1, r2, r3⟩ := hA x hx
      have hdrop : left.drop j = x :: left.drop (j + 1) := by
        rw [List.drop_eq_getElem_cons hjl]
        rw [List.getElem?_eq_getElem hjl] at hj
        rw [Option.some.inj hj]
      rw [hdrop, wantF] at i1
      have i2' : ∀ a ∈ cl ++ [x.2], a < rings.length := fun a ha => by
        rcases List.mem_append.mp ha with h | h
        · exact i2 a h
        · rw [List.mem_singleton.mp h]; exact y2
      have hxs : x.2 < st.length := Nat.lt_of_lt_of_le y2 R.hst
      refine ⟨_, _, eg_tup (egs_cons eg_name (egs_cons eg_name egs_nil)) rfl, ?_⟩
      refine q_asg (d := eC (cl ++ [x.2])) (em_is (EN.em (en_op (em_var (d := .list (eN cl)) rfl) (EN.em (en_one (em_var rfl))) (ron_cat (by rw [eN_len, List.length_singleton]; omega)))) (by rw [eC, eN_snoc])) ?_
      refine g_seq (g_app (k := 0) (d := eKG (x.1, givenF rings rest st n many (cl ++ [x.2]))) rfl (ev_var rfl) (em_pair (em_var rfl) (em_call (ed_cons (em_var rfl) (ed_cons (em_var rfl) (ed_cons (em_var rfl) (ed_cons (em_var rfl) (ed_cons (em_var rfl) (ed_cons (em_var rfl) ed_nil)))))) ⟨rings, rest, st, n, many, _, R, i2', by rw [List.length_append, List.length_singleton]; omega, rfl, rfl⟩)) (by rw [List.length_map]; omega) ?_)
      show Go _ _ _ _ _ _
      refine q_asg (d := eG r) (em_call (ed_cons (em_var rfl) (ed_cons (em_var rfl) (ed_cons (em_var rfl) ed_nil))) ⟨_, _, _, x.1, r, wf', hL, by rw [glen, List.length_replicate], r1, rfl, rfl⟩) ?_
      refine g_no (b := !true) (et_not (et_B (em_call (d := .bool true) (ed_cons (em_is (EN.em (en_lcL (α := Nat) (fun o => .int (o : Int)) x.1 (fun _ => true) (fun o => .int (gv r o)) (em_is (em_var rfl) (by unfold eC eN iN; rw [List.map_map]; rfl)) (by omega) (fun o ho => ⟨_, eg_name, et_yes, fun _ => em_gi (em_var rfl) (em_var rfl) (by rw [r2]; exact y3 o ho)⟩) (by decide))) (show _ = PyData.list ((List.replicate x.1.length (gv st x.2)).map .int) by rw [lcOut_true, ← r3, List.map_map]; rfl)) (ed_cons (em_is (EN.em (en_op (EN.em (en_one (em_ixI (em_var rfl) (em_var rfl) hxs))) (em_len_c (em_var rfl)) (ron_rep (by omega) (by simp; omega)))) (by rw [flat_one, List.map_replicate])) ed_nil)) ⟨_, okS_list (e := PyData.int) (xs := List.replicate x.1.length (gv st x.2)) (by rw [List.length_replicate]; omega) (fun i _ => okS_int i), rfl, rfl⟩))) rfl ?_
      refine g_next (nt_pi _ _ _ (s := (cl ++ [x.2], wn ++ [(x.1, givenF rings rest st n many (cl ++ [x.2]))])) ⟨?_, i2', by simp; omega, by simp [i4]⟩ (by repeat (first | exact trivial | refine ⟨.inr rfl, ?_⟩ | refine ⟨.inl rfl, ?_⟩)) (by simp))
      show (wn ++ [_]) ++ _ = _
      rw [List.append_assoc]
      exact i1
    · rintro ⟨cl, wn⟩ ⟨i1, i2, i3, i4⟩
      have i1 : wn ++ wantF (givenF rings rest st n many) cl (left.drop left.length) = wantF (givenF rings rest st n many) (closedI rings free) left := i1
      rw [List.drop_length, wantF, List.append_nil] at i1
      refine g_frz 0 15 rfl rfl ?_
      refine g_no (b := !true) (et_not (et_B (em_call (d := .bool true) (ed_cons (em_call (ed_cons (em_var rfl) (ed_cons (em_var rfl) ed_nil)) ⟨_, _, _, cm, cks, _, wf', by rw [List.length_replicate]; omega, hL, by rw [glen, List.length_replicate], hC, by rw [wantF_len]; omega, rfl, rfl⟩) (ed_cons (em_is (em_var rfl) (by rw [i1])) ed_nil)) ⟨_, okS_list (e := eKG) (by rw [wantF_len]; omega) (fun kg hk => ?okc), rfl, rfl⟩))) rfl ?_
      case okc =>
        have aux : ∀ (cl : List Nat) (l : List (List Nat × Nat)), (∀ x ∈ l, x.1.length ≤ 12) → ∀ kg ∈ wantF (givenF rings rest st n many) cl l, kg.1.length ≤ 12 ∧ kg.2.length = n := by
          intro cl l
          induction l generalizing cl with
          | nil => intro _ kg h; exact nomatch h
          | cons x l ih =>
            intro hl kg h
            rw [wantF] at h
            rcases List.mem_cons.mp h with rfl | h
            · exact ⟨hl x List.mem_cons_self, glen _⟩
            · exact ih _ (fun y hy => hl y (List.mem_cons_of_mem _ hy)) kg h
        obtain ⟨h1, h2⟩ := aux _ left (fun x hx => (hleft x hx).1) kg hk
        refine ⟨show 2 ≤ 99999 by decide, fun z hz => ?_⟩
        rcases List.mem_cons.mp hz with rfl | hz
        · exact okS_eC (by omega)
        · rw [List.mem_singleton.mp hz]
          exact okS_eG (by omega)
      exact g_next (nt_pi _ _ _ (s := ()) trivial (by repeat (first | exact trivial | refine ⟨.inr rfl, ?_⟩ | refine ⟨.inl rfl, ?_⟩)) rfl)
  · rintro _ _
    exact (g_ret (d := .bool true) (em_bl (i := true)) hQ' : Go (tRet (tC (.bl true))) { nx := fun _ H' => Q .non H', rt := Q } (fun _ => none) H _ [])
end
end Lw
namespace Lw
open PySem L2
theorem all_mk {l : PySem.W.OpenLaw} {w : World} {K : PySem.W.Frag} {h : Heap} {mg : Str → Option Value} {fa : Addr} (X : K.In h) (G : h.Ns mainGlobals mg) (hfa : mg "law" = some (.ref fa))
    {f_joined : Addr} {od_joined an_joined : Option Addr} {sl_joined : Array (Option Value)} {oc_joined kV_joined dc_joined pm_joined cd_joined ct_joined : Value}
    (a_joined : PySem.W.nsIn K mainGlobals "joined" = some (some (.ref f_joined))) (l_joined : K.lookup f_joined = some ⟨oc_joined, od_joined, .func (PySem.W.fnOf "joined" "joined" (defArgs s_joined) (defBody s_joined) (defScope s_joined) .none kV_joined dc_joined pm_joined an_joined cd_joined ct_joined), sl_joined⟩) (c_joined : PySem.W.codeIn K cd_joined "joined" = true) (k_joined : PySem.W.keepIn K (.ref f_joined) = true)
    {f_holds : Addr} {od_holds an_holds : Option Addr} {sl_holds : Array (Option Value)} {oc_holds kV_holds dc_holds pm_holds cd_holds ct_holds : Value}
    (a_holds : PySem.W.nsIn K mainGlobals "holds" = some (some (.ref f_holds))) (l_holds : K.lookup f_holds = some ⟨oc_holds, od_holds, .func (PySem.W.fnOf "holds" "holds" (defArgs s_holds) (defBody s_holds) (defScope s_holds) .none kV_holds dc_holds pm_holds an_holds cd_holds ct_holds), sl_holds⟩) (c_holds : PySem.W.codeIn K cd_holds "holds" = true) (k_holds : PySem.W.keepIn K (.ref f_holds) = true)
    {f_owes : Addr} {od_owes an_owes : Option Addr} {sl_owes : Array (Option Value)} {oc_owes kV_owes dc_owes pm_owes cd_owes ct_owes : Value}
    (a_owes : PySem.W.nsIn K mainGlobals "owes" = some (some (.ref f_owes))) (l_owes : K.lookup f_owes = some ⟨oc_owes, od_owes, .func (PySem.W.fnOf "owes" "owes" (defArgs s_owes) (defBody s_owes) (defScope s_owes) .none kV_owes dc_owes pm_owes an_owes cd_owes ct_owes), sl_owes⟩) (c_owes : PySem.W.codeIn K cd_owes "owes" = true) (k_owes : PySem.W.keepIn K (.ref f_owes) = true)
    {f_last_step : Addr} {od_last_step an_last_step : Option Addr} {sl_last_step : Array (Option Value)} {oc_last_step kV_last_step dc_last_step pm_last_step cd_last_step ct_last_step : Value}
    (a_last_step : PySem.W.nsIn K mainGlobals "last_step" = some (some (.ref f_last_step))) (l_last_step : K.lookup f_last_step = some ⟨oc_last_step, od_last_step, .func (PySem.W.fnOf "last_step" "last_step" (defArgs s_last_step) (defBody s_last_step) (defScope s_last_step) .none kV_last_step dc_last_step pm_last_step an_last_step cd_last_step ct_last_step), sl_last_step⟩) (c_last_step : PySem.W.codeIn K cd_last_step "last_step" = true) (k_last_step : PySem.W.keepIn K (.ref f_last_step) = true)
    {f_owed_by : Addr} {od_owed_by an_owed_by : Option Addr} {sl_owed_by : Array (Option Value)} {oc_owed_by kV_owed_by dc_owed_by pm_owed_by cd_owed_by ct_owed_by : Value}
    (a_owed_by : PySem.W.nsIn K mainGlobals "owed_by" = some (some (.ref f_owed_by))) (l_owed_by : K.lookup f_owed_by = some ⟨oc_owed_by, od_owed_by, .func (PySem.W.fnOf "owed_by" "owed_by" (defArgs s_owed_by) (defBody s_owed_by) (defScope s_owed_by) .none kV_owed_by dc_owed_by pm_owed_by an_owed_by cd_owed_by ct_owed_by), sl_owed_by⟩) (c_owed_by : PySem.W.codeIn K cd_owed_by "owed_by" = true) (k_owed_by : PySem.W.keepIn K (.ref f_owed_by) = true)
    {f_what_is_due : Addr} {od_what_is_due an_what_is_due : Option Addr} {sl_what_is_due : Array (Option Value)} {oc_what_is_due kV_what_is_due dc_what_is_due pm_what_is_due cd_what_is_due ct_what_is_due : Value}
    (a_what_is_due : PySem.W.nsIn K mainGlobals "what_is_due" = some (some (.ref f_what_is_due))) (l_what_is_due : K.lookup f_what_is_due = some ⟨oc_what_is_due, od_what_is_due, .func (PySem.W.fnOf "what_is_due" "what_is_due" (defArgs s_what_is_due) (defBody s_what_is_due) (defScope s_what_is_due) .none kV_what_is_due dc_what_is_due pm_what_is_due an_what_is_due cd_what_is_due ct_what_is_due), sl_what_is_due⟩) (c_what_is_due : PySem.W.codeIn K cd_what_is_due "what_is_due" = true) (k_what_is_due : PySem.W.keepIn K (.ref f_what_is_due) = true)
    {f_roof : Addr} {od_roof an_roof : Option Addr} {sl_roof : Array (Option Value)} {oc_roof kV_roof dc_roof pm_roof cd_roof ct_roof : Value}
    (a_roof : PySem.W.nsIn K mainGlobals "roof" = some (some (.ref f_roof))) (l_roof : K.lookup f_roof = some ⟨oc_roof, od_roof, .func (PySem.W.fnOf "roof" "roof" (defArgs s_roof) (defBody s_roof) (defScope s_roof) .none kV_roof dc_roof pm_roof an_roof cd_roof ct_roof), sl_roof⟩) (c_roof : PySem.W.codeIn K cd_roof "roof" = true) (k_roof : PySem.W.keepIn K (.ref f_roof) = true)
    {f_rounds_from : Addr} {od_rounds_from an_rounds_from : Option Addr} {sl_rounds_from : Array (Option Value)} {oc_rounds_from kV_rounds_from dc_rounds_from pm_rounds_from cd_rounds_from ct_rounds_from : Value}
    (a_rounds_from : PySem.W.nsIn K mainGlobals "rounds_from" = some (some (.ref f_rounds_from))) (l_rounds_from : K.lookup f_rounds_from = some ⟨oc_rounds_from, od_rounds_from, .func (PySem.W.fnOf "rounds_from" "rounds_from" (defArgs s_rounds_from) (defBody s_rounds_from) (defScope s_rounds_from) .none kV_rounds_from dc_rounds_from pm_rounds_from an_rounds_from cd_rounds_from ct_rounds_from), sl_rounds_from⟩) (c_rounds_from : PySem.W.codeIn K cd_rounds_from "rounds_from" = true) (k_rounds_from : PySem.W.keepIn K (.ref f_rounds_from) = true)
    {f_rise : Addr} {od_rise an_rise : Option Addr} {sl_rise : Array (Option Value)} {oc_rise kV_rise dc_rise pm_rise cd_rise ct_rise : Value}
    (a_rise : PySem.W.nsIn K mainGlobals "rise" = some (some (.ref f_rise))) (l_rise : K.lookup f_rise = some ⟨oc_rise, od_rise, .func (PySem.W.fnOf "rise" "rise" (defArgs s_rise) (defBody s_rise) (defScope s_rise) .none kV_rise dc_rise pm_rise an_rise cd_rise ct_rise), sl_rise⟩) (c_rise : PySem.W.codeIn K cd_rise "rise" = true) (k_rise : PySem.W.keepIn K (.ref f_rise) = true)
    {f_fall : Addr} {od_fall an_fall : Option Addr} {sl_fall : Array (Option Value)} {oc_fall kV_fall dc_fall pm_fall cd_fall ct_fall : Value}
    (a_fall : PySem.W.nsIn K mainGlobals "fall" = some (some (.ref f_fall))) (l_fall : K.lookup f_fall = some ⟨oc_fall, od_fall, .func (PySem.W.fnOf "fall" "fall" (defArgs s_fall) (defBody s_fall) (defScope s_fall) .none kV_fall dc_fall pm_fall an_fall cd_fall ct_fall), sl_fall⟩) (c_fall : PySem.W.codeIn K cd_fall "fall" = true) (k_fall : PySem.W.keepIn K (.ref f_fall) = true)
    {f_least : Addr} {od_least an_least : Option Addr} {sl_least : Array (Option Value)} {oc_least kV_least dc_least pm_least cd_least ct_least : Value}
    (a_least : PySem.W.nsIn K mainGlobals "least" = some (some (.ref f_least))) (l_least : K.lookup f_least = some ⟨oc_least, od_least, .func (PySem.W.fnOf "least" "least" (defArgs s_least) (defBody s_least) (defScope s_least) .none kV_least dc_least pm_least an_least cd_least ct_least), sl_least⟩) (c_least : PySem.W.codeIn K cd_least "least" = true) (k_least : PySem.W.keepIn K (.ref f_least) = true)
    {f_greatest : Addr} {od_greatest an_greatest : Option Addr} {sl_greatest : Array (Option Value)} {oc_greatest kV_greatest dc_greatest pm_greatest cd_greatest ct_greatest : Value}
    (a_greatest : PySem.W.nsIn K mainGlobals "greatest" = some (some (.ref f_greatest))) (l_greatest : K.lookup f_greatest = some ⟨oc_greatest, od_greatest, .func (PySem.W.fnOf "greatest" "greatest" (defArgs s_greatest) (defBody s_greatest) (defScope s_greatest) .none kV_greatest dc_greatest pm_greatest an_greatest cd_greatest ct_greatest), sl_greatest⟩) (c_greatest : PySem.W.codeIn K cd_greatest "greatest" = true) (k_greatest : PySem.W.keepIn K (.ref f_greatest) = true)
    {f_crowds_of : Addr} {od_crowds_of an_crowds_of : Option Addr} {sl_crowds_of : Array (Option Value)} {oc_crowds_of kV_crowds_of dc_crowds_of pm_crowds_of cd_crowds_of ct_crowds_of : Value}
    (a_crowds_of : PySem.W.nsIn K mainGlobals "crowds_of" = some (some (.ref f_crowds_of))) (l_crowds_of : K.lookup f_crowds_of = some ⟨oc_crowds_of, od_crowds_of, .func (PySem.W.fnOf "crowds_of" "crowds_of" (defArgs s_crowds_of) (defBody s_crowds_of) (defScope s_crowds_of) .none kV_crowds_of dc_crowds_of pm_crowds_of an_crowds_of cd_crowds_of ct_crowds_of), sl_crowds_of⟩) (c_crowds_of : PySem.W.codeIn K cd_crowds_of "crowds_of" = true) (k_crowds_of : PySem.W.keepIn K (.ref f_crowds_of) = true)
    {f_only_for : Addr} {od_only_for an_only_for : Option Addr} {sl_only_for : Array (Option Value)} {oc_only_for kV_only_for dc_only_for pm_only_for cd_only_for ct_only_for : Value}
    (a_only_for : PySem.W.nsIn K mainGlobals "only_for" = some (some (.ref f_only_for))) (l_only_for : K.lookup f_only_for = some ⟨oc_only_for, od_only_for, .func (PySem.W.fnOf "only_for" "only_for" (defArgs s_only_for) (defBody s_only_for) (defScope s_only_for) .none kV_only_for dc_only_for pm_only_for an_only_for cd_only_for ct_only_for), sl_only_for⟩) (c_only_for : PySem.W.codeIn K cd_only_for "only_for" = true) (k_only_for : PySem.W.keepIn K (.ref f_only_for) = true)
    {f_held : Addr} {od_held an_held : Option Addr} {sl_held : Array (Option Value)} {oc_held kV_held dc_held pm_held cd_held ct_held : Value}
    (a_held : PySem.W.nsIn K mainGlobals "held" = some (some (.ref f_held))) (l_held : K.lookup f_held = some ⟨oc_held, od_held, .func (PySem.W.fnOf "held" "held" (defArgs s_held) (defBody s_held) (defScope s_held) .none kV_held dc_held pm_held an_held cd_held ct_held), sl_held⟩) (c_held : PySem.W.codeIn K cd_held "held" = true) (k_held : PySem.W.keepIn K (.ref f_held) = true)
    {f_alone : Addr} {od_alone an_alone : Option Addr} {sl_alone : Array (Option Value)} {oc_alone kV_alone dc_alone pm_alone cd_alone ct_alone : Value}
    (a_alone : PySem.W.nsIn K mainGlobals "alone" = some (some (.ref f_alone))) (l_alone : K.lookup f_alone = some ⟨oc_alone, od_alone, .func (PySem.W.fnOf "alone" "alone" (defArgs s_alone) (defBody s_alone) (defScope s_alone) .none kV_alone dc_alone pm_alone an_alone cd_alone ct_alone), sl_alone⟩) (c_alone : PySem.W.codeIn K cd_alone "alone" = true) (k_alone : PySem.W.keepIn K (.ref f_alone) = true)
    {f_knots : Addr} {od_knots an_knots : Option Addr} {sl_knots : Array (Option Value)} {oc_knots kV_knots dc_knots pm_knots cd_knots ct_knots : Value}
    (a_knots : PySem.W.nsIn K mainGlobals "knots" = some (some (.ref f_knots))) (l_knots : K.lookup f_knots = some ⟨oc_knots, od_knots, .func (PySem.W.fnOf "knots" "knots" (defArgs s_knots) (defBody s_knots) (defScope s_knots) .none kV_knots dc_knots pm_knots an_knots cd_knots ct_knots), sl_knots⟩) (c_knots : PySem.W.codeIn K cd_knots "knots" = true) (k_knots : PySem.W.keepIn K (.ref f_knots) = true)
    {f_climb : Addr} {od_climb an_climb : Option Addr} {sl_climb : Array (Option Value)} {oc_climb kV_climb dc_climb pm_climb cd_climb ct_climb : Value}
    (a_climb : PySem.W.nsIn K mainGlobals "climb" = some (some (.ref f_climb))) (l_climb : K.lookup f_climb = some ⟨oc_climb, od_climb, .func (PySem.W.fnOf "climb" "climb" (defArgs s_climb) (defBody s_climb) (defScope s_climb) .none kV_climb dc_climb pm_climb an_climb cd_climb ct_climb), sl_climb⟩) (c_climb : PySem.W.codeIn K cd_climb "climb" = true) (k_climb : PySem.W.keepIn K (.ref f_climb) = true)
    {f__law_draws : Addr} {od__law_draws an__law_draws : Option Addr} {sl__law_draws : Array (Option Value)} {oc__law_draws kV__law_draws dc__law_draws pm__law_draws cd__law_draws ct__law_draws : Value}
    (a__law_draws : PySem.W.nsIn K mainGlobals "_law_draws" = some (some (.ref f__law_draws))) (l__law_draws : K.lookup f__law_draws = some ⟨oc__law_draws, od__law_draws, .func (PySem.W.fnOf "_law_draws" "_law_draws" (defArgs s__law_draws) (defBody s__law_draws) (defScope s__law_draws) .none kV__law_draws dc__law_draws pm__law_draws an__law_draws cd__law_draws ct__law_draws), sl__law_draws⟩) (c__law_draws : PySem.W.codeIn K cd__law_draws "_law_draws" = true) (k__law_draws : PySem.W.keepIn K (.ref f__law_draws) = true)
    {f__law_same : Addr} {od__law_same an__law_same : Option Addr} {sl__law_same : Array (Option Value)} {oc__law_same kV__law_same dc__law_same pm__law_same cd__law_same ct__law_same : Value}
    (a__law_same : PySem.W.nsIn K mainGlobals "_law_same" = some (some (.ref f__law_same))) (l__law_same : K.lookup f__law_same = some ⟨oc__law_same, od__law_same, .func (PySem.W.fnOf "_law_same" "_law_same" (defArgs s__law_same) (defBody s__law_same) (defScope s__law_same) .none kV__law_same dc__law_same pm__law_same an__law_same cd__law_same ct__law_same), sl__law_same⟩) (c__law_same : PySem.W.codeIn K cd__law_same "_law_same" = true) (k__law_same : PySem.W.keepIn K (.ref f__law_same) = true)
    {f__law_picks : Addr} {od__law_picks an__law_picks : Option Addr} {sl__law_picks : Array (Option Value)} {oc__law_picks kV__law_picks dc__law_picks pm__law_picks cd__law_picks ct__law_picks : Value}
    (a__law_picks : PySem.W.nsIn K mainGlobals "_law_picks" = some (some (.ref f__law_picks))) (l__law_picks : K.lookup f__law_picks = some ⟨oc__law_picks, od__law_picks, .func (PySem.W.fnOf "_law_picks" "_law_picks" (defArgs s__law_picks) (defBody s__law_picks) (defScope s__law_picks) .none kV__law_picks dc__law_picks pm__law_picks an__law_picks cd__law_picks ct__law_picks), sl__law_picks⟩) (c__law_picks : PySem.W.codeIn K cd__law_picks "_law_picks" = true) (k__law_picks : PySem.W.keepIn K (.ref f__law_picks) = true)
    {f__law_rings : Addr} {od__law_rings an__law_rings : Option Addr} {sl__law_rings : Array (Option Value)} {oc__law_rings kV__law_rings dc__law_rings pm__law_rings cd__law_rings ct__law_rings : Value}
    (a__law_rings : PySem.W.nsIn K mainGlobals "_law_rings" = some (some (.ref f__law_rings))) (l__law_rings : K.lookup f__law_rings = some ⟨oc__law_rings, od__law_rings, .func (PySem.W.fnOf "_law_rings" "_law_rings" (defArgs s__law_rings) (defBody s__law_rings) (defScope s__law_rings) .none kV__law_rings dc__law_rings pm__law_rings an__law_rings cd__law_rings ct__law_rings), sl__law_rings⟩) (c__law_rings : PySem.W.codeIn K cd__law_rings "_law_rings" = true) (k__law_rings : PySem.W.keepIn K (.ref f__law_rings) = true)
    {f__law_laid : Addr} {od__law_laid an__law_laid : Option Addr} {sl__law_laid : Array (Option Value)} {oc__law_laid kV__law_laid dc__law_laid pm__law_laid cd__law_laid ct__law_laid : Value}
    (a__law_laid : PySem.W.nsIn K mainGlobals "_law_laid" = some (some (.ref f__law_laid))) (l__law_laid : K.lookup f__law_laid = some ⟨oc__law_laid, od__law_laid, .func (PySem.W.fnOf "_law_laid" "_law_laid" (defArgs s__law_laid) (defBody s__law_laid) (defScope s__law_laid) .none kV__law_laid dc__law_laid pm__law_laid an__law_laid cd__law_laid ct__law_laid), sl__law_laid⟩) (c__law_laid : PySem.W.codeIn K cd__law_laid "_law_laid" = true) (k__law_laid : PySem.W.keepIn K (.ref f__law_laid) = true)
    {f__law_given : Addr} {od__law_given an__law_given : Option Addr} {sl__law_given : Array (Option Value)} {oc__law_given kV__law_given dc__law_given pm__law_given cd__law_given ct__law_given : Value}
    (a__law_given : PySem.W.nsIn K mainGlobals "_law_given" = some (some (.ref f__law_given))) (l__law_given : K.lookup f__law_given = some ⟨oc__law_given, od__law_given, .func (PySem.W.fnOf "_law_given" "_law_given" (defArgs s__law_given) (defBody s__law_given) (defScope s__law_given) .none kV__law_given dc__law_given pm__law_given an__law_given cd__law_given ct__law_given), sl__law_given⟩) (c__law_given : PySem.W.codeIn K cd__law_given "_law_given" = true) (k__law_given : PySem.W.keepIn K (.ref f__law_given) = true)
    {f_law : Addr} {od_law an_law : Option Addr} {sl_law : Array (Option Value)} {oc_law kV_law dc_law pm_law cd_law ct_law : Value}
    (a_law : PySem.W.nsIn K mainGlobals "law" = some (some (.ref f_law))) (l_law : K.lookup f_law = some ⟨oc_law, od_law, .func (PySem.W.fnOf "law" "law" (defArgs s_law) (defBody s_law) (defScope s_law) .none kV_law dc_law pm_law an_law cd_law ct_law), sl_law⟩) (c_law : PySem.W.codeIn K cd_law "law" = true) (k_law : PySem.W.keepIn K (.ref f_law) = true)
    (z_len : PySem.W.nsIn K mainGlobals "len" = some none)
    (z_max : PySem.W.nsIn K mainGlobals "max" = some none)
    (z_tuple : PySem.W.nsIn K mainGlobals "tuple" = some none)
    (z_list : PySem.W.nsIn K mainGlobals "list" = some none)
    (z_range : PySem.W.nsIn K mainGlobals "range" = some none)
    (z_sum : PySem.W.nsIn K mainGlobals "sum" = some none)
    (z_any : PySem.W.nsIn K mainGlobals "any" = some none)
    (z_all : PySem.W.nsIn K mainGlobals "all" = some none)
    (z_sorted : PySem.W.nsIn K mainGlobals "sorted" = some none)
    (z_abs : PySem.W.nsIn K mainGlobals "abs" = some none)
    (z_isinstance : PySem.W.nsIn K mainGlobals "isinstance" = some none)
    (z_int : PySem.W.nsIn K mainGlobals "int" = some none)
    (z_bool : PySem.W.nsIn K mainGlobals "bool" = some none)
    (z_str : PySem.W.nsIn K mainGlobals "str" = some none)
    : ∃ fd : FuncData, (∀ (s : Shared) (v : Value), BindsTo s fd ⟨[v], []⟩ [("_law_script", v)]) ∧ ∀ base : Heap, K.In base → base.Ns mainGlobals mg → FnOk l.prog w K mg base CX0 14 fa fd ["_law_script"] (spLaw K) := by
  have e := hfa.symm.trans (PySem.W.mg_of X G a_law)
  cases e
  have B : Bi mg := ⟨PySem.W.mg_none_of X G z_len, PySem.W.mg_none_of X G z_max, PySem.W.mg_none_of X G z_tuple, PySem.W.mg_none_of X G z_list, PySem.W.mg_none_of X G z_range, PySem.W.mg_none_of X G z_sum, PySem.W.mg_none_of X G z_any, PySem.W.mg_none_of X G z_all, PySem.W.mg_none_of X G z_sorted, PySem.W.mg_none_of X G z_abs, PySem.W.mg_none_of X G z_isinstance, PySem.W.mg_none_of X G z_int, PySem.W.mg_none_of X G z_bool, PySem.W.mg_none_of X G z_str⟩
  have F_joined := fun_mk (st := s_joined) l_joined c_joined k_joined
  have m_joined := PySem.W.mg_of X G a_joined
  have b_joined := F_joined.binds (ps := ["one", "other"]) fun _ _ _ _ _ _ us hl => match us, hl with | [_, _], _ => rfl
  have F_holds := fun_mk (st := s_holds) l_holds c_holds k_holds
  have m_holds := PySem.W.mg_of X G a_holds
  have b_holds := F_holds.binds (ps := ["term", "giving"]) fun _ _ _ _ _ _ us hl => match us, hl with | [_, _], _ => rfl
  have F_owes := fun_mk (st := s_owes) l_owes c_owes k_owes
  have m_owes := PySem.W.mg_of X G a_owes
  have b_owes := F_owes.binds (ps := ["pledge", "giving"]) fun _ _ _ _ _ _ us hl => match us, hl with | [_, _], _ => rfl
  have F_last_step := fun_mk (st := s_last_step) l_last_step c_last_step k_last_step
  have m_last_step := PySem.W.mg_of X G a_last_step
  have b_last_step := F_last_step.binds (ps := ["pledge"]) fun _ _ _ _ _ _ us hl => match us, hl with | [_], _ => rfl
  have F_owed_by := fun_mk (st := s_owed_by) l_owed_by c_owed_by k_owed_by
  have m_owed_by := PySem.W.mg_of X G a_owed_by
  have b_owed_by := F_owed_by.binds (ps := ["pledges", "giving"]) fun _ _ _ _ _ _ us hl => match us, hl with | [_, _], _ => rfl
  have F_what_is_due := fun_mk (st := s_what_is_due) l_what_is_due c_what_is_due k_what_is_due
  have m_what_is_due := PySem.W.mg_of X G a_what_is_due
  have b_what_is_due := F_what_is_due.binds (ps := ["book", "floor", "giving"]) fun _ _ _ _ _ _ us hl => match us, hl with | [_, _, _], _ => rfl
  have F_roof := fun_mk (st := s_roof) l_roof c_roof k_roof
  have m_roof := PySem.W.mg_of X G a_roof
  have b_roof := F_roof.binds (ps := ["book", "floor"]) fun _ _ _ _ _ _ us hl => match us, hl with | [_, _], _ => rfl
  have F_rounds_from := fun_mk (st := s_rounds_from) l_rounds_from c_rounds_from k_rounds_from
  have m_rounds_from := PySem.W.mg_of X G a_rounds_from
  have b_rounds_from := F_rounds_from.binds (ps := ["book", "floor", "giving"]) fun _ _ _ _ _ _ us hl => match us, hl with | [_, _, _], _ => rfl
  have F_rise := fun_mk (st := s_rise) l_rise c_rise k_rise
  have m_rise := PySem.W.mg_of X G a_rise
  have b_rise := F_rise.binds (ps := ["book", "floor"]) fun _ _ _ _ _ _ us hl => match us, hl with | [_, _], _ => rfl
  have F_fall := fun_mk (st := s_fall) l_fall c_fall k_fall
  have m_fall := PySem.W.mg_of X G a_fall
  have b_fall := F_fall.binds (ps := ["book", "floor"]) fun _ _ _ _ _ _ us hl => match us, hl with | [_, _], _ => rfl
  have F_least := fun_mk (st := s_least) l_least c_least k_least
  have m_least := PySem.W.mg_of X G a_least
  have b_least := F_least.binds (ps := ["book", "floor"]) fun _ _ _ _ _ _ us hl => match us, hl with | [_, _], _ => rfl
  have F_greatest := fun_mk (st := s_greatest) l_greatest c_greatest k_greatest
  have m_greatest := PySem.W.mg_of X G a_greatest
  have b_greatest := F_greatest.binds (ps := ["book", "floor"]) fun _ _ _ _ _ _ us hl => match us, hl with | [_, _], _ => rfl
  have F_crowds_of := fun_mk (st := s_crowds_of) l_crowds_of c_crowds_of k_crowds_of
  have m_crowds_of := PySem.W.mg_of X G a_crowds_of
  have b_crowds_of := F_crowds_of.binds (ps := ["many"]) fun _ _ _ _ _ _ us hl => match us, hl with | [_], _ => rfl
  have F_only_for := fun_mk (st := s_only_for) l_only_for c_only_for k_only_for
  have m_only_for := PySem.W.mg_of X G a_only_for
  have b_only_for := F_only_for.binds (ps := ["crowd", "one", "other"]) fun _ _ _ _ _ _ us hl => match us, hl with | [_, _, _], _ => rfl
  have F_held := fun_mk (st := s_held) l_held c_held k_held
  have m_held := PySem.W.mg_of X G a_held
  have b_held := F_held.binds (ps := ["book", "floor", "base", "crowd"]) fun _ _ _ _ _ _ us hl => match us, hl with | [_, _, _, _], _ => rfl
  have F_alone := fun_mk (st := s_alone) l_alone c_alone k_alone
  have m_alone := PySem.W.mg_of X G a_alone
  have b_alone := F_alone.binds (ps := ["book", "floor", "crowd"]) fun _ _ _ _ _ _ us hl => match us, hl with | [_, _, _], _ => rfl
  have F_knots := fun_mk (st := s_knots) l_knots c_knots k_knots
  have m_knots := PySem.W.mg_of X G a_knots
  have b_knots := F_knots.binds (ps := ["book", "floor"]) fun _ _ _ _ _ _ us hl => match us, hl with | [_, _], _ => rfl
  have F_climb := fun_mk (st := s_climb) l_climb c_climb k_climb
  have m_climb := PySem.W.mg_of X G a_climb
  have b_climb := F_climb.binds (ps := ["book", "floor"]) fun _ _ _ _ _ _ us hl => match us, hl with | [_, _], _ => rfl
  have F__law_draws := fun_mk (st := s__law_draws) l__law_draws c__law_draws k__law_draws
  have m__law_draws := PySem.W.mg_of X G a__law_draws
  have b__law_draws := F__law_draws.binds (ps := ["_law_cell", "_law_parts"]) fun _ _ _ _ _ _ us hl => match us, hl with | [_, _], _ => rfl
  have F__law_same := fun_mk (st := s__law_same) l__law_same c__law_same k__law_same
  have m__law_same := PySem.W.mg_of X G a__law_same
  have b__law_same := F__law_same.binds (ps := ["_law_found", "_law_due"]) fun _ _ _ _ _ _ us hl => match us, hl with | [_, _], _ => rfl
  have F__law_picks := fun_mk (st := s__law_picks) l__law_picks c__law_picks k__law_picks
  have m__law_picks := PySem.W.mg_of X G a__law_picks
  have b__law_picks := F__law_picks.binds (ps := ["_law_cell", "_law_many"]) fun _ _ _ _ _ _ us hl => match us, hl with | [_, _], _ => rfl
  have F__law_rings := fun_mk (st := s__law_rings) l__law_rings c__law_rings k__law_rings
  have m__law_rings := PySem.W.mg_of X G a__law_rings
  have b__law_rings := F__law_rings.binds (ps := ["_law_cell", "_law_n"]) fun _ _ _ _ _ _ us hl => match us, hl with | [_, _], _ => rfl
  have F__law_laid := fun_mk (st := s__law_laid) l__law_laid c__law_laid k__law_laid
  have m__law_laid := PySem.W.mg_of X G a__law_laid
  have b__law_laid := F__law_laid.binds (ps := ["_law_rings_here", "_law_rest", "_law_steps", "_law_n", "_law_many", "_law_free"]) fun _ _ _ _ _ _ us hl => match us, hl with | [_, _, _, _, _, _], _ => rfl
  have F__law_given := fun_mk (st := s__law_given) l__law_given c__law_given k__law_given
  have m__law_given := PySem.W.mg_of X G a__law_given
  have b__law_given := F__law_given.binds (ps := ["_law_rings_here", "_law_rest", "_law_steps", "_law_n", "_law_many", "_law_closed"]) fun _ _ _ _ _ _ us hl => match us, hl with | [_, _, _, _, _, _], _ => rfl
  have F_law := fun_mk (st := s_law) l_law c_law k_law
  have m_law := PySem.W.mg_of X G a_law
  have b_law := F_law.binds (ps := ["_law_script"]) fun _ _ _ _ _ _ us hl => match us, hl with | [_], _ => rfl
  refine ⟨PySem.W.fnOf "law" "law" (defArgs s_law) (defBody s_law) (defScope s_law) .none kV_law dc_law pm_law an_law cd_law ct_law, fun s v => .of_eq rfl, fun base _ _ => ?_⟩
  have D_holds : Df l.prog w K mg base 5 "holds" ["term", "giving"] (spR (Rl_holds 5)) f_holds _ := ⟨ok_holds F_holds B b_holds m_holds 5, b_holds, F_holds.kp, m_holds⟩
  have D_joined : Df l.prog w K mg base 1 "joined" ["one", "other"] (spR Rl_joined) f_joined _ := ⟨ok_joined F_joined B, b_joined, F_joined.kp, m_joined⟩
  have D_owes : Df l.prog w K mg base 6 "owes" ["pledge", "giving"] (spR (Rl_owes 5)) f_owes _ := ⟨ok_owes F_owes B D_holds, b_owes, F_owes.kp, m_owes⟩
  have D_last_step : Df l.prog w K mg base 1 "last_step" ["pledge"] (spR Rl_last) f_last_step _ := ⟨ok_last_step F_last_step, b_last_step, F_last_step.kp, m_last_step⟩
  have D_owed_by : Df l.prog w K mg base 7 "owed_by" ["pledges", "giving"] (spR (Rl_owedBy 5)) f_owed_by _ := ⟨ok_owed_by F_owed_by B D_owes, b_owed_by, F_owed_by.kp, m_owed_by⟩
  have D_due : Df l.prog w K mg base 8 "what_is_due" ["book", "floor", "giving"] (spR (Rl_due 5)) f_what_is_due _ := ⟨ok_what_is_due F_what_is_due B (by decide) D_owed_by D_joined, b_what_is_due, F_what_is_due.kp, m_what_is_due⟩
  have D_roof : Df l.prog w K mg base 2 "roof" ["book", "floor"] (spR (Rl_roof 5)) f_roof _ := ⟨ok_roof F_roof B D_last_step D_joined, b_roof, F_roof.kp, m_roof⟩
  have D_rounds : Df l.prog w K mg base 9 "rounds_from" ["book", "floor", "giving"] (spR (Rl_rounds 5)) f_rounds_from _ := ⟨ok_rounds_from F_rounds_from D_due, b_rounds_from, F_rounds_from.kp, m_rounds_from⟩
  have D_rise : Df l.prog w K mg base 10 "rise" ["book", "floor"] (spR (Rl_rise 5)) f_rise _ := ⟨ok_rise F_rise D_rounds, b_rise, F_rise.kp, m_rise⟩
  have D_fall : Df l.prog w K mg base 10 "fall" ["book", "floor"] (spR (Rl_fall 5)) f_fall _ := ⟨ok_fall F_fall (by decide) D_rounds D_roof, b_fall, F_fall.kp, m_fall⟩
  have D_least : Df l.prog w K mg base 11 "least" ["book", "floor"] (spR (Rl_least 5)) f_least _ := ⟨ok_least F_least D_rise, b_least, F_least.kp, m_least⟩
  have D_greatest : Df l.prog w K mg base 11 "greatest" ["book", "floor"] (spR (Rl_greatest 5)) f_greatest _ := ⟨ok_greatest F_greatest D_fall, b_greatest, F_greatest.kp, m_greatest⟩
  have D_crowds_of : Df l.prog w K mg base 1 "crowds_of" ["many"] (spR Rl_crowds) f_crowds_of _ := ⟨ok_crowds_of F_crowds_of B, b_crowds_of, F_crowds_of.kp, m_crowds_of⟩
  have D_only_for : Df l.prog w K mg base 1 "only_for" ["crowd", "one", "other"] (spR Rl_onlyFor) f_only_for _ := ⟨ok_only_for F_only_for B, b_only_for, F_only_for.kp, m_only_for⟩
  have D_held : Df l.prog w K mg base 9 "held" ["book", "floor", "base", "crowd"] (spR (Rl_held 5)) f_held _ := ⟨ok_held F_held (by decide) D_due D_roof D_only_for, b_held, F_held.kp, m_held⟩
  have D_alone : Df l.prog w K mg base 12 "alone" ["book", "floor", "crowd"] (spR (Rl_alone 5)) f_alone _ := ⟨ok_alone F_alone (D_held.mono (by decide)) D_least, b_alone, F_alone.kp, m_alone⟩
  have D_knots : Df l.prog w K mg base 12 "knots" ["book", "floor"] (spR (Rl_knots 5)) f_knots _ := ⟨ok_knots F_knots B (by decide) (D_held.mono (by decide)) D_least D_crowds_of, b_knots, F_knots.kp, m_knots⟩
  have D_climb : Df l.prog w K mg base 13 "climb" ["book", "floor"] (spR (Rl_climb 5)) f_climb _ := ⟨ok_climb F_climb (D_held.mono (by decide)) (D_least.mono (by decide)) (D_rounds.mono (by decide)) D_knots, b_climb, F_climb.kp, m_climb⟩
  have D_draws : Df l.prog w K mg base 1 "_law_draws" ["_law_cell", "_law_parts"] (spR Rl_draws) f__law_draws _ := ⟨ok_draws F__law_draws B, b__law_draws, F__law_draws.kp, m__law_draws⟩
  have D_same : Df l.prog w K mg base 5 "_law_same" ["_law_found", "_law_due"] (spR (Rl_same 5)) f__law_same _ := ⟨ok_same F__law_same B b__law_same m__law_same 5, b__law_same, F__law_same.kp, m__law_same⟩
  have D_picks : Df l.prog w K mg base 2 "_law_picks" ["_law_cell", "_law_many"] (spR Rl_picks) f__law_picks _ := ⟨ok_picks F__law_picks B D_draws, b__law_picks, F__law_picks.kp, m__law_picks⟩
  have D_rings : Df l.prog w K mg base 3 "_law_rings" ["_law_cell", "_law_n"] (spR (Rl_rings 5)) f__law_rings _ := ⟨ok_rings F__law_rings B D_picks, b__law_rings, F__law_rings.kp, m__law_rings⟩
  have D_laid : Df l.prog w K mg base 1 "_law_laid" ["_law_rings_here", "_law_rest", "_law_steps", "_law_n", "_law_many", "_law_free"] (spR Rl_laid) f__law_laid _ := ⟨ok_laid F__law_laid B, b__law_laid, F__law_laid.kp, m__law_laid⟩
  have D_given : Df l.prog w K mg base 1 "_law_given" ["_law_rings_here", "_law_rest", "_law_steps", "_law_n", "_law_many", "_law_closed"] (spR Rl_given) f__law_given _ := ⟨ok_given F__law_given B, b__law_given, F__law_given.kp, m__law_given⟩
  exact ok_law F_law B (D_draws.mono (by decide)) (D_same.mono (by decide)) (D_rings.mono (by decide)) (D_laid.mono (by decide)) (D_given.mono (by decide)) (D_least.mono (by decide)) (D_greatest.mono (by decide)) (D_knots.mono (by decide)) (D_alone.mono (by decide)) D_climb math30
theorem walk {l : PySem.W.OpenLaw} {q : Program} {loose : List Str} {XP : (Str → Option Value) → Heap → Prop} {YP : World → Heap → Prop} {d : DefRec} {K : Params → PySem.W.Frag} (hn : l.most = some 63) (hdf : d.params.defaults = [])
    (hY : ∀ (w : World) (h : Heap), YP w h → (K w.params).In h)
    (F : ∀ (w : World) (mg : Str → Option Value) (fa : Addr) (h : Heap), (K w.params).In h → h.Ns mainGlobals mg → mg d.name = some (.ref fa) →
      ∃ fd : FuncData, (∀ (s : Shared) (u : Value), BindsTo s fd ⟨[u], []⟩ [("_law_script", u)]) ∧ ∀ base : Heap, (K w.params).In base → base.Ns mainGlobals mg → FnOk l.prog w (K w.params) mg base CX0 14 fa fd ["_law_script"] (spLaw (K w.params))) :
    PySem.W.WalkO q loose XP YP l.row.toRowW d [] (fun f vs => PySem.call f vs) :=
  L2.walk_of (n := 63) (k := 14) (x := "_law_script") (CX := fun _ => CX0) (sp := fun w => spLaw (K w.params)) hn (by decide) hdf ⟨rfl, by decide, by decide⟩ hY F (fun _ _ a ns hl _ hS => ⟨a, ns, rfl, hS, hl, fun _ => rfl⟩) fun _ _ _ _ _ z => z
end Lw
open PySem PySem.W PyProof.Rows
set_option maxRecDepth 100000 in
set_option maxHeartbeats 0 in
theorem PySem.Challenge.cw_loveboon_k30_whole_knots_of_rings_and_cr_holds : PySem.Challenge.rw_loveboon_k30_whole_knots_of_rings_and_cr.Holds := by
  w_on; o_law; k_head; (case hw => w_witness2)
  k_fill
  refine Lw.walk (l := PySem.Challenge.rw_loveboon_k30_whole_knots_of_rings_and_cr) rfl rfl (fun w h Y => PySem.W.kIn_of Y) ?F
  case F =>
    intro w mg fa h KX G hmg
    refine' Lw.all_mk KX G hmg ?a_joined ?l_joined ?c_joined ?k_joined ?a_holds ?l_holds ?c_holds ?k_holds ?a_owes ?l_owes ?c_owes ?k_owes ?a_last_step ?l_last_step ?c_last_step ?k_last_step ?a_owed_by ?l_owed_by ?c_owed_by ?k_owed_by ?a_what_is_due ?l_what_is_due ?c_what_is_due ?k_what_is_due ?a_roof ?l_roof ?c_roof ?k_roof ?a_rounds_from ?l_rounds_from ?c_rounds_from ?k_rounds_from ?a_rise ?l_rise ?c_rise ?k_rise ?a_fall ?l_fall ?c_fall ?k_fall ?a_least ?l_least ?c_least ?k_least ?a_greatest ?l_greatest ?c_greatest ?k_greatest ?a_crowds_of ?l_crowds_of ?c_crowds_of ?k_crowds_of ?a_only_for ?l_only_for ?c_only_for ?k_only_for ?a_held ?l_held ?c_held ?k_held ?a_alone ?l_alone ?c_alone ?k_alone ?a_knots ?l_knots ?c_knots ?k_knots ?a_climb ?l_climb ?c_climb ?k_climb ?a__law_draws ?l__law_draws ?c__law_draws ?k__law_draws ?a__law_same ?l__law_same ?c__law_same ?k__law_same ?a__law_picks ?l__law_picks ?c__law_picks ?k__law_picks ?a__law_rings ?l__law_rings ?c__law_rings ?k__law_rings ?a__law_laid ?l__law_laid ?c__law_laid ?k__law_laid ?a__law_given ?l__law_given ?c__law_given ?k__law_given ?a_law ?l_law ?c_law ?k_law ?z_len ?z_max ?z_tuple ?z_list ?z_range ?z_sum ?z_any ?z_all ?z_sorted ?z_abs ?z_isinstance ?z_int ?z_bool ?z_str
    (case a_joined => k_is)
    (case l_joined => k_is)
    (case c_joined => k_is)
    (case k_joined => k_is)
    (case a_holds => k_is)
    (case l_holds => k_is)
    (case c_holds => k_is)
    (case k_holds => k_is)
    (case a_owes => k_is)
    (case l_owes => k_is)
    (case c_owes => k_is)
    (case k_owes => k_is)
    (case a_last_step => k_is)
    (case l_last_step => k_is)
    (case c_last_step => k_is)
    (case k_last_step => k_is)
    (case a_owed_by => k_is)
    (case l_owed_by => k_is)
    (case c_owed_by => k_is)
    (case k_owed_by => k_is)
    (case a_what_is_due => k_is)
    (case l_what_is_due => k_is)
    (case c_what_is_due => k_is)
    (case k_what_is_due => k_is)
    (case a_roof => k_is)
    (case l_roof => k_is)
    (case c_roof => k_is)
    (case k_roof => k_is)
    (case a_rounds_from => k_is)
    (case l_rounds_from => k_is)
    (case c_rounds_from => k_is)
    (case k_rounds_from => k_is)
    (case a_rise => k_is)
    (case l_rise => k_is)
    (case c_rise => k_is)
    (case k_rise => k_is)
    (case a_fall => k_is)
    (case l_fall => k_is)
    (case c_fall => k_is)
    (case k_fall => k_is)
    (case a_least => k_is)
    (case l_least => k_is)
    (case c_least => k_is)
    (case k_least => k_is)
    (case a_greatest => k_is)
    (case l_greatest => k_is)
    (case c_greatest => k_is)
    (case k_greatest => k_is)
    (case a_crowds_of => k_is)
    (case l_crowds_of => k_is)
    (case c_crowds_of => k_is)
    (case k_crowds_of => k_is)
    (case a_only_for => k_is)
    (case l_only_for => k_is)
    (case c_only_for => k_is)
    (case k_only_for => k_is)
    (case a_held => k_is)
    (case l_held => k_is)
    (case c_held => k_is)
    (case k_held => k_is)
    (case a_alone => k_is)
    (case l_alone => k_is)
    (case c_alone => k_is)
    (case k_alone => k_is)
    (case a_knots => k_is)
    (case l_knots => k_is)
    (case c_knots => k_is)
    (case k_knots => k_is)
    (case a_climb => k_is)
    (case l_climb => k_is)
    (case c_climb => k_is)
    (case k_climb => k_is)
    (case a__law_draws => k_is)
    (case l__law_draws => k_is)
    (case c__law_draws => k_is)
    (case k__law_draws => k_is)
    (case a__law_same => k_is)
    (case l__law_same => k_is)
    (case c__law_same => k_is)
    (case k__law_same => k_is)
    (case a__law_picks => k_is)
    (case l__law_picks => k_is)
    (case c__law_picks => k_is)
    (case k__law_picks => k_is)
    (case a__law_rings => k_is)
    (case l__law_rings => k_is)
    (case c__law_rings => k_is)
    (case k__law_rings => k_is)
    (case a__law_laid => k_is)
    (case l__law_laid => k_is)
    (case c__law_laid => k_is)
    (case k__law_laid => k_is)
    (case a__law_given => k_is)
    (case l__law_given => k_is)
    (case c__law_given => k_is)
    (case k__law_given => k_is)
    (case a_law => k_is)
    (case l_law => k_is)
    (case c_law => k_is)
    (case k_law => k_is)
    (case z_len => k_is)
    (case z_max => k_is)
    (case z_tuple => k_is)
    (case z_list => k_is)
    (case z_range => k_is)
    (case z_sum => k_is)
    (case z_any => k_is)
    (case z_all => k_is)
    (case z_sorted => k_is)
    (case z_abs => k_is)
    (case z_isinstance => k_is)
    (case z_int => k_is)
    (case z_bool => k_is)
    (case z_str => k_is)
