import PyProof.Rows.All
import Wide.All
import OpenK.AllK
import Wide.FinOn
import HandS.ForMost
import HandS.Flow
import HandS.Style
import HandS.Conv
import HandS.TupAny
import HandS.TupLe
import HandS.Star
import HandS.IsInst
import HandS.SortKw
import HandS.Zip
import HandS.Walk
import HandS.Lambda
import KE.SortData
import KE.SortKeyHeap
import KE.GoesEnum
import KE.GoesMore
import KE.SortCalls
import HandS.EndTab
import HandS.Words
import PySem.Challenge.RW_duelwebs_k27_whole_guards
set_option Elab.async false set_option linter.all false set_option maxRecDepth 100000 set_option maxHeartbeats 4000000
/-! data in the abstract heap; extension; the wish of each piece of syntax -/
namespace DW
open PyProof.Rows PySem PySem.Spec L2

/-! ### data at a value -/
mutual
inductive Da (H : Hp) : V → PyData → Prop
  | non : Da H .non .none
  | bl (b : Bool) : Da H (.bl b) (.bool b)
  | int (i : Int) : Da H (.int i) (.int i)
  | str (x : Str) : Da H (.str x) (.str x)
  | lst {a : Addr} {xs : List V} {ds : List PyData} : H a = some (.lst xs) → DaAll H xs ds → Da H (.ref a) (.list ds)
  | tup {a : Addr} {xs : List V} {ds : List PyData} : H a = some (.tup xs) → DaAll H xs ds → Da H (.ref a) (.tuple ds)
inductive DaAll (H : Hp) : List V → List PyData → Prop
  | nil : DaAll H [] []
  | cons {v : V} {vs : List V} {d : PyData} {ds : List PyData} : Da H v d → DaAll H vs ds → DaAll H (v :: vs) (d :: ds)
end

/-- nothing is told at p, a table of code objects apart -/
def Fr0 (H : Hp) (p : Addr) : Prop := ∀ o, H p = some o → ∃ ps, o = .tbl ps
theorem Fr0.of {H : Hp} {p : Addr} (h : H p = none) : Fr0 H p := fun o e => by rw [h] at e; cases e
theorem Fr0.ne {H : Hp} {p b : Addr} {o : HO} (f : Fr0 H p) (e : H b = some o) (n : ∀ ps, o ≠ .tbl ps) : b ≠ p := by
  rintro rfl
  obtain ⟨ps, h⟩ := f o e
  exact n ps h
/-- what stands is kept, but for tables of code objects, which may grow; the tables are in order -/
structure Xt (T : List (Addr × Str)) (H H' : Hp) : Prop where
  keep : ∀ b o, H b = some o → (∀ ps, o ≠ .tbl ps) → H' b = some o
  tabs : LamX.Tabs T H'
section
variable {T : List (Addr × Str)} {H H1 H2 H' : Hp}
theorem Xt.refl (h : LamX.Tabs T H) : Xt T H H := ⟨fun _ _ e _ => e, h⟩
theorem Xt.self (e : Xt T H H1) : Xt T H1 H1 := .refl e.tabs
theorem Xt.trans (a : Xt T H H1) (b : Xt T H1 H2) : Xt T H H2 := ⟨fun c o e n => b.keep c o (a.keep c o e n) n, b.tabs⟩
theorem Xt.lstAt (e : Xt T H H1) {a : Addr} {xs : List V} (h : H a = some (.lst xs)) : H1 a = some (.lst xs) := e.keep a _ h fun ps z => by cases z
theorem Xt.tupAt (e : Xt T H H1) {a : Addr} {xs : List V} (h : H a = some (.tup xs)) : H1 a = some (.tup xs) := e.keep a _ h fun ps z => by cases z
theorem Xt.dtAt (e : Xt T H H1) {a : Addr} {xs} (h : H a = some (.dT xs)) : H1 a = some (.dT xs) := e.keep a _ h fun ps z => by cases z
theorem Xt.free (e : Xt T H H1) {a : Addr} (h : H1 a = none) : Fr0 H a := fun o q => by
  refine Classical.byContradiction fun z => ?_
  rw [e.keep a o q fun ps e => z ⟨ps, e⟩] at h
  cases h
theorem Xt.freeF (e : Xt T H H1) {a : Addr} (h : Fr0 H1 a) : Fr0 H a := fun o q => by
  refine Classical.byContradiction fun z => ?_
  exact z (h o (e.keep a o q fun ps e => z ⟨ps, e⟩))
theorem Xt.new (h : LamX.Tabs T H) {p : Addr} {o : HO} (n : H p = none) : Xt T H (upd H p o) := by
  have k : ∀ b u, H b = some u → upd H p o b = some u := fun b u e => by rw [upd_ne (ne_of_none e n)]; exact e
  exact ⟨fun b u e _ => k b u e, h.ext k⟩
theorem codeO_nt {c : Addr} {q : Str} (ps : Array Value) : LamX.CodeO c q ≠ .tbl ps := LamX.codeO_ne ps
/-- a base tells a new thing -/
theorem Xt.newB (u : Xt T H H1) (t : LamX.Tabs T H) {p : Addr} {o : HO} (n : H1 p = none) : Xt T H (upd H p o) := by
  have f := u.free n
  refine ⟨fun b v e nt => by rw [upd_ne (f.ne e nt)]; exact e, fun q hq => ?_⟩
  obtain ⟨ps, h1, h2, h3⟩ := t q hq
  have np : q.1 ≠ p := by
    intro e
    obtain ⟨qs, k1, _⟩ := u.tabs q hq
    rw [e, n] at k1
    cases k1
  refine ⟨ps, by rw [upd_ne np]; exact h1, h2, fun pos cv hc => ?_⟩
  have ⟨c, e1, e2⟩ := h3 pos cv hc
  exact ⟨c, e1, by rw [upd_ne (f.ne e2 codeO_nt)]; exact e2⟩
theorem Xt.newOf (e : Xt T H H1) {p : Addr} {o : HO} (n : H1 p = none) : Xt T H (upd H1 p o) := e.trans (.new e.tabs n)
/-- a list of ours changes -/
theorem tabs_mut {p : Addr} {u o : HO} (h : LamX.Tabs T H) (e : H p = some u) (n1 : ∀ ps, u ≠ .tbl ps) (n2 : ∀ c q, u ≠ LamX.CodeO c q) : LamX.Tabs T (upd H p o) := fun q hq => by
  obtain ⟨ps, h1, h2, h3⟩ := h q hq
  have k : ∀ b u', H b = some u' → u' ≠ u → upd H p o b = some u' := fun b u' e' n => by
    rw [upd_ne (ne_of e' e n)]
    exact e'
  refine ⟨ps, k _ _ h1 fun z => n1 ps z.symm, h2, fun pos cv hc => ?_⟩
  have ⟨c, e1, e2⟩ := h3 pos cv hc
  exact ⟨c, e1, k _ _ e2 fun z => n2 _ _ z.symm⟩
theorem Xt.mut (e : Xt T H H1) {p : Addr} {u o : HO} (n : Fr0 H p) (hp : H1 p = some u) (n1 : ∀ ps, u ≠ .tbl ps) (n2 : ∀ c q, u ≠ LamX.CodeO c q) : Xt T H (upd H1 p o) :=
  ⟨fun b v q nv => by rw [upd_ne (n.ne q nv)]; exact e.keep b v q nv, tabs_mut e.tabs hp n1 n2⟩
theorem lst_nt {xs : List V} : ∀ ps, HO.lst xs ≠ .tbl ps := fun ps z => by cases z
theorem lst_nc {xs : List V} : ∀ c q, HO.lst xs ≠ LamX.CodeO c q := fun c q z => by unfold LamX.CodeO at z; cases z
theorem dt_nt {xs} : ∀ ps, HO.dT xs ≠ .tbl ps := fun ps z => by cases z
theorem dt_nc {xs} : ∀ c q, HO.dT xs ≠ LamX.CodeO c q := fun c q z => by unfold LamX.CodeO at z; cases z
theorem Xt.mutL (e : Xt T H H1) {p : Addr} {xs ys : List V} (n : Fr0 H p) (hp : H1 p = some (.lst xs)) : Xt T H (upd H1 p (.lst ys)) := e.mut n hp lst_nt lst_nc

mutual
theorem Da.mono (e : Xt T H H') : ∀ {v : V} {d : PyData}, Da H v d → Da H' v d
  | _, _, .non => .non
  | _, _, .bl b => .bl b
  | _, _, .int i => .int i
  | _, _, .str x => .str x
  | _, _, .lst h hs => .lst (e.lstAt h) (DaAll.mono e hs)
  | _, _, .tup h hs => .tup (e.tupAt h) (DaAll.mono e hs)
theorem DaAll.mono (e : Xt T H H') : ∀ {vs : List V} {ds : List PyData}, DaAll H vs ds → DaAll H' vs ds
  | _, _, .nil => .nil
  | _, _, .cons h hs => .cons (Da.mono e h) (DaAll.mono e hs)
end
mutual
theorem Da.dp {K : PySem.W.Frag} : ∀ {v : V} {d : PyData}, Da H v d → Dp K H v d
  | _, _, .non => .non
  | _, _, .bl b => .bl b
  | _, _, .int i => .int i
  | _, _, .str x => .str x
  | _, _, .lst h hs => .lst (.of h) (DaAll.dp hs)
  | _, _, .tup h hs => .tup (.of h) (DaAll.dp hs)
theorem DaAll.dp {K : PySem.W.Frag} : ∀ {vs : List V} {ds : List PyData}, DaAll H vs ds → DpAll K H vs ds
  | _, _, .nil => .nil
  | _, _, .cons h hs => .cons (Da.dp h) (DaAll.dp hs)
end
theorem DaAll.length : ∀ {vs : List V} {ds : List PyData}, DaAll H vs ds → vs.length = ds.length
  | _, _, .nil => rfl
  | _, _, .cons _ hs => by rw [List.length_cons, List.length_cons, DaAll.length hs]
theorem DaAll.get : ∀ {vs : List V} {ds : List PyData} {i : Nat} {d : PyData}, DaAll H vs ds → ds[i]? = some d → ∃ v, vs[i]? = some v ∧ Da H v d
  | _, _, _, _, .nil, e => (by simp at e)
  | _, _, 0, _, .cons h _, e => by simp at e; subst e; exact ⟨_, rfl, h⟩
  | _, _, i + 1, _, .cons _ hs, e => by
    obtain ⟨v, h1, h2⟩ := DaAll.get (i := i) hs (by simpa using e)
    exact ⟨v, by simpa using h1, h2⟩
theorem DaAll.getV : ∀ {vs : List V} {ds : List PyData} {i : Nat} {v : V}, DaAll H vs ds → vs[i]? = some v → ∃ d, ds[i]? = some d ∧ Da H v d
  | _, _, _, _, .nil, e => (by simp at e)
  | _, _, 0, _, .cons h _, e => by simp at e; subst e; exact ⟨_, rfl, h⟩
  | _, _, i + 1, _, .cons _ hs, e => by
    obtain ⟨v, h1, h2⟩ := DaAll.getV (i := i) hs (by simpa using e)
    exact ⟨v, by simpa using h1, h2⟩
theorem DaAll.append : ∀ {vs ws : List V} {ds es : List PyData}, DaAll H vs ds → DaAll H ws es → DaAll H (vs ++ ws) (ds ++ es)
  | _, _, _, _, .nil, h => h
  | _, _, _, _, .cons h hs, g => .cons h (DaAll.append hs g)
theorem DaAll.reverse : ∀ {vs : List V} {ds : List PyData}, DaAll H vs ds → DaAll H vs.reverse ds.reverse
  | _, _, .nil => .nil
  | _, _, .cons h hs => by
    (rw [List.reverse_cons, List.reverse_cons])
    exact DaAll.append (DaAll.reverse hs) (.cons h .nil)
theorem DaAll.ints : ∀ {vs : List V} {ns : List Int}, DaAll H vs (ns.map .int) → vs = ns.map V.int
  | [], [], _ => rfl
  | _, n :: ns, h => by
    have h' : DaAll H _ (.int n :: ns.map .int) := h
    cases h' with
    | cons h1 h2 =>
      cases h1
      rw [DaAll.ints h2]
      rfl
  | _ :: _, [], h => by
    have h' : DaAll H _ [] := h
    cases h'
theorem DaAll.ofInts : ∀ (ns : List Int), DaAll H (ns.map V.int) (ns.map .int)
  | [] => .nil
  | n :: ns => .cons (.int n) (DaAll.ofInts ns)
theorem DaAll.bools : ∀ {vs : List V} {bs : List Bool}, DaAll H vs (bs.map .bool) → vs = bs.map V.bl
  | [], [], _ => rfl
  | _, n :: ns, h => by
    have h' : DaAll H _ (.bool n :: ns.map .bool) := h
    cases h' with
    | cons h1 h2 =>
      cases h1
      rw [DaAll.bools h2]
      rfl
  | _ :: _, [], h => by
    have h' : DaAll H _ [] := h
    cases h'
/-- every value bears at most one datum -/
theorem Da.refT {a : Addr} {ds : List PyData} (h : Da H (.ref a) (.tuple ds)) : ∃ xs, H a = some (.tup xs) ∧ DaAll H xs ds := by
  cases h with
  | tup h1 h2 => exact ⟨_, h1, h2⟩
theorem Da.tupE {v : V} {ds : List PyData} (h : Da H v (.tuple ds)) : ∃ a xs, v = .ref a ∧ H a = some (.tup xs) ∧ DaAll H xs ds := by
  cases h with
  | tup h1 h2 => exact ⟨_, _, rfl, h1, h2⟩
theorem Da.lstE {v : V} {ds : List PyData} (h : Da H v (.list ds)) : ∃ a xs, v = .ref a ∧ H a = some (.lst xs) ∧ DaAll H xs ds := by
  cases h with
  | lst h1 h2 => exact ⟨_, _, rfl, h1, h2⟩
theorem Da.intE {v : V} {i : Int} (h : Da H v (.int i)) : v = .int i := by cases h; rfl
theorem Da.blE {v : V} {i : Bool} (h : Da H v (.bool i)) : v = .bl i := by cases h; rfl
theorem DaAll.nilE {vs : List V} (h : DaAll H vs []) : vs = [] := by cases h; rfl
theorem DaAll.consE {vs : List V} {d : PyData} {ds : List PyData} (h : DaAll H vs (d :: ds)) : ∃ v ws, vs = v :: ws ∧ Da H v d ∧ DaAll H ws ds := by
  cases h with
  | cons h1 h2 => exact ⟨_, _, rfl, h1, h2⟩
end

/-! a base: what is told of a heap, our own changing lists apart. Go: from a base and a heap to a later base and heap; lists that the base does not tell stay untold -/
def Mut (H : Hp) (p : Addr) : Prop := (∃ ys, H p = some (.lst ys)) ∨ ∃ kvs, H p = some (.dT kvs)
theorem Xt.mutAt {T : List (Addr × Str)} {H H1 : Hp} (e : Xt T H H1) {a : Addr} (h : Mut H a) : Mut H1 a := h.imp (fun ⟨ys, q⟩ => ⟨ys, e.lstAt q⟩) fun ⟨ys, q⟩ => ⟨ys, e.dtAt q⟩
theorem Mut.any {H : Hp} {p : Addr} (h : Mut H p) : H p ≠ none := by
  rcases h with ⟨ys, h⟩ | ⟨ys, h⟩ <;> (rw [h]; intro z; cases z)
theorem Mut.nt {H : Hp} {p : Addr} (h : Mut H p) {o : HO} (q : H p = some o) : ∀ ps, o ≠ .tbl ps := by
  rcases h with ⟨ys, h⟩ | ⟨ys, h⟩ <;> (rw [h] at q; cases q; intro ps z; cases z)
structure Go (T : List (Addr × Str)) (B H B' H' : Hp) : Prop where
  b : Xt T B B'
  h : Xt T H H'
  u : Xt T B' H'
  prm : ∀ p, Fr0 B p → Mut H p → Fr0 B' p
theorem Go.pr {T : List (Addr × Str)} {B H B' H' : Hp} (g : Go T B H B' H') (p : Addr) (ys : List V) (h1 : Fr0 B p) (h2 : H p = some (.lst ys)) : Fr0 B' p := g.prm p h1 (.inl ⟨ys, h2⟩)
theorem Go.prd {T : List (Addr × Str)} {B H B' H' : Hp} (g : Go T B H B' H') (p : Addr) {kvs} (h1 : Fr0 B p) (h2 : H p = some (.dT kvs)) : Fr0 B' p := g.prm p h1 (.inr ⟨kvs, h2⟩)
section
variable {T : List (Addr × Str)} {B H B1 H1 B2 H2 B3 H3 : Hp}
theorem Go.refl (e : Xt T B H) (t : LamX.Tabs T B) : Go T B H B H := ⟨.refl t, e.self, e, fun _ h _ => h⟩
theorem Go.trans (a : Go T B H B1 H1) (b : Go T B1 H1 B2 H2) : Go T B H B2 H2 := ⟨a.b.trans b.b, a.h.trans b.h, b.u, fun p h1 h2 => b.prm p (a.prm p h1 h2) (a.h.mutAt h2)⟩
theorem Go.self (a : Go T B H B1 H1) : Go T B1 H1 B1 H1 := .refl a.u a.b.tabs
/-- a base tells what stands -/
theorem Xt.tell {B H : Hp} (u : Xt T B H) {p : Addr} {o : HO} (hp : H p = some o) : Xt T (upd B p o) H := by
  refine ⟨fun b v e nt => ?_, u.tabs⟩
  by_cases hb : b = p
  · subst hb
    rw [upd_same] at e
    rw [hp]
    exact e
  · rw [upd_ne hb] at e
    exact u.keep b v e nt
theorem Fr0.upd_ne {p q : Addr} {o : HO} (h : Fr0 B q) (n : q ≠ p) : Fr0 (upd B p o) q := fun u e => by
  rw [L2.upd_ne n] at e
  exact h u e
/-- a new thing, told -/
theorem Go.new (a : Go T B H B1 H1) {p : Addr} {o : HO} (n : H1 p = none) : Go T B H (upd B1 p o) (upd H1 p o) := by
  have nu : Xt T B1 (upd H1 p o) := a.u.newOf n
  refine ⟨a.b.trans (a.u.newB a.b.tabs n), a.h.newOf n, nu.tell upd_same, fun q h1 h2 => ?_⟩
  have hq : q ≠ p := by
    intro e
    subst e
    exact (a.h.mutAt h2).any n
  exact (a.prm q h1 h2).upd_ne hq
/-- a new list of ours, untold -/
theorem Go.mine (a : Go T B H B1 H1) {p : Addr} {o : HO} (n : H1 p = none) : Go T B H B1 (upd H1 p o) := ⟨a.b, a.h.newOf n, a.u.newOf n, a.prm⟩
/-- a list of ours changes -/
theorem Go.mut (a : Go T B H B1 H1) {p : Addr} {u o : HO} (n : Fr0 H p) (nb : Fr0 B1 p) (hp : H1 p = some u) (n1 : ∀ ps, u ≠ .tbl ps) (n2 : ∀ c q, u ≠ LamX.CodeO c q) : Go T B H B1 (upd H1 p o) :=
  ⟨a.b, a.h.mut n hp n1 n2, a.u.mut nb hp n1 n2, a.prm⟩
theorem Go.mutL (a : Go T B H B1 H1) {p : Addr} {xs ys : List V} (n : Fr0 H p) (nb : Fr0 B1 p) (hp : H1 p = some (.lst xs)) : Go T B H B1 (upd H1 p (.lst ys)) := a.mut n nb hp lst_nt lst_nc
/-- all of H' but the lists and dicts of H that B does not tell -/
noncomputable def lim (B H H' : Hp) : Hp := fun b => open Classical in if Fr0 B b ∧ Mut H b then none else H' b
theorem lim_no {H' : Hp} {b : Addr} (h : ¬ (Fr0 B b ∧ Mut H b)) : lim B H H' b = H' b := if_neg h
theorem lim_yes {H' : Hp} {b : Addr} (h : Fr0 B b ∧ Mut H b) : lim B H H' b = none := if_pos h
theorem lim_some {H' : Hp} {b : Addr} {o : HO} (h : lim B H H' b = some o) : H' b = some o ∧ ¬ (Fr0 B b ∧ Mut H b) := by
  by_cases q : Fr0 B b ∧ Mut H b
  · rw [lim_yes q] at h; cases h
  · rw [lim_no q] at h; exact ⟨h, q⟩
theorem lim_tabs (e : Xt T H H1) : LamX.Tabs T (lim B H H1) := fun q hq => by
  obtain ⟨ps, h1, h2, h3⟩ := e.tabs q hq
  have k : ∀ b u, H1 b = some u → (∀ xs, u ≠ .lst xs) → (∀ xs, u ≠ .dT xs) → lim B H H1 b = some u := fun b u e1 n n' => by
    rw [lim_no ?_]
    · exact e1
    · rintro ⟨_, hm⟩
      rcases e.mutAt hm with ⟨ys, h⟩ | ⟨ys, h⟩
      · rw [e1] at h
        exact n ys (Option.some.inj h)
      · rw [e1] at h
        exact n' ys (Option.some.inj h)
  refine ⟨ps, k _ _ h1 (fun xs z => by cases z) (fun xs z => by cases z), h2, fun pos cv hc => ?_⟩
  have ⟨c, e1, e2⟩ := h3 pos cv hc
  exact ⟨c, e1, k _ _ e2 (fun xs z => lst_nc c q.2 z.symm) fun xs z => dt_nc c q.2 z.symm⟩
theorem lim_go (e : Xt T B H) (e1 : Xt T H H1) : Go T B H (lim B H H1) H1 := by
  refine ⟨⟨fun b o q n => ?_, lim_tabs e1⟩, e1, ⟨fun b o q n => (lim_some q).1, e1.tabs⟩, fun p h1 h2 => .of (lim_yes ⟨h1, h2⟩)⟩
  rw [lim_no fun z => z.1.ne q n rfl]
  exact e1.keep b o (e.keep b o q n) n
theorem Go.sub (g : Go T B H B1 H1) : Xt T B1 (lim B H H1) := by
  refine ⟨fun b o q n => ?_, lim_tabs g.h⟩
  rw [lim_no fun ⟨z1, z2⟩ => (g.prm b z1 z2).ne q n rfl]
  exact g.u.keep b o q n
/-- two steps, each told from the base, told together -/
theorem Go.join (e : Xt T B H) (a : Go T B H B1 H1) (b : Go T B H1 B2 H2) : ∃ B', Go T B H B' H2 ∧ Xt T B1 B' ∧ Xt T B2 B' := by
  have e12 := a.h.trans b.h
  have b' : Go T B H B2 H2 := ⟨b.b, e12, b.u, fun p h1 h2 => b.prm p h1 (a.h.mutAt h2)⟩
  refine ⟨lim B H H2, lim_go e e12, ?_, b'.sub⟩
  refine ⟨fun c o q n => ?_, lim_tabs e12⟩
  rw [lim_no fun ⟨z1, z2⟩ => (a.prm c z1 z2).ne q n rfl]
  exact b.h.keep c o (a.u.keep c o q n) n
theorem Go.wider {B B' H B2 H2 : Hp} (x : Xt T B B') (e : Xt T B' H) (g : Go T B H B2 H2) : ∃ B3, Go T B' H B3 H2 ∧ Xt T B2 B3 := by
  refine ⟨lim B' H H2, lim_go e g.h, ⟨fun c o q n => ?_, lim_tabs g.h⟩⟩
  rw [lim_no fun ⟨z1, z2⟩ => (g.prm c (x.freeF z1) z2).ne q n rfl]
  exact g.u.keep c o q n
theorem Go.onto {T : List (Addr × Str)} {B H1 H2 B3 H3 : Hp} (e1 : Xt T B H1) (e2 : Xt T H1 H2) (g : Go T B H2 B3 H3) : Go T B H1 B3 H3 := ⟨g.b, e2.trans g.h, g.u, fun p h1 h2 => g.prm p h1 (e2.mutAt h2)⟩
theorem Go.tell (g : Go T B H B1 H1) {p : Addr} {o : HO} (n : Fr0 H p) (nb : Xt T B1 (upd B1 p o)) (hp : H1 p = some o) : Go T B H (upd B1 p o) H1 := by
  refine ⟨g.b.trans nb, g.h, g.u.tell hp, fun q h1 h2 => ?_⟩
  have hq : q ≠ p := by
    intro e
    subst e
    rcases h2 with ⟨ys, h2⟩ | ⟨ys, h2⟩
    · exact n.ne h2 lst_nt rfl
    · exact n.ne h2 dt_nt rfl
  exact (g.prm q h1 h2).upd_ne hq
/-- a list of ours is told -/
theorem Xt.telling (u : Xt T B H) (t : LamX.Tabs T B) {p : Addr} {o : HO} (n : Fr0 B p) (hp : H p = some o) (n1 : ∀ ps, o ≠ .tbl ps) : Xt T B (upd B p o) := by
  refine ⟨fun b v e nt => by rw [L2.upd_ne (n.ne e nt)]; exact e, fun q hq => ?_⟩
  obtain ⟨ps, h1, h2, h3⟩ := t q hq
  have np : q.1 ≠ p := by
    intro e
    obtain ⟨qs, k1, _⟩ := u.tabs q hq
    rw [e, hp] at k1
    exact n1 qs (Option.some.inj k1)
  refine ⟨ps, by rw [L2.upd_ne np]; exact h1, h2, fun pos cv hc => ?_⟩
  have ⟨c, e1, e2⟩ := h3 pos cv hc
  exact ⟨c, e1, by rw [L2.upd_ne (n.ne e2 codeO_nt)]; exact e2⟩
end

/-! ### the wish of a piece of syntax, as it stands -/
structure WE (X : Cx) (e : Expr) (σ : L2.St) (H : Hp) (Q : VK) : Prop where
  run : ∀ (pins : List (Addr × Obj)) (s : Shared), Inv X pins σ H s → wpAny (model X.prog X.w) X.A (eval e X.env) (EP X pins σ Q) X.xe s
structure WT (X : Cx) (e : Expr) (σ : L2.St) (H : Hp) (Q : Bool → Hp → Prop) : Prop where
  run : ∀ (pins : List (Addr × Obj)) (s : Shared), Inv X pins σ H s → wpAny (model X.prog X.w) X.A (isTrue e X.env (eval e X.env)) (TP X pins σ Q) X.xe s
structure WW (X : Cx) (e : Expr) (σ : L2.St) (H : Hp) (Q : Bool → Hp → Prop) : Prop where
  run : ∀ (whole : Sem Value) (pins : List (Addr × Obj)) (s : Shared), Inv X pins σ H s → wpAny (model X.prog X.w) X.A (isTrue e X.env whole) (TP X pins σ Q) X.xe s
structure WA (X : Cx) (es : List Expr) (σ : L2.St) (H : Hp) (Q : List V → Hp → Prop) : Prop where
  run : ∀ (pos : Pos) (pins : List (Addr × Obj)) (s : Shared), Inv X pins σ H s → wpAny (model X.prog X.w) X.A (spliced (backTo pos (starEach es X.env))) (AP X pins σ Q) X.xe s
structure WS (X : Cx) (st : Stmt) (D : Ends) (σ : L2.St) (H : Hp) : Prop where
  run : ∀ (pins : List (Addr × Obj)) (s : Shared), Inv X pins σ H s → wpAny (model X.prog X.w) X.A (exec st X.env) (SP X pins D) X.xe s
structure WB (X : Cx) (st : List Stmt) (D : Ends) (σ : L2.St) (H : Hp) : Prop where
  run : ∀ (pins : List (Addr × Obj)) (s : Shared), Inv X pins σ H s → wpAny (model X.prog X.w) X.A (execs st X.env) (SP X pins D) X.xe s
structure WI (X : Cx) (tg iter : Expr) (σ : L2.St) (H : Hp) (R : It → Hp → Prop) : Prop where
  run : ∀ (pins : List (Addr × Obj)) (s : Shared), Inv X pins σ H s → wpAny (model X.prog X.w) X.A (eval iter X.env) (fun v s1 => wpAny (model X.prog X.w) X.A (pyIter v) (PIE X pins σ tg R) X.xe s1) X.xe s
structure WG (X : Cx) (target : Expr) (v : V) (σ : L2.St) (H : Hp) (Q : L2.St → Hp → Prop) : Prop where
  run : ∀ (pins : List (Addr × Obj)) (s : Shared) (u : Value), Inv X pins σ H s → RelV v u → wpAny (model X.prog X.w) X.A (assign target X.env u) (fun _ s' => ∃ σ' H', Inv X pins σ' H' s' ∧ Q σ' H') X.xe s
structure WTs (X : Cx) (ifs : List Expr) (σ : L2.St) (H : Hp) (Q : Bool → Hp → Prop) : Prop where
  run : ∀ (pins : List (Addr × Obj)) (s : Shared), Inv X pins σ H s → wpAny (model X.prog X.w) X.A (forIn ifs true fun c r => if r = true then do let ok ← isTrue c X.env (eval c X.env); pure (ForInStep.yield ok) else pure (ForInStep.yield r)) (TP X pins σ Q) X.xe s
section
variable {X : Cx} {e tg iter : Expr} {es : List Expr} {st : Stmt} {sts : List Stmt}
theorem pe_w : PE X e (WE X e) := ⟨fun pins s σ H Q I h => h.run pins s I⟩
theorem pt_w : PT X e (WT X e) := ⟨fun pins s σ H Q I h => h.run pins s I⟩
theorem pw_w : PW X e (WW X e) := ⟨fun wh pins s σ H Q I h => h.run wh pins s I⟩
theorem pa_w : PA X es (WA X es) := ⟨fun pos pins s σ H Q I h => h.run pos pins s I⟩
theorem ps_w : PS X st (WS X st) := ⟨fun pins s σ H D I h => h.run pins s I⟩
theorem pss_w : PSs X sts (WB X sts) := ⟨fun pins s σ H D I h => h.run pins s I⟩
theorem pi_w : PI X tg iter (WI X tg iter) := ⟨fun pins s σ H R I h => h.run pins s I⟩
theorem pg_w : PG X tg (WG X tg) := ⟨fun pins s σ H v u Q I r h => h.run pins s u I r⟩
theorem pts_w : PTs X es (WTs X es) := ⟨fun pins s σ H Q I h => h.run pins s I⟩
theorem PE.w {t : TE} {σ : L2.St} {H : Hp} {Q : VK} (h : PE X e t) (q : t σ H Q) : WE X e σ H Q := ⟨fun pins s I => h.run pins s σ H Q I q⟩
theorem PT.w {t : TT} {σ : L2.St} {H : Hp} {Q : Bool → Hp → Prop} (h : PT X e t) (q : t σ H Q) : WT X e σ H Q := ⟨fun pins s I => h.run pins s σ H Q I q⟩
theorem PW.w {t : TT} {σ : L2.St} {H : Hp} {Q : Bool → Hp → Prop} (h : PW X e t) (q : t σ H Q) : WW X e σ H Q := ⟨fun wh pins s I => h.run wh pins s σ H Q I q⟩
theorem PA.w {t : TA} {σ : L2.St} {H : Hp} {Q : List V → Hp → Prop} (h : PA X es t) (q : t σ H Q) : WA X es σ H Q := ⟨fun pos pins s I => h.run pos pins s σ H Q I q⟩
theorem PS.w {t : TS} {σ : L2.St} {H : Hp} {D : Ends} (h : PS X st t) (q : t D σ H) : WS X st D σ H := ⟨fun pins s I => h.run pins s σ H D I q⟩
theorem PSs.w {t : TS} {σ : L2.St} {H : Hp} {D : Ends} (h : PSs X sts t) (q : t D σ H) : WB X sts D σ H := ⟨fun pins s I => h.run pins s σ H D I q⟩
theorem PI.w {t : TI} {σ : L2.St} {H : Hp} {R : It → Hp → Prop} (h : PI X tg iter t) (q : t σ H R) : WI X tg iter σ H R := ⟨fun pins s I => h.run pins s σ H R I q⟩
theorem PG.w {t : TG} {v : V} {σ : L2.St} {H : Hp} {Q : L2.St → Hp → Prop} (h : PG X tg t) (q : t v σ H Q) : WG X tg v σ H Q := ⟨fun pins s u I r => h.run pins s σ H v u Q I r q⟩
theorem PTs.w {t : TT} {σ : L2.St} {H : Hp} {Q : Bool → Hp → Prop} (h : PTs X es t) (q : t σ H Q) : WTs X es σ H Q := ⟨fun pins s I => h.run pins s σ H Q I q⟩
theorem WW.wt {σ : L2.St} {H : Hp} {Q : Bool → Hp → Prop} (h : WW X e σ H Q) : WT X e σ H Q := ⟨fun pins s I => h.run _ pins s I⟩
end
end DW

/-! expressions that are data: one rule a construct -/
namespace DW
open PyProof.Rows PySem PySem.Spec L2

section
variable (T : List (Addr × Str))
def Pe (X : Cx) (e : Expr) (σ : L2.St) (B : Hp) (d : PyData) : Prop := ∀ H1, Xt T B H1 → ∀ Q : VK, (∀ v B2 H2, Go T B H1 B2 H2 → Da B2 v d → Q v H2) → WE X e σ H1 Q
def Pt (X : Cx) (e : Expr) (σ : L2.St) (B : Hp) (b : Bool) : Prop := ∀ H1, Xt T B H1 → ∀ Q : Bool → Hp → Prop, (∀ H2, Xt T H1 H2 → Q b H2) → WT X e σ H1 Q
def Pw (X : Cx) (e : Expr) (σ : L2.St) (B : Hp) (b : Bool) : Prop := ∀ H1, Xt T B H1 → ∀ Q : Bool → Hp → Prop, (∀ H2, Xt T H1 H2 → Q b H2) → WW X e σ H1 Q
def Pts (X : Cx) (es : List Expr) (σ : L2.St) (B : Hp) (b : Bool) : Prop := ∀ H1, Xt T B H1 → ∀ Q : Bool → Hp → Prop, (∀ H2, Xt T H1 H2 → Q b H2) → WTs X es σ H1 Q
def Pa (X : Cx) (es : List Expr) (σ : L2.St) (B : Hp) (ds : List PyData) : Prop := ∀ H1, Xt T B H1 → ∀ Q : List V → Hp → Prop, (∀ vs B2 H2, Go T B H1 B2 H2 → DaAll B2 vs ds → Q vs H2) → WA X es σ H1 Q
/-- an iterable that gives the data ds -/
def Src (X : Cx) (tg iter : Expr) (σ : L2.St) (B : Hp) (ds : List PyData) : Prop := ∀ H1, Xt T B H1 → ∀ R : It → Hp → Prop,
  (∀ J B2 H2 (G : Hp → Prop) (Y : Nat → Hp → V → Hp → Prop), Go T B H1 B2 H2 → Walk J ds.length G Y → (∀ H3, Xt T B2 H3 → G H3) →
    (∀ i B3 H3 v H4, i < ds.length → Xt T B2 B3 → Xt T B3 H3 → Y i H3 v H4 → ∃ B4 d, Go T B3 H3 B4 H4 ∧ ds[i]? = some d ∧ Da B4 v d) → R J H2) → WI X tg iter σ H1 R
/-- a def that answers data by data -/
def SpF (R : List PyData → PyData → Prop) : Sp := fun vs H Q _ => ∃ B ds d, Xt T B H ∧ DaAll B vs ds ∧ R ds d ∧ ∀ v B' H', Go T B H B' H' → Da B' v d → Q v H'
structure DefOk (P : Program) (w : World) (K : PySem.W.Frag) (mg : Str → Option Value) (base : Heap) (x : Str) (k : Nat) (R : List PyData → PyData → Prop) : Prop where
  ok : ∃ f fd ps, FnOk P w K mg base CX0 k f fd ps (SpF T R) ∧ mg x = some (.ref f) ∧ PySem.W.keepIn K (.ref f) = true ∧ Binds K fd ps []
end

theorem inV_int (i : Int) : ∀ ns : List Int, inV (.int i) (ns.map V.int) = decide (i ∈ ns)
  | [] => rfl
  | n :: ns => by
    have ih := inV_int i ns
    unfold inV at ih ⊢
    rw [List.map_cons, List.any_cons, ih]
    have e : eqV (V.int n) (V.int i) = decide (i = n) := by
      show (n == i) = decide (i = n)
      rw [Bool.beq_eq_decide_eq]
      exact decide_eq_decide.mpr ⟨Eq.symm, Eq.symm⟩
    rw [e, Bool.eq_iff_iff]
    simp
theorem flat_ints (ns : List Int) : (ns.map V.int).all flatV = true := by simp [flatV]
theorem Da.seqI {H : Hp} {v : V} {ns : List Int} {K : PySem.W.Frag} (h : Da H v (.list (ns.map .int)) ∨ Da H v (.tuple (ns.map .int))) : ∃ p, v = .ref p ∧ (SqL K H p (ns.map V.int) ∨ SqT K H p (ns.map V.int)) := by
  rcases h with h | h
  · obtain ⟨p, xs, e1, e2, e3⟩ := h.lstE
    have e4 := e3.ints
    subst e4
    exact ⟨p, e1, .inl (.of e2)⟩
  · obtain ⟨p, xs, e1, e2, e3⟩ := h.tupE
    have e4 := e3.ints
    subst e4
    exact ⟨p, e1, .inr (.of e2)⟩
theorem ex_t {T : List (Addr × Str)} {K : PySem.W.Frag} {H H' : Hp} (e : Xt T H H') {a : Addr} {xs : List V} (h : SqT K H a xs) : SqT K H' a xs := by
  obtain (h | ⟨o, h⟩) | h := h
  · exact .inl (.inl (e.keep _ _ h fun _ z => by cases z))
  · exact .inl (.inr ⟨o, e.keep _ _ h fun _ z => by cases z⟩)
  · exact .inr h
theorem ex_l {T : List (Addr × Str)} {K : PySem.W.Frag} {H H' : Hp} (e : Xt T H H') {a : Addr} {xs : List V} (h : SqL K H a xs) : SqL K H' a xs := by
  obtain (h | ⟨o, h⟩) | h := h
  · exact .inl (.inl (e.keep _ _ h fun _ z => by cases z))
  · exact .inl (.inr ⟨o, e.keep _ _ h fun _ z => by cases z⟩)
  · exact .inr h
inductive SeqD : PyData → List PyData → Prop
  | lst (ds) : SeqD (.list ds) ds
  | tup (ds) : SeqD (.tuple ds) ds
theorem SeqD.da {H : Hp} {v : V} {D : PyData} {ds : List PyData} {K : PySem.W.Frag} (s : SeqD D ds) (h : Da H v D) : ∃ p xs, v = .ref p ∧ (SqL K H p xs ∨ SqT K H p xs) ∧ DaAll H xs ds := by
  cases s with
  | lst =>
    obtain ⟨p, xs, e1, e2, e3⟩ := h.lstE
    exact ⟨p, xs, e1, .inl (.of e2), e3⟩
  | tup =>
    obtain ⟨p, xs, e1, e2, e3⟩ := h.tupE
    exact ⟨p, xs, e1, .inr (.of e2), e3⟩
theorem DaAll.one {H : Hp} {vs : List V} {d : PyData} (h : DaAll H vs [d]) : ∃ v, vs = [v] ∧ Da H v d := by
  obtain ⟨v, ws, e, h1, h2⟩ := h.consE
  exact ⟨v, by rw [e, h2.nilE], h1⟩
section
variable {T : List (Addr × Str)} {X : Cx} {σ : L2.St} {H : Hp} {a b c e tg iter elt : Expr} {es rest : List Expr} {d da db dc : PyData} {ds : List PyData} {pos p apos : Pos} {i j : Int} {k : Nat}

theorem Pe.is (h : Pe T X e σ H da) (q : da = db) : Pe T X e σ H db := q ▸ h
theorem Pe.mono {H' : Hp} (x : Xt T H H') (h : Pe T X e σ H d) : Pe T X e σ H' d := fun H1 e1 Q q => h H1 (x.trans e1) Q fun v B2 H2 g hv => by
  obtain ⟨B3, g3, x3⟩ := g.wider x e1
  exact q v B3 H2 g3 (hv.mono x3)
theorem Pa.mono {H' : Hp} (x : Xt T H H') (h : Pa T X es σ H ds) : Pa T X es σ H' ds := fun H1 e1 Q q => h H1 (x.trans e1) Q fun v B2 H2 g hv => by
  obtain ⟨B3, g3, x3⟩ := g.wider x e1
  exact q v B3 H2 g3 (hv.mono x3)
theorem Pt.mono {H' : Hp} {b : Bool} (x : Xt T H H') (h : Pt T X e σ H b) : Pt T X e σ H' b := fun H1 e1 Q q => h H1 (x.trans e1) Q q
theorem Pt.is {b b' : Bool} (h : Pt T X e σ H b) (q : b = b') : Pt T X e σ H b' := q ▸ h
theorem Pts.is {b b' : Bool} (h : Pts T X es σ H b) (q : b = b') : Pts T X es σ H b' := q ▸ h

/-! names, constants -/
theorem d_var {n : Nat} {x : Str} {v : V} (hs : σ[n]? = some (some v)) (hd : Da H v d) (hN : X.N[n]? = some x := by rfl)
    (hv : Vis X.env.scope x := by first | exact Or.inl rfl | exact Or.inr (Or.inl rfl) | exact Or.inr (Or.inr rfl)) (h1 : (x == ("__debug__" : Str)) = false := by decide) (h2 : (x == ("__classdict__" : Str)) = false := by decide) :
    Pe T X (.Name x pos) σ H d := fun H1 e1 Q q => PE.w (pe_var hN hv h1 h2) ⟨v, hs, q v _ H1 (lim_go e1 e1.self) (hd.mono (lim_go e1 e1.self).b)⟩
theorem d_int {n : Nat} {z : Int} : Pe T X (.Constant (.int z) n pos) σ H (.int z) := fun H1 e1 Q q => PE.w pe_int (q _ _ H1 (lim_go e1 e1.self) (.int z))
theorem d_bl {n : Nat} {z : Bool} : Pe T X (.Constant (.bool z) n pos) σ H (.bool z) := fun H1 e1 Q q => PE.w pe_bl (q _ _ H1 (lim_go e1 e1.self) (.bl z))
theorem d_non {n : Nat} : Pe T X (.Constant .none n pos) σ H .none := fun H1 e1 Q q => PE.w pe_non (q _ _ H1 (lim_go e1 e1.self) .non)
theorem d_glob {x : Str} {u : Value} {z : Int} (hm : X.mg x = some u) (r : RelV (.int z) u) (hg : Gl X x := by rfl) (hd : (x == ("__debug__" : Str)) = false := by decide) : Pe T X (.Name x pos) σ H (.int z) :=
  fun H1 e1 Q q => PE.w (pe_glob hg hm r hd) (q _ _ H1 (lim_go e1 e1.self) (.int z))

/-! two-place operations -/
theorem d_opI {op : Operator} {g : Int → Int → Int} (ho : OpR X (binaryOp op) (rI0 fun i j => .int (g i j))) (ha : Pe T X a σ H (.int i)) (hb : Pe T X b σ H (.int j)) : Pe T X (.BinOp a op b pos) σ H (.int (g i j)) :=
  fun H1 e1 Q q => PE.w (pe_op ho pe_w pe_w) (ha H1 e1 _ fun x B2 H2 g2 hx => hb H2 (e1.trans g2.h) _ fun y B3 H3 g3 hy => ⟨i, j, hx.intE, hy.intE, q _ _ H3 (lim_go e1 (g2.h.trans g3.h)) (.int _)⟩)
theorem d_add (ha : Pe T X a σ H (.int i)) (hb : Pe T X b σ H (.int j)) : Pe T X (.BinOp a .Add b pos) σ H (.int (i + j)) := d_opI op_add ha hb
theorem d_sub (ha : Pe T X a σ H (.int i)) (hb : Pe T X b σ H (.int j)) : Pe T X (.BinOp a .Sub b pos) σ H (.int (i - j)) := d_opI op_sub ha hb
theorem d_neg (ha : Pe T X a σ H (.int i)) : Pe T X (.UnaryOp .USub a pos) σ H (.int (-i)) :=
  fun H1 e1 Q q => PE.w (pe_un un_neg pe_w) (ha H1 e1 _ fun x B2 H2 g2 hx => ⟨i, hx.intE, q _ _ H2 (lim_go e1 g2.h) (.int _)⟩)
theorem d_cmpI {op : CmpOp} {g : Int → Int → Bool} (ho : OpR X (compareOp op) (rI0 fun i j => .bl (g i j))) (hm : behindInMarks op b = false) (ha : Pe T X a σ H (.int i)) (hb : Pe T X b σ H (.int j)) :
    Pe T X (.Compare a [op] [b] pos) σ H (.bool (g i j)) :=
  fun H1 e1 Q q => PE.w (pe_cmpR ho pe_w pe_w hm) (ha H1 e1 _ fun x B2 H2 g2 hx => hb H2 (e1.trans g2.h) _ fun y B3 H3 g3 hy => ⟨i, j, hx.intE, hy.intE, q _ _ H3 (lim_go e1 (g2.h.trans g3.h)) (.bl _)⟩)
theorem t_cmpI {op : CmpOp} {g : Int → Int → Bool} (ho : OpR X (compareOp op) (rI0 fun i j => .bl (g i j))) (hm : behindInMarks op b = false) (ha : Pe T X a σ H (.int i)) (hb : Pe T X b σ H (.int j)) :
    Pt T X (.Compare a [op] [b] pos) σ H (g i j) :=
  fun H1 e1 Q q => PT.w (pt_cmpR ho pe_w pe_w hm) (ha H1 e1 _ fun x B2 H2 g2 hx => hb H2 (e1.trans g2.h) _ fun y B3 H3 g3 hy => ⟨i, j, hx.intE, hy.intE, _, rfl, q H3 (g2.h.trans g3.h)⟩)
theorem d_lt (ha : Pe T X a σ H (.int i)) (hb : Pe T X b σ H (.int j)) : Pe T X (.Compare a [.Lt] [b] pos) σ H (.bool (decide (i < j))) := d_cmpI op_lt (nomark _) ha hb
theorem d_le (ha : Pe T X a σ H (.int i)) (hb : Pe T X b σ H (.int j)) : Pe T X (.Compare a [.LtE] [b] pos) σ H (.bool (decide (i ≤ j))) := d_cmpI op_le (nomark _) ha hb
theorem d_gt (ha : Pe T X a σ H (.int i)) (hb : Pe T X b σ H (.int j)) : Pe T X (.Compare a [.Gt] [b] pos) σ H (.bool (decide (j < i))) := d_cmpI op_gt (nomark _) ha hb
theorem d_ge (ha : Pe T X a σ H (.int i)) (hb : Pe T X b σ H (.int j)) : Pe T X (.Compare a [.GtE] [b] pos) σ H (.bool (decide (j ≤ i))) := d_cmpI op_ge (nomark _) ha hb
theorem t_lt (ha : Pe T X a σ H (.int i)) (hb : Pe T X b σ H (.int j)) : Pt T X (.Compare a [.Lt] [b] pos) σ H (decide (i < j)) := t_cmpI op_lt (nomark _) ha hb
theorem t_le (ha : Pe T X a σ H (.int i)) (hb : Pe T X b σ H (.int j)) : Pt T X (.Compare a [.LtE] [b] pos) σ H (decide (i ≤ j)) := t_cmpI op_le (nomark _) ha hb
theorem t_gt (ha : Pe T X a σ H (.int i)) (hb : Pe T X b σ H (.int j)) : Pt T X (.Compare a [.Gt] [b] pos) σ H (decide (j < i)) := t_cmpI op_gt (nomark _) ha hb
theorem t_ge (ha : Pe T X a σ H (.int i)) (hb : Pe T X b σ H (.int j)) : Pt T X (.Compare a [.GtE] [b] pos) σ H (decide (j ≤ i)) := t_cmpI op_ge (nomark _) ha hb
theorem op_eqI : OpR X (compareOp .Eq) (rI0 fun i j => .bl (decide (i = j))) := fun pins s σ H x y v u Q I rx ry ⟨i, j, e1, e2, q⟩ => by
  subst e1; subst e2
  refine op_eq pins s σ H _ _ v u Q I rx ry ⟨rfl, ?_⟩
  rw [dec_int, Bool.beq_eq_decide_eq]
  exact q
theorem op_neI : OpR X (compareOp .NotEq) (rI0 fun i j => .bl (!decide (i = j))) := fun pins s σ H x y v u Q I rx ry ⟨i, j, e1, e2, q⟩ => by
  subst e1; subst e2
  refine op_ne pins s σ H _ _ v u Q I rx ry ⟨rfl, ?_⟩
  rw [dec_int, Bool.beq_eq_decide_eq]
  exact q
theorem d_eqI (ha : Pe T X a σ H (.int i)) (hb : Pe T X b σ H (.int j)) : Pe T X (.Compare a [.Eq] [b] pos) σ H (.bool (decide (i = j))) := d_cmpI op_eqI (nomark _) ha hb
theorem d_neI (ha : Pe T X a σ H (.int i)) (hb : Pe T X b σ H (.int j)) : Pe T X (.Compare a [.NotEq] [b] pos) σ H (.bool (!decide (i = j))) := d_cmpI op_neI (nomark _) ha hb
theorem t_eqI (ha : Pe T X a σ H (.int i)) (hb : Pe T X b σ H (.int j)) : Pt T X (.Compare a [.Eq] [b] pos) σ H (decide (i = j)) := t_cmpI op_eqI (nomark _) ha hb
theorem t_neI (ha : Pe T X a σ H (.int i)) (hb : Pe T X b σ H (.int j)) : Pt T X (.Compare a [.NotEq] [b] pos) σ H (!decide (i = j)) := t_cmpI op_neI (nomark _) ha hb
/-- a <= b <= c, of ints -/
theorem d_chain {op op' : CmpOp} {g g' : Int → Int → Bool} {z : Int} (ho : OpR X (compareOp op) (rI0 fun i j => .bl (g i j))) (ho' : OpR X (compareOp op') (rI0 fun i j => .bl (g' i j))) (ha : Pe T X a σ H (.int i)) (hb : Pe T X b σ H (.int j)) (hc : Pe T X c σ H (.int z))
    (hm : lastMarks [op, op'] [b, c] = false := by with_unfolding_all rfl) : Pe T X (.Compare a [op, op'] [b, c] pos) σ H (.bool (g i j && g' j z)) :=
  fun H1 e1 Q q => PE.w (pe_chain ho ho' pe_w pe_w pe_w hm) (ha H1 e1 _ fun x B2 H2 g2 hx => hb H2 (e1.trans g2.h) _ fun y B3 H3 g3 hy => ⟨i, j, hx.intE, hy.intE, g i j, rfl, by
    cases hg : g i j with
    | true =>
      rw [if_pos rfl]
      refine hc H3 ((e1.trans g2.h).trans g3.h) _ fun w B4 H4 g4 hw => ⟨j, z, hy.intE, hw.intE, q _ _ H4 (lim_go e1 ((g2.h.trans g3.h).trans g4.h)) ?_⟩
      rw [hg]
      exact .bl _
    | false =>
      (rw [if_neg Bool.false_ne_true])
      refine q _ _ H3 (lim_go e1 (g2.h.trans g3.h)) ?_
      rw [hg]
      exact .bl _⟩)

/-! membership of an int -/
theorem d_in {ns : List Int} {D : PyData} (ha : Pe T X a σ H (.int i)) (hb : Pe T X b σ H D) (hs : SeqD D (ns.map .int) := by first | exact .lst _ | exact .tup _) (hm : behindInMarks .In b = false := by with_unfolding_all rfl) : Pe T X (.Compare a [.In] [b] pos) σ H (.bool (decide (i ∈ ns))) :=
  fun H1 e1 Q q => PE.w (pe_cmpR op_in_seq pe_w pe_w hm) (ha H1 e1 _ fun x B2 H2 g2 hx => hb H2 (e1.trans g2.h) _ fun y B3 H3 g3 hy => by
    obtain ⟨p, xs, e, hp, hd⟩ := hs.da (K := X.K) (hy.mono g3.u)
    have e4 := hd.ints
    subst e4
    refine ⟨p, _, e, hp, by rw [hx.intE]; rfl, flat_ints ns, ?_⟩
    rw [hx.intE, inV_int]
    exact q _ _ H3 (lim_go e1 (g2.h.trans g3.h)) (.bl _))
theorem d_notIn {ns : List Int} {D : PyData} (ha : Pe T X a σ H (.int i)) (hb : Pe T X b σ H D) (hs : SeqD D (ns.map .int) := by first | exact .lst _ | exact .tup _) (hm : behindInMarks .NotIn b = false := by with_unfolding_all rfl) : Pe T X (.Compare a [.NotIn] [b] pos) σ H (.bool (!decide (i ∈ ns))) :=
  fun H1 e1 Q q => PE.w (pe_cmpR op_notIn_seq pe_w pe_w hm) (ha H1 e1 _ fun x B2 H2 g2 hx => hb H2 (e1.trans g2.h) _ fun y B3 H3 g3 hy => by
    obtain ⟨p, xs, e, hp, hd⟩ := hs.da (K := X.K) (hy.mono g3.u)
    have e4 := hd.ints
    subst e4
    refine ⟨p, _, e, hp, by rw [hx.intE]; rfl, flat_ints ns, ?_⟩
    rw [hx.intE, inV_int]
    exact q _ _ H3 (lim_go e1 (g2.h.trans g3.h)) (.bl _))
theorem t_in {ns : List Int} {D : PyData} (ha : Pe T X a σ H (.int i)) (hb : Pe T X b σ H D) (hs : SeqD D (ns.map .int) := by first | exact .lst _ | exact .tup _) (hm : behindInMarks .In b = false := by with_unfolding_all rfl) : Pt T X (.Compare a [.In] [b] pos) σ H (decide (i ∈ ns)) :=
  fun H1 e1 Q q => PT.w (pt_cmpR op_in_seq pe_w pe_w hm) (ha H1 e1 _ fun x B2 H2 g2 hx => hb H2 (e1.trans g2.h) _ fun y B3 H3 g3 hy => by
    obtain ⟨p, xs, e, hp, hd⟩ := hs.da (K := X.K) (hy.mono g3.u)
    have e4 := hd.ints
    subst e4
    refine ⟨p, _, e, hp, by rw [hx.intE]; rfl, flat_ints ns, ?_⟩
    rw [hx.intE, inV_int]
    exact ⟨_, rfl, q H3 (g2.h.trans g3.h)⟩)
theorem t_notIn {ns : List Int} {D : PyData} (ha : Pe T X a σ H (.int i)) (hb : Pe T X b σ H D) (hs : SeqD D (ns.map .int) := by first | exact .lst _ | exact .tup _) (hm : behindInMarks .NotIn b = false := by with_unfolding_all rfl) : Pt T X (.Compare a [.NotIn] [b] pos) σ H (!decide (i ∈ ns)) :=
  fun H1 e1 Q q => PT.w (pt_cmpR op_notIn_seq pe_w pe_w hm) (ha H1 e1 _ fun x B2 H2 g2 hx => hb H2 (e1.trans g2.h) _ fun y B3 H3 g3 hy => by
    obtain ⟨p, xs, e, hp, hd⟩ := hs.da (K := X.K) (hy.mono g3.u)
    have e4 := hd.ints
    subst e4
    refine ⟨p, _, e, hp, by rw [hx.intE]; rfl, flat_ints ns, ?_⟩
    rw [hx.intE, inV_int]
    exact ⟨_, rfl, q H3 (g2.h.trans g3.h)⟩)

/-! == of data -/
theorem d_eqD (hr : Room k X.A) (ha : Pe T X a σ H da) (hb : Pe T X b σ H db) (h1 : SeqAt.shaped da = true) (h2 : SeqAt.shaped db = true) : Pe T X (.Compare a [.Eq] [b] pos) σ H (.bool (PyData.eqv da db)) :=
  fun H1 e1 Q q => PE.w (pe_cmpR (op_eqD hr.units) pe_w pe_w (nomark _)) (ha H1 e1 _ fun x B2 H2 g2 hx => hb H2 (e1.trans g2.h) _ fun y B3 H3 g3 hy => ⟨da, db, (hx.mono (g2.u.trans g3.h)).dp, (hy.mono g3.u).dp, h1, h2, q _ _ H3 (lim_go e1 (g2.h.trans g3.h)) (.bl _)⟩)
theorem d_neD (hr : Room k X.A) (ha : Pe T X a σ H da) (hb : Pe T X b σ H db) (h1 : SeqAt.shaped da = true) (h2 : SeqAt.shaped db = true) : Pe T X (.Compare a [.NotEq] [b] pos) σ H (.bool (!PyData.eqv da db)) :=
  fun H1 e1 Q q => PE.w (pe_cmpR (op_neD hr.units) pe_w pe_w (nomark _)) (ha H1 e1 _ fun x B2 H2 g2 hx => hb H2 (e1.trans g2.h) _ fun y B3 H3 g3 hy => ⟨da, db, (hx.mono (g2.u.trans g3.h)).dp, (hy.mono g3.u).dp, h1, h2, q _ _ H3 (lim_go e1 (g2.h.trans g3.h)) (.bl _)⟩)
theorem t_eqD (hr : Room k X.A) (ha : Pe T X a σ H da) (hb : Pe T X b σ H db) (h1 : SeqAt.shaped da = true) (h2 : SeqAt.shaped db = true) : Pt T X (.Compare a [.Eq] [b] pos) σ H (PyData.eqv da db) :=
  fun H1 e1 Q q => PT.w (pt_cmpR (op_eqD hr.units) pe_w pe_w (nomark _)) (ha H1 e1 _ fun x B2 H2 g2 hx => hb H2 (e1.trans g2.h) _ fun y B3 H3 g3 hy => ⟨da, db, (hx.mono (g2.u.trans g3.h)).dp, (hy.mono g3.u).dp, h1, h2, _, rfl, q H3 (g2.h.trans g3.h)⟩)
theorem t_neD (hr : Room k X.A) (ha : Pe T X a σ H da) (hb : Pe T X b σ H db) (h1 : SeqAt.shaped da = true) (h2 : SeqAt.shaped db = true) : Pt T X (.Compare a [.NotEq] [b] pos) σ H (!PyData.eqv da db) :=
  fun H1 e1 Q q => PT.w (pt_cmpR (op_neD hr.units) pe_w pe_w (nomark _)) (ha H1 e1 _ fun x B2 H2 g2 hx => hb H2 (e1.trans g2.h) _ fun y B3 H3 g3 hy => ⟨da, db, (hx.mono (g2.u.trans g3.h)).dp, (hy.mono g3.u).dp, h1, h2, _, rfl, q H3 (g2.h.trans g3.h)⟩)

/-! truth -/
theorem t_val {b : Bool} (h : Pe T X e σ H (.bool b)) (he : ∀ whole, isTrue e X.env whole = (do let v ← whole; standAt e.pos; holding [v] (truthy v)) := by intro _; rfl) : Pt T X e σ H b :=
  fun H1 e1 Q q => PT.w (pt_val pe_w he) (h H1 e1 _ fun v B2 H2 g2 hv => ⟨b, hv.blE, q H2 g2.h⟩)
theorem t_not {b : Bool} (h : Pt T X e σ H b) : Pt T X (.UnaryOp .Not e pos) σ H (!b) := fun H1 e1 Q q => PT.w (pt_not pt_w) (h H1 e1 _ fun H2 e2 => q H2 e2)
theorem w_and1 {b : Bool} (h : Pt T X e σ H b) : Pw T X (.BoolOp .And [e] pos) σ H b := fun H1 e1 Q q => PW.w (pw_and1 pt_w) (h H1 e1 _ q)
theorem w_or1 {b : Bool} (h : Pt T X e σ H b) : Pw T X (.BoolOp .Or [e] pos) σ H b := fun H1 e1 Q q => PW.w (pw_or1 pt_w) (h H1 e1 _ q)
theorem w_and {x y : Bool} (h1 : Pt T X a σ H x) (h2 : x = true → Pw T X (.BoolOp .And (b :: rest) pos) σ H y) : Pw T X (.BoolOp .And (a :: b :: rest) pos) σ H (x && y) :=
  fun H1 e1 Q q => PW.w (pw_and pt_w pw_w) (h1 H1 e1 _ fun H2 e2 => by
    cases x with
    | true => exact iteT (h2 rfl H2 (e1.trans e2) _ fun H3 e3 => q H3 (e2.trans e3))
    | false => exact iteF (q H2 e2))
theorem w_or {x y : Bool} (h1 : Pt T X a σ H x) (h2 : x = false → Pw T X (.BoolOp .Or (b :: rest) pos) σ H y) : Pw T X (.BoolOp .Or (a :: b :: rest) pos) σ H (x || y) :=
  fun H1 e1 Q q => PW.w (pw_or pt_w pw_w) (h1 H1 e1 _ fun H2 e2 => by
    cases x with
    | true => exact iteT (q H2 e2)
    | false => exact iteF (h2 rfl H2 (e1.trans e2) _ fun H3 e3 => q H3 (e2.trans e3)))
theorem t_w {b : Bool} (h : Pw T X e σ H b) : Pt T X e σ H b := fun H1 e1 Q q => (h H1 e1 Q q).wt
/-- as values -/
theorem d_one {op} (h : Pe T X a σ H d) : Pe T X (.BoolOp op [a] pos) σ H d := fun H1 e1 Q q => PE.w (pe_one pe_w) (h H1 e1 Q q)
theorem d_and {x y : Bool} (h1 : Pe T X a σ H (.bool x)) (h2 : x = true → Pe T X (.BoolOp .And (b :: rest) pos) σ H (.bool y)) : Pe T X (.BoolOp .And (a :: b :: rest) pos) σ H (.bool (x && y)) :=
  fun H1 e1 Q q => PE.w (pe_and pe_w pe_w) (h1 H1 e1 _ fun v B2 H2 g2 hv => ⟨x, hv.blE, by
    cases x with
    | true => exact iteT (h2 rfl H2 (e1.trans g2.h) _ fun v B3 H3 g3 hv => by rw [hv.blE]; exact q _ _ H3 (lim_go e1 (g2.h.trans g3.h)) (.bl _))
    | false => exact iteF (q _ _ H2 (lim_go e1 g2.h) (.bl _))⟩)
theorem d_or {x y : Bool} (h1 : Pe T X a σ H (.bool x)) (h2 : x = false → Pe T X (.BoolOp .Or (b :: rest) pos) σ H (.bool y)) : Pe T X (.BoolOp .Or (a :: b :: rest) pos) σ H (.bool (x || y)) :=
  fun H1 e1 Q q => PE.w (pe_or pe_w pe_w) (h1 H1 e1 _ fun v B2 H2 g2 hv => ⟨x, hv.blE, by
    cases x with
    | true => exact iteT (q _ _ H2 (lim_go e1 g2.h) (.bl _))
    | false => exact iteF (h2 rfl H2 (e1.trans g2.h) _ fun v B3 H3 g3 hv => by rw [hv.blE]; exact q _ _ H3 (lim_go e1 (g2.h.trans g3.h)) (.bl _))⟩)
theorem d_not {x : Bool} (h1 : Pe T X a σ H (.bool x)) : Pe T X (.UnaryOp .Not a pos) σ H (.bool (!x)) :=
  fun H1 e1 Q q => PE.w (pe_not pe_w) (h1 H1 e1 _ fun v B2 H2 g2 hv => ⟨x, hv.blE, q _ _ H2 (lim_go e1 g2.h) (.bl _)⟩)
theorem d_ifExp {x : Bool} (h : Pt T X c σ H x) (h1 : x = true → Pe T X a σ H d) (h2 : x = false → Pe T X b σ H d) : Pe T X (.IfExp c a b pos) σ H d :=
  fun H1 e1 Q q => PE.w (pe_ifExp pt_w pe_w pe_w) (h H1 e1 _ fun H2 e2 => by
    cases x with
    | true => exact iteT (h1 rfl H2 (e1.trans e2) _ fun v B3 H3 g3 hv => q v B3 H3 (g3.onto e1 e2) hv)
    | false => exact iteF (h2 rfl H2 (e1.trans e2) _ fun v B3 H3 g3 hv => q v B3 H3 (g3.onto e1 e2) hv))

/-! lists of arguments, displays -/
theorem a_nil : Pa T X [] σ H [] := fun H1 e1 Q q => PA.w pa_nil (q [] _ H1 (lim_go e1 e1.self) .nil)
theorem a_cons (h : Pe T X e σ H d) (hr : Pa T X es σ H ds) (hs : starEach (e :: es) X.env = (false, eval e X.env) :: starEach es X.env := by rfl) : Pa T X (e :: es) σ H (d :: ds) :=
  fun H1 e1 Q q => PA.w (pa_cons pe_w pa_w hs) (h H1 e1 _ fun v B2 H2 g2 hv => hr H2 (e1.trans g2.h) _ fun vs B3 H3 g3 hvs => by
    obtain ⟨B4, g4, x2, x3⟩ := Go.join e1 g2 g3
    exact q _ _ H3 g4 (.cons (hv.mono x2) (hvs.mono x3)))
theorem a_star {D : PyData} {ds1 : List PyData} {sp : Pos} (h : Pe T X e σ H D) (hr : Pa T X es σ H ds) (sd : SeqD D ds1 := by first | exact .lst _ | exact .tup _) (hs : starEach (.Starred e sp :: es) X.env = (true, eval e X.env) :: starEach es X.env := by rfl) : Pa T X (.Starred e sp :: es) σ H (ds1 ++ ds) :=
  fun H1 e1 Q q => PA.w (StX.pa_star pe_w pa_w hs) (h H1 e1 _ fun v B2 H2 g2 hv => by
    obtain ⟨p, xs, ev, hp, hd⟩ := sd.da (K := X.K) hv
    refine ⟨p, xs, ev, (hp.symm.imp (ex_t g2.u) (ex_l g2.u)), hr H2 (e1.trans g2.h) _ fun vs B3 H3 g3 hvs => ?_⟩
    obtain ⟨B4, g4, x2, x3⟩ := Go.join e1 g2 g3
    exact q _ _ H3 g4 ((hd.mono x2).append (hvs.mono x3)))
theorem d_tup {n : Nat} (h : Pa T X es σ H ds) (hl : ds.length ≤ 100000) : Pe T X (.Tuple es n pos) σ H (.tuple ds) :=
  fun H1 e1 Q q => PE.w (pe_tup pa_w) (h H1 e1 _ fun vs B2 H2 g2 hv => ⟨Nat.le_trans (Nat.le_of_eq hv.length) (Nat.le_trans hl (by decide)), fun r hr => q _ _ _ (g2.new hr) (.tup upd_same (hv.mono (.newB g2.u g2.b.tabs hr)))⟩)
theorem d_lst (h : Pa T X es σ H ds) (hl : ds.length ≤ 100000) : Pe T X (.List es pos) σ H (.list ds) :=
  fun H1 e1 Q q => PE.w (pe_lst pa_w) (h H1 e1 _ fun vs B2 H2 g2 hv => ⟨Nat.le_trans (Nat.le_of_eq hv.length) (Nat.le_trans hl (by decide)), fun r hr => q _ _ _ (g2.new hr) (.lst upd_same (hv.mono (.newB g2.u g2.b.tabs hr)))⟩)

/-! calls -/
theorem d_call {P : List PyData → PyData → Prop} {x : Str} {n : Nat} (D : DefOk T X.prog X.w X.K X.mg X.base x n P) (hr : Room k X.A) (ha : Pa T X (e :: es) σ H ds) (hR : P ds d) (hk : n ≤ k := by decide) (hg : Gl X x := by rfl)
    (hdb : (x == ("__debug__" : Str)) = false := by decide) (he : starEach (e :: es) X.env = (false, eval e X.env) :: starEach es X.env := by rfl) (hpl : (backTo pos (starEach es X.env)).any (·.1) = false := by rfl) : Pe T X (.Call (.Name x p) (e :: es) [] pos) σ H d := fun H1 e1 Q q => by
  obtain ⟨f, fd, ps, F, hm, kp, hb⟩ := D.ok
  refine PE.w (pe_call F (hr.mono hk) hg hm kp hb .nil pass0 pa_w hdb he hpl) (ha H1 e1 _ fun vs B2 H2 g2 hv => ⟨B2, ds, d, g2.u, ?_, hR, fun v B' H' g3 hd => q v B' H' (g2.trans g3) hd⟩)
  rw [List.append_nil]
  exact hv
theorem d_callB {id : String} {x : Str} {r : List V → Hp → VK → Prop} (hc : CallR X (.builtin id) r) (hm : X.mg x = none) (hv : bootBuiltins x = some (.builtin id)) (ha : Pa T X (e :: es) σ H ds)
    (hq : ∀ vs B H1, Xt T B H1 → LamX.Tabs T B → DaAll B vs ds → ∀ Q : VK, (∀ v B2 H2, Go T B H1 B2 H2 → Da B2 v d → Q v H2) → r vs H1 Q) (hg : Gl X x := by rfl) (hn : x ≠ "__name__" := by decide) (hdb : (x == ("__debug__" : Str)) = false := by decide)
    (he : starEach (e :: es) X.env = (false, eval e X.env) :: starEach es X.env := by rfl) (hpl : (backTo pos (starEach es X.env)).any (·.1) = false := by rfl) : Pe T X (.Call (.Name x p) (e :: es) [] pos) σ H d :=
  fun H1 e1 Q q => PE.w (pe_callB hc hg hm hv pa_w hn hdb he hpl) (ha H1 e1 _ fun vs B2 H2 g2 hvs => hq vs B2 H2 g2.u g2.b.tabs hvs Q fun v B3 H3 g3 hd => q v B3 H3 (g2.trans g3) hd)
theorem d_callTy {id : String} {x : Str} {r : List V → Hp → VK → Prop} (hc : CallR X (.type id) r) (hm : X.mg x = none) (hv : bootBuiltins x = some (.type id)) (ha : Pa T X (e :: es) σ H ds)
    (hq : ∀ vs B H1, Xt T B H1 → LamX.Tabs T B → DaAll B vs ds → ∀ Q : VK, (∀ v B2 H2, Go T B H1 B2 H2 → Da B2 v d → Q v H2) → r vs H1 Q) (hg : Gl X x := by rfl) (hn : x ≠ "__name__" := by decide) (hdb : (x == ("__debug__" : Str)) = false := by decide)
    (he : starEach (e :: es) X.env = (false, eval e X.env) :: starEach es X.env := by rfl) (hpl : (backTo pos (starEach es X.env)).any (·.1) = false := by rfl) : Pe T X (.Call (.Name x p) (e :: es) [] pos) σ H d :=
  fun H1 e1 Q q => PE.w (pe_callTy hc hg hm hv pa_w hn hdb he hpl) (ha H1 e1 _ fun vs B2 H2 g2 hvs => hq vs B2 H2 g2.u g2.b.tabs hvs Q fun v B3 H3 g3 hd => q v B3 H3 (g2.trans g3) hd)
theorem d_len {D : PyData} (hm : X.mg "len" = none) (ha : Pe T X a σ H D) (sd : SeqD D ds := by first | exact .lst _ | exact .tup _) (hg : Gl X "len" := by rfl) (he : starEach [a] X.env = (false, eval a X.env) :: starEach [] X.env := by rfl) (hpl : (backTo pos (starEach [] X.env)).any (·.1) = false := by rfl) :
    Pe T X (.Call (.Name "len" p) [a] [] pos) σ H (.int ds.length) :=
  d_callB call_len_seq hm PySem.boot_len (a_cons ha a_nil he) (fun vs B1 H1 e1 tb hv Q q => by
    obtain ⟨v, ev, hv'⟩ := hv.one
    subst ev
    obtain ⟨r, xs, rfl, hp, hd⟩ := sd.da (K := X.K) (hv'.mono e1)
    refine ⟨r, xs, rfl, hp, ?_⟩
    rw [hd.length]
    exact q _ _ H1 (.refl e1 tb) (.int _)) hg (he := he) (hpl := hpl)
theorem d_all {bs : List Bool} (hm : X.mg "all" = none) (ha : Pe T X a σ H (.list (bs.map .bool))) (hc : X.calm = true := by rfl) (hg : Gl X "all" := by rfl) (he : starEach [a] X.env = (false, eval a X.env) :: starEach [] X.env := by rfl) (hpl : (backTo pos (starEach [] X.env)).any (·.1) = false := by rfl) :
    Pe T X (.Call (.Name "all" p) [a] [] pos) σ H (.bool (bs.all id)) :=
  d_callB (cr_all hc) hm (by decide +kernel) (a_cons ha a_nil he) (fun vs B1 H1 e1 tb hv Q q => by
    obtain ⟨v, ev, hv'⟩ := hv.one
    subst ev
    obtain ⟨r, xs, rfl, hp, hd⟩ := (hv'.mono e1).lstE
    have e4 := hd.bools
    subst e4
    exact ⟨r, bs, rfl, .of hp, q _ _ H1 (.refl e1 tb) (.bl _)⟩) hg (he := he) (hpl := hpl)
theorem d_any {bs : List Bool} (hm : X.mg "any" = none) (ha : Pe T X a σ H (.list (bs.map .bool))) (hc : X.calm = true := by rfl) (hg : Gl X "any" := by rfl) (he : starEach [a] X.env = (false, eval a X.env) :: starEach [] X.env := by rfl) (hpl : (backTo pos (starEach [] X.env)).any (·.1) = false := by rfl) :
    Pe T X (.Call (.Name "any" p) [a] [] pos) σ H (.bool (bs.any id)) :=
  d_callB (cr_any hc) hm (by decide +kernel) (a_cons ha a_nil he) (fun vs B1 H1 e1 tb hv Q q => by
    obtain ⟨v, ev, hv'⟩ := hv.one
    subst ev
    obtain ⟨r, xs, rfl, hp, hd⟩ := (hv'.mono e1).lstE
    have e4 := hd.bools
    subst e4
    exact ⟨r, bs, rfl, .of hp, q _ _ H1 (.refl e1 tb) (.bl _)⟩) hg (he := he) (hpl := hpl)
/-- the least of a list -/
def lmin : List Int → Int
  | [] => 0
  | [x] => x
  | x :: y :: r => min x (lmin (y :: r))
theorem lmin_mem : ∀ {l : List Int}, l ≠ [] → lmin l ∈ l
  | [], h => absurd rfl h
  | [x], _ => by simp [lmin]
  | x :: y :: r, _ => by
    have ih := lmin_mem (l := y :: r) (by simp)
    unfold lmin
    rcases Int.le_total x (lmin (y :: r)) with h | h
    · rw [Int.min_eq_left h]; exact List.mem_cons_self
    · rw [Int.min_eq_right h]; exact List.mem_cons_of_mem _ ih
theorem lmin_le : ∀ {l : List Int} {y : Int}, y ∈ l → lmin l ≤ y
  | [], _, h => by simp at h
  | [x], y, h => by
    have e : y = x := by simpa using h
    subst e
    exact Int.le_refl _
  | x :: z :: r, y, h => by
    unfold lmin
    obtain e | h := List.mem_cons.mp h
    · subst e; exact Int.min_le_left _ _
    · exact Int.le_trans (Int.min_le_right _ _) (lmin_le h)
theorem lmin_eq {l : List Int} {m : Int} (h : m ∈ l) (hl : ∀ y ∈ l, m ≤ y) : m = lmin l :=
  Int.le_antisymm (hl _ (lmin_mem (by intro e; rw [e] at h; cases h))) (lmin_le h)
theorem d_min {ns : List Int} (hm : X.mg "min" = none) (ha : Pe T X a σ H (.list (ns.map .int))) (hne : ns ≠ []) (hc : X.calm = true := by rfl) (hg : Gl X "min" := by rfl) (he : starEach [a] X.env = (false, eval a X.env) :: starEach [] X.env := by rfl) (hpl : (backTo pos (starEach [] X.env)).any (·.1) = false := by rfl) :
    Pe T X (.Call (.Name "min" p) [a] [] pos) σ H (.int (lmin ns)) :=
  d_callB (cr_min hc) hm (by decide +kernel) (a_cons ha a_nil he) (fun vs B1 H1 e1 tb hv Q q => by
    obtain ⟨v, ev, hv'⟩ := hv.one
    subst ev
    obtain ⟨r, xs, rfl, hp, hd⟩ := (hv'.mono e1).lstE
    have e4 := hd.ints
    subst e4
    refine ⟨r, ns, rfl, .of hp, List.length_pos_iff.mpr hne, fun m h1 h2 => ?_⟩
    rw [lmin_eq h1 h2]
    exact q _ _ H1 (.refl e1 tb) (.int _)) hg (he := he) (hpl := hpl)
theorem d_tuple (hm : X.mg "tuple" = none) (ha : Pe T X a σ H (.list ds)) (hg : Gl X "tuple" := by rfl) (he : starEach [a] X.env = (false, eval a X.env) :: starEach [] X.env := by rfl) (hpl : (backTo pos (starEach [] X.env)).any (·.1) = false := by rfl) :
    Pe T X (.Call (.Name "tuple" p) [a] [] pos) σ H (.tuple ds) :=
  d_callTy call_tuple_of hm (by decide +kernel) (a_cons ha a_nil he) (fun vs B1 H1 e1 tb hv Q q => by
    obtain ⟨v, ev, hv'⟩ := hv.one
    subst ev
    obtain ⟨r, xs, rfl, hp, hd⟩ := hv'.lstE
    exact ⟨r, xs, rfl, .inl ⟨.of (e1.lstAt hp), fun l hl => q _ _ _ (.new (.refl e1 tb) hl) (.tup upd_same (hd.mono (.newB e1 tb hl)))⟩⟩) hg (he := he) (hpl := hpl)
theorem d_list {D : PyData} (hm : X.mg "list" = none) (ha : Pe T X a σ H D) (sd : SeqD D ds := by first | exact .lst _ | exact .tup _) (hg : Gl X "list" := by rfl) (he : starEach [a] X.env = (false, eval a X.env) :: starEach [] X.env := by rfl) (hpl : (backTo pos (starEach [] X.env)).any (·.1) = false := by rfl) :
    Pe T X (.Call (.Name "list" p) [a] [] pos) σ H (.list ds) :=
  d_callTy call_list_of hm (by decide +kernel) (a_cons ha a_nil he) (fun vs B1 H1 e1 tb hv Q q => by
    obtain ⟨v, ev, hv'⟩ := hv.one
    subst ev
    obtain ⟨r, xs, rfl, hp, hd⟩ := sd.da (K := X.K) hv'
    exact ⟨r, xs, rfl, hp.imp (ex_l e1) (ex_t e1), fun l hl => q _ _ _ (.new (.refl e1 tb) hl) (.lst upd_same (hd.mono (.newB e1 tb hl)))⟩) hg (he := he) (hpl := hpl)

/-! items, slices, sums of lists and tuples -/
theorem ixN_data {xs : List V} {ds : List PyData} {H : Hp} (h : DaAll H xs ds) {z : Int} {d : PyData} (e : atI ds z = some d) : ∃ v, atI xs z = some v ∧ Da H v d := by
  unfold atI at e ⊢
  rw [h.length]
  cases q : ixN ds.length z with
  | none => (rw [q] at e; cases e)
  | some j =>
    rw [q] at e
    exact h.get e
theorem d_ixT {z : Int} (ha : Pe T X a σ H (.tuple ds)) (hb : Pe T X b σ H (.int z)) (hz : atI ds z = some d) (hp : PlainIx b := by exact fun _ _ => rfl) : Pe T X (.Subscript a b pos) σ H d :=
  fun H1 e1 Q q => PE.w (pe_ix ix_tup pe_w pe_w hp) (ha H1 e1 _ fun x B2 H2 g2 hx => hb H2 (e1.trans g2.h) _ fun y B3 H3 g3 hy => by
    obtain ⟨B4, g4, x2, x3⟩ := Go.join e1 g2 g3
    obtain ⟨r, xs, ex, h1, h2⟩ := (hx.mono x2).tupE
    obtain ⟨v, h3, h4⟩ := ixN_data h2 hz
    exact ⟨r, xs, z, v, ex, hy.intE, .of (g4.u.tupAt h1), h3, q v _ H3 g4 h4⟩)
theorem d_ixL {z : Int} (ha : Pe T X a σ H (.list ds)) (hb : Pe T X b σ H (.int z)) (hz : atI ds z = some d) (hp : PlainIx b := by exact fun _ _ => rfl) : Pe T X (.Subscript a b pos) σ H d :=
  fun H1 e1 Q q => PE.w (pe_ix ix_list pe_w pe_w hp) (ha H1 e1 _ fun x B2 H2 g2 hx => hb H2 (e1.trans g2.h) _ fun y B3 H3 g3 hy => by
    obtain ⟨B4, g4, x2, x3⟩ := Go.join e1 g2 g3
    obtain ⟨r, xs, ex, h1, h2⟩ := (hx.mono x2).lstE
    obtain ⟨v, h3, h4⟩ := ixN_data h2 hz
    exact ⟨r, xs, z, v, ex, hy.intE, .of (g4.u.lstAt h1), h3, q v _ H3 g4 h4⟩)
theorem d_rev {n : Nat} {p1 p2 p3 : Pos} (ha : Pe T X a σ H (.list ds)) : Pe T X (.Subscript a (.Slice none none (some (.UnaryOp .USub (.Constant (.int 1) n p1) p2)) p3) pos) σ H (.list ds.reverse) :=
  fun H1 e1 Q q => PE.w (pe_revL pe_w) (ha H1 e1 _ fun x B2 H2 g2 hx => by
    obtain ⟨r, xs, ex, h1, h2⟩ := hx.lstE
    exact ⟨r, xs, ex, .of (g2.u.lstAt h1), fun p hp => q _ _ _ (g2.new hp) (.lst upd_same (h2.reverse.mono (.newB g2.u g2.b.tabs hp)))⟩)
theorem d_catL {ds1 ds2 : List PyData} (ha : Pe T X a σ H (.list ds1)) (hb : Pe T X b σ H (.list ds2)) (hl : ds1.length + ds2.length ≤ 100000) : Pe T X (.BinOp a .Add b pos) σ H (.list (ds1 ++ ds2)) :=
  fun H1 e1 Q q => PE.w (pe_op op_cat pe_w pe_w) (ha H1 e1 _ fun x B2 H2 g2 hx => hb H2 (e1.trans g2.h) _ fun y B3 H3 g3 hy => by
    obtain ⟨B4, g4, x2, x3⟩ := Go.join e1 g2 g3
    obtain ⟨r, xs, ex, h1, h2⟩ := (hx.mono x2).lstE
    obtain ⟨r', ys, ey, h3, h4⟩ := (hy.mono x3).lstE
    refine ⟨r, r', xs, ys, ex, ey, g4.u.lstAt h1, g4.u.lstAt h3, ?_, fun p hp => q _ _ _ (g4.new hp) (.lst upd_same ((h2.append h4).mono (.newB g4.u g4.b.tabs hp)))⟩
    rw [h2.length, h4.length]
    exact Nat.le_trans hl (by decide))
theorem d_catT {ds1 ds2 : List PyData} (ha : Pe T X a σ H (.tuple ds1)) (hb : Pe T X b σ H (.tuple ds2)) (hl : ds1.length + ds2.length ≤ 100000) : Pe T X (.BinOp a .Add b pos) σ H (.tuple (ds1 ++ ds2)) :=
  fun H1 e1 Q q => PE.w (pe_op op_catA pe_w pe_w) (ha H1 e1 _ fun x B2 H2 g2 hx => hb H2 (e1.trans g2.h) _ fun y B3 H3 g3 hy => by
    obtain ⟨B4, g4, x2, x3⟩ := Go.join e1 g2 g3
    obtain ⟨r, xs, ex, h1, h2⟩ := (hx.mono x2).tupE
    obtain ⟨r', ys, ey, h3, h4⟩ := (hy.mono x3).tupE
    refine ⟨r, r', xs, ys, ex, ey, .of (g4.u.tupAt h1), .of (g4.u.tupAt h3), ?_, fun z => ?_, fun _ z => ?_, fun _ _ p hp => q _ _ _ (g4.new hp) (.tup upd_same ((h2.append h4).mono (.newB g4.u g4.b.tabs hp)))⟩
    · rw [h2.length, h4.length]
      exact Nat.le_trans hl (by decide)
    · have e : ds1 = [] := by
        have := h2.length
        rw [z] at this
        exact List.length_eq_zero_iff.mp this.symm
      subst e
      exact q _ _ H3 g4 (.tup h3 h4)
    · have e : ds2 = [] := by
        have := h4.length
        rw [z] at this
        exact List.length_eq_zero_iff.mp this.symm
      subst e
      refine q _ _ H3 g4 ?_
      rw [List.append_nil]
      exact .tup h1 h2)
end
end DW

/-! what is walked; comprehensions; statements -/
namespace DW
open PySem PySem.Spec PyProof.Rows L2 RZ

/-- 0, 1, .. below n; lo, lo + 1, .. below hi -/
def irange (n : Int) : List Int := (List.range n.toNat).map fun i : Nat => (i : Int)
def irange2 (lo hi : Int) : List Int := (List.range (hi - lo).toNat).map fun i : Nat => lo + (i : Int)
theorem irange_len (n : Int) : (irange n).length = n.toNat := by simp [irange]
theorem irange2_len (lo hi : Int) : (irange2 lo hi).length = (hi - lo).toNat := by simp [irange2]
theorem irange_get {n : Int} {i : Nat} (h : i < n.toNat) : (irange n)[i]? = some (i : Int) := by simp [irange, h]
theorem irange2_get {lo hi : Int} {i : Nat} (h : i < (hi - lo).toNat) : (irange2 lo hi)[i]? = some (lo + (i : Int)) := by simp [irange2, h]
theorem mem_irange {n x : Int} : x ∈ irange n ↔ 0 ≤ x ∧ x < n := by
  unfold irange
  rw [List.mem_map]
  constructor
  · rintro ⟨i, h, rfl⟩
    have := List.mem_range.mp h
    omega
  · rintro ⟨h1, h2⟩
    exact ⟨x.toNat, List.mem_range.mpr (by omega), by omega⟩

theorem wipe_comm {σ : L2.St} {i : Nat} {x : Option V} : ∀ {vs : List Nat}, i ∉ vs → wipe (σ.set i x) vs = (wipe σ vs).set i x
  | [], _ => rfl
  | v :: vs, h => by
    have h1 : i ≠ v := fun e => h (e ▸ List.mem_cons_self)
    have h2 : i ∉ vs := fun e => h (List.mem_cons_of_mem _ e)
    unfold wipe
    rw [wipe_comm h2, List.set_comm _ _ h1]
theorem wipe_set {σ : L2.St} {i : Nat} {x : Option V} : ∀ {vs : List Nat}, i ∈ vs → wipe (σ.set i x) vs = wipe σ vs
  | [], h => by cases h
  | v :: vs, h => by
    by_cases hv : i ∈ vs
    · unfold wipe
      rw [wipe_set hv]
    · have e : i = v := (List.mem_cons.mp h).resolve_right hv
      subst e
      unfold wipe
      rw [wipe_comm hv, List.set_set]
theorem wipe_wipe {σ : L2.St} : ∀ {vs ws : List Nat}, (∀ v ∈ vs, v ∈ ws) → wipe (wipe σ vs) ws = wipe σ ws
  | [], _, _ => rfl
  | v :: vs, ws, h => by
    show wipe ((wipe σ vs).set v none) ws = wipe σ ws
    rw [wipe_set (h v List.mem_cons_self), wipe_wipe fun u hu => h u (List.mem_cons_of_mem _ hu)]
theorem walk_zipT {K : PySem.W.Frag} {p q : Addr} {us ws : List V} {m : Nat} (hm : m = min us.length ws.length) : Walk (ItzT K p q) m (fun H => SqT K H p us ∧ SqT K H q ws) (YPair (fun i => us[i]?) (fun i => ws[i]?)) := by
  subst hm
  refine ⟨fun j _ lt both => ?_, fun _ both => ⟨us, ws, both.1, both.2, by omega⟩, fun j G v G' _ both yl => ?_⟩
  · have ju : j < us.length := Nat.lt_of_lt_of_le lt (Nat.min_le_left _ _)
    have jw : j < ws.length := Nat.lt_of_lt_of_le lt (Nat.min_le_right _ _)
    exact ⟨us, ws, us[j], ws[j], both.1, both.2, by simp [ju], by simp [jw]⟩
  · obtain ⟨t, u, z, k1, k2, k3, k4, k5⟩ := yl
    exact ⟨t, u, z, k1, k2, k3, k4 us both.1, k5 ws both.2⟩

section
variable {T : List (Addr × Str)} {X : Cx} {σ : L2.St} {H : Hp} {a b c e tg iter elt : Expr} {es rest : List Expr} {d da db dc : PyData} {ds : List PyData} {pos p apos : Pos} {i j : Int} {k : Nat}
theorem src_list (h : Pe T X iter σ H (.list ds)) : Src T X tg iter σ H ds := fun H1 e1 R q => PI.w (pi_list pe_w) (h H1 e1 _ fun v B2 H2 g2 hv => by
  obtain ⟨a, xs, rfl, ha, hd⟩ := hv.lstE
  exact ⟨a, rfl, ⟨xs, .of (g2.u.lstAt ha)⟩, q (Itl X.K a) B2 H2 (fun H => SqL X.K H a xs) (YAt xs) g2 (hd.length ▸ walk_list) (fun H3 e3 => .of (e3.lstAt ha)) fun i B3 H3 v H4 _ b3 u3 y => by
    obtain ⟨rfl, hx⟩ := y
    obtain ⟨d, h1, h2⟩ := hd.getV hx
    exact ⟨B3, d, .refl u3 b3.tabs, h1, h2.mono b3⟩⟩)
theorem src_tup (h : Pe T X iter σ H (.tuple ds)) : Src T X tg iter σ H ds := fun H1 e1 R q => PI.w (pi_tup pe_w) (h H1 e1 _ fun v B2 H2 g2 hv => by
  obtain ⟨a, xs, rfl, ha, hd⟩ := hv.tupE
  exact ⟨a, rfl, ⟨xs, .of (g2.u.tupAt ha)⟩, q (Itt X.K a) B2 H2 (fun H => SqT X.K H a xs) (YAt xs) g2 (hd.length ▸ walk_tup) (fun H3 e3 => .of (e3.tupAt ha)) fun i B3 H3 v H4 _ b3 u3 y => by
    obtain ⟨rfl, hx⟩ := y
    obtain ⟨d, h1, h2⟩ := hd.getV hx
    exact ⟨B3, d, .refl u3 b3.tabs, h1, h2.mono b3⟩⟩)
theorem src_range (hm : X.mg "range" = none) (h : Pe T X a σ H (.int i)) (h1 : -(2 ^ 62) ≤ i) (h2 : i < 2 ^ 62) (hg : Gl X "range" := by rfl) (hs : starEach [a] X.env = [(false, eval a X.env)] := by rfl) (hs0 : starEach [] X.env = [] := by rfl) : Src T X tg (.Call (.Name "range" p) [a] [] pos) σ H ((irange i).map .int) :=
  fun H1 e1 R q => PI.w (pi_range1 hg hm pa_w hs) ((a_cons h a_nil (by rw [hs, hs0])) H1 e1 _ fun vs B2 H2 g2 hvs => by
    obtain ⟨v, rfl, hv⟩ := hvs.one
    refine ⟨i, by rw [hv.intE], h1, h2, q (Itr 0 i.toNat) B2 H2 (fun _ => True) (YFn fun i => .int (0 + i)) g2 ?_ (fun _ _ => True.intro) fun n B3 H3 v H4 hn b3 u3 y => ?_⟩
    · rw [List.length_map, irange_len]
      exact walk_range
    · obtain ⟨rfl, rfl⟩ := y
      rw [List.length_map, irange_len] at hn
      refine ⟨B3, .int n, .refl u3 b3.tabs, ?_, ?_⟩
      · rw [List.getElem?_map, irange_get hn]
        rfl
      · show Da B3 (.int (0 + (n : Int))) (.int n)
        rw [Int.zero_add]
        exact .int _)
theorem src_range2 (hm : X.mg "range" = none) (h : Pe T X a σ H (.int i)) (h' : Pe T X b σ H (.int j)) (h1 : -(2 ^ 62) ≤ i ∧ i < 2 ^ 62 ∧ -(2 ^ 62) ≤ j ∧ j < 2 ^ 62) (hg : Gl X "range" := by rfl)
    (hs : starEach [a, b] X.env = [(false, eval a X.env), (false, eval b X.env)] := by rfl) (hs2 : starEach [b] X.env = [(false, eval b X.env)] := by rfl) (hs0 : starEach [] X.env = [] := by rfl) : Src T X tg (.Call (.Name "range" p) [a, b] [] pos) σ H ((irange2 i j).map .int) :=
  fun H1 e1 R q => PI.w (pi_range2 hg hm pa_w hs hs2) ((a_cons h (a_cons h' a_nil (by rw [hs2, hs0])) (by rw [hs, hs2])) H1 e1 _ fun vs B2 H2 g2 hvs => by
    obtain ⟨v, vs', rfl, hv, hvs'⟩ := hvs.consE
    obtain ⟨v', rfl, hv'⟩ := hvs'.one
    refine ⟨i, j, by rw [hv.intE, hv'.intE], h1, q (Itr i (j - i).toNat) B2 H2 (fun _ => True) (YFn fun n => .int (i + n)) g2 ?_ (fun _ _ => True.intro) fun n B3 H3 v H4 hn b3 u3 y => ?_⟩
    · rw [List.length_map, irange2_len]
      exact walk_range
    · obtain ⟨rfl, rfl⟩ := y
      rw [List.length_map, irange2_len] at hn
      refine ⟨B3, .int (i + n), .refl u3 b3.tabs, ?_, .int _⟩
      rw [List.getElem?_map, irange2_get hn]
      rfl)
/-- zip of two tuples, to a written tuple -/
theorem src_zip {elts : List Expr} {kk : Nat} {tpos : Pos} {ds1 ds2 : List PyData} (hm : X.mg "zip" = none) (h : Pe T X a σ H (.tuple ds1)) (h' : Pe T X b σ H (.tuple ds2)) (hg : Gl X "zip" := by rfl)
    (hs : starEach [a, b] X.env = (false, eval a X.env) :: starEach [b] X.env := by rfl) (hs2 : starEach [b] X.env = (false, eval b X.env) :: starEach [] X.env := by rfl) (hpl : (backTo pos (starEach [b] X.env)).any (·.1) = false := by rfl) :
    Src T X (.Tuple elts kk tpos) (.Call (.Name "zip" p) [a, b] [] pos) σ H (List.zipWith (fun d e => .tuple [d, e]) ds1 ds2) :=
  fun H1 e1 R q => PI.w (pi_zipA hg hm pa_w hs hpl) ((a_cons h (a_cons h' a_nil hs2) hs) H1 e1 _ fun vs B2 H2 g2 hvs => by
    obtain ⟨v, vs', rfl, hv, hvs'⟩ := hvs.consE
    obtain ⟨v', rfl, hv'⟩ := hvs'.one
    obtain ⟨x, xs, rfl, hx, hxd⟩ := hv.tupE
    obtain ⟨y, ys, rfl, hy, hyd⟩ := hv'.tupE
    refine ⟨x, y, xs, ys, rfl, .inr ⟨.of (g2.u.tupAt hx), .of (g2.u.tupAt hy), q (ItzT X.K x y) B2 H2 (fun H => SqT X.K H x xs ∧ SqT X.K H y ys) _ g2 (walk_zipT ?_) (fun H3 e3 => ⟨.of (e3.tupAt hx), .of (e3.tupAt hy)⟩) fun n B3 H3 v H4 hn b3 u3 yy => ?_⟩⟩
    · rw [List.length_zipWith, hxd.length, hyd.length]
    · obtain ⟨t, v1, v2, rfl, nt, rfl, g1, g2⟩ := yy
      obtain ⟨d1, k1, k2⟩ := hxd.getV g1
      obtain ⟨d2, k3, k4⟩ := hyd.getV g2
      have gn := (Go.refl u3 b3.tabs).new (o := .tup [v1, v2]) nt
      refine ⟨_, .tuple [d1, d2], gn, ?_, .tup upd_same (.cons ((k2.mono b3).mono gn.b) (.cons ((k4.mono b3).mono gn.b) .nil))⟩
      rw [List.getElem?_zipWith, k1, k3])

/-! ### comprehensions -/
theorem take_snoc {α : Type} {l : List α} {i : Nat} {x : α} (h : l[i]? = some x) : l.take (i + 1) = l.take i ++ [x] := by
  rw [List.take_add_one, h]
  rfl
abbrev gB (X : Cx) (scope : Scope) (tg : Expr) : TG := fun v σ H Q => ∀ (s : Shared) (H0 : Hp) (C : Addr) (cl : List (Str × Addr)) (fp : List Addr), WG (X.blk s H0 scope (compEnvC scope cl C X.env) fp) tg v σ H Q
abbrev tB' (X : Cx) (scope : Scope) (ifs : List Expr) : TT := fun σ H Q => ∀ (s : Shared) (H0 : Hp) (C : Addr) (cl : List (Str × Addr)) (fp : List Addr), WTs (X.blk s H0 scope (compEnvC scope cl C X.env) fp) ifs σ H Q
abbrev eB (X : Cx) (scope : Scope) (elt : Expr) : TE := fun σ H Q => ∀ (s : Shared) (H0 : Hp) (C : Addr) (cl : List (Str × Addr)) (fp : List Addr), WE (X.blk s H0 scope (compEnvC scope cl C X.env) fp) elt σ H Q
/-- what a comprehension asks -/
def Lc (T : List (Addr × Str)) (X : Cx) (tg iter : Expr) (ifs : List Expr) (elt : Expr) (scope : Scope) (own : List (Str × Nat)) (σ : L2.St) (B : Hp) (d : PyData) : Prop := ∀ H1, Xt T B H1 → ∀ Q : VK, (∀ v B2 H2, Go T B H1 B2 H2 → Da B2 v d → Q v H2) →
  tLc (WI X tg iter) (gB X scope tg) (tB' X scope ifs) (eB X scope elt) (own.map (·.2)) σ H1 Q
theorem pg_gB {scope : Scope} (s : Shared) (H0 : Hp) (C : Addr) (cl : List (Str × Addr)) (fp : List Addr) : PG (X.blk s H0 scope (compEnvC scope cl C X.env) fp) tg (gB X scope tg) := ⟨fun pins s1 σ' H' v u Q' I r h => (h s H0 C cl fp).run pins s1 u I r⟩
theorem pts_tB {scope : Scope} {ifs : List Expr} (s : Shared) (H0 : Hp) (C : Addr) (cl : List (Str × Addr)) (fp : List Addr) : PTs (X.blk s H0 scope (compEnvC scope cl C X.env) fp) ifs (tB' X scope ifs) := ⟨fun pins s1 σ' H' Q' I h => (h s H0 C cl fp).run pins s1 I⟩
theorem pe_eB {scope : Scope} (s : Shared) (H0 : Hp) (C : Addr) (cl : List (Str × Addr)) (fp : List Addr) : PE (X.blk s H0 scope (compEnvC scope cl C X.env) fp) elt (eB X scope elt) := ⟨fun pins s1 σ' H' Q' I h => (h s H0 C cl fp).run pins s1 I⟩
theorem Lc.pe {own : List (Str × Nat)} {scope : Scope} {ifs : List Expr} (h : Lc T X tg iter ifs elt scope own σ H d) (ok : BlkOk X.N X.env.scope scope own) (hN : X.N.Nodup) (hc : X.calm = true := by rfl) (hf : ∀ x, foldedSetIterable iter X.env x = pure x := by intro _; rfl) :
    Pe T X (.ListComp elt [⟨tg, iter, ifs, 0⟩] scope pos) σ H d := fun H1 e1 Q q => PE.w (pe_lc hc hN pi_w ok pg_gB pts_tB pe_eB hf) (h H1 e1 Q q)
theorem Lc.set {own : List (Str × Nat)} {scope : Scope} {ifs : List Expr} {y : Str} {n : Nat} {py spos : Pos} {D : Ends} {B : Hp} (h : Lc T X tg iter ifs elt scope own σ B d) (u : Xt T B H) (ok : BlkOk X.N X.env.scope scope own) (hN : X.N.Nodup)
    (hsw : swapsWith (.ListComp elt [⟨tg, iter, ifs, 0⟩] scope pos) (some (.Name y py)) spos.line X.env = pure true) (q : ∀ v B2 H2, Go T B H B2 H2 → Da B2 v d → D.nx (σ.set n (some v)) H2) (hy : X.N[n]? = some y := by rfl) (hyl : X.env.scope.names.lookup y = some .local := by rfl)
    (hc : X.calm = true := by rfl) (hf : ∀ x, foldedSetIterable iter X.env x = pure x := by intro _; rfl) : WS X (.Assign [.Name y py] (.ListComp elt [⟨tg, iter, ifs, 0⟩] scope pos) spos) D σ H :=
  PS.w (ps_setLc hc hN hy hyl hsw pi_w ok pg_gB pts_tB pe_eB hf) (h H u _ q)
theorem lc_G {β : Type} {xs : List β} {enc : β → PyData} {own : List (Str × Nat)} {scope : Scope} {ifs : List Expr} (f : β → Bool) (g : β → PyData) (hs : Src T X tg iter σ H (xs.map enc)) (hz : xs.length ≤ 100000)
    (turn : ∀ x, x ∈ xs → ∀ v B1, Xt T H B1 → Da B1 v (enc x) → ∃ σ2 : L2.St, wipe σ2 (own.map (·.2)) = wipe σ (own.map (·.2)) ∧
      (∀ s H0 C cl fp (Q : L2.St → Hp → Prop) H1, Xt T B1 H1 → Q σ2 H1 → WG (X.blk s H0 scope (compEnvC scope cl C X.env) fp) tg v (wipe σ (own.map (·.2))) H1 Q) ∧
      (∀ s H0 C cl fp, Pts T (X.blk s H0 scope (compEnvC scope cl C X.env) fp) ifs σ2 B1 (f x)) ∧ (f x = true → ∀ s H0 C cl fp, Pe T (X.blk s H0 scope (compEnvC scope cl C X.env) fp) elt σ2 B1 (g x))) :
    Lc T X tg iter ifs elt scope own σ H (.list ((xs.filter f).map g)) := fun H1 e1 Q q => by
  refine hs H1 e1 _ fun J B2 H2 G Y g2 w hG hY D hD => ?_
  rw [List.length_map] at w hY
  refine lc_it w (g := gB X scope tg) (tt := tB' X scope ifs) (te := eB X scope elt) (vs := own.map (·.2)) (σ := σ) (Qd := fun H => Q (.ref D) H) (fun i H' => ∃ B' acc, Go T B2 H2 B' H' ∧ Fr0 B' D ∧ H' D = some (.lst acc) ∧ DaAll B' acc (((xs.take i).filter f).map g))
    ⟨B2, [], g2.self.mine hD, g2.u.free hD, upd_same, .nil⟩ (fun i H' _ ⟨B', acc, p, _⟩ => hG H' (p.b.trans p.u)) (fun i v H3 H4 hi p y => ?_) fun H3 p => ?_
  · obtain ⟨B', acc, p1, p0, p2, p3⟩ := p
    obtain ⟨B4, d, g4, hd, hv⟩ := hY i B' H3 v H4 hi p1.b p1.u y
    rw [List.getElem?_map, List.getElem?_eq_getElem hi] at hd
    have ed : enc xs[i] = d := Option.some.inj hd
    subst ed
    have e14 : Xt T H B4 := (g2.b.trans p1.b).trans g4.b
    have n4 : Fr0 B4 D := g4.pr D _ p0 p2
    obtain ⟨σ2, w1, w2, w3, w4⟩ := turn xs[i] (List.getElem_mem hi) v B4 e14 hv
    intro s H0 C cl fp
    refine w2 s H0 C cl fp _ _ g4.u ⟨w1, fun s H0 C cl fp => w3 s H0 C cl fp H4 g4.u _ fun H5 e5 => ?_⟩
    have tk : xs.take (i + 1) = xs.take i ++ [xs[i]] := take_snoc (List.getElem?_eq_getElem hi)
    have g5 : Go T B4 H4 B4 H5 := ⟨g4.self.b, e5, g4.u.trans e5, fun _ z _ => z⟩
    cases hfx : f xs[i] with
    | false =>
      refine iteF ⟨B4, acc, (p1.trans g4).trans g5, n4, (g4.h.trans e5).lstAt p2, ?_⟩
      rw [tk, List.filter_append]
      simp only [List.filter_cons, hfx, List.filter_nil, Bool.false_eq_true, if_false, List.append_nil]
      exact p3.mono g4.b
    | true =>
      refine iteT fun s H0 C cl fp => w4 hfx s H0 C cl fp H5 g5.u _ fun v B6 H6 g6 hv6 => ?_
      have p6 : H6 D = some (.lst acc) := ((g4.h.trans e5).trans g6.h).lstAt p2
      have n6 : Fr0 B6 D := g6.pr D _ n4 ((g4.h.trans e5).lstAt p2)
      have hl : acc.length ≤ i := by
        have h1 := p3.length
        rw [List.length_map] at h1
        have h2 := List.length_filter_le f (xs.take i)
        rw [List.length_take] at h2
        omega
      refine ⟨acc, p6, Nat.lt_of_lt_of_le (by omega : acc.length < 100001) (by decide), B6, acc ++ [v], (((p1.trans g4).trans g5).trans g6).mutL (.of hD) n6 p6, n6, upd_same, ?_⟩
      rw [tk, List.filter_append, List.map_append]
      simp only [List.filter_cons, hfx, List.filter_nil, if_true, List.map_cons, List.map_nil]
      exact ((p3.mono (g4.b.trans g6.b))).append (.cons hv6 .nil)
  · obtain ⟨B', acc, p1, p0, p2, p3⟩ := p
    rw [List.take_length] at p3
    have nb := p1.u.telling p1.b.tabs p0 p2 lst_nt
    have gt := p1.tell (.of hD) nb p2
    exact q _ _ H3 (g2.trans gt) (.lst upd_same (p3.mono nb))
end
end DW

/-! comprehensions with a name or a pair; targets; statements; defs -/
namespace DW
open PySem PySem.Spec PyProof.Rows L2 RZ

section
variable {T : List (Addr × Str)} {X : Cx} {σ : L2.St} {B H : Hp} {a b c e tg iter elt : Expr} {es : List Expr} {rest body : List Stmt} {D : Ends} {d da db dc d1 d2 : PyData} {ds : List PyData} {pos p p' px py apos : Pos} {k n i j : Nat}

/-! ### targets -/
theorem g_name {x : Str} {v : V} {Q : L2.St → Hp → Prop} (q : Q (σ.set i (some v)) H) (hN : X.N.Nodup) (hi : X.N[i]? = some x := by rfl) (hx : Loc X.env.scope x := by first | exact Or.inl rfl | exact Or.inr rfl)
    (hf : X.fn x = true ∨ X.env.scope.names.lookup x = some .local := by first | exact .inl rfl | exact .inr rfl) : WG X (.Name x px) v σ H Q := PG.w (pg_name hN hi hx hf) q
theorem g_pair {x y : Str} {v : V} {Q : L2.St → Hp → Prop} (u : Xt T B H) (hv : Da B v (.tuple [d1, d2])) (q : ∀ v1 v2, Da B v1 d1 → Da B v2 d2 → Q ((σ.set i (some v1)).set j (some v2)) H) (hN : X.N.Nodup) (hi : X.N[i]? = some x := by rfl) (hj : X.N[j]? = some y := by rfl)
    (hx : Loc X.env.scope x := by first | exact Or.inl rfl | exact Or.inr rfl) (hy : Loc X.env.scope y := by first | exact Or.inl rfl | exact Or.inr rfl)
    (hf : X.fn x = true ∨ X.env.scope.names.lookup x = some .local := by first | exact .inl rfl | exact .inr rfl) (hf' : X.fn y = true ∨ X.env.scope.names.lookup y = some .local := by first | exact .inl rfl | exact .inr rfl) (hc : X.calm = true := by rfl)
    (h1 : (assignEach [.Name x px, .Name y py] X.env).map (·.2) = assign (.Name x px) X.env :: (assignEach [.Name y py] X.env).map (·.2) := by rfl) (h2 : (assignEach [.Name y py] X.env).map (·.2) = assign (.Name y py) X.env :: (assignEach [] X.env).map (·.2) := by rfl)
    (h3 : (assignEach [.Name x px, .Name y py] X.env).length = 2 := by rfl) (h4 : (assignEach [.Name x px, .Name y py] X.env).findIdx? (·.1) = none := by rfl) : WG X (.Tuple [.Name x px, .Name y py] k pos) v σ H Q := by
  obtain ⟨r, xs, rfl, hr, hd⟩ := hv.tupE
  obtain ⟨v1, ws, rfl, hv1, hw⟩ := hd.consE
  obtain ⟨v2, rfl, hv2⟩ := hw.one
  exact PG.w (pg_tup hc (pgs_cons (pg_name hN hi hx hf) (pgs_cons (pg_name hN hj hy hf') pgs_nil h2) h1) h3 h4) ⟨r, _, rfl, .of (u.tupAt hr), rfl, v1, [v2], rfl, v2, [], rfl, rfl, q v1 v2 hv1 hv2⟩

/-! ### tests of a clause -/
theorem ts_nil : Pts T X [] σ B true := fun H1 e1 Q q => PTs.w pts_nil (q H1 e1.self)
theorem ts_one {b : Bool} (h : Pt T X c σ B b) : Pts T X [c] σ B b := fun H1 e1 Q q => PTs.w (pts_one pt_w) (h H1 e1 Q q)

/-! ### comprehensions -/
theorem lc_1 {β : Type} {xs : List β} {enc : β → PyData} {x : Str} {scope : Scope} {ifs : List Expr} (f : β → Bool) (g : β → PyData) (hs : Src T X (.Name x px) iter σ B (xs.map enc)) (hz : xs.length ≤ 100000) (ok : BlkOk X.N X.env.scope scope [(x, j)]) (hN : X.N.Nodup)
    (ht : ∀ y, y ∈ xs → ∀ v B1, Xt T B B1 → Da B1 v (enc y) → ∀ s H0 C cl fp, Pts T (X.blk s H0 scope (compEnvC scope cl C X.env) fp) ifs (σ.set j (some v)) B1 (f y))
    (he : ∀ y, y ∈ xs → f y = true → ∀ v B1, Xt T B B1 → Da B1 v (enc y) → ∀ s H0 C cl fp, Pe T (X.blk s H0 scope (compEnvC scope cl C X.env) fp) elt (σ.set j (some v)) B1 (g y))
    (hl : ∀ s H0 C cl fp, Loc (X.blk s H0 scope (compEnvC scope cl C X.env) fp).env.scope x := by intros; first | exact Or.inl rfl | exact Or.inr rfl)
    (hfn : ∀ s H0 C cl fp, (X.blk s H0 scope (compEnvC scope cl C X.env) fp).fn x = true ∨ (X.blk s H0 scope (compEnvC scope cl C X.env) fp).env.scope.names.lookup x = some .local := by intros; first | exact .inl rfl | exact .inr rfl) :
    Lc T X (.Name x px) iter ifs elt scope [(x, j)] σ B (.list ((xs.filter f).map g)) := by
  refine lc_G f g hs hz (fun y hy v B1 e1 hv => ⟨σ.set j (some v), ?_, fun s H0 C cl fp Q H1 u1 q => ?_, ht y hy v B1 e1 hv, fun hfy => he y hy hfy v B1 e1 hv⟩)
  · exact wipe_set (by simp)
  · refine g_name (i := j) ?_ hN (ok.ix (x, j) (by simp)) (hl s H0 C cl fp) (hfn s H0 C cl fp)
    have e2 : (wipe σ [j]).set j (some v) = σ.set j (some v) := by
      show (σ.set j none).set j (some v) = _
      rw [List.set_set]
    show Q ((wipe σ [j]).set j (some v)) H1
    rw [e2]
    exact q
theorem d_lc {β : Type} {xs : List β} {enc : β → PyData} {x : Str} {scope : Scope} {ifs : List Expr} (f : β → Bool) (g : β → PyData) (hs : Src T X (.Name x px) iter σ B (xs.map enc)) (hz : xs.length ≤ 100000) (ok : BlkOk X.N X.env.scope scope [(x, j)]) (hN : X.N.Nodup)
    (ht : ∀ y, y ∈ xs → ∀ v B1, Xt T B B1 → Da B1 v (enc y) → ∀ s H0 C cl fp, Pts T (X.blk s H0 scope (compEnvC scope cl C X.env) fp) ifs (σ.set j (some v)) B1 (f y))
    (he : ∀ y, y ∈ xs → f y = true → ∀ v B1, Xt T B B1 → Da B1 v (enc y) → ∀ s H0 C cl fp, Pe T (X.blk s H0 scope (compEnvC scope cl C X.env) fp) elt (σ.set j (some v)) B1 (g y))
    (hl : ∀ s H0 C cl fp, Loc (X.blk s H0 scope (compEnvC scope cl C X.env) fp).env.scope x := by intros; first | exact Or.inl rfl | exact Or.inr rfl)
    (hfn : ∀ s H0 C cl fp, (X.blk s H0 scope (compEnvC scope cl C X.env) fp).fn x = true ∨ (X.blk s H0 scope (compEnvC scope cl C X.env) fp).env.scope.names.lookup x = some .local := by intros; first | exact .inl rfl | exact .inr rfl)
    (hc : X.calm = true := by rfl) (hf : ∀ x, foldedSetIterable iter X.env x = pure x := by intro _; rfl) :
    Pe T X (.ListComp elt [⟨.Name x px, iter, ifs, 0⟩] scope pos) σ B (.list ((xs.filter f).map g)) := (lc_1 f g hs hz ok hN ht he hl hfn).pe ok hN hc hf
theorem filter_true {α : Type} (l : List α) : l.filter (fun _ => true) = l := by simp
/-- without a test -/
theorem d_map {β : Type} {xs : List β} {enc : β → PyData} {x : Str} {scope : Scope} (g : β → PyData) (hs : Src T X (.Name x px) iter σ B (xs.map enc)) (hz : xs.length ≤ 100000) (ok : BlkOk X.N X.env.scope scope [(x, j)]) (hN : X.N.Nodup)
    (he : ∀ y, y ∈ xs → ∀ v B1, Xt T B B1 → Da B1 v (enc y) → ∀ s H0 C cl fp, Pe T (X.blk s H0 scope (compEnvC scope cl C X.env) fp) elt (σ.set j (some v)) B1 (g y))
    (hl : ∀ s H0 C cl fp, Loc (X.blk s H0 scope (compEnvC scope cl C X.env) fp).env.scope x := by intros; first | exact Or.inl rfl | exact Or.inr rfl)
    (hfn : ∀ s H0 C cl fp, (X.blk s H0 scope (compEnvC scope cl C X.env) fp).fn x = true ∨ (X.blk s H0 scope (compEnvC scope cl C X.env) fp).env.scope.names.lookup x = some .local := by intros; first | exact .inl rfl | exact .inr rfl)
    (hc : X.calm = true := by rfl) (hf : ∀ x, foldedSetIterable iter X.env x = pure x := by intro _; rfl) :
    Pe T X (.ListComp elt [⟨.Name x px, iter, [], 0⟩] scope pos) σ B (.list (xs.map g)) := by
  have h := d_lc (pos := pos) (fun _ => true) g hs hz ok hN (fun _ _ _ _ _ _ _ _ _ _ _ => ts_nil) (fun y hy _ => he y hy) hl hfn hc hf
  rw [filter_true] at h
  exact h
/-- a pair as the target -/
theorem d_lc2 {β : Type} {xs : List β} {enc1 enc2 : β → PyData} {x y : Str} {scope : Scope} {ifs : List Expr} {kt : Nat} {pt : Pos} (f : β → Bool) (g : β → PyData) (hs : Src T X (.Tuple [.Name x px, .Name y py] kt pt) iter σ B (xs.map fun z => .tuple [enc1 z, enc2 z])) (hz : xs.length ≤ 100000)
    (ok : BlkOk X.N X.env.scope scope [(x, i), (y, j)]) (hN : X.N.Nodup)
    (ht : ∀ z, z ∈ xs → ∀ v w B1, Xt T B B1 → Da B1 v (enc1 z) → Da B1 w (enc2 z) → ∀ s H0 C cl fp, Pts T (X.blk s H0 scope (compEnvC scope cl C X.env) fp) ifs ((σ.set i (some v)).set j (some w)) B1 (f z))
    (he : ∀ z, z ∈ xs → f z = true → ∀ v w B1, Xt T B B1 → Da B1 v (enc1 z) → Da B1 w (enc2 z) → ∀ s H0 C cl fp, Pe T (X.blk s H0 scope (compEnvC scope cl C X.env) fp) elt ((σ.set i (some v)).set j (some w)) B1 (g z))
    (hij : i ≠ j)
    (hl : ∀ s H0 C cl fp, Loc (X.blk s H0 scope (compEnvC scope cl C X.env) fp).env.scope x := by intros; first | exact Or.inl rfl | exact Or.inr rfl)
    (hfn : ∀ s H0 C cl fp, (X.blk s H0 scope (compEnvC scope cl C X.env) fp).fn x = true ∨ (X.blk s H0 scope (compEnvC scope cl C X.env) fp).env.scope.names.lookup x = some .local := by intros; first | exact .inl rfl | exact .inr rfl)
    (hl' : ∀ s H0 C cl fp, Loc (X.blk s H0 scope (compEnvC scope cl C X.env) fp).env.scope y := by intros; first | exact Or.inl rfl | exact Or.inr rfl)
    (hfn' : ∀ s H0 C cl fp, (X.blk s H0 scope (compEnvC scope cl C X.env) fp).fn y = true ∨ (X.blk s H0 scope (compEnvC scope cl C X.env) fp).env.scope.names.lookup y = some .local := by intros; first | exact .inl rfl | exact .inr rfl)
    (h1 : ∀ s H0 C cl fp, (assignEach [.Name x px, .Name y py] (X.blk s H0 scope (compEnvC scope cl C X.env) fp).env).map (·.2) = assign (.Name x px) (X.blk s H0 scope (compEnvC scope cl C X.env) fp).env :: (assignEach [.Name y py] (X.blk s H0 scope (compEnvC scope cl C X.env) fp).env).map (·.2) := by intros; rfl)
    (h2 : ∀ s H0 C cl fp, (assignEach [.Name y py] (X.blk s H0 scope (compEnvC scope cl C X.env) fp).env).map (·.2) = assign (.Name y py) (X.blk s H0 scope (compEnvC scope cl C X.env) fp).env :: (assignEach [] (X.blk s H0 scope (compEnvC scope cl C X.env) fp).env).map (·.2) := by intros; rfl)
    (h3 : ∀ s H0 C cl fp, (assignEach [.Name x px, .Name y py] (X.blk s H0 scope (compEnvC scope cl C X.env) fp).env).length = 2 := by intros; rfl) (h4 : ∀ s H0 C cl fp, (assignEach [.Name x px, .Name y py] (X.blk s H0 scope (compEnvC scope cl C X.env) fp).env).findIdx? (·.1) = none := by intros; rfl)
    (hc : X.calm = true := by rfl) (hf : ∀ x, foldedSetIterable iter X.env x = pure x := by intro _; rfl) :
    Pe T X (.ListComp elt [⟨.Tuple [.Name x px, .Name y py] kt pt, iter, ifs, 0⟩] scope pos) σ B (.list ((xs.filter f).map g)) := by
  refine (lc_G f g hs hz fun z hy v B1 e1 hv => ?_).pe ok hN hc hf
  obtain ⟨r, ws, rfl, hr, hd⟩ := hv.tupE
  obtain ⟨v1, ws', rfl, hv1, hw⟩ := hd.consE
  obtain ⟨v2, rfl, hv2⟩ := hw.one
  have e2 : ((wipe σ [i, j]).set i (some v1)).set j (some v2) = (σ.set i (some v1)).set j (some v2) := by
    show ((((σ.set j none).set i none)).set i (some v1)).set j (some v2) = _
    rw [List.set_set, List.set_comm _ _ hij, List.set_set]
    exact List.set_comm _ _ (Ne.symm hij)
  refine ⟨(σ.set i (some v1)).set j (some v2), ?_, fun s H0 C cl fp Q H1 u1 q => ?_, ht z hy v1 v2 B1 e1 hv1 hv2, fun hfy => he z hy hfy v1 v2 B1 e1 hv1 hv2⟩
  · rw [wipe_set (by simp), wipe_set (by simp)]
  · refine PG.w (pg_tup hc (pgs_cons (pg_name hN (ok.ix (x, i) (by simp)) (hl s H0 C cl fp) (hfn s H0 C cl fp)) (pgs_cons (pg_name hN (ok.ix (y, j) (by simp)) (hl' s H0 C cl fp) (hfn' s H0 C cl fp)) pgs_nil (h2 s H0 C cl fp)) (h1 s H0 C cl fp)) (h3 s H0 C cl fp) (h4 s H0 C cl fp)) ⟨r, _, rfl, .of (u1.tupAt hr), rfl, v1, [v2], rfl, v2, [], rfl, rfl, ?_⟩
    show Q (((wipe σ [i, j]).set i (some v1)).set j (some v2)) H1
    rw [e2]
    exact q

/-! ### statements -/
abbrev aft (X : Cx) (rest : List Stmt) (D : Ends) : Ends := { D with nx := fun σ' H' => WB X rest D σ' H' }
theorem b_cons {st : Stmt} (h : WS X st (aft X rest D) σ H) : WB X (st :: rest) D σ H := PSs.w (pss_cons ps_w pss_w) h
theorem b_one {st : Stmt} (h : WS X st D σ H) : WB X [st] D σ H := PSs.w (pss_one ps_w) h
theorem b_nil (h : D.nx σ H) : WB X [] D σ H := PSs.w pss_nil h
theorem s_set {x : Str} (hN : X.N.Nodup) (u : Xt T B H) (h : Pe T X e σ B d) (q : ∀ v B2 H2, Go T B H B2 H2 → Da B2 v d → D.nx (σ.set i (some v)) H2) (hi : X.N[i]? = some x := by rfl) (hx : Loc X.env.scope x := by first | exact Or.inl rfl | exact Or.inr rfl)
    (hs : swapsWith e (some (.Name x p')) pos.line X.env = pure false := by rfl) (hf : X.fn x = true ∨ X.env.scope.names.lookup x = some .local := by first | exact .inl rfl | exact .inr rfl) : WS X (.Assign [.Name x p'] e pos) D σ H :=
  PS.w (ps_set hN hi hx pe_w hs hf) (h H u _ fun v B2 H2 g hv => q v B2 H2 g hv)
theorem s_expr (u : Xt T B H) (h : Pe T X e σ B d) (q : ∀ v B2 H2, Go T B H B2 H2 → Da B2 v d → D.nx σ H2) (hs : swapsWith e none pos.line X.env = pure false := by rfl) : WS X (.Expr e pos) D σ H :=
  PS.w (ps_expr pe_w hs) (h H u _ fun v B2 H2 g hv => q v B2 H2 g hv)
theorem s_ret (u : Xt T B H) (h : Pe T X e σ B d) (q : ∀ v B2 H2, Go T B H B2 H2 → Da B2 v d → D.rt v H2) : WS X (.Return (some e) pos) D σ H :=
  PS.w (ps_ret pe_w) (h H u _ fun v B2 H2 g hv => q v B2 H2 g hv)
theorem s_if {t : Bool} {s1 s2 : List Stmt} (u : Xt T B H) (h : Pt T X c σ B t) (h1 : t = true → ∀ H2, Xt T H H2 → WB X s1 D σ H2) (h2 : t = false → ∀ H2, Xt T H H2 → WB X s2 D σ H2) : WS X (.If c s1 s2 pos) D σ H :=
  PS.w (ps_if pt_w pss_w pss_w) (h H u _ fun H2 e2 => by
    cases t with
    | true => exact iteT (h1 rfl H2 e2)
    | false => exact iteF (h2 rfl H2 e2))
/-- an if that is passed by -/
theorem b_skip {s1 : List Stmt} (u : Xt T B H) (h : Pt T X c σ B false) (q : ∀ H2, Xt T H H2 → Xt T B H2 → WB X rest D σ H2) : WB X (.If c s1 [] pos :: rest) D σ H :=
  b_cons (s_if u h (fun z => by cases z) fun _ H2 e2 => b_nil (q H2 e2 (u.trans e2)))
/-- a new list of ours -/
theorem s_newL {x : Str} (hN : X.N.Nodup) (u : Xt T B H) (h : Pa T X es σ B ds) (hl : ds.length ≤ 100000) (q : ∀ r vs B2 H2, Go T B H B2 H2 → H2 r = none → DaAll B2 vs ds → D.nx (σ.set i (some (.ref r))) (upd H2 r (.lst vs))) (hi : X.N[i]? = some x := by rfl) (hx : Loc X.env.scope x := by first | exact Or.inl rfl | exact Or.inr rfl)
    (hs : swapsWith (.List es p) (some (.Name x p')) pos.line X.env = pure false := by rfl) (hf : X.fn x = true ∨ X.env.scope.names.lookup x = some .local := by first | exact .inl rfl | exact .inr rfl) : WS X (.Assign [.Name x p'] (.List es p) pos) D σ H :=
  PS.w (ps_set hN hi hx (pe_lst pa_w) hs hf) (h H u _ fun vs B2 H2 g hv => ⟨Nat.le_trans (Nat.le_of_eq hv.length) (Nat.le_trans hl (by decide)), fun r hr => q r vs B2 H2 g hr hv⟩)
/-- l.append(e) -/
theorem s_app {x : Str} {r : Addr} {xs : List V} (u : Xt T B H) (hs : σ[i]? = some (some (.ref r))) (hr : H r = some (.lst xs)) (hl : xs.length < 100000) (h : Pe T X e σ B d) (q : ∀ v B2 H2, Go T B H B2 H2 → H2 r = some (.lst xs) → Da B2 v d → D.nx σ (upd H2 r (.lst (xs ++ [v]))))
    (hN : X.N[i]? = some x := by rfl) (hv : Vis X.env.scope x := by first | exact Or.inl rfl | exact Or.inr (Or.inl rfl) | exact Or.inr (Or.inr rfl)) (h1 : (x == ("__debug__" : Str)) = false := by decide) (h2 : (x == ("__classdict__" : Str)) = false := by decide)
    (hsw : swapsWith (.Call (.Attribute (.Name x p) "append" apos) [e] [] p') none pos.line X.env = pure false := by rfl) (hbase : attributeBase (.Name x p) "append" X.env (eval (.Name x p) X.env) = eval (.Name x p) X.env := by rfl)
    (hfew : ((backTo p' (starEach (e :: []) X.env)).all (fun x => !x.1) && (backToKw p' (keywordEach [] X.env)).all (fun x => x.1.isSome)
      && decide ((e :: ([] : List Expr)).length + ([] : List Keyword).length + (if ([] : List Keyword).isEmpty then 0 else 1) < 30)) = true := by rfl)
    (hline : (apos.endLine == p'.line) = true := by rfl) (hst : starEach (e :: []) X.env = (false, eval e X.env) :: starEach [] X.env := by rfl) (hplain : (backTo p' (starEach [] X.env)).any (·.1) = false := by rfl) :
    WS X (.Expr (.Call (.Attribute (.Name x p) "append" apos) [e] [] p') pos) D σ H :=
  PS.w (ps_expr (pe_bm PySem.F.plainAttrs_list PySem.F.slot_list_append PySem.F.type_list_append mt_append (pe_var hN hv h1 h2) (pa_cons pe_w pa_nil hst) hbase hfew hline hst hplain) hsw) ⟨.ref r, hs, .inl ⟨rfl, _, .of hr⟩, h H u _ fun v B2 H2 g hv =>
    ⟨r, xs, v, rfl, rfl, g.h.lstAt hr, Nat.lt_of_lt_of_le hl (by decide), q v B2 H2 g (g.h.lstAt hr) hv⟩⟩
/-- for -/
theorem s_for (u : Xt T B H) (hs : Src T X tg iter σ B ds) (k : ∀ B2 H2, Go T B H B2 H2 → ∃ I : Nat → Hp → L2.St → Hp → Prop, I 0 B2 σ H2 ∧
      (∀ n d v B' σ' H' B4 H4, ds[n]? = some d → I n B' σ' H' → Xt T B2 B' → Xt T B' H' → Go T B' H' B4 H4 → Da B4 v d →
        WG X tg v σ' H4 fun σ2 H5 => WB X body { D with nx := fun σ3 H6 => ∃ B6, Xt T B2 B6 ∧ Xt T B6 H6 ∧ I (n + 1) B6 σ3 H6, ct := fun σ3 H6 => ∃ B6, Xt T B2 B6 ∧ Xt T B6 H6 ∧ I (n + 1) B6 σ3 H6, bk := D.nx } σ2 H5) ∧
      (∀ B' σ' H', Xt T B2 B' → Xt T B' H' → I ds.length B' σ' H' → D.nx σ' H'))
    (hp : PassesOwn (model X.prog X.w) X.A X.env X.xe := by exact PassesOwn.never) (hc : X.calm = true := by rfl) (hf : ∀ x, foldedSetIterable iter X.env x = pure x := by intro _; rfl) : WS X (.For tg iter body [] pos) D σ H := by
  refine PS.w (ps_for hp hc pi_w pg_w pss_w hf) (hs H u _ fun J B2 H2 G Y g w hG hY => ?_)
  obtain ⟨I, h0, turn, done⟩ := k B2 H2 g
  refine for_it w (g := WG X tg) (tb := WB X body) (D := D) (fun n σ' H' => ∃ B', Xt T B2 B' ∧ Xt T B' H' ∧ I n B' σ' H') ⟨B2, g.self.b, g.u, h0⟩ (fun n σ' H' _ ⟨B', x1, x2, _⟩ => hG H' (x1.trans x2)) (fun n v σ' H' H4 hn ⟨B', x1, x2, hI⟩ y => ?_) fun σ' H' ⟨B', x1, x2, hI⟩ => done B' σ' H' x1 x2 hI
  obtain ⟨B4, d, g4, hd, hv⟩ := hY n B' H' v H4 hn x1 x2 y
  exact turn n d v B' σ' H' B4 H4 hd hI x1 x2 g4 hv
/-- while -/
theorem s_while (I : Nat → L2.St → Hp → Prop) (m0 : Nat) (h0 : I m0 σ H) (turn : ∀ m σ' H', I m σ' H' → ∃ b B', Xt T B' H' ∧ Pt T X c σ' B' b ∧
      (b = true → ∀ H2, Xt T H' H2 → WB X body { D with nx := fun σ3 H3 => ∃ m', m' < m ∧ I m' σ3 H3, ct := fun σ3 H3 => ∃ m', m' < m ∧ I m' σ3 H3, bk := D.nx } σ' H2) ∧ (b = false → ∀ H2, Xt T H' H2 → D.nx σ' H2))
    (hp : PassesOwn (model X.prog X.w) X.A X.env X.xe := by exact PassesOwn.never) : WS X (.While c body [] pos) D σ H := by
  refine PS.w (ps_while hp pt_w pss_w) ⟨I, ⟨m0, h0⟩, fun m σ' H' hI => ?_⟩
  obtain ⟨b, B', u, h, h1, h2⟩ := turn m σ' H' hI
  refine h H' u _ fun H2 e2 => ?_
  cases b with
  | true => exact iteT ⟨_, fun σ3 H3 z => z, h1 rfl H2 e2⟩
  | false => exact iteF (h2 rfl H2 e2)
end

/-! ### a def that answers data by data -/
theorem def_ok {T : List (Addr × Str)} {P : Program} {w : World} {K : PySem.W.Frag} {mg : Str → Option Value} {base : Heap} {x : Str} {st : Stmt} {f : Addr} {fd : FuncData} {N ps : List Str} {k : Nat} {R : List PyData → PyData → Prop}
    (F : Fun K x x st f fd) (S : FnScope N ps (defScope st)) (hm : mg x = some (.ref f)) (hb : Binds K fd ps []) (len : ∀ ds d, R ds d → ds.length = ps.length)
    (body : ∀ (cdv : Value) (A : Around) (outer : List Env) (s : Shared) (H : Hp) (E : XK) (B : Hp) (vs : List V) (ds : List PyData) (d : PyData) (Q : VK), Room k (A.deeper (envOfC x (defScope st) s.heap.objs.size f cdv)) → Xt T B H → DaAll B vs ds → R ds d →
      (∀ v B' H', Go T B H B' H' → Da B' v d → Q v H') → WB (cxOf CX0 P w K mg base N x (defScope st) f cdv A outer s H E).nox (defBody st) { nx := fun _ H' => Q .non H', rt := Q } (start N vs) H) : DefOk T P w K mg base x (k + 1) R :=
  ⟨f, fd, ps, F.ok S (fun vs H Q E ⟨B, ds, d, _, h1, h2, _⟩ => by rw [h1.length]; exact len ds d h2) (fun cdv A outer s H vs Q E hr ⟨B, ds, d, u, h1, h2, q⟩ => ⟨_, pss_w, body cdv A outer s H E B vs ds d Q hr u h1 h2 q⟩), hm, F.kp, hb⟩
end DW

/-! sorted -/
namespace DW
open PySem PySem.Spec PyProof.Rows L2 RZ
open PySem.W (EachIs AllAlike Sortable dataLe alike alikeAll dataLt)

theorem each_of {B : Hp} {β : Type} {enc : β → PyData} : ∀ {us : List Value} {xs : List V} {bs : List β}, Vals xs us → DaAll B xs (bs.map enc) → EachIs (fun u b => ∃ x, RelV x u ∧ Da B x (enc b)) us bs
  | _, _, [], .nil, _ => .nil
  | _, _, b :: bs, .cons r rs, h => by
    have h' : DaAll B _ (enc b :: bs.map enc) := h
    cases h' with
    | cons h1 h2 => exact .cons ⟨_, r, h1⟩ (each_of rs h2)
  | _, _, b :: bs, .nil, h => by
    have h' : DaAll B [] (enc b :: bs.map enc) := h
    cases h'
  | _, _, [], .cons r rs, h => by
    have h' : DaAll B _ [] := h
    cases h'
theorem of_each {B : Hp} {β : Type} {enc : β → PyData} : ∀ {us : List Value} {bs : List β}, EachIs (fun u b => ∃ x, RelV x u ∧ Da B x (enc b)) us bs → ∃ xs, Vals xs us ∧ DaAll B xs (bs.map enc)
  | _, _, .nil => ⟨[], .nil, .nil⟩
  | _, _, .cons ⟨x, r, h⟩ t => by
    obtain ⟨xs, h1, h2⟩ := of_each t
    exact ⟨x :: xs, .cons r h1, .cons h h2⟩
theorem each_reads {X : Cx} {pins : List (Addr × Obj)} {σ : L2.St} {H : Hp} {s : Shared} {B : Hp} {T : List (Addr × Str)} {β : Type} {enc : β → PyData} (I : Inv X pins σ H s) (u : Xt T B H) :
    ∀ {us : List Value} {bs : List β}, EachIs (fun u b => ∃ x, RelV x u ∧ Da B x (enc b)) us bs → EachIs (fun u b => ∃ as, Reads s.heap u (enc b) as) us bs
  | _, _, .nil => .nil
  | _, _, .cons ⟨x, r, h⟩ t => .cons (Dp.reads I _ x _ ((h.mono u).dp) r) (each_reads I u t)

def rSortedDat (T : List (Addr × Str)) : List V → Hp → VK → Prop := fun vs H Q => ∃ (β : Type) (enc : β → PyData) (bs : List β) (B : Hp) (a : Addr) (xs : List V), vs = [V.ref a] ∧ Xt T B H ∧ H a = some (.lst xs) ∧ DaAll B xs (bs.map enc) ∧ AllAlike (bs.map enc) ∧ Sortable (bs.map enc) ∧
  (∀ b, b ∈ bs → (enc b).depth ≤ 60) ∧ ∀ (ys : List V) (p : Addr), DaAll B ys ((bs.mergeSort (dataLe false enc)).map enc) → H p = none → Q (.ref p) (upd H p (.lst ys))
theorem cr_sortedDat {X : Cx} {T : List (Addr × Str)} (hu : X.A.units + 64 < cLine) : CallR X (.builtin "sorted") (rSortedDat T) := by
  (intro pins s σ H vs us Q I r h)
  obtain ⟨β, enc, bs, B, a, xs, rfl, u, ha, hd, hal, hk, hdep, q⟩ := h
  obtain rfl := Vals.ref1 r
  obtain ⟨its, rv, hl, hz⟩ := I.list (SqL.of (K := X.K) ha)
  have e := each_of rv hd
  have er := each_reads I u e
  have hlen : bs.length ≤ sizeLine := by
    have h1 := hd.length
    rw [List.length_map] at h1
    rw [← h1]
    exact hz
  refine PySem.W.sorted_data hl.isList e er hal hk hlen (fun b hb => ?_) fun out ho eo => ?_
  · have := hdep b hb
    omega
  · obtain ⟨ys, h1, h2⟩ := of_each eo
    have ⟨ep, he'⟩ := PyProof.Rows.sortedAll_at s.heap its out.toArray
    refine ⟨.ref _, upd H (s.heap.objs.size + 1) (.lst ys), I.laid (t' := s.toks) (fun _ _ => PyProof.Rows.sortedAll_old) (Nat.le_succ _) ⟨?_, _, ep, h1, he'⟩, rfl, q ys _ h2 (I.hok.fresh (Nat.le_succ _))⟩
    rw [h2.length, List.length_map, List.length_mergeSort]
    exact hlen
section
variable {T : List (Addr × Str)} {X : Cx} {σ : L2.St} {B H : Hp} {a : Expr} {pos p : Pos} {k : Nat}
theorem d_sorted {β : Type} (enc : β → PyData) (bs : List β) (hr : Room k X.A) (hm : X.mg "sorted" = none) (ha : Pe T X a σ B (.list (bs.map enc))) (hal : AllAlike (bs.map enc)) (hk : Sortable (bs.map enc)) (hdep : ∀ b, b ∈ bs → (enc b).depth ≤ 60)
    (hg : Gl X "sorted" := by rfl) (he : starEach [a] X.env = (false, eval a X.env) :: starEach [] X.env := by rfl) (hpl : (backTo pos (starEach [] X.env)).any (·.1) = false := by rfl) :
    Pe T X (.Call (.Name "sorted" p) [a] [] pos) σ B (.list ((bs.mergeSort (dataLe false enc)).map enc)) :=
  d_callB (cr_sortedDat (T := T) hr.units) hm (by decide +kernel) (a_cons ha a_nil he) (fun vs B1 H1 e1 tb hv Q q => by
    obtain ⟨v, rfl, hv'⟩ := hv.one
    obtain ⟨r, xs, rfl, hp, hd⟩ := hv'.lstE
    exact ⟨β, enc, bs, B1, r, xs, rfl, e1, e1.lstAt hp, hd, hal, hk, hdep, fun ys p h2 hn => q _ _ _ (.new (.refl e1 tb) hn) (.lst upd_same (h2.mono (.newB e1 tb hn)))⟩) hg (he := he) (hpl := hpl)
/-- a list of ints in order -/
def srt (ns : List Int) : List Int := ns.mergeSort fun a b => decide (a ≤ b)
theorem d_sortedI {ns : List Int} (hr : Room k X.A) (hm : X.mg "sorted" = none) (ha : Pe T X a σ B (.list (ns.map .int)))
    (hg : Gl X "sorted" := by rfl) (he : starEach [a] X.env = (false, eval a X.env) :: starEach [] X.env := by rfl) (hpl : (backTo pos (starEach [] X.env)).any (·.1) = false := by rfl) :
    Pe T X (.Call (.Name "sorted" p) [a] [] pos) σ B (.list ((srt ns).map .int)) := by
  have h := d_sorted (pos := pos) (p := p) PyData.int ns hr hm ha (.of fun _ _ => by simp [alike]) (.others fun b => ⟨fun z => (by cases z), fun xs z => (by cases z)⟩) (fun b _ => by simp [PyData.depth]) hg he hpl
  have e : dataLe false (fun n : Int => PyData.int n) = fun a b => decide (a ≤ b) := PySem.W.dataLe_int (fun n : Int => n)
  unfold srt
  rw [← e]
  exact h
end
theorem srt_perm (ns : List Int) : (srt ns).Perm ns := List.mergeSort_perm _ _
theorem srt_sorted (ns : List Int) : (srt ns).Pairwise (· ≤ ·) := by
  have h := List.pairwise_mergeSort (le := fun a b : Int => decide (a ≤ b)) (fun a b c h1 h2 => by simp at *; omega) (fun a b => by simp; omega) ns
  exact h.imp fun h => of_decide_eq_true h
theorem mem_srt {ns : List Int} {x : Int} : x ∈ srt ns ↔ x ∈ ns := (srt_perm ns).mem_iff

/-! ### lots in order -/
def keyLt (a b : List Int) : Prop := a.length < b.length ∨ (a.length = b.length ∧ a < b)
instance (a b : List Int) : Decidable (keyLt a b) := by unfold keyLt; infer_instance
def keyLe (a b : List Int) : Bool := !decide (keyLt b a)
abbrev encK (l : List Int) : PyData := .tuple [.int (l.length : Int), .tuple (l.map .int)]
theorem eqv_ints : ∀ xs ys : List Int, PyData.eqvAll (xs.map .int) (ys.map .int) = decide (xs = ys)
  | [], [] => (by simp [PyData.eqvAll])
  | [], _ :: _ => (by simp [PyData.eqvAll])
  | _ :: _, [] => (by simp [PyData.eqvAll])
  | x :: xs, y :: ys => by
    have ih := eqv_ints xs ys
    rw [List.map_cons, List.map_cons, PyData.eqvAll, ih, PyData.eqv, Bool.eq_iff_iff]
    simp
theorem dataLe_key : dataLe false encK = keyLe := by
  rw [PySem.W.dataLe_eq]
  funext a b
  show (!dataLt (encK b) (encK a)) = !decide (keyLt b a)
  congr 1
  show dataLt (.tuple [.int (b.length : Int), .tuple (b.map .int)]) (.tuple [.int (a.length : Int), .tuple (a.map .int)]) = _
  rw [PySem.W.dataLt_pair (by simp [alike]) (by rw [alike]; exact PySem.W.alike_ints _ _), PySem.W.dataLt_int, PySem.W.dataLt_tuple]
  have e := PySem.W.dataLt_ints b a
  unfold PySem.W.rowLt at e
  rw [e, PyData.eqv, PyData.eqv, eqv_ints]
  unfold keyLt
  by_cases h1 : b.length = a.length
  · have h2 : ((b.length : Int) == (a.length : Int)) = true := by simp [h1]
    rw [if_pos h2]
    by_cases h3 : b = a
    · subst h3
      simp [List.lt_irrefl]
    · rw [decide_eq_false h3, if_neg Bool.false_ne_true]
      simp [h1]
  · have h2 : ((b.length : Int) == (a.length : Int)) = false := by simp; omega
    rw [h2, if_neg Bool.false_ne_true]
    simp [h1]
end DW

/-! sorted by the key lambda l: (len(l), l) -/
namespace DW
open PySem PySem.Spec PyProof.Rows L2 RZ
open PySem.W (EachIs AllAlike Sortable dataLe alike alikeAll dataLt KeyPure)

abbrev dTup (ns : List Int) : PyData := .tuple (ns.map .int)
/-- the key's call, over the heap -/
theorem key_run {P : Program} {w : World} {A : Around} {mg mb : Str → Option Value} {s : Shared} {f a : Addr} {q x : Str} {params : Arguments} {scope : Scope} {clos : List (Str × Addr)} {pm ctv : Value} {c' : Addr} {vs : List Value} {ns : List Int} {k : Nat} {p1 p2 p3 p4 p5 : Pos}
    (ho : s.heap.get? f = some (PySem.W.kla_obj "<lambda>" q params (.Tuple [.Call (.Name "len" p1) [.Name x p2] [] p3, .Name x p4] k p5) scope clos pm c' ctv)) (hcd : s.heap.CodeRec (.ref c') q)
    (hg : s.heap.Ns mainGlobals mg) (hml : mg "len" = none) (hb : s.heap.Ns builtinsNs mb) (hbb : mb "len" = bootBuiltins "len") (lim : s.heap.NoLimit) (hroom : A.depth < recursionLimit)
    (hk : scope.kind = .function) (hco : scope.isCoroutine = false) (hgen : scope.isGenerator = false) (hx : scope.names.lookup x = some .local) (hl : scope.names.lookup ("len" : Str) = some .globalImplicit) (hcell : ∀ y ∈ scope.names, y.2 ≠ .cell)
    (hbind : ∀ u : Value, bindArgs (PySem.W.kla_fn "<lambda>" q params (.Tuple [.Call (.Name "len" p1) [.Name x p2] [] p3, .Name x p4] k p5) scope clos pm (.ref c') ctv) ⟨[u], []⟩ = pure [(x, u)])
    (hdx : (x == ("__debug__" : Str)) = false) (ht : IsTup s.heap a vs.toArray) (hr : Reads s.heap (.ref a) (.tuple (ns.map .int)) []) (hlen : vs.length = ns.length) (hsz : vs.length ≤ sizeLine) :
    wpAny (model P w) A (call (.ref f) [.ref a]) (KeyPure (encK ns) s) (fun _ _ => False) s := by
  refine wpAny_call (PySem.W.kla_callFunE hroom ho rfl hco hgen rfl hcd ?_)
  rw [hbind]
  refine wpAny_pure (wpAny_newFunctionEnv hcell (fun y hy => ?_) (fun h₁ hns hsb => ⟨lim.fresh _ hsb, ?_⟩) hk)
  · have e : y = (x, Value.ref a) := by simpa using hy
    subst e
    exact hx
  show codeAny _ _ (.expr _ (PySem.W.envX q scope s.heap.objs.size f (.ref c') clos)) _ _
  have hk₁ : ∀ a ob, s.heap.get? a = some ob → h₁.get? a = some ob := fun b o e => hsb.extBut b o (Nat.ne_of_lt (Heap.lt_size e)) (Heap.get?_push_of_some _ e)
  have ns1 : ∀ {b : Addr} {m : Str → Option Value}, s.heap.Ns b m → h₁.Ns b m := fun {b m} n => n.keeps hk₁
  have look : ([(x, Value.ref a)] : List (Str × Value)).reverse.lookup x = some (.ref a) := by simp
  have nm : ∀ {s' : Shared} {Q : Value → Shared → Prop} {E : Value → Shared → Prop} {pp : Pos}, (∀ b o, h₁.get? b = some o → s'.heap.get? b = some o) → Q (.ref a) s' → wpAny (model P w) (A.deeper (PySem.W.envX q scope s.heap.objs.size f (.ref c') clos)) (eval (.Name x pp) (PySem.W.envX q scope s.heap.objs.size f (.ref c') clos)) Q E s' :=
    fun {s' Q E pp} kp hq => wpAny_Name (wpAny_loadName_local hk hx (hns.keeps kp) look hq) hdx
  refine PySem.W.kla_codeExpr (wpAny_Tuple_spliced (Calls.spliced_cons ?_))
  refine wpAny_Call_Name_kw (Calls.Name_function_global hk hl (Calls.loadGlobal_builtin (ns1 hg) hml (ns1 hb) (hbb.trans PySem.boot_len) ?_) (by decide))
  refine PyProof.Rows.callWith_builtin1 (Calls.spliced_cons (nm (fun b o e => e) (Calls.spliced_nil ?_))) (by rfl) (by rfl)
  have ht1 : IsTup h₁ a vs.toArray := by
    obtain ⟨o, e1, e2⟩ := ht
    exact ⟨o, hk₁ _ _ e1, e2⟩
  have hn := line63
  refine len_tuple ht1 (by simp only [List.size_toArray]; omega) ?_
  refine Calls.spliced_cons (nm (fun b o e => e) (Calls.spliced_nil ⟨by show 2 ≤ sizeLine; decide, ?_⟩))
  refine ⟨_, _, rfl, fun b o e => Heap.get?_push_of_some _ (hk₁ b o e), ?_⟩
  have e0 : ([] : List Addr) = [] ++ ([] ++ []) := rfl
  refine Reads.tuple (Heap.get?_push_size _ rfl) rfl rfl ?_
  rw [e0]
  have e1 : ((vs.toArray.size : Nat) : Int) = (ns.length : Int) := by rw [List.size_toArray, hlen]
  refine .cons ?_ (.cons ?_ .nil)
  · rw [e1]
    exact .int _ _
  · exact PyProof.Rows.Reads.keeps (fun b o e => Heap.get?_push_of_some _ (hk₁ b o e)) hr

/-- what is told of the text where a lambda is made: the code object and the table of the def that makes it -/
structure LamAt (T : List (Addr × Str)) (X : Cx) (c P : Addr) : Prop where
  tb : LamX.TabB X.base X.mg c P
  code : X.env.code = .ref c
  mem : (P, X.env.qual ++ "<lambda>") ∈ T
  uniq : ∀ p ∈ T, p.1 = P → p.2 = X.env.qual ++ "<lambda>"
theorem reads_ints {h : Heap} : ∀ {us : List Value} {ns : List Int}, Vals (ns.map V.int) us → ReadsAll h us (ns.map .int) []
  | _, [], .nil => .nil
  | _, n :: ns, .cons r rs => by
    obtain ⟨t, rfl⟩ := r
    exact .cons (as := []) (.int n t) (reads_ints rs)
theorem reads_tup {H : Hp} {X : Cx} {pins : List (Addr × Obj)} {σ : L2.St} {s : Shared} (I : Inv X pins σ H s) {a : Addr} {ns : List Int} (h : Da H (.ref a) (dTup ns)) : ∃ its : List Value, IsTup s.heap a its.toArray ∧ its.length = ns.length ∧ its.length ≤ sizeLine ∧ Reads s.heap (.ref a) (dTup ns) [] := by
  obtain ⟨xs, h1, h2⟩ := h.refT
  have e := h2.ints
  subst e
  obtain ⟨its, rv, ht, hz⟩ := I.tuple (SqT.of (K := X.K) h1)
  have hl := rv.length
  rw [List.length_map] at hl
  refine ⟨its, ht, hl.symm, ?_, ?_⟩
  · rw [← hl]
    rw [List.length_map] at hz
    exact hz
  · obtain ⟨o, e1, e2, n, e3⟩ := ht
    exact .tuple e1 e2 e3 (reads_ints rv)
section
variable {T : List (Addr × Str)} {X : Cx} {σ : L2.St} {B : Hp} {a : Expr} {pos p p1 p2 p3 p4 p5 lpos kpos : Pos} {k kk : Nat} {c P : Addr} {x : Str} {params : Arguments} {scope : Scope}
theorem d_sortedKey {ls : List (List Int)} (hr : Room k X.A) (L : LamAt T X c P) (hm : X.mg "sorted" = none) (hml : X.mg "len" = none) (ha : Pe T X a σ B (.list (ls.map dTup)))
    (hdef : defaultsOf params X.env = ([], [])) (hk : scope.kind = .function) (hco : scope.isCoroutine = false) (hgen : scope.isGenerator = false) (hx : scope.names.lookup x = some .local) (hl : scope.names.lookup ("len" : Str) = some .globalImplicit) (hcell : ∀ y ∈ scope.names, y.2 ≠ .cell) (hfree : ∀ y ∈ scope.names, y.2 ≠ .free)
    (hbind : ∀ (q : Str) (cl : List (Str × Addr)) (pm cv ctv u : Value), bindArgs (PySem.W.kla_fn "<lambda>" q params (.Tuple [.Call (.Name "len" p1) [.Name x p2] [] p3, .Name x p4] kk p5) scope cl pm cv ctv) ⟨[u], []⟩ = pure [(x, u)])
    (hdx : (x == ("__debug__" : Str)) = false := by decide) (hg : Gl X "sorted" := by rfl) (he : starEach [a] X.env = (false, eval a X.env) :: starEach [] X.env := by rfl)
    (he' : backTo pos (starEach [a] X.env) = (false, eval a X.env) :: backTo pos (starEach [] X.env) := by rfl) (hpl : (backTo pos (starEach [a] X.env)).any (·.1) = false := by rfl) :
    Pe T X (.Call (.Name "sorted" p) [a] [⟨some "key", .Lambda params (.Tuple [.Call (.Name "len" p1) [.Name x p2] [] p3, .Name x p4] kk p5) scope lpos, kpos⟩] pos) σ B (.list ((ls.mergeSort keyLe).map dTup)) := fun H1 e1 Q q => ⟨fun pins s I => by
  refine wpAny_Call_Name_kw (ld_blt I hg hm (by decide +kernel : bootBuiltins "sorted" = some (.builtin "sorted")) ?_)
  refine PyProof.Rows.callWith_kw ?_ he' hpl (by rfl) (by rfl)
  refine thn (((a_cons ha a_nil he) H1 e1 (fun vs H2 => ∃ B2, Go T B H1 B2 H2 ∧ DaAll B2 vs [.list (ls.map dTup)]) fun vs B2 H2 g h => ⟨B2, g, h⟩).run pos pins s I) fun us s1 ⟨vs, H2, I2, rv, B2, g2, hd⟩ => ?_
  obtain ⟨v, rfl, hv⟩ := hd.one
  obtain ⟨l, xs, rfl, hl2, hds⟩ := hv.lstE
  obtain rfl := Vals.ref1 rv
  refine wpAny_evalAll_cons (wpAny_bind (LamX.lam_make2 I2 L.tb L.code L.mem L.uniq g2.u.tabs hdef (fun y hy e => absurd e (hfree y hy)) fun f c' pm ctv H3 s3 I3 eN t3 hf hfn hfr hcd => wpAny_bind (wpAny_standAt (wpAny_pure (wpAny_evalAll_nil ?_)))))
  have e23 : Xt T H2 H3 := ⟨eN, t3⟩
  have g3 : Go T B2 H2 B2 H3 := ⟨g2.self.b, e23, g2.u.trans e23, fun _ z _ => z⟩
  have hl3 : H3 l = some (.lst xs) := g3.u.lstAt hl2
  obtain ⟨its, rv', hlist, hz⟩ := I3.list (SqL.of (K := X.K) hl3)
  have hlen : ls.length ≤ sizeLine := by
    have h1 := hds.length
    rw [List.length_map] at h1
    rw [← h1]
    exact hz
  have ee := each_of rv' hds
  have hun := hr.un
  show wpAny _ _ (call (.builtin "sorted") [.ref l] [(Str.ofString "key", .ref f)]) _ _ s3
  refine PySem.W.sorted_key_data (b := false) encK hlist.isList ee (.of fun b b' => by simp only [encK, alike, alikeAll, Bool.and_true, Bool.true_and]; exact PySem.W.alike_ints _ _) (.tuples fun b => ⟨_, _, rfl⟩) hlen (fun b hb => ?_) (ksk_s1 _ _) (fun _ => ksk_l1 _ _) (fun _ => ksk_t1 _ _) (fun v b hR hb h tk kp => ?_) (fun out cc h' tk kp hn hob hol eo => ?_)
  · have : (encK b).depth ≤ 2 := by simp [PyData.depth, PyData.depthAll, PySem.W.depth_ints]
    omega
  · obtain ⟨y, ry, hy⟩ := hR
    obtain ⟨r, ys, rfl, _⟩ := hy.tupE
    obtain rfl : v = Value.ref r := ry
    obtain ⟨us, ht, hul, huz, hrd⟩ := reads_tup I3 (hy.mono g3.u)
    obtain ⟨mb, hb1, hb2⟩ := I3.mod.blt
    have kb : ∀ b o, X.base.get? b = some o → h.get? b = some o := fun b o e => kp b o (I3.bk b o e)
    obtain ⟨⟨oc, vs', t, ho1, ho2, ho3⟩, _, _⟩ := I3.hok c' _ hcd
    have ht' : IsTup h r us.toArray := by
      obtain ⟨o, z1, z2⟩ := ht
      exact ⟨o, kp _ _ z1, z2⟩
    exact key_run (s := { s3 with heap := h, toks := tk }) (kp _ _ hf) ⟨c', oc, vs', t, rfl, kp _ _ ho1, ho2, ho3⟩ (I3.mod.glob.keeps kb) hml (hb1.keeps kb) (hb2 _ (by decide)) (I3.mod.nolimit.keeps kb) (by have := hr.dp; show X.A.depth < _; omega)
      hk hco hgen hx hl hcell (fun u => hbind _ _ _ _ _ u) hdx ht' (PyProof.Rows.Reads.keeps kp hrd) hul huz
  · rw [dataLe_key] at eo
    obtain ⟨ys, z1, z2⟩ := of_each (enc := dTup) eo
    have fr : H3 (s3.heap.objs.size + 1) = none := I3.hok.fresh (Nat.le_succ _)
    refine ⟨.ref _, upd H3 (s3.heap.objs.size + 1) (.lst ys), I3.laid (t' := tk) kp (Nat.le_succ _) ⟨?_, out, cc, z1, hob⟩, rfl, q _ _ _ ((g2.trans g3).new fr) (.lst upd_same (z2.mono (g3.u.newB g2.b.tabs fr)))⟩
    rw [z2.length, List.length_map, List.length_mergeSort]
    exact hlen⟩
end
end DW

/-! isinstance; the text; the first defs -/
namespace DW
open PySem PySem.Spec PyProof.Rows L2 RZ

def tyN : PyData → String
  | .none => "NoneType"
  | .bool _ => "bool"
  | .int _ => "int"
  | .str _ => "str"
  | .list _ => "list"
  | .tuple _ => "tuple"
  | .dict _ => "dict"
theorem Da.ty {K : PySem.W.Frag} {H : Hp} {v : V} {d : PyData} (h : Da H v d) : TyX K H v (.type (tyN d)) := by
  cases h with
  | non => exact .base .non
  | bl b => exact .base (.bl b)
  | int i => exact .base (.int i)
  | str x => exact .base (.str x)
  | lst h1 h2 => exact .base (.lst h1)
  | tup h1 h2 => exact .base (.tup h1)
section
variable {T : List (Addr × Str)} {X : Cx} {σ : L2.St} {B H : Hp} {a b c e tg iter elt : Expr} {es : List Expr} {d : PyData} {pos p p' p2 p3 : Pos} {k : Nat}
theorem pe_cls {x : Str} {n : String} (hm : X.mg x = none) (hv : bootBuiltins x = some (.type n)) (hg : Gl X x) (hn : x ≠ "__name__") (hd : (x == ("__debug__" : Str)) = false) : PE X (.Name x pos) (tC (.ty n)) := pe_bltn hg hm hv rfl hn hd
/-- isinstance(x, C) of a built-in class -/
theorem d_isi {n : String} {r : Bool} (hm : X.mg "isinstance" = none) (ha : Pe T X a σ B d) (hx : X.mg (Str.ofString n) = none) (hv : bootBuiltins (Str.ofString n) = some (.type n) := by decide +kernel) (hk : kitB (tyN d) n = some r := by first | (dsimp only [tyN]; decide +kernel) | decide +kernel) (hg : Gl X "isinstance" := by rfl) (hgx : Gl X (Str.ofString n) := by rfl)
    (hn : Str.ofString n ≠ "__name__" := by decide) (hd : (Str.ofString n == ("__debug__" : Str)) = false := by decide)
    (h1 : starEach [a, .Name (Str.ofString n) p2] X.env = (false, eval a X.env) :: starEach [.Name (Str.ofString n) p2] X.env := by rfl) (h2 : starEach [.Name (Str.ofString n) p2] X.env = (false, eval (.Name (Str.ofString n) p2) X.env) :: starEach [] X.env := by rfl) (hpl : (backTo pos (starEach [.Name (Str.ofString n) p2] X.env)).any (·.1) = false := by rfl) :
    Pe T X (.Call (.Name "isinstance" p) [a, .Name (Str.ofString n) p2] [] pos) σ B (.bool r) := fun H1 e1 Q q =>
  PE.w (pe_callB call_isi hg hm (by decide +kernel) (pa_cons pe_w (pa_cons (pe_cls hx hv hgx hn hd) pa_nil h2) h1) (by decide) (by decide) h1 hpl)
    (ha H1 e1 _ fun v B2 H2 g2 hv => ⟨v, .ty n, .type (tyN d), .type n, r, rfl, .ty n, (hv.mono g2.u).ty, kit_ty hk, q _ _ H2 (lim_go e1 g2.h) (.bl _)⟩)
/-- isinstance(x, (C, D)) of two built-in classes -/
theorem d_isi2 {n m : String} {r : Bool} {kt : Nat} (hm : X.mg "isinstance" = none) (ha : Pe T X a σ B d) (hx : X.mg (Str.ofString n) = none) (hv : bootBuiltins (Str.ofString n) = some (.type n) := by decide +kernel) (hy : X.mg (Str.ofString m) = none) (hv' : bootBuiltins (Str.ofString m) = some (.type m) := by decide +kernel)
    (hk : ∃ r1 r2, kitB (tyN d) n = some r1 ∧ kitB (tyN d) m = some r2 ∧ r = (r1 || r2)) (hg : Gl X "isinstance" := by rfl) (hgx : Gl X (Str.ofString n) := by rfl) (hgy : Gl X (Str.ofString m) := by rfl)
    (hn : Str.ofString n ≠ "__name__" := by decide) (hd : (Str.ofString n == ("__debug__" : Str)) = false := by decide) (hn' : Str.ofString m ≠ "__name__" := by decide) (hd' : (Str.ofString m == ("__debug__" : Str)) = false := by decide)
    (h1 : starEach [a, .Tuple [.Name (Str.ofString n) p2, .Name (Str.ofString m) p3] kt p'] X.env = (false, eval a X.env) :: starEach [.Tuple [.Name (Str.ofString n) p2, .Name (Str.ofString m) p3] kt p'] X.env := by rfl)
    (h2 : starEach [.Tuple [.Name (Str.ofString n) p2, .Name (Str.ofString m) p3] kt p'] X.env = (false, eval (.Tuple [.Name (Str.ofString n) p2, .Name (Str.ofString m) p3] kt p') X.env) :: starEach [] X.env := by rfl)
    (h3 : starEach [.Name (Str.ofString n) p2, .Name (Str.ofString m) p3] X.env = (false, eval (.Name (Str.ofString n) p2) X.env) :: starEach [.Name (Str.ofString m) p3] X.env := by rfl) (h4 : starEach [.Name (Str.ofString m) p3] X.env = (false, eval (.Name (Str.ofString m) p3) X.env) :: starEach [] X.env := by rfl)
    (hpl : (backTo pos (starEach [.Tuple [.Name (Str.ofString n) p2, .Name (Str.ofString m) p3] kt p'] X.env)).any (·.1) = false := by rfl) :
    Pe T X (.Call (.Name "isinstance" p) [a, .Tuple [.Name (Str.ofString n) p2, .Name (Str.ofString m) p3] kt p'] [] pos) σ B (.bool r) := fun H1 e1 Q q => by
  obtain ⟨r1, r2, k1, k2, rfl⟩ := hk
  refine PE.w (pe_callB call_isiT hg hm (by decide +kernel) (pa_cons pe_w (pa_cons (pe_tup (pa_cons (pe_cls hx hv hgx hn hd) (pa_cons (pe_cls hy hv' hgy hn' hd') pa_nil h4) h3)) pa_nil h2) h1) (by decide) (by decide) h1 hpl)
    (ha H1 e1 _ fun v B2 H2 g2 hv => ⟨by show 2 ≤ sizeLine; decide, fun r hr => ⟨v, r, [.ty n, .ty m], .type (tyN d), [.type n, .type m], r1 || r2, rfl, upd_same, .cons (.ty n) (.cons (.ty m) .nil), ?_, ?_, q _ _ _ (lim_go e1 (g2.h.newOf hr)) (.bl _)⟩⟩)
  · exact ((hv.mono g2.u).mono (.new g2.h.tabs hr)).ty
  · refine kitAny_cons (kit_ty k1) (fun h => kitAny_cons (kit_ty k2) (fun h' => ?_) fun h' => ?_) fun h => ?_
    · rw [h, h']; exact kitAny_nil
    · rw [h, h']; rfl
    · rw [h]; rfl
end

/-! ### the text -/
def topS (i : Nat) : Stmt := PySem.Challenge.pw_duelwebs_k27_whole_guards.main.body.getD i (.Pass ⟨0, 0, 0, 0⟩)
/-- the built-in names that stand for themselves -/
structure Mg (mg : Str → Option Value) : Prop where
  len : mg "len" = none
  all : mg "all" = none
  any : mg "any" = none
  tuple : mg "tuple" = none
  list : mg "list" = none
  range : mg "range" = none
  sorted : mg "sorted" = none
  min : mg "min" = none
  zip : mg "zip" = none
  enumerate : mg "enumerate" = none
  isinstance : mg "isinstance" = none
  int : mg "int" = none
  bool : mg "bool" = none
  str : mg "str" = none
abbrev dT (ns : List Int) : PyData := .tuple (ns.map .int)
abbrev dP (p : Int × Int) : PyData := .tuple [.int p.1, .int p.2]
structure Web where
  nums : List Int
  ties : List (Int × Int)
abbrev dW (w : Web) : PyData := .tuple [dT w.nums, .tuple (w.ties.map dP)]

section
variable {T : List (Addr × Str)} {P : Program} {w : World} {K : PySem.W.Frag} {mg : Str → Option Value} {base : Heap} {f : Addr} {fd : FuncData}
/-- where a def stands -/
structure At (K : PySem.W.Frag) (mg : Str → Option Value) (x : Str) (st : Stmt) (f : Addr) (fd : FuncData) : Prop where
  F : Fun K x x st f fd
  m : mg x = some (.ref f)

abbrev s_is_int : Stmt := topS 9
abbrev R_is_int : List PyData → PyData → Prop := fun ds d => ∃ i, ds = [.int i] ∧ d = .bool true
theorem sc_is_int : FnScope ["value"] ["value"] (defScope s_is_int) := ⟨rfl, rfl, rfl, by decide +kernel, rfl, by decide +kernel, by decide +kernel⟩
theorem ok_is_int (A : At K mg "is_int" s_is_int f fd) (M : Mg mg) : DefOk T P w K mg base "is_int" 1 R_is_int := by
  refine def_ok A.F sc_is_int A.m (A.F.binds fun _ _ _ _ _ _ us hl => match us, hl with | [_], _ => rfl) (fun ds d ⟨i, h, _⟩ => by rw [h]; rfl) fun cdv A' outer s H E B vs ds d Q hr u hv hR q => ?_
  obtain ⟨i, rfl, rfl⟩ := hR
  obtain ⟨v0, rfl, h0⟩ := hv.one
  exact b_one (s_ret u (d_and (x := true) (d_isi M.isinstance (d_var (n := 0) rfl h0) M.int) fun _ => d_one (d_not (d_isi (r := false) M.isinstance (d_var (n := 0) rfl h0) M.bool))) q)
end
end DW

/-! lots_of -/
namespace DW
open PySem PySem.Spec PyProof.Rows L2 RZ

def foundL : Nat → List (List Int)
  | 0 => [[]]
  | n + 1 => foundL n ++ (foundL n).map (· ++ [(n : Int)])
def lots (n : Int) : List (List Int) := ((foundL n.toNat).filter fun l => decide (l ≠ [])).mergeSort keyLe
theorem foundL_len : ∀ n, (foundL n).length = 2 ^ n
  | 0 => rfl
  | n + 1 => by rw [foundL, List.length_append, List.length_map, foundL_len n, Nat.pow_succ]; omega
theorem two_pow_le {n : Nat} (h : n ≤ 8) : 2 ^ n ≤ 256 := by
  have := Nat.pow_le_pow_right (n := 2) (by decide) h
  simpa using this

theorem foundL_mem {l : List Int} : ∀ {n : Nat}, l ∈ foundL n → l.length ≤ n
  | 0, h => by
    have e : l = [] := by simpa [foundL] using h
    rw [e]
    exact Nat.le_refl 0
  | n + 1, h => by
    rw [foundL, List.mem_append, List.mem_map] at h
    rcases h with h | ⟨m, h, rfl⟩
    · exact Nat.le_succ_of_le (foundL_mem h)
    · (rw [List.length_append, List.length_singleton])
      exact Nat.succ_le_succ (foundL_mem h)
theorem canLay_ints : ∀ ns : List Int, PyData.canLayAll0 (ns.map .int) = true
  | [] => (by simp [PyData.canLayAll0])
  | n :: ns => by
    rw [List.map_cons, PyData.canLayAll0, canLay_ints ns]
    simp [PyData.canLay0]
theorem shaped_dT (ns : List Int) : SeqAt.shaped (dT ns) = true := by
  have e : (dT ns).depth = 1 := by
    show PyData.depth (.tuple (ns.map .int)) = 1
    rw [PyData.depth, PySem.W.depth_ints]
  unfold SeqAt.shaped
  rw [e]
  show (PyData.canLay0 (.tuple (ns.map .int)) && decide (1 ≤ 64)) = true
  rw [PyData.canLay0, canLay_ints]
  rfl
theorem shaped_dL (ns : List Int) : SeqAt.shaped (.list (ns.map .int)) = true := by
  have e : (PyData.list (ns.map .int)).depth = 1 := by rw [PyData.depth, PySem.W.depth_ints]
  unfold SeqAt.shaped
  rw [e]
  show (PyData.canLay0 (.list (ns.map .int)) && decide (1 ≤ 64)) = true
  rw [PyData.canLay0, canLay_ints]
  rfl
theorem eqv_dT (xs ys : List Int) : PyData.eqv (dT xs) (dT ys) = decide (xs = ys) := by
  show PyData.eqv (.tuple (xs.map .int)) (.tuple (ys.map .int)) = _
  rw [PyData.eqv, eqv_ints]
theorem eqv_dL (xs ys : List Int) : PyData.eqv (.list (xs.map .int)) (.list (ys.map .int)) = decide (xs = ys) := by rw [PyData.eqv, eqv_ints]

/-- as def_ok, where the def's code object is named -/
theorem def_okC {T : List (Addr × Str)} {P : Program} {w : World} {K : PySem.W.Frag} {mg : Str → Option Value} {base : Heap} {x : Str} {st : Stmt} {f c : Addr} {fd : FuncData} {N ps : List Str} {k : Nat} {R : List PyData → PyData → Prop}
    (F : Fun K x x st f fd) (hc : fd.code = .ref c) (S : FnScope N ps (defScope st)) (hm : mg x = some (.ref f)) (hb : Binds K fd ps []) (len : ∀ ds d, R ds d → ds.length = ps.length)
    (body : ∀ (A : Around) (outer : List Env) (s : Shared) (H : Hp) (E : XK) (B : Hp) (vs : List V) (ds : List PyData) (d : PyData) (Q : VK), Room k (A.deeper (envOfC x (defScope st) s.heap.objs.size f (.ref c))) → Xt T B H → DaAll B vs ds → R ds d →
      (∀ v B' H', Go T B H B' H' → Da B' v d → Q v H') → WB (cxOf CX0 P w K mg base N x (defScope st) f (.ref c) A outer s H E).nox (defBody st) { nx := fun _ H' => Q .non H', rt := Q } (start N vs) H) : DefOk T P w K mg base x (k + 1) R := by
  obtain ⟨oc, od, kV, doc, pm, an, cdv, ct, osl, e, lk, hcd⟩ := F.ex
  subst e
  have ec : cdv = .ref c := hc
  subst ec
  exact ⟨f, _, ps, fn_of lk hcd S (fun vs H Q E ⟨B, ds, d, _, h1, h2, _⟩ => by rw [h1.length]; exact len ds d h2) (fun A outer s H vs Q E hr ⟨B, ds, d, u, h1, h2, q⟩ => ⟨_, PSs.nox pss_w, body A outer s H E B vs ds d Q hr u h1 h2 q⟩), hm, F.kp, hb⟩

section
variable {T : List (Addr × Str)} {P : Program} {w : World} {K : PySem.W.Frag} {mg : Str → Option Value} {base : Heap} {f c : Addr} {fd : FuncData}
abbrev s_lots_of : Stmt := topS 22
abbrev R_lots_of : List PyData → PyData → Prop := fun ds d => ∃ n : Int, ds = [.int n] ∧ 0 ≤ n ∧ n ≤ 8 ∧ d = .list ((lots n).map dT)
theorem sc_lots_of : FnScope ["many", "found", "person", "lot"] ["many"] (defScope s_lots_of) := ⟨rfl, rfl, rfl, by decide +kernel, rfl, by decide +kernel, by decide +kernel⟩
theorem ok_lots_of {PT : Addr} (A : At K mg "lots_of" s_lots_of f fd) (hc : fd.code = .ref c) (TB : LamX.TabB base mg c PT) (hmT : (PT, ("lots_of" : Str) ++ ".<locals>." ++ "<lambda>") ∈ T) (hu : ∀ p ∈ T, p.1 = PT → p.2 = ("lots_of" : Str) ++ ".<locals>." ++ "<lambda>") (M : Mg mg) : DefOk T P w K mg base "lots_of" 1 R_lots_of := by
  refine def_okC A.F hc sc_lots_of A.m (A.F.binds fun _ _ _ _ _ _ us hl => match us, hl with | [_], _ => rfl) (fun ds d ⟨i, h, _⟩ => by rw [h]; rfl) fun A' outer s H E B vs ds d Q hr u hv hR q => ?_
  obtain ⟨n, rfl, hn0, hn8, rfl⟩ := hR
  obtain ⟨v0, rfl, h0⟩ := hv.one
  have nd := sc_lots_of.nd
  refine b_cons (s_set (i := 1) nd u (d_lst (a_cons (d_tup a_nil (by decide)) a_nil) (by decide)) fun v1 B1 H1 g1 h1 => ?_)
  refine b_cons (s_for g1.u (src_range M.range (d_var (n := 0) rfl (h0.mono g1.b)) (by omega) (by omega)) fun B2 H2 g2 => ⟨fun i B' σ' H' => ∃ v y, σ' = [some v0, some v, y, none] ∧ Go T B H B' H' ∧ Da B' v (.list ((foundL i).map dT)),
    ⟨v1, none, rfl, g1.trans g2, h1.mono g2.b⟩, fun i d v B' σ' H' B4 H4 hd hI x1 x2 g4 hv => ?_, fun B' σ' H' x1 x2 hI => ?_⟩)
  · obtain ⟨vf, y, rfl, gI, hf⟩ := hI
    have hi : i < n.toNat := by
      have := (List.getElem?_eq_some_iff.mp hd).1
      rwa [List.length_map, irange_len] at this
    have ed : d = .int i := by
      rw [List.getElem?_map, irange_get hi] at hd
      exact (Option.some.inj hd).symm
    subst ed
    have hf4 := hf.mono g4.b
    have hlen : (foundL i).length ≤ 256 := by
      rw [foundL_len]
      exact two_pow_le (by omega)
    refine g_name (i := 2) (b_one (s_set (i := 1) nd g4.u (d_catL (d_var (n := 1) rfl hf4) (d_map (j := 3) (fun l => dT (l ++ [(i : Int)])) (src_list (d_var (n := 1) rfl hf4)) (by omega) (blkOk_by (by kernel_rfl)) nd fun l hl v' B5 x5 hv' s H0 C cl fp => ?_) ?_) fun v5 B5 H5 g5 hv5 => ?_)) nd
    · refine Pe.is (d_tup (a_star (d_var (n := 3) rfl hv') (a_cons (d_var (n := 2) rfl (hv.mono x5)) a_nil)) ?_) (by simp)
      have := foundL_mem hl
      rw [List.length_append, List.length_map, List.length_singleton]
      omega
    · rw [List.length_map, List.length_map]; omega
    · refine ⟨B5, (x1.trans g4.b).trans g5.b, g5.u, v5, some v, rfl, (gI.trans g4).trans g5, ?_⟩
      rw [foundL, List.map_append, List.map_map]
      exact hv5
  · obtain ⟨vf, y, rfl, gI, hf⟩ := hI
    rw [List.length_map, irange_len] at hf
    have hlen : (foundL n.toNat).length ≤ 256 := by
      rw [foundL_len]
      exact two_pow_le (by omega)
    refine b_one (s_ret x2 (d_sortedKey hr ⟨TB, rfl, hmT, hu⟩ M.sorted M.len (d_lc (j := 3) (fun l => decide (l ≠ [])) dT (src_list (d_var (n := 1) rfl hf)) (by omega) (blkOk_by (by kernel_rfl)) nd (fun l hl v' B5 x5 hv' s H0 C cl fp => ?_) fun l hl _ v' B5 x5 hv' s H0 C cl fp => d_var (n := 3) rfl hv')
      rfl rfl rfl rfl rfl rfl (by decide +kernel) (by decide +kernel) (fun _ _ _ _ _ _ => rfl)) fun v5 B5 H5 g5 hv5 => q v5 B5 H5 (gI.trans g5) hv5)
    refine ts_one (Pt.is (t_neD hr (d_var (n := 3) rfl hv') (d_tup a_nil (by decide)) (shaped_dT l) (shaped_dT [])) ?_)
    show (!PyData.eqv (dT l) (dT [])) = _
    rw [eqv_dT]
    simp
end
end DW

/-! further rules -/
namespace DW
open PySem PySem.Spec PyProof.Rows L2 RZ

theorem Go.shown {T : List (Addr × Str)} {B0 H0 B H : Hp} (g : Go T B0 H0 B H) {r : Addr} {xs : List V} {ds : List PyData} (n : Fr0 H0 r) (nb : Fr0 B r) (hr : H r = some (.lst xs)) (hd : DaAll B xs ds) :
    ∃ Bt, Go T B0 H0 Bt H ∧ Xt T B Bt ∧ Da Bt (.ref r) (.list ds) := by
  have k := g.u.telling g.b.tabs nb hr lst_nt
  exact ⟨_, g.tell n k hr, k, .lst upd_same (hd.mono k)⟩
/-- the same, where only the reading is wanted -/
theorem Xt.shown {T : List (Addr × Str)} {B H : Hp} (u : Xt T B H) (t : LamX.Tabs T B) {r : Addr} {xs : List V} {ds : List PyData} (nb : Fr0 B r) (hr : H r = some (.lst xs)) (hd : DaAll B xs ds) :
    ∃ Bt, Xt T Bt H ∧ Xt T B Bt ∧ Da Bt (.ref r) (.list ds) := by
  have k := u.telling t nb hr lst_nt
  exact ⟨_, u.tell hr, k, .lst upd_same (hd.mono k)⟩

section
variable {T : List (Addr × Str)} {X : Cx} {σ : L2.St} {B H : Hp} {a b c e tg iter elt : Expr} {es : List Expr} {rest body : List Stmt} {D : Ends} {d da db dc d1 d2 : PyData} {ds : List PyData} {pos p p' p2 px py pt pt2 apos : Pos} {k n i j : Nat}

/-! wishes of displays -/
theorem we_lst {Q : VK} (h : WA X es σ H fun vs H1 => vs.length ≤ sizeLine ∧ ∀ r, H1 r = none → Q (.ref r) (upd H1 r (.lst vs))) : WE X (.List es pos) σ H Q := PE.w (pe_lst pa_w) h
theorem wa_nil {Q : List V → Hp → Prop} (h : Q [] H) : WA X [] σ H Q := PA.w pa_nil h
theorem wa_cons {Q : List V → Hp → Prop} (h : WE X e σ H fun v H1 => WA X es σ H1 fun vs H2 => Q (v :: vs) H2) (hs : starEach (e :: es) X.env = (false, eval e X.env) :: starEach es X.env := by rfl) : WA X (e :: es) σ H Q := PA.w (pa_cons pe_w pa_w hs) h
/-- x, y = a, b of two plain names -/
theorem s_par {x y : Str} {kt k2 : Nat} (hN : X.N.Nodup) (hij : i ≠ j) (h : WA X [a, b] σ H fun vs H1 => ∃ v w, vs = [v, w] ∧ D.nx ((σ.set i (some v)).set j (some w)) H1)
    (hw : swappedStores [.Tuple [.Name x px, .Name y py] kt pt] (.Tuple [a, b] k2 pt2) X.env = pure (some [x, y])) (hi : X.N[i]? = some x := by rfl) (hj : X.N[j]? = some y := by rfl)
    (hx : X.env.scope.names.lookup x = some .local := by rfl) (hy : X.env.scope.names.lookup y = some .local := by rfl) (hs : swapsWithSole [.Tuple [.Name x px, .Name y py] kt pt] (.Tuple [a, b] k2 pt2) pos.line X.env = pure false := by rfl) (hc : X.calm = true := by rfl) :
    WS X (.Assign [.Tuple [.Name x px, .Name y py] kt pt] (.Tuple [a, b] k2 pt2) pos) D σ H := PS.w (ps_par hc hN hi hj hij hx hy pa_w hw hs) h
/-- x = l.pop() -/
theorem s_pop {x y : Str} {r : Addr} {xs : List V} {v : V} (hN : X.N.Nodup) (hs : σ[i]? = some (some (.ref r))) (hr : H r = some (.lst (xs ++ [v]))) (q : D.nx (σ.set j (some v)) (upd H r (.lst xs)))
    (hNx : X.N[i]? = some x := by rfl) (hv : Vis X.env.scope x := by first | exact Or.inl rfl | exact Or.inr (Or.inl rfl) | exact Or.inr (Or.inr rfl)) (h1 : (x == ("__debug__" : Str)) = false := by decide) (h2 : (x == ("__classdict__" : Str)) = false := by decide)
    (hj : X.N[j]? = some y := by rfl) (hy : Loc X.env.scope y := by first | exact Or.inl rfl | exact Or.inr rfl) (hf : X.fn y = true ∨ X.env.scope.names.lookup y = some .local := by first | exact .inl rfl | exact .inr rfl)
    (hsw : swapsWith (.Call (.Attribute (.Name x p) "pop" apos) [] [] p') (some (.Name y py)) pos.line X.env = pure false := by rfl) (hbase : attributeBase (.Name x p) "pop" X.env (eval (.Name x p) X.env) = eval (.Name x p) X.env := by rfl) (hline : (apos.endLine == p'.line) = true := by rfl) :
    WS X (.Assign [.Name y py] (.Call (.Attribute (.Name x p) "pop" apos) [] [] p') pos) D σ H := by
  refine PS.w (ps_set hN hj hy (pe_bm0 PySem.F.plainAttrs_list PySem.F.slot_list_pop PySem.F.type_list_pop mt_pop (pe_var hNx hv h1 h2) hbase hline) hsw hf) ⟨.ref r, hs, .inl ⟨rfl, _, .of hr⟩, r, xs ++ [v], v, rfl, rfl, hr, by simp, ?_⟩
  rw [List.dropLast_concat]
  exact q

/-! tuple(range(n)) -/
theorem rgV_ints (z : Int) : rgV 0 z = (irange z).map V.int := by
  unfold rgV irange
  rw [List.map_map, Int.sub_zero]
  (refine List.map_congr_left fun i _ => ?_)
  show V.int (0 + (i : Int)) = V.int (i : Int)
  rw [Int.zero_add]
theorem d_tupRange {z : Int} (hm : X.mg "tuple" = none) (hm2 : X.mg "range" = none) (ha : Pe T X a σ B (.int z)) (h0 : 0 ≤ z) (h1 : z ≤ 16777216) (hc : X.calm = true := by rfl) (hg : Gl X "tuple" := by rfl) (hg2 : Gl X "range" := by rfl)
    (na : starEach [a] X.env = (false, eval a X.env) :: starEach [] X.env := by rfl) (nb : starEach [.Call (.Name "range" p2) [a] [] px] X.env = (false, eval (.Call (.Name "range" p2) [a] [] px) X.env) :: starEach [] X.env := by rfl) :
    Pe T X (.Call (.Name "tuple" p) [.Call (.Name "range" p2) [a] [] px] [] pos) σ B (dT (irange z)) := fun H1 e1 Q q =>
  PE.w (pe_tupRg hc hg hm (prg_1 hg2 hm2 pe_w na) nb) (ha H1 e1 _ fun v B2 H2 g2 hv => ⟨z, hv.intE, .of_le (by omega) h1 (by omega) h0, fun r hr => q _ _ _ (g2.new hr) (.tup upd_same (by rw [rgV_ints]; exact DaAll.ofInts _))⟩)

/-! t[1:] of a tuple that is not empty -/
theorem d_sliceT1 {n1 : Nat} {p1 p3 : Pos} (ha : Pe T X a σ B (.tuple (d :: ds))) : Pe T X (.Subscript a (.Slice (some (.Constant (.int 1) n1 p1)) none none p3) pos) σ B (.tuple ds) := fun H1 e1 Q q =>
  PE.w (pe_slice sl_tupA pe_w (po_some pe_int) po_none) (ha H1 e1 _ fun v B2 H2 g2 hv => by
    obtain ⟨r, xs, rfl, hr, hd⟩ := hv.tupE
    obtain ⟨x, ys, rfl, hx, hys⟩ := hd.consE
    refine ⟨1, rfl, r, x :: ys, rfl, .of (g2.u.tupAt hr), fun z => ?_, fun _ t ht => q _ _ _ (g2.new ht) (.tup upd_same ?_)⟩
    · have e := HT.sIx_nat (x :: ys).length 0 1
      have z1 := z.1
      have e' : HT.sIx (x :: ys).length 0 (some 1) = min 1 (x :: ys).length := e
      rw [e', List.length_cons] at z1
      omega
    · have ec : cutV (x :: ys) (some 1) none = ys := by
        unfold cutV
        have e' : HT.sIx (x :: ys).length 0 (some 1) = min 1 (x :: ys).length := HT.sIx_nat (x :: ys).length 0 1
        rw [e', HT.sIx_none, List.length_cons, show min 1 (ys.length + 1) = 1 by omega]
        show (List.take (ys.length + 1 - 1) ys) = ys
        rw [Nat.add_sub_cancel]
        exact List.take_length
      rw [ec]
      exact hys.mono (g2.u.newB g2.b.tabs ht))
/-! t <= u of pairs -/
theorem lexAt_pair (e r : Nat → Bool) (z : Bool) : Ob.lexAt e r z 0 2 = if e 0 = true then (if e 1 = true then z else r 1) else r 0 := rfl
theorem d_leP {x y : Int × Int} (hr : Room k X.A) (ha : Pe T X a σ B (dP x)) (hb : Pe T X b σ B (dP y)) : Pe T X (.Compare a [.LtE] [b] pos) σ B (.bool (decide (x.1 < y.1 ∨ (x.1 = y.1 ∧ x.2 ≤ y.2)))) := fun H1 e1 Q q =>
  PE.w (pe_cmpR (op_leT hr.units0) pe_w pe_w (nomark _)) (ha H1 e1 _ fun v B2 H2 g2 hv => hb H2 (e1.trans g2.h) _ fun v' B3 H3 g3 hv' => by
    obtain ⟨r, xs, rfl, h1, h2⟩ := (hv.mono (g2.u.trans g3.h)).tupE
    obtain ⟨r', ys, rfl, h3, h4⟩ := (hv'.mono g3.u).tupE
    have e1' := DaAll.ints (ns := [x.1, x.2]) h2
    have e2' := DaAll.ints (ns := [y.1, y.2]) h4
    subst e1' e2'
    refine ⟨r, r', [x.1, x.2], [y.1, y.2], rfl, rfl, .of h1, .of h3, ?_⟩
    refine (q (.bl (decide (x.1 < y.1 ∨ (x.1 = y.1 ∧ x.2 ≤ y.2)))) _ H3 (lim_go e1 (g2.h.trans g3.h)) (.bl _)) |> fun z => ?_
    have el : Ob.lexAt (fun j => decide (([x.1, x.2] : List Int).getD j 0 = ([y.1, y.2] : List Int).getD j 0)) (fun j => decide (([x.1, x.2] : List Int).getD j 0 ≤ ([y.1, y.2] : List Int).getD j 0)) (decide (([x.1, x.2] : List Int).length ≤ ([y.1, y.2] : List Int).length)) 0 (min ([x.1, x.2] : List Int).length ([y.1, y.2] : List Int).length) = decide (x.1 < y.1 ∨ (x.1 = y.1 ∧ x.2 ≤ y.2)) := by
      show Ob.lexAt _ _ _ 0 2 = _
      rw [lexAt_pair]
      show (if decide (x.1 = y.1) = true then (if decide (x.2 = y.2) = true then decide (2 ≤ 2) else decide (x.2 ≤ y.2)) else decide (x.1 ≤ y.1)) = _
      by_cases q1 : x.1 = y.1
      · by_cases q2 : x.2 = y.2
        · simp [q1, q2]
        · simp [q1, q2]
      · simp [q1]
        omega
    rw [el]
    exact z)
end
end DW

/-! what the defs compute: plain functions over lists of ints -/
namespace DW
open PySem PySem.Spec PyProof.Rows L2 RZ

def Web.n (w : Web) : Int := w.nums.length
def Web.num (w : Web) (p : Int) : Int := w.nums.getD p.toNat 0
def adj (w : Web) (p : Int) : List Int := (w.ties.filter fun t => decide (p ∈ [t.1, t.2])).map fun t => t.1 + t.2 - p
def tied (w : Web) (p : Int) : List Int := srt (adj w p)
inductive Reach (w : Web) (S : List Int) (a : Int) : Int → Prop
  | refl : Reach w S a a
  | step {b c : Int} : Reach w S a b → c ∈ adj w b → c ∈ S → Reach w S a c
open Classical in
noncomputable def comp (w : Web) (S : List Int) (a : Int) : List Int := S.filter fun b => decide (Reach w S a b)
noncomputable def partsF (w : Web) : Nat → List Int → List (List Int)
  | 0, _ => []
  | _ + 1, [] => []
  | n + 1, a :: r => comp w (a :: r) a :: partsF w n ((a :: r).filter fun x => !decide (x ∈ comp w (a :: r) a))
noncomputable def parts (w : Web) (S : List Int) : List (List Int) := partsF w S.length S
def others (w : Web) (lot : List Int) : List Int := (irange w.n).filter fun x => !decide (x ∈ lot)
def border (w : Web) (part lot : List Int) : List Int := lot.filter fun x => (tied w x).any fun y => decide (y ∈ part)
def least (w : Web) (lot : List Int) : Int := lmin (lot.map w.num)
def isDeep (w : Web) (piece lot : List Int) : Bool := decide (least w piece < least w (border w piece lot))
noncomputable def deep (w : Web) (lot : List Int) : List (List Int) := (parts w (others w lot)).filter fun p => isDeep w p lot
noncomputable def cost (w : Web) (lot : List Int) : Int := (deep w lot).length
def holdsB (lot inner : List Int) : Bool := inner.all fun x => decide (x ∈ lot)

/-- rising -/
abbrev Up (l : List Int) : Prop := l.Pairwise (· < ·)
def tieLt (s t : Int × Int) : Prop := s.1 < t.1 ∨ (s.1 = t.1 ∧ s.2 < t.2)
structure WebOk (w : Web) : Prop where
  n1 : 1 ≤ w.n
  n8 : w.n ≤ 8
  nums : ∀ x ∈ w.nums, -1000 ≤ x ∧ x ≤ 1000
  ties : ∀ t ∈ w.ties, 0 ≤ t.1 ∧ t.1 < t.2 ∧ t.2 < w.n
  up : w.ties.Pairwise tieLt
  few : w.ties.length ≤ 64
  conn : ∀ p, 0 ≤ p → p < w.n → Reach w (irange w.n) 0 p
structure LotOk (w : Web) (lot : List Int) : Prop where
  ne : lot ≠ []
  up : Up lot
  bd : ∀ x ∈ lot, 0 ≤ x ∧ x < w.n
theorem mem_adj {w : Web} {p c : Int} : c ∈ adj w p ↔ ∃ t ∈ w.ties, (p = t.1 ∨ p = t.2) ∧ c = t.1 + t.2 - p := by
  unfold adj
  simp only [List.mem_map, List.mem_filter, decide_eq_true_eq, List.mem_cons, List.not_mem_nil, or_false]
  constructor
  · rintro ⟨t, ⟨h1, h2⟩, h3⟩
    exact ⟨t, h1, h2, h3.symm⟩
  · rintro ⟨t, h1, h2, h3⟩
    exact ⟨t, ⟨h1, h2⟩, h3.symm⟩
open Classical in
theorem mem_comp {w : Web} {S : List Int} {a b : Int} : b ∈ comp w S a ↔ b ∈ S ∧ Reach w S a b := by
  unfold comp
  rw [List.mem_filter, decide_eq_true_eq]
theorem comp_up {w : Web} {S : List Int} {a : Int} (h : Up S) : Up (comp w S a) := h.sublist List.filter_sublist
theorem adj_sym {w : Web} {b c : Int} (h : c ∈ adj w b) : b ∈ adj w c := by
  obtain ⟨t, h1, h2, h3⟩ := mem_adj.mp h
  refine mem_adj.mpr ⟨t, h1, ?_, ?_⟩ <;> omega
/-- a rising list is told by its members -/
theorem up_eq : ∀ {l m : List Int}, Up l → Up m → (∀ x, x ∈ l ↔ x ∈ m) → l = m
  | [], [], _, _, _ => rfl
  | [], y :: m, _, _, h => by have := (h y).mpr List.mem_cons_self; cases this
  | x :: l, [], _, _, h => by have := (h x).mp List.mem_cons_self; cases this
  | x :: l, y :: m, h1, h2, h => by
    have h1 := List.pairwise_cons.mp h1
    have h2 := List.pairwise_cons.mp h2
    have e : x = y := by
      rcases List.mem_cons.mp ((h x).mp List.mem_cons_self) with e | e
      · exact e
      · rcases List.mem_cons.mp ((h y).mpr List.mem_cons_self) with e' | e'
        · exact e'.symm
        · have := h2.1 x e
          have := h1.1 y e'
          omega
    subst e
    rw [up_eq h1.2 h2.2 fun z => ?_]
    constructor
    · intro hz
      rcases List.mem_cons.mp ((h z).mp (List.mem_cons_of_mem _ hz)) with e | e
      · subst e
        have := h1.1 z hz
        omega
      · exact e
    · intro hz
      rcases List.mem_cons.mp ((h z).mpr (List.mem_cons_of_mem _ hz)) with e | e
      · subst e
        have := h2.1 z hz
        omega
      · exact e
theorem srt_up {l : List Int} (h : l.Nodup) : Up (srt l) := by
  have h1 := srt_sorted l
  have h2 : (srt l).Nodup := (srt_perm l).nodup_iff.mpr h
  unfold Up
  refine (h1.and h2).imp fun {a b} ⟨h3, h4⟩ => ?_
  omega
/-- sorted(found) of a list without repeats -/
theorem srt_eq {l m : List Int} (h : l.Nodup) (hm : Up m) (e : ∀ x, x ∈ l ↔ x ∈ m) : srt l = m := up_eq (srt_up h) hm fun x => by rw [mem_srt]; exact e x
theorem irange_up (n : Int) : Up (irange n) := by
  unfold irange Up
  rw [List.pairwise_map]
  exact List.pairwise_lt_range.imp fun h => by omega
theorem Up.nodup {l : List Int} (h : Up l) : l.Nodup := h.imp fun h e => by omega
end DW

namespace DW
open PySem PySem.Spec PyProof.Rows L2 RZ
section
variable {T : List (Addr × Str)} {P : Program} {w : World} {K : PySem.W.Frag} {mg : Str → Option Value} {base : Heap} {f : Addr} {fd : FuncData}

abbrev s_is_from : Stmt := topS 10
abbrev R_is_from : List PyData → PyData → Prop := fun ds d => ∃ v lo hi : Int, ds = [.int v, .int lo, .int hi] ∧ d = .bool (decide (lo ≤ v) && decide (v ≤ hi))
theorem sc_is_from : FnScope ["value", "least", "most"] ["value", "least", "most"] (defScope s_is_from) := ⟨rfl, rfl, rfl, by decide +kernel, rfl, by decide +kernel, by decide +kernel⟩
theorem ok_is_from (A : At K mg "is_from" s_is_from f fd) (M : Mg mg) (D1 : DefOk T P w K mg base "is_int" 1 R_is_int) : DefOk T P w K mg base "is_from" 2 R_is_from := by
  refine def_ok A.F sc_is_from A.m (A.F.binds fun _ _ _ _ _ _ us hl => match us, hl with | [_, _, _], _ => rfl) (fun ds d h => by obtain ⟨_, _, _, rfl, _⟩ := h; rfl) fun cdv A' outer s H E B vs ds d Q hr u hv hR q => ?_
  obtain ⟨i, lo, hi, rfl, rfl⟩ := hR
  obtain ⟨v0, vs, rfl, h0, hv⟩ := hv.consE
  obtain ⟨v1, vs, rfl, h1, hv⟩ := hv.consE
  obtain ⟨v2, rfl, h2⟩ := hv.one
  exact b_one (s_ret u (d_and (x := true) (d_call D1 hr (a_cons (d_var (n := 0) rfl h0) a_nil) ⟨i, rfl, rfl⟩) fun _ => d_one (d_chain op_le op_le (d_var (n := 1) rfl h1) (d_var (n := 0) rfl h0) (d_var (n := 2) rfl h2))) q)

abbrev s_is_tie : Stmt := topS 11
abbrev R_is_tie : List PyData → PyData → Prop := fun ds d => ∃ (t : Int × Int) (n : Int), ds = [dP t, .int n] ∧ 0 ≤ t.1 ∧ t.1 < t.2 ∧ t.2 < n ∧ d = .bool true
theorem sc_is_tie : FnScope ["value", "many"] ["value", "many"] (defScope s_is_tie) := ⟨rfl, rfl, rfl, by decide +kernel, rfl, by decide +kernel, by decide +kernel⟩
theorem ok_is_tie (A : At K mg "is_tie" s_is_tie f fd) (M : Mg mg) (D2 : DefOk T P w K mg base "is_from" 2 R_is_from) : DefOk T P w K mg base "is_tie" 3 R_is_tie := by
  refine def_ok A.F sc_is_tie A.m (A.F.binds fun _ _ _ _ _ _ us hl => match us, hl with | [_, _], _ => rfl) (fun ds d h => by obtain ⟨_, _, rfl, _⟩ := h; rfl) fun cdv A' outer s H E B vs ds d Q hr u hv hR q => ?_
  obtain ⟨t, n, rfl, k0, k1, k2, rfl⟩ := hR
  obtain ⟨v0, vs, rfl, h0, hv⟩ := hv.consE
  obtain ⟨v1, rfl, h1⟩ := hv.one
  refine b_skip u (Pt.is (t_w (w_or (t_not (t_val (d_isi (r := true) M.isinstance (d_var (n := 0) rfl h0) M.tuple))) fun _ => w_or1 (t_neI (d_len M.len (d_var (n := 0) rfl h0)) d_int))) (by rfl)) fun H2 e2 u2 => ?_
  refine b_one (s_ret u2 (Pe.is (d_and (d_call D2 hr (a_cons (d_ixT (d_var (n := 0) rfl h0) d_int (by rfl)) (a_cons d_int (a_cons (d_sub (d_var (n := 1) rfl h1) d_int) a_nil))) ⟨_, _, _, rfl, rfl⟩) fun _ =>
    d_and (d_call D2 hr (a_cons (d_ixT (d_var (n := 0) rfl h0) d_int (by rfl)) (a_cons d_int (a_cons (d_sub (d_var (n := 1) rfl h1) d_int) a_nil))) ⟨_, _, _, rfl, rfl⟩) fun _ => d_one (d_lt (d_ixT (d_var (n := 0) rfl h0) d_int (by rfl)) (d_ixT (d_var (n := 0) rfl h0) d_int (by rfl)))) ?_) fun v B2 H3 g hd => q v B2 H3 (g.onto u e2) hd)
  congr 1
  (simp only [Bool.and_eq_true, decide_eq_true_eq])
  omega

abbrev s_everybody : Stmt := topS 13
abbrev R_everybody : List PyData → PyData → Prop := fun ds d => ∃ W : Web, ds = [dW W] ∧ W.n ≤ 8 ∧ d = dT (irange W.n)
theorem sc_everybody : FnScope ["web"] ["web"] (defScope s_everybody) := ⟨rfl, rfl, rfl, by decide +kernel, rfl, by decide +kernel, by decide +kernel⟩
theorem ok_everybody (A : At K mg "everybody" s_everybody f fd) (M : Mg mg) : DefOk T P w K mg base "everybody" 1 R_everybody := by
  refine def_ok A.F sc_everybody A.m (A.F.binds fun _ _ _ _ _ _ us hl => match us, hl with | [_], _ => rfl) (fun ds d h => by obtain ⟨_, rfl, _⟩ := h; rfl) fun cdv A' outer s H E B vs ds d Q hr u hv hR q => ?_
  obtain ⟨W, rfl, k8, rfl⟩ := hR
  obtain ⟨v0, rfl, h0⟩ := hv.one
  have hn : ((W.nums.map PyData.int).length : Int) = W.n := by rw [List.length_map]; rfl
  have k0 : 0 ≤ W.n := Int.natCast_nonneg _
  exact b_one (s_ret u (d_tupRange M.tuple M.range (Pe.is (d_len M.len (d_ixT (d_var (n := 0) rfl h0) d_int (by rfl))) (by rw [hn])) k0 (by omega)) q)

abbrev s_tied_to : Stmt := topS 14
abbrev R_tied_to : List PyData → PyData → Prop := fun ds d => ∃ (W : Web) (p : Int), ds = [dW W, .int p] ∧ W.ties.length ≤ 64 ∧ d = .list ((tied W p).map .int)
theorem sc_tied_to : FnScope ["web", "person", "found", "one", "other"] ["web", "person"] (defScope s_tied_to) := ⟨rfl, rfl, rfl, by decide +kernel, rfl, by decide +kernel, by decide +kernel⟩
theorem ok_tied_to (A : At K mg "tied_to" s_tied_to f fd) (M : Mg mg) : DefOk T P w K mg base "tied_to" 1 R_tied_to := by
  refine def_ok A.F sc_tied_to A.m (A.F.binds fun _ _ _ _ _ _ us hl => match us, hl with | [_, _], _ => rfl) (fun ds d h => by obtain ⟨_, _, rfl, _⟩ := h; rfl) fun cdv A' outer s H E B vs ds d Q hr u hv hR q => ?_
  obtain ⟨W, p, rfl, k64, rfl⟩ := hR
  obtain ⟨v0, vs, rfl, h0, hv⟩ := hv.consE
  obtain ⟨v1, rfl, h1⟩ := hv.one
  have nd := sc_tied_to.nd
  refine b_cons (s_newL (i := 2) nd u a_nil (by decide) fun r vs B1 H1 g1 nr hvs => ?_)
  obtain rfl := hvs.nilE
  have gr : Go T B H B1 (upd H1 r (.lst [])) := g1.mine nr
  have nH : Fr0 H r := g1.h.free nr
  have nB : Fr0 B1 r := g1.u.free nr
  let F : Nat → List Int := fun i => ((W.ties.take i).filter fun t => decide (p ∈ [t.1, t.2])).map fun t => t.1 + t.2 - p
  refine b_cons (s_for gr.u (src_tup (d_ixT (d_var (n := 0) rfl (h0.mono gr.b)) d_int (by rfl))) fun B2 H2 g2 => ⟨fun i B' σ' H' => ∃ y z, σ' = [some v0, some v1, some (.ref r), y, z] ∧ Go T B H B' H' ∧ Fr0 B' r ∧ H' r = some (.lst ((F i).map V.int)),
    ⟨none, none, rfl, gr.trans g2, g2.pr r _ nB upd_same, g2.h.lstAt upd_same⟩, fun i d v B' σ' H' B4 H4 hd hI x1 x2 g4 hvd => ?_, fun B' σ' H' x1 x2 hI => ?_⟩)
  · obtain ⟨y, z, rfl, gI, nI, hI⟩ := hI
    have hi : i < W.ties.length := by
      have := (List.getElem?_eq_some_iff.mp hd).1
      rwa [List.length_map] at this
    have ed : d = dP W.ties[i] := by
      rw [List.getElem?_map, List.getElem?_eq_getElem hi] at hd
      exact (Option.some.inj hd).symm
    subst ed
    have n4 : Fr0 B4 r := g4.pr r _ nI hI
    have hI4 := g4.h.lstAt hI
    have tk : W.ties.take (i + 1) = W.ties.take i ++ [W.ties[i]] := take_snoc (List.getElem?_eq_getElem hi)
    have hp1 : v1 = .int p := h1.intE
    subst hp1
    refine g_pair (i := 3) (j := 4) g4.u hvd (fun w1 w2 k1 k2 => b_one (s_if g4.u (t_in (ns := [W.ties[i].1, W.ties[i].2]) (d_var (n := 1) rfl (.int p)) (d_tup (a_cons (d_var (n := 3) rfl k1) (a_cons (d_var (n := 4) rfl k2) a_nil)) (by simp))) (fun ht H5 e5 => ?_) fun hf H5 e5 => ?_)) nd
    · have g5 : Go T B4 H4 B4 H5 := ⟨g4.self.b, e5, g4.u.trans e5, fun _ z _ => z⟩
      have lF : (F i).length ≤ 64 := by
        have h1 := List.length_filter_le (fun t => decide (p ∈ [t.1, t.2])) (W.ties.take i)
        rw [List.length_take] at h1
        show (List.map _ _).length ≤ 64
        rw [List.length_map]
        omega
      refine b_one (s_app (i := 2) g5.u rfl (e5.lstAt hI4) (by rw [List.length_map]; omega) (d_sub (d_add (d_var (n := 3) rfl k1) (d_var (n := 4) rfl k2)) (d_var (n := 1) rfl (.int p))) fun v6 B6 H6 g6 hr6 hv6 => ⟨B6, (x1.trans g4.b).trans g6.b, ?_, _, _, rfl, ?_, ?_, ?_⟩)
      · exact g6.u.mutL (g6.pr r _ n4 (e5.lstAt hI4)) hr6
      · exact (((gI.trans g4).trans g5).trans g6).mutL nH (g6.pr r _ n4 (e5.lstAt hI4)) hr6
      · exact g6.pr r _ n4 (e5.lstAt hI4)
      · rw [upd_same, hv6.intE]
        show some (HO.lst ((F i).map V.int ++ [V.int (W.ties[i].1 + W.ties[i].2 - p)])) = some (HO.lst ((F (i + 1)).map V.int))
        have eF : F (i + 1) = F i ++ [W.ties[i].1 + W.ties[i].2 - p] := by
          show ((W.ties.take (i + 1)).filter _).map _ = _
          rw [tk, List.filter_append, List.map_append, List.filter_cons, if_pos ht]
          rfl
        rw [eF, List.map_append]
        rfl
    · have g5 : Go T B4 H4 B4 H5 := ⟨g4.self.b, e5, g4.u.trans e5, fun _ z _ => z⟩
      refine b_nil ⟨B4, x1.trans g4.b, g5.u, _, _, rfl, (gI.trans g4).trans g5, n4, ?_⟩
      have eF : F (i + 1) = F i := by
        show ((W.ties.take (i + 1)).filter _).map _ = _
        rw [tk, List.filter_append, List.map_append, List.filter_cons, if_neg (by rw [hf]; decide)]
        exact List.append_nil _
      rw [eF]
      exact e5.lstAt hI4
  · obtain ⟨y, z, rfl, gI, nI, hI⟩ := hI
    obtain ⟨Bt, gt, xt, ht⟩ := gI.shown nH nI hI (DaAll.ofInts _)
    have eF : F (W.ties.map dP).length = adj W p := by
      show ((W.ties.take (W.ties.map dP).length).filter _).map _ = _
      (rw [List.length_map, List.take_length])
      rfl
    rw [eF] at ht
    exact b_one (s_ret gt.u (d_sortedI hr M.sorted (d_var (n := 2) rfl ht)) fun v5 B5 H5 g5 hv5 => q v5 B5 H5 (gt.trans g5) hv5)
end
end DW

/-! the search of hanging, in plain Lean -/
namespace DW
open PySem PySem.Spec PyProof.Rows L2 RZ
theorem Go.ext {T : List (Addr × Str)} {B0 H0 B H H2 : Hp} (g : Go T B0 H0 B H) (e : Xt T H H2) : Go T B0 H0 B H2 := ⟨g.b, g.h.trans e, g.u.trans e, g.prm⟩

def hstep (lot : List Int) (s : List Int × List Int) (y : Int) : List Int × List Int := if (decide (y ∈ lot) && !decide (y ∈ s.1)) = true then (s.1 ++ [y], s.2 ++ [y]) else s
def unf (lot f : List Int) : Nat := (lot.filter fun x => !decide (x ∈ f)).length
structure Hg (w : Web) (lot : List Int) (p : Int) (f e : List Int) : Prop where
  nd : f.Nodup
  mem : p ∈ f
  sub : ∀ x ∈ f, x ∈ lot ∧ Reach w lot p x
  es : ∀ x ∈ e, x ∈ f
  cl : ∀ x ∈ f, x ∉ e → ∀ y ∈ adj w x, y ∈ lot → y ∈ f
theorem unf_le {lot f g : List Int} (h : ∀ x ∈ f, x ∈ g) : unf lot g ≤ unf lot f := by
  unfold unf
  induction lot with
  | nil => exact Nat.le_refl _
  | cons a l ih =>
    (rw [List.filter_cons, List.filter_cons])
    by_cases h1 : a ∈ f
    · have h2 := h a h1
      simpa [h1, h2] using ih
    · by_cases h2 : a ∈ g
      · simp only [h1, h2, decide_true, decide_false, Bool.not_true, Bool.not_false, if_true, List.length_cons]
        exact Nat.le_succ_of_le ih
      · simpa [h1, h2] using ih
theorem unf_lt {lot f : List Int} {y : Int} (hl : y ∈ lot) (hf : y ∉ f) : unf lot (f ++ [y]) + 1 ≤ unf lot f := by
  induction lot with
  | nil => cases hl
  | cons a l ih =>
    unfold unf at ih ⊢
    (rw [List.filter_cons, List.filter_cons])
    by_cases e : a = y
    · subst e
      have h1 : a ∈ f ++ [a] := by simp
      simp only [h1, hf, decide_true, decide_false, Bool.not_true, Bool.not_false, if_true, List.length_cons, Bool.false_eq_true, if_false]
      exact Nat.succ_le_succ (unf_le (lot := l) fun x hx => List.mem_append_left _ hx)
    · have hl' : y ∈ l := (List.mem_cons.mp hl).resolve_left fun z => e z.symm
      have ih := ih hl'
      by_cases h1 : a ∈ f
      · have h2 : a ∈ f ++ [y] := List.mem_append_left _ h1
        simpa [h1, h2] using ih
      · have h2 : a ∉ f ++ [y] := by simp [h1, e]
        simp only [h1, h2, decide_false, Bool.not_false, if_true, List.length_cons]
        omega
structure HF (lot ys f0 e0 : List Int) (s : List Int × List Int) : Prop where
  a1 : s.1.Nodup
  a2 : ∀ x ∈ f0, x ∈ s.1
  a3 : ∀ x ∈ e0, x ∈ s.2
  a4 : ∀ x ∈ s.1, x ∈ f0 ∨ (x ∈ ys ∧ x ∈ lot)
  a5 : ∀ x ∈ s.1, x ∉ f0 → x ∈ s.2
  a6 : ∀ x ∈ s.2, x ∈ s.1
  a7 : ∀ y ∈ ys, y ∈ lot → y ∈ s.1
  a8 : s.2.length + unf lot s.1 ≤ e0.length + unf lot f0
theorem hfold (lot : List Int) : ∀ (ys f0 e0 : List Int), f0.Nodup → (∀ x ∈ e0, x ∈ f0) → HF lot ys f0 e0 (ys.foldl (hstep lot) (f0, e0))
  | [], f0, e0, h1, h2 => ⟨h1, fun _ h => h, fun _ h => h, fun _ h => .inl h, fun _ h h' => absurd h h', h2, fun _ h => (nomatch h), Nat.le_refl _⟩
  | y :: ys, f0, e0, h1, h2 => by
    rw [List.foldl_cons]
    by_cases hc : (decide (y ∈ lot) && !decide (y ∈ f0)) = true
    · have hc' : y ∈ lot ∧ y ∉ f0 := by simpa using hc
      have es : hstep lot (f0, e0) y = (f0 ++ [y], e0 ++ [y]) := if_pos hc
      rw [es]
      obtain ⟨a1, a2, a3, a4, a5, a6, a7, a8⟩ := hfold lot ys (f0 ++ [y]) (e0 ++ [y]) (by
        rw [List.nodup_append]
        refine ⟨h1, by simp, fun a ha b hb e => ?_⟩
        have : b = y := by simpa using hb
        subst this
        subst e
        exact hc'.2 ha) (fun x hx => by
        obtain hx | hx := List.mem_append.mp hx
        · exact List.mem_append_left _ (h2 x hx)
        · exact List.mem_append_right _ hx)
      refine ⟨a1, fun x hx => a2 x (List.mem_append_left _ hx), fun x hx => a3 x (List.mem_append_left _ hx), fun x hx => ?_, fun x hx hn => ?_, a6, fun z hz hl => ?_, ?_⟩
      · rcases a4 x hx with z | ⟨z1, z2⟩
        · rcases List.mem_append.mp z with z | z
          · exact .inl z
          · have : x = y := by simpa using z
            subst this
            exact .inr ⟨List.mem_cons_self, hc'.1⟩
        · exact .inr ⟨List.mem_cons_of_mem _ z1, z2⟩
      · by_cases e : x = y
        · subst e
          exact a3 x (by simp)
        · exact a5 x hx (by simp [hn, e])
      · rcases List.mem_cons.mp hz with e | hz
        · subst e
          exact a2 z (by simp)
        · exact a7 z hz hl
      · have := unf_lt hc'.1 hc'.2
        rw [List.length_append, List.length_singleton] at a8
        omega
    · have es : hstep lot (f0, e0) y = (f0, e0) := if_neg hc
      rw [es]
      obtain ⟨a1, a2, a3, a4, a5, a6, a7, a8⟩ := hfold lot ys f0 e0 h1 h2
      refine ⟨a1, a2, a3, fun x hx => ?_, a5, a6, fun z hz hl => ?_, a8⟩
      · rcases a4 x hx with z | ⟨z1, z2⟩
        · exact .inl z
        · exact .inr ⟨List.mem_cons_of_mem _ z1, z2⟩
      · rcases List.mem_cons.mp hz with e | hz
        · subst e
          have : z ∈ f0 := by
            refine Classical.byContradiction fun n => hc ?_
            simp [hl, n]
          exact a2 z this
        · exact a7 z hz hl
theorem Hg.start {w : Web} {lot : List Int} {p : Int} (h : p ∈ lot) : Hg w lot p [p] [p] :=
  ⟨by simp, by simp, fun x hx => (by
    have e : x = p := (by simpa using hx)
    subst e
    exact ⟨h, .refl⟩), fun _ h => h, fun x hx hn => absurd hx hn⟩
theorem Hg.next {w : Web} {lot : List Int} {p h : Int} {f e : List Int} (g : Hg w lot p f (e ++ [h])) :
    Hg w lot p ((tied w h).foldl (hstep lot) (f, e)).1 ((tied w h).foldl (hstep lot) (f, e)).2 ∧ ((tied w h).foldl (hstep lot) (f, e)).2.length + unf lot ((tied w h).foldl (hstep lot) (f, e)).1 < (e ++ [h]).length + unf lot f := by
  obtain ⟨a1, a2, a3, a4, a5, a6, a7, a8⟩ := hfold lot (tied w h) f e g.nd fun x hx => g.es x (List.mem_append_left _ hx)
  have hh : h ∈ f := g.es h (by simp)
  refine ⟨⟨a1, a2 p g.mem, fun x hx => ?_, a6, fun x hx hn y hy hl => ?_⟩, ?_⟩
  · rcases a4 x hx with z | ⟨z1, z2⟩
    · exact g.sub x z
    · exact ⟨z2, .step (g.sub h hh).2 (mem_srt.mp z1) z2⟩
  · by_cases hxf : x ∈ f
    · by_cases e' : x = h
      · subst e'
        exact a7 y (mem_srt.mpr hy) hl
      · refine a2 y (g.cl x hxf (fun z => ?_) y hy hl)
        rcases List.mem_append.mp z with z | z
        · exact hn (a3 x z)
        · exact e' (by simpa using z)
    · exact absurd (a5 x hx hxf) hn
  · (rw [List.length_append, List.length_singleton])
    omega
theorem Hg.done {w : Web} {lot : List Int} {p : Int} {f : List Int} (g : Hg w lot p f []) (hl : Up lot) : srt f = comp w lot p := by
  refine srt_eq g.nd (comp_up hl) fun x => ?_
  rw [mem_comp]
  constructor
  · exact g.sub x
  · rintro ⟨hx, hr⟩
    induction hr with
    | refl => exact g.mem
    | @step b c h1 h2 h3 ih =>
      have hb : b ∈ f := by
        cases h1 with
        | refl => exact g.mem
        | step _ _ h => exact ih h
      exact g.cl b hb (by simp) c h2 h3
theorem nodup_len {f lot : List Int} (h : f.Nodup) (hs : ∀ x ∈ f, x ∈ lot) : f.length ≤ lot.length := by
  induction f generalizing lot with
  | nil => exact Nat.zero_le _
  | cons a f ih =>
    rw [List.nodup_cons] at h
    have ha : a ∈ lot := hs a List.mem_cons_self
    have := ih (lot := lot.erase a) h.2 fun x hx => by
      have hne : x ≠ a := fun e => h.1 (e ▸ hx)
      exact (List.mem_erase_of_ne hne).mpr (hs x (List.mem_cons_of_mem _ hx))
    rw [List.length_erase_of_mem ha] at this
    have := List.length_pos_of_mem ha
    rw [List.length_cons]
    omega
end DW

namespace DW
open PySem PySem.Spec PyProof.Rows L2 RZ
section
variable {T : List (Addr × Str)} {P : Program} {w : World} {K : PySem.W.Frag} {mg : Str → Option Value} {base : Heap} {f : Addr} {fd : FuncData}

abbrev s_hanging : Stmt := topS 15
abbrev R_hanging : List PyData → PyData → Prop := fun ds d => ∃ (W : Web) (p : Int) (D : PyData) (lot : List Int), ds = [dW W, .int p, D] ∧ SeqD D (lot.map .int) ∧ W.ties.length ≤ 64 ∧ Up lot ∧ lot.length ≤ 8 ∧ p ∈ lot ∧ d = dT (comp W lot p)
theorem sc_hanging : FnScope ["web", "person", "lot", "found", "edge", "here", "other"] ["web", "person", "lot"] (defScope s_hanging) := ⟨rfl, rfl, rfl, by decide +kernel, rfl, by decide +kernel, by decide +kernel⟩
theorem ok_hanging (A : At K mg "hanging" s_hanging f fd) (M : Mg mg) (DT : DefOk T P w K mg base "tied_to" 1 R_tied_to) : DefOk T P w K mg base "hanging" 2 R_hanging := by
  refine def_ok A.F sc_hanging A.m (A.F.binds fun _ _ _ _ _ _ us hl => match us, hl with | [_, _, _], _ => rfl) (fun ds d h => by obtain ⟨_, _, _, _, rfl, _⟩ := h; rfl) fun cdv A' outer s H E B vs ds d Q hr u hv hR q => ?_
  obtain ⟨W, p, D, lot, rfl, sd, k64, kup, k8, kp, rfl⟩ := hR
  obtain ⟨v0, vs, rfl, h0, hv⟩ := hv.consE
  obtain ⟨v1, vs, rfl, h1, hv⟩ := hv.consE
  obtain ⟨v2, rfl, h2⟩ := hv.one
  have hp1 : v1 = .int p := h1.intE
  subst hp1
  have nd := sc_hanging.nd
  refine b_cons (s_par (i := 3) (j := 4) nd (by decide) (wa_cons (we_lst (wa_cons (PE.w (pv 1) ⟨_, rfl, wa_nil ⟨by show 1 ≤ sizeLine; decide, fun r nr => wa_cons (we_lst (wa_cons (PE.w (pv 1) ⟨_, rfl, wa_nil ⟨by show 1 ≤ sizeLine; decide, fun r' nr' => wa_nil ⟨.ref r, .ref r', rfl, ?_⟩⟩⟩)))⟩⟩)))) (by rfl))
  have g0 := lim_go u u.self
  have nrr : r' ≠ r := by
    rintro rfl
    rw [upd_same] at nr'
    cases nr'
  have g1 := g0.mine (o := .lst [.int p]) nr
  have g2 := g1.mine (o := .lst [.int p]) nr'
  have hr1 : upd (upd H r (.lst [.int p])) r' (.lst [.int p]) r = some (.lst [.int p]) := by rw [upd_ne nrr.symm, upd_same]
  have hr2 : upd (upd H r (.lst [.int p])) r' (.lst [.int p]) r' = some (.lst [.int p]) := upd_same
  have nH : Fr0 H r := .of nr
  have nH' : Fr0 H r' := g1.h.free nr'
  refine b_cons (s_while (T := T) (fun m σ' H' => ∃ fn e B' y z, σ' = [some v0, some (.int p), some v2, some (.ref r), some (.ref r'), y, z] ∧ Hg W lot p fn e ∧ m = e.length + unf lot fn ∧ e.length + unf lot fn ≤ 9 ∧ Go T B H B' H' ∧ Fr0 B' r ∧ Fr0 B' r' ∧ H' r = some (.lst (fn.map V.int)) ∧ H' r' = some (.lst (e.map V.int)))
    _ ⟨[p], [p], _, none, none, rfl, .start kp, rfl, ?_, g2, g0.u.free nr, g1.u.free nr', hr1, hr2⟩ fun m σ' H' hI => ?_)
  · have : unf lot [p] ≤ lot.length := List.length_filter_le _ _
    rw [List.length_singleton]
    omega
  obtain ⟨fn, e, B', y, z, rfl, hg, rfl, hm, gI, n1, n2, a1, a2⟩ := hI
  obtain ⟨Bt, ut, xt, ht⟩ := gI.u.shown gI.b.tabs n2 a2 (DaAll.ofInts e)
  have eqe : PyData.eqv (.list (e.map .int)) (.list []) = decide (e = []) := eqv_dL e []
  refine ⟨_, Bt, ut, t_neD hr (d_var (n := 4) rfl ht) (d_lst a_nil (by decide)) (shaped_dL e) (shaped_dL []), fun hb H2 e2 => ?_, fun hb H2 e2 => ?_⟩
  · rw [eqe] at hb
    have hne : e ≠ [] := by simpa using hb
    obtain ⟨e0, h, rfl⟩ : ∃ e0 h, e = e0 ++ [h] := ⟨e.dropLast, e.getLast hne, (List.dropLast_concat_getLast hne).symm⟩
    have gI2 := gI.ext e2
    have b1 := e2.lstAt a1
    have b2 : H2 r' = some (.lst (e0.map V.int ++ [V.int h])) := by
      have := e2.lstAt a2
      rw [List.map_append] at this
      exact this
    refine b_cons (s_pop (i := 4) (j := 5) nd rfl b2 ?_)
    have gP : Go T B H B' (upd H2 r' (.lst (e0.map V.int))) := gI2.mutL nH' n2 b2
    have c1 : upd H2 r' (.lst (e0.map V.int)) r = some (.lst (fn.map V.int)) := by rw [upd_ne nrr.symm]; exact b1
    have hn := hg.next
    refine b_one (s_for gP.u (src_list (d_call DT hr (a_cons (d_var (n := 0) rfl (h0.mono gP.b)) (a_cons (d_var (n := 5) rfl (.int h)) a_nil)) ⟨W, h, rfl, k64, rfl⟩)) fun B2 H4 g4 => ⟨fun i B' σ' H' => ∃ z, σ' = [some v0, some (.int p), some v2, some (.ref r), some (.ref r'), some (.int h), z] ∧ Go T B H B' H' ∧ Fr0 B' r ∧ Fr0 B' r' ∧
        H' r = some (.lst ((((tied W h).take i).foldl (hstep lot) (fn, e0)).1.map V.int)) ∧ H' r' = some (.lst ((((tied W h).take i).foldl (hstep lot) (fn, e0)).2.map V.int)),
      ⟨z, rfl, gP.trans g4, g4.pr r _ n1 c1, g4.pr r' _ n2 upd_same, g4.h.lstAt c1, g4.h.lstAt upd_same⟩, fun i d v B5 σ' H5 B6 H6 hd hI x1 x2 g6 hvd => ?_, fun B5 σ' H5 x1 x2 hI => ?_⟩)
    · obtain ⟨z, rfl, gJ, m1, m2, c1, c2⟩ := hI
      have hi : i < (tied W h).length := by
        have := (List.getElem?_eq_some_iff.mp hd).1
        rwa [List.length_map] at this
      have ed : d = .int (tied W h)[i] := by
        rw [List.getElem?_map, List.getElem?_eq_getElem hi] at hd
        exact (Option.some.inj hd).symm
      subst ed
      generalize hy : (tied W h)[i] = y at hvd
      have hvy := hvd.intE
      subst hvy
      have tk : (tied W h).take (i + 1) = (tied W h).take i ++ [y] := by rw [← hy]; exact take_snoc (List.getElem?_eq_getElem hi)
      have F := hfold lot ((tied W h).take i) fn e0 hg.nd fun x hx => hg.es x (List.mem_append_left _ hx)
      generalize hs : ((tied W h).take i).foldl (hstep lot) (fn, e0) = st at c1 c2 F
      have e1 : ((tied W h).take (i + 1)).foldl (hstep lot) (fn, e0) = hstep lot st y := by rw [tk, List.foldl_append, hs]; rfl
      have k1 : Fr0 B6 r := g6.pr r _ m1 c1
      have k2 : Fr0 B6 r' := g6.pr r' _ m2 c2
      have d1 := g6.h.lstAt c1
      have d2 := g6.h.lstAt c2
      have gK := gJ.trans g6
      obtain ⟨Bu, uu, xu, hu⟩ := gK.u.shown gK.b.tabs k1 d1 (DaAll.ofInts st.1)
      have l1 : st.1.length ≤ 8 := Nat.le_trans (nodup_len F.a1 fun x hx => (F.a4 x hx).elim (fun z => (hg.sub x z).1) fun z => z.2) k8
      have l2 : st.2.length ≤ 9 := by
        have := F.a8
        rw [List.length_append, List.length_singleton] at hm
        omega
      refine g_name (i := 6) (b_one (s_if uu (t_w (w_and (t_in (d_var (n := 6) rfl (.int y)) (d_var (n := 2) rfl (h2.mono (gK.b.trans xu))) sd) fun _ => w_and1 (t_notIn (d_var (n := 6) rfl (.int y)) (d_var (n := 3) rfl hu)))) (fun hc H7 e7 => ?_) fun hc H7 e7 => ?_)) nd
      · have g7 := gK.ext e7
        have es : hstep lot st y = (st.1 ++ [y], st.2 ++ [y]) := if_pos hc
        refine b_cons (s_app (i := 3) g7.u rfl (e7.lstAt d1) (by rw [List.length_map]; omega) (d_var (n := 6) rfl (.int y)) fun v8 B8 H8 g8 f1 hv8 => ?_)
        have t1 : Fr0 B8 r := g8.pr r _ k1 (e7.lstAt d1)
        have t2 : Fr0 B8 r' := g8.pr r' _ k2 (e7.lstAt d2)
        have f2 : H8 r' = some (.lst (st.2.map V.int)) := g8.h.lstAt (e7.lstAt d2)
        have g9 : Go T B H B8 (upd H8 r (.lst (st.1.map V.int ++ [v8]))) := (g7.trans g8).mutL nH t1 f1
        have f3 : upd H8 r (.lst (st.1.map V.int ++ [v8])) r' = some (.lst (st.2.map V.int)) := by rw [upd_ne nrr]; exact f2
        refine b_one (s_app (i := 4) g9.u rfl f3 (by rw [List.length_map]; omega) (d_var (n := 6) rfl (.int y)) fun v10 B10 H10 g10 f4 hv10 => ⟨B10, ((x1.trans g6.b).trans g8.b).trans g10.b, ?_, _, rfl, ?_, g10.pr r _ t1 upd_same, g10.pr r' _ t2 f3, ?_, ?_⟩)
        · exact g10.u.mutL (g10.pr r' _ t2 f3) f4
        · exact (g9.trans g10).mutL nH' (g10.pr r' _ t2 f3) f4
        · rw [e1, es, upd_ne nrr.symm, g10.h.lstAt upd_same, hv8.intE, List.map_append]
          rfl
        · rw [e1, es, upd_same, hv10.intE, List.map_append]
          rfl
      · have es : hstep lot st y = st := if_neg (by rw [hc]; exact Bool.false_ne_true)
        have g7 := gK.ext e7
        refine b_nil ⟨B6, x1.trans g6.b, g7.u, _, rfl, g7, k1, k2, ?_, ?_⟩
        · rw [e1, es]
          exact e7.lstAt d1
        · rw [e1, es]
          exact e7.lstAt d2
    · obtain ⟨z, rfl, gJ, m1, m2, c1, c2⟩ := hI
      rw [List.length_map, List.take_length] at c1 c2
      refine ⟨_, hn.2, _, _, B5, _, _, rfl, hn.1, rfl, ?_, gJ, m1, m2, c1, c2⟩
      have := hn.2
      omega
  · rw [eqe] at hb
    have hne : e = [] := by simpa using hb
    subst hne
    have gI2 := gI.ext e2
    obtain ⟨Bu, gu, xu, hu⟩ := gI2.shown nH n1 (e2.lstAt a1) (DaAll.ofInts fn)
    refine b_one (s_ret gu.u (d_tuple M.tuple (d_sortedI hr M.sorted (d_var (n := 3) rfl hu))) fun v5 B5 H5 g5 hv5 => q v5 B5 H5 (gu.trans g5) ?_)
    rw [hg.done kup] at hv5
    exact hv5
end
end DW

/-! parts of a lot, in plain Lean -/
namespace DW
open PySem PySem.Spec PyProof.Rows L2 RZ

theorem comp_self {w : Web} {S : List Int} {a : Int} (h : a ∈ S) : a ∈ comp w S a := mem_comp.mpr ⟨h, .refl⟩
theorem rest_len {w : Web} {a : Int} {r : List Int} : ((a :: r).filter fun x => !decide (x ∈ comp w (a :: r) a)).length ≤ r.length := by
  have h : a ∈ comp w (a :: r) a := comp_self List.mem_cons_self
  rw [List.filter_cons]
  simp only [h, decide_true, Bool.not_true, Bool.false_eq_true, if_false]
  exact List.length_filter_le _ _
theorem partsF_fuel (w : Web) : ∀ (n m : Nat) (l : List Int), l.length ≤ n → l.length ≤ m → partsF w n l = partsF w m l
  | 0, 0, _, _, _ => rfl
  | 0, m + 1, [], _, _ => rfl
  | 0, _ + 1, _ :: _, h, _ => absurd h (Nat.not_succ_le_zero _)
  | n + 1, 0, [], _, _ => rfl
  | _ + 1, 0, _ :: _, _, h => absurd h (Nat.not_succ_le_zero _)
  | _ + 1, _ + 1, [], _, _ => rfl
  | n + 1, m + 1, a :: r, h1, h2 => by
    have k := rest_len (w := w) (a := a) (r := r)
    rw [List.length_cons] at h1 h2
    show comp w (a :: r) a :: _ = comp w (a :: r) a :: _
    rw [partsF_fuel w n m _ (by omega) (by omega)]
theorem parts_nil (w : Web) : parts w [] = [] := rfl
theorem parts_cons (w : Web) (a : Int) (r : List Int) : parts w (a :: r) = comp w (a :: r) a :: parts w ((a :: r).filter fun x => !decide (x ∈ comp w (a :: r) a)) := by
  show partsF w (r.length + 1) (a :: r) = _
  show comp w (a :: r) a :: _ = comp w (a :: r) a :: _
  unfold parts
  rw [partsF_fuel w r.length _ _ rest_len (Nat.le_refl _)]
/-- what is so of each part -/
theorem parts_ind {w : Web} (C : List Int → Prop) (Q : List Int → Prop) (hq : ∀ a r, C (a :: r) → Q (comp w (a :: r) a)) (hc : ∀ a r, C (a :: r) → C ((a :: r).filter fun x => !decide (x ∈ comp w (a :: r) a))) :
    ∀ (n : Nat) (l : List Int), l.length ≤ n → C l → ∀ p ∈ parts w l, Q p
  | _, [], _, _, p, hp => by rw [parts_nil] at hp; cases hp
  | 0, _ :: _, h, _, _, _ => absurd h (Nat.not_succ_le_zero _)
  | n + 1, a :: r, h, hC, p, hp => by
    rw [parts_cons] at hp
    obtain e | hp := List.mem_cons.mp hp
    · rw [e]
      exact hq a r hC
    · have k := rest_len (w := w) (a := a) (r := r)
      rw [List.length_cons] at h
      exact parts_ind C Q hq hc n _ (by omega) (hc a r hC) p hp
/-- within S, with all of S that is tied to it -/
structure Cl (w : Web) (S S' : List Int) : Prop where
  up : Up S'
  sub : ∀ x ∈ S', x ∈ S
  cl : ∀ x ∈ S', ∀ y ∈ adj w x, y ∈ S → y ∈ S'
theorem Cl.refl {w : Web} {S : List Int} (h : Up S) : Cl w S S := ⟨h, fun _ h => h, fun _ _ _ _ h => h⟩
theorem Cl.comp {w : Web} {S S' : List Int} (c : Cl w S S') (a : Int) (ha : a ∈ S') : Cl w S (comp w S' a) :=
  ⟨comp_up c.up, fun x hx => c.sub x (mem_comp.mp hx).1, fun x hx y hy hs => by
    obtain ⟨h1, h2⟩ := mem_comp.mp hx
    exact mem_comp.mpr ⟨c.cl x h1 y hy hs, .step h2 hy (c.cl x h1 y hy hs)⟩⟩
theorem Cl.rest {w : Web} {S S' c : List Int} (h : Cl w S S') (hc : Cl w S c) : Cl w S (S'.filter fun x => !decide (x ∈ c)) :=
  ⟨h.up.sublist List.filter_sublist, fun x hx => h.sub x (List.mem_filter.mp hx).1, fun x hx y hy hs => by
    obtain ⟨h1, h2⟩ := List.mem_filter.mp hx
    refine List.mem_filter.mpr ⟨h.cl x h1 y hy hs, ?_⟩
    have h2 : x ∉ c := by simpa using h2
    have : y ∉ c := fun z => h2 (hc.cl y z x (adj_sym hy) (h.sub x h1))
    simpa using this⟩
/-- each part: where it is from -/
theorem parts_of_mem {w : Web} {S p : List Int} (hS : Up S) (hp : p ∈ parts w S) : p ≠ [] ∧ Cl w S p := by
  refine parts_ind (w := w) (Cl w S) (fun p => p ≠ [] ∧ Cl w S p) (fun a r h => ⟨?_, h.comp a List.mem_cons_self⟩) (fun a r h => h.rest (h.comp a List.mem_cons_self)) S.length S (Nat.le_refl _) (.refl hS) p hp
  exact List.ne_nil_of_mem (comp_self List.mem_cons_self)
/-- the search in all of S or in what is left of it -/
theorem reach_cl {w : Web} {S S' : List Int} (c : Cl w S S') {a b : Int} (ha : a ∈ S') (h : Reach w S a b) : b ∈ S' ∧ Reach w S' a b := by
  induction h with
  | refl => exact ⟨ha, .refl⟩
  | step h1 h2 h3 ih => exact ⟨c.cl _ ih.1 _ h2 h3, .step ih.2 h2 (c.cl _ ih.1 _ h2 h3)⟩
theorem reach_sub {w : Web} {S S' : List Int} (hs : ∀ x ∈ S', x ∈ S) {a b : Int} (h : Reach w S' a b) : Reach w S a b := by
  induction h with
  | refl => exact .refl
  | step h1 h2 h3 ih => exact .step ih h2 (hs _ h3)
theorem comp_cl {w : Web} {S S' : List Int} (hS : Up S) (c : Cl w S S') {a : Int} (ha : a ∈ S') : comp w S a = comp w S' a := by
  refine up_eq (comp_up hS) (comp_up c.up) fun x => ?_
  rw [mem_comp, mem_comp]
  constructor
  · rintro ⟨h1, h2⟩
    exact reach_cl c ha h2
  · rintro ⟨h1, h2⟩
    exact ⟨c.sub x h1, reach_sub c.sub h2⟩

/-! a border is never empty -/
theorem adj_bd {w : Web} (h : WebOk w) {x y : Int} (hy : y ∈ adj w x) : 0 ≤ y ∧ y < w.n := by
  obtain ⟨t, h1, h2, h3⟩ := mem_adj.mp hy
  have := h.ties t h1
  omega
theorem reach_sym {w : Web} {S : List Int} {a b : Int} (ha : a ∈ S) (h : Reach w S a b) : Reach w S b a := by
  have tr : ∀ {x y z : Int}, Reach w S x y → Reach w S y z → Reach w S x z := by
    intro x y z h1 h2
    induction h2 with
    | refl => exact h1
    | step _ k1 k2 ih => exact .step ih k1 k2
  induction h with
  | refl => exact .refl
  | @step b c h1 h2 h3 ih =>
    have hb : b ∈ S := by
      cases h1 with
      | refl => exact ha
      | step _ _ k => exact k
    exact tr (.step .refl (adj_sym h2) hb) ih
theorem leave {w : Web} {S p : List Int} {a b : Int} (ha : a ∈ p) (hb : b ∉ p) (h : Reach w S a b) : ∃ x ∈ p, ∃ y ∈ adj w x, y ∈ S ∧ y ∉ p := by
  induction h with
  | refl => exact absurd ha hb
  | @step b c h1 h2 h3 ih =>
    by_cases hb' : b ∈ p
    · exact ⟨b, hb', c, h2, h3, hb⟩
    · exact ih hb'
theorem mem_others {w : Web} {lot : List Int} {x : Int} : x ∈ others w lot ↔ (0 ≤ x ∧ x < w.n) ∧ x ∉ lot := by
  unfold others
  rw [List.mem_filter, mem_irange]
  simp
theorem others_up (w : Web) (lot : List Int) : Up (others w lot) := (irange_up _).sublist List.filter_sublist
theorem mem_border {w : Web} {p lot : List Int} {x : Int} : x ∈ border w p lot ↔ x ∈ lot ∧ ∃ y ∈ adj w x, y ∈ p := by
  unfold border
  rw [List.mem_filter, List.any_eq_true]
  simp only [decide_eq_true_eq]
  constructor
  · rintro ⟨h1, y, h2, h3⟩
    exact ⟨h1, y, mem_srt.mp h2, h3⟩
  · rintro ⟨h1, y, h2, h3⟩
    exact ⟨h1, y, mem_srt.mpr h2, h3⟩
theorem border_ne {w : Web} (h : WebOk w) {lot p : List Int} (hl : LotOk w lot) (hp : p ≠ []) (c : Cl w (others w lot) p) : border w p lot ≠ [] := by
  obtain ⟨a, ha⟩ := List.exists_mem_of_ne_nil p hp
  obtain ⟨b, hb⟩ := List.exists_mem_of_ne_nil lot hl.ne
  have ha' := mem_others.mp (c.sub a ha)
  have hb' := hl.bd b hb
  have hbp : b ∉ p := fun z => (mem_others.mp (c.sub b z)).2 hb
  have tr : ∀ {x y z : Int}, Reach w (irange w.n) x y → Reach w (irange w.n) y z → Reach w (irange w.n) x z := by
    intro x y z h1 h2
    induction h2 with
    | refl => exact h1
    | step _ k1 k2 ih => exact .step ih k1 k2
  have h0 : (0 : Int) ∈ irange w.n := mem_irange.mpr ⟨by omega, by have := h.n1; omega⟩
  have hr : Reach w (irange w.n) a b := tr (reach_sym h0 (h.conn a ha'.1.1 ha'.1.2)) (h.conn b hb'.1 hb'.2)
  obtain ⟨x, hx, y, hy, hyS, hyp⟩ := leave ha hbp hr
  have hyl : y ∈ lot := by
    refine Classical.byContradiction fun n => hyp (c.cl x hx y hy (mem_others.mpr ⟨mem_irange.mp hyS, n⟩))
  exact List.ne_nil_of_mem (mem_border.mpr ⟨hyl, x, adj_sym hy, hx⟩)
theorem up_len : ∀ {l : List Int} {lo hi : Int}, Up l → (∀ x ∈ l, lo ≤ x ∧ x < hi) → (l.length : Int) ≤ max 0 (hi - lo)
  | [], lo, hi, _, _ => by simp; omega
  | a :: l, lo, hi, h, hb => by
    have h := List.pairwise_cons.mp h
    have ha := hb a List.mem_cons_self
    have ih := up_len (l := l) (lo := a + 1) (hi := hi) h.2 fun x hx => ⟨by have := h.1 x hx; omega, (hb x (List.mem_cons_of_mem _ hx)).2⟩
    rw [List.length_cons]
    omega
theorem LotOk.len {w : Web} {lot : List Int} (h : LotOk w lot) (hw : WebOk w) : lot.length ≤ 8 := by
  have := up_len h.up h.bd
  have := hw.n8
  have := hw.n1
  omega
theorem others_len {w : Web} (hw : WebOk w) (lot : List Int) : (others w lot).length ≤ 8 := by
  have := up_len (others_up w lot) (fun x hx => (mem_others.mp hx).1)
  have := hw.n8
  have := hw.n1
  omega
theorem parts_len {w : Web} : ∀ (n : Nat) (l : List Int), l.length ≤ n → (parts w l).length ≤ l.length
  | _, [], _ => by rw [parts_nil]; exact Nat.le_refl _
  | 0, _ :: _, h => absurd h (Nat.not_succ_le_zero _)
  | n + 1, a :: r, h => by
    rw [parts_cons, List.length_cons, List.length_cons]
    have k := rest_len (w := w) (a := a) (r := r)
    rw [List.length_cons] at h
    have := parts_len (w := w) n ((a :: r).filter fun x => !decide (x ∈ comp w (a :: r) a)) (by omega)
    omega
end DW

namespace DW
open PySem PySem.Spec PyProof.Rows L2 RZ
theorem Pe.at {T : List (Addr × Str)} {X : Cx} {e : Expr} {σ : L2.St} {B H : Hp} {d : PyData} {Q : VK} (h : Pe T X e σ B d) (u : Xt T B H) (q : ∀ v B2 H2, Go T B H B2 H2 → Da B2 v d → Q v H2) : WE X e σ H Q := h H u Q q
theorem atI_zero {α : Type} (d : α) (ds : List α) : atI (d :: ds) 0 = some d := atI_nat (j := 0) rfl
theorem atI_num {W : Web} {p : Int} (h0 : 0 ≤ p) (h1 : p < W.n) : atI (W.nums.map PyData.int) p = some (.int (W.num p)) := by
  obtain ⟨i, rfl⟩ : ∃ i : Nat, p = i := ⟨p.toNat, by omega⟩
  have hi : i < W.nums.length := by
    have : ((i : Nat) : Int) < (W.nums.length : Int) := h1
    omega
  refine atI_nat ?_
  (rw [List.getElem?_map, List.getElem?_eq_getElem hi])
  show some (PyData.int W.nums[i]) = some (.int (W.nums.getD ((i : Nat) : Int).toNat 0))
  rw [Int.toNat_natCast, List.getD_eq_getElem?_getD, List.getElem?_eq_getElem hi]
  rfl
section
variable {T : List (Addr × Str)} {P : Program} {w : World} {K : PySem.W.Frag} {mg : Str → Option Value} {base : Heap} {f : Addr} {fd : FuncData}

abbrev s_parts_of : Stmt := topS 18
abbrev R_parts_of : List PyData → PyData → Prop := fun ds d => ∃ (W : Web) (D : PyData) (lot : List Int), ds = [dW W, D] ∧ SeqD D (lot.map .int) ∧ W.ties.length ≤ 64 ∧ Up lot ∧ lot.length ≤ 8 ∧ d = .tuple ((parts W lot).map dT)
theorem sc_parts_of : FnScope ["web", "lot", "found", "left", "part", "one"] ["web", "lot"] (defScope s_parts_of) := ⟨rfl, rfl, rfl, by decide +kernel, rfl, by decide +kernel, by decide +kernel⟩
theorem ok_parts_of (A : At K mg "parts_of" s_parts_of f fd) (M : Mg mg) (DH : DefOk T P w K mg base "hanging" 2 R_hanging) : DefOk T P w K mg base "parts_of" 3 R_parts_of := by
  refine def_ok A.F sc_parts_of A.m (A.F.binds fun _ _ _ _ _ _ us hl => match us, hl with | [_, _], _ => rfl) (fun ds d h => by obtain ⟨_, _, _, rfl, _⟩ := h; rfl) fun cdv A' outer s H E B vs ds d Q hr u hv hR q => ?_
  obtain ⟨W, D, lot, rfl, sd, k64, kup, k8, rfl⟩ := hR
  obtain ⟨v0, vs, rfl, h0, hv⟩ := hv.consE
  obtain ⟨v1, rfl, h1⟩ := hv.one
  have nd := sc_parts_of.nd
  have g0 := lim_go u u.self
  refine b_cons (s_par (i := 2) (j := 3) nd (by decide) (wa_cons (we_lst (wa_nil ⟨by show 0 ≤ sizeLine; decide, fun r nr => ?_⟩))) (by rfl))
  have g1 := g0.mine (o := .lst []) nr
  have nH : Fr0 H r := .of nr
  refine wa_cons (Pe.at (d_list M.list (d_var (n := 1) rfl (h1.mono g1.b)) sd) g1.u fun v2 B2 H2 g2 hv2 => wa_nil ⟨.ref r, v2, rfl, ?_⟩)
  have n2 : Fr0 B2 r := g2.pr r _ (g0.u.free nr) upd_same
  have r2 : H2 r = some (.lst []) := g2.h.lstAt upd_same
  refine b_cons (s_while (T := T) (fun m σ' H' => ∃ acc l xs B' v3 y, σ' = [some v0, some v1, some (.ref r), some v3, y, none] ∧ Up l ∧ m = l.length ∧ l.length ≤ 8 ∧ acc ++ parts W l = parts W lot ∧ Go T B H B' H' ∧ Fr0 B' r ∧ H' r = some (.lst xs) ∧ DaAll B' xs (acc.map dT) ∧ Da B' v3 (.list (l.map .int)))
    _ ⟨[], lot, [], B2, v2, none, rfl, kup, rfl, k8, rfl, g1.trans g2, n2, r2, .nil, hv2⟩ fun m σ' H' hI => ?_)
  obtain ⟨acc, l, xs, B', v3, y, rfl, lup, rfl, l8, hp, gI, n1, a1, a2, a3⟩ := hI
  have eqe : PyData.eqv (.list (l.map .int)) (.list []) = decide (l = []) := eqv_dL l []
  refine ⟨_, B', gI.u, t_neD hr (d_var (n := 3) rfl a3) (d_lst a_nil (by decide)) (shaped_dL l) (shaped_dL []), fun hb H3 e3 => ?_, fun hb H3 e3 => ?_⟩
  · rw [eqe] at hb
    have hne : l ≠ [] := by simpa using hb
    obtain ⟨a, t, rfl⟩ : ∃ a t, l = a :: t := by
      cases l with
      | nil => exact absurd rfl hne
      | cons a t => exact ⟨a, t, rfl⟩
    have gI3 := gI.ext e3
    refine b_cons (s_set (i := 4) nd gI3.u (d_call DH hr (a_cons (d_var (n := 0) rfl (h0.mono gI3.b)) (a_cons (d_ixL (d_var (n := 3) rfl a3) d_int (atI_zero _ _)) (a_cons (d_var (n := 3) rfl a3) a_nil))) ⟨W, a, _, a :: t, rfl, .lst _, k64, lup, l8, List.mem_cons_self, rfl⟩) fun v4 B4 H4 g4 hv4 => ?_)
    have gI4 := gI3.trans g4
    have n4 : Fr0 B4 r := g4.pr r _ n1 (e3.lstAt a1)
    have r4 : H4 r = some (.lst xs) := g4.h.lstAt (e3.lstAt a1)
    have lx : xs.length < 100000 := by
      have h1 := a2.length
      have h2 := congrArg List.length hp
      rw [List.length_append] at h2
      rw [List.length_map] at h1
      have := parts_len (w := W) lot.length lot (Nat.le_refl _)
      omega
    refine b_cons (s_app (i := 2) g4.u rfl r4 lx (d_var (n := 4) rfl hv4) fun v5 B5 H5 g5 r5 hv5 => ?_)
    have n5 : Fr0 B5 r := g5.pr r _ n4 r4
    have gI5 : Go T B H B5 (upd H5 r (.lst (xs ++ [v5]))) := (gI4.trans g5).mutL nH n5 r5
    have x35 : Xt T B' B5 := g4.b.trans g5.b
    refine b_one (Lc.set (n := 3) (lc_1 (j := 5) (xs := a :: t) (enc := PyData.int) (fun x => !decide (x ∈ comp W (a :: t) a)) .int (src_list (d_var (n := 3) rfl (a3.mono x35))) (by omega) (blkOk_by (by kernel_rfl)) nd
        (fun z hz v B6 x6 hv6 s H0 C cl fp => ts_one (t_notIn (d_var (n := 5) rfl hv6) (d_var (n := 4) rfl ((hv4.mono g5.b).mono x6)))) fun z hz _ v B6 x6 hv6 s H0 C cl fp => d_var (n := 5) rfl hv6)
      gI5.u (blkOk_by (by kernel_rfl)) nd (sw_true rfl rfl rfl (by decide +kernel)) fun v6 B6 H6 g6 hv6 => ?_)
    refine ⟨((a :: t).filter fun x => !decide (x ∈ comp W (a :: t) a)).length, ?_, acc ++ [comp W (a :: t) a], _, xs ++ [v5], B6, v6, some v4, rfl, ?_, rfl, ?_, ?_, gI5.trans g6, g6.pr r _ n5 upd_same, g6.h.lstAt upd_same, ?_, hv6⟩
    · have := rest_len (w := W) (a := a) (r := t)
      rw [List.length_cons]
      omega
    · exact lup.sublist List.filter_sublist
    · have := rest_len (w := W) (a := a) (r := t)
      rw [List.length_cons] at l8
      omega
    · rw [← hp, parts_cons, List.append_assoc]
      rfl
    · rw [List.map_append]
      exact ((a2.mono (x35.trans g6.b))).append (.cons (hv5.mono g6.b) .nil)
  · rw [eqe] at hb
    have hne : l = [] := by simpa using hb
    subst hne
    rw [parts_nil, List.append_nil] at hp
    subst hp
    have gI3 := gI.ext e3
    obtain ⟨Bu, gu, xu, hu⟩ := gI3.shown nH n1 (e3.lstAt a1) a2
    exact b_one (s_ret gu.u (d_tuple M.tuple (d_var (n := 2) rfl hu)) fun v5 B5 H5 g5 hv5 => q v5 B5 H5 (gu.trans g5) hv5)

abbrev s_others : Stmt := topS 19
abbrev R_others : List PyData → PyData → Prop := fun ds d => ∃ (W : Web) (D : PyData) (lot : List Int), ds = [dW W, D] ∧ SeqD D (lot.map .int) ∧ W.n ≤ 8 ∧ d = dT (others W lot)
theorem sc_others : FnScope ["web", "lot", "one"] ["web", "lot"] (defScope s_others) := ⟨rfl, rfl, rfl, by decide +kernel, rfl, by decide +kernel, by decide +kernel⟩
theorem ok_others (A : At K mg "others" s_others f fd) (M : Mg mg) (DE : DefOk T P w K mg base "everybody" 1 R_everybody) : DefOk T P w K mg base "others" 2 R_others := by
  refine def_ok A.F sc_others A.m (A.F.binds fun _ _ _ _ _ _ us hl => match us, hl with | [_, _], _ => rfl) (fun ds d h => by obtain ⟨_, _, _, rfl, _⟩ := h; rfl) fun cdv A' outer s H E B vs ds d Q hr u hv hR q => ?_
  obtain ⟨W, D, lot, rfl, sd, k8, rfl⟩ := hR
  obtain ⟨v0, vs, rfl, h0, hv⟩ := hv.consE
  obtain ⟨v1, rfl, h1⟩ := hv.one
  refine b_one (s_ret u (d_tuple M.tuple (d_lc (j := 2) (xs := irange W.n) (enc := PyData.int) (fun x => !decide (x ∈ lot)) .int (src_tup (d_call DE hr (a_cons (d_var (n := 0) rfl h0) a_nil) ⟨W, rfl, k8, rfl⟩)) ?_ (blkOk_by (by kernel_rfl)) sc_others.nd
    (fun z hz v B6 x6 hv6 s H0 C cl fp => ts_one (t_notIn (d_var (n := 2) rfl hv6) (d_var (n := 1) rfl (h1.mono x6)) sd)) fun z hz _ v B6 x6 hv6 s H0 C cl fp => d_var (n := 2) rfl hv6)) q)
  rw [irange_len]
  omega

abbrev s_border_of : Stmt := topS 20
abbrev R_border_of : List PyData → PyData → Prop := fun ds d => ∃ (W : Web) (part lot : List Int), ds = [dW W, dT part, dT lot] ∧ W.ties.length ≤ 64 ∧ lot.length ≤ 8 ∧ d = dT (border W part lot)
theorem sc_border_of : FnScope ["web", "part", "lot", "one", "other"] ["web", "part", "lot"] (defScope s_border_of) := ⟨rfl, rfl, rfl, by decide +kernel, rfl, by decide +kernel, by decide +kernel⟩
theorem tied_len {W : Web} (h : W.ties.length ≤ 64) (p : Int) : (tied W p).length ≤ 64 := by
  unfold tied srt adj
  rw [List.length_mergeSort, List.length_map]
  exact Nat.le_trans (List.length_filter_le _ _) h
theorem ok_border_of (A : At K mg "border_of" s_border_of f fd) (M : Mg mg) (DT : DefOk T P w K mg base "tied_to" 1 R_tied_to) : DefOk T P w K mg base "border_of" 2 R_border_of := by
  refine def_ok A.F sc_border_of A.m (A.F.binds fun _ _ _ _ _ _ us hl => match us, hl with | [_, _, _], _ => rfl) (fun ds d h => by obtain ⟨_, _, _, rfl, _⟩ := h; rfl) fun cdv A' outer s H E B vs ds d Q hr u hv hR q => ?_
  obtain ⟨W, part, lot, rfl, k64, k8, rfl⟩ := hR
  obtain ⟨v0, vs, rfl, h0, hv⟩ := hv.consE
  obtain ⟨v1, vs, rfl, h1, hv⟩ := hv.consE
  obtain ⟨v2, rfl, h2⟩ := hv.one
  have nd := sc_border_of.nd
  refine b_one (s_ret u (d_tuple M.tuple (d_lc (j := 3) (xs := lot) (enc := PyData.int) (fun x => (tied W x).any fun y => decide (y ∈ part)) .int (src_tup (d_var (n := 2) rfl h2)) (by omega) (blkOk_by (by kernel_rfl)) nd
    (fun z hz v B6 x6 hv6 s H0 C cl fp => ts_one (Pt.is (t_val (d_any (bs := (tied W z).map fun y => decide (y ∈ part)) M.any (Pe.is (d_map (j := 4) (xs := tied W z) (enc := PyData.int) (fun y => .bool (decide (y ∈ part)))
        (src_list (d_call DT hr (a_cons (d_var (n := 0) rfl (h0.mono x6)) (a_cons (d_var (n := 3) rfl hv6) a_nil)) ⟨W, z, rfl, k64, rfl⟩)) ?_ (blkOk_by (by kernel_rfl)) nd fun y hy v' B7 x7 hv7 s' H0' C' cl' fp' => d_in (d_var (n := 4) rfl hv7) (d_var (n := 1) rfl ((h1.mono x6).mono x7))) ?_))) ?_))
    fun z hz _ v B6 x6 hv6 s H0 C cl fp => d_var (n := 3) rfl hv6)) q)
  · have := tied_len k64 z
    omega
  · rw [List.map_map]
    rfl
  · rw [List.any_map]
    rfl

abbrev s_least_of : Stmt := topS 21
abbrev R_least_of : List PyData → PyData → Prop := fun ds d => ∃ (W : Web) (lot : List Int), ds = [dW W, dT lot] ∧ lot ≠ [] ∧ (∀ x ∈ lot, 0 ≤ x ∧ x < W.n) ∧ lot.length ≤ 8 ∧ d = .int (least W lot)
theorem sc_least_of : FnScope ["web", "lot", "one"] ["web", "lot"] (defScope s_least_of) := ⟨rfl, rfl, rfl, by decide +kernel, rfl, by decide +kernel, by decide +kernel⟩
theorem ok_least_of (A : At K mg "least_of" s_least_of f fd) (M : Mg mg) : DefOk T P w K mg base "least_of" 1 R_least_of := by
  refine def_ok A.F sc_least_of A.m (A.F.binds fun _ _ _ _ _ _ us hl => match us, hl with | [_, _], _ => rfl) (fun ds d h => by obtain ⟨_, _, rfl, _⟩ := h; rfl) fun cdv A' outer s H E B vs ds d Q hr u hv hR q => ?_
  obtain ⟨W, lot, rfl, kne, kbd, k8, rfl⟩ := hR
  obtain ⟨v0, vs, rfl, h0, hv⟩ := hv.consE
  obtain ⟨v1, rfl, h1⟩ := hv.one
  refine b_one (s_ret u (d_min (ns := lot.map W.num) M.min (Pe.is (d_map (j := 2) (xs := lot) (enc := PyData.int) (fun x => .int (W.num x)) (src_tup (d_var (n := 1) rfl h1)) (by omega) (blkOk_by (by kernel_rfl)) sc_least_of.nd
    fun z hz v B6 x6 hv6 s H0 C cl fp => d_ixT (d_ixT (d_var (n := 0) rfl (h0.mono x6)) d_int (by rfl)) (d_var (n := 2) rfl hv6) (atI_num (kbd z hz).1 (kbd z hz).2)) ?_) ?_) q)
  · rw [List.map_map]
    rfl
  · intro e
    exact kne (List.map_eq_nil_iff.mp e)

abbrev s_is_deep : Stmt := topS 24
abbrev R_is_deep : List PyData → PyData → Prop := fun ds d => ∃ (W : Web) (p lot : List Int), ds = [dW W, dT p, dT lot] ∧ W.ties.length ≤ 64 ∧ p ≠ [] ∧ (∀ x ∈ p, 0 ≤ x ∧ x < W.n) ∧ p.length ≤ 8 ∧ border W p lot ≠ [] ∧ (∀ x ∈ lot, 0 ≤ x ∧ x < W.n) ∧ lot.length ≤ 8 ∧ d = .bool (isDeep W p lot)
theorem sc_is_deep : FnScope ["web", "piece", "lot"] ["web", "piece", "lot"] (defScope s_is_deep) := ⟨rfl, rfl, rfl, by decide +kernel, rfl, by decide +kernel, by decide +kernel⟩
theorem ok_is_deep (A : At K mg "is_deep" s_is_deep f fd) (M : Mg mg) (DL : DefOk T P w K mg base "least_of" 1 R_least_of) (DB : DefOk T P w K mg base "border_of" 2 R_border_of) : DefOk T P w K mg base "is_deep" 3 R_is_deep := by
  refine def_ok A.F sc_is_deep A.m (A.F.binds fun _ _ _ _ _ _ us hl => match us, hl with | [_, _, _], _ => rfl) (fun ds d h => by obtain ⟨_, _, _, rfl, _⟩ := h; rfl) fun cdv A' outer s H E B vs ds d Q hr u hv hR q => ?_
  obtain ⟨W, pc, lot, rfl, k64, k1, k2, k3, k4, k5, k6, rfl⟩ := hR
  obtain ⟨v0, vs, rfl, h0, hv⟩ := hv.consE
  obtain ⟨v1, vs, rfl, h1, hv⟩ := hv.consE
  obtain ⟨v2, rfl, h2⟩ := hv.one
  exact b_one (s_ret u (d_lt (d_call DL hr (a_cons (d_var (n := 0) rfl h0) (a_cons (d_var (n := 1) rfl h1) a_nil)) ⟨W, pc, rfl, k1, k2, k3, rfl⟩)
    (d_call DL hr (a_cons (d_var (n := 0) rfl h0) (a_cons (d_call DB hr (a_cons (d_var (n := 0) rfl h0) (a_cons (d_var (n := 1) rfl h1) (a_cons (d_var (n := 2) rfl h2) a_nil))) ⟨W, pc, lot, rfl, k64, k6, rfl⟩) a_nil))
      ⟨W, border W pc lot, rfl, k4, fun x hx => k5 x (List.mem_filter.mp hx).1, Nat.le_trans (List.length_filter_le _ _) k6, rfl⟩)) q)

abbrev s_deep_of : Stmt := topS 25
abbrev R_deep_of : List PyData → PyData → Prop := fun ds d => ∃ (W : Web) (lot : List Int), ds = [dW W, dT lot] ∧ WebOk W ∧ LotOk W lot ∧ d = .tuple ((deep W lot).map dT)
theorem sc_deep_of : FnScope ["web", "lot", "piece"] ["web", "lot"] (defScope s_deep_of) := ⟨rfl, rfl, rfl, by decide +kernel, rfl, by decide +kernel, by decide +kernel⟩
theorem piece_len {W : Web} {S p : List Int} (hS : Up S) (hb : ∀ x ∈ S, 0 ≤ x ∧ x < W.n) (h8 : W.n ≤ 8) (c : Cl W S p) : p.length ≤ 8 := by
  have := up_len c.up fun x hx => hb x (c.sub x hx)
  omega
theorem ok_deep_of (A : At K mg "deep_of" s_deep_of f fd) (M : Mg mg) (DP : DefOk T P w K mg base "parts_of" 3 R_parts_of) (DO : DefOk T P w K mg base "others" 2 R_others) (DD : DefOk T P w K mg base "is_deep" 3 R_is_deep) : DefOk T P w K mg base "deep_of" 4 R_deep_of := by
  refine def_ok A.F sc_deep_of A.m (A.F.binds fun _ _ _ _ _ _ us hl => match us, hl with | [_, _], _ => rfl) (fun ds d h => by obtain ⟨_, _, rfl, _⟩ := h; rfl) fun cdv A' outer s H E B vs ds d Q hr u hv hR q => ?_
  obtain ⟨W, lot, rfl, kw, kl, rfl⟩ := hR
  obtain ⟨v0, vs, rfl, h0, hv⟩ := hv.consE
  obtain ⟨v1, rfl, h1⟩ := hv.one
  have pl := parts_len (w := W) _ (others W lot) (Nat.le_refl _)
  have ol := others_len kw lot
  have l8 := kl.len kw
  refine b_one (s_ret u (d_tuple M.tuple (d_lc (j := 2) (xs := parts W (others W lot)) (enc := dT) (fun p => isDeep W p lot) dT
    (src_tup (d_call DP hr (a_cons (d_var (n := 0) rfl h0) (a_cons (d_call DO hr (a_cons (d_var (n := 0) rfl h0) (a_cons (d_var (n := 1) rfl h1) a_nil)) ⟨W, _, lot, rfl, .tup _, kw.n8, rfl⟩) a_nil)) ⟨W, _, others W lot, rfl, .tup _, kw.few, others_up W lot, ol, rfl⟩))
    (by omega) (blkOk_by (by kernel_rfl)) sc_deep_of.nd (fun z hz v B6 x6 hv6 s H0 C cl fp => ?_) fun z hz _ v B6 x6 hv6 s H0 C cl fp => d_var (n := 2) rfl hv6)) q)
  obtain ⟨z1, z2⟩ := parts_of_mem (others_up W lot) hz
  have zb : ∀ x ∈ z, 0 ≤ x ∧ x < W.n := fun x hx => (mem_others.mp (z2.sub x hx)).1
  exact ts_one (t_val (d_call DD hr (a_cons (d_var (n := 0) rfl (h0.mono x6)) (a_cons (d_var (n := 2) rfl hv6) (a_cons (d_var (n := 1) rfl (h1.mono x6)) a_nil)))
    ⟨W, z, lot, rfl, kw.few, z1, zb, piece_len (others_up W lot) (fun x hx => (mem_others.mp hx).1) kw.n8 z2, border_ne kw kl z1 z2, kl.bd, l8, rfl⟩))

abbrev s_cost_of : Stmt := topS 26
abbrev R_cost_of : List PyData → PyData → Prop := fun ds d => ∃ (W : Web) (lot : List Int), ds = [dW W, dT lot] ∧ WebOk W ∧ LotOk W lot ∧ d = .int (cost W lot)
theorem sc_cost_of : FnScope ["web", "lot"] ["web", "lot"] (defScope s_cost_of) := ⟨rfl, rfl, rfl, by decide +kernel, rfl, by decide +kernel, by decide +kernel⟩
theorem ok_cost_of (A : At K mg "cost_of" s_cost_of f fd) (M : Mg mg) (DD : DefOk T P w K mg base "deep_of" 4 R_deep_of) : DefOk T P w K mg base "cost_of" 5 R_cost_of := by
  refine def_ok A.F sc_cost_of A.m (A.F.binds fun _ _ _ _ _ _ us hl => match us, hl with | [_, _], _ => rfl) (fun ds d h => by obtain ⟨_, _, rfl, _⟩ := h; rfl) fun cdv A' outer s H E B vs ds d Q hr u hv hR q => ?_
  obtain ⟨W, lot, rfl, kw, kl, rfl⟩ := hR
  obtain ⟨v0, vs, rfl, h0, hv⟩ := hv.consE
  obtain ⟨v1, rfl, h1⟩ := hv.one
  refine b_one (s_ret u (Pe.is (d_len M.len (d_call DD hr (a_cons (d_var (n := 0) rfl h0) (a_cons (d_var (n := 1) rfl h1) a_nil)) ⟨W, lot, rfl, kw, kl, rfl⟩)) ?_) q)
  rw [List.length_map]
  rfl
end
end DW

/-! enumerate(a tuple) -/
namespace DW
open PySem PySem.Spec PyProof.Rows L2 RZ
/-- a new enumerate over the tuple at l: the tuple's iterator, then the enumerate -/
theorem meets_enumT (l : Addr) (items : Array Value) (n : Nat) (dct : Option Addr) (sl : Array (Option Value)) :
    Meets (Builtin.«enumerate.__new__» ⟨[.type "enumerate", .ref l], []⟩) (fun _ R s => s.heap.get? l = some { cls := .type "tuple", dict := dct, data := .seq items n, slots := sl } ∧
      R (.ok (.ret (.ref (s.heap.push { cls := .type "tuple_iterator", data := .fields #[.ref l, .int 0 0] }).objs.size)))
        { s with heap := (s.heap.push { cls := .type "tuple_iterator", data := .fields #[.ref l, .int 0 0] }).push { cls := .type "enumerate", data := .fields #[.none, .bool false, .ref s.heap.objs.size, rawInt 0, .none, .none] } }) :=
  .of_wp fun prog w A R s both => by
    obtain ⟨hp0, gn, dn, tn, on⟩ := s
    obtain ⟨hl, hR⟩ := both
    have sub := sub_enumerate
    have ht : Heap.IsTuple (Shared.heap ⟨hp0, gn, dn, tn, on⟩) l items := ⟨_, hl, rfl, n, rfl⟩
    wp_walk using AutoSeq1.wpAny_loadPart' hl
    refine wpAny_stack_any fun frames => wpAny_pure ?_
    split
    · rename_i c _ _ _ _ _
      cases (c == Value.type "enumerate") <;> (wp_walk using AutoSeq1.wpAny_loadPart' hl, wpAny_pyIter_tuple ht; exact ⟨_, rfl, hR⟩)
    · wp_walk using AutoSeq1.wpAny_loadPart' hl, wpAny_pyIter_tuple ht
      exact ⟨_, rfl, hR⟩
theorem call_enumT {prog : Program} {w : World} {A : Around} {E : Value → Shared → Prop} {s : Shared} {l : Addr} {items : Array Value} {Q : Value → Shared → Prop} (hl : s.heap.IsTuple l items)
    (h : ∀ h', IsEnum h' (s.heap.objs.size + 1) s.heap.objs.size 0 .none → h'.IsTupleIter s.heap.objs.size l 0 → (∀ b o, s.heap.get? b = some o → h'.get? b = some o) → Q (.ref (s.heap.objs.size + 1)) { s with heap := h' }) :
    wpAny (model prog w) A (PySem.call (.type "enumerate") [.ref l]) Q E s := by
  obtain ⟨⟨cc, dct, dt, sl⟩, e, hc, n, hd⟩ := hl
  have hc' : cc = .type "tuple" := hc
  have hd' : dt = .seq items n := hd
  subst hc' hd'
  refine callType_new F.called_enumerate (by decide) (F.typeCall_enumerate_1 _) (F.newCall_enumerate_1 _) (fun obj => F.args_object_init_2 obj _) F.entry_enumerate_new (meets_enumT l items n dct sl) ⟨e, ?_⟩
  have sz : (s.heap.push { cls := .type "tuple_iterator", data := .fields #[.ref l, .int 0 0] }).objs.size = s.heap.objs.size + 1 := Heap.size_push ..
  show _ ∧ _
  rw [sz]
  have en := Heap.get?_push_size (s.heap.push { cls := .type "tuple_iterator", data := .fields #[.ref l, .int 0 0] }) (o := { cls := .type "enumerate", data := .fields #[.none, .bool false, .ref s.heap.objs.size, rawInt 0, .none, .none] }) rfl
  rw [sz] at en
  exact ⟨⟨_, en, rfl⟩, h _ en ⟨_, Heap.get?_push_of_some _ (Heap.get?_push_size _ rfl), rfl, rfl⟩ fun b o x => Heap.get?_push_of_some _ (Heap.get?_push_of_some _ x)⟩

def IteT (K : PySem.W.Frag) (a : Addr) : It :=
  ⟨fun i H => ∃ (xs : List V) (x : V), SqT K H a xs ∧ xs[i]? = some x, fun i H v H' => ∃ t x, v = .ref t ∧ H t = none ∧ H' = upd H t (.tup [.int (i : Nat), x]) ∧ ∀ xs, SqT K H a xs → xs[i]? = some x, fun i H => ∃ xs : List V, SqT K H a xs ∧ xs.length = i⟩
theorem turn_enumT {P : Program} {w : World} {K : PySem.W.Frag} {elts : List Expr} {kk : Nat} {tpos : Pos} (a e it : Addr) (hae : a ≠ e) (hai : a ≠ it) :
    Turn P w K (.Tuple elts kk tpos) (IteT K a) [e, it] e (fun i h => (∃ prev, IsEnum h e it ((i : Nat) : Int) prev) ∧ h.IsTupleIter it a i ∧ e ≠ it) where
  mem := by simp
  obj := fun i h st b hb => by
    obtain ⟨⟨prev, hen⟩, ⟨o, ho, hc, hd⟩, _⟩ := st
    rcases (by simpa using hb : b = e ∨ b = it) with rfl | rfl
    · exact ⟨_, hen, fun v q => nomatch q⟩
    · exact ⟨o, ho, fun v q => by rw [hd] at q; cases q⟩
  keep := fun i h h' st k => by
    obtain ⟨⟨prev, hen⟩, hi, nq⟩ := st
    exact ⟨⟨prev, k e (by simp) _ hen⟩, hi.at fun o q => k it (by simp) o q, nq⟩
  item := by
    intro X eP ew eK calm i pins s σ H E I hf st hg
    subst eP ew eK
    obtain ⟨⟨prev, hen⟩, hti, nq⟩ := st
    obtain ⟨xs, x, sq, hx⟩ := hg
    obtain ⟨vals1, rel, p, hz⟩ := I.tuple sq
    obtain ⟨u, gu, relu⟩ := rel.get hx
    have ltE : e < s.heap.objs.size := Heap.lt_size hen
    have ltI : it < s.heap.objs.size := by
      obtain ⟨_, q, _⟩ := hti
      exact Heap.lt_size q
    have W := WalksT.enumFrom (prog := X.prog) (w := X.w) (A := X.A) 0 (Draws.tuple (A := X.A.in1) (I.ok.hd calm) it a hai vals1.toArray) e nq (by simp [nq, hae.symm]) (by simp)
    have hi : i < vals1.toArray.size := by
      have := (List.getElem?_eq_some_iff.mp gu).1
      simpa using this
    refine W.item i s _ E hi ⟨⟨prev, by rw [Int.zero_add]; exact hen⟩, hti, p⟩ fun t vals h' tk hp hT ht hm hk => ?_
    obtain ⟨tt, x', hx', rfl⟩ := hp
    have ex : x' = u := by
      have : vals1[i]? = some x' := by simpa using hx'
      rw [gu] at this
      exact Option.some.inj this.symm
    subst ex
    refine ⟨_, rfl, W.go elts kk tpos i t { s with heap := h', toks := tk } _ E hm fun h'' st'' hk'' => ?_⟩
    have nt : t ∉ [e, it] := W.apart i t h' hm
    have ht2 : IsTup h'' t #[.int (0 + (i : Int)) tt, x'] := by
      obtain ⟨o, e1, e2⟩ := ht
      exact ⟨o, hk'' t o nt e1, e2⟩
    have new : ObjOk X.prog X.w (upd H t (.tup [.int (i : Nat), x])) h'' t (.tup [.int (i : Nat), x]) :=
      ⟨by show 2 ≤ sizeLine; decide, [.int (0 + (i : Int)) tt, x'], .cons ⟨tt, by rw [Int.zero_add]⟩ (.cons relu .nil), ht2⟩
    have I1 : Inv X pins σ (upd H t (.tup [.int (i : Nat), x])) { s with heap := h'', toks := tk } := I.turnedNew (ch := [e, it]) (fun b ob hb q => hk'' b ob hb (hk b ob hb q)) hf hT new
    obtain ⟨⟨old', he'⟩, hit', _⟩ := st''
    refine ⟨.ref t, _, I1, rfl, ⟨t, x, rfl, I.hok.fresh hT, rfl, fun ys hy => by rw [I.tuple_inj hy sq]; exact hx⟩, ⟨⟨old', ?_⟩, hit', nq⟩, fun b hb => ?_⟩
    · rw [Int.zero_add] at he'
      exact he'
    · have lb : b < s.heap.objs.size := by
        rcases (by simpa using hb : b = e ∨ b = it) with rfl | rfl
        · exact ltE
        · exact ltI
      rw [upd_ne (Nat.ne_of_lt (Nat.lt_of_lt_of_le lb hT))]
      exact (hf b hb).1
  done := by
    intro X eP ew eK calm i pins s σ H E I hf st hg
    subst eP ew eK
    obtain ⟨⟨prev, hen⟩, hti, nq⟩ := st
    obtain ⟨xs, sq, rfl⟩ := hg
    obtain ⟨vals1, rel, p, hz⟩ := I.tuple sq
    have hl : xs.length = vals1.toArray.size := by rw [rel.length]; simp
    have D := Draws.tuple (prog := X.prog) (w := X.w) (A := X.A.in1) (I.ok.hd calm) it a hai vals1.toArray
    obtain ⟨f0, f1, -, f3, f4, f5⟩ := hf it (by simp)
    refine wpAny_pyNext_enum_endD D hen ⟨by rw [← hl]; exact hti, p⟩ fun h' eb => ⟨rfl, I.turned (t' := s.toks) (fun b o hb q => eb b o hb q) f0 f1 f3 f4 f5⟩
  self := fun A i s Q E st next => by
    obtain ⟨⟨_, hen⟩, _⟩ := st
    exact wpAny_pyIter_enum hen next
theorem walk_enumT {K : PySem.W.Frag} {a : Addr} {xs : List V} : Walk (IteT K a) xs.length (fun H => SqT K H a xs) (YPair (fun i => some (.int (i : Nat))) (fun i => xs[i]?)) := by
  refine ⟨fun i _ hi q => ⟨xs, xs[i], q, by simp [hi]⟩, fun _ q => ⟨xs, q, rfl⟩, fun i H v H' _ q y => ?_⟩
  obtain ⟨t, u, k1, k2, k3, k4⟩ := y
  exact ⟨t, .int (i : Nat), u, k1, k2, k3, rfl, k4 xs q⟩
section
variable {T : List (Addr × Str)} {X : Cx} {σ : L2.St} {B H : Hp} {a : Expr} {ds : List PyData} {pos p tpos : Pos} {elts : List Expr} {kk : Nat}
def tEnumT (K : PySem.W.Frag) (ta : TA) : TI := fun σ H R => ta σ H fun vs H1 => ∃ r xs, vs = [.ref r] ∧ SqT K H1 r xs ∧ R (IteT K r) H1
theorem pi_enumT {ta : TA} (hg : Gl X "enumerate") (hm : X.mg "enumerate" = none) (ha : PA X [a] ta) (hs : starEach [a] X.env = [(false, eval a X.env)] := by rfl) : PI X (.Tuple elts kk tpos) (.Call (.Name "enumerate" p) [a] [] pos) (tEnumT X.K ta) := by
  refine ⟨fun pins s σ H R I want => Call_ (ld_blt I hg hm boot_enumerate (PyProof.Rows.callWith_type1 (thn (ha.run pos pins s σ H _ I want) fun us s1 ⟨vs, H1, I1, r1, r, xs, ev, hq, q⟩ => ?_) hs rfl))⟩
  subst ev
  obtain rfl := Vals.ref1 r1
  obtain ⟨items, relI, p', hz⟩ := I1.tuple hq
  have lt1 : r < s1.heap.objs.size := p'.lt
  refine call_enumT p' fun h' he hit hk => wpAny_pyIter_enum he ?_
  have keptI : Inv X pins σ H1 { s1 with heap := h' } := I1.kept (t' := s1.toks) hk
  refine ⟨s1.heap.objs.size + 1, [s1.heap.objs.size + 1, s1.heap.objs.size], _, _, H1, rfl, keptI, turn_enumT r (s1.heap.objs.size + 1) s1.heap.objs.size (Nat.ne_of_lt (Nat.lt_succ_of_lt lt1)) (Nat.ne_of_lt lt1), ⟨⟨.none, he⟩, hit, Nat.succ_ne_self _⟩, fun b hb => ?_, q⟩
  have above : s1.heap.objs.size ≤ b := by
    rcases (by simpa using hb : b = s1.heap.objs.size + 1 ∨ b = s1.heap.objs.size) with rfl | rfl
    · exact Nat.le_succ _
    · exact Nat.le_refl _
  exact I1.fpOk above (I1.hok.fresh above)
theorem src_enumT (hm : X.mg "enumerate" = none) (h : Pe T X a σ B (.tuple ds)) (hg : Gl X "enumerate" := by rfl) (hs : starEach [a] X.env = [(false, eval a X.env)] := by rfl) (hs0 : starEach [] X.env = [] := by rfl) :
    Src T X (.Tuple elts kk tpos) (.Call (.Name "enumerate" p) [a] [] pos) σ B (ds.mapIdx fun i d => .tuple [.int (i : Nat), d]) :=
  fun H1 e1 R q => PI.w (pi_enumT hg hm pa_w hs) ((a_cons h a_nil (by rw [hs, hs0])) H1 e1 _ fun vs B2 H2 g2 hvs => by
    obtain ⟨v, rfl, hv⟩ := hvs.one
    obtain ⟨r, xs, rfl, hr, hd⟩ := hv.tupE
    refine ⟨r, xs, rfl, .of (g2.u.tupAt hr), q (IteT X.K r) B2 H2 (fun H => SqT X.K H r xs) (YPair (fun i => some (.int (i : Nat))) (fun i => xs[i]?)) g2 ?_ (fun H3 e3 => .of (e3.tupAt hr)) fun n B3 H3 v H4 hn b3 u3 yy => ?_⟩
    · rw [List.length_mapIdx, ← hd.length]
      exact walk_enumT
    · obtain ⟨t, v1, v2, rfl, nt, rfl, g1, g3⟩ := yy
      have e1 : V.int (n : Nat) = v1 := Option.some.inj g1
      subst e1
      obtain ⟨d2, k3, k4⟩ := hd.getV g3
      have gn := (Go.refl u3 b3.tabs).new (o := .tup [.int (n : Nat), v2]) nt
      refine ⟨_, .tuple [.int (n : Nat), d2], gn, ?_, .tup upd_same (.cons (.int _) (.cons ((k4.mono b3).mono gn.b) .nil))⟩
      rw [List.getElem?_mapIdx, k3]
      rfl)
end
end DW

namespace DW
open PySem PySem.Spec PyProof.Rows L2 RZ
section
variable {T : List (Addr × Str)} {X : Cx} {σ : L2.St} {B H : Hp} {tg e : Expr} {D : Ends} {d : PyData} {pos : Pos}
theorem t_chain {a b c : Expr} {i j z : Int} {op op' : CmpOp} {g g' : Int → Int → Bool} (ho : OpR X (compareOp op) (rI0 fun i j => .bl (g i j))) (ho' : OpR X (compareOp op') (rI0 fun i j => .bl (g' i j))) (ha : Pe T X a σ H (.int i)) (hb : Pe T X b σ H (.int j)) (hc : Pe T X c σ H (.int z))
    (hm : lastMarks [op, op'] [b, c] = false := by with_unfolding_all rfl) : Pt T X (.Compare a [op, op'] [b, c] pos) σ H (g i j && g' j z) :=
  fun H1 e1 Q q => PT.w (pt_chain ho ho' pe_w pe_w pe_w hm) (ha H1 e1 _ fun x B2 H2 g2 hx => hb H2 (e1.trans g2.h) _ fun y B3 H3 g3 hy => ⟨i, j, hx.intE, hy.intE, g i j, rfl, by
    cases hg : g i j with
    | true =>
      rw [if_pos rfl]
      refine hc H3 ((e1.trans g2.h).trans g3.h) _ fun w B4 H4 g4 hw => ⟨j, z, hy.intE, hw.intE, _, rfl, ?_⟩
      have := q H4 ((g2.h.trans g3.h).trans g4.h)
      rw [hg] at this
      exact this
    | false =>
      (rw [if_neg Bool.false_ne_true])
      refine ⟨_, rfl, ?_⟩
      have := q H3 (g2.h.trans g3.h)
      rw [hg] at this
      exact this⟩)
theorem Pw.is {b b' : Bool} (h : Pw T X e σ H b) (q : b = b') : Pw T X e σ H b' := q ▸ h
theorem lex_pair (x y : Int × Int) : Ob.lexAt (fun j => decide (([x.1, x.2] : List Int).getD j 0 = ([y.1, y.2] : List Int).getD j 0)) (fun j => decide (([x.1, x.2] : List Int).getD j 0 ≤ ([y.1, y.2] : List Int).getD j 0)) (decide (([x.1, x.2] : List Int).length ≤ ([y.1, y.2] : List Int).length)) 0 (min ([x.1, x.2] : List Int).length ([y.1, y.2] : List Int).length) = decide (x.1 < y.1 ∨ (x.1 = y.1 ∧ x.2 ≤ y.2)) := by
  show Ob.lexAt _ _ _ 0 2 = _
  rw [lexAt_pair]
  show (if decide (x.1 = y.1) = true then (if decide (x.2 = y.2) = true then decide (2 ≤ 2) else decide (x.2 ≤ y.2)) else decide (x.1 ≤ y.1)) = _
  by_cases q1 : x.1 = y.1
  · by_cases q2 : x.2 = y.2
    · simp [q1, q2]
    · simp [q1, q2]
  · simp [q1]
    omega
theorem t_leP {a b : Expr} {k : Nat} {x y : Int × Int} (hr : Room k X.A) (ha : Pe T X a σ B (dP x)) (hb : Pe T X b σ B (dP y)) : Pt T X (.Compare a [.LtE] [b] pos) σ B (decide (x.1 < y.1 ∨ (x.1 = y.1 ∧ x.2 ≤ y.2))) := fun H1 e1 Q q =>
  PT.w (pt_cmpR (op_leT hr.units0) pe_w pe_w (nomark _)) (ha H1 e1 _ fun v B2 H2 g2 hv => hb H2 (e1.trans g2.h) _ fun v' B3 H3 g3 hv' => by
    obtain ⟨r, xs, rfl, h1, h2⟩ := (hv.mono (g2.u.trans g3.h)).tupE
    obtain ⟨r', ys, rfl, h3, h4⟩ := (hv'.mono g3.u).tupE
    have e1' := DaAll.ints (ns := [x.1, x.2]) h2
    have e2' := DaAll.ints (ns := [y.1, y.2]) h4
    subst e1' e2'
    refine ⟨r, r', [x.1, x.2], [y.1, y.2], rfl, rfl, .of h1, .of h3, ?_⟩
    rw [lex_pair]
    exact ⟨_, rfl, q H3 (g2.h.trans g3.h)⟩)
/-- target = e -/
theorem s_asg (u : Xt T B H) (h : Pe T X e σ B d) (q : ∀ v B2 H2, Go T B H B2 H2 → Da B2 v d → WG X tg v σ H2 D.nx) (hs : swapsWithSole [tg] e pos.line X.env = pure false := by rfl) (hw : swappedStores [tg] e X.env = pure none := by rfl)
    (h1 : (assignEach [tg] X.env).map (·.2) = [assign tg X.env] := by rfl) : WS X (.Assign [tg] e pos) D σ H := PS.w (ps_asg pe_w pg_w hs hw h1) (h H u _ fun v B2 H2 g hv => q v B2 H2 g hv)
end
section
variable {T : List (Addr × Str)} {P : Program} {w : World} {K : PySem.W.Frag} {mg : Str → Option Value} {base : Heap} {f : Addr} {fd : FuncData}

abbrev s_need_person : Stmt := topS 17
abbrev R_need_person : List PyData → PyData → Prop := fun ds d => ∃ (W : Web) (p : Int), ds = [dW W, .int p] ∧ 0 ≤ p ∧ p < W.n ∧ d = .none
theorem sc_need_person : FnScope ["web", "value"] ["web", "value"] (defScope s_need_person) := ⟨rfl, rfl, rfl, by decide +kernel, rfl, by decide +kernel, by decide +kernel⟩
theorem lenW {W : Web} : ((W.nums.map PyData.int).length : Int) = W.n := by rw [List.length_map]; rfl
theorem ok_need_person (A : At K mg "need_person" s_need_person f fd) (M : Mg mg) (DF : DefOk T P w K mg base "is_from" 2 R_is_from) : DefOk T P w K mg base "need_person" 3 R_need_person := by
  refine def_ok A.F sc_need_person A.m (A.F.binds fun _ _ _ _ _ _ us hl => match us, hl with | [_, _], _ => rfl) (fun ds d h => by obtain ⟨_, _, rfl, _⟩ := h; rfl) fun cdv A' outer s H E B vs ds d Q hr u hv hR q => ?_
  obtain ⟨W, p, rfl, k0, k1, rfl⟩ := hR
  obtain ⟨v0, vs, rfl, h0, hv⟩ := hv.consE
  obtain ⟨v1, rfl, h1⟩ := hv.one
  have g0 := lim_go u u.self
  refine b_skip u (Pt.is (t_not (t_val (d_call DF hr (a_cons (d_var (n := 1) rfl h1) (a_cons d_int (a_cons (d_sub (d_len M.len (d_ixT (d_var (n := 0) rfl h0) d_int (by rfl))) d_int) a_nil))) ⟨_, _, _, rfl, rfl⟩))) ?_) fun H2 e2 u2 => b_nil (q .non _ _ (g0.ext e2) .non)
  rw [lenW]
  have z : p ≤ W.n - 1 := by omega
  simp [k0, z]

abbrev s_need_lot : Stmt := topS 16
abbrev R_need_lot : List PyData → PyData → Prop := fun ds d => ∃ (W : Web) (lot : List Int), ds = [dW W, dT lot] ∧ LotOk W lot ∧ lot.length ≤ 8 ∧ d = .none
theorem sc_need_lot : FnScope ["web", "value", "one", "a", "b"] ["web", "value"] (defScope s_need_lot) := ⟨rfl, rfl, rfl, by decide +kernel, rfl, by decide +kernel, by decide +kernel⟩
theorem zip_tail : ∀ (l : List Int), l ≠ [] → List.zipWith (fun d e => PyData.tuple [d, e]) (l.map PyData.int) (l.tail.map PyData.int) = (l.zip l.tail).map fun z : Int × Int => .tuple [.int z.1, .int z.2] := by
  intro l _
  rw [List.zip, List.map_zipWith, List.zipWith_map]
theorem zip_up {l : List Int} (h : Up l) : ∀ z ∈ l.zip l.tail, z.1 < z.2 := by
  induction l with
  | nil => intro z hz; cases hz
  | cons a t ih =>
    intro z hz
    cases t with
    | nil => cases hz
    | cons b t =>
      have h1 := List.pairwise_cons.mp h
      have hz' : z ∈ (a, b) :: (b :: t).zip (b :: t).tail := hz
      rcases List.mem_cons.mp hz' with e | e
      · rw [e]
        exact h1.1 b List.mem_cons_self
      · exact ih h1.2 z e
theorem ok_need_lot (A : At K mg "need_lot" s_need_lot f fd) (M : Mg mg) (DF : DefOk T P w K mg base "is_from" 2 R_is_from) : DefOk T P w K mg base "need_lot" 3 R_need_lot := by
  refine def_ok A.F sc_need_lot A.m (A.F.binds fun _ _ _ _ _ _ us hl => match us, hl with | [_, _], _ => rfl) (fun ds d h => by obtain ⟨_, _, rfl, _⟩ := h; rfl) fun cdv A' outer s H E B vs ds d Q hr u hv hR q => ?_
  obtain ⟨W, lot, rfl, kl, k8, rfl⟩ := hR
  obtain ⟨v0, vs, rfl, h0, hv⟩ := hv.consE
  obtain ⟨v1, rfl, h1⟩ := hv.one
  have nd := sc_need_lot.nd
  have g0 := lim_go u u.self
  refine b_skip u (Pt.is (t_w (w_or (t_not (t_val (d_isi (r := true) M.isinstance (d_var (n := 1) rfl h1) M.tuple))) fun _ => w_or1 (t_eqD hr (d_var (n := 1) rfl h1) (d_tup a_nil (by decide)) (shaped_dT lot) (shaped_dT [])))) ?_) fun H2 e2 u2 => ?_
  · show (!true || PyData.eqv (dT lot) (dT [])) = _
    rw [eqv_dT]
    simp [kl.ne]
  refine b_skip u2 (Pt.is (t_not (t_val (d_all (bs := lot.map fun y => true) M.all (Pe.is (d_map (j := 2) (xs := lot) (enc := PyData.int) (fun y => .bool true) (src_tup (d_var (n := 1) rfl h1)) (by omega) (blkOk_by (by kernel_rfl)) nd fun y hy v' B7 x7 hv7 s' H0' C' cl' fp' => Pe.is (d_call DF hr (a_cons (d_var (n := 2) rfl hv7) (a_cons d_int (a_cons (d_sub (d_len M.len (d_ixT (d_var (n := 0) rfl (h0.mono x7)) d_int (by rfl))) d_int) a_nil))) ⟨_, _, _, rfl, rfl⟩) ?_) ?_)))) ?_) fun H3 e3 u3 => ?_
  · rw [lenW]
    have z := kl.bd y hy
    have z' : y ≤ W.n - 1 := by omega
    simp [z.1, z']
  · rw [List.map_map]
    rfl
  · simp
  have g3 := (g0.ext e2).ext e3
  refine b_skip u3 (Pt.is (t_val (d_any (bs := (lot.zip lot.tail).map fun z => decide (z.2 ≤ z.1)) M.any (Pe.is (d_lc2 (i := 3) (j := 4) (xs := lot.zip lot.tail) (enc1 := fun z => .int z.1) (enc2 := fun z => .int z.2) (fun _ => true) (fun z => .bool (decide (z.2 ≤ z.1))) ?_ ?_ (blkOk_by (by kernel_rfl)) nd (fun _ _ _ _ _ _ _ _ _ _ _ _ _ => ts_nil)
    (fun z hz _ v w B7 x7 hv hw s' H0' C' cl' fp' => d_ge (d_var (n := 3) rfl hv) (d_var (n := 4) rfl hw)) (by decide)) ?_))) ?_) fun H4 e4 u4 => b_nil (q .non _ _ (g3.ext e4) .non)
  · rw [← zip_tail lot kl.ne]
    cases lot with
    | nil => exact absurd rfl kl.ne
    | cons a t => exact src_zip M.zip (d_var (n := 1) rfl h1) (d_sliceT1 (d_var (n := 1) rfl h1))
  · rw [List.length_zip]
    omega
  · rw [filter_true, List.map_map]
    rfl
  · rw [List.any_map, List.any_eq_false]
    intro z hz
    have := zip_up kl.up z hz
    simp
    omega

abbrev s_need_web : Stmt := topS 12
abbrev R_need_web : List PyData → PyData → Prop := fun ds d => ∃ (W : Web), ds = [dW W] ∧ WebOk W ∧ d = .none
theorem sc_need_web : FnScope ["value", "numbers", "ties", "index", "tie", "number"] ["value"] (defScope s_need_web) := ⟨rfl, rfl, rfl, by decide +kernel, rfl, by decide +kernel, by decide +kernel⟩
theorem up_tie {W : Web} (kw : WebOk W) {j : Nat} (h : j + 1 < W.ties.length) : ¬ (W.ties[j + 1].1 < (W.ties[j]'(by omega)).1 ∨ (W.ties[j + 1].1 = (W.ties[j]'(by omega)).1 ∧ W.ties[j + 1].2 ≤ (W.ties[j]'(by omega)).2)) := by
  have z := (List.pairwise_iff_getElem.mp kw.up) j (j + 1) (by omega) h (by omega)
  unfold tieLt at z
  omega
theorem comp_all {W : Web} (kw : WebOk W) : comp W (irange W.n) 0 = irange W.n := by
  have n1 := kw.n1
  refine up_eq (comp_up (irange_up _)) (irange_up _) fun x => ?_
  rw [mem_comp, mem_irange]
  exact ⟨fun h => h.1, fun h => ⟨h, kw.conn x h.1 h.2⟩⟩
theorem ok_need_web (A : At K mg "need_web" s_need_web f fd) (M : Mg mg) {t1 t2 : _} (m1 : mg "MOST_PERSONS" = some (.int 8 t1)) (m2 : mg "MOST_VALUE" = some (.int 1000 t2)) (DF : DefOk T P w K mg base "is_from" 2 R_is_from) (DT : DefOk T P w K mg base "is_tie" 3 R_is_tie)
    (DE : DefOk T P w K mg base "everybody" 1 R_everybody) (DH : DefOk T P w K mg base "hanging" 2 R_hanging) : DefOk T P w K mg base "need_web" 4 R_need_web := by
  refine def_ok A.F sc_need_web A.m (A.F.binds fun _ _ _ _ _ _ us hl => match us, hl with | [_], _ => rfl) (fun ds d h => by obtain ⟨_, rfl, _⟩ := h; rfl) fun cdv A' outer s H E B vs ds d Q hr u hv hR q => ?_
  obtain ⟨W, rfl, kw, rfl⟩ := hR
  obtain ⟨v0, rfl, h0⟩ := hv.one
  have nd := sc_need_web.nd
  have g0 := lim_go u u.self
  have n1 := kw.n1
  have n8 := kw.n8
  refine b_skip u (Pt.is (t_w (w_or (t_not (t_val (d_isi (r := true) M.isinstance (d_var (n := 0) rfl h0) M.tuple))) fun _ => w_or1 (t_neI (d_len M.len (d_var (n := 0) rfl h0)) d_int))) (by rfl)) fun H2 e2 u2 => ?_
  refine b_cons (s_asg u2 (d_var (n := 0) rfl h0) fun v B3 H3 g3 hv3 => g_pair (i := 1) (j := 2) g3.u hv3 (fun v1 v2 h1 h2 => ?_) nd)
  refine b_skip g3.u (Pt.is (t_w (w_or (t_not (t_val (d_isi (r := true) M.isinstance (d_var (n := 1) rfl h1) M.tuple))) fun _ => w_or (t_not (t_chain op_le op_le d_int (d_len M.len (d_var (n := 1) rfl h1)) (d_glob m1 ⟨t1, rfl⟩))) fun _ => w_or1 (t_not (t_val (d_isi (r := true) M.isinstance (d_var (n := 2) rfl h2) M.tuple))))) ?_) fun H4 e4 u4 => ?_
  · rw [lenW]
    simp [n1, n8]
  refine b_skip u4 (Pt.is (t_not (t_val (d_all (bs := W.nums.map fun y => true) M.all (Pe.is (d_map (j := 5) (xs := W.nums) (enc := PyData.int) (fun y => .bool true) (src_tup (d_var (n := 1) rfl h1)) ?_ (blkOk_by (by kernel_rfl)) nd fun y hy v' B7 x7 hv7 s' H0' C' cl' fp' => Pe.is (d_call DF hr (a_cons (d_var (n := 5) rfl hv7) (a_cons (d_neg (d_glob m2 ⟨t2, rfl⟩)) (a_cons (d_glob m2 ⟨t2, rfl⟩) a_nil))) ⟨_, _, _, rfl, rfl⟩) ?_) ?_)))) ?_) fun H5 e5 u5 => ?_
  · have : (W.nums.length : Int) = W.n := rfl
    omega
  · have z := kw.nums y hy
    simp [z.1, z.2]
  · rw [List.map_map]
    rfl
  · simp
  have x35 : Xt T H3 H5 := e4.trans e5
  have hx : Xt T H H5 := (e2.trans g3.h).trans x35
  have gg : Go T B3 H3 B3 H5 := g3.self.ext x35
  refine b_cons (s_for gg.u (src_enumT M.enumerate (d_var (n := 2) rfl h2)) fun B6 H6 g6 => ⟨fun i B' σ' H' => ∃ y z, σ' = [some v0, some v1, some v2, y, z, none] ∧ Go T B H B' H',
    ⟨none, none, rfl, ?_⟩, fun i d v B' σ' H' B4 H4 hd hI x1 x2 g4 hvd => ?_, fun B' σ' H' x1 x2 hI => ?_⟩)
  · exact ((g3.onto u e2).trans gg).trans g6
  · obtain ⟨y, z, rfl, gI⟩ := hI
    rw [List.getElem?_mapIdx] at hd
    have hi : i < W.ties.length := by
      have := (List.getElem?_eq_some_iff.mp (Option.map_eq_some_iff.mp hd).choose_spec.1).1
      rwa [List.length_map] at this
    have ed : d = .tuple [.int (i : Nat), dP W.ties[i]] := by
      rw [List.getElem?_map, List.getElem?_eq_getElem hi] at hd
      exact (Option.some.inj hd).symm
    subst ed
    have xB4 : Xt T B3 B4 := ((gg.trans g6).b.trans x1).trans g4.b
    refine g_pair (i := 3) (j := 4) g4.u hvd (fun w1 w2 k1 k2 => b_skip g4.u (Pt.is (b' := false) (t_w (w_or (x := false) (y := false) (Pt.is (t_not (t_val (d_call DT hr (a_cons (d_var (n := 4) rfl k2) (a_cons (d_len M.len (d_var (n := 1) rfl (h1.mono xB4))) a_nil)) ⟨W.ties[i], _, rfl, ?_, ?_, ?_, rfl⟩))) (by rfl))
      fun _ => w_or1 (t_w (Pw.is (w_and (y := false) (t_gt (d_var (n := 3) rfl k1) d_int) fun hp => w_and1 ?_) (by simp))))) (by rfl)) fun H7 e7 u7 => b_nil ⟨B4, x1.trans g4.b, u7, _, _, rfl, (gI.trans g4).ext e7⟩) nd
    · exact (kw.ties _ (List.getElem_mem hi)).1
    · exact (kw.ties _ (List.getElem_mem hi)).2.1
    · rw [lenW]
      exact (kw.ties _ (List.getElem_mem hi)).2.2
    · obtain ⟨j, rfl⟩ : ∃ j, i = j + 1 := ⟨i - 1, by have := of_decide_eq_true hp; omega⟩
      refine Pt.is (t_leP hr (d_var (n := 4) rfl k2) (d_ixT (d_var (n := 2) rfl (h2.mono xB4)) (d_sub (d_var (n := 3) rfl k1) d_int) (d := dP (W.ties[j]'(by omega))) ?_)) ?_
      · rw [show (((j + 1 : Nat) : Int) - 1) = (j : Int) by omega]
        refine atI_nat ?_
        rw [List.getElem?_map, List.getElem?_eq_getElem (by omega : j < W.ties.length)]
        rfl
      · exact decide_eq_false (up_tie kw hi)
  · obtain ⟨y, z, rfl, gI⟩ := hI
    have h0' := h0.mono gI.b
    have xB' : Xt T B3 B' := (gg.trans g6).b.trans x1
    refine b_skip gI.u (Pt.is (t_lt (d_len M.len (d_call DH hr (a_cons (d_var (n := 0) rfl h0') (a_cons d_int (a_cons (d_call DE hr (a_cons (d_var (n := 0) rfl h0') a_nil) ⟨W, rfl, n8, rfl⟩) a_nil))) ⟨W, 0, _, irange W.n, rfl, .tup _, kw.few, irange_up _, ?_, ?_, rfl⟩)) (d_len M.len (d_var (n := 1) rfl (h1.mono xB')))) ?_) fun H7 e7 u7 => b_nil (q .non _ _ (gI.ext e7) .non)
    · rw [irange_len]
      omega
    · exact mem_irange.mpr ⟨Int.le_refl 0, by omega⟩
    · rw [comp_all kw, lenW, List.length_map, irange_len]
      simp
      omega
end
end DW

/-! lots; lists that grow -/
namespace DW
open PySem PySem.Spec PyProof.Rows L2 RZ
theorem up_snoc {m : List Int} {x : Int} : Up (m ++ [x]) ↔ Up m ∧ ∀ y ∈ m, y < x := by
  unfold Up
  rw [List.pairwise_append]
  simp
theorem mem_foundL : ∀ {n : Nat} {l : List Int}, l ∈ foundL n ↔ Up l ∧ ∀ x ∈ l, 0 ≤ x ∧ x < (n : Int)
  | 0, l => by
    unfold foundL
    rw [List.mem_singleton]
    constructor
    · rintro rfl
      exact ⟨.nil, by simp⟩
    · rintro ⟨_, h⟩
      cases l with
      | nil => rfl
      | cons a t =>
        have := h a List.mem_cons_self
        omega
  | n + 1, l => by
    unfold foundL
    rw [List.mem_append, mem_foundL, List.mem_map]
    constructor
    · rintro (⟨h1, h2⟩ | ⟨m, hm, rfl⟩)
      · exact ⟨h1, fun x hx => by have := h2 x hx; omega⟩
      · obtain ⟨h1, h2⟩ := mem_foundL.mp hm
        refine ⟨up_snoc.mpr ⟨h1, fun y hy => (h2 y hy).2⟩, fun x hx => ?_⟩
        rcases List.mem_append.mp hx with h | h
        · have := h2 x h
          omega
        · have := List.mem_singleton.mp h
          omega
    · rintro ⟨h1, h2⟩
      by_cases hn : (n : Int) ∈ l
      · right
        have hne : l ≠ [] := List.ne_nil_of_mem hn
        have hl : l.dropLast ++ [l.getLast hne] = l := List.dropLast_concat_getLast hne
        rw [← hl] at h1 hn
        obtain ⟨k1, k2⟩ := up_snoc.mp h1
        have e : l.getLast hne = (n : Int) := by
          rcases List.mem_append.mp hn with h | h
          · have h3 := k2 _ h
            have h4 := h2 _ (List.getLast_mem hne)
            omega
          · exact (List.mem_singleton.mp h).symm
        refine ⟨l.dropLast, mem_foundL.mpr ⟨k1, fun x hx => ?_⟩, by rw [← e]; exact hl⟩
        have h3 := k2 x hx
        have h4 := h2 x (List.dropLast_subset _ hx)
        omega
      · left
        refine ⟨h1, fun x hx => ?_⟩
        have h3 := h2 x hx
        have : x ≠ n := fun e => hn (e ▸ hx)
        omega
theorem mem_lots {n : Int} {l : List Int} : l ∈ lots n ↔ l ≠ [] ∧ Up l ∧ ∀ x ∈ l, 0 ≤ x ∧ x < n := by
  unfold lots
  rw [List.mem_mergeSort, List.mem_filter, mem_foundL, decide_eq_true_eq]
  constructor
  · rintro ⟨⟨h1, h2⟩, h3⟩
    refine ⟨h3, h1, fun x hx => ?_⟩
    have := h2 x hx
    omega
  · rintro ⟨h1, h2, h3⟩
    refine ⟨⟨h2, fun x hx => ?_⟩, h1⟩
    have := h3 x hx
    omega
theorem lots_len {n : Int} (h : n ≤ 8) : (lots n).length ≤ 256 := by
  unfold lots
  rw [List.length_mergeSort]
  refine Nat.le_trans (List.length_filter_le _ _) ?_
  rw [foundL_len]
  exact two_pow_le (by omega)
theorem lots_ok {W : Web} {l : List Int} (h : l ∈ lots W.n) : LotOk W l := by
  obtain ⟨h1, h2, h3⟩ := mem_lots.mp h
  exact ⟨h1, h2, h3⟩

/-! a list of ours that grows -/
structure Ac (T : List (Addr × Str)) (B H : Hp) (r : Addr) (B' H' : Hp) (ds : List PyData) : Prop where
  go : Go T B H B' H'
  nH : Fr0 H r
  nB : Fr0 B' r
  at_ : ∃ ys, H' r = some (.lst ys) ∧ DaAll B' ys ds
section
variable {T : List (Addr × Str)} {B H B' H' B2 H2 : Hp} {r : Addr} {ds : List PyData}
theorem Ac.ext (a : Ac T B H r B' H' ds) (e : Xt T H' H2) : Ac T B H r B' H2 ds := by
  obtain ⟨ys, h1, h2⟩ := a.at_
  exact ⟨a.go.ext e, a.nH, a.nB, ys, e.lstAt h1, h2⟩
theorem Ac.on (a : Ac T B H r B' H' ds) (g : Go T B' H' B2 H2) : Ac T B H r B2 H2 ds := by
  obtain ⟨ys, h1, h2⟩ := a.at_
  exact ⟨a.go.trans g, a.nH, g.pr r _ a.nB h1, ys, g.h.lstAt h1, h2.mono g.b⟩
theorem Ac.show (a : Ac T B H r B' H' ds) : ∃ Bt, Go T B H Bt H' ∧ Xt T B' Bt ∧ Da Bt (.ref r) (.list ds) := by
  obtain ⟨ys, h1, h2⟩ := a.at_
  exact a.go.shown a.nH a.nB h1 h2
theorem Ac.read (a : Ac T B H r B' H' ds) : ∃ Bt, Xt T Bt H' ∧ Xt T B' Bt ∧ Da Bt (.ref r) (.list ds) := by
  obtain ⟨ys, h1, h2⟩ := a.at_
  exact a.go.u.shown a.go.b.tabs a.nB h1 h2
end
section
variable {T : List (Addr × Str)} {X : Cx} {σ : L2.St} {B H B' H' : Hp} {a b c e tg iter elt : Expr} {es : List Expr} {rest body : List Stmt} {D : Ends} {d : PyData} {ds : List PyData} {pos p p' p2 px py apos : Pos} {k n i j : Nat} {r : Addr}
/-- found = [] -/
theorem s_newA {x : Str} (hN : X.N.Nodup) (g : Go T B H B' H') (q : ∀ r H2, Ac T B H r B' H2 [] → D.nx (σ.set i (some (.ref r))) H2) (hi : X.N[i]? = some x := by rfl) (hx : Loc X.env.scope x := by first | exact Or.inl rfl | exact Or.inr rfl)
    (hs : swapsWith (.List [] p) (some (.Name x p')) pos.line X.env = pure false := by rfl) (hf : X.fn x = true ∨ X.env.scope.names.lookup x = some .local := by first | exact .inl rfl | exact .inr rfl) : WS X (.Assign [.Name x p'] (.List [] p) pos) D σ H' :=
  PS.w (ps_set hN hi hx (pe_lst pa_w) hs hf) (wa_nil ⟨by show 0 ≤ sizeLine; decide, fun r hr => q r _ ⟨g.mine hr, g.h.free hr, g.u.free hr, [], upd_same, .nil⟩⟩)
theorem s_appA {x : Str} (A : Ac T B H r B' H' ds) (hs : σ[i]? = some (some (.ref r))) (hl : ds.length < 100000) (h : Pe T X e σ B' d) (q : ∀ B6 H6, Xt T B' B6 → Ac T B H r B6 H6 (ds ++ [d]) → D.nx σ H6)
    (hN : X.N[i]? = some x := by rfl) (hv : Vis X.env.scope x := by first | exact Or.inl rfl | exact Or.inr (Or.inl rfl) | exact Or.inr (Or.inr rfl)) (h1 : (x == ("__debug__" : Str)) = false := by decide) (h2 : (x == ("__classdict__" : Str)) = false := by decide)
    (hsw : swapsWith (.Call (.Attribute (.Name x p) "append" apos) [e] [] p') none pos.line X.env = pure false := by rfl) (hbase : attributeBase (.Name x p) "append" X.env (eval (.Name x p) X.env) = eval (.Name x p) X.env := by rfl)
    (hfew : ((backTo p' (starEach (e :: []) X.env)).all (fun x => !x.1) && (backToKw p' (keywordEach [] X.env)).all (fun x => x.1.isSome)
      && decide ((e :: ([] : List Expr)).length + ([] : List Keyword).length + (if ([] : List Keyword).isEmpty then 0 else 1) < 30)) = true := by rfl)
    (hline : (apos.endLine == p'.line) = true := by rfl) (hst : starEach (e :: []) X.env = (false, eval e X.env) :: starEach [] X.env := by rfl) (hplain : (backTo p' (starEach [] X.env)).any (·.1) = false := by rfl) :
    WS X (.Expr (.Call (.Attribute (.Name x p) "append" apos) [e] [] p') pos) D σ H' := by
  obtain ⟨ys, k1, k2⟩ := A.at_
  refine s_app A.go.u hs k1 (by rw [k2.length]; exact hl) h (fun v B2 H2 g hr hv => q B2 _ g.b ⟨?_, A.nH, g.pr r _ A.nB k1, _, upd_same, ?_⟩) hN hv h1 h2 hsw hbase hfew hline hst hplain
  · exact (A.go.trans g).mutL A.nH (g.pr r _ A.nB k1) hr
  · exact (k2.mono g.b).append (.cons hv .nil)
/-- a loop that makes such a list grow -/
theorem s_forA {β : Type} {xs : List β} {enc : β → PyData} (S : L2.St → Prop) (acc : Nat → List PyData) (A : Ac T B H r B' H' (acc 0)) (hS : S σ) (hs : Src T X tg iter σ B' (xs.map enc))
    (turn : ∀ n x v σ' B1 H1, xs[n]? = some x → S σ' → Xt T B' B1 → Ac T B H r B1 H1 (acc n) → Da B1 v (enc x) → ∀ N : L2.St → Hp → Prop, (∀ σ3 B6 H6, S σ3 → Xt T B1 B6 → Ac T B H r B6 H6 (acc (n + 1)) → N σ3 H6) → WG X tg v σ' H1 fun σ2 H5 => WB X body { D with nx := N, ct := N, bk := D.nx } σ2 H5)
    (done : ∀ σ' B1 H1, S σ' → Xt T B' B1 → Ac T B H r B1 H1 (acc xs.length) → D.nx σ' H1)
    (hp : PassesOwn (model X.prog X.w) X.A X.env X.xe := by exact PassesOwn.never) (hc : X.calm = true := by rfl) (hf : ∀ x, foldedSetIterable iter X.env x = pure x := by intro _; rfl) : WS X (.For tg iter body [] pos) D σ H' := by
  refine s_for A.go.u hs (fun B2 H2 g2 => ⟨fun n B1 σ' H1 => S σ' ∧ Ac T B H r B1 H1 (acc n), ⟨hS, A.on g2⟩, fun n d v B1 σ' H1 B4 H4 hd ⟨hS', hA⟩ x1 x2 g4 hv => ?_, fun B1 σ' H1 x1 x2 ⟨hS', hA⟩ => ?_⟩) hp hc hf
  · rw [List.getElem?_map] at hd
    obtain ⟨x, hx, rfl⟩ := Option.map_eq_some_iff.mp hd
    exact turn n x v σ' B4 H4 hx hS' ((g2.b.trans x1).trans g4.b) (hA.on g4) hv _ fun σ3 B6 H6 h1 h2 h3 => ⟨B6, (x1.trans g4.b).trans h2, h3.go.u, h1, h3⟩
  · rw [List.length_map] at hA
    exact done σ' B1 H1 hS' (g2.b.trans x1) hA
end
end DW

namespace DW
open PySem PySem.Spec PyProof.Rows L2 RZ
/-! who must stay -/
noncomputable def lfStep (W : Web) (p : Int) (found : List (List Int)) (lot : List Int) : List (List Int) := if (decide (p ∈ lot) && decide (cost W lot = 0) && !found.any (holdsB lot)) = true then found ++ [lot] else found
noncomputable def leastFree (W : Web) (p : Int) : List (List Int) := (lots W.n).foldl (lfStep W p) []
noncomputable def guardsF (W : Web) (p : Int) : List Int := (irange W.n).filter fun o => !decide (o = p) && (leastFree W p).all fun l => decide (o ∈ l)
noncomputable def guStep (W : Web) (found : List (List Int)) (lot : List Int) : List (List Int) := if (decide (0 < cost W lot) && !found.any fun m => holdsB m lot) = true then found ++ [lot] else found
noncomputable def greatest (W : Web) : List (List Int) := ((lots W.n).reverse.foldl (guStep W) []).mergeSort keyLe
noncomputable def freersF (W : Web) (lot : List Int) : List Int := (irange W.n).filter fun p => !decide (p ∈ lot) && decide (cost W (srt (lot ++ [p])) = 0)
def without (lot : List Int) (p : Int) : List Int := lot.filter fun x => !decide (x = p)
noncomputable def leaversF (W : Web) (lot : List Int) : List Int := lot.filter fun p => !decide (without lot p = []) && decide (cost W (without lot p) ≤ cost W lot)
noncomputable def lowsF (W : Web) (lot : List Int) : List (List Int) := (deep W lot).map fun p => p.filter fun x => decide (W.num x = least W p)
noncomputable def freeLose (W : Web) (lot : List Int) : Bool := ((lots W.n).filter (holdsB lot)).all fun l => decide (cost W l = 0)

theorem foldl_take {α β : Type} (f : β → α → β) (b : β) {l : List α} {n : Nat} {x : α} (h : l[n]? = some x) : (l.take (n + 1)).foldl f b = f ((l.take n).foldl f b) x := by
  rw [take_snoc h, List.foldl_append]
  rfl
theorem fold_grow {α : Type} {f : List α → α → List α} (hf : ∀ b x, f b x = b ++ [x] ∨ f b x = b) : ∀ (l : List α) (b : List α), (l.foldl f b).length ≤ b.length + l.length
  | [], b => Nat.le_refl _
  | x :: l, b => by
    have ih := fold_grow hf l (f b x)
    rw [List.foldl_cons]
    rcases hf b x with e | e
    · rw [e, List.length_append, List.length_singleton] at ih
      rw [List.length_cons, e]
      omega
    · rw [e] at ih
      rw [List.length_cons, e]
      omega
theorem fold_mem {α : Type} {f : List α → α → List α} (hf : ∀ b x, f b x = b ++ [x] ∨ f b x = b) : ∀ (l : List α) (b : List α) (y : α), y ∈ l.foldl f b → y ∈ b ∨ y ∈ l
  | [], b, y, h => .inl h
  | x :: l, b, y, h => by
    rw [List.foldl_cons] at h
    rcases fold_mem hf l _ y h with h | h
    · rcases hf b x with e | e
      · rw [e, List.mem_append, List.mem_singleton] at h
        rcases h with h | h
        · exact .inl h
        · exact .inr (h ▸ List.mem_cons_self)
      · rw [e] at h
        exact .inl h
    · exact .inr (List.mem_cons_of_mem _ h)
theorem lfStep_or (W : Web) (p : Int) (b : List (List Int)) (x : List Int) : lfStep W p b x = b ++ [x] ∨ lfStep W p b x = b := by
  unfold lfStep
  split
  · exact .inl rfl
  · exact .inr rfl
theorem guStep_or (W : Web) (b : List (List Int)) (x : List Int) : guStep W b x = b ++ [x] ∨ guStep W b x = b := by
  unfold guStep
  split
  · exact .inl rfl
  · exact .inr rfl
theorem leastFree_sub {W : Web} {p : Int} {l : List Int} (h : l ∈ leastFree W p) : l ∈ lots W.n := by
  rcases fold_mem (lfStep_or W p) _ _ l h with h | h
  · cases h
  · exact h
theorem leastFree_len {W : Web} {p : Int} (h : W.n ≤ 8) : (leastFree W p).length ≤ 256 := by
  have h1 := fold_grow (lfStep_or W p) (lots W.n) []
  have h2 := lots_len h
  have h3 : (leastFree W p).length ≤ ([] : List (List Int)).length + (lots W.n).length := h1
  rw [List.length_nil] at h3
  omega
theorem LotOk.len8 {W : Web} {lot : List Int} (h : LotOk W lot) (h8 : W.n ≤ 8) : lot.length ≤ 8 := by
  have := up_len h.up h.bd
  omega
theorem lotOk_add {W : Web} {lot : List Int} (h : LotOk W lot) {p : Int} (hp : p ∉ lot) (h0 : 0 ≤ p) (h1 : p < W.n) : LotOk W (srt (lot ++ [p])) := by
  have nd : (lot ++ [p]).Nodup := by
    rw [List.nodup_append]
    refine ⟨h.up.nodup, by simp, fun a ha b hb => ?_⟩
    rw [List.mem_singleton] at hb
    subst hb
    exact fun e => hp (e ▸ ha)
  refine ⟨?_, srt_up nd, fun x hx => ?_⟩
  · intro e
    have : p ∈ srt (lot ++ [p]) := mem_srt.mpr (by simp)
    rw [e] at this
    cases this
  · have := mem_srt.mp hx
    rcases List.mem_append.mp this with h' | h'
    · exact h.bd x h'
    · rw [List.mem_singleton.mp h']
      exact ⟨h0, h1⟩
theorem lotOk_without {W : Web} {lot : List Int} (h : LotOk W lot) {p : Int} (hp : without lot p ≠ []) : LotOk W (without lot p) :=
  ⟨hp, h.up.sublist List.filter_sublist, fun x hx => h.bd x (List.mem_filter.mp hx).1⟩

section
variable {T : List (Addr × Str)} {P : Program} {w : World} {K : PySem.W.Frag} {mg : Str → Option Value} {base : Heap} {f : Addr} {fd : FuncData}

abbrev s_holds : Stmt := topS 28
abbrev R_holds : List PyData → PyData → Prop := fun ds d => ∃ lot inner : List Int, ds = [dT lot, dT inner] ∧ inner.length ≤ 8 ∧ d = .bool (holdsB lot inner)
theorem sc_holds : FnScope ["lot", "inner", "one"] ["lot", "inner"] (defScope s_holds) := ⟨rfl, rfl, rfl, by decide +kernel, rfl, by decide +kernel, by decide +kernel⟩
theorem ok_holds (A : At K mg "holds" s_holds f fd) (M : Mg mg) : DefOk T P w K mg base "holds" 1 R_holds := by
  refine def_ok A.F sc_holds A.m (A.F.binds fun _ _ _ _ _ _ us hl => match us, hl with | [_, _], _ => rfl) (fun ds d h => by obtain ⟨_, _, rfl, _⟩ := h; rfl) fun cdv A' outer s H E B vs ds d Q hr u hv hR q => ?_
  obtain ⟨lot, inner, rfl, k8, rfl⟩ := hR
  obtain ⟨v0, vs, rfl, h0, hv⟩ := hv.consE
  obtain ⟨v1, rfl, h1⟩ := hv.one
  refine b_one (s_ret u (Pe.is (d_all (bs := inner.map fun y => decide (y ∈ lot)) M.all (Pe.is (d_map (j := 2) (xs := inner) (enc := PyData.int) (fun y => .bool (decide (y ∈ lot))) (src_tup (d_var (n := 1) rfl h1)) (by omega) (blkOk_by (by kernel_rfl)) sc_holds.nd
    fun y hy v' B7 x7 hv7 s' H0' C' cl' fp' => d_in (d_var (n := 2) rfl hv7) (d_var (n := 0) rfl (h0.mono x7))) ?_)) ?_) q)
  · rw [List.map_map]
    rfl
  · rw [List.all_map]
    rfl

abbrev s_lfw : Stmt := topS 29
abbrev R_lfw : List PyData → PyData → Prop := fun ds d => ∃ (W : Web) (p : Int), ds = [dW W, .int p] ∧ WebOk W ∧ d = .list ((leastFree W p).map dT)
theorem sc_lfw : FnScope ["web", "person", "found", "lot", "less"] ["web", "person"] (defScope s_lfw) := ⟨rfl, rfl, rfl, by decide +kernel, rfl, by decide +kernel, by decide +kernel⟩
theorem ok_lfw (A : At K mg "least_free_with_of" s_lfw f fd) (M : Mg mg) (DL : DefOk T P w K mg base "lots_of" 1 R_lots_of) (DC : DefOk T P w K mg base "cost_of" 5 R_cost_of) (DH : DefOk T P w K mg base "holds" 1 R_holds) : DefOk T P w K mg base "least_free_with_of" 6 R_lfw := by
  refine def_ok A.F sc_lfw A.m (A.F.binds fun _ _ _ _ _ _ us hl => match us, hl with | [_, _], _ => rfl) (fun ds d h => by obtain ⟨_, _, rfl, _⟩ := h; rfl) fun cdv A' outer s H E B vs ds d Q hr u hv hR q => ?_
  obtain ⟨W, p, rfl, kw, rfl⟩ := hR
  obtain ⟨v0, vs, rfl, h0, hv⟩ := hv.consE
  obtain ⟨v1, rfl, h1⟩ := hv.one
  obtain rfl := h1.intE
  have nd := sc_lfw.nd
  have n1 := kw.n1
  have n8 := kw.n8
  have ll := lots_len n8
  have g0 := lim_go u u.self
  refine b_cons (s_newA (i := 2) nd g0 fun r H1 a1 => ?_)
  refine b_cons (s_forA (xs := lots W.n) (enc := dT) (fun σ' => ∃ y, σ' = [some v0, some (.int p), some (.ref r), y, none]) (fun n => (((lots W.n).take n).foldl (lfStep W p) []).map dT) a1 ⟨none, rfl⟩
    (src_list (d_call DL hr (a_cons (Pe.is (d_len M.len (d_ixT (d_var (n := 0) rfl (h0.mono a1.go.b)) d_int (by rfl))) (by rw [lenW])) a_nil) ⟨W.n, rfl, by omega, n8, rfl⟩)) (fun n x v σ' B2 H2 hx hS xB a2 hv2 N hN => ?_) fun σ' B2 H2 hS xB a2 => ?_)
  · obtain ⟨y, rfl⟩ := hS
    obtain ⟨Bu, uu, xu, hu⟩ := a2.read
    have xm : x ∈ lots W.n := List.mem_of_getElem? hx
    have x8 := (lots_ok xm).len8 n8
    have fl := fold_grow (lfStep_or W p) ((lots W.n).take n) []
    rw [List.length_take] at fl
    have fl' : (((lots W.n).take n).foldl (lfStep W p) []).length ≤ 256 := by
      have : ([] : List (List Int)).length = 0 := rfl
      omega
    rw [foldl_take _ _ hx] at hN
    generalize hF : ((lots W.n).take n).foldl (lfStep W p) [] = F at hN a2 hu fl'
    refine g_name (i := 3) (b_one (s_if (t := decide (p ∈ x) && (decide (cost W x = 0) && !F.any (holdsB x))) uu (t_w (w_and (t_in (d_var (n := 1) rfl (.int p)) (d_var (n := 3) rfl (hv2.mono xu))) fun _ => w_and (t_eqI (d_call DC hr (a_cons (d_var (n := 0) rfl (h0.mono ((a1.go.b.trans xB).trans xu))) (a_cons (d_var (n := 3) rfl (hv2.mono xu)) a_nil)) ⟨W, x, rfl, kw, lots_ok xm, rfl⟩) d_int) fun _ =>
      w_and1 (t_not (t_val (Pe.is (d_any (bs := F.map fun l => holdsB x l) M.any (Pe.is (d_map (j := 4) (xs := F) (enc := dT) (fun l => .bool (holdsB x l)) (src_list (d_var (n := 2) rfl hu)) (by omega) (blkOk_by (by kernel_rfl)) nd fun l hl v' B7 x7 hv7 s' H0' C' cl' fp' =>
        d_call DH hr (a_cons (d_var (n := 3) rfl ((hv2.mono xu).mono x7)) (a_cons (d_var (n := 4) rfl hv7) a_nil)) ⟨x, l, rfl, ?_, rfl⟩) ?_)) ?_))))) (fun hc H3 e3 => ?_) fun hc H3 e3 => ?_)) nd
    · have : l ∈ lots W.n := by
        rw [← hF] at hl
        rcases fold_mem (lfStep_or W p) _ _ l hl with h | h
        · cases h
        · exact List.mem_of_mem_take h
      exact (lots_ok this).len8 n8
    · rw [List.map_map]
      rfl
    · rw [List.any_map]
      rfl
    · have es : lfStep W p F x = F ++ [x] := if_pos (by rw [Bool.and_assoc]; exact hc)
      refine b_one (s_appA (i := 2) (a2.ext e3) rfl (by rw [List.length_map]; omega) (d_var (n := 3) rfl hv2) fun B6 H6 x6 a6 => hN _ B6 H6 ⟨_, rfl⟩ x6 ?_)
      rw [es, List.map_append]
      exact a6
    · have es : lfStep W p F x = F := if_neg (by rw [Bool.and_assoc, hc]; exact Bool.false_ne_true)
      refine b_nil (hN _ B2 H3 ⟨_, rfl⟩ a2.go.b.self (by rw [es]; exact a2.ext e3))
  · obtain ⟨y, rfl⟩ := hS
    rw [List.take_length] at a2
    obtain ⟨Bt, gt, xt, ht⟩ := a2.show
    exact b_one (s_ret gt.u (d_var (n := 2) rfl ht) fun v5 B5 H5 g5 hv5 => q v5 B5 H5 (gt.trans g5) hv5)
end
end DW

namespace DW
open PySem PySem.Spec PyProof.Rows L2 RZ
section
variable {T : List (Addr × Str)} {P : Program} {w : World} {K : PySem.W.Frag} {mg : Str → Option Value} {base : Heap} {f c : Addr} {fd : FuncData}

abbrev s_lf : Stmt := topS 30
abbrev R_lf : List PyData → PyData → Prop := fun ds d => ∃ (W : Web) (p : Int), ds = [dW W, .int p] ∧ WebOk W ∧ (0 ≤ p ∧ p < W.n) ∧ d = .list ((leastFree W p).map dT)
theorem sc_lf : FnScope ["web", "person"] ["web", "person"] (defScope s_lf) := ⟨rfl, rfl, rfl, by decide +kernel, rfl, by decide +kernel, by decide +kernel⟩
theorem ok_lf (A : At K mg "least_free_with" s_lf f fd) (M : Mg mg) (DW_ : DefOk T P w K mg base "need_web" 4 R_need_web) (DP : DefOk T P w K mg base "need_person" 3 R_need_person) (DF : DefOk T P w K mg base "least_free_with_of" 6 R_lfw) : DefOk T P w K mg base "least_free_with" 7 R_lf := by
  refine def_ok A.F sc_lf A.m (A.F.binds fun _ _ _ _ _ _ us hl => match us, hl with | [_, _], _ => rfl) (fun ds d h => by obtain ⟨_, _, rfl, _⟩ := h; rfl) fun cdv A' outer s H E B vs ds d Q hr u hv hR q => ?_
  obtain ⟨W, p, rfl, kw, kp, rfl⟩ := hR
  obtain ⟨v0, vs, rfl, h0, hv⟩ := hv.consE
  obtain ⟨v1, rfl, h1⟩ := hv.one
  refine b_cons (s_expr u (d_call DW_ hr (a_cons (d_var (n := 0) rfl h0) a_nil) ⟨W, rfl, kw, rfl⟩) fun _ B1 H1 g1 _ => ?_)
  refine b_cons (s_expr g1.u (d_call DP hr (a_cons (d_var (n := 0) rfl (h0.mono g1.b)) (a_cons (d_var (n := 1) rfl (h1.mono g1.b)) a_nil)) ⟨W, p, rfl, kp.1, kp.2, rfl⟩) fun _ B2 H2 g2 _ => ?_)
  have b2 := g1.b.trans g2.b
  exact b_one (s_ret g2.u (d_call DF hr (a_cons (d_var (n := 0) rfl (h0.mono b2)) (a_cons (d_var (n := 1) rfl (h1.mono b2)) a_nil)) ⟨W, p, rfl, kw, rfl⟩) fun v B3 H3 g3 hd => q v B3 H3 ((g1.trans g2).trans g3) hd)

abbrev s_guards : Stmt := topS 31
abbrev R_guards : List PyData → PyData → Prop := fun ds d => ∃ (W : Web) (p : Int), ds = [dW W, .int p] ∧ WebOk W ∧ (0 ≤ p ∧ p < W.n) ∧ d = dT (guardsF W p)
theorem sc_guards : FnScope ["web", "person", "some", "one", "lot"] ["web", "person"] (defScope s_guards) := ⟨rfl, rfl, rfl, by decide +kernel, rfl, by decide +kernel, by decide +kernel⟩
theorem ok_guards (A : At K mg "guards" s_guards f fd) (M : Mg mg) (DW_ : DefOk T P w K mg base "need_web" 4 R_need_web) (DP : DefOk T P w K mg base "need_person" 3 R_need_person) (DF : DefOk T P w K mg base "least_free_with_of" 6 R_lfw) : DefOk T P w K mg base "guards" 7 R_guards := by
  refine def_ok A.F sc_guards A.m (A.F.binds fun _ _ _ _ _ _ us hl => match us, hl with | [_, _], _ => rfl) (fun ds d h => by obtain ⟨_, _, rfl, _⟩ := h; rfl) fun cdv A' outer s H E B vs ds d Q hr u hv hR q => ?_
  obtain ⟨W, p, rfl, kw, kp, rfl⟩ := hR
  obtain ⟨v0, vs, rfl, h0, hv⟩ := hv.consE
  obtain ⟨v1, rfl, h1⟩ := hv.one
  have nd := sc_guards.nd
  have n1 := kw.n1
  have n8 := kw.n8
  have fl := leastFree_len (p := p) n8
  refine b_cons (s_expr u (d_call DW_ hr (a_cons (d_var (n := 0) rfl h0) a_nil) ⟨W, rfl, kw, rfl⟩) fun _ B1 H1 g1 _ => ?_)
  refine b_cons (s_expr g1.u (d_call DP hr (a_cons (d_var (n := 0) rfl (h0.mono g1.b)) (a_cons (d_var (n := 1) rfl (h1.mono g1.b)) a_nil)) ⟨W, p, rfl, kp.1, kp.2, rfl⟩) fun _ B2 H2 g2 _ => ?_)
  have b2 := g1.b.trans g2.b
  refine b_cons (s_set (i := 2) nd g2.u (d_call DF hr (a_cons (d_var (n := 0) rfl (h0.mono b2)) (a_cons (d_var (n := 1) rfl (h1.mono b2)) a_nil)) ⟨W, p, rfl, kw, rfl⟩) fun v3 B3 H3 g3 hv3 => ?_)
  have b3 := b2.trans g3.b
  refine b_one (s_ret g3.u (d_tuple M.tuple (d_lc (j := 3) (xs := irange W.n) (enc := PyData.int) (fun o => !decide (o = p) && (leastFree W p).all fun l => decide (o ∈ l)) .int (src_range M.range (Pe.is (d_len M.len (d_ixT (d_var (n := 0) rfl (h0.mono b3)) d_int (by rfl))) (by rw [lenW])) (by omega) (by omega)) (by rw [irange_len]; omega) (blkOk_by (by kernel_rfl)) nd
    (fun z hz v B6 x6 hv6 s H0 C cl fp => ts_one (t_w (w_and (t_neI (d_var (n := 3) rfl hv6) (d_var (n := 1) rfl (h1.mono (b3.trans x6)))) fun _ => w_and1 (t_val (Pe.is (d_all (bs := (leastFree W p).map fun l => decide (z ∈ l)) M.all (Pe.is (d_map (j := 4) (xs := leastFree W p) (enc := dT) (fun l => .bool (decide (z ∈ l))) (src_list (d_var (n := 2) rfl (hv3.mono x6))) (by omega) (blkOk_by (by kernel_rfl)) nd
      fun l hl v' B7 x7 hv7 s' H0' C' cl' fp' => d_in (d_var (n := 3) rfl (hv6.mono x7)) (d_var (n := 4) rfl hv7)) ?_)) ?_)))))
    fun z hz _ v B6 x6 hv6 s H0 C cl fp => d_var (n := 3) rfl hv6)) fun v B5 H5 g5 hd => q v B5 H5 (((g1.trans g2).trans g3).trans g5) hd)
  · rw [List.map_map]
    rfl
  · rw [List.all_map]
    rfl

abbrev s_company : Stmt := topS 32
abbrev R_company : List PyData → PyData → Prop := fun ds d => ∃ (W : Web) (p : Int), ds = [dW W, .int p] ∧ WebOk W ∧ (0 ≤ p ∧ p < W.n) ∧ leastFree W p ≠ [] ∧ d = .int (lmin ((leastFree W p).map fun l => (l.length : Int)))
theorem sc_company : FnScope ["web", "person", "lot"] ["web", "person"] (defScope s_company) := ⟨rfl, rfl, rfl, by decide +kernel, rfl, by decide +kernel, by decide +kernel⟩
theorem ok_company (A : At K mg "company" s_company f fd) (M : Mg mg) (DW_ : DefOk T P w K mg base "need_web" 4 R_need_web) (DP : DefOk T P w K mg base "need_person" 3 R_need_person) (DF : DefOk T P w K mg base "least_free_with_of" 6 R_lfw) : DefOk T P w K mg base "company" 7 R_company := by
  refine def_ok A.F sc_company A.m (A.F.binds fun _ _ _ _ _ _ us hl => match us, hl with | [_, _], _ => rfl) (fun ds d h => by obtain ⟨_, _, rfl, _⟩ := h; rfl) fun cdv A' outer s H E B vs ds d Q hr u hv hR q => ?_
  obtain ⟨W, p, rfl, kw, kp, kne, rfl⟩ := hR
  obtain ⟨v0, vs, rfl, h0, hv⟩ := hv.consE
  obtain ⟨v1, rfl, h1⟩ := hv.one
  have nd := sc_company.nd
  have fl := leastFree_len (p := p) kw.n8
  refine b_cons (s_expr u (d_call DW_ hr (a_cons (d_var (n := 0) rfl h0) a_nil) ⟨W, rfl, kw, rfl⟩) fun _ B1 H1 g1 _ => ?_)
  refine b_cons (s_expr g1.u (d_call DP hr (a_cons (d_var (n := 0) rfl (h0.mono g1.b)) (a_cons (d_var (n := 1) rfl (h1.mono g1.b)) a_nil)) ⟨W, p, rfl, kp.1, kp.2, rfl⟩) fun _ B2 H2 g2 _ => ?_)
  have b2 := g1.b.trans g2.b
  refine b_one (s_ret g2.u (d_min (ns := (leastFree W p).map fun l => (l.length : Int)) M.min (Pe.is (d_map (j := 2) (xs := leastFree W p) (enc := dT) (fun l => .int l.length) (src_list (d_call DF hr (a_cons (d_var (n := 0) rfl (h0.mono b2)) (a_cons (d_var (n := 1) rfl (h1.mono b2)) a_nil)) ⟨W, p, rfl, kw, rfl⟩)) (by omega) (blkOk_by (by kernel_rfl)) nd
    fun l hl v' B7 x7 hv7 s' H0' C' cl' fp' => Pe.is (d_len M.len (d_var (n := 2) rfl hv7)) (by rw [List.length_map])) ?_) ?_) fun v B5 H5 g5 hd => q v B5 H5 ((g1.trans g2).trans g5) hd)
  · rw [List.map_map]
    rfl
  · intro e
    exact kne (List.map_eq_nil_iff.mp e)

abbrev s_gu : Stmt := topS 33
abbrev R_gu : List PyData → PyData → Prop := fun ds d => ∃ (W : Web), ds = [dW W] ∧ WebOk W ∧ d = .list ((greatest W).map dT)
theorem sc_gu : FnScope ["web", "found", "lot", "more"] ["web"] (defScope s_gu) := ⟨rfl, rfl, rfl, by decide +kernel, rfl, by decide +kernel, by decide +kernel⟩
theorem ok_gu {PT : Addr} (A : At K mg "greatest_unfree" s_gu f fd) (hc : fd.code = .ref c) (TB : LamX.TabB base mg c PT) (hmT : (PT, ("greatest_unfree" : Str) ++ ".<locals>." ++ "<lambda>") ∈ T) (hu : ∀ p ∈ T, p.1 = PT → p.2 = ("greatest_unfree" : Str) ++ ".<locals>." ++ "<lambda>") (M : Mg mg)
    (DW_ : DefOk T P w K mg base "need_web" 4 R_need_web) (DL : DefOk T P w K mg base "lots_of" 1 R_lots_of) (DC : DefOk T P w K mg base "cost_of" 5 R_cost_of) (DH : DefOk T P w K mg base "holds" 1 R_holds) : DefOk T P w K mg base "greatest_unfree" 6 R_gu := by
  refine def_okC A.F hc sc_gu A.m (A.F.binds fun _ _ _ _ _ _ us hl => match us, hl with | [_], _ => rfl) (fun ds d ⟨i, h, _⟩ => by rw [h]; rfl) fun A' outer s H E B vs ds d Q hr u hv hR q => ?_
  obtain ⟨W, rfl, kw, rfl⟩ := hR
  obtain ⟨v0, rfl, h0⟩ := hv.one
  have nd := sc_gu.nd
  have n1 := kw.n1
  have n8 := kw.n8
  have ll := lots_len n8
  refine b_cons (s_expr u (d_call DW_ hr (a_cons (d_var (n := 0) rfl h0) a_nil) ⟨W, rfl, kw, rfl⟩) fun _ B1 H1 g1 _ => ?_)
  refine b_cons (s_newA (i := 1) nd g1 fun r H2 a2 => ?_)
  refine b_cons (s_forA (xs := (lots W.n).reverse) (enc := dT) (fun σ' => ∃ y, σ' = [some v0, some (.ref r), y, none]) (fun n => (((lots W.n).reverse.take n).foldl (guStep W) []).map dT) a2 ⟨none, rfl⟩
    (src_list (Pe.is (d_rev (d_call DL hr (a_cons (Pe.is (d_len M.len (d_ixT (d_var (n := 0) rfl (h0.mono a2.go.b)) d_int (by rfl))) (by rw [lenW])) a_nil) ⟨W.n, rfl, by omega, n8, rfl⟩)) (by rw [List.map_reverse]))) (fun n x v σ' B2 H2 hx hS xB a2' hv2 N hN => ?_) fun σ' B2 H2 hS xB a2' => ?_)
  · obtain ⟨y, rfl⟩ := hS
    obtain ⟨Bu, uu, xu, hu⟩ := a2'.read
    have xm : x ∈ lots W.n := List.mem_reverse.mp (List.mem_of_getElem? hx)
    have x8 := (lots_ok xm).len8 n8
    have fl := fold_grow (guStep_or W) ((lots W.n).reverse.take n) []
    rw [List.length_take, List.length_reverse] at fl
    have fl' : (((lots W.n).reverse.take n).foldl (guStep W) []).length ≤ 256 := by
      have : ([] : List (List Int)).length = 0 := rfl
      omega
    rw [foldl_take _ _ hx] at hN
    generalize hF : ((lots W.n).reverse.take n).foldl (guStep W) [] = F at hN a2' hu fl'
    refine g_name (i := 2) (b_one (s_if (t := decide (0 < cost W x) && !F.any fun m => holdsB m x) uu (t_w (w_and (t_gt (d_call DC hr (a_cons (d_var (n := 0) rfl (h0.mono ((a2.go.b.trans xB).trans xu))) (a_cons (d_var (n := 2) rfl (hv2.mono xu)) a_nil)) ⟨W, x, rfl, kw, lots_ok xm, rfl⟩) d_int) fun _ =>
      w_and1 (t_not (t_val (Pe.is (d_any (bs := F.map fun l => holdsB l x) M.any (Pe.is (d_map (j := 3) (xs := F) (enc := dT) (fun l => .bool (holdsB l x)) (src_list (d_var (n := 1) rfl hu)) (by omega) (blkOk_by (by kernel_rfl)) nd fun l hl v' B7 x7 hv7 s' H0' C' cl' fp' =>
        d_call DH hr (a_cons (d_var (n := 3) rfl hv7) (a_cons (d_var (n := 2) rfl ((hv2.mono xu).mono x7)) a_nil)) ⟨l, x, rfl, x8, rfl⟩) ?_)) ?_))))) (fun hc H3 e3 => ?_) fun hc H3 e3 => ?_)) nd
    · rw [List.map_map]
      rfl
    · rw [List.any_map]
      rfl
    · have es : guStep W F x = F ++ [x] := if_pos hc
      refine b_one (s_appA (i := 1) (a2'.ext e3) rfl (by rw [List.length_map]; omega) (d_var (n := 2) rfl hv2) fun B6 H6 x6 a6 => hN _ B6 H6 ⟨_, rfl⟩ x6 ?_)
      rw [es, List.map_append]
      exact a6
    · have es : guStep W F x = F := if_neg (by rw [hc]; exact Bool.false_ne_true)
      refine b_nil (hN _ B2 H3 ⟨_, rfl⟩ a2'.go.b.self (by rw [es]; exact a2'.ext e3))
  · obtain ⟨y, rfl⟩ := hS
    rw [List.take_length] at a2'
    obtain ⟨Bt, gt, xt, ht⟩ := a2'.show
    exact b_one (s_ret gt.u (d_sortedKey hr ⟨TB, rfl, hmT, hu⟩ M.sorted M.len (d_var (n := 1) rfl ht) rfl rfl rfl rfl rfl rfl (by decide +kernel) (by decide +kernel) (fun _ _ _ _ _ _ => rfl)) fun v5 B5 H5 g5 hv5 => q v5 B5 H5 (gt.trans g5) hv5)
end
end DW

namespace DW
open PySem PySem.Spec PyProof.Rows L2 RZ
theorem filter_step {α : Type} (f : α → Bool) {l : List α} {n : Nat} {x : α} (h : l[n]? = some x) : (l.take (n + 1)).filter f = (l.take n).filter f ++ (if f x = true then [x] else []) := by
  rw [take_snoc h, List.filter_append, List.filter_cons]
  rfl
section
variable {T : List (Addr × Str)} {P : Program} {w : World} {K : PySem.W.Frag} {mg : Str → Option Value} {base : Heap} {f c : Addr} {fd : FuncData}

abbrev s_freers : Stmt := topS 34
abbrev R_freers : List PyData → PyData → Prop := fun ds d => ∃ (W : Web) (lot : List Int), ds = [dW W, dT lot] ∧ WebOk W ∧ LotOk W lot ∧ d = dT (freersF W lot)
theorem sc_freers : FnScope ["web", "lot", "found", "person"] ["web", "lot"] (defScope s_freers) := ⟨rfl, rfl, rfl, by decide +kernel, rfl, by decide +kernel, by decide +kernel⟩
theorem ok_freers (A : At K mg "freers" s_freers f fd) (M : Mg mg) (DW_ : DefOk T P w K mg base "need_web" 4 R_need_web) (DN : DefOk T P w K mg base "need_lot" 3 R_need_lot) (DC : DefOk T P w K mg base "cost_of" 5 R_cost_of) : DefOk T P w K mg base "freers" 6 R_freers := by
  refine def_ok A.F sc_freers A.m (A.F.binds fun _ _ _ _ _ _ us hl => match us, hl with | [_, _], _ => rfl) (fun ds d h => by obtain ⟨_, _, rfl, _⟩ := h; rfl) fun cdv A' outer s H E B vs ds d Q hr u hv hR q => ?_
  obtain ⟨W, lot, rfl, kw, kl, rfl⟩ := hR
  obtain ⟨v0, vs, rfl, h0, hv⟩ := hv.consE
  obtain ⟨v1, rfl, h1⟩ := hv.one
  have nd := sc_freers.nd
  have n1 := kw.n1
  have n8 := kw.n8
  have l8 := kl.len8 n8
  refine b_cons (s_expr u (d_call DW_ hr (a_cons (d_var (n := 0) rfl h0) a_nil) ⟨W, rfl, kw, rfl⟩) fun _ B1 H1 g1 _ => ?_)
  refine b_cons (s_expr g1.u (d_call DN hr (a_cons (d_var (n := 0) rfl (h0.mono g1.b)) (a_cons (d_var (n := 1) rfl (h1.mono g1.b)) a_nil)) ⟨W, lot, rfl, kl, l8, rfl⟩) fun _ B2 H2 g2 _ => ?_)
  refine b_cons (s_newA (i := 2) nd (g1.trans g2) fun r H3 a3 => ?_)
  refine b_cons (s_forA (xs := irange W.n) (enc := PyData.int) (fun σ' => ∃ y, σ' = [some v0, some v1, some (.ref r), y]) (fun n => (((irange W.n).take n).filter fun p => !decide (p ∈ lot) && decide (cost W (srt (lot ++ [p])) = 0)).map PyData.int) a3 ⟨none, rfl⟩
    (src_range M.range (Pe.is (d_len M.len (d_ixT (d_var (n := 0) rfl (h0.mono a3.go.b)) d_int (by rfl))) (by rw [lenW])) (by omega) (by omega)) (fun n x v σ' B4 H4 hx hS xB a4 hv4 N hN => ?_) fun σ' B4 H4 hS xB a4 => ?_)
  · obtain ⟨y, rfl⟩ := hS
    obtain rfl := hv4.intE
    have xm := mem_irange.mp (List.mem_of_getElem? hx)
    have b4 := a4.go.b
    have fl : (((irange W.n).take n).filter fun p => !decide (p ∈ lot) && decide (cost W (srt (lot ++ [p])) = 0)).length ≤ 8 := by
      refine Nat.le_trans (List.length_filter_le _ _) ?_
      rw [List.length_take, irange_len]
      omega
    rw [filter_step _ hx] at hN
    generalize hF : ((irange W.n).take n).filter (fun p => !decide (p ∈ lot) && decide (cost W (srt (lot ++ [p])) = 0)) = F at hN a4 fl
    refine g_name (i := 3) (b_one (s_if (t := !decide (x ∈ lot) && decide (cost W (srt (lot ++ [x])) = 0)) a4.go.u (t_w (w_and (t_notIn (d_var (n := 3) rfl (.int x)) (d_var (n := 1) rfl (h1.mono b4))) fun hn => w_and1 (t_eqI (d_call DC hr (a_cons (d_var (n := 0) rfl (h0.mono b4)) (a_cons (d_tuple M.tuple (d_sortedI hr M.sorted (Pe.is (d_lst (a_star (d_var (n := 1) rfl (h1.mono b4)) (a_cons (d_var (n := 3) rfl (.int x)) a_nil)) ?_) ?_))) a_nil))
      ⟨W, srt (lot ++ [x]), rfl, kw, lotOk_add kl (by simpa using hn) xm.1 xm.2, rfl⟩) d_int))) (fun hc H5 e5 => ?_) fun hc H5 e5 => ?_)) nd
    · rw [List.length_append, List.length_map, List.length_singleton]
      omega
    · rw [List.map_append]
      rfl
    · refine b_one (s_appA (i := 2) (a4.ext e5) rfl (by rw [List.length_map]; omega) (d_var (n := 3) rfl (.int x)) fun B6 H6 x6 a6 => hN _ B6 H6 ⟨_, rfl⟩ x6 ?_)
      rw [if_pos hc, List.map_append]
      exact a6
    · refine b_nil (hN _ B4 H5 ⟨_, rfl⟩ a4.go.b.self (by rw [if_neg (by rw [hc]; exact Bool.false_ne_true), List.append_nil]; exact a4.ext e5))
  · obtain ⟨y, rfl⟩ := hS
    rw [List.take_length] at a4
    obtain ⟨Bt, gt, xt, ht⟩ := a4.show
    exact b_one (s_ret gt.u (d_tuple M.tuple (d_var (n := 2) rfl ht)) fun v5 B5 H5 g5 hv5 => q v5 B5 H5 (gt.trans g5) hv5)

abbrev s_leavers : Stmt := topS 35
abbrev R_leavers : List PyData → PyData → Prop := fun ds d => ∃ (W : Web) (lot : List Int), ds = [dW W, dT lot] ∧ WebOk W ∧ LotOk W lot ∧ d = dT (leaversF W lot)
theorem sc_leavers : FnScope ["web", "lot", "found", "person", "rest", "one"] ["web", "lot"] (defScope s_leavers) := ⟨rfl, rfl, rfl, by decide +kernel, rfl, by decide +kernel, by decide +kernel⟩
theorem ok_leavers (A : At K mg "leavers" s_leavers f fd) (M : Mg mg) (DW_ : DefOk T P w K mg base "need_web" 4 R_need_web) (DN : DefOk T P w K mg base "need_lot" 3 R_need_lot) (DC : DefOk T P w K mg base "cost_of" 5 R_cost_of) : DefOk T P w K mg base "leavers" 6 R_leavers := by
  refine def_ok A.F sc_leavers A.m (A.F.binds fun _ _ _ _ _ _ us hl => match us, hl with | [_, _], _ => rfl) (fun ds d h => by obtain ⟨_, _, rfl, _⟩ := h; rfl) fun cdv A' outer s H E B vs ds d Q hr u hv hR q => ?_
  obtain ⟨W, lot, rfl, kw, kl, rfl⟩ := hR
  obtain ⟨v0, vs, rfl, h0, hv⟩ := hv.consE
  obtain ⟨v1, rfl, h1⟩ := hv.one
  have nd := sc_leavers.nd
  have n1 := kw.n1
  have n8 := kw.n8
  have l8 := kl.len8 n8
  refine b_cons (s_expr u (d_call DW_ hr (a_cons (d_var (n := 0) rfl h0) a_nil) ⟨W, rfl, kw, rfl⟩) fun _ B1 H1 g1 _ => ?_)
  refine b_cons (s_expr g1.u (d_call DN hr (a_cons (d_var (n := 0) rfl (h0.mono g1.b)) (a_cons (d_var (n := 1) rfl (h1.mono g1.b)) a_nil)) ⟨W, lot, rfl, kl, l8, rfl⟩) fun _ B2 H2 g2 _ => ?_)
  refine b_cons (s_newA (i := 2) nd (g1.trans g2) fun r H3 a3 => ?_)
  refine b_cons (s_forA (xs := lot) (enc := PyData.int) (fun σ' => ∃ y z, σ' = [some v0, some v1, some (.ref r), y, z, none]) (fun n => ((lot.take n).filter fun p => !decide (without lot p = []) && decide (cost W (without lot p) ≤ cost W lot)).map PyData.int) a3 ⟨none, none, rfl⟩
    (src_tup (d_var (n := 1) rfl (h1.mono a3.go.b))) (fun n x v σ' B4 H4 hx hS xB a4 hv4 N hN => ?_) fun σ' B4 H4 hS xB a4 => ?_)
  · obtain ⟨y, z, rfl⟩ := hS
    obtain rfl := hv4.intE
    have b4 := a4.go.b
    have fl : ((lot.take n).filter fun p => !decide (without lot p = []) && decide (cost W (without lot p) ≤ cost W lot)).length ≤ 8 := by
      refine Nat.le_trans (List.length_filter_le _ _) ?_
      rw [List.length_take]
      omega
    rw [filter_step _ hx] at hN
    generalize hF : (lot.take n).filter (fun p => !decide (without lot p = []) && decide (cost W (without lot p) ≤ cost W lot)) = F at hN a4 fl
    refine g_name (i := 3) (b_cons (s_set (i := 4) nd a4.go.u (d_tuple M.tuple (d_lc (j := 5) (xs := lot) (enc := PyData.int) (fun y => !decide (y = x)) .int (src_tup (d_var (n := 1) rfl (h1.mono b4))) (by omega) (blkOk_by (by kernel_rfl)) nd
      (fun z hz v B6 x6 hv6 s H0 C cl fp => ts_one (t_neI (d_var (n := 5) rfl hv6) (d_var (n := 3) rfl (.int x)))) fun z hz _ v B6 x6 hv6 s H0 C cl fp => d_var (n := 5) rfl hv6)) fun v5 B5 H5 g5 hv5 => ?_)) nd
    have a5 := a4.on g5
    have b5 := a5.go.b
    have hv5' : Da B5 v5 (dT (without lot x)) := hv5
    refine b_one (s_if (t := !decide (without lot x = []) && decide (cost W (without lot x) ≤ cost W lot)) a5.go.u (t_w (w_and (Pt.is (t_neD hr (d_var (n := 4) rfl hv5') (d_tup a_nil (by decide)) (shaped_dT _) (shaped_dT [])) ?_) fun hn => w_and1 (t_le (d_call DC hr (a_cons (d_var (n := 0) rfl (h0.mono b5)) (a_cons (d_var (n := 4) rfl hv5') a_nil)) ⟨W, without lot x, rfl, kw, lotOk_without kl (by simpa using hn), rfl⟩)
      (d_call DC hr (a_cons (d_var (n := 0) rfl (h0.mono b5)) (a_cons (d_var (n := 1) rfl (h1.mono b5)) a_nil)) ⟨W, lot, rfl, kw, kl, rfl⟩)))) (fun hc H6 e6 => ?_) fun hc H6 e6 => ?_)
    · show (!PyData.eqv (dT (without lot x)) (dT [])) = _
      rw [eqv_dT]
    · refine b_one (s_appA (i := 2) (a5.ext e6) rfl (by rw [List.length_map]; omega) (d_var (n := 3) rfl (.int x)) fun B6 H6 x6 a6 => hN _ B6 H6 ⟨_, _, rfl⟩ (g5.b.trans x6) ?_)
      rw [if_pos hc, List.map_append]
      exact a6
    · refine b_nil (hN _ B5 H6 ⟨_, _, rfl⟩ g5.b (by rw [if_neg (by rw [hc]; exact Bool.false_ne_true), List.append_nil]; exact a5.ext e6))
  · obtain ⟨y, z, rfl⟩ := hS
    rw [List.take_length] at a4
    obtain ⟨Bt, gt, xt, ht⟩ := a4.show
    exact b_one (s_ret gt.u (d_tuple M.tuple (d_var (n := 2) rfl ht)) fun v5 B5 H5 g5 hv5 => q v5 B5 H5 (gt.trans g5) hv5)

abbrev s_culprits : Stmt := topS 36
abbrev R_culprits : List PyData → PyData → Prop := fun ds d => ∃ (W : Web) (lot : List Int), ds = [dW W, dT lot] ∧ WebOk W ∧ LotOk W lot ∧ d = .tuple ((lowsF W lot).map dT)
theorem sc_culprits : FnScope ["web", "lot", "found", "piece", "low", "one"] ["web", "lot"] (defScope s_culprits) := ⟨rfl, rfl, rfl, by decide +kernel, rfl, by decide +kernel, by decide +kernel⟩
theorem deep_mem {W : Web} {lot p : List Int} (h8 : W.n ≤ 8) (h : p ∈ deep W lot) : p ≠ [] ∧ (∀ x ∈ p, 0 ≤ x ∧ x < W.n) ∧ p.length ≤ 8 := by
  obtain ⟨z1, z2⟩ := parts_of_mem (others_up W lot) (List.mem_filter.mp h).1
  exact ⟨z1, fun x hx => (mem_others.mp (z2.sub x hx)).1, piece_len (others_up W lot) (fun x hx => (mem_others.mp hx).1) h8 z2⟩
theorem deep_len {W : Web} {lot : List Int} (kw : WebOk W) : (deep W lot).length ≤ 8 := by
  have pl := parts_len (w := W) _ (others W lot) (Nat.le_refl _)
  have ol := others_len kw lot
  have : (deep W lot).length ≤ (parts W (others W lot)).length := List.length_filter_le _ _
  omega
theorem ok_culprits (A : At K mg "culprits" s_culprits f fd) (M : Mg mg) (DW_ : DefOk T P w K mg base "need_web" 4 R_need_web) (DN : DefOk T P w K mg base "need_lot" 3 R_need_lot) (DD : DefOk T P w K mg base "deep_of" 4 R_deep_of) : DefOk T P w K mg base "culprits" 5 R_culprits := by
  refine def_ok A.F sc_culprits A.m (A.F.binds fun _ _ _ _ _ _ us hl => match us, hl with | [_, _], _ => rfl) (fun ds d h => by obtain ⟨_, _, rfl, _⟩ := h; rfl) fun cdv A' outer s H E B vs ds d Q hr u hv hR q => ?_
  obtain ⟨W, lot, rfl, kw, kl, rfl⟩ := hR
  obtain ⟨v0, vs, rfl, h0, hv⟩ := hv.consE
  obtain ⟨v1, rfl, h1⟩ := hv.one
  have nd := sc_culprits.nd
  have n1 := kw.n1
  have n8 := kw.n8
  have l8 := kl.len8 n8
  have dl := deep_len (lot := lot) kw
  refine b_cons (s_expr u (d_call DW_ hr (a_cons (d_var (n := 0) rfl h0) a_nil) ⟨W, rfl, kw, rfl⟩) fun _ B1 H1 g1 _ => ?_)
  refine b_cons (s_expr g1.u (d_call DN hr (a_cons (d_var (n := 0) rfl (h0.mono g1.b)) (a_cons (d_var (n := 1) rfl (h1.mono g1.b)) a_nil)) ⟨W, lot, rfl, kl, l8, rfl⟩) fun _ B2 H2 g2 _ => ?_)
  refine b_cons (s_newA (i := 2) nd (g1.trans g2) fun r H3 a3 => ?_)
  refine b_cons (s_forA (xs := deep W lot) (enc := dT) (fun σ' => ∃ y z, σ' = [some v0, some v1, some (.ref r), y, z, none]) (fun n => (((deep W lot).take n).map fun p => p.filter fun x => decide (W.num x = least W p)).map dT) a3 ⟨none, none, rfl⟩
    (src_tup (d_call DD hr (a_cons (d_var (n := 0) rfl (h0.mono a3.go.b)) (a_cons (d_var (n := 1) rfl (h1.mono a3.go.b)) a_nil)) ⟨W, lot, rfl, kw, kl, rfl⟩)) (fun n x v σ' B4 H4 hx hS xB a4 hv4 N hN => ?_) fun σ' B4 H4 hS xB a4 => ?_)
  · obtain ⟨y, z, rfl⟩ := hS
    obtain ⟨z1, z2, z3⟩ := deep_mem n8 (List.mem_of_getElem? hx)
    have b4 := a4.go.b
    have fl : (((deep W lot).take n).map fun p => p.filter fun x => decide (W.num x = least W p)).length ≤ 8 := by
      rw [List.length_map, List.length_take]
      omega
    rw [take_snoc hx, List.map_append] at hN
    generalize hF : ((deep W lot).take n).map (fun p => p.filter fun x => decide (W.num x = least W p)) = F at hN a4 fl
    refine g_name (i := 3) (b_cons (s_set (i := 4) nd a4.go.u (d_min (ns := x.map W.num) M.min (Pe.is (d_map (j := 5) (xs := x) (enc := PyData.int) (fun x => .int (W.num x)) (src_tup (d_var (n := 3) rfl hv4)) (by omega) (blkOk_by (by kernel_rfl)) nd
      fun z hz v B6 x6 hv6 s H0 C cl fp => d_ixT (d_ixT (d_var (n := 0) rfl (h0.mono (b4.trans x6))) d_int (by rfl)) (d_var (n := 5) rfl hv6) (atI_num (z2 z hz).1 (z2 z hz).2)) ?_) ?_) fun v5 B5 H5 g5 hv5 => ?_)) nd
    · rw [List.map_map]
      rfl
    · exact fun e => z1 (List.map_eq_nil_iff.mp e)
    have a5 := a4.on g5
    have b5 := a5.go.b
    have hv5' : Da B5 v5 (.int (least W x)) := hv5
    refine b_one (s_appA (i := 2) a5 rfl (by rw [List.length_map]; omega) (d_tuple M.tuple (d_lc (j := 5) (xs := x) (enc := PyData.int) (fun y => decide (W.num y = least W x)) .int (src_tup (d_var (n := 3) rfl (hv4.mono g5.b))) (by omega) (blkOk_by (by kernel_rfl)) nd
      (fun z hz v B6 x6 hv6 s H0 C cl fp => ts_one (t_eqI (d_ixT (d_ixT (d_var (n := 0) rfl (h0.mono (b5.trans x6))) d_int (by rfl)) (d_var (n := 5) rfl hv6) (atI_num (z2 z hz).1 (z2 z hz).2)) (d_var (n := 4) rfl (hv5'.mono x6)))) fun z hz _ v B6 x6 hv6 s H0 C cl fp => d_var (n := 5) rfl hv6)) fun B6 H6 x6 a6 => hN _ B6 H6 ⟨_, _, rfl⟩ (g5.b.trans x6) ?_)
    rw [List.map_append]
    exact a6
  · obtain ⟨y, z, rfl⟩ := hS
    rw [List.take_length] at a4
    obtain ⟨Bt, gt, xt, ht⟩ := a4.show
    exact b_one (s_ret gt.u (d_tuple M.tuple (d_var (n := 2) rfl ht)) fun v5 B5 H5 g5 hv5 => q v5 B5 H5 (gt.trans g5) hv5)

abbrev s_ftl : Stmt := topS 37
abbrev R_ftl : List PyData → PyData → Prop := fun ds d => ∃ (W : Web) (lot : List Int), ds = [dW W, dT lot] ∧ WebOk W ∧ LotOk W lot ∧ d = .bool (freeLose W lot)
theorem sc_ftl : FnScope ["web", "lot", "less"] ["web", "lot"] (defScope s_ftl) := ⟨rfl, rfl, rfl, by decide +kernel, rfl, by decide +kernel, by decide +kernel⟩
theorem ok_ftl (A : At K mg "is_free_to_lose" s_ftl f fd) (M : Mg mg) (DW_ : DefOk T P w K mg base "need_web" 4 R_need_web) (DN : DefOk T P w K mg base "need_lot" 3 R_need_lot) (DL : DefOk T P w K mg base "lots_of" 1 R_lots_of) (DC : DefOk T P w K mg base "cost_of" 5 R_cost_of) (DH : DefOk T P w K mg base "holds" 1 R_holds) : DefOk T P w K mg base "is_free_to_lose" 6 R_ftl := by
  refine def_ok A.F sc_ftl A.m (A.F.binds fun _ _ _ _ _ _ us hl => match us, hl with | [_, _], _ => rfl) (fun ds d h => by obtain ⟨_, _, rfl, _⟩ := h; rfl) fun cdv A' outer s H E B vs ds d Q hr u hv hR q => ?_
  obtain ⟨W, lot, rfl, kw, kl, rfl⟩ := hR
  obtain ⟨v0, vs, rfl, h0, hv⟩ := hv.consE
  obtain ⟨v1, rfl, h1⟩ := hv.one
  have nd := sc_ftl.nd
  have n1 := kw.n1
  have n8 := kw.n8
  have l8 := kl.len8 n8
  have ll := lots_len n8
  refine b_cons (s_expr u (d_call DW_ hr (a_cons (d_var (n := 0) rfl h0) a_nil) ⟨W, rfl, kw, rfl⟩) fun _ B1 H1 g1 _ => ?_)
  refine b_cons (s_expr g1.u (d_call DN hr (a_cons (d_var (n := 0) rfl (h0.mono g1.b)) (a_cons (d_var (n := 1) rfl (h1.mono g1.b)) a_nil)) ⟨W, lot, rfl, kl, l8, rfl⟩) fun _ B2 H2 g2 _ => ?_)
  have b2 := g1.b.trans g2.b
  refine b_one (s_ret g2.u (Pe.is (d_all (bs := ((lots W.n).filter (holdsB lot)).map fun l => decide (cost W l = 0)) M.all (Pe.is (d_lc (j := 2) (xs := lots W.n) (enc := dT) (holdsB lot) (fun l => .bool (decide (cost W l = 0)))
    (src_list (d_call DL hr (a_cons (Pe.is (d_len M.len (d_ixT (d_var (n := 0) rfl (h0.mono b2)) d_int (by rfl))) (by rw [lenW])) a_nil) ⟨W.n, rfl, by omega, n8, rfl⟩)) (by omega) (blkOk_by (by kernel_rfl)) nd
    (fun z hz v B6 x6 hv6 s H0 C cl fp => ts_one (t_val (d_call DH hr (a_cons (d_var (n := 1) rfl (h1.mono (b2.trans x6))) (a_cons (d_var (n := 2) rfl hv6) a_nil)) ⟨lot, z, rfl, (lots_ok hz).len8 n8, rfl⟩)))
    fun z hz _ v B6 x6 hv6 s H0 C cl fp => d_eqI (d_call DC hr (a_cons (d_var (n := 0) rfl (h0.mono (b2.trans x6))) (a_cons (d_var (n := 2) rfl hv6) a_nil)) ⟨W, z, rfl, kw, lots_ok hz, rfl⟩) d_int) ?_)) ?_) fun v B5 H5 g5 hd => q v B5 H5 ((g1.trans g2).trans g5) hd)
  · rw [List.map_map]
    rfl
  · rw [List.all_map]
    rfl
end
end DW

/-! the law's own helpers -/
namespace DW
open PySem PySem.Spec PyProof.Rows L2 RZ
open PySem.W (TotalLe sameRank dataLe alike alikeAll AllAlike Sortable)

theorem keyLe_iff {a b : List Int} : keyLe a b = true ↔ a.length < b.length ∨ (a.length = b.length ∧ a ≤ b) := by
  unfold keyLe
  rw [Bool.not_eq_true', decide_eq_false_iff_not]
  unfold keyLt
  constructor
  · intro h
    by_cases h1 : a.length < b.length
    · exact .inl h1
    · refine .inr ⟨?_, fun z => h (.inr ⟨?_, z⟩)⟩
      · refine Nat.le_antisymm ?_ (Nat.not_lt.mp h1)
        exact Nat.not_lt.mp fun z => h (.inl z)
      · refine Nat.le_antisymm (Nat.not_lt.mp h1) ?_
        exact Nat.not_lt.mp fun z => h (.inl z)
  · rintro (h | ⟨h, h'⟩)
    · rintro (z | ⟨z, _⟩) <;> omega
    · rintro (z | ⟨_, z⟩)
      · omega
      · exact h' z
theorem keyTot : TotalLe keyLe where
  trans a b c h1 h2 := by
    rw [keyLe_iff] at *
    rcases h1 with h1 | ⟨h1, k1⟩ <;> rcases h2 with h2 | ⟨h2, k2⟩
    · exact .inl (by omega)
    · exact .inl (by omega)
    · exact .inl (by omega)
    · exact .inr ⟨by omega, List.le_trans k1 k2⟩
  total a b := by
    rw [keyLe_iff, keyLe_iff]
    rcases Nat.lt_trichotomy a.length b.length with h | h | h
    · exact .inl (.inl h)
    · rcases List.le_total a b with z | z
      · exact .inl (.inr ⟨h, z⟩)
      · exact .inr (.inr ⟨h.symm, z⟩)
    · exact .inr (.inl h)
theorem keyAnti {a b : List Int} (h1 : keyLe a b = true) (h2 : keyLe b a = true) : a = b := by
  rw [keyLe_iff] at *
  rcases h1 with h1 | ⟨h1, k1⟩ <;> rcases h2 with h2 | ⟨h2, k2⟩
  · omega
  · omega
  · omega
  · exact List.le_antisymm k1 k2
theorem sort_filter (l : List (List Int)) (p : List Int → Bool) : (l.mergeSort keyLe).filter p = (l.filter p).mergeSort keyLe := by
  refine PySem.W.sort_unique keyTot ?_ fun c => ?_
  · refine List.Pairwise.sublist List.filter_sublist (List.pairwise_mergeSort ?_ ?_ l)
    · exact fun a b c => keyTot.trans a b c
    · intro a b
      rcases keyTot.total a b with h | h <;> simp [h]
  · have cm : ∀ (m : List (List Int)) (f g : List Int → Bool), (m.filter f).filter g = (m.filter g).filter f := fun m f g => by
      rw [List.filter_filter, List.filter_filter]
      congr 1
      funext x
      rw [Bool.and_comm]
    rw [cm, PySem.W.sort_stable keyTot, cm]

section
variable {T : List (Addr × Str)} {P : Program} {w : World} {K : PySem.W.Frag} {mg : Str → Option Value} {base : Heap} {f : Addr} {fd : FuncData}

abbrev s_lties : Stmt := topS 43
abbrev R_lties : List PyData → PyData → Prop := fun ds d => ∃ (W : Web) (p : Int), ds = [dW W, .int p] ∧ W.ties.length ≤ 64 ∧ d = .list ((tied W p).map .int)
theorem sc_lties : FnScope ["_law_web_here", "_law_person", "_law_one", "_law_other"] ["_law_web_here", "_law_person"] (defScope s_lties) := ⟨rfl, rfl, rfl, by decide +kernel, rfl, by decide +kernel, by decide +kernel⟩
theorem ok_lties (A : At K mg "_law_ties" s_lties f fd) (M : Mg mg) : DefOk T P w K mg base "_law_ties" 1 R_lties := by
  refine def_ok A.F sc_lties A.m (A.F.binds fun _ _ _ _ _ _ us hl => match us, hl with | [_, _], _ => rfl) (fun ds d h => by obtain ⟨_, _, rfl, _⟩ := h; rfl) fun cdv A' outer s H E B vs ds d Q hr u hv hR q => ?_
  obtain ⟨W, p, rfl, k64, rfl⟩ := hR
  obtain ⟨v0, vs, rfl, h0, hv⟩ := hv.consE
  obtain ⟨v1, rfl, h1⟩ := hv.one
  exact b_one (s_ret u (d_sortedI hr M.sorted (Pe.is (d_lc2 (i := 2) (j := 3) (xs := W.ties) (enc1 := fun t => .int t.1) (enc2 := fun t => .int t.2) (fun t => decide (p ∈ [t.1, t.2])) (fun t => .int (t.1 + t.2 - p)) (src_tup (d_ixT (d_var (n := 0) rfl h0) d_int (by rfl))) (by omega) (blkOk_by (by kernel_rfl)) sc_lties.nd
    (fun z hz v w B7 x7 hv hw s' H0' C' cl' fp' => ts_one (t_in (ns := [z.1, z.2]) (d_var (n := 1) rfl (h1.mono x7)) (d_tup (a_cons (d_var (n := 2) rfl hv) (a_cons (d_var (n := 3) rfl hw) a_nil)) (by simp))))
    (fun z hz _ v w B7 x7 hv hw s' H0' C' cl' fp' => d_sub (d_add (d_var (n := 2) rfl hv) (d_var (n := 3) rfl hw)) (d_var (n := 1) rfl (h1.mono x7))) (by decide)) (by rw [adj, List.map_map]; rfl))) q)

abbrev s_lrest : Stmt := topS 45
abbrev R_lrest : List PyData → PyData → Prop := fun ds d => ∃ (W : Web) (lot : List Int), ds = [dW W, dT lot] ∧ W.n ≤ 8 ∧ d = dT (others W lot)
theorem sc_lrest : FnScope ["_law_web_here", "_law_lot_here", "_law_person"] ["_law_web_here", "_law_lot_here"] (defScope s_lrest) := ⟨rfl, rfl, rfl, by decide +kernel, rfl, by decide +kernel, by decide +kernel⟩
theorem ok_lrest (A : At K mg "_law_rest" s_lrest f fd) (M : Mg mg) : DefOk T P w K mg base "_law_rest" 1 R_lrest := by
  refine def_ok A.F sc_lrest A.m (A.F.binds fun _ _ _ _ _ _ us hl => match us, hl with | [_, _], _ => rfl) (fun ds d h => by obtain ⟨_, _, rfl, _⟩ := h; rfl) fun cdv A' outer s H E B vs ds d Q hr u hv hR q => ?_
  obtain ⟨W, lot, rfl, k8, rfl⟩ := hR
  obtain ⟨v0, vs, rfl, h0, hv⟩ := hv.consE
  obtain ⟨v1, rfl, h1⟩ := hv.one
  have n0 : 0 ≤ W.n := Int.natCast_nonneg _
  exact b_one (s_ret u (d_tuple M.tuple (d_lc (j := 2) (xs := irange W.n) (enc := PyData.int) (fun x => !decide (x ∈ lot)) .int (src_range M.range (Pe.is (d_len M.len (d_ixT (d_var (n := 0) rfl h0) d_int (by rfl))) (by rw [lenW])) (by omega) (by omega)) (by rw [irange_len]; omega) (blkOk_by (by kernel_rfl)) sc_lrest.nd
    (fun z hz v B6 x6 hv6 s H0 C cl fp => ts_one (t_notIn (d_var (n := 2) rfl hv6) (d_var (n := 1) rfl (h1.mono x6)))) fun z hz _ v B6 x6 hv6 s H0 C cl fp => d_var (n := 2) rfl hv6)) q)

abbrev s_lborder : Stmt := topS 46
abbrev R_lborder : List PyData → PyData → Prop := fun ds d => ∃ (W : Web) (part lot : List Int), ds = [dW W, dT part, dT lot] ∧ W.ties.length ≤ 64 ∧ lot.length ≤ 8 ∧ d = dT (border W part lot)
theorem sc_lborder : FnScope ["_law_web_here", "_law_part", "_law_lot_here", "_law_one", "_law_other"] ["_law_web_here", "_law_part", "_law_lot_here"] (defScope s_lborder) := ⟨rfl, rfl, rfl, by decide +kernel, rfl, by decide +kernel, by decide +kernel⟩
theorem ok_lborder (A : At K mg "_law_border" s_lborder f fd) (M : Mg mg) (DT : DefOk T P w K mg base "_law_ties" 1 R_lties) : DefOk T P w K mg base "_law_border" 2 R_lborder := by
  refine def_ok A.F sc_lborder A.m (A.F.binds fun _ _ _ _ _ _ us hl => match us, hl with | [_, _, _], _ => rfl) (fun ds d h => by obtain ⟨_, _, _, rfl, _⟩ := h; rfl) fun cdv A' outer s H E B vs ds d Q hr u hv hR q => ?_
  obtain ⟨W, part, lot, rfl, k64, k8, rfl⟩ := hR
  obtain ⟨v0, vs, rfl, h0, hv⟩ := hv.consE
  obtain ⟨v1, vs, rfl, h1, hv⟩ := hv.consE
  obtain ⟨v2, rfl, h2⟩ := hv.one
  have nd := sc_lborder.nd
  refine b_one (s_ret u (d_tuple M.tuple (d_lc (j := 3) (xs := lot) (enc := PyData.int) (fun x => (tied W x).any fun y => decide (y ∈ part)) .int (src_tup (d_var (n := 2) rfl h2)) (by omega) (blkOk_by (by kernel_rfl)) nd
    (fun z hz v B6 x6 hv6 s H0 C cl fp => ts_one (Pt.is (t_neD (k := 1) hr (d_lc (j := 4) (xs := tied W z) (enc := PyData.int) (fun y => decide (y ∈ part)) .int
        (src_list (d_call DT hr (a_cons (d_var (n := 0) rfl (h0.mono x6)) (a_cons (d_var (n := 3) rfl hv6) a_nil)) ⟨W, z, rfl, k64, rfl⟩)) ?_ (blkOk_by (by kernel_rfl)) nd (fun y hy v' B7 x7 hv7 s' H0' C' cl' fp' => ts_one (t_in (d_var (n := 4) rfl hv7) (d_var (n := 1) rfl ((h1.mono x6).mono x7))))
        fun y hy _ v' B7 x7 hv7 s' H0' C' cl' fp' => d_var (n := 4) rfl hv7) (d_lst a_nil (by decide)) (shaped_dL _) (shaped_dL [])) ?_))
    fun z hz _ v B6 x6 hv6 s H0 C cl fp => d_var (n := 3) rfl hv6)) q)
  · have := tied_len k64 z
    omega
  · show (!PyData.eqv (.list (((tied W z).filter fun y => decide (y ∈ part)).map .int)) (.list (([] : List Int).map .int))) = _
    rw [eqv_dL, Bool.eq_iff_iff, Bool.not_eq_true', decide_eq_false_iff_not, List.filter_eq_nil_iff, List.any_eq_true]
    constructor
    · intro h
      refine Classical.byContradiction fun n => h fun y hy hp => n ⟨y, hy, hp⟩
    · rintro ⟨y, hy, hp⟩ h
      exact h y hy hp

abbrev s_lis : Stmt := topS 41
abbrev R_lis : List PyData → PyData → Prop := fun ds d => ∃ b : Bool, ds = [.bool b, .bool b] ∧ d = .bool true
theorem sc_lis : FnScope ["_law_found", "_law_due"] ["_law_found", "_law_due"] (defScope s_lis) := ⟨rfl, rfl, rfl, by decide +kernel, rfl, by decide +kernel, by decide +kernel⟩
theorem ok_lis (A : At K mg "_law_is" s_lis f fd) (M : Mg mg) : DefOk T P w K mg base "_law_is" 1 R_lis := by
  refine def_ok A.F sc_lis A.m (A.F.binds fun _ _ _ _ _ _ us hl => match us, hl with | [_, _], _ => rfl) (fun ds d h => by obtain ⟨_, rfl, _⟩ := h; rfl) fun cdv A' outer s H E B vs ds d Q hr u hv hR q => ?_
  obtain ⟨b, rfl, rfl⟩ := hR
  obtain ⟨v0, vs, rfl, h0, hv⟩ := hv.consE
  obtain ⟨v1, rfl, h1⟩ := hv.one
  refine b_one (s_ret u (Pe.is (d_and (x := true) (d_isi M.isinstance (d_var (n := 0) rfl h0) M.bool) fun _ => d_one (d_eqD hr (d_var (n := 0) rfl h0) (d_var (n := 1) rfl h1) (by cases b <;> decide +kernel) (by cases b <;> decide +kernel))) ?_) q)
  cases b <;> (simp [PyData.eqv])

abbrev s_llots : Stmt := topS 48
abbrev R_llots : List PyData → PyData → Prop := fun ds d => ∃ n : Int, ds = [.int n] ∧ 0 ≤ n ∧ n ≤ 8 ∧ d = .list ((lots n).map dT)
theorem sc_llots : FnScope ["_law_many", "_law_found", "_law_person", "_law_lot_here", "_law_size"] ["_law_many"] (defScope s_llots) := ⟨rfl, rfl, rfl, by decide +kernel, rfl, by decide +kernel, by decide +kernel⟩
theorem ok_llots (A : At K mg "_law_lots" s_llots f fd) (M : Mg mg) : DefOk T P w K mg base "_law_lots" 1 R_llots := by
  refine def_ok A.F sc_llots A.m (A.F.binds fun _ _ _ _ _ _ us hl => match us, hl with | [_], _ => rfl) (fun ds d ⟨i, h, _⟩ => by rw [h]; rfl) fun cdv A' outer s H E B vs ds d Q hr u hv hR q => ?_
  obtain ⟨n, rfl, hn0, hn8, rfl⟩ := hR
  obtain ⟨v0, rfl, h0⟩ := hv.one
  have nd := sc_llots.nd
  refine b_cons (s_set (i := 1) nd u (d_lst (a_cons (d_tup a_nil (by decide)) a_nil) (by decide)) fun v1 B1 H1 g1 h1 => ?_)
  refine b_cons (s_for g1.u (src_range M.range (d_var (n := 0) rfl (h0.mono g1.b)) (by omega) (by omega)) fun B2 H2 g2 => ⟨fun i B' σ' H' => ∃ v y, σ' = [some v0, some v, y, none, none] ∧ Go T B H B' H' ∧ Da B' v (.list ((foundL i).map dT)),
    ⟨v1, none, rfl, g1.trans g2, h1.mono g2.b⟩, fun i d v B' σ' H' B4 H4 hd hI x1 x2 g4 hv => ?_, fun B' σ' H' x1 x2 hI => ?_⟩)
  · obtain ⟨vf, y, rfl, gI, hf⟩ := hI
    have hi : i < n.toNat := by
      have := (List.getElem?_eq_some_iff.mp hd).1
      rwa [List.length_map, irange_len] at this
    have ed : d = .int i := by
      rw [List.getElem?_map, irange_get hi] at hd
      exact (Option.some.inj hd).symm
    subst ed
    have hf4 := hf.mono g4.b
    have hlen : (foundL i).length ≤ 256 := by
      rw [foundL_len]
      exact two_pow_le (by omega)
    refine g_name (i := 2) (b_one (s_set (i := 1) nd g4.u (d_catL (d_var (n := 1) rfl hf4) (d_map (j := 3) (fun l => dT (l ++ [(i : Int)])) (src_list (d_var (n := 1) rfl hf4)) (by omega) (blkOk_by (by kernel_rfl)) nd fun l hl v' B5 x5 hv' s H0 C cl fp => ?_) ?_) fun v5 B5 H5 g5 hv5 => ?_)) nd
    · refine Pe.is (d_catT (d_var (n := 3) rfl hv') (d_tup (a_cons (d_var (n := 2) rfl (hv.mono x5)) a_nil) (by simp)) ?_) (by simp)
      have := foundL_mem hl
      (rw [List.length_map, List.length_singleton])
      omega
    · rw [List.length_map, List.length_map]; omega
    · refine ⟨B5, (x1.trans g4.b).trans g5.b, g5.u, v5, some v, rfl, (gI.trans g4).trans g5, ?_⟩
      rw [foundL, List.map_append, List.map_map]
      exact hv5
  · obtain ⟨vf, y, rfl, gI, hf⟩ := hI
    rw [List.length_map, irange_len] at hf
    have hlen : (foundL n.toNat).length ≤ 256 := by
      rw [foundL_len]
      exact two_pow_le (by omega)
    refine b_one (s_ret x2 (Pe.is (d_lc2 (i := 4) (j := 3) (xs := (foundL n.toNat).mergeSort keyLe) (enc1 := fun l => .int (l.length : Int)) (enc2 := dT) (fun l => decide (0 < (l.length : Int))) dT (src_list (Pe.is (d_sorted encK (foundL n.toNat) hr M.sorted (d_map (j := 3) encK (src_list (d_var (n := 1) rfl hf)) (by omega) (blkOk_by (by kernel_rfl)) nd
      fun l hl v' B5 x5 hv' s H0 C cl fp => d_tup (a_cons (Pe.is (d_len M.len (d_var (n := 3) rfl hv')) (by rw [List.length_map])) (a_cons (d_var (n := 3) rfl hv') a_nil)) (by simp)) ?_ ?_ ?_) (by rw [dataLe_key]))) (by rw [List.length_mergeSort]; omega) (blkOk_by (by kernel_rfl)) nd
      (fun z hz v w B7 x7 hv hw s' H0' C' cl' fp' => ts_one (t_gt (d_var (n := 4) rfl hv) d_int)) (fun z hz _ v w B7 x7 hv hw s' H0' C' cl' fp' => d_var (n := 3) rfl hw) (by decide)) ?_) fun v5 B5 H5 g5 hv5 => q v5 B5 H5 (gI.trans g5) hv5)
    · exact .of fun b b' => by simp only [encK, alike, alikeAll, Bool.and_true, Bool.true_and]; exact PySem.W.alike_ints _ _
    · exact .tuples fun b => ⟨_, _, rfl⟩
    · intro b hb
      have : (encK b).depth ≤ 2 := by simp [PyData.depth, PyData.depthAll, PySem.W.depth_ints]
      omega
    · rw [sort_filter]
      unfold lots
      congr 2
      congr 1
      refine List.filter_congr fun l _ => ?_
      cases l with
      | nil => rfl
      | cons a t => simp
end
end DW

/-! _law_alike -/
namespace DW
open PySem PySem.Spec PyProof.Rows L2 RZ
inductive Pl : Nat → PyData → Prop
  | int (n : Nat) (i : Int) : Pl n (.int i)
  | tup {n : Nat} {ds : List PyData} : (∀ d ∈ ds, Pl n d) → ds.length ≤ 1000 → Pl (n + 1) (.tuple ds)
  | lst {n : Nat} {ds : List PyData} : (∀ d ∈ ds, Pl n d) → ds.length ≤ 1000 → Pl (n + 1) (.list ds)
theorem Pl.dT {n : Nat} {l : List Int} (h : l.length ≤ 1000) : Pl (n + 1) (dT l) := .tup (fun d hd => by
  obtain ⟨i, _, rfl⟩ := List.mem_map.mp hd
  exact .int n i) (by rw [List.length_map]; exact h)
section
variable {T : List (Addr × Str)} {X : Cx} {σ : L2.St} {B : Hp} {a b : Expr} {d : PyData} {ds : List PyData} {pos p1 : Pos} {n1 : Nat}
theorem t_isN (ha : Pe T X a σ B d) {r : Bool} (hr : ∀ H v, Da H v d → decide (v = .non) = r) : Pt T X (.Compare a [.Is] [.Constant .none n1 p1] pos) σ B r := fun H1 e1 Q q =>
  PT.w (pt_cmpR op_isN pe_w pe_non (nomark _)) (ha H1 e1 _ fun v B2 H2 g2 hv => ⟨rfl, _, rfl, by rw [hr _ _ hv]; exact q H2 g2.h⟩)
theorem d_ixS {D : PyData} {z : Int} (sd : SeqD D ds) (ha : Pe T X a σ B D) (hb : Pe T X b σ B (.int z)) (hz : atI ds z = some d) (hp : PlainIx b := by exact fun _ _ => rfl) : Pe T X (.Subscript a b pos) σ B d := by
  cases sd with
  | lst => exact d_ixL ha hb hz hp
  | tup => exact d_ixT ha hb hz hp
end
section
variable {T : List (Addr × Str)} {P : Program} {w : World} {K : PySem.W.Frag} {mg : Str → Option Value} {base : Heap} {f : Addr} {fd : FuncData}
abbrev s_alike : Stmt := topS 40
abbrev R_alike (n : Nat) : List PyData → PyData → Prop := fun ds d => ∃ x, ds = [x, x] ∧ Pl n x ∧ d = .bool true
theorem sc_alike : FnScope ["_law_found", "_law_due", "_law_k"] ["_law_found", "_law_due"] (defScope s_alike) := ⟨rfl, rfl, rfl, by decide +kernel, rfl, by decide +kernel, by decide +kernel⟩
theorem sh_bool (b : Bool) : SeqAt.shaped (.bool b) = true := by cases b <;> decide +kernel
theorem ok_alike (A : At K mg "_law_alike" s_alike f fd) (M : Mg mg) : ∀ n, DefOk T P w K mg base "_law_alike" (n + 1) (R_alike n) := by
  intro n
  induction n with
  | zero =>
    refine def_ok A.F sc_alike A.m (A.F.binds fun _ _ _ _ _ _ us hl => match us, hl with | [_, _], _ => rfl) (fun ds d h => by obtain ⟨_, rfl, _⟩ := h; rfl) fun cdv A' outer s H E B vs ds d Q hr u hv hR q => ?_
    obtain ⟨x, rfl, hx, rfl⟩ := hR
    obtain ⟨v0, vs, rfl, h0, hv⟩ := hv.consE
    obtain ⟨v1, rfl, h1⟩ := hv.one
    have g0 := lim_go u u.self
    cases hx with
    | int _ i =>
      refine b_skip u (t_val (d_isi2 M.isinstance (d_var (n := 1) rfl h1) M.tuple (by decide +kernel) M.list (by decide +kernel) ⟨false, false, by dsimp only [tyN]; decide +kernel, by dsimp only [tyN]; decide +kernel, rfl⟩)) fun H2 e2 u2 => ?_
      refine b_skip u2 (Pt.is (t_w (w_or (t_isN (r := false) (d_var (n := 1) rfl h1) fun H v hv => by rw [hv.intE]; rfl) fun _ => w_or1 (t_val (d_isi (r := false) M.isinstance (d_var (n := 1) rfl h1) M.str)))) rfl) fun H3 e3 u3 => ?_
      exact b_one (s_ret u3 (Pe.is (d_and (x := true) (d_isi M.isinstance (d_var (n := 0) rfl h0) M.int) fun _ => d_and (x := true) (Pe.is (d_eqD hr (d_isi (r := false) M.isinstance (d_var (n := 0) rfl h0) M.bool) (d_isi (r := false) M.isinstance (d_var (n := 1) rfl h1) M.bool) (sh_bool _) (sh_bool _)) (by simp [PyData.eqv])) fun _ => d_one (d_eqI (d_var (n := 0) rfl h0) (d_var (n := 1) rfl h1))) (by simp))
        fun v B' H' g hd => q v B' H' (g.onto u (e2.trans e3)) hd)
  | succ n ih =>
    refine def_ok A.F sc_alike A.m (A.F.binds fun _ _ _ _ _ _ us hl => match us, hl with | [_, _], _ => rfl) (fun ds d h => by obtain ⟨_, rfl, _⟩ := h; rfl) fun cdv A' outer s H E B vs ds d Q hr u hv hR q => ?_
    obtain ⟨x, rfl, hx, rfl⟩ := hR
    obtain ⟨v0, vs, rfl, h0, hv⟩ := hv.consE
    obtain ⟨v1, rfl, h1⟩ := hv.one
    have nd := sc_alike.nd
    have g0 := lim_go u u.self
    have seq : ∀ (ds : List PyData) (r1 r2 : Bool), SeqD x ds → kitB (tyN x) "tuple" = some r1 → kitB (tyN x) "list" = some r2 → (r1 || r2) = true → (∀ d ∈ ds, Pl n d) → ds.length ≤ 1000 → WB (cxOf CX0 P w K mg base ["_law_found", "_law_due", "_law_k"] "_law_alike" (defScope s_alike) f cdv A' outer s H E).nox (defBody s_alike) { nx := fun _ H' => Q .non H', rt := Q } (start ["_law_found", "_law_due", "_law_k"] [v0, v1]) H := by
      intro es r1 r2 sd k1 k2 k3 k4 k5
      refine b_cons (s_if (t := true) u (Pt.is (t_val (d_isi2 M.isinstance (d_var (n := 1) rfl h1) M.tuple (by decide +kernel) M.list (by decide +kernel) ⟨r1, r2, k1, k2, rfl⟩)) k3) (fun _ H2 e2 => ?_) fun z => by cases z)
      have u2 := u.trans e2
      refine b_skip u2 (Pt.is (t_w (w_or (t_not (t_val (d_isi2 M.isinstance (d_var (n := 0) rfl h0) M.tuple (by decide +kernel) M.list (by decide +kernel) ⟨r1, r2, k1, k2, rfl⟩))) fun _ => w_or1 (t_neD hr (d_isi (r := r2) M.isinstance (d_var (n := 0) rfl h0) M.list (by decide +kernel) k2) (d_isi (r := r2) M.isinstance (d_var (n := 1) rfl h1) M.list (by decide +kernel) k2) (sh_bool _) (sh_bool _)))) ?_) fun H3 e3 u3 => ?_
      · rw [k3]
        cases r2 <;> simp [PyData.eqv]
      refine b_skip u3 (Pt.is (t_neI (d_len M.len (d_var (n := 0) rfl h0) sd) (d_len M.len (d_var (n := 1) rfl h1) sd)) (by simp)) fun H4 e4 u4 => ?_
      refine b_one (s_ret u4 (Pe.is (d_eqD hr (d_lc (j := 2) (xs := irange es.length) (enc := PyData.int) (fun _ => false) .int (src_range M.range (d_len M.len (d_var (n := 1) rfl h1) sd) (by omega) (by omega)) (by rw [irange_len]; omega) (blkOk_by (by kernel_rfl)) nd
        (fun z hz v B6 x6 hv6 s H0 C cl fp => ?_) fun z hz hf v B6 x6 hv6 s H0 C cl fp => by cases hf) (d_lst a_nil (by decide)) (shaped_dL _) (shaped_dL [])) ?_) fun v B' H' g hd => q v B' H' (g.onto u ((e2.trans e3).trans e4)) hd)
      · have hz' := mem_irange.mp hz
        obtain ⟨i, rfl⟩ : ∃ i : Nat, z = i := ⟨z.toNat, by omega⟩
        have hi : i < es.length := by omega
        have at_ : atI es (i : Int) = some es[i] := atI_nat (List.getElem?_eq_getElem hi)
        exact ts_one (Pt.is (t_not (t_val (d_call (n := n + 1) ih (k := n + 1) hr (a_cons (d_ixS sd (d_var (n := 0) rfl (h0.mono x6)) (d_var (n := 2) rfl hv6) at_) (a_cons (d_ixS sd (d_var (n := 1) rfl (h1.mono x6)) (d_var (n := 2) rfl hv6) at_) a_nil)) ⟨es[i], rfl, k4 _ (List.getElem_mem hi), rfl⟩ (Nat.le_refl _)))) rfl)
      · have : (irange es.length).filter (fun _ => false) = [] := by simp
        rw [this]
        show PyData.bool (PyData.eqv (.list (([] : List Int).map .int)) (.list (([] : List Int).map .int))) = _
        rw [eqv_dL]
        rfl
    cases hx with
    | tup k1 k2 => exact seq _ true false (.tup _) (by dsimp only [tyN]; decide +kernel) (by dsimp only [tyN]; decide +kernel) rfl k1 k2
    | lst k1 k2 => exact seq _ false true (.lst _) (by dsimp only [tyN]; decide +kernel) (by dsimp only [tyN]; decide +kernel) rfl k1 k2
    | int _ i =>
      refine b_skip u (t_val (d_isi2 M.isinstance (d_var (n := 1) rfl h1) M.tuple (by decide +kernel) M.list (by decide +kernel) ⟨false, false, by dsimp only [tyN]; decide +kernel, by dsimp only [tyN]; decide +kernel, rfl⟩)) fun H2 e2 u2 => ?_
      refine b_skip u2 (Pt.is (t_w (w_or (t_isN (r := false) (d_var (n := 1) rfl h1) fun H v hv => by rw [hv.intE]; rfl) fun _ => w_or1 (t_val (d_isi (r := false) M.isinstance (d_var (n := 1) rfl h1) M.str)))) rfl) fun H3 e3 u3 => ?_
      exact b_one (s_ret u3 (Pe.is (d_and (x := true) (d_isi M.isinstance (d_var (n := 0) rfl h0) M.int) fun _ => d_and (x := true) (Pe.is (d_eqD hr (d_isi (r := false) M.isinstance (d_var (n := 0) rfl h0) M.bool) (d_isi (r := false) M.isinstance (d_var (n := 1) rfl h1) M.bool) (sh_bool _) (sh_bool _)) (by simp [PyData.eqv])) fun _ => d_one (d_eqI (d_var (n := 0) rfl h0) (d_var (n := 1) rfl h1))) (by simp))
        fun v B' H' g hd => q v B' H' (g.onto u (e2.trans e3)) hd)
end
end DW

/-! the law's rounds find what hangs together -/
namespace DW
open PySem PySem.Spec PyProof.Rows L2 RZ
def stepC (lot sm : List Int) (t : Int × Int) : Bool := decide (t.1 ∈ lot) && (decide (t.2 ∈ lot) && (!(decide (decide (t.1 ∈ sm) = decide (t.2 ∈ sm)))))
def stepT (lot sm : List Int) (t : Int × Int) : List Int := if stepC lot sm t = true then sm ++ [if t.1 ∈ sm then t.2 else t.1] else sm
def roundT (W : Web) (lot sm : List Int) : List Int := W.ties.foldl (stepT lot) sm
def rounds (W : Web) (lot : List Int) (a : Int) : Nat → List Int
  | 0 => [a]
  | n + 1 => roundT W lot (rounds W lot a n)
/-- what stays so: no repeats, all within the lot and reached from a -/
structure Rd (W : Web) (lot : List Int) (a : Int) (sm : List Int) : Prop where
  nd : sm.Nodup
  inn : ∀ x ∈ sm, x ∈ lot ∧ Reach W lot a x
  a : a ∈ sm
theorem stepC_iff {lot sm : List Int} {t : Int × Int} : stepC lot sm t = true ↔ t.1 ∈ lot ∧ t.2 ∈ lot ∧ ¬ (t.1 ∈ sm ↔ t.2 ∈ sm) := by
  unfold stepC
  rw [Bool.and_eq_true, Bool.and_eq_true, decide_eq_true_eq, decide_eq_true_eq, Bool.not_eq_true', decide_eq_false_iff_not, decide_eq_decide]
theorem Rd.step {W : Web} {lot sm : List Int} {a : Int} (h : Rd W lot a sm) {t : Int × Int} (ht : t ∈ W.ties) : Rd W lot a (stepT lot sm t) := by
  unfold stepT
  by_cases c : stepC lot sm t = true
  · rw [if_pos c]
    obtain ⟨c1, c2, c3⟩ := stepC_iff.mp c
    by_cases m : t.1 ∈ sm
    · have m2 : t.2 ∉ sm := fun z => c3 ⟨fun _ => z, fun _ => m⟩
      rw [if_pos m]
      refine ⟨?_, fun x hx => ?_, List.mem_append_left _ h.a⟩
      · rw [List.nodup_append]
        refine ⟨h.nd, by simp, fun x hx y hy => ?_⟩
        rw [List.mem_singleton] at hy
        subst hy
        exact fun e => m2 (e ▸ hx)
      · obtain hx | hx := List.mem_append.mp hx
        · exact h.inn x hx
        · rw [List.mem_singleton] at hx
          subst hx
          exact ⟨c2, .step (h.inn _ m).2 (mem_adj.mpr ⟨t, ht, .inl rfl, by omega⟩) c2⟩
    · have m2 : t.2 ∈ sm := Classical.byContradiction fun z => c3 ⟨fun y => absurd y m, fun y => absurd y z⟩
      rw [if_neg m]
      refine ⟨?_, fun x hx => ?_, List.mem_append_left _ h.a⟩
      · rw [List.nodup_append]
        refine ⟨h.nd, by simp, fun x hx y hy => ?_⟩
        rw [List.mem_singleton] at hy
        subst hy
        exact fun e => m (e ▸ hx)
      · obtain hx | hx := List.mem_append.mp hx
        · exact h.inn x hx
        · rw [List.mem_singleton] at hx
          subst hx
          exact ⟨c1, .step (h.inn _ m2).2 (mem_adj.mpr ⟨t, ht, .inr rfl, by omega⟩) c1⟩
  · rw [if_neg c]
    exact h
theorem Rd.fold {W : Web} {lot : List Int} {a : Int} : ∀ (ts : List (Int × Int)) {sm : List Int}, (∀ t ∈ ts, t ∈ W.ties) → Rd W lot a sm → Rd W lot a (ts.foldl (stepT lot) sm)
  | [], _, _, h => h
  | t :: ts, _, ht, h => Rd.fold ts (fun u hu => ht u (List.mem_cons_of_mem _ hu)) (h.step (ht t List.mem_cons_self))
theorem stepT_or (lot sm : List Int) (t : Int × Int) : (stepC lot sm t = false ∧ stepT lot sm t = sm) ∨ (stepT lot sm t).length = sm.length + 1 := by
  unfold stepT
  by_cases c : stepC lot sm t = true
  · rw [if_pos c]
    exact .inr (by rw [List.length_append]; rfl)
  · rw [if_neg c]
    exact .inl ⟨by simpa using c, rfl⟩
/-- a run of steps stands still or grows -/
theorem fold_or (lot : List Int) : ∀ (ts : List (Int × Int)) (sm : List Int), (∀ t ∈ ts, stepC lot sm t = false) ∧ ts.foldl (stepT lot) sm = sm ∨ sm.length + 1 ≤ (ts.foldl (stepT lot) sm).length
  | [], sm => .inl ⟨fun t h => (by cases h), rfl⟩
  | t :: ts, sm => by
    rw [List.foldl_cons]
    rcases stepT_or lot sm t with ⟨h1, h2⟩ | h
    · rw [h2]
      rcases fold_or lot ts sm with ⟨k1, k2⟩ | k
      · left
        refine ⟨fun u hu => ?_, k2⟩
        rcases List.mem_cons.mp hu with e | e
        · rw [e]; exact h1
        · exact k1 u e
      · exact .inr k
    · rcases fold_or lot ts (stepT lot sm t) with ⟨k1, k2⟩ | k
      · right
        rw [k2]
        omega
      · right
        omega
theorem fold_still (lot : List Int) : ∀ (ts : List (Int × Int)) (sm : List Int), (∀ t ∈ ts, stepC lot sm t = false) → ts.foldl (stepT lot) sm = sm
  | [], _, _ => rfl
  | t :: ts, sm, h => by
    rw [List.foldl_cons]
    have e : stepT lot sm t = sm := if_neg (by rw [h t List.mem_cons_self]; exact Bool.false_ne_true)
    rw [e]
    exact fold_still lot ts sm fun u hu => h u (List.mem_cons_of_mem _ hu)
theorem rounds_rd {W : Web} {lot : List Int} {a : Int} (ha : a ∈ lot) : ∀ n, Rd W lot a (rounds W lot a n)
  | 0 => ⟨by simp [rounds], fun x hx => by
      have : x = a := by simpa [rounds] using hx
      subst this
      exact ⟨ha, .refl⟩, by simp [rounds]⟩
  | n + 1 => .fold _ (fun t h => h) (rounds_rd ha n)
theorem rounds_or {W : Web} {lot : List Int} {a : Int} : ∀ n, (∀ t ∈ W.ties, stepC lot (rounds W lot a n) t = false) ∨ n + 1 ≤ (rounds W lot a n).length
  | 0 => .inr (by simp [rounds])
  | n + 1 => by
    rcases rounds_or (W := W) (lot := lot) (a := a) n with h | h
    · left
      show ∀ t ∈ W.ties, stepC lot (roundT W lot (rounds W lot a n)) t = false
      unfold roundT
      rw [fold_still lot _ _ h]
      exact h
    · rcases fold_or lot W.ties (rounds W lot a n) with ⟨k1, k2⟩ | k
      · left
        show ∀ t ∈ W.ties, stepC lot (roundT W lot (rounds W lot a n)) t = false
        unfold roundT
        rw [k2]
        exact k1
      · right
        show n + 1 + 1 ≤ (roundT W lot (rounds W lot a n)).length
        unfold roundT
        omega
theorem sub_len {l m : List Int} (h : l.Nodup) (hs : ∀ x ∈ l, x ∈ m) : l.length ≤ m.length := nodup_len h hs
/-- after so many rounds all is found -/
theorem rounds_done {W : Web} {S L : List Int} {a : Int} (hS : Up S) (c : Cl W S L) (ha : a ∈ L) : srt (rounds W S a L.length) = comp W L a := by
  have aS := c.sub a ha
  have R := rounds_rd (W := W) aS L.length
  have hL : ∀ x ∈ rounds W S a L.length, x ∈ L := fun x hx => (reach_cl c ha (R.inn x hx).2).1
  have cl : ∀ t ∈ W.ties, stepC S (rounds W S a L.length) t = false := by
    rcases rounds_or (W := W) (lot := S) (a := a) L.length with h | h
    · exact h
    · have := sub_len R.nd hL
      omega
  have all : ∀ x, Reach W S a x → x ∈ rounds W S a L.length := fun x hx => by
    induction hx with
    | refl => exact R.a
    | @step b c h1 h2 h3 ih =>
      obtain ⟨t, t1, t2, t3⟩ := mem_adj.mp h2
      have hb := (R.inn b ih).1
      have n := cl t t1
      rcases t2 with e | e
      · have ec : c = t.2 := by omega
        subst e ec
        refine Classical.byContradiction fun z => ?_
        have : stepC S (rounds W S a L.length) t = true := stepC_iff.mpr ⟨hb, h3, fun y => z (y.mp ih)⟩
        rw [n] at this
        cases this
      · have ec : c = t.1 := by omega
        subst e ec
        refine Classical.byContradiction fun z => ?_
        have : stepC S (rounds W S a L.length) t = true := stepC_iff.mpr ⟨h3, hb, fun y => z (y.mpr ih)⟩
        rw [n] at this
        cases this
  refine srt_eq R.nd (comp_up c.up) fun x => ?_
  rw [mem_comp]
  constructor
  · intro hx
    exact ⟨hL x hx, (reach_cl c ha (R.inn x hx).2).2⟩
  · rintro ⟨h1, h2⟩
    exact all x (reach_sub c.sub h2)
theorem mem_rounds {W : Web} {S L : List Int} {a : Int} (hS : Up S) (c : Cl W S L) (ha : a ∈ L) {x : Int} : x ∈ rounds W S a L.length ↔ x ∈ comp W L a := by
  rw [← rounds_done hS c ha, mem_srt]
theorem rounds_len {W : Web} {S : List Int} {a : Int} (ha : a ∈ S) (n : Nat) : (rounds W S a n).length ≤ S.length := sub_len (rounds_rd ha n).nd fun x hx => ((rounds_rd ha n).inn x hx).1
theorem roundT_take {W : Web} {lot sm : List Int} {i : Nat} {t : Int × Int} (h : W.ties[i]? = .some t) : (W.ties.take (i + 1)).foldl (stepT lot) sm = stepT lot ((W.ties.take i).foldl (stepT lot) sm) t := foldl_take _ _ h
end DW

namespace DW
open PySem PySem.Spec PyProof.Rows L2 RZ
theorem eqv_bool (x y : Bool) : PyData.eqv (.bool x) (.bool y) = decide (x = y) := by cases x <;> cases y <;> simp [PyData.eqv]
section
variable {T : List (Addr × Str)} {P : Program} {w : World} {K : PySem.W.Frag} {mg : Str → Option Value} {base : Heap} {f : Addr} {fd : FuncData}
abbrev s_lparts : Stmt := topS 44
abbrev R_lparts : List PyData → PyData → Prop := fun ds d => ∃ (W : Web) (lot : List Int), ds = [dW W, dT lot] ∧ W.ties.length ≤ 64 ∧ Up lot ∧ lot.length ≤ 8 ∧ d = .list ((parts W lot).map dT)
theorem sc_lparts : FnScope ["_law_web_here", "_law_lot_here", "_law_found", "_law_left", "_law_some", "_law_turn", "_law_one", "_law_other", "_law_person"] ["_law_web_here", "_law_lot_here"] (defScope s_lparts) := ⟨rfl, rfl, rfl, by decide +kernel, rfl, by decide +kernel, by decide +kernel⟩
theorem ok_lparts (A : At K mg "_law_parts" s_lparts f fd) (M : Mg mg) : DefOk T P w K mg base "_law_parts" 1 R_lparts := by
  refine def_ok A.F sc_lparts A.m (A.F.binds fun _ _ _ _ _ _ us hl => match us, hl with | [_, _], _ => rfl) (fun ds d h => by obtain ⟨_, _, rfl, _⟩ := h; rfl) fun cdv A' outer s H E B vs ds d Q hr u hv hR q => ?_
  obtain ⟨W, lot, rfl, k64, kup, k8, rfl⟩ := hR
  obtain ⟨v0, vs, rfl, h0, hv⟩ := hv.consE
  obtain ⟨v1, rfl, h1⟩ := hv.one
  have nd := sc_lparts.nd
  have g0 := lim_go u u.self
  refine b_cons (s_par (i := 2) (j := 3) nd (by decide) (wa_cons (we_lst (wa_nil ⟨by show 0 ≤ sizeLine; decide, fun r nr => ?_⟩))) (by rfl))
  have g1 := g0.mine (o := .lst []) nr
  have nH : Fr0 H r := .of nr
  refine wa_cons (Pe.at (d_list M.list (d_var (n := 1) rfl (h1.mono g1.b)) (.tup _)) g1.u fun v2 B2 H2 g2 hv2 => wa_nil ⟨.ref r, v2, rfl, ?_⟩)
  have n2 : Fr0 B2 r := g2.pr r _ (g0.u.free nr) upd_same
  have r2 : H2 r = some (.lst []) := g2.h.lstAt upd_same
  have a2 : Ac T B H r B2 H2 [] := ⟨g1.trans g2, nH, n2, [], r2, .nil⟩
  refine b_cons (s_while (T := T) (fun m σ' H' => ∃ acc l B' v3 y4 y5 y6 y7, σ' = [some v0, some v1, some (.ref r), some v3, y4, y5, y6, y7, none] ∧ Cl W lot l ∧ m = l.length ∧ acc ++ parts W l = parts W lot ∧ Ac T B H r B' H' (acc.map dT) ∧ Da B' v3 (.list (l.map .int)))
    _ ⟨[], lot, B2, v2, none, none, none, none, rfl, .refl kup, rfl, rfl, a2, hv2⟩ fun m σ' H' hI => ?_)
  obtain ⟨acc, l, B', v3, y4, y5, y6, y7, rfl, lcl, rfl, hp, aI, a3⟩ := hI
  have l8 : l.length ≤ 8 := Nat.le_trans (sub_len lcl.up.nodup lcl.sub) k8
  have eqe : PyData.eqv (.list (l.map .int)) (.list []) = decide (l = []) := eqv_dL l []
  refine ⟨_, B', aI.go.u, t_neD hr (d_var (n := 3) rfl a3) (d_lst a_nil (by decide)) (shaped_dL l) (shaped_dL []), fun hb H3 e3 => ?_, fun hb H3 e3 => ?_⟩
  · rw [eqe] at hb
    have hne : l ≠ [] := by simpa using hb
    obtain ⟨a, t, rfl⟩ : ∃ a t, l = a :: t := by
      cases l with
      | nil => exact absurd rfl hne
      | cons a t => exact ⟨a, t, rfl⟩
    have aL : a ∈ lot := lcl.sub a List.mem_cons_self
    have a3' := aI.ext e3
    refine b_cons (s_set (i := 4) nd a3'.go.u (d_lst (a_cons (d_ixL (d_var (n := 3) rfl a3) d_int (atI_zero _ _)) a_nil) (by simp)) fun v4 B4 H4 g4 hv4 => ?_)
    have a4 := a3'.on g4
    refine b_cons (s_for a4.go.u (src_range M.range (d_len M.len (d_var (n := 3) rfl (a3.mono g4.b))) (by rw [List.length_map]; omega) (by rw [List.length_map]; omega)) fun B5 H5 g5 => ⟨fun n B1 σ' H1 => ∃ v4 y5 y6 y7, σ' = [some v0, some v1, some (.ref r), some v3, some v4, y5, y6, y7, none] ∧ Ac T B H r B1 H1 (acc.map dT) ∧ Da B1 v4 (.list ((rounds W lot a n).map .int)),
      ⟨v4, y5, y6, y7, rfl, a4.on g5, hv4.mono g5.b⟩, fun n d v B1 σ' H1 B6 H6 hd hI x1 x2 g6 hvd => ?_, fun B1 σ' H1 x1 x2 hI => ?_⟩)
    · obtain ⟨v4, y5, y6, y7, rfl, aJ, hJ⟩ := hI
      have a6 := aJ.on g6
      have b6 := a6.go.b
      refine g_name (i := 5) (b_one (s_for a6.go.u (src_tup (d_ixT (d_var (n := 0) rfl (h0.mono b6)) d_int (by rfl))) fun B7 H7 g7 => ⟨fun i B1 σ' H1 => ∃ v4 y6 y7, σ' = [some v0, some v1, some (.ref r), some v3, some v4, some v, y6, y7, none] ∧ Ac T B H r B1 H1 (acc.map dT) ∧ Da B1 v4 (.list (((W.ties.take i).foldl (stepT lot) (rounds W lot a n)).map .int)),
        ⟨v4, y6, y7, rfl, a6.on g7, (hJ.mono g6.b).mono g7.b⟩, fun i d' v' B8 σ' H8 B9 H9 hd' hI y1 y2 g9 hvd' => ?_, fun B8 σ' H8 y1 y2 hI => ?_⟩)) nd
      · obtain ⟨v4, y6, y7, rfl, aK, hK⟩ := hI
        have hi : i < W.ties.length := by
          have := (List.getElem?_eq_some_iff.mp hd').1
          rwa [List.length_map] at this
        have ed : d' = dP W.ties[i] := by
          rw [List.getElem?_map, List.getElem?_eq_getElem hi] at hd'
          exact (Option.some.inj hd').symm
        subst ed
        have a9 := aK.on g9
        have b9 := a9.go.b
        have hK9 := hK.mono g9.b
        have st := roundT_take (W := W) (lot := lot) (sm := rounds W lot a n) (List.getElem?_eq_getElem hi)
        have sl : ((W.ties.take i).foldl (stepT lot) (rounds W lot a n)).length ≤ 8 := by
          have R := Rd.fold (W.ties.take i) (fun t ht => List.mem_of_mem_take ht) (rounds_rd (W := W) aL n)
          exact Nat.le_trans (sub_len R.nd fun x hx => (R.inn x hx).1) k8
        generalize hS : (W.ties.take i).foldl (stepT lot) (rounds W lot a n) = S at hK9 st sl
        generalize hT : W.ties[i] = t at hvd' st
        refine g_pair (i := 6) (j := 7) g9.u hvd' (fun w1 w2 k1 k2 => b_one (s_if (t := stepC lot S t) a9.go.u (t_w (w_and (t_in (d_var (n := 6) rfl k1) (d_var (n := 1) rfl (h1.mono b9))) fun _ => w_and (t_in (d_var (n := 7) rfl k2) (d_var (n := 1) rfl (h1.mono b9))) fun _ =>
          w_and1 (Pt.is (t_neD hr (d_in (d_var (n := 6) rfl k1) (d_var (n := 4) rfl hK9)) (d_in (d_var (n := 7) rfl k2) (d_var (n := 4) rfl hK9)) (sh_bool _) (sh_bool _)) (by rw [eqv_bool])))) (fun hc H10 e10 => ?_) fun hc H10 e10 => ?_)) nd
        · have u10 := a9.go.u.trans e10
          refine b_one (s_set (i := 4) nd u10 (d_catL (d_var (n := 4) rfl hK9) (d_lst (a_cons (d_ifExp (d := .int (if t.1 ∈ S then t.2 else t.1)) (t_in (d_var (n := 6) rfl k1) (d_var (n := 4) rfl hK9)) (fun z => Pe.is (d_var (n := 7) rfl k2) (by rw [if_pos (of_decide_eq_true z)])) fun z => Pe.is (d_var (n := 6) rfl k1) (by rw [if_neg (of_decide_eq_false z)])) a_nil) (by simp)) (by rw [List.length_map, List.length_singleton]; omega)) fun v11 B11 H11 g11 hv11 => ?_)
          refine ⟨B11, (y1.trans g9.b).trans g11.b, g11.u, v11, some w1, some w2, rfl, (a9.ext e10).on g11, ?_⟩
          rw [st]
          unfold stepT
          rw [if_pos hc, List.map_append]
          exact hv11
        · refine b_nil ⟨B9, y1.trans g9.b, a9.go.u.trans e10, v4, some w1, some w2, rfl, a9.ext e10, ?_⟩
          rw [st]
          unfold stepT
          (rw [if_neg (by rw [hc]; exact Bool.false_ne_true)])
          exact hK9
      · obtain ⟨v4, y6, y7, rfl, aK, hK⟩ := hI
        rw [List.length_map, List.take_length] at hK
        exact ⟨B8, ((x1.trans g6.b).trans g7.b).trans y1, y2, v4, some v, y6, y7, rfl, aK, hK⟩
    · obtain ⟨v4, y5, y6, y7, rfl, aJ, hJ⟩ := hI
      rw [List.length_map, irange_len, List.length_map, Int.toNat_natCast] at hJ
      have a3J := a3.mono ((g4.b.trans g5.b).trans x1)
      have lx : (acc.map dT).length < 100000 := by
        have h2 := congrArg List.length hp
        rw [List.length_append] at h2
        rw [List.length_map]
        have := parts_len (w := W) lot.length lot (Nat.le_refl _)
        omega
      refine b_cons (s_appA (i := 2) aJ rfl lx (d_tuple M.tuple (d_sortedI hr M.sorted (d_var (n := 4) rfl hJ))) fun B6 H6 x6 a6 => ?_)
      rw [rounds_done kup lcl List.mem_cons_self] at a6
      refine b_one (Lc.set (n := 3) (lc_1 (j := 8) (xs := a :: t) (enc := PyData.int) (fun x => !decide (x ∈ comp W (a :: t) a)) .int (src_list (d_var (n := 3) rfl (a3J.mono x6))) (by omega) (blkOk_by (by kernel_rfl)) nd
          (fun z hz v B7 x7 hv7 s H0 C cl fp => ts_one (Pt.is (t_notIn (d_var (n := 8) rfl hv7) (d_var (n := 4) rfl ((hJ.mono x6).mono x7))) (by rw [decide_eq_decide.mpr (mem_rounds kup lcl List.mem_cons_self)]))) fun z hz _ v B7 x7 hv7 s H0 C cl fp => d_var (n := 8) rfl hv7)
        a6.go.u (blkOk_by (by kernel_rfl)) nd (sw_true rfl rfl rfl (by decide +kernel)) fun v7 B7 H7 g7 hv7 => ?_)
      refine ⟨((a :: t).filter fun x => !decide (x ∈ comp W (a :: t) a)).length, ?_, acc ++ [comp W (a :: t) a], _, B7, v7, some v4, y5, y6, y7, rfl, lcl.rest (lcl.comp a List.mem_cons_self), rfl, ?_, ?_, hv7⟩
      · have := rest_len (w := W) (a := a) (r := t)
        rw [List.length_cons]
        omega
      · rw [← hp, parts_cons, List.append_assoc]
        rfl
      · rw [List.map_append]
        exact a6.on g7
  · rw [eqe] at hb
    have hne : l = [] := by simpa using hb
    subst hne
    rw [parts_nil, List.append_nil] at hp
    subst hp
    obtain ⟨Bt, gt, xt, ht⟩ := (aI.ext e3).show
    exact b_one (s_ret gt.u (d_var (n := 2) rfl ht) fun v5 B5 H5 g5 hv5 => q v5 B5 H5 (gt.trans g5) hv5)

abbrev s_ldeep : Stmt := topS 47
abbrev R_ldeep : List PyData → PyData → Prop := fun ds d => ∃ (W : Web) (lot : List Int), ds = [dW W, dT lot] ∧ WebOk W ∧ LotOk W lot ∧ d = .list ((deep W lot).map dT)
theorem sc_ldeep : FnScope ["_law_web_here", "_law_lot_here", "_law_found", "_law_piece", "_law_low", "_law_one"] ["_law_web_here", "_law_lot_here"] (defScope s_ldeep) := ⟨rfl, rfl, rfl, by decide +kernel, rfl, by decide +kernel, by decide +kernel⟩
theorem ok_ldeep (A : At K mg "_law_deep" s_ldeep f fd) (M : Mg mg) (DP : DefOk T P w K mg base "_law_parts" 1 R_lparts) (DR : DefOk T P w K mg base "_law_rest" 1 R_lrest) (DB : DefOk T P w K mg base "_law_border" 2 R_lborder) : DefOk T P w K mg base "_law_deep" 3 R_ldeep := by
  refine def_ok A.F sc_ldeep A.m (A.F.binds fun _ _ _ _ _ _ us hl => match us, hl with | [_, _], _ => rfl) (fun ds d h => by obtain ⟨_, _, rfl, _⟩ := h; rfl) fun cdv A' outer s H E B vs ds d Q hr u hv hR q => ?_
  obtain ⟨W, lot, rfl, kw, kl, rfl⟩ := hR
  obtain ⟨v0, vs, rfl, h0, hv⟩ := hv.consE
  obtain ⟨v1, rfl, h1⟩ := hv.one
  have nd := sc_ldeep.nd
  have g0 := lim_go u u.self
  have n8 := kw.n8
  have l8 := kl.len8 n8
  have pl := parts_len (w := W) _ (others W lot) (Nat.le_refl _)
  have ol := others_len kw lot
  refine b_cons (s_newA (i := 2) nd g0 fun r H3 a3 => ?_)
  refine b_cons (s_forA (xs := parts W (others W lot)) (enc := dT) (fun σ' => ∃ y z, σ' = [some v0, some v1, some (.ref r), y, z, none]) (fun n => (((parts W (others W lot)).take n).filter fun p => isDeep W p lot).map dT) a3 ⟨none, none, rfl⟩
    (src_list (d_call DP hr (a_cons (d_var (n := 0) rfl (h0.mono a3.go.b)) (a_cons (d_call DR hr (a_cons (d_var (n := 0) rfl (h0.mono a3.go.b)) (a_cons (d_var (n := 1) rfl (h1.mono a3.go.b)) a_nil)) ⟨W, lot, rfl, n8, rfl⟩) a_nil)) ⟨W, others W lot, rfl, kw.few, others_up W lot, ol, rfl⟩)) (fun n x v σ' B4 H4 hx hS xB a4 hv4 N hN => ?_) fun σ' B4 H4 hS xB a4 => ?_)
  · obtain ⟨y, z, rfl⟩ := hS
    have b4 := a4.go.b
    obtain ⟨z1, z2⟩ := parts_of_mem (others_up W lot) (List.mem_of_getElem? hx)
    have zb : ∀ y ∈ x, 0 ≤ y ∧ y < W.n := fun y hy => (mem_others.mp (z2.sub y hy)).1
    have x8 := piece_len (others_up W lot) (fun x hx => (mem_others.mp hx).1) n8 z2
    have bne := border_ne kw kl z1 z2
    have bl : (border W x lot).length ≤ 8 := Nat.le_trans (List.length_filter_le _ _) l8
    have bb : ∀ y ∈ border W x lot, 0 ≤ y ∧ y < W.n := fun y hy => kl.bd y (List.mem_filter.mp hy).1
    have fl : (((parts W (others W lot)).take n).filter fun p => isDeep W p lot).length ≤ 8 := by
      refine Nat.le_trans (List.length_filter_le _ _) ?_
      rw [List.length_take]
      omega
    rw [filter_step _ hx] at hN
    generalize hF : ((parts W (others W lot)).take n).filter (fun p => isDeep W p lot) = F at hN a4 fl
    refine g_name (i := 3) (b_cons (s_set (i := 4) nd a4.go.u (d_min (ns := x.map W.num) M.min (Pe.is (d_map (j := 5) (xs := x) (enc := PyData.int) (fun x => .int (W.num x)) (src_tup (d_var (n := 3) rfl hv4)) (by omega) (blkOk_by (by kernel_rfl)) nd
      fun z hz v B6 x6 hv6 s H0 C cl fp => d_ixT (d_ixT (d_var (n := 0) rfl (h0.mono (b4.trans x6))) d_int (by rfl)) (d_var (n := 5) rfl hv6) (atI_num (zb z hz).1 (zb z hz).2)) ?_) ?_) fun v5 B5 H5 g5 hv5 => ?_)) nd
    · rw [List.map_map]
      rfl
    · exact fun e => z1 (List.map_eq_nil_iff.mp e)
    have a5 := a4.on g5
    have b5 := a5.go.b
    have hv5' : Da B5 v5 (.int (least W x)) := hv5
    refine b_one (s_if (t := isDeep W x lot) a5.go.u (t_lt (d_var (n := 4) rfl hv5') (d_min (ns := (border W x lot).map W.num) M.min (Pe.is (d_map (j := 5) (xs := border W x lot) (enc := PyData.int) (fun x => .int (W.num x)) (src_tup (d_call DB hr (a_cons (d_var (n := 0) rfl (h0.mono b5)) (a_cons (d_var (n := 3) rfl (hv4.mono g5.b)) (a_cons (d_var (n := 1) rfl (h1.mono b5)) a_nil))) ⟨W, x, lot, rfl, kw.few, l8, rfl⟩)) (by omega) (blkOk_by (by kernel_rfl)) nd
      fun z hz v B6 x6 hv6 s H0 C cl fp => d_ixT (d_ixT (d_var (n := 0) rfl (h0.mono (b5.trans x6))) d_int (by rfl)) (d_var (n := 5) rfl hv6) (atI_num (bb z hz).1 (bb z hz).2)) ?_) ?_)) (fun hc H6 e6 => ?_) fun hc H6 e6 => ?_)
    · rw [List.map_map]
      rfl
    · exact fun e => bne (List.map_eq_nil_iff.mp e)
    · refine b_one (s_appA (i := 2) (a5.ext e6) rfl (by rw [List.length_map]; omega) (d_var (n := 3) rfl (hv4.mono g5.b)) fun B6 H6 x6 a6 => hN _ B6 H6 ⟨_, _, rfl⟩ (g5.b.trans x6) ?_)
      rw [if_pos hc, List.map_append]
      exact a6
    · refine b_nil (hN _ B5 H6 ⟨_, _, rfl⟩ g5.b (by rw [if_neg (by rw [hc]; exact Bool.false_ne_true), List.append_nil]; exact a5.ext e6))
  · obtain ⟨y, z, rfl⟩ := hS
    rw [List.take_length] at a4
    obtain ⟨Bt, gt, xt, ht⟩ := a4.show
    exact b_one (s_ret gt.u (d_var (n := 2) rfl ht) fun v5 B5 H5 g5 hv5 => q v5 B5 H5 (gt.trans g5) hv5)
end
end DW

/-! the law's row: a list that its helpers change -/
namespace DW
open PySem PySem.Spec PyProof.Rows L2 RZ
def hid (ρ : Addr) (H : Hp) : Hp := fun b => if b = ρ then none else H b
theorem hid_same {ρ : Addr} {H : Hp} : hid ρ H ρ = none := if_pos rfl
theorem hid_ne {ρ : Addr} {H : Hp} {b : Addr} (h : b ≠ ρ) : hid ρ H b = H b := if_neg h
theorem hid_some {ρ : Addr} {H : Hp} {b : Addr} {o : HO} (h : hid ρ H b = some o) : b ≠ ρ ∧ H b = some o := by
  by_cases e : b = ρ
  · rw [e, hid_same] at h; cases h
  · rw [hid_ne e] at h; exact ⟨e, h⟩
theorem hid_mut {ρ : Addr} {H : Hp} {b : Addr} (h : Mut (hid ρ H) b) : b ≠ ρ ∧ Mut H b := by
  rcases h with ⟨ys, h⟩ | ⟨ys, h⟩
  · exact ⟨(hid_some h).1, .inl ⟨ys, (hid_some h).2⟩⟩
  · exact ⟨(hid_some h).1, .inr ⟨ys, (hid_some h).2⟩⟩
section
variable {T : List (Addr × Str)} {B H B' H' B2 H2 B0 H0 : Hp} {ρ : Addr}
theorem Xt.hid (e : Xt T H H') : Xt T (hid ρ H) H' := ⟨fun b o q n => e.keep b o (hid_some q).2 n, e.tabs⟩
theorem Go.hid (g : Go T B H B' H') : Go T B (hid ρ H) B' H' := ⟨g.b, g.h.hid, g.u, fun p h1 h2 => g.prm p h1 (hid_mut h2).2⟩
theorem Go.row (a : Go T B0 H0 B H) (n : Fr0 H0 ρ) (b : Go T B (DW.hid ρ H) B' H') : Go T B0 H0 B' H' := by
  refine ⟨a.b.trans b.b, ⟨fun c o q nt => ?_, b.h.tabs⟩, b.u, fun p h1 h2 => ?_⟩
  · refine b.h.keep c o ?_ nt
    rw [hid_ne (n.ne q nt)]
    exact a.h.keep c o q nt
  · have hp : p ≠ ρ := by
      rintro rfl
      rcases h2 with ⟨ys, h⟩ | ⟨ys, h⟩
      · exact n.ne h lst_nt rfl
      · exact n.ne h dt_nt rfl
    refine b.prm p (a.prm p h1 h2) ?_
    rcases a.h.mutAt h2 with ⟨ys, h⟩ | ⟨ys, h⟩
    · exact .inl ⟨ys, by rw [hid_ne hp]; exact h⟩
    · exact .inr ⟨ys, by rw [hid_ne hp]; exact h⟩
theorem fr_hid : Fr0 (DW.hid ρ H) ρ := .of hid_same
end
/-- the row at ρ -/
structure RowAt (K : PySem.W.Frag) (B H : Hp) (ρ : Addr) : Prop where
  nB : Fr0 B ρ
  ex : ∃ (sa : Addr) (ss : List Int) (pos seed rest : Int), H ρ = some (.lst [.ref sa, .int pos, .int seed, .int rest]) ∧ SqL K B sa (ss.map V.int) ∧ 0 ≤ pos ∧ 0 ≤ seed ∧ seed < 2147483648 ∧ 0 ≤ rest
section
variable {T : List (Addr × Str)} {K : PySem.W.Frag} {B H B' H' B2 H2 B0 H0 : Hp} {ρ : Addr}
theorem RowAt.ext (r : RowAt K B H ρ) (e : Xt T H H2) : RowAt K B H2 ρ := by
  obtain ⟨sa, ss, p, s, t, h1, h2⟩ := r.ex
  exact ⟨r.nB, sa, ss, p, s, t, e.lstAt h1, h2⟩
theorem RowAt.on (r : RowAt K B H ρ) (g : Go T B H B2 H2) : RowAt K B2 H2 ρ := by
  obtain ⟨sa, ss, p, s, t, h1, h2, h3⟩ := r.ex
  exact ⟨g.pr ρ _ r.nB h1, sa, ss, p, s, t, g.h.lstAt h1, ex_l g.b h2, h3⟩
/-- from a frame's start, the row apart -/
structure Rw (T : List (Addr × Str)) (K : PySem.W.Frag) (B H : Hp) (ρ : Addr) (B' H' : Hp) : Prop where
  go : Go T B (hid ρ H) B' H'
  row : RowAt K B' H' ρ
theorem Rw.on (r : Rw T K B H ρ B' H') (g : Go T B' H' B2 H2) : Rw T K B H ρ B2 H2 := ⟨r.go.trans g, r.row.on g⟩
theorem Rw.ext (r : Rw T K B H ρ B' H') (e : Xt T H' H2) : Rw T K B H ρ B' H2 := ⟨r.go.ext e, r.row.ext e⟩
theorem Rw.then (r : Rw T K B H ρ B' H') (s : Rw T K B' H' ρ B2 H2) : Rw T K B H ρ B2 H2 := ⟨r.go.row fr_hid s.go, s.row⟩
theorem Rw.start (u : Xt T B H) (r : RowAt K B H ρ) : Rw T K B H ρ (lim B H H) H := ⟨(lim_go u u.self).hid, r.on (lim_go u u.self)⟩
theorem Rw.of (g : Go T B H B2 H2) (r : RowAt K B H ρ) : Rw T K B H ρ B2 H2 := ⟨g.hid, r.on g⟩
end
/-- a def that takes the row first -/
def SpR (T : List (Addr × Str)) (K : PySem.W.Frag) (R : List PyData → PyData → Prop) (Pre : List PyData → Prop) : Sp := fun vs H Q _ => ∃ B ρ ws ds, vs = .ref ρ :: ws ∧ Xt T B H ∧ RowAt K B H ρ ∧ DaAll B ws ds ∧ Pre ds ∧ ∀ v d B' H', R ds d → Rw T K B H ρ B' H' → Da B' v d → Q v H'
structure RowOk (T : List (Addr × Str)) (P : Program) (w : World) (K : PySem.W.Frag) (mg : Str → Option Value) (base : Heap) (x : Str) (k : Nat) (Pre : List PyData → Prop) (R : List PyData → PyData → Prop) : Prop where
  ok : ∃ f fd ps, FnOk P w K mg base CX0 k f fd ps (SpR T K R Pre) ∧ mg x = some (.ref f) ∧ PySem.W.keepIn K (.ref f) = true ∧ Binds K fd ps []
theorem row_ok {T : List (Addr × Str)} {P : Program} {w : World} {K : PySem.W.Frag} {mg : Str → Option Value} {base : Heap} {x : Str} {st : Stmt} {f : Addr} {fd : FuncData} {N ps : List Str} {k : Nat} {R : List PyData → PyData → Prop} {Pre : List PyData → Prop}
    (F : Fun K x x st f fd) (S : FnScope N ps (defScope st)) (hm : mg x = some (.ref f)) (hb : Binds K fd ps []) (len : ∀ ds, Pre ds → ds.length + 1 = ps.length)
    (body : ∀ (cdv : Value) (A : Around) (outer : List Env) (s : Shared) (H : Hp) (E : XK) (B : Hp) (ρ : Addr) (vs : List V) (ds : List PyData) (Q : VK), Room k (A.deeper (envOfC x (defScope st) s.heap.objs.size f cdv)) → Rw T K B H ρ (lim B H H) H → DaAll (lim B H H) vs ds → Pre ds →
      (∀ v d B' H', R ds d → Rw T K B H ρ B' H' → Da B' v d → Q v H') → WB (cxOf CX0 P w K mg base N x (defScope st) f cdv A outer s H E).nox (defBody st) { nx := fun _ H' => Q .non H', rt := Q } (start N (.ref ρ :: vs)) H) : RowOk T P w K mg base x (k + 1) Pre R :=
  ⟨f, fd, ps, F.ok S (fun vs H Q E ⟨B, ρ, ws, ds, e, u, _, h1, h2, _⟩ => by rw [e, List.length_cons, h1.length]; exact len ds h2) (fun cdv A outer s H vs Q E hr ⟨B, ρ, ws, ds, e, u, r, h1, h2, q⟩ => ⟨_, pss_w, by
    subst e
    exact body cdv A outer s H E B ρ ws ds Q hr (.start u r) (h1.mono (lim_go u u.self).b) h2 q⟩), hm, F.kp, hb⟩

section
variable {T : List (Addr × Str)} {X : Cx} {σ : L2.St} {B Bt H H' : Hp} {a b c e tg iter elt : Expr} {es : List Expr} {rest body : List Stmt} {D : Ends} {d : PyData} {ds : List PyData} {pos p p' p2 p3 px py apos : Pos} {k n i : Nat} {ρ : Addr} {x : Str}
/-- row[j], an int -/
theorem d_row {xs : List V} {j z : Int} {nj : Nat} (hs : σ[n]? = some (some (.ref ρ))) (hB : Bt ρ = some (.lst xs)) (hj : atI xs j = some (.int z)) (hN : X.N[n]? = some x := by rfl)
    (hv : Vis X.env.scope x := by first | exact Or.inl rfl | exact Or.inr (Or.inl rfl) | exact Or.inr (Or.inr rfl)) (h1 : (x == ("__debug__" : Str)) = false := by decide) (h2 : (x == ("__classdict__" : Str)) = false := by decide) :
    Pe T X (.Subscript (.Name x p) (.Constant (.int j) nj p2) pos) σ Bt (.int z) := fun H1 e1 Q q =>
  PE.w (pe_ix ix_list (pe_var hN hv h1 h2) pe_int (fun _ _ => rfl)) ⟨.ref ρ, hs, ρ, xs, j, .int z, rfl, rfl, .of (e1.lstAt hB), hj, q _ _ H1 (lim_go e1 e1.self) (.int z)⟩
/-- row[j][e] of the script -/
theorem d_cell {xs : List V} {sa : Addr} {ss : List Int} {j y z : Int} {nj : Nat} (hs : σ[n]? = some (some (.ref ρ))) (hB : Bt ρ = some (.lst xs)) (hj : atI xs j = some (.ref sa)) (hS : SqL X.K Bt sa (ss.map V.int)) (he : Pe T X e σ Bt (.int y)) (hz : atI ss y = some z) (hN : X.N[n]? = some x := by rfl)
    (hv : Vis X.env.scope x := by first | exact Or.inl rfl | exact Or.inr (Or.inl rfl) | exact Or.inr (Or.inr rfl)) (h1 : (x == ("__debug__" : Str)) = false := by decide) (h2 : (x == ("__classdict__" : Str)) = false := by decide) (hp : PlainIx e := by exact fun _ _ => rfl) :
    Pe T X (.Subscript (.Subscript (.Name x p) (.Constant (.int j) nj p2) p3) e pos) σ Bt (.int z) := fun H1 e1 Q q =>
  PE.w (pe_ix ix_list (pe_ix ix_list (pe_var hN hv h1 h2) pe_int (fun _ _ => rfl)) pe_w hp) ⟨.ref ρ, hs, ρ, xs, j, .ref sa, rfl, rfl, .of (e1.lstAt hB), hj, he H1 e1 _ fun v B2 H2 g2 hv => ⟨sa, ss.map V.int, y, .int z, rfl, hv.intE, ex_l (e1.trans g2.h) hS, by
    unfold atI at hz ⊢
    rw [List.length_map]
    cases q' : ixN ss.length y with
    | none => rw [q'] at hz; cases hz
    | some m =>
      rw [q'] at hz
      show (ss.map V.int)[m]? = some (.int z)
      rw [List.getElem?_map]
      have hz' : ss[m]? = some z := hz
      rw [hz']
      rfl, q _ _ H2 (lim_go e1 g2.h) (.int z)⟩⟩
/-- len(row[j]) of the script -/
theorem d_lenS {xs : List V} {sa : Addr} {ss : List Int} {j : Int} {nj : Nat} (hm : X.mg "len" = none) (hs : σ[n]? = some (some (.ref ρ))) (hB : Bt ρ = some (.lst xs)) (hj : atI xs j = some (.ref sa)) (hS : SqL X.K Bt sa (ss.map V.int)) (hN : X.N[n]? = some x := by rfl)
    (hv : Vis X.env.scope x := by first | exact Or.inl rfl | exact Or.inr (Or.inl rfl) | exact Or.inr (Or.inr rfl)) (h1 : (x == ("__debug__" : Str)) = false := by decide) (h2 : (x == ("__classdict__" : Str)) = false := by decide)
    (hg : Gl X "len" := by rfl) (he : starEach [.Subscript (.Name x p) (.Constant (.int j) nj p2) p3] X.env = (false, eval (.Subscript (.Name x p) (.Constant (.int j) nj p2) p3) X.env) :: starEach [] X.env := by rfl) (hpl : (backTo pos (starEach [] X.env)).any (·.1) = false := by rfl) :
    Pe T X (.Call (.Name "len" p') [.Subscript (.Name x p) (.Constant (.int j) nj p2) p3] [] pos) σ Bt (.int ss.length) := fun H1 e1 Q q =>
  PE.w (pe_callB call_len_seq hg hm PySem.boot_len pa_w (by decide) (by decide) he hpl) (wa_cons (PE.w (pe_ix ix_list (pe_var hN hv h1 h2) pe_int (fun _ _ => rfl)) ⟨.ref ρ, hs, ρ, xs, j, .ref sa, rfl, rfl, .of (e1.lstAt hB), hj, wa_nil ⟨sa, ss.map V.int, rfl, .inl (ex_l e1 hS), by
    rw [List.length_map]
    exact q _ _ H1 (lim_go e1 e1.self) (.int _)⟩⟩) he)
theorem d_opC {op : Operator} {C : Int → Int → Prop} {g : Int → Int → Int} {i j : Int} (ho : OpR X (binaryOp op) (rI C fun i j => .int (g i j))) (ha : Pe T X a σ B (.int i)) (hb : Pe T X b σ B (.int j)) (hc : C i j) : Pe T X (.BinOp a op b pos) σ B (.int (g i j)) :=
  fun H1 e1 Q q => PE.w (pe_op ho pe_w pe_w) (ha H1 e1 _ fun x B2 H2 g2 hx => hb H2 (e1.trans g2.h) _ fun y B3 H3 g3 hy => ⟨i, j, hx.intE, hy.intE, hc, q _ _ H3 (lim_go e1 (g2.h.trans g3.h)) (.int _)⟩)
theorem d_intI {z : Int} (hm : X.mg "int" = none) (ha : Pe T X a σ B (.int z)) (hg : Gl X "int" := by rfl) (he : starEach [a] X.env = (false, eval a X.env) :: starEach [] X.env := by rfl) (hpl : (backTo pos (starEach [] X.env)).any (·.1) = false := by rfl) :
    Pe T X (.Call (.Name "int" p) [a] [] pos) σ B (.int z) :=
  d_callTy call_int1 hm (by decide +kernel) (a_cons ha a_nil he) (fun vs B1 H1 e1 tb hv Q q => by
    obtain ⟨v, rfl, hv'⟩ := hv.one
    exact .inl ⟨z, by rw [hv'.intE], q _ _ H1 (.refl e1 tb) (.int _)⟩) hg (he := he) (hpl := hpl)
/-- row[j] = e -/
theorem s_row {xs : List V} {j z : Int} {m nj : Nat} (u : Xt T Bt H) (h : Pe T X e σ Bt (.int z)) (hs : σ[n]? = some (some (.ref ρ))) (hB : Bt ρ = some (.lst xs)) (hj : ixN xs.length j = some m) (q : ∀ H2, Xt T H H2 → H2 ρ = some (.lst xs) → D.nx σ (upd H2 ρ (.lst (xs.set m (.int z))))) (hN : X.N[n]? = some x := by rfl)
    (hv : Vis X.env.scope x := by first | exact Or.inl rfl | exact Or.inr (Or.inl rfl) | exact Or.inr (Or.inr rfl)) (h1 : (x == ("__debug__" : Str)) = false := by decide) (h2 : (x == ("__classdict__" : Str)) = false := by decide)
    (hsw : swapsWithSole [.Subscript (.Name x p) (.Constant (.int j) nj p2) p3] e pos.line X.env = pure false := by rfl) (hw : swappedStores [.Subscript (.Name x p) (.Constant (.int j) nj p2) p3] e X.env = pure none := by rfl)
    (hn : (assignEach [.Subscript (.Name x p) (.Constant (.int j) nj p2) p3] X.env).map (·.2) = [assign (.Subscript (.Name x p) (.Constant (.int j) nj p2) p3) X.env] := by rfl) :
    WS X (.Assign [.Subscript (.Name x p) (.Constant (.int j) nj p2) p3] e pos) D σ H :=
  PS.w (ps_asg pe_w (pg_sub (pe_var hN hv h1 h2) pe_int set_list) hsw hw hn) (h H u _ fun v B2 H2 g hv => by
    have hH := g.h.lstAt (u.lstAt hB)
    refine ⟨.ref ρ, hs, ρ, xs, j, m, rfl, rfl, hH, hj, ?_⟩
    rw [hv.intE]
    exact q H2 g.h hH)
end
end DW

/-! _law_taken -/
namespace DW
open PySem PySem.Spec PyProof.Rows L2 RZ
/-- the row as it is: base, start, now -/
structure Rc (T : List (Addr × Str)) (K : PySem.W.Frag) (B H : Hp) (ρ sa : Addr) (ss : List Int) (Hc : Hp) (pos seed rest : Int) : Prop where
  rw0 : Rw T K B H ρ (lim B H H) H
  h : Xt T (hid ρ H) Hc
  u : Xt T (lim B H H) Hc
  at_ : Hc ρ = some (.lst [.ref sa, .int pos, .int seed, .int rest])
  sq : SqL K (lim B H H) sa (ss.map V.int)
  p0 : 0 ≤ pos
  s0 : 0 ≤ seed
  s1 : seed < 2147483648
  r0 : 0 ≤ rest
section
variable {T : List (Addr × Str)} {K : PySem.W.Frag} {B H Hc H2 : Hp} {ρ sa : Addr} {ss : List Int} {pos seed rest : Int}
/-- the base for reading -/
noncomputable def Rc.bt (_ : Rc T K B H ρ sa ss Hc pos seed rest) : Hp := upd (lim B H H) ρ (.lst [.ref sa, .int pos, .int seed, .int rest])
theorem Rc.ut (c : Rc T K B H ρ sa ss Hc pos seed rest) : Xt T c.bt Hc := c.u.tell c.at_
theorem Rc.sqt (c : Rc T K B H ρ sa ss Hc pos seed rest) : SqL K c.bt sa (ss.map V.int) := ex_l (c.u.telling c.rw0.go.b.tabs c.rw0.row.nB c.at_ lst_nt) c.sq
theorem Rc.btAt (c : Rc T K B H ρ sa ss Hc pos seed rest) : c.bt ρ = some (.lst [.ref sa, .int pos, .int seed, .int rest]) := upd_same
theorem Rc.ext (c : Rc T K B H ρ sa ss Hc pos seed rest) (e : Xt T Hc H2) : Rc T K B H ρ sa ss H2 pos seed rest := ⟨c.rw0, c.h.trans e, c.u.trans e, e.lstAt c.at_, c.sq, c.p0, c.s0, c.s1, c.r0⟩
theorem Rc.put (c : Rc T K B H ρ sa ss Hc pos seed rest) {p s r : Int} (p0 : 0 ≤ p) (s0 : 0 ≤ s) (s1 : s < 2147483648) (r0 : 0 ≤ r) : Rc T K B H ρ sa ss (upd Hc ρ (.lst [.ref sa, .int p, .int s, .int r])) p s r :=
  ⟨c.rw0, c.h.mutL fr_hid c.at_, c.u.mutL c.rw0.row.nB c.at_, upd_same, c.sq, p0, s0, s1, r0⟩
theorem Rc.rw (c : Rc T K B H ρ sa ss Hc pos seed rest) : Rw T K B H ρ (lim B H H) Hc := ⟨⟨c.rw0.go.b, c.h, c.u, c.rw0.go.prm⟩, ⟨c.rw0.row.nB, sa, ss, pos, seed, rest, c.at_, c.sq, c.p0, c.s0, c.s1, c.r0⟩⟩
end
section
variable {T : List (Addr × Str)} {P : Program} {w : World} {K : PySem.W.Frag} {mg : Str → Option Value} {base : Heap} {f : Addr} {fd : FuncData}
abbrev s_taken : Stmt := topS 39
abbrev Pre_taken : List PyData → Prop := fun ds => ∃ m : Int, ds = [.int m] ∧ 1 ≤ m ∧ m < 1000
abbrev R_taken : List PyData → PyData → Prop := fun ds d => ∃ m x : Int, ds = [.int m] ∧ d = .int x ∧ 0 ≤ x ∧ x < m
theorem sc_taken : FnScope ["_law_row", "_law_many", "_law_found", "_law_cell"] ["_law_row", "_law_many"] (defScope s_taken) := ⟨rfl, rfl, rfl, by decide +kernel, rfl, by decide +kernel, by decide +kernel⟩
theorem ok_taken (A : At K mg "_law_taken" s_taken f fd) (M : Mg mg) : RowOk T P w K mg base "_law_taken" 1 Pre_taken R_taken := by
  refine row_ok A.F sc_taken A.m (A.F.binds fun _ _ _ _ _ _ us hl => match us, hl with | [_, _], _ => rfl) (fun ds h => by obtain ⟨_, rfl, _⟩ := h; rfl) fun cdv A' outer s H E B ρ vs ds Q hr rw0 hv hP q => ?_
  obtain ⟨m, rfl, m1, m2⟩ := hP
  obtain ⟨v1, rfl, h1⟩ := hv.one
  obtain rfl := h1.intE
  obtain ⟨sa, ss, p, sd, rs, r1, r2, p0, s0, s1, r0⟩ := rw0.row.ex
  have nd := sc_taken.nd
  have mp : 0 < m := by omega
  have c0 : Rc T K B H ρ sa ss H p sd rs := ⟨rw0, rw0.go.h, rw0.go.u, r1, r2, p0, s0, s1, r0⟩
  have fin : ∀ {Hx H' : Hp} {p sd rs : Int} {v : V} {x : Int}, Rc T K B H ρ sa ss Hx p sd rs → Xt T Hx H' → v = .int (x % m) → Q v H' := fun {Hx H' p sd rs v x} c e ev => by
    subst ev
    exact q _ (.int (x % m)) _ _ ⟨m, _, rfl, rfl, Int.emod_nonneg _ (by omega), Int.emod_lt_of_pos _ mp⟩ ((c.ext e).rw) (.int _)
  refine b_cons (s_if c0.ut (t_gt (d_row (j := 3) (n := 0) rfl c0.btAt rfl) d_int) (fun ht H1 e1 => ?_) fun hf H1 e1 => ?_)
  · have c1 := c0.ext e1
    refine b_cons (s_set (i := 2) nd c1.ut (d_opC op_mod (d_intI M.int (d_row (j := 3) (n := 0) rfl c1.btAt rfl)) (d_var (n := 1) rfl (.int m)) mp) fun v2 B2 H2 g2 hv2 => ?_)
    obtain rfl := hv2.intE
    have c2 := c1.ext g2.h
    refine b_cons (s_row (n := 0) (j := 3) (m := 3) c2.ut (d_opC op_fdiv (d_row (j := 3) (n := 0) rfl c2.btAt rfl) (d_var (n := 1) rfl (.int m)) ⟨mp, by omega⟩) rfl c2.btAt (by rfl) fun H3 e3 a3 => ?_)
    have c3 := (c2.ext e3).put (p := p) (s := sd) (r := rs / m) p0 s0 s1 (Int.ediv_nonneg r0 (by omega))
    exact b_one (s_ret c3.ut (d_var (n := 2) rfl (.int (rs % m))) fun v B4 H4 g4 hv4 => fin c3 g4.h hv4.intE)
  · have c1 := c0.ext e1
    refine b_nil (b_cons (s_row (n := 0) (j := 1) (m := 1) c1.ut (d_add (d_row (j := 1) (n := 0) rfl c1.btAt rfl) d_int) rfl c1.btAt (by rfl) fun H2 e2 a2 => ?_))
    have c2 := (c1.ext e2).put (p := p + 1) (s := sd) (r := rs) (by omega) s0 s1 r0
    refine b_cons (s_if c2.ut (t_gt (d_row (j := 1) (n := 0) rfl c2.btAt rfl) (d_lenS (j := 0) (n := 0) M.len rfl c2.btAt rfl c2.sqt)) (fun ht H3 e3 => ?_) fun hf H3 e3 => ?_)
    · have c3 := c2.ext e3
      refine b_cons (s_row (n := 0) (j := 2) (m := 2) c3.ut (d_opC op_mod (d_intI M.int (d_add (d_opC op_mul (d_row (j := 2) (n := 0) rfl c3.btAt rfl) d_int (.inl ⟨by omega, by omega⟩)) d_int)) d_int (by decide)) rfl c3.btAt (by rfl) fun H4 e4 a4 => ?_)
      have c4 := (c3.ext e4).put (p := p + 1) (s := (sd * 48271 + 11) % 2147483647) (r := rs) (by omega) (Int.emod_nonneg _ (by decide)) (Int.lt_trans (Int.emod_lt_of_pos _ (by decide)) (by decide)) r0
      exact b_one (s_ret c4.ut (d_opC op_mod (d_intI M.int (d_opC op_fdiv (d_row (j := 2) (n := 0) rfl c4.btAt rfl) d_int ⟨by decide, by decide⟩)) (d_var (n := 1) rfl (.int m)) mp) fun v B5 H5 g5 hv5 => fin c4 g5.h hv5.intE)
    · have c3 := c2.ext e3
      have hp : p < (ss.length : Int) := by
        have := of_decide_eq_false hf
        omega
      obtain ⟨j, rfl⟩ : ∃ j : Nat, p = j := ⟨p.toNat, by omega⟩
      have hj : j < ss.length := by omega
      refine b_nil (b_cons (s_set (i := 3) nd c3.ut (d_cell (j := 0) (n := 0) (z := ss[j]) rfl c3.btAt rfl c3.sqt (d_sub (d_row (j := 1) (n := 0) rfl c3.btAt rfl) d_int) ?_) fun v4 B4 H4 g4 hv4 => ?_))
      · rw [show ((j : Nat) : Int) + 1 - 1 = (j : Int) by omega]
        exact atI_nat (List.getElem?_eq_getElem hj)
      · generalize ss[j] = z at hv4
        obtain rfl := hv4.intE
        have c4 := c3.ext g4.h
        refine b_cons (s_row (n := 0) (j := 2) (m := 2) c4.ut (d_opC op_mod (d_intI M.int (d_add (d_add (d_opC op_mul (d_row (j := 2) (n := 0) rfl c4.btAt rfl) d_int (.inl ⟨by omega, by omega⟩)) (d_var (n := 3) rfl (.int z))) d_int)) d_int (by decide)) rfl c4.btAt (by rfl) fun H5 e5 a5 => ?_)
        have c5 := (c4.ext e5).put (p := (j : Int) + 1) (s := (sd * 48271 + z + 11) % 2147483647) (r := rs) (by omega) (Int.emod_nonneg _ (by decide)) (Int.lt_trans (Int.emod_lt_of_pos _ (by decide)) (by decide)) r0
        refine b_cons (s_if c5.ut (t_ge (d_var (n := 3) rfl (.int z)) (d_opC op_pow d_int d_int ⟨by decide, by decide, by decide⟩)) (fun ht H6 e6 => ?_) fun hf H6 e6 => ?_)
        · have c6 := c5.ext e6
          have z0 : 0 ≤ z := by
            have h := of_decide_eq_true ht
            have h' : (10 : Int) ^ (18 : Int).toNat = 1000000000000000000 := by decide
            rw [h'] at h
            omega
          refine b_one (s_row (n := 0) (j := 3) (m := 3) c6.ut (d_opC op_fdiv (d_var (n := 3) rfl (.int z)) (d_var (n := 1) rfl (.int m)) ⟨mp, by omega⟩) rfl c6.btAt (by rfl) fun H7 e7 a7 => ?_)
          have c7 := (c6.ext e7).put (p := (j : Int) + 1) (s := (sd * 48271 + z + 11) % 2147483647) (r := z / m) (by omega) (Int.emod_nonneg _ (by decide)) (Int.lt_trans (Int.emod_lt_of_pos _ (by decide)) (by decide)) (Int.ediv_nonneg z0 (by omega))
          exact b_one (s_ret c7.ut (d_opC op_mod (d_intI M.int (d_var (n := 3) rfl (.int z))) (d_var (n := 1) rfl (.int m)) mp) fun v B8 H8 g8 hv8 => fin c7 g8.h hv8.intE)
        · have c6 := c5.ext e6
          exact b_nil (b_one (s_ret c6.ut (d_opC op_mod (d_intI M.int (d_var (n := 3) rfl (.int z))) (d_var (n := 1) rfl (.int m)) mp) fun v B8 H8 g8 hv8 => fin c6 g8.h hv8.intE))
end
end DW

/-! expressions that change the row -/
namespace DW
open PySem PySem.Spec PyProof.Rows L2 RZ
def Pr (T : List (Addr × Str)) (X : Cx) (e : Expr) (σ : L2.St) (B : Hp) (ρ : Addr) (Φ : PyData → Prop) : Prop := ∀ H1, Xt T B H1 → RowAt X.K B H1 ρ → ∀ Q : VK, (∀ v d B2 H2, Φ d → Rw T X.K B H1 ρ B2 H2 → Da B2 v d → Q v H2) → WE X e σ H1 Q
def PrTs (T : List (Addr × Str)) (X : Cx) (es : List Expr) (σ : L2.St) (B : Hp) (ρ : Addr) (Θ : Bool → Prop) : Prop := ∀ H1, Xt T B H1 → RowAt X.K B H1 ρ → ∀ Q : Bool → Hp → Prop, (∀ b B2 H2, Θ b → Rw T X.K B H1 ρ B2 H2 → Q b H2) → WTs X es σ H1 Q
section
variable {T : List (Addr × Str)} {X : Cx} {σ : L2.St} {B H : Hp} {a b c e tg iter elt : Expr} {es : List Expr} {rest body : List Stmt} {D : Ends} {d : PyData} {ds : List PyData} {pos p p' p2 p3 px py apos : Pos} {k n i j : Nat} {ρ : Addr} {x y : Str} {Φ : PyData → Prop}
theorem Pe.pr (h : Pe T X e σ B d) (hd : Φ d) : Pr T X e σ B ρ Φ := fun H1 e1 r Q q => h H1 e1 Q fun v B2 H2 g hv => q v d B2 H2 hd (.of g r) hv
theorem r_call {Pre : List PyData → Prop} {R : List PyData → PyData → Prop} (F : RowOk T X.prog X.w X.K X.mg X.base x n Pre R) (hr : Room k X.A) (hs : σ[i]? = some (some (.ref ρ))) (ha : Pa T X es σ B ds) (hP : Pre ds) (hk : n ≤ k := by decide) (hg : Gl X x := by rfl)
    (hN : X.N[i]? = some y := by rfl) (hv : Vis X.env.scope y := by first | exact Or.inl rfl | exact Or.inr (Or.inl rfl) | exact Or.inr (Or.inr rfl)) (h1 : (y == ("__debug__" : Str)) = false := by decide) (h2 : (y == ("__classdict__" : Str)) = false := by decide)
    (hdb : (x == ("__debug__" : Str)) = false := by decide) (he : starEach (.Name y py :: es) X.env = (false, eval (.Name y py) X.env) :: starEach es X.env := by rfl) (hpl : (backTo pos (starEach es X.env)).any (·.1) = false := by rfl) :
    Pr T X (.Call (.Name x p) (.Name y py :: es) [] pos) σ B ρ (R ds) := fun H1 e1 r Q q => by
  obtain ⟨f, fd, ps, F, hm, kp, hb⟩ := F.ok
  refine PE.w (pe_call F (hr.mono hk) hg hm kp hb .nil pass0 pa_w hdb he hpl) (wa_cons (PE.w (pe_var hN hv h1 h2) ⟨.ref ρ, hs, ha H1 e1 _ fun vs B2 H2 g2 hv => ⟨B2, ρ, vs, ds, ?_, g2.u, r.on g2, hv, hP, fun v d B' H' hR rw hd => q v d B' H' hR ((Rw.of g2 r).then rw) hd⟩⟩) he)
  rw [List.append_nil]
/-- an int of a pure left and a right that changes the row -/
theorem r_op {op : Operator} {g : Int → Int → Int} {z : Int} {Ψ : Int → Prop} (ho : OpR X (binaryOp op) (rI0 fun i j => .int (g i j))) (ha : Pe T X a σ B (.int z)) (hb : Pr T X b σ B ρ fun d => ∃ j, d = .int j ∧ Ψ j) : Pr T X (.BinOp a op b pos) σ B ρ (fun d => ∃ j, d = .int (g z j) ∧ Ψ j) := fun H1 e1 r Q q =>
  PE.w (pe_op ho pe_w pe_w) (ha H1 e1 _ fun v B2 H2 g2 hv => (fun K1 => (hb H2 (e1.trans g2.h) (r.ext g2.h) _ K1)) fun v' d' B3 H3 hΦ rw hv' => by
    obtain ⟨j, rfl, hj⟩ := hΦ
    exact ⟨z, j, hv.intE, hv'.intE, q _ _ B3 H3 ⟨j, rfl, hj⟩ ((Rw.of ((lim_go e1 g2.h)) r |> fun _ => ⟨(⟨rw.go.b, ⟨fun b o q n => rw.go.h.keep b o (by
      obtain ⟨q1, q2⟩ := hid_some q
      rw [hid_ne q1]
      exact g2.h.keep b o q2 n) n, rw.go.h.tabs⟩, rw.go.u, fun p z1 z2 => rw.go.prm p z1 (by
      obtain ⟨q1, q2⟩ := hid_mut z2
      rcases g2.h.mutAt q2 with ⟨ys, q3⟩ | ⟨ys, q3⟩
      · exact .inl ⟨ys, by rw [hid_ne q1]; exact q3⟩
      · exact .inr ⟨ys, by rw [hid_ne q1]; exact q3⟩)⟩ : Go T B (hid ρ H1) B3 H3), rw.row⟩)) (.int _)⟩)
theorem r_opL {op : Operator} {g : Int → Int → Int} {z : Int} {Ψ : Int → Prop} (ho : OpR X (binaryOp op) (rI0 fun i j => .int (g i j))) (ha : Pr T X a σ B ρ fun d => ∃ j, d = .int j ∧ Ψ j) (hb : Pe T X b σ B (.int z)) : Pr T X (.BinOp a op b pos) σ B ρ (fun d => ∃ j, d = .int (g j z) ∧ Ψ j) := fun H1 e1 r Q q =>
  PE.w (pe_op ho pe_w pe_w) (ha H1 e1 r _ fun v d B2 H2 hΦ rw hv => by
    obtain ⟨j, rfl, hj⟩ := hΦ
    exact hb.mono rw.go.b H2 rw.go.u _ fun v' B3 H3 g3 hv' => ⟨j, z, hv.intE, hv'.intE, q _ _ B3 H3 ⟨j, rfl, hj⟩ (rw.on g3) (.int _)⟩)
theorem r_ifExp {t : Bool} (h : Pt T X c σ B t) (h1 : t = true → Pr T X a σ B ρ Φ) (h2 : t = false → Pr T X b σ B ρ Φ) : Pr T X (.IfExp c a b pos) σ B ρ Φ := fun H1 e1 r Q q =>
  PE.w (pe_ifExp pt_w pe_w pe_w) (h H1 e1 _ fun H2 e2 => by
    have on : ∀ v d B3 H3, Φ d → Rw T X.K B H2 ρ B3 H3 → Da B3 v d → Q v H3 := fun v d B3 H3 hd rw hv => q v d B3 H3 hd ((Rw.of ((Go.refl (B := lim B H1 H1) (lim_go e1 e1.self).u (lim_go e1 e1.self).b.tabs)) (r.on (lim_go e1 e1.self)) |> fun _ => ⟨⟨rw.go.b, ⟨fun b o q n => rw.go.h.keep b o (by
      obtain ⟨q1, q2⟩ := hid_some q
      rw [hid_ne q1]
      exact e2.keep b o q2 n) n, rw.go.h.tabs⟩, rw.go.u, fun p z1 z2 => rw.go.prm p z1 (by
      obtain ⟨q1, q2⟩ := hid_mut z2
      rcases e2.mutAt q2 with ⟨ys, q3⟩ | ⟨ys, q3⟩
      · exact .inl ⟨ys, by rw [hid_ne q1]; exact q3⟩
      · exact .inr ⟨ys, by rw [hid_ne q1]; exact q3⟩)⟩, rw.row⟩)) hv
    cases t with
    | true => exact iteT (h1 rfl H2 (e1.trans e2) (r.ext e2) _ on)
    | false => exact iteF (h2 rfl H2 (e1.trans e2) (r.ext e2) _ on))
theorem Pr.imp {Ψ : PyData → Prop} (h : Pr T X e σ B ρ Φ) (q : ∀ d, Φ d → Ψ d) : Pr T X e σ B ρ Ψ := fun H1 e1 r Q k => h H1 e1 r Q fun v d B2 H2 hd => k v d B2 H2 (q d hd)
/-- x = e -/
theorem s_setR (hN : X.N.Nodup) (u : Xt T B H) (r : RowAt X.K B H ρ) (h : Pr T X e σ B ρ Φ) (q : ∀ v d B2 H2, Φ d → Rw T X.K B H ρ B2 H2 → Da B2 v d → D.nx (σ.set i (some v)) H2) (hi : X.N[i]? = some x := by rfl) (hx : Loc X.env.scope x := by first | exact Or.inl rfl | exact Or.inr rfl)
    (hs : swapsWith e (some (.Name x p')) pos.line X.env = pure false := by rfl) (hf : X.fn x = true ∨ X.env.scope.names.lookup x = some .local := by first | exact .inl rfl | exact .inr rfl) : WS X (.Assign [.Name x p'] e pos) D σ H :=
  PS.w (ps_set hN hi hx pe_w hs hf) (h H u r _ fun v d B2 H2 hd g hv => q v d B2 H2 hd g hv)
/-- tuple(a list) -/
theorem r_tuple {Ψ : List PyData → Prop} (hm : X.mg "tuple" = none) (h : Pr T X a σ B ρ fun d => ∃ ds, d = .list ds ∧ Ψ ds) (hg : Gl X "tuple" := by rfl) (he : starEach [a] X.env = (false, eval a X.env) :: starEach [] X.env := by rfl) (hpl : (backTo pos (starEach [] X.env)).any (·.1) = false := by rfl) :
    Pr T X (.Call (.Name "tuple" p) [a] [] pos) σ B ρ (fun d => ∃ ds, d = .tuple ds ∧ Ψ ds) := fun H1 e1 r Q q =>
  PE.w (pe_callTy call_tuple_of hg hm (by decide +kernel) pa_w (by decide) (by decide) he hpl) (wa_cons (h H1 e1 r _ fun v d B2 H2 hd rw hv => wa_nil (by
    obtain ⟨ds, rfl, hds⟩ := hd
    obtain ⟨l, xs, rfl, hp, hxs⟩ := hv.lstE
    refine ⟨l, xs, rfl, .inl ⟨.of (rw.go.u.lstAt hp), fun t ht => q _ _ _ _ ⟨ds, rfl, hds⟩ (rw.on ((Go.refl rw.go.u rw.go.b.tabs).new ht)) (.tup upd_same (hxs.mono (.newB rw.go.u rw.go.b.tabs ht)))⟩⟩)) he)
/-- a comprehension whose test or element changes the row -/
theorem lcR {β : Type} {xs : List β} {enc : β → PyData} {scope : Scope} {ifs : List Expr} (Θ : β → Bool → Prop) (Ψ : β → PyData → Prop) (hs : Src T X (.Name x px) iter σ B (xs.map enc)) (hz : xs.length ≤ 100000) (ok : BlkOk X.N X.env.scope scope [(x, j)]) (hN : X.N.Nodup)
    (ht : ∀ y, y ∈ xs → ∀ v B1, Xt T B B1 → Da B1 v (enc y) → ∀ s H0 C cl fp, PrTs T (X.blk s H0 scope (compEnvC scope cl C X.env) fp) ifs (σ.set j (some v)) B1 ρ (Θ y))
    (he : ∀ y, y ∈ xs → Θ y true → ∀ v B1, Xt T B B1 → Da B1 v (enc y) → ∀ s H0 C cl fp, Pr T (X.blk s H0 scope (compEnvC scope cl C X.env) fp) elt (σ.set j (some v)) B1 ρ (Ψ y))
    (hl : ∀ s H0 C cl fp, Loc (X.blk s H0 scope (compEnvC scope cl C X.env) fp).env.scope x := by intros; first | exact Or.inl rfl | exact Or.inr rfl)
    (hfn : ∀ s H0 C cl fp, (X.blk s H0 scope (compEnvC scope cl C X.env) fp).fn x = true ∨ (X.blk s H0 scope (compEnvC scope cl C X.env) fp).env.scope.names.lookup x = some .local := by intros; first | exact .inl rfl | exact .inr rfl)
    (hc : X.calm = true := by rfl) (hf : ∀ x, foldedSetIterable iter X.env x = pure x := by intro _; rfl) :
    Pr T X (.ListComp elt [⟨.Name x px, iter, ifs, 0⟩] scope pos) σ B ρ (fun d => ∃ ds, d = .list ds ∧ ∃ zs : List (β × PyData), ds = zs.map (·.2) ∧ (zs.map (·.1)).Sublist xs ∧ (∀ z ∈ zs, Ψ z.1 z.2) ∧ ((∀ y b, Θ y b → b = true) → zs.map (·.1) = xs)) := fun H1 e1 r Q q => by
  refine PE.w (pe_lc hc hN pi_w ok pg_gB pts_tB pe_eB hf) (hs H1 e1 _ fun J B2 H2 G Y g2 w hG hY D hD => ?_)
  rw [List.length_map] at w hY
  have r2 := r.on g2
  have nD : D ≠ ρ := by
    rintro rfl
    obtain ⟨sa, ss, p, sd, t, h1, _⟩ := r2.ex
    rw [hD] at h1
    cases h1
  have fD : Fr0 (hid ρ H2) D := .of (by rw [hid_ne nD]; exact hD)
  refine lc_it w (g := gB X scope (.Name x px)) (tt := tB' X scope ifs) (te := eB X scope elt) (vs := [(x, j)].map (·.2)) (σ := σ) (Qd := fun H => Q (.ref D) H) (fun i H' => ∃ B' acc zs, Rw T X.K B2 H2 ρ B' H' ∧ Fr0 B' D ∧ H' D = some (.lst acc) ∧ DaAll B' acc (zs.map (fun z : β × PyData => z.2)) ∧ (zs.map (·.1)).Sublist (xs.take i) ∧ (∀ z ∈ zs, Ψ z.1 z.2) ∧ ((∀ y b, Θ y b → b = true) → zs.map (·.1) = xs.take i))
    ⟨B2, [], [], ⟨(g2.self.mine hD).hid, r2.ext (.new g2.u.tabs hD)⟩, g2.u.free hD, upd_same, .nil, .slnil, fun z hz => (by cases hz), fun _ => rfl⟩ (fun i H' _ ⟨B', acc, zs, p, _⟩ => hG H' (p.go.b.trans p.go.u)) (fun i v H3 H4 hi p y => ?_) fun H3 p => ?_
  · obtain ⟨B', acc, zs, p1, p0, p2, p3, p4, p5, p6⟩ := p
    obtain ⟨B4, d, g4, hd, hv⟩ := hY i B' H3 v H4 hi p1.go.b p1.go.u y
    rw [List.getElem?_map, List.getElem?_eq_getElem hi] at hd
    have ed : enc xs[i] = d := Option.some.inj hd
    subst ed
    have e14 : Xt T B B4 := (g2.b.trans p1.go.b).trans g4.b
    have n4 : Fr0 B4 D := g4.pr D _ p0 p2
    have tk : xs.take (i + 1) = xs.take i ++ [xs[i]] := take_snoc (List.getElem?_eq_getElem hi)
    have p4r := p1.on g4
    intro s H0 C cl fp
    refine g_name (i := j) ?_ hN (ok.ix (x, j) (by simp)) (hl s H0 C cl fp) (hfn s H0 C cl fp)
    have e2 : (wipe σ [j]).set j (some v) = σ.set j (some v) := by
      show (σ.set j none).set j (some v) = _
      rw [List.set_set]
    show _ ∧ _
    have e3 : (wipe σ (([(x, j)] : List (Str × Nat)).map (·.2))).set j (some v) = σ.set j (some v) := e2
    rw [e3]
    refine ⟨wipe_set (by simp), fun s H0 C cl fp => ht xs[i] (List.getElem_mem hi) v B4 e14 hv s H0 C cl fp H4 g4.u p4r.row _ fun b B5 H5 hb rw5 => ?_⟩
    have d4 : hid ρ H4 D = some (.lst acc) := by rw [hid_ne nD]; exact g4.h.lstAt p2
    have n5 : Fr0 B5 D := rw5.go.pr D _ n4 d4
    have d5 : H5 D = some (.lst acc) := rw5.go.h.lstAt d4
    cases b with
    | false =>
      refine iteF ⟨B5, acc, zs, p4r.then rw5, n5, d5, p3.mono (g4.b.trans rw5.go.b), ?_, p5, fun h => ?_⟩
      · rw [tk]
        exact p4.trans (List.sublist_append_left _ _)
      · exact absurd (h _ _ hb) Bool.false_ne_true
    | true =>
      refine iteT fun s H0 C cl fp => he xs[i] (List.getElem_mem hi) hb v B5 (e14.trans rw5.go.b) (hv.mono rw5.go.b) s H0 C cl fp H5 rw5.go.u rw5.row _ fun v' d' B6 H6 hΨ rw6 hv6 => ?_
      have d5' : hid ρ H5 D = some (.lst acc) := by rw [hid_ne nD]; exact d5
      have n6 : Fr0 B6 D := rw6.go.pr D _ n5 d5'
      have d6 : H6 D = some (.lst acc) := rw6.go.h.lstAt d5'
      have all := (p4r.then rw5).then rw6
      have hlen : acc.length ≤ i := by
        have h1 := p3.length
        have h2 := p4.length_le
        rw [List.length_map] at h1 h2
        rw [List.length_take] at h2
        omega
      refine ⟨acc, d6, Nat.lt_of_lt_of_le (by omega : acc.length < 100001) (by decide), B6, acc ++ [v'], zs ++ [(xs[i], d')], ⟨all.go.mutL fD n6 d6, ?_⟩, n6, upd_same, ?_, ?_, ?_, fun h => ?_⟩
      · obtain ⟨sa, ss, pp, sd, t, h1, h2⟩ := all.row.ex
        exact ⟨all.row.nB, sa, ss, pp, sd, t, by rw [upd_ne nD.symm]; exact h1, h2⟩
      · rw [List.map_append]
        exact (p3.mono ((g4.b.trans rw5.go.b).trans rw6.go.b)).append (.cons hv6 .nil)
      · rw [tk, List.map_append]
        exact p4.append (.refl _)
      · intro z hz
        obtain hz | hz := List.mem_append.mp hz
        · exact p5 z hz
        · (rw [List.mem_singleton.mp hz])
          exact hΨ
      · rw [tk, List.map_append, p6 h]
        rfl
  · obtain ⟨B', acc, zs, p1, p0, p2, p3, p4, p5, p6⟩ := p
    rw [List.take_length] at p4 p6
    have nb := p1.go.u.telling p1.go.b.tabs p0 p2 lst_nt
    have gt := p1.go.tell fD nb p2
    have rt : RowAt X.K (upd B' D (.lst acc)) H3 ρ := by
      obtain ⟨sa, ss, pp, sd, t, h1, h2, h3⟩ := p1.row.ex
      exact ⟨p1.row.nB.upd_ne nD.symm, sa, ss, pp, sd, t, h1, ex_l nb h2, h3⟩
    exact q _ _ _ _ ⟨_, rfl, zs, rfl, p4, p5, p6⟩ ((Rw.of g2 r).then ⟨gt, rt⟩) (.lst upd_same (p3.mono nb))
end
end DW

/-! _law_lot -/
namespace DW
open PySem PySem.Spec PyProof.Rows L2 RZ
section
variable {T : List (Addr × Str)} {X : Cx} {σ : L2.St} {B H : Hp} {a b c e : Expr} {D : Ends} {pos : Pos} {ρ : Addr} {Φ : PyData → Prop}
theorem rts_eq {z : Int} {Ψ : Int → Prop} (h : Pr T X a σ B ρ (fun d => ∃ j, d = .int j ∧ Ψ j)) (hb : Pe T X b σ B (.int z)) : PrTs T X [.Compare a [.Eq] [b] pos] σ B ρ (fun _ => True) := fun H1 e1 r Q q =>
  PTs.w (pts_one pt_w) (PT.w (pt_cmpR op_eqI pe_w pe_w (nomark _)) (h H1 e1 r _ fun v d B2 H2 hd rw hv => by
    obtain ⟨j, rfl, _⟩ := hd
    exact hb.mono rw.go.b H2 rw.go.u _ fun v' B3 H3 g3 hv' => ⟨j, z, hv.intE, hv'.intE, _, rfl, q _ B3 H3 trivial (rw.on g3)⟩))
theorem r_tup1 {n : Nat} (h : Pr T X a σ B ρ Φ) (hs : starEach [a] X.env = (false, eval a X.env) :: starEach [] X.env := by rfl) : Pr T X (.Tuple [a] n pos) σ B ρ (fun d => ∃ d1, d = .tuple [d1] ∧ Φ d1) := fun H1 e1 r Q q =>
  PE.w (pe_tup pa_w) (wa_cons (h H1 e1 r _ fun v d B2 H2 hd rw hv => wa_nil ⟨by show 1 ≤ sizeLine; decide, fun t ht => q _ _ _ _ ⟨d, rfl, hd⟩ (rw.on ((Go.refl rw.go.u rw.go.b.tabs).new ht)) (.tup upd_same (.cons (hv.mono (.newB rw.go.u rw.go.b.tabs ht)) .nil))⟩) hs)
theorem s_retR (u : Xt T B H) (r : RowAt X.K B H ρ) (h : Pr T X e σ B ρ Φ) (q : ∀ v d B2 H2, Φ d → Rw T X.K B H ρ B2 H2 → Da B2 v d → D.rt v H2) : WS X (.Return (some e) pos) D σ H :=
  PS.w (ps_ret pe_w) (h H u r _ fun v d B2 H2 hd g hv => q v d B2 H2 hd g hv)
end
section
variable {T : List (Addr × Str)} {P : Program} {w : World} {K : PySem.W.Frag} {mg : Str → Option Value} {base : Heap} {f : Addr} {fd : FuncData}
abbrev s_llot : Stmt := topS 49
abbrev Pre_llot : List PyData → Prop := fun ds => ∃ n : Int, ds = [.int n] ∧ 1 ≤ n ∧ n ≤ 8
abbrev R_llot : List PyData → PyData → Prop := fun ds d => ∃ (n : Int) (lot : List Int), ds = [.int n] ∧ d = dT lot ∧ lot ≠ [] ∧ Up lot ∧ ∀ x ∈ lot, 0 ≤ x ∧ x < n
theorem sc_llot : FnScope ["_law_row", "_law_many", "_law_found", "_law_person"] ["_law_row", "_law_many"] (defScope s_llot) := ⟨rfl, rfl, rfl, by decide +kernel, rfl, by decide +kernel, by decide +kernel⟩
theorem ok_llot (A : At K mg "_law_lot" s_llot f fd) (M : Mg mg) (DT : RowOk T P w K mg base "_law_taken" 1 Pre_taken R_taken) : RowOk T P w K mg base "_law_lot" 2 Pre_llot R_llot := by
  refine row_ok A.F sc_llot A.m (A.F.binds fun _ _ _ _ _ _ us hl => match us, hl with | [_, _], _ => rfl) (fun ds h => by obtain ⟨_, rfl, _⟩ := h; rfl) fun cdv A' outer s H E B ρ vs ds Q hr rw0 hv hP q => ?_
  obtain ⟨n, rfl, n1, n8⟩ := hP
  obtain ⟨v1, rfl, h1⟩ := hv.one
  obtain rfl := h1.intE
  have nd := sc_llot.nd
  refine b_cons (s_setR (i := 2) (ρ := ρ) nd rw0.go.u rw0.row (r_tuple M.tuple (lcR (j := 3) (xs := irange n) (enc := PyData.int) (fun _ _ => True) (fun y d => d = .int y) (src_range M.range (d_var (n := 1) rfl (.int n)) (by omega) (by omega)) (by rw [irange_len]; omega) (blkOk_by (by kernel_rfl)) nd
    (fun y hy v B1 x1 hv1 s H0 C cl fp => rts_eq ((r_call DT (k := 1) hr (i := 0) rfl (a_cons d_int a_nil) ⟨2, rfl, by decide, by decide⟩).imp (Ψ := fun d => ∃ j, d = .int j ∧ True) fun d hd => by
      obtain ⟨m, x, _, e, _⟩ := hd
      exact ⟨x, e, trivial⟩) d_int)
    fun y hy _ v B1 x1 hv1 s H0 C cl fp => (d_var (n := 3) rfl hv1).pr rfl)) fun v2 d B2 H2 hd rw2 hv2 => ?_)
  obtain ⟨ds, rfl, zs, rfl, z1, z2, _⟩ := hd
  generalize hL : zs.map (·.1) = L at z1
  have eL : zs.map (·.2) = L.map PyData.int := by
    rw [← hL, List.map_map]
    exact List.map_congr_left fun z hz => z2 z hz
  rw [eL] at hv2
  have uL : Up L := (irange_up n).sublist z1
  have bL : ∀ x ∈ L, 0 ≤ x ∧ x < n := fun x hx => mem_irange.mp (z1.subset hx)
  refine b_one (s_retR (ρ := ρ) rw2.go.u rw2.row (Φ := fun d => ∃ lot, d = dT lot ∧ lot ≠ [] ∧ Up lot ∧ ∀ x ∈ lot, 0 ≤ x ∧ x < n) (r_ifExp (t := !decide (L = [])) (Pt.is (t_neD hr (d_var (n := 2) rfl hv2) (d_tup a_nil (by decide)) (shaped_dT L) (shaped_dT [])) ?_) (fun ht => (d_var (n := 2) rfl hv2).pr ⟨L, rfl, by simpa using ht, uL, bL⟩) fun hf =>
    (r_tup1 (r_call DT hr (i := 0) rfl (a_cons (d_var (n := 1) rfl (.int n)) a_nil) ⟨n, rfl, n1, by omega⟩)).imp fun d hd => ?_) fun v d B3 H3 hd rw3 hv3 => ?_)
  · show (!PyData.eqv (dT L) (dT [])) = _
    rw [eqv_dT]
  · obtain ⟨d1, rfl, m, x, e1, rfl, x0, x1⟩ := hd
    cases e1
    refine ⟨[x], rfl, by simp, List.pairwise_singleton _ _, fun y hy => ?_⟩
    rw [List.mem_singleton.mp hy]
    exact ⟨x0, x1⟩
  · obtain ⟨lot, rfl, k1, k2, k3⟩ := hd
    exact q v _ B3 H3 ⟨n, lot, rfl, rfl, k1, k2, k3⟩ ((rw0.then rw2).then rw3) hv3
end
end DW

/-! the dict of ties; a loop whose range changes the row -/
namespace DW
open PySem PySem.Spec PyProof.Rows L2 RZ
open PySem.W (TotalLe dataLe dataLt alike alikeAll)
abbrev kP (t : Int × Int) : List L2.Key := [.inl t.1, .inl t.2]
theorem kP_inj {s t : Int × Int} (h : kP s = kP t) : s = t := by
  have h1 : (Sum.inl s.1 : L2.Key) = .inl t.1 := (List.cons.inj h).1
  have h2 : (Sum.inl s.2 : L2.Key) = .inl t.2 := (List.cons.inj (List.cons.inj h).2).1
  exact Prod.ext (Sum.inl.inj h1) (Sum.inl.inj h2)
theorem putK_keys {κ : Type} [DecidableEq κ] (kvs : List (κ × V)) (k : κ) (v : V) : (putK kvs k v).map (·.1) = if k ∈ kvs.map (·.1) then kvs.map (·.1) else kvs.map (·.1) ++ [k] := by
  unfold putK
  (by_cases h : k ∈ kvs.map (·.1))
  · rw [if_pos h, if_pos ?_]
    · rw [List.map_map]
      (refine List.map_congr_left fun x _ => ?_)
      show (if x.1 = k then (x.1, v) else x).1 = x.1
      split <;> rfl
    · obtain ⟨x, hx, e⟩ := List.mem_map.mp h
      exact List.any_eq_true.mpr ⟨x, hx, decide_eq_true e⟩
  · rw [if_neg h, if_neg ?_]
    · rw [List.map_append]
      rfl
    · intro z
      obtain ⟨x, hx, e⟩ := List.any_eq_true.mp z
      exact h (List.mem_map.mpr ⟨x, hx, of_decide_eq_true e⟩)
def addT (ts : List (Int × Int)) (t : Int × Int) : List (Int × Int) := if t ∈ ts then ts else ts ++ [t]
theorem mem_addT {ts : List (Int × Int)} {t u : Int × Int} : u ∈ addT ts t ↔ u ∈ ts ∨ u = t := by
  unfold addT
  by_cases h : t ∈ ts
  · rw [if_pos h]
    exact ⟨.inl, fun z => z.elim id fun e => e ▸ h⟩
  · rw [if_neg h, List.mem_append, List.mem_singleton]
theorem addT_len (ts : List (Int × Int)) (t : Int × Int) : (addT ts t).length ≤ ts.length + 1 := by
  unfold addT
  split
  · omega
  · rw [List.length_append]; exact Nat.le_refl _
theorem addT_nd {ts : List (Int × Int)} {t : Int × Int} (h : ts.Nodup) : (addT ts t).Nodup := by
  unfold addT
  split
  · exact h
  · rename_i n
    rw [List.nodup_append]
    refine ⟨h, by simp, fun a ha b hb => ?_⟩
    rw [List.mem_singleton.mp hb]
    exact fun e => n (e ▸ ha)
/-- the dict at p has these keys -/
def DK (p : Addr) (H : Hp) (ts : List (Int × Int)) : Prop := ∃ kvs : List (List L2.Key × V), H p = some (.dT kvs) ∧ kvs.map (·.1) = ts.map kP
structure Wd (T : List (Addr × Str)) (K : PySem.W.Frag) (B H : Hp) (ρ : Addr) (B' H' : Hp) (p : Addr) (ts : List (Int × Int)) : Prop where
  rw : Rw T K B H ρ B' H'
  ne : p ≠ ρ
  nH : Fr0 (hid ρ H) p
  nB : Fr0 B' p
  dk : DK p H' ts
section
variable {T : List (Addr × Str)} {K : PySem.W.Frag} {B H B' H' B2 H2 B3 H3 : Hp} {ρ p : Addr} {ts : List (Int × Int)} {t : Int × Int}
theorem Rw.pre (e : Xt T H H2) (rw : Rw T K B H2 ρ B3 H3) : Rw T K B H ρ B3 H3 := ⟨⟨rw.go.b, ⟨fun b o q n => rw.go.h.keep b o (by
      obtain ⟨q1, q2⟩ := hid_some q
      rw [hid_ne q1]
      exact e.keep b o q2 n) n, rw.go.h.tabs⟩, rw.go.u, fun p z1 z2 => rw.go.prm p z1 (by
      obtain ⟨q1, q2⟩ := hid_mut z2
      rcases e.mutAt q2 with ⟨ys, q3⟩ | ⟨ys, q3⟩
      · exact .inl ⟨ys, by rw [hid_ne q1]; exact q3⟩
      · exact .inr ⟨ys, by rw [hid_ne q1]; exact q3⟩)⟩, rw.row⟩
theorem Wd.on (a : Wd T K B H ρ B' H' p ts) (g : Go T B' H' B2 H2) : Wd T K B H ρ B2 H2 p ts := by
  obtain ⟨kvs, h1, h2⟩ := a.dk
  exact ⟨a.rw.on g, a.ne, a.nH, g.prd p a.nB h1, kvs, g.h.dtAt h1, h2⟩
theorem Wd.then (a : Wd T K B H ρ B' H' p ts) (g : Rw T K B' H' ρ B2 H2) : Wd T K B H ρ B2 H2 p ts := by
  obtain ⟨kvs, h1, h2⟩ := a.dk
  have h1' : hid ρ H' p = some (.dT kvs) := by rw [hid_ne a.ne]; exact h1
  exact ⟨a.rw.then g, a.ne, a.nH, g.go.prd p a.nB h1', kvs, g.go.h.dtAt h1', h2⟩
theorem Wd.put (a : Wd T K B H ρ B' H' p ts) {kvs : List (List L2.Key × V)} {v : V} (h : H' p = some (.dT kvs)) : Wd T K B H ρ B' (upd H' p (.dT (putK kvs (kP t) v))) p (addT ts t) := by
  obtain ⟨kvs', h1, h2⟩ := a.dk
  have e : kvs' = kvs := by
    rw [h] at h1
    cases h1
    rfl
  subst e
  refine ⟨⟨a.rw.go.mut a.nH a.nB h dt_nt dt_nc, ?_⟩, a.ne, a.nH, a.nB, _, upd_same, ?_⟩
  · obtain ⟨sa, ss, pp, sd, t, k1, k2⟩ := a.rw.row.ex
    exact ⟨a.rw.row.nB, sa, ss, pp, sd, t, by rw [upd_ne a.ne.symm]; exact k1, k2⟩
  · rw [putK_keys, h2]
    have im : kP t ∈ ts.map kP ↔ t ∈ ts := by
      rw [List.mem_map]
      exact ⟨fun ⟨u, hu, e⟩ => kP_inj e ▸ hu, fun hu => ⟨t, hu, rfl⟩⟩
    unfold addT
    by_cases z : t ∈ ts
    · rw [if_pos (im.mpr z), if_pos z]
    · rw [if_neg (fun y => z (im.mp y)), if_neg z, List.map_append]
      rfl
end
section
variable {T : List (Addr × Str)} {X : Cx} {σ : L2.St} {B H : Hp} {a b c e tg iter elt key : Expr} {es : List Expr} {rest body : List Stmt} {D : Ends} {d : PyData} {ds : List PyData} {pos p p' p2 p3 px py apos : Pos} {k n i j : Nat} {ρ r : Addr} {x y : Str} {Φ : PyData → Prop}
theorem r_tup2 {m : Nat} {z : Int} {Ψ : Int → Prop} (h : Pr T X a σ B ρ (fun d => ∃ j, d = .int j ∧ Ψ j)) (hb : Pe T X b σ B (.int z)) (hs : starEach [a, b] X.env = (false, eval a X.env) :: starEach [b] X.env := by rfl) (hs2 : starEach [b] X.env = (false, eval b X.env) :: starEach [] X.env := by rfl) : Pr T X (.Tuple [a, b] m pos) σ B ρ (fun d => ∃ j, d = dP (j, z) ∧ Ψ j) := fun H1 e1 r Q q =>
  PE.w (pe_tup pa_w) (wa_cons (h H1 e1 r _ fun v d B2 H2 hd rw hv => wa_cons (hb.mono rw.go.b H2 rw.go.u _ fun v' B3 H3 g3 hv' => wa_nil ⟨by show 2 ≤ sizeLine; decide, fun t ht => by
    obtain ⟨j, rfl, hj⟩ := hd
    have rw3 := rw.on g3
    exact q _ _ _ _ ⟨j, rfl, hj⟩ (rw3.on ((Go.refl g3.u g3.b.tabs).new ht)) (.tup upd_same (.cons ((hv.mono g3.b).mono (.newB g3.u g3.b.tabs ht)) (.cons (hv'.mono (.newB g3.u g3.b.tabs ht)) .nil)))⟩) hs2) hs)
theorem r_tup2' {m : Nat} {z : Int} {Ψ : Int → Prop} (ha : Pe T X a σ B (.int z)) (h : Pr T X b σ B ρ (fun d => ∃ j, d = .int j ∧ Ψ j)) (hs : starEach [a, b] X.env = (false, eval a X.env) :: starEach [b] X.env := by rfl) (hs2 : starEach [b] X.env = (false, eval b X.env) :: starEach [] X.env := by rfl) : Pr T X (.Tuple [a, b] m pos) σ B ρ (fun d => ∃ j, d = dP (z, j) ∧ Ψ j) := fun H1 e1 r Q q =>
  PE.w (pe_tup pa_w) (wa_cons (ha H1 e1 _ fun v B2 H2 g2 hv => wa_cons (h H2 (e1.trans g2.h) (r.ext g2.h) _ fun v' d B3 H3 hd rw hv' => wa_nil ⟨by show 2 ≤ sizeLine; decide, fun t ht => by
    obtain ⟨j, rfl, hj⟩ := hd
    rw [hv.intE]
    exact q _ _ _ _ ⟨j, rfl, hj⟩ ((rw.pre g2.h).on ((Go.refl rw.go.u rw.go.b.tabs).new ht)) (.tup upd_same (.cons (.int z) (.cons (hv'.mono (.newB rw.go.u rw.go.b.tabs ht)) .nil)))⟩) hs2) hs)
/-- d[key] = True -/
theorem s_dput {B' H' : Hp} {ts : List (Int × Int)} {m : Nat} {Ψ : Int × Int → Prop} (hu : X.A.units + 1 < cLine) (W : Wd T X.K B H ρ B' H' r ts) (hl : ts.length < 1000) (hs : σ[i]? = some (some (.ref r))) (h : Pr T X key σ B' ρ (fun d => ∃ t, d = dP t ∧ Ψ t)) (q : ∀ t B2 H2, Ψ t → Xt T B' B2 → Wd T X.K B H ρ B2 H2 r (addT ts t) → D.nx σ H2)
    (hN : X.N[i]? = some x := by rfl) (hv : Vis X.env.scope x := by first | exact Or.inl rfl | exact Or.inr (Or.inl rfl) | exact Or.inr (Or.inr rfl)) (h1 : (x == ("__debug__" : Str)) = false := by decide) (h2 : (x == ("__classdict__" : Str)) = false := by decide)
    (hsw : swapsWith (.Constant (.bool true) m p3) (some (.Subscript (.Name x p) key p')) pos.line X.env = pure false := by rfl) : WS X (.Assign [.Subscript (.Name x p) key p'] (.Constant (.bool true) m p3) pos) D σ H' :=
  PS.w (ps_dput hu (pe_var hN hv h1 h2) pe_w pe_bl hsw) ⟨.ref r, hs, h H' W.rw.go.u W.rw.row _ fun v d B2 H2 hd rw hv => by
    obtain ⟨t, rfl, ht⟩ := hd
    obtain ⟨b, xs, rfl, k1, k2⟩ := hv.tupE
    have e := DaAll.ints (ns := [t.1, t.2]) k2
    subst e
    have W2 := W.then rw
    obtain ⟨kvs, z1, z2⟩ := W2.dk
    refine ⟨r, _, rfl, DPut.t (k := kP t) z1 (rw.go.u.tupAt k1) ?_, q t B2 _ ht rw.go.b (W2.put z1)⟩
    have := congrArg List.length z2
    rw [List.length_map, List.length_map] at this
    rw [this]
    exact Nat.lt_trans hl (by decide)⟩
def SrcR (T : List (Addr × Str)) (X : Cx) (tg iter : Expr) (σ : L2.St) (B : Hp) (ρ : Addr) (Φ : List PyData → Prop) : Prop := ∀ H1, Xt T B H1 → RowAt X.K B H1 ρ → ∀ R : It → Hp → Prop,
  (∀ J B2 H2 ds (G : Hp → Prop) (Y : Nat → Hp → V → Hp → Prop), Φ ds → Rw T X.K B H1 ρ B2 H2 → Walk J ds.length G Y → (∀ H3, Xt T B2 H3 → G H3) →
    (∀ i B3 H3 v H4, i < ds.length → Xt T B2 B3 → Xt T B3 H3 → Y i H3 v H4 → ∃ B4 d, Go T B3 H3 B4 H4 ∧ ds[i]? = some d ∧ Da B4 v d) → R J H2) → WI X tg iter σ H1 R
theorem src_rangeR {Ψ : Int → Prop} (hm : X.mg "range" = none) (h : Pr T X a σ B ρ (fun d => ∃ j, d = .int j ∧ Ψ j)) (hΨ : ∀ j, Ψ j → 0 ≤ j ∧ j < 1000) (hg : Gl X "range" := by rfl) (hs : starEach [a] X.env = [(false, eval a X.env)] := by rfl) (hs0 : starEach [] X.env = [] := by rfl) :
    SrcR T X tg (.Call (.Name "range" p) [a] [] pos) σ B ρ (fun ds => ∃ n, ds = (irange n).map .int ∧ Ψ n) :=
  fun H1 e1 r R q => PI.w (pi_range1 hg hm pa_w hs) (wa_cons (h H1 e1 r _ fun v d B2 H2 hd rw hv => wa_nil (by
    obtain ⟨i, rfl, hi⟩ := hd
    have b := hΨ i hi
    refine ⟨i, by rw [hv.intE], by omega, by omega, q (Itr 0 i.toNat) B2 H2 ((irange i).map .int) (fun _ => True) (YFn fun i => .int (0 + i)) ⟨i, rfl, hi⟩ rw ?_ (fun _ _ => True.intro) fun n B3 H3 v H4 hn b3 u3 y => ?_⟩
    · rw [List.length_map, irange_len]
      exact walk_range
    · obtain ⟨rfl, rfl⟩ := y
      rw [List.length_map, irange_len] at hn
      refine ⟨B3, .int n, .refl u3 b3.tabs, ?_, ?_⟩
      · rw [List.getElem?_map, irange_get hn]
        rfl
      · show Da B3 (.int (0 + (n : Int))) (.int n)
        rw [Int.zero_add]
        exact .int _)) (by rw [hs, hs0]))
theorem s_forR {Φ : List PyData → Prop} (u : Xt T B H) (r : RowAt X.K B H ρ) (hs : SrcR T X tg iter σ B ρ Φ) (k : ∀ B2 H2 ds, Φ ds → Rw T X.K B H ρ B2 H2 → ∃ I : Nat → Hp → L2.St → Hp → Prop, I 0 B2 σ H2 ∧
      (∀ n d v B' σ' H' B4 H4, ds[n]? = some d → I n B' σ' H' → Xt T B2 B' → Xt T B' H' → Go T B' H' B4 H4 → Da B4 v d →
        WG X tg v σ' H4 fun σ2 H5 => WB X body { D with nx := fun σ3 H6 => ∃ B6, Xt T B2 B6 ∧ Xt T B6 H6 ∧ I (n + 1) B6 σ3 H6, ct := fun σ3 H6 => ∃ B6, Xt T B2 B6 ∧ Xt T B6 H6 ∧ I (n + 1) B6 σ3 H6, bk := D.nx } σ2 H5) ∧
      (∀ B' σ' H', Xt T B2 B' → Xt T B' H' → I ds.length B' σ' H' → D.nx σ' H'))
    (hp : PassesOwn (model X.prog X.w) X.A X.env X.xe := by exact PassesOwn.never) (hc : X.calm = true := by rfl) (hf : ∀ x, foldedSetIterable iter X.env x = pure x := by intro _; rfl) : WS X (.For tg iter body [] pos) D σ H := by
  refine PS.w (ps_for hp hc pi_w pg_w pss_w hf) (hs H u r _ fun J B2 H2 ds G Y hΦ g w hG hY => ?_)
  obtain ⟨I, h0, turn, done⟩ := k B2 H2 ds hΦ g
  refine for_it w (g := WG X tg) (tb := WB X body) (D := D) (fun n σ' H' => ∃ B', Xt T B2 B' ∧ Xt T B' H' ∧ I n B' σ' H') ⟨B2, .refl g.go.b.tabs, g.go.u, h0⟩ (fun n σ' H' _ ⟨B', x1, x2, _⟩ => hG H' (x1.trans x2)) (fun n v σ' H' H4 hn ⟨B', x1, x2, hI⟩ y => ?_) fun σ' H' ⟨B', x1, x2, hI⟩ => done B' σ' H' x1 x2 hI
  obtain ⟨B4, d, g4, hd, hv⟩ := hY n B' H' v H4 hn x1 x2 y
  exact turn n d v B' σ' H' B4 H4 hd hI x1 x2 g4 hv
theorem keys_da {H B2 : Hp} (hh : ∀ b xs, H b = some (.tup xs) → B2 b = some (.tup xs)) : ∀ {kvs : List (List L2.Key × V)} {bs : List Addr} {ts : List (Int × Int)}, IsKeys H kvs bs → kvs.map (·.1) = ts.map kP → DaAll B2 (bs.map V.ref) (ts.map dP) := by
  intro kvs bs ts h
  unfold IsKeys at h
  induction h generalizing ts with
  | nil =>
    intro e
    cases ts with
    | nil => exact .nil
    | cons t ts => cases e
  | @cons p b ps bs h1 h2 ih =>
    intro e
    cases ts with
    | nil => cases e
    | cons t ts =>
      (rw [List.map_cons, List.map_cons] at e)
      have e1 : p.1 = kP t := (List.cons.inj e).1
      rw [e1] at h1
      exact .cons (.tup (hh _ _ h1) (.cons (.int t.1) (.cons (.int t.2) .nil))) (ih (List.cons.inj e).2)
/-- list(d) of a dict of pairs -/
theorem d_listD {ts : List (Int × Int)} {kvs : List (List L2.Key × V)} (hm : X.mg "list" = none) (hs : σ[i]? = some (some (.ref r))) (hB : B r = some (.dT kvs)) (hk : kvs.map (·.1) = ts.map kP) (hN : X.N[i]? = some x := by rfl) (hv : Vis X.env.scope x := by first | exact Or.inl rfl | exact Or.inr (Or.inl rfl) | exact Or.inr (Or.inr rfl)) (h1 : (x == ("__debug__" : Str)) = false := by decide) (h2 : (x == ("__classdict__" : Str)) = false := by decide)
    (hc : X.calm = true := by rfl) (hg : Gl X "list" := by rfl) (he : starEach [.Name x p] X.env = (false, eval (.Name x p) X.env) :: starEach [] X.env := by rfl) (hpl : (backTo pos (starEach [] X.env)).any (·.1) = false := by rfl) :
    Pe T X (.Call (.Name "list" p2) [.Name x p] [] pos) σ B (.list (ts.map dP)) := fun H1 e1 Q q =>
  PE.w (pe_callTy (call_list_dT hc) hg hm (by decide +kernel) pa_w (by decide) (by decide) he hpl) (wa_cons (PE.w (pe_var hN hv h1 h2) ⟨.ref r, hs, wa_nil ⟨r, kvs, rfl, .inl (e1.dtAt hB), fun l bs hl hb => q _ _ _ ((lim_go e1 e1.self).new hl) (.lst upd_same ((keys_da (fun b xs hb => (lim_no (fun z => by
    rcases z.2 with ⟨ys, z⟩ | ⟨ys, z⟩ <;> (rw [hb] at z; cases z))).trans hb) hb hk).mono (.newB (lim_go e1 e1.self).u (lim_go e1 e1.self).b.tabs hl)))⟩⟩) he)
end
end DW

/-! _law_web -/
namespace DW
open PySem PySem.Spec PyProof.Rows L2 RZ
open PySem.W (TotalLe dataLe dataLt alike alikeAll AllAlike Sortable)
def pLe (a b : Int × Int) : Bool := decide (a.1 < b.1 ∨ (a.1 = b.1 ∧ a.2 ≤ b.2))
theorem dataLe_dP : dataLe false dP = pLe := by
  rw [PySem.W.dataLe_eq]
  funext a b
  show (!dataLt (dP b) (dP a)) = pLe a b
  show (!dataLt (.tuple [.int b.1, .int b.2]) (.tuple [.int a.1, .int a.2])) = _
  rw [PySem.W.dataLt_pair (by simp [alike]) (by simp [alike]), PySem.W.dataLt_int, PySem.W.dataLt_int, PyData.eqv]
  unfold pLe
  by_cases h : b.1 = a.1
  · have h2 : (b.1 == a.1) = true := by simp [h]
    rw [if_pos h2]
    simp only [PyData.eqv]
    by_cases h' : b.2 = a.2
    · simp [h, h']
    · rw [Bool.eq_iff_iff]
      simp [h, h']
  · have h2 : (b.1 == a.1) = false := by simp [h]
    rw [h2, if_neg Bool.false_ne_true, Bool.eq_iff_iff, Bool.not_eq_true', decide_eq_false_iff_not, decide_eq_true_eq]
    omega
theorem pLe_sort (ts : List (Int × Int)) (h : ts.Nodup) : (ts.mergeSort pLe).Pairwise tieLt := by
  have h1 := List.pairwise_mergeSort (le := pLe) (fun a b c h1 h2 => by
    unfold pLe at *
    rw [decide_eq_true_eq] at *
    omega) (fun a b => by
    unfold pLe
    (rw [Bool.or_eq_true, decide_eq_true_eq, decide_eq_true_eq])
    omega) ts
  have h2 : (ts.mergeSort pLe).Nodup := (List.mergeSort_perm ts pLe).nodup_iff.mpr h
  refine (h1.and h2).imp fun {a b} ⟨h3, h4⟩ => ?_
  unfold pLe at h3
  have h3 := of_decide_eq_true h3
  unfold tieLt
  rcases h3 with h3 | ⟨h3, h5⟩
  · exact .inl h3
  · refine .inr ⟨h3, ?_⟩
    have : a.2 ≠ b.2 := fun e => h4 (Prod.ext h3 e)
    omega
structure TsOk (n : Int) (ts : List (Int × Int)) (m i : Nat) : Prop where
  nd : ts.Nodup
  len : ts.length ≤ m
  val : ∀ t ∈ ts, 0 ≤ t.1 ∧ t.1 < t.2 ∧ t.2 < n
  low : ∀ q : Int, 1 ≤ q → q ≤ i → ∃ t ∈ ts, t.2 = q
theorem TsOk.add {n : Int} {ts : List (Int × Int)} {m i j : Nat} (h : TsOk n ts m i) {t : Int × Int} (ht : 0 ≤ t.1 ∧ t.1 < t.2 ∧ t.2 < n) (hj : j = i ∨ (j = i + 1 ∧ t.2 = i + 1)) : TsOk n (addT ts t) (m + 1) j where
  nd := addT_nd h.nd
  len := Nat.le_trans (addT_len _ _) (Nat.succ_le_succ h.len)
  val u hu := by
    rcases mem_addT.mp hu with hu | hu
    · exact h.val u hu
    · rw [hu]; exact ht
  low q h1 h2 := by
    by_cases hq : q ≤ (i : Int)
    · obtain ⟨u, hu, e⟩ := h.low q h1 hq
      exact ⟨u, mem_addT.mpr (.inl hu), e⟩
    · rcases hj with rfl | ⟨rfl, e⟩
      · omega
      · exact ⟨t, mem_addT.mpr (.inr rfl), by omega⟩
theorem webOk_of {ns : List Int} {ts : List (Int × Int)} {m i : Nat} (h1 : 1 ≤ ns.length) (h6 : ns.length ≤ 8) (hn : ∀ x ∈ ns, -1000 ≤ x ∧ x ≤ 1000) (h : TsOk ns.length ts m i) (hm : m ≤ 64) (hi : ns.length ≤ i + 1) : WebOk ⟨ns, ts.mergeSort pLe⟩ where
  n1 := by
    show (1 : Int) ≤ ns.length
    omega
  n8 := by
    show (ns.length : Int) ≤ 8
    omega
  nums := hn
  ties t ht := h.val t ((List.mergeSort_perm ts pLe).mem_iff.mp ht)
  up := pLe_sort ts h.nd
  few := by
    rw [List.length_mergeSort]
    have := h.len
    omega
  conn p h0 hp := by
    have hp' : p < (ns.length : Int) := hp
    obtain ⟨k, rfl⟩ : ∃ k : Nat, p = k := ⟨p.toNat, by omega⟩
    induction k using Nat.strongRecOn with
    | ind k ih =>
      by_cases hk : k = 0
      · subst hk
        exact .refl
      · obtain ⟨t, t1, t2⟩ := h.low k (by omega) (by omega)
        obtain ⟨v1, v2, v3⟩ := h.val t t1
        obtain ⟨j, hj⟩ : ∃ j : Nat, t.1 = j := ⟨t.1.toNat, by omega⟩
        have R := ih j (by omega) (by omega) (by show (j : Int) < ns.length; omega) (by omega)
        refine .step R (mem_adj.mpr ⟨t, (List.mergeSort_perm ts pLe).mem_iff.mpr t1, .inl hj.symm, by omega⟩) (mem_irange.mpr ⟨h0, hp⟩)
theorem ints_of {β : Type} {P : Int → Prop} : ∀ (zs : List (β × PyData)), (∀ z ∈ zs, ∃ j, z.2 = .int j ∧ P j) → ∃ ns : List Int, zs.map (·.2) = ns.map .int ∧ ns.length = zs.length ∧ ∀ x ∈ ns, P x
  | [], _ => ⟨[], rfl, rfl, fun x hx => (by cases hx)⟩
  | z :: zs, h => by
    obtain ⟨ns, h1, h2, h3⟩ := ints_of zs fun y hy => h y (List.mem_cons_of_mem _ hy)
    obtain ⟨j, e, hj⟩ := h z List.mem_cons_self
    refine ⟨j :: ns, by rw [List.map_cons, List.map_cons, h1, e], by rw [List.length_cons, List.length_cons, h2], fun x hx => ?_⟩
    rcases List.mem_cons.mp hx with e | e
    · rw [e]; exact hj
    · exact h3 x e
section
variable {T : List (Addr × Str)} {X : Cx} {σ : L2.St} {B H B' H' : Hp} {ρ p : Addr} {ts : List (Int × Int)} {K : PySem.W.Frag}
theorem rts_nil : PrTs T X [] σ B ρ (fun b => b = true) := fun H1 e1 r Q q => PTs.w pts_nil (q true _ H1 rfl (.of (lim_go e1 e1.self) r))
theorem takenI {m : Int} {d : PyData} (h : R_taken [.int m] d) : ∃ j, d = .int j ∧ (0 ≤ j ∧ j < m) := by
  obtain ⟨m', x, e, rfl, h1, h2⟩ := h
  cases e
  exact ⟨x, rfl, h1, h2⟩
theorem Wd.tell (a : Wd T K B H ρ B' H' p ts) {kvs : List (List L2.Key × V)} (h : H' p = some (.dT kvs)) : Rw T K B H ρ (upd B' p (.dT kvs)) H' := by
  have nb := a.rw.go.u.telling a.rw.go.b.tabs a.nB h dt_nt
  obtain ⟨sa, ss, pp, sd, t, k1, k2, k3⟩ := a.rw.row.ex
  exact ⟨a.rw.go.tell a.nH nb h, a.rw.row.nB.upd_ne a.ne.symm, sa, ss, pp, sd, t, k1, ex_l nb k2, k3⟩
end
section
variable {T : List (Addr × Str)} {P : Program} {w : World} {K : PySem.W.Frag} {mg : Str → Option Value} {base : Heap} {f : Addr} {fd : FuncData}
abbrev s_lweb : Stmt := topS 42
abbrev Pre_lweb : List PyData → Prop := fun ds => ds = [.int 6, .int 9]
abbrev R_lweb : List PyData → PyData → Prop := fun ds d => ∃ W : Web, d = dW W ∧ WebOk W ∧ W.n ≤ 6
theorem sc_lweb : FnScope ["_law_row", "_law_most", "_law_high", "_law_many", "_law_person", "_law_numbers", "_law_ties_here", "_law_turn", "_law_one"] ["_law_row", "_law_most", "_law_high"] (defScope s_lweb) := ⟨rfl, rfl, rfl, by decide +kernel, rfl, by decide +kernel, by decide +kernel⟩
theorem ok_lweb (A : At K mg "_law_web" s_lweb f fd) (M : Mg mg) (DT : RowOk T P w K mg base "_law_taken" 1 Pre_taken R_taken) : RowOk T P w K mg base "_law_web" 2 Pre_lweb R_lweb := by
  refine row_ok A.F sc_lweb A.m (A.F.binds fun _ _ _ _ _ _ us hl => match us, hl with | [_, _, _], _ => rfl) (fun ds h => by obtain rfl := h; rfl) fun cdv A' outer s H E B ρ vs ds Q hr rw0 hv hP q => ?_
  obtain rfl := hP
  obtain ⟨v1, vs, rfl, h1, hv⟩ := hv.consE
  obtain ⟨v2, rfl, h2⟩ := hv.one
  obtain rfl := h1.intE
  obtain rfl := h2.intE
  have nd := sc_lweb.nd
  refine b_cons (s_setR (i := 3) (ρ := ρ) nd rw0.go.u rw0.row (r_op op_add d_int ((r_call DT hr (i := 0) rfl (a_cons (d_var (n := 1) rfl (.int 6)) a_nil) ⟨6, rfl, by decide, by decide⟩).imp fun d hd => takenI hd)) fun v3 d3 B3 H3 hd3 rw3 hv3 => ?_)
  obtain ⟨j, rfl, j0, j6⟩ := hd3
  obtain ⟨n, hn⟩ : ∃ n : Nat, 1 + j = n := ⟨(1 + j).toNat, by omega⟩
  rw [hn] at hv3
  obtain rfl := hv3.intE
  have n1 : 1 ≤ n := by omega
  have n6 : n ≤ 6 := by omega
  have R3 := rw0.then rw3
  refine b_cons (s_setR (i := 5) (ρ := ρ) nd R3.go.u R3.row (r_tuple M.tuple (lcR (j := 4) (xs := irange n) (enc := PyData.int) (fun _ b => b = true) (fun y d => ∃ j, d = .int (j - 9 / 3) ∧ (0 ≤ j ∧ j < 9)) (src_range M.range (d_var (n := 3) rfl (.int n)) (by omega) (by omega)) (by rw [irange_len]; omega) (blkOk_by (by kernel_rfl)) nd
    (fun y hy v B1 x1 hv1 s H0 C cl fp => rts_nil)
    fun y hy _ v B1 x1 hv1 s H0 C cl fp => r_opL op_sub ((r_call DT (k := 1) hr (i := 0) rfl (a_cons (d_var (n := 2) rfl (.int 9)) a_nil) ⟨9, rfl, by decide, by decide⟩).imp fun d hd => takenI hd) (d_opC op_fdiv (d_var (n := 2) rfl (.int 9)) d_int ⟨by decide, by decide⟩))) fun v5 d5 B5 H5 hd5 rw5 hv5 => ?_)
  obtain ⟨ds5, rfl, zs, rfl, z1, z2, z3⟩ := hd5
  obtain ⟨ns, e1, e2, e3⟩ := ints_of (P := fun x => -1000 ≤ x ∧ x ≤ 1000) zs fun z hz => by
    obtain ⟨j, e, h⟩ := z2 z hz
    exact ⟨_, e, by omega⟩
  have en : ns.length = n := by
    have := congrArg List.length (z3 fun _ _ h => h)
    rw [List.length_map, irange_len] at this
    omega
  rw [e1] at hv5
  have R5 := R3.then rw5
  refine b_cons (PS.w (ps_set (i := 6) nd rfl (by first | exact Or.inl rfl | exact Or.inr rfl) pe_dnewT) fun p hp => ?_)
  have W5 : Wd T K B H ρ B5 (upd H5 p (.dT [])) p [] := by
    refine ⟨⟨R5.go.mine hp, R5.row.ext (.new R5.go.u.tabs hp)⟩, ?_, R5.go.h.free hp, R5.go.u.free hp, [], upd_same, rfl⟩
    rintro rfl
    obtain ⟨sa, ss, pp, sd, t, k1, _⟩ := R5.row.ex
    rw [hp] at k1
    cases k1
  refine b_cons (s_for W5.rw.go.u (src_range2 M.range d_int (d_var (n := 3) rfl (.int n)) ⟨by decide, by decide, by omega, by omega⟩) fun B6 H6 g6 => ⟨fun i B' σ' H' => ∃ ts y, σ' = [some (.ref ρ), some (.int 6), some (.int 9), some (.int n), y, some v5, some (.ref p), none, none] ∧ Wd T K B H ρ B' H' p ts ∧ TsOk n ts i i,
    ⟨[], none, rfl, W5.on g6, .nil, Nat.le_refl _, fun t ht => (by cases ht), fun q h1 h2 => by omega⟩, fun i d v B' σ' H' B7 H7 hd hI x1 x2 g7 hvd => ?_, fun B' σ' H' x1 x2 hI => ?_⟩)
  · obtain ⟨ts, y, rfl, W, hK⟩ := hI
    have hi : i < (n - 1 : Int).toNat := by
      have := (List.getElem?_eq_some_iff.mp hd).1
      rwa [List.length_map, irange2_len] at this
    have ed : d = .int (1 + i) := by
      rw [List.getElem?_map, irange2_get hi] at hd
      exact (Option.some.inj hd).symm
    subst ed
    obtain rfl := hvd.intE
    have kl := hK.len
    refine g_name (i := 4) (b_one (s_dput (i := 6) (hu_of hr) (W.on g7) (by omega) rfl ((r_tup2 ((r_call DT hr (i := 0) rfl (a_cons (d_var (n := 4) rfl (.int (1 + (i : Int)))) a_nil) ⟨1 + i, rfl, by omega, by omega⟩).imp fun d hd => takenI hd) (d_var (n := 4) rfl (.int (1 + (i : Int))))).imp (Ψ := fun d => ∃ t, d = dP t ∧ (0 ≤ t.1 ∧ t.1 < t.2 ∧ t.2 = 1 + (i : Int))) fun d hd => ?_) fun t B8 H8 ht x8 W8 => ⟨B8, (x1.trans g7.b).trans x8, W8.rw.go.u, _, _, rfl, W8, hK.add (by omega) (.inr ⟨rfl, by omega⟩)⟩)) nd
    obtain ⟨j, rfl, hj⟩ := hd
    exact ⟨(j, 1 + i), rfl, hj.1, hj.2, rfl⟩
  · obtain ⟨ts, y, rfl, W, hK⟩ := hI
    rw [List.length_map, irange2_len] at hK
    have en2 : (n - 1 : Int).toNat = n - 1 := by omega
    rw [en2] at hK
    have xB : Xt T B5 B' := g6.b.trans x1
    refine b_cons (s_forR (ρ := ρ) W.rw.go.u W.rw.row (src_rangeR (Ψ := fun j => 0 ≤ j ∧ j < 5 ∧ (0 < j → 1 < n)) M.range (r_ifExp (t := decide ((1 : Int) < n)) (t_gt (d_var (n := 3) rfl (.int n)) d_int) (fun ht => (r_call DT hr (i := 0) rfl (a_cons d_int a_nil) ⟨5, rfl, by decide, by decide⟩).imp fun d hd => ?_) fun hf => d_int.pr ⟨0, rfl, by omega, by omega, by omega⟩) fun j hj => by omega) fun B8 H8 ds hds rw8 => ?_)
    · obtain ⟨j, rfl, hj⟩ := takenI hd
      have := of_decide_eq_true ht
      exact ⟨j, rfl, hj.1, hj.2, fun _ => by omega⟩
    · obtain ⟨m, rfl, m0, m5, mn⟩ := hds
      refine ⟨fun i B' σ' H' => ∃ ts y z, σ' = [some (.ref ρ), some (.int 6), some (.int 9), some (.int n), y, some v5, some (.ref p), z.1, z.2] ∧ Wd T K B H ρ B' H' p ts ∧ TsOk n ts (n - 1 + i) (n - 1),
        ⟨ts, y, (none, none), rfl, W.then rw8, hK⟩, fun i d v B'' σ' H' B9 H9 hd hI y1 y2 g9 hvd => ?_, fun B'' σ' H' y1 y2 hI => ?_⟩
      · obtain ⟨ts, y, z, rfl, W, hK⟩ := hI
        have hi : i < m.toNat := by
          have := (List.getElem?_eq_some_iff.mp hd).1
          rwa [List.length_map, irange_len] at this
        have n2 : 1 < n := mn (by omega)
        have kl := hK.len
        have W9 := W.on g9
        refine g_name (i := 7) (b_cons (s_setR (i := 8) (ρ := ρ) nd W9.rw.go.u W9.rw.row ((r_call DT hr (i := 0) rfl (a_cons (d_sub (d_var (n := 3) rfl (.int n)) d_int) a_nil) ⟨n - 1, rfl, by omega, by omega⟩).imp fun d hd => takenI hd) fun v10 d10 B10 H10 hd10 rw10 hv10 => ?_)) nd
        obtain ⟨o, rfl, o0, o1⟩ := hd10
        obtain rfl := hv10.intE
        refine b_one (s_dput (i := 6) (hu_of hr) (W9.then rw10) (by omega) rfl ((r_tup2' (d_var (n := 8) rfl (.int o)) (r_op op_add (d_add (d_var (n := 8) rfl (.int o)) d_int) ((r_call DT hr (i := 0) rfl (a_cons (d_sub (d_sub (d_var (n := 3) rfl (.int n)) d_int) (d_var (n := 8) rfl (.int o))) a_nil) ⟨n - 1 - o, rfl, by omega, by omega⟩).imp fun d hd => takenI hd) |> fun h => h.imp (Ψ := fun d => ∃ j, d = .int j ∧ (o < j ∧ j < n)) fun d hd => ?_)).imp (Ψ := fun d => ∃ t, d = dP t ∧ (0 ≤ t.1 ∧ t.1 < t.2 ∧ t.2 < n)) fun d hd => ?_) fun t B11 H11 ht x11 W11 => ⟨B11, ((y1.trans g9.b).trans rw10.go.b).trans x11, W11.rw.go.u, _, _, (_, _), rfl, W11, hK.add ht (.inl rfl)⟩)
        · obtain ⟨j, rfl, hj⟩ := hd
          exact ⟨(o, j), rfl, o0, hj.1, hj.2⟩
        · obtain ⟨j, rfl, hj⟩ := hd
          exact ⟨_, rfl, by omega, by omega⟩
      · obtain ⟨ts, y, z, rfl, W, hK⟩ := hI
        rw [List.length_map, irange_len] at hK
        obtain ⟨kvs, k1, k2⟩ := W.dk
        have Rt := W.tell k1
        have xt : Xt T B5 (upd B'' p (.dT kvs)) := ((xB.trans rw8.go.b).trans y1).trans (W.rw.go.u.telling W.rw.go.b.tabs W.nB k1 dt_nt)
        refine b_one (s_ret Rt.go.u (d_tup (a_cons (d_var (n := 5) rfl (hv5.mono xt)) (a_cons (d_tuple M.tuple (d_sorted dP ts hr M.sorted (d_listD (i := 6) M.list rfl upd_same k2) ?_ ?_ ?_)) a_nil)) (by simp)) fun v12 B12 H12 g12 hv12 => ?_)
        · exact .of fun a b => by simp [alike, alikeAll]
        · exact .tuples fun b => ⟨_, _, rfl⟩
        · intro b _
          have : (dP b).depth ≤ 2 := by simp [PyData.depth, PyData.depthAll]
          omega
        · rw [dataLe_dP] at hv12
          have kl := hK.len
          refine q v12 _ B12 H12 ⟨⟨ns, ts.mergeSort pLe⟩, rfl, webOk_of (by omega) (by omega) e3 (by rw [en]; exact hK) (by omega) (by omega), ?_⟩ (Rt.on g12) hv12
          show (ns.length : Int) ≤ 6
          omega
end
end DW

/-! the law's mathematics -/
namespace DW
open PySem PySem.Spec PyProof.Rows L2 RZ
theorem holdsB_iff {lot inner : List Int} : holdsB lot inner = true ↔ ∀ x ∈ inner, x ∈ lot := by
  unfold holdsB
  rw [List.all_eq_true]
  simp only [decide_eq_true_eq]
/-- those of one that are not in another: none -/
theorem none_out (lot inner : List Int) : decide ((inner.filter fun a => !decide (a ∈ lot)) = []) = holdsB lot inner := by
  rw [Bool.eq_iff_iff, decide_eq_true_eq, holdsB_iff, List.filter_eq_nil_iff]
  simp
theorem none_any {α : Type} (l : List α) (f : α → Bool) : decide (l.filter f = []) = !l.any f := by
  rw [Bool.eq_iff_iff, decide_eq_true_eq, List.filter_eq_nil_iff, Bool.not_eq_true', List.any_eq_false]
theorem cost_nn (W : Web) (l : List Int) : 0 ≤ cost W l := Int.natCast_nonneg _
/-! lots in order -/
theorem lots_sorted (n : Int) : (lots n).Pairwise fun a b => keyLe a b = true := by
  unfold lots
  refine List.pairwise_mergeSort (fun a b c => keyTot.trans a b c) (fun a b => ?_) _
  rcases keyTot.total a b with h | h <;> simp [h]
theorem foldL_nd : ∀ n : Nat, (foundL n).Nodup
  | 0 => by simp [foundL]
  | n + 1 => by
    unfold foundL
    rw [List.nodup_append]
    refine ⟨foldL_nd n, ?_, fun a ha b hb e => ?_⟩
    · refine List.Pairwise.map _ ?_ (foldL_nd n)
      intro a b h e
      exact h (List.append_cancel_right e)
    · subst e
      obtain ⟨m, _, rfl⟩ := List.mem_map.mp hb
      have := (mem_foundL.mp ha).2 n (by simp)
      omega
theorem lots_nd (n : Int) : (lots n).Nodup := by
  unfold lots
  rw [(List.mergeSort_perm _ _).nodup_iff]
  exact (foldL_nd _).sublist List.filter_sublist
/-- strictly before -/
def Bef (a b : List Int) : Prop := keyLe a b = true ∧ a ≠ b
theorem lots_bef (n : Int) : (lots n).Pairwise Bef := (lots_sorted n).and (lots_nd n)
theorem Bef.asymm {a b : List Int} (h : Bef a b) (h' : Bef b a) : False := h.2 (keyAnti h.1 h'.1)
/-- lists in that order are told by their members -/
theorem bef_eq : ∀ {l m : List (List Int)}, l.Pairwise Bef → m.Pairwise Bef → (∀ x, x ∈ l ↔ x ∈ m) → l = m
  | [], [], _, _, _ => rfl
  | [], y :: m, _, _, h => by have := (h y).mpr List.mem_cons_self; cases this
  | x :: l, [], _, _, h => by have := (h x).mp List.mem_cons_self; cases this
  | x :: l, y :: m, h1, h2, h => by
    have h1 := List.pairwise_cons.mp h1
    have h2 := List.pairwise_cons.mp h2
    have e : x = y := by
      rcases List.mem_cons.mp ((h x).mp List.mem_cons_self) with e | e
      · exact e
      · rcases List.mem_cons.mp ((h y).mpr List.mem_cons_self) with e' | e'
        · exact e'.symm
        · exact ((h2.1 x e).asymm (h1.1 y e')).elim
    subst e
    rw [bef_eq h1.2 h2.2 fun z => ?_]
    constructor
    · intro hz
      rcases List.mem_cons.mp ((h z).mp (List.mem_cons_of_mem _ hz)) with e | e
      · subst e
        exact absurd rfl (h1.1 z hz).2
      · exact e
    · intro hz
      rcases List.mem_cons.mp ((h z).mpr (List.mem_cons_of_mem _ hz)) with e | e
      · subst e
        exact absurd rfl (h2.1 z hz).2
      · exact e
/-! lists that a scan makes -/
theorem fold_sub {α : Type} {f : List α → α → List α} (hf : ∀ b x, f b x = b ++ [x] ∨ f b x = b) : ∀ (l : List α) (b : List α), ∃ s, s.Sublist l ∧ l.foldl f b = b ++ s
  | [], b => ⟨[], .slnil, (List.append_nil b).symm⟩
  | x :: l, b => by
    obtain ⟨s, h1, h2⟩ := fold_sub hf l (f b x)
    rw [List.foldl_cons, h2]
    rcases hf b x with e | e
    · rw [e, List.append_assoc]
      exact ⟨x :: s, h1.cons_cons x, rfl⟩
    · rw [e]
      exact ⟨s, h1.cons x, rfl⟩
theorem leastFree_sublist (W : Web) (p : Int) : (leastFree W p).Sublist (lots W.n) := by
  obtain ⟨s, h1, h2⟩ := fold_sub (lfStep_or W p) (lots W.n) []
  unfold leastFree
  rw [h2]
  exact h1
/-- free with a person -/
noncomputable def isFree (W : Web) (p : Int) (l : List Int) : Bool := decide (cost W l = 0) && decide (p ∈ l)
noncomputable def freeL (W : Web) (p : Int) : List (List Int) := (lots W.n).filter (isFree W p)
/-- the law's list is the program's -/
def llStep (found : List (List Int)) (lot : List Int) : List (List Int) := if (!found.any (holdsB lot)) = true then found ++ [lot] else found
theorem least_law (W : Web) (p : Int) : (freeL W p).foldl llStep [] = leastFree W p := by
  unfold freeL leastFree
  rw [List.foldl_filter]
  congr 1
  funext b x
  unfold llStep lfStep isFree
  by_cases h1 : cost W x = 0 <;> by_cases h2 : p ∈ x <;> simp [h1, h2]
theorem lf_free {W : Web} {p : Int} : ∀ (ls b : List (List Int)) (l : List Int), l ∈ ls.foldl (lfStep W p) b → l ∈ b ∨ (l ∈ ls ∧ isFree W p l = true)
  | [], b, l, h => .inl h
  | x :: ls, b, l, h => by
    rw [List.foldl_cons] at h
    rcases lf_free ls _ l h with h | ⟨h, h'⟩
    · unfold lfStep at h
      split at h
      · rename_i c
        obtain h | h := List.mem_append.mp h
        · exact .inl h
        · rw [List.mem_singleton] at h
          subst h
          simp only [Bool.and_eq_true] at c
          exact .inr ⟨List.mem_cons_self, by unfold isFree; rw [c.1.1, c.1.2]; rfl⟩
      · exact .inl h
    · exact .inr ⟨List.mem_cons_of_mem _ h, h'⟩
theorem leastFree_free {W : Web} {p : Int} {l : List Int} (h : l ∈ leastFree W p) : l ∈ freeL W p := by
  rcases lf_free (lots W.n) [] l h with h | h
  · cases h
  · exact List.mem_filter.mpr h
theorem fold_keep {α : Type} {f : List α → α → List α} (hf : ∀ b x, f b x = b ++ [x] ∨ f b x = b) (l : List α) (b : List α) {y : α} (h : y ∈ b) : y ∈ l.foldl f b := by
  obtain ⟨s, _, e⟩ := fold_sub hf l b
  rw [e]
  exact List.mem_append_left _ h
/-- every free lot holds one of the least -/
theorem lf_cover {W : Web} {p : Int} : ∀ (ls b : List (List Int)) (l : List Int), l ∈ ls → isFree W p l = true → ∃ m ∈ ls.foldl (lfStep W p) b, holdsB l m = true
  | [], b, l, h, _ => by cases h
  | x :: ls, b, l, h, hl => by
    rw [List.foldl_cons]
    obtain e | h := List.mem_cons.mp h
    · subst e
      unfold isFree at hl
      rw [Bool.and_eq_true] at hl
      by_cases c : b.any (holdsB l) = true
      · obtain ⟨m, hm, hh⟩ := List.any_eq_true.mp c
        refine ⟨m, fold_keep (lfStep_or W p) _ _ ?_, hh⟩
        rcases lfStep_or W p b l with e | e
        · rw [e]; exact List.mem_append_left _ hm
        · rw [e]; exact hm
      · have e : lfStep W p b l = b ++ [l] := if_pos (by rw [hl.1, hl.2]; simpa using c)
        refine ⟨l, fold_keep (lfStep_or W p) _ _ ?_, holdsB_iff.mpr fun x hx => hx⟩
        rw [e]
        simp
    · exact lf_cover ls _ l h hl
theorem leastFree_cover {W : Web} {p : Int} {l : List Int} (h : l ∈ freeL W p) : ∃ m ∈ leastFree W p, holdsB l m = true := by
  obtain ⟨h1, h2⟩ := List.mem_filter.mp h
  exact lf_cover (lots W.n) [] l h1 h2
theorem others_all (W : Web) : others W (irange W.n) = [] := by
  unfold others
  rw [List.filter_eq_nil_iff]
  intro x hx
  simp [hx]
theorem full_free {W : Web} (kw : WebOk W) {p : Int} (h0 : 0 ≤ p) (h1 : p < W.n) : irange W.n ∈ freeL W p := by
  have hp : p ∈ irange W.n := mem_irange.mpr ⟨h0, h1⟩
  refine List.mem_filter.mpr ⟨mem_lots.mpr ⟨List.ne_nil_of_mem hp, irange_up _, fun x hx => mem_irange.mp hx⟩, ?_⟩
  unfold isFree
  have : cost W (irange W.n) = 0 := by
    unfold cost deep
    rw [others_all, parts_nil]
    rfl
  rw [this]
  simp [hp]
theorem leastFree_ne {W : Web} (kw : WebOk W) {p : Int} (h0 : 0 ≤ p) (h1 : p < W.n) : leastFree W p ≠ [] := by
  obtain ⟨m, hm, _⟩ := leastFree_cover (full_free kw h0 h1)
  exact List.ne_nil_of_mem hm
theorem lmin_head : ∀ {l : List Int} {a : Int}, (a :: l).Pairwise (· ≤ ·) → lmin (a :: l) = a
  | l, a, h => by
    have h := List.pairwise_cons.mp h
    refine (lmin_eq List.mem_cons_self fun y hy => ?_).symm
    obtain e | e := List.mem_cons.mp hy
    · omega
    · exact h.1 y e
theorem company_head {W : Web} {p : Int} {m : List Int} {r : List (List Int)} (h : leastFree W p = m :: r) : lmin ((leastFree W p).map fun l => (l.length : Int)) = m.length := by
  have s := leastFree_sublist W p
  have h1 := (lots_sorted W.n).sublist s
  rw [h] at h1 ⊢
  rw [List.map_cons]
  refine lmin_head ?_
  rw [← List.map_cons (f := fun l : List Int => (l.length : Int)), List.pairwise_map]
  refine h1.imp fun {a b} h => ?_
  rcases keyLe_iff.mp h with h | ⟨h, _⟩ <;> omega
/-- guards by all free lots -/
noncomputable def always (W : Web) (p : Int) : List Int := (irange W.n).filter fun a => !decide (a = p) && decide (((freeL W p).filter fun l => !decide (a ∈ l)) = [])
theorem guards_law (W : Web) (p : Int) : guardsF W p = always W p := by
  unfold guardsF always
  refine List.filter_congr fun a _ => ?_
  congr 1
  rw [none_any, Bool.eq_iff_iff, List.all_eq_true, Bool.not_eq_true', List.any_eq_false]
  constructor
  · intro h l hl
    obtain ⟨m, hm, hh⟩ := leastFree_cover hl
    have := h m hm
    simp only [decide_eq_true_eq] at this
    have := holdsB_iff.mp hh a this
    simp [this]
  · intro h l hl
    have := h l (leastFree_free hl)
    simpa using this
/-! the greatest that are not free -/
noncomputable def unfree (W : Web) : List (List Int) := (lots W.n).filter fun l => decide (0 < cost W l)
def isMax (us : List (List Int)) (one : List Int) : Bool := decide ((us.filter fun more => !decide (more = one) && decide ((one.filter fun a => !decide (a ∈ more)) = [])) = [])
noncomputable def due (W : Web) : List (List Int) := (unfree W).filter (isMax (unfree W))
theorem isMax_iff {us : List (List Int)} {one : List Int} : isMax us one = true ↔ ∀ m ∈ us, holdsB m one = true → m = one := by
  unfold isMax
  rw [decide_eq_true_eq, List.filter_eq_nil_iff]
  constructor
  · intro h m hm hh
    refine Classical.byContradiction fun n => h m hm ?_
    rw [none_out, hh]
    simp [n]
  · intro h m hm z
    rw [none_out, Bool.and_eq_true] at z
    have := h m hm z.2
    simp [this] at z
theorem sub_lt {a b : List Int} (ha : Up a) (hb : Up b) (h : holdsB b a = true) (n : b ≠ a) : a.length < b.length := by
  have h' := holdsB_iff.mp h
  have l1 : a.length ≤ b.length := sub_len ha.nodup h'
  refine Classical.byContradiction fun z => n ?_
  have e : b.length = a.length := by omega
  refine (up_eq ha hb fun x => ⟨h' x, fun hx => ?_⟩).symm
  refine Classical.byContradiction fun nx => ?_
  have : (x :: a).length ≤ b.length := sub_len (List.nodup_cons.mpr ⟨nx, ha.nodup⟩) fun y hy => by
    obtain e | e := List.mem_cons.mp hy
    · rw [e]; exact hx
    · exact h' y e
  rw [List.length_cons] at this
  omega
theorem unfree_lot {W : Web} {l : List Int} (h : l ∈ unfree W) : LotOk W l := lots_ok (List.mem_filter.mp h).1
theorem max_over {W : Web} (k8 : W.n ≤ 8) : ∀ (k : Nat) (one : List Int), one ∈ unfree W → 8 - one.length ≤ k → ∃ m ∈ due W, holdsB m one = true
  | k, one, h, hk => by
    by_cases c : isMax (unfree W) one = true
    · exact ⟨one, List.mem_filter.mpr ⟨h, c⟩, holdsB_iff.mpr fun x hx => hx⟩
    · have : ∃ m ∈ unfree W, holdsB m one = true ∧ m ≠ one := by
        refine Classical.byContradiction fun z => c (isMax_iff.mpr fun m hm hh => ?_)
        exact Classical.byContradiction fun n => z ⟨m, hm, hh, n⟩
      obtain ⟨m, hm, hh, n⟩ := this
      have lt := sub_lt (unfree_lot h).up (unfree_lot hm).up hh n
      have m8 := (unfree_lot hm).len8 k8
      match k, hk with
      | 0, hk => omega
      | k + 1, hk =>
        obtain ⟨q, hq, hh2⟩ := max_over k8 k m hm (by omega)
        exact ⟨q, hq, holdsB_iff.mpr fun x hx => holdsB_iff.mp hh2 x (holdsB_iff.mp hh x hx)⟩
theorem snoc_ind {α : Type} {P : List α → Prop} (h0 : P []) (h1 : ∀ l x, P l → P (l ++ [x])) (l : List α) : P l := by
  rw [← List.reverse_reverse l]
  induction l.reverse with
  | nil => exact h0
  | cons x l ih =>
    rw [List.reverse_cons]
    exact h1 _ x ih
theorem gu_fold {W : Web} (k8 : W.n ≤ 8) : ∀ (done rest : List (List Int)), done ++ rest = (lots W.n).reverse → done.foldl (guStep W) [] = done.filter fun l => decide (0 < cost W l) && isMax (unfree W) l := by
  intro done
  refine snoc_ind (P := fun done => ∀ rest, done ++ rest = (lots W.n).reverse → done.foldl (guStep W) [] = done.filter fun l => decide (0 < cost W l) && isMax (unfree W) l) (fun rest _ => rfl) (fun ls x ih rest hr => ?_) done
  rw [List.foldl_append, List.filter_append]
  have ih' := ih (x :: rest) (by rw [← hr, List.append_assoc]; rfl)
  rw [ih']
  show guStep W _ x = _
  have mem_all : ∀ y, y ∈ ls ++ [x] ++ rest ↔ y ∈ lots W.n := fun y => by rw [hr, List.mem_reverse]
  have xl : x ∈ lots W.n := (mem_all x).mp (by simp)
  -- those behind x come before it
  have ord : (ls ++ [x] ++ rest).Pairwise fun a b => Bef b a := by
    rw [hr, List.pairwise_reverse]
    exact lots_bef W.n
  rw [List.filter_cons, List.filter_nil]
  unfold guStep
  by_cases hu : 0 < cost W x
  · have xu : x ∈ unfree W := List.mem_filter.mpr ⟨xl, decide_eq_true hu⟩
    by_cases hm : isMax (unfree W) x = true
    · rw [if_pos, if_pos]
      · simp [hu, hm]
      · rw [decide_eq_true hu, Bool.true_and, Bool.not_eq_true', List.any_eq_false]
        intro y hy hh
        obtain ⟨y1, y2⟩ := List.mem_filter.mp hy
        rw [Bool.and_eq_true] at y2
        have yl : y ∈ lots W.n := (mem_all y).mp (by simp [y1])
        have yu : y ∈ unfree W := List.mem_filter.mpr ⟨yl, y2.1⟩
        have e := isMax_iff.mp hm y yu hh
        subst e
        have o1 := (List.pairwise_append.mp (List.pairwise_append.mp ord).1).2.2 y y1 y (by simp)
        exact o1.2 rfl
    · rw [if_neg, if_neg]
      · rw [List.append_nil]
      · simp [hm]
      · rw [decide_eq_true hu, Bool.true_and, Bool.not_eq_true', List.any_eq_false]
        intro z
        obtain ⟨m, hm1, hh⟩ := max_over k8 8 x xu (by omega)
        obtain ⟨m1, m2⟩ := List.mem_filter.mp hm1
        obtain ⟨m3, m4⟩ := List.mem_filter.mp m1
        have nx : m ≠ x := fun e => hm (e ▸ m2)
        have lt := sub_lt (unfree_lot xu).up (unfree_lot m1).up hh nx
        -- m is longer: it stands before x in the reversed list
        have mi : m ∈ ls := by
          have := (mem_all m).mpr m3
          rw [List.append_assoc, List.mem_append, List.mem_append, List.mem_singleton] at this
          rcases this with h | h | h
          · exact h
          · exact absurd h nx
          · have o := (List.pairwise_append.mp ord).2.2 x (by simp) m h
            rcases keyLe_iff.mp o.1 with h | ⟨h, _⟩ <;> omega
        exact z m (List.mem_filter.mpr ⟨mi, by rw [m4, m2]; rfl⟩) hh
  · rw [if_neg, if_neg]
    · rw [List.append_nil]
    · simp [hu]
    · simp [hu]
theorem greatest_law {W : Web} (k8 : W.n ≤ 8) : greatest W = due W := by
  unfold greatest
  rw [gu_fold k8 (lots W.n).reverse [] (List.append_nil _)]
  have pd : (due W).Pairwise Bef := by
    unfold due unfree
    exact ((lots_bef W.n).sublist List.filter_sublist).sublist List.filter_sublist
  have nd : ((lots W.n).reverse.filter fun l => decide (0 < cost W l) && isMax (unfree W) l).Nodup := ((List.reverse_perm _).nodup_iff.mpr (lots_nd W.n)).sublist List.filter_sublist
  refine bef_eq ?_ pd fun x => ?_
  · refine List.Pairwise.and ?_ ((List.mergeSort_perm _ _).nodup_iff.mpr nd)
    refine List.pairwise_mergeSort (fun a b c => keyTot.trans a b c) (fun a b => ?_) _
    rcases keyTot.total a b with h | h <;> simp [h]
  · rw [List.mem_mergeSort, List.mem_filter, List.mem_reverse]
    unfold due
    rw [List.mem_filter, Bool.and_eq_true]
    show _ ↔ x ∈ List.filter _ _ ∧ _
    rw [List.mem_filter]
    exact ⟨fun ⟨h1, h2, h3⟩ => ⟨⟨h1, h2⟩, h3⟩, fun ⟨⟨h1, h2⟩, h3⟩ => ⟨h1, h2, h3⟩⟩
/-- free to lose, by all lots -/
noncomputable def innerL (W : Web) (lot : List Int) : List (List Int) := (lots W.n).filter fun one => decide ((one.filter fun a => !decide (a ∈ lot)) = []) && decide (0 < cost W one)
theorem freeLose_law (W : Web) (lot : List Int) : freeLose W lot = decide (innerL W lot = []) := by
  unfold freeLose innerL
  rw [Bool.eq_iff_iff, List.all_eq_true, decide_eq_true_eq, List.filter_eq_nil_iff]
  constructor
  · intro h l hl z
    rw [none_out, Bool.and_eq_true] at z
    have := h l (List.mem_filter.mpr ⟨hl, z.1⟩)
    have := of_decide_eq_true this
    have := of_decide_eq_true z.2
    omega
  · intro h l hl
    obtain ⟨h1, h2⟩ := List.mem_filter.mp hl
    have := h l h1
    rw [none_out, h2, Bool.true_and, decide_eq_true_eq] at this
    have := cost_nn W l
    (exact decide_eq_true (by omega))
end DW

/-! sorted(a tuple of ints) -/
namespace DW
open PySem PySem.Spec PyProof PyProof.Rows L2 RZ
open PySem.W (EachIs AllAlike Sortable dataLe alike alikeAll dataLt)
section
variable {prog : Program} {A : Around} {w : World} {s : Shared} {E : Value → Shared → Prop}
theorem collect_tup {t : Addr} {us : List Value} {R : List Value → Shared → Prop} (ht : IsTup s.heap t us.toArray) (hz : us.length ≤ sizeLine)
    (h : R us { s with heap := (s.heap.push (seqObj "list" #[] 0)).update s.heap.objs.size (Obj.mapSeq (· ++ us.toArray)) }) : wpAny (model prog w) A (collect (.ref t)) R E s := by
  obtain ⟨ob, e1, e2, m, e3⟩ := id ht
  unfold collect
  refine wpAny_bind (wpAny_runValue (codeAny_builtin entry_proto_collect' (show wpAny _ _ (do again (.builtin "list.__iadd__" ⟨[← newList [], .ref t], []⟩)) _ _ s from ?_)))
  refine wpAny_bind (wpAny_newList (wpAny_pure ⟨Code.quiet_builtin _ (by decide +kernel), codeAny_builtin entry_list_iadd' (show wpAny _ _ (Builtin.List.listExtendWith (.ref s.heap.objs.size) (.ref t) (.ref s.heap.objs.size)) _ _ { s with heap := s.heap.push (seqObj "list" #[] 0) } from ?_)⟩))
  have e1' := Heap.get?_push_of_some (seqObj "list" #[] 0) e1
  (unfold Builtin.List.listExtendWith)
  refine wpAny_bind (wpAny_typeOf (T := "tuple") ⟨ob, e1', e2⟩ ?_)
  rw [if_pos (by rw [show (Value.type "tuple" == Value.type "tuple") = true from rfl]; simp)]
  refine wpAny_bind (listItems_at e1' e3 (wpAny_bind (listItems_at (xs := #[]) (n := 0) (Heap.get?_push_size _ rfl) rfl ?_)))
  rw [if_neg (by simp)]
  refine wpAny_bind (listUpdate_at (xs := #[]) (n := 0) (Heap.get?_push_size _ rfl) rfl (wpAny_pure ?_) (Nat.zero_le _) (by
    show (#[] ++ us.toArray).size ≤ sizeLine + 1
    simp only [Array.size_append, List.size_toArray, List.length_nil]
    omega))
  refine wpAny_bind (m := load s.heap.objs.size) (wpAny_load (get?_update_seq (Heap.get?_push_size _ rfl) _) ?_)
  show wpAny (model prog w) A (pure ((#[] : Array Value) ++ us.toArray).toList) R E _
  rw [show ((#[] : Array Value) ++ us.toArray).toList = us by simp]
  exact wpAny_pure h
theorem sorted_tupI {t : Addr} {us : List Value} {ns : List Int} {Q : Value → Shared → Prop} (ht : IsTup s.heap t us.toArray) (e : EachIs (fun v (n : Int) => ∃ tk, v = .int n tk) us ns) (hz : ns.length ≤ sizeLine) (hu : A.units + 8 < cLine)
    (h : ∀ out, out.length = ns.length → EachIs (fun v (n : Int) => ∃ tk, v = .int n tk) out (ns.mergeSort (dataLe false fun n => .int n)) → Q (.ref (s.heap.objs.size + 1)) { s with heap := sortedAll s.heap us out.toArray }) :
    wpAny (model prog w) A (call (.builtin "sorted") [.ref t]) Q E s := by
  have hl : us.length ≤ sizeLine := by rw [e.length]; exact hz
  have rd : ∀ hp : Heap, EachIs (fun v (n : Int) => ∃ as, Reads hp v (.int n) as) us ns := fun hp => e.mono fun v n ⟨tk, q⟩ => ⟨[], by rw [q]; exact .int n tk⟩
  have al : AllAlike (ns.map fun n => PyData.int n) := .of fun _ _ => by simp [alike]
  have so : Sortable (ns.map fun n => PyData.int n) := .others fun b => ⟨fun z => (by cases z), fun xs z => (by cases z)⟩
  have bd : ∀ n, n ∈ ns → A.units + 2 + (PyData.int n).depth < cLine := fun n _ => by
    have : (PyData.int n).depth = 0 := by simp [PyData.depth]
    omega
  refine PyProof.Rows.call_function_entry_kw kind_sorted plain_sorted entry_sorted (args_sorted1 _) ?_
  unfold Builtin.«sorted»
  refine wpAny_bind (m := checkCount "sorted" 1 1 _) (wpAny_pure (wpAny_bind (collect_tup ht hl (wpAny_bind (wpAny_newList ?_ hl)))))
  have sz : ((s.heap.push (seqObj "list" #[] 0)).update s.heap.objs.size (Obj.mapSeq (· ++ us.toArray))).objs.size = s.heap.objs.size + 1 := (Heap.size_update ..).trans (size_push' ..)
  show wpAny _ _ _ _ _ { s with heap := PySem.W.copyHeap s.heap us }
  rw [sz]
  refine wpAny_bind (wpAny_holding (wpAny_call_entry_kw slot_list_sort ⟨_, PySem.W.copyHeap_at s.heap us, rfl⟩ entry_list_sort ?body (args_list_sort _)))
  refine wpAny_mono (PySem.W.list_sort_vals (s := { s with heap := PySem.W.copyHeap s.heap us }) (P := fun f s' => f = .done (.ret .none) ∧ Q (.ref (s.heap.objs.size + 1)) s') (PySem.W.copyHeap_at s.heap us)
    (PySem.W.SortsAt.data (s := { s with heap := PySem.W.sortingHeap (PySem.W.copyHeap s.heap us) (s.heap.objs.size + 1) us }) (PySem.W.each_map (R := fun v d => ∃ as, Reads (PySem.W.sortingHeap (PySem.W.copyHeap s.heap us) (s.heap.objs.size + 1) us) v d as) (fun n => PyData.int n) (rd _)) al so (PySem.W.bound_map bd)) hl
    ⟨rfl, h _ (by rw [PySem.W.sortVals_length false rfl]; exact e.length) (PySem.W.sortVals_data false e (rd _) al)⟩) (fun f s' ⟨e1, e2⟩ => ?_) fun _ _ z => z
  rw [e1]
  exact ⟨_, rfl, wpAny_pure ⟨_, rfl, e2⟩⟩
end
def rSortTI (T : List (Addr × Str)) : List V → Hp → VK → Prop := fun vs H Q => ∃ (ns : List Int) (B : Hp) (v : V), vs = [v] ∧ Xt T B H ∧ Da B v (.tuple (ns.map .int)) ∧ ∀ p, H p = none → Q (.ref p) (upd H p (.lst ((srt ns).map V.int)))
theorem cr_sortTI {X : Cx} {T : List (Addr × Str)} (hu : X.A.units + 64 < cLine) : CallR X (.builtin "sorted") (rSortTI T) := by
  (intro pins s σ H vs us Q I r h)
  obtain ⟨ns, B, v, rfl, u, hv, q⟩ := h
  obtain ⟨a, xs, rfl, ha, hd⟩ := hv.tupE
  have ex := hd.ints
  subst ex
  obtain rfl := Vals.ref1 r
  obtain ⟨its, rv, ht, hz⟩ := I.tuple (SqT.of (K := X.K) (u.tupAt ha))
  rw [List.length_map] at hz
  have ev : ∀ {us : List Value} {ns : List Int}, Vals (ns.map V.int) us → EachIs (fun v (n : Int) => ∃ tk, v = .int n tk) us ns := by
    intro us ns
    induction ns generalizing us with
    | nil =>
      intro h
      cases h
      exact .nil
    | cons n ns ih =>
      intro h
      cases h with
      | cons h1 h2 => exact .cons h1 (ih h2)
  have ve : ∀ {us : List Value} {ns : List Int}, EachIs (fun v (n : Int) => ∃ tk, v = .int n tk) us ns → Vals (ns.map V.int) us := by
    intro us ns h
    induction h with
    | nil => exact .nil
    | cons h1 _ ih => exact .cons h1 ih
  refine sorted_tupI ht (ev rv) hz (by omega) fun out ho eo => ?_
  have es : dataLe false (fun n : Int => PyData.int n) = fun a b => decide (a ≤ b) := PySem.W.dataLe_int (fun n : Int => n)
  rw [es] at eo
  obtain ⟨ep, he'⟩ := sortedAll_at s.heap its out.toArray
  refine ⟨.ref _, upd H (s.heap.objs.size + 1) (.lst ((srt ns).map V.int)), I.laid (t' := s.toks) (fun _ _ => sortedAll_old) (Nat.le_succ _) ⟨?_, out, ep, ve eo, he'⟩, rfl, q _ (I.hok.fresh (Nat.le_succ _))⟩
  rw [List.length_map]
  unfold srt
  rw [List.length_mergeSort]
  exact hz
section
variable {T : List (Addr × Str)} {X : Cx} {σ : L2.St} {B H : Hp} {a : Expr} {pos p : Pos} {k : Nat}
theorem d_sortedTI {ns : List Int} (hr : Room k X.A) (hm : X.mg "sorted" = none) (ha : Pe T X a σ B (.tuple (ns.map .int)))
    (hg : Gl X "sorted" := by rfl) (he : starEach [a] X.env = (false, eval a X.env) :: starEach [] X.env := by rfl) (hpl : (backTo pos (starEach [] X.env)).any (·.1) = false := by rfl) :
    Pe T X (.Call (.Name "sorted" p) [a] [] pos) σ B (.list ((srt ns).map .int)) :=
  d_callB (cr_sortTI (T := T) hr.units) hm (by decide +kernel) (a_cons ha a_nil he) (fun vs B1 H1 e1 tb hv Q q => by
    obtain ⟨v, rfl, hv'⟩ := hv.one
    exact ⟨ns, B1, v, rfl, e1, hv', fun p hn => q _ _ _ (.new (.refl e1 tb) hn) (.lst upd_same (DaAll.ofInts _))⟩) hg (he := he) (hpl := hpl)
end
end DW

/-! the law: rules and facts -/
namespace DW
open PySem PySem.Spec PyProof.Rows L2 RZ
theorem canLay_LL : ∀ ls : List (List Int), PyData.canLayAll0 (ls.map dT) = true
  | [] => (by simp [PyData.canLayAll0])
  | l :: ls => by
    rw [List.map_cons, PyData.canLayAll0, canLay_LL ls]
    show (PyData.canLay0 (.tuple (l.map .int)) && true) = true
    rw [PyData.canLay0, canLay_ints]
    rfl
theorem depth_LL : ∀ ls : List (List Int), PyData.depthAll (ls.map dT) ≤ 1
  | [] => (by simp [PyData.depthAll])
  | l :: ls => by
    have ih := depth_LL ls
    have e : (dT l).depth = 1 := by
      show PyData.depth (.tuple (l.map .int)) = 1
      rw [PyData.depth, PySem.W.depth_ints]
    rw [List.map_cons, PyData.depthAll, e]
    omega
theorem shaped_LL (ls : List (List Int)) : SeqAt.shaped (.list (ls.map dT)) = true := by
  have h := depth_LL ls
  have e : (PyData.list (ls.map dT)).depth ≤ 2 := by
    rw [PyData.depth]
    omega
  unfold SeqAt.shaped
  show (PyData.canLay0 (.list (ls.map dT)) && decide ((PyData.list (ls.map dT)).depth ≤ 64)) = true
  rw [PyData.canLay0, canLay_LL, decide_eq_true (by omega)]
  rfl
theorem eqv_LL (ls : List (List Int)) : PyData.eqv (.list (ls.map dT)) (.list []) = decide (ls = []) := by
  cases ls with
  | nil => simp [PyData.eqv, PyData.eqvAll]
  | cons l ls => simp [PyData.eqv, PyData.eqvAll]
abbrev kI (l : List Int) : List L2.Key := l.map .inl
theorem kI_kV (l : List Int) : (kI l).map kV = l.map V.int := by
  rw [List.map_map]
  rfl
theorem kI_inj : ∀ {l m : List Int}, kI l = kI m → l = m
  | [], [], _ => rfl
  | [], _ :: _, h => by cases h
  | _ :: _, [], h => by cases h
  | a :: l, b :: m, h => by
    have h' : (Sum.inl a : L2.Key) :: kI l = .inl b :: kI m := h
    rw [Sum.inl.inj (List.cons.inj h').1, kI_inj (List.cons.inj h').2]
section
variable {T : List (Addr × Str)} {X : Cx} {σ : L2.St} {B H : Hp} {a b c e key : Expr} {D : Ends} {d : PyData} {pos p p' px py : Pos} {k n i j : Nat} {ρ pd : Addr} {x y : Str} {Φ Ψ : PyData → Prop}
theorem d_cost {l : List Int} {z : Int} {kvs : List (List L2.Key × V)} (hu : X.A.units + 1 < cLine) (hs : σ[i]? = some (some (.ref pd))) (hB : B pd = some (.dT kvs)) (hk : valV kvs (kI l) = some (.int z)) (ha : Pe T X key σ B (dT l)) (hN : X.N[i]? = some x := by rfl)
    (hv : Vis X.env.scope x := by first | exact Or.inl rfl | exact Or.inr (Or.inl rfl) | exact Or.inr (Or.inr rfl)) (h1 : (x == ("__debug__" : Str)) = false := by decide) (h2 : (x == ("__classdict__" : Str)) = false := by decide) (hp : NoSl key := by exact fun _ _ => rfl) :
    Pe T X (.Subscript (.Name x px) key pos) σ B (.int z) := fun H1 e1 Q q =>
  PE.w (pe_dget hu (pe_var hN hv h1 h2) pe_w hp) ⟨.ref pd, hs, ha H1 e1 _ fun v B2 H2 g2 hv => by
    obtain ⟨b, xs, rfl, k1, k2⟩ := hv.tupE
    have ex := k2.ints
    subst ex
    refine ⟨pd, .int z, rfl, ?_, q _ _ H2 (lim_go e1 g2.h) (.int z)⟩
    rw [← hk]
    exact DGet.t (g2.h.dtAt (e1.dtAt hB)) (by rw [kI_kV]; exact g2.u.tupAt k1)⟩
theorem r_tupRR {m : Nat} (ha : Pr T X a σ B ρ Φ) (hb : ∀ B2, Xt T B B2 → Pr T X b σ B2 ρ Ψ) (hs : starEach [a, b] X.env = (false, eval a X.env) :: starEach [b] X.env := by rfl) (hs2 : starEach [b] X.env = (false, eval b X.env) :: starEach [] X.env := by rfl) : Pr T X (.Tuple [a, b] m pos) σ B ρ (fun d => ∃ d1 d2, d = .tuple [d1, d2] ∧ Φ d1 ∧ Ψ d2) := fun H1 e1 r Q q =>
  PE.w (pe_tup pa_w) (wa_cons (ha H1 e1 r _ fun v d1 B2 H2 hd rw hv => wa_cons (hb B2 rw.go.b H2 rw.go.u rw.row _ fun v' d2 B3 H3 hd' rw' hv' => wa_nil ⟨by show 2 ≤ sizeLine; decide, fun t ht => by
    have rw3 := rw.then rw'
    exact q _ _ _ _ ⟨d1, d2, rfl, hd, hd'⟩ (rw3.on ((Go.refl rw3.go.u rw3.go.b.tabs).new ht)) (.tup upd_same (.cons ((hv.mono rw'.go.b).mono (.newB rw3.go.u rw3.go.b.tabs ht)) (.cons (hv'.mono (.newB rw3.go.u rw3.go.b.tabs ht)) .nil)))⟩) hs2) hs)
theorem g_pairV {r : Addr} {v1 v2 : V} {Q : L2.St → Hp → Prop} (hr : SqT X.K H r [v1, v2]) (q : Q ((σ.set i (some v1)).set j (some v2)) H) (hN : X.N.Nodup) (hi : X.N[i]? = some x := by rfl) (hj : X.N[j]? = some y := by rfl)
    (hx : Loc X.env.scope x := by first | exact Or.inl rfl | exact Or.inr rfl) (hy : Loc X.env.scope y := by first | exact Or.inl rfl | exact Or.inr rfl)
    (hf : X.fn x = true ∨ X.env.scope.names.lookup x = some .local := by first | exact .inl rfl | exact .inr rfl) (hf' : X.fn y = true ∨ X.env.scope.names.lookup y = some .local := by first | exact .inl rfl | exact .inr rfl) (hc : X.calm = true := by rfl)
    (h1 : (assignEach [.Name x px, .Name y py] X.env).map (·.2) = assign (.Name x px) X.env :: (assignEach [.Name y py] X.env).map (·.2) := by rfl) (h2 : (assignEach [.Name y py] X.env).map (·.2) = assign (.Name y py) X.env :: (assignEach [] X.env).map (·.2) := by rfl)
    (h3 : (assignEach [.Name x px, .Name y py] X.env).length = 2 := by rfl) (h4 : (assignEach [.Name x px, .Name y py] X.env).findIdx? (·.1) = none := by rfl) : WG X (.Tuple [.Name x px, .Name y py] k pos) (.ref r) σ H Q :=
  PG.w (pg_tup hc (pgs_cons (pg_name hN hi hx hf) (pgs_cons (pg_name hN hj hy hf') pgs_nil h2) h1) h3 h4) ⟨r, _, rfl, hr, rfl, v1, [v2], rfl, v2, [], rfl, rfl, q⟩
end
abbrev s_law : Stmt := topS 50
abbrev lawN : List Str := ["_law_script", "_law_row", "_law_web_here", "_law_many", "_law_costs", "_law_lot_here", "_law_person", "_law_one", "_law_free", "_law_least", "_law_a", "_law_always", "_law_unfree", "_law_due", "_law_some", "_law_gone", "_law_rest_here", "_law_lows", "_law_piece", "_law_low", "_law_inner", "_law_less", "_law_more"]
theorem sc_law : FnScope lawN ["_law_script"] (defScope s_law) := ⟨rfl, rfl, rfl, by decide +kernel, rfl, by decide +kernel, by decide +kernel⟩
structure Ds (T : List (Addr × Str)) (P : Program) (w : World) (K : PySem.W.Frag) (mg : Str → Option Value) (base : Heap) : Prop where
  M : Mg mg
  lf : DefOk T P w K mg base "least_free_with" 7 R_lf
  guards : DefOk T P w K mg base "guards" 7 R_guards
  company : DefOk T P w K mg base "company" 7 R_company
  gu : DefOk T P w K mg base "greatest_unfree" 6 R_gu
  freers : DefOk T P w K mg base "freers" 6 R_freers
  leavers : DefOk T P w K mg base "leavers" 6 R_leavers
  culprits : DefOk T P w K mg base "culprits" 5 R_culprits
  ftl : DefOk T P w K mg base "is_free_to_lose" 6 R_ftl
  alike : DefOk T P w K mg base "_law_alike" 4 (R_alike 3)
  lis : DefOk T P w K mg base "_law_is" 1 R_lis
  llots : DefOk T P w K mg base "_law_lots" 1 R_llots
  ldeep : DefOk T P w K mg base "_law_deep" 3 R_ldeep
  taken : RowOk T P w K mg base "_law_taken" 1 Pre_taken R_taken
  llot : RowOk T P w K mg base "_law_lot" 2 Pre_llot R_llot
  lweb : RowOk T P w K mg base "_law_web" 2 Pre_lweb R_lweb
/-- what stands when the law compares -/
structure Lw (W : Web) (L : List Int) (p : Int) (kvs : List (List L2.Key × V)) (pd : Addr) (vw v5 : V) (B : Hp) : Prop where
  kw : WebOk W
  kl : LotOk W L
  p0 : 0 ≤ p
  p1 : p < W.n
  web : Da B vw (dW W)
  lot : Da B v5 (dT L)
  dict : B pd = some (.dT kvs)
  val : ∀ l ∈ lots W.n, valV kvs (kI l) = some (.int (cost W l))
theorem Lw.mono {T : List (Addr × Str)} {W : Web} {L : List Int} {p : Int} {kvs : List (List L2.Key × V)} {pd : Addr} {vw v5 : V} {B B' : Hp} (h : Lw W L p kvs pd vw v5 B) (x : Xt T B B') : Lw W L p kvs pd vw v5 B' := ⟨h.kw, h.kl, h.p0, h.p1, h.web.mono x, h.lot.mono x, x.dtAt h.dict, h.val⟩
end DW

/-! the law, from its end -/
namespace DW
open PySem PySem.Spec PyProof.Rows L2 RZ
section
variable {T : List (Addr × Str)} {P : Program} {w : World} {K : PySem.W.Frag} {mg : Str → Option Value} {base : Heap} {f : Addr} {cdv : Value} {A' : Around} {outer : List Env} {s : Shared} {Hs H0 B H : Hp} {E : XK} {Q : VK} {W : Web} {L : List Int} {p : Int} {kvs : List (List L2.Key × V)} {pd : Addr} {vw v5 : V}
abbrev lX (P : Program) (w : World) (K : PySem.W.Frag) (mg : Str → Option Value) (base : Heap) (f : Addr) (cdv : Value) (A' : Around) (outer : List Env) (s : Shared) (Hs : Hp) (E : XK) : Cx := (cxOf CX0 P w K mg base lawN "law" (defScope s_law) f cdv A' outer s Hs E).nox
abbrev lD (Q : VK) : Ends := { nx := fun _ H' => Q .non H', rt := Q }
theorem law_b4 (D : Ds T P w K mg base) (hr : Room 7 (A'.deeper (envOfC "law" (defScope s_law) s.heap.objs.size f cdv))) (q : ∀ H', Q (.bl true) H') (F : Lw W L p kvs pd vw v5 B) (g : Go T H0 H0 B H) {y0 y1 y7 y8 y9 y10 y11 y12 y13 y14 y15 y16 y17 y18 y19 y20 y21 y22 : Option V} :
    WB (lX P w K mg base f cdv A' outer s Hs E) ((defBody s_law).drop 19) (lD Q) [y0, y1, some vw, some (.int W.n), some (.ref pd), some v5, some (.int p), y7, y8, y9, y10, y11, y12, y13, y14, y15, y16, y17, y18, y19, y20, y21, y22] H := by
  have nd := sc_law.nd
  have M := D.M
  have kw := F.kw
  have kl := F.kl
  have n1 := kw.n1
  have n8 := kw.n8
  have l8 := kl.len8 n8
  have ll := lots_len n8
  have dl := deep_len (lot := L) kw
  have hu := hu_of hr
  refine b_cons (s_newA (i := 17) nd g fun r H3 a3 => ?_)
  refine b_cons (s_forA (xs := deep W L) (enc := dT) (fun σ' => ∃ y7 y18 y19, σ' = [y0, y1, some vw, some (.int W.n), some (.ref pd), some v5, some (.int p), y7, y8, y9, y10, y11, y12, y13, y14, y15, y16, some (.ref r), y18, y19, y20, y21, y22]) (fun n => (((deep W L).take n).map fun p => p.filter fun x => decide (W.num x = least W p)).map dT) a3 ⟨y7, y18, y19, rfl⟩
    (src_list (d_call D.ldeep hr (a_cons (d_var (n := 2) rfl F.web) (a_cons (d_var (n := 5) rfl F.lot) a_nil)) ⟨W, L, rfl, kw, kl, rfl⟩)) (fun n x v σ' B4 H4 hx hS xB a4 hv4 N hN => ?_) fun σ' B4 H4 hS xB a4 => ?_)
  · obtain ⟨y7, y18, y19, rfl⟩ := hS
    obtain ⟨z1, z2, z3⟩ := deep_mem n8 (List.mem_of_getElem? hx)
    have F4 := F.mono xB
    have fl : (((deep W L).take n).map fun p => p.filter fun x => decide (W.num x = least W p)).length ≤ 8 := by
      rw [List.length_map, List.length_take]
      omega
    rw [take_snoc hx, List.map_append] at hN
    generalize hF : ((deep W L).take n).map (fun p => p.filter fun x => decide (W.num x = least W p)) = G at hN a4 fl
    refine g_name (i := 18) (b_cons (s_set (i := 19) nd a4.go.u (d_min (ns := x.map W.num) M.min (Pe.is (d_map (j := 7) (xs := x) (enc := PyData.int) (fun x => .int (W.num x)) (src_tup (d_var (n := 18) rfl hv4)) (by omega) (blkOk_by (by kernel_rfl)) nd
      fun z hz v B6 x6 hv6 s H0 C cl fp => d_ixT (d_ixT (d_var (n := 2) rfl (F4.web.mono x6)) d_int (by rfl)) (d_var (n := 7) rfl hv6) (atI_num (z2 z hz).1 (z2 z hz).2)) ?_) ?_) fun v5' B5 H5 g5 hv5 => ?_)) nd
    · rw [List.map_map]
      rfl
    · exact fun e => z1 (List.map_eq_nil_iff.mp e)
    have a5 := a4.on g5
    have F5 := F4.mono g5.b
    have hv5' : Da B5 v5' (.int (least W x)) := hv5
    refine b_one (s_appA (i := 17) a5 rfl (by rw [List.length_map]; omega) (d_tuple M.tuple (d_lc (j := 7) (xs := x) (enc := PyData.int) (fun y => decide (W.num y = least W x)) .int (src_tup (d_var (n := 18) rfl (hv4.mono g5.b))) (by omega) (blkOk_by (by kernel_rfl)) nd
      (fun z hz v B6 x6 hv6 s H0 C cl fp => ts_one (t_eqI (d_ixT (d_ixT (d_var (n := 2) rfl (F5.web.mono x6)) d_int (by rfl)) (d_var (n := 7) rfl hv6) (atI_num (z2 z hz).1 (z2 z hz).2)) (d_var (n := 19) rfl (hv5'.mono x6)))) fun z hz _ v B6 x6 hv6 s H0 C cl fp => d_var (n := 7) rfl hv6)) fun B6 H6 x6 a6 => hN _ B6 H6 ⟨_, _, _, rfl⟩ (g5.b.trans x6) ?_)
    rw [List.map_append]
    exact a6
  · obtain ⟨y7, y18, y19, rfl⟩ := hS
    rw [List.take_length] at a4
    obtain ⟨Bt, gt, xt, ht⟩ := a4.show
    have Ft := F.mono (xB.trans xt)
    have lw : (lowsF W L).length ≤ 8 := by
      unfold lowsF
      rw [List.length_map]
      exact dl
    refine b_skip gt.u (Pt.is (t_not (t_val (d_call D.alike hr (a_cons (d_call D.culprits hr (a_cons (d_var (n := 2) rfl Ft.web) (a_cons (d_var (n := 5) rfl Ft.lot) a_nil)) ⟨W, L, rfl, kw, kl, rfl⟩) (a_cons (d_tuple M.tuple (d_var (n := 17) rfl ht)) a_nil)) ⟨_, rfl, .tup (fun d hd => ?_) ?_, rfl⟩))) rfl) fun H5 e5 u5 => ?_
    · obtain ⟨l, hl, rfl⟩ := List.mem_map.mp hd
      refine Pl.dT (n := 1) ?_
      obtain ⟨q1, hq1, rfl⟩ := List.mem_map.mp hl
      have := (deep_mem n8 hq1).2.2
      have := List.length_filter_le (fun x => decide (W.num x = least W q1)) q1
      omega
    · rw [List.length_map]
      omega
    · refine b_cons (Lc.set (n := 20) (lc_1 (j := 7) (xs := lots W.n) (enc := dT) (fun one => decide ((one.filter fun a => !decide (a ∈ L)) = []) && decide (0 < cost W one)) dT (src_list (d_call D.llots hr (a_cons (d_var (n := 3) rfl (.int W.n)) a_nil) ⟨W.n, rfl, by omega, n8, rfl⟩)) (by omega) (blkOk_by (by kernel_rfl)) nd
        (fun z hz v B6 x6 hv6 s H0 C cl fp => ts_one (t_w (w_and (Pt.is (t_eqD (k := 7) hr (d_lc (j := 10) (xs := z) (enc := PyData.int) (fun a => !decide (a ∈ L)) .int (src_tup (d_var (n := 7) rfl hv6)) ?_ (blkOk_by (by kernel_rfl)) nd
          (fun a ha v' B7 x7 hv7 s' H0' C' cl' fp' => ts_one (t_notIn (d_var (n := 10) rfl hv7) (d_var (n := 5) rfl ((Ft.mono x6).lot.mono x7)))) fun a ha _ v' B7 x7 hv7 s' H0' C' cl' fp' => d_var (n := 10) rfl hv7) (d_lst a_nil (by decide)) (shaped_dL _) (shaped_dL [])) (eqv_dL _ [])) fun _ =>
          w_and1 (t_gt (d_cost (i := 4) hu rfl (Ft.mono x6).dict (F.val z hz) (d_var (n := 7) rfl hv6)) d_int))))
        fun z hz _ v B6 x6 hv6 s H0 C cl fp => d_var (n := 7) rfl hv6)
        u5 (blkOk_by (by kernel_rfl)) nd (sw_true rfl rfl rfl (by decide +kernel)) fun v6 B6 H6 g6 hv6 => ?_)
      · have := (lots_ok hz).len8 n8
        omega
      · have F6 := Ft.mono g6.b
        refine b_one (s_ret g6.u (d_call D.lis hr (a_cons (d_call D.ftl hr (a_cons (d_var (n := 2) rfl F6.web) (a_cons (d_var (n := 5) rfl F6.lot) a_nil)) ⟨W, L, rfl, kw, kl, rfl⟩) (a_cons (d_eqD hr (d_var (n := 20) rfl hv6) (d_lst a_nil (by decide)) (shaped_LL _) (shaped_dL [])) a_nil)) ⟨freeLose W L, ?_, rfl⟩) fun v B7 H7 g7 hv7 => ?_)
        · have e : PyData.eqv (.list ((innerL W L).map dT)) (.list []) = freeLose W L := by rw [eqv_LL, freeLose_law]
          exact congrArg (fun b => [PyData.bool (freeLose W L), PyData.bool b]) e
        · rw [hv7.blE]
          exact q H7
end
end DW

namespace DW
open PySem PySem.Spec PyProof.Rows L2 RZ
theorem lot_mem {W : Web} {l : List Int} (h : LotOk W l) : l ∈ lots W.n := mem_lots.mpr ⟨h.ne, h.up, h.bd⟩
section
variable {T : List (Addr × Str)} {P : Program} {w : World} {K : PySem.W.Frag} {mg : Str → Option Value} {base : Heap} {f : Addr} {cdv : Value} {A' : Around} {outer : List Env} {s : Shared} {Hs H0 B H : Hp} {E : XK} {Q : VK} {W : Web} {L : List Int} {p : Int} {kvs : List (List L2.Key × V)} {pd : Addr} {vw v5 : V}
theorem law_b3 (D : Ds T P w K mg base) (hr : Room 7 (A'.deeper (envOfC "law" (defScope s_law) s.heap.objs.size f cdv))) (q : ∀ H', Q (.bl true) H') (F : Lw W L p kvs pd vw v5 B) (g : Go T H0 H0 B H) {y0 y1 y7 y8 y9 y10 y11 y12 y13 y14 y15 y16 y17 y18 y19 y20 y21 y22 : Option V} :
    WB (lX P w K mg base f cdv A' outer s Hs E) ((defBody s_law).drop 15) (lD Q) [y0, y1, some vw, some (.int W.n), some (.ref pd), some v5, some (.int p), y7, y8, y9, y10, y11, y12, y13, y14, y15, y16, y17, y18, y19, y20, y21, y22] H := by
  have nd := sc_law.nd
  have M := D.M
  have kw := F.kw
  have kl := F.kl
  have n1 := kw.n1
  have n8 := kw.n8
  have l8 := kl.len8 n8
  have hu := hu_of hr
  refine b_cons (s_set (i := 14) nd g.u (d_tuple M.tuple (d_lc (j := 10) (xs := irange W.n) (enc := PyData.int) (fun a => !decide (a ∈ L) && decide (cost W (srt (L ++ [a])) = 0)) .int (src_range M.range (d_var (n := 3) rfl (.int W.n)) (by omega) (by omega)) (by rw [irange_len]; omega) (blkOk_by (by kernel_rfl)) nd
    (fun z hz v B6 x6 hv6 s H0 C cl fp => ts_one (t_w (w_and (t_notIn (d_var (n := 10) rfl hv6) (d_var (n := 5) rfl (F.mono x6).lot)) fun hn => w_and1 (t_eqI (d_cost (l := srt (L ++ [z])) (i := 4) hu rfl (F.mono x6).dict (F.val _ (lot_mem (lotOk_add kl (by simpa using hn) (mem_irange.mp hz).1 (mem_irange.mp hz).2)))
      (d_tuple M.tuple (d_sortedTI (k := 7) hr M.sorted (Pe.is (d_catT (d_var (n := 5) rfl (F.mono x6).lot) (d_tup (a_cons (d_var (n := 10) rfl hv6) a_nil) (by simp)) ?_) ?_)))) d_int))))
    fun z hz _ v B6 x6 hv6 s H0 C cl fp => d_var (n := 10) rfl hv6)) fun v14 B1 H1 g1 hv14 => ?_)
  · rw [List.length_map, List.length_singleton]
    omega
  · rw [List.map_append]
    rfl
  have F1 := F.mono g1.b
  have G1 := g.trans g1
  have hv14' : Da B1 v14 (dT (freersF W L)) := hv14
  refine b_cons (s_set (i := 15) nd g1.u (d_lst a_nil (by decide)) fun v15 B2 H2 g2 hv15 => ?_)
  have F2 := F1.mono g2.b
  have G2 := G1.trans g2
  refine b_cons (s_for g2.u (src_tup (d_var (n := 5) rfl F2.lot)) fun B3 H3 g3 => ⟨fun i B' σ' H' => ∃ y7 y10 v15 y16, σ' = [y0, y1, some vw, some (.int W.n), some (.ref pd), some v5, some (.int p), y7, y8, y9, y10, y11, y12, y13, some v14, some v15, y16, y17, y18, y19, y20, y21, y22] ∧ Go T H0 H0 B' H' ∧ Xt T B2 B' ∧
      Da B' v15 (.list (((L.take i).filter fun p => !decide (without L p = []) && decide (cost W (without L p) ≤ cost W L)).map .int)),
    ⟨y7, y10, v15, y16, rfl, G2.trans g3, g3.b, hv15.mono g3.b⟩, fun i d v B' σ' H' B4 H4 hd hI x1 x2 g4 hvd => ?_, fun B' σ' H' x1 x2 hI => ?_⟩)
  · obtain ⟨y7, y10, v15, y16, rfl, gI, xI, hI⟩ := hI
    rw [List.getElem?_map] at hd
    obtain ⟨x, hx, rfl⟩ := Option.map_eq_some_iff.mp hd
    obtain rfl := hvd.intE
    have G4 := gI.trans g4
    have F4 := F2.mono (xI.trans g4.b)
    have h15 := hI.mono g4.b
    have fl : ((L.take i).filter fun p => !decide (without L p = []) && decide (cost W (without L p) ≤ cost W L)).length ≤ 8 := by
      refine Nat.le_trans (List.length_filter_le _ _) ?_
      rw [List.length_take]
      omega
    have fs := filter_step (fun p => !decide (without L p = []) && decide (cost W (without L p) ≤ cost W L)) hx
    generalize hF : (L.take i).filter (fun p => !decide (without L p = []) && decide (cost W (without L p) ≤ cost W L)) = G at h15 fl fs
    refine g_name (i := 10) (b_cons (s_set (i := 16) nd g4.u (d_tuple M.tuple (d_lc (j := 7) (xs := L) (enc := PyData.int) (fun y => !decide (y = x)) .int (src_tup (d_var (n := 5) rfl F4.lot)) (by omega) (blkOk_by (by kernel_rfl)) nd
      (fun z hz v B6 x6 hv6 s H0 C cl fp => ts_one (t_neI (d_var (n := 7) rfl hv6) (d_var (n := 10) rfl (.int x)))) fun z hz _ v B6 x6 hv6 s H0 C cl fp => d_var (n := 7) rfl hv6)) fun v16 B5 H5 g5 hv16 => ?_)) nd
    have F5 := F4.mono g5.b
    have h16 : Da B5 v16 (dT (without L x)) := hv16
    refine b_one (s_set (i := 15) nd g5.u (d_catL (d_var (n := 15) rfl (h15.mono g5.b)) (d_ifExp (d := .list ((if (!decide (without L x = []) && decide (cost W (without L x) ≤ cost W L)) = true then [x] else []).map .int)) (t_w (w_and (x := !decide (without L x = [])) (Pt.is (t_neD hr (d_var (n := 16) rfl h16) (d_tup a_nil (by decide)) (shaped_dT _) (shaped_dT [])) ?_) fun hn =>
        w_and1 (t_le (d_cost (i := 4) hu rfl F5.dict (F.val _ (lot_mem (lotOk_without kl (by simpa using hn)))) (d_var (n := 16) rfl h16)) (d_cost (i := 4) hu rfl F5.dict (F.val _ (lot_mem kl)) (d_var (n := 5) rfl F5.lot)))))
      (fun hc => Pe.is (d_lst (a_cons (d_var (n := 10) rfl (.int x)) a_nil) (by simp)) (by rw [if_pos hc]; rfl)) fun hc => Pe.is (d_lst a_nil (by decide)) (by rw [if_neg (by rw [hc]; exact Bool.false_ne_true)]; rfl)) ?_) fun v17 B6 H6 g6 hv17 => ?_)
    · show (!PyData.eqv (dT (without L x)) (dT [])) = _
      rw [eqv_dT]
    · rw [List.length_map, List.length_map]
      split
      · rw [List.length_singleton]
        omega
      · rw [List.length_nil]
        omega
    · refine ⟨B6, ((x1.trans g4.b).trans g5.b).trans g6.b, g6.u, y7, some (.int x), v17, some v16, rfl, (G4.trans g5).trans g6, ((xI.trans g4.b).trans g5.b).trans g6.b, ?_⟩
      rw [fs, List.map_append]
      exact hv17
  · obtain ⟨y7, y10, v15, y16, rfl, gI, xI, hI⟩ := hI
    rw [List.length_map, List.take_length] at hI
    have FI := F2.mono xI
    have h15 : Da B' v15 (.list ((leaversF W L).map .int)) := hI
    have lf8 : (freersF W L).length ≤ 8 := by
      refine Nat.le_trans (List.length_filter_le _ _) ?_
      rw [irange_len]
      omega
    have lv8 : (leaversF W L).length ≤ 8 := Nat.le_trans (List.length_filter_le _ _) l8
    refine b_skip gI.u (Pt.is (t_not (t_val (d_call D.alike hr (a_cons (d_lst (a_cons (d_call D.freers hr (a_cons (d_var (n := 2) rfl FI.web) (a_cons (d_var (n := 5) rfl FI.lot) a_nil)) ⟨W, L, rfl, kw, kl, rfl⟩) (a_cons (d_call D.leavers hr (a_cons (d_var (n := 2) rfl FI.web) (a_cons (d_var (n := 5) rfl FI.lot) a_nil)) ⟨W, L, rfl, kw, kl, rfl⟩) a_nil)) (by simp))
      (a_cons (d_lst (a_cons (d_var (n := 14) rfl (hv14'.mono (g2.b.trans xI))) (a_cons (d_tuple M.tuple (d_var (n := 15) rfl h15)) a_nil)) (by simp)) a_nil)) ⟨_, rfl, .lst (fun d hd => ?_) (by simp), rfl⟩))) rfl) fun H5 e5 u5 => ?_
    · rcases List.mem_cons.mp hd with e | hd
      · rw [e]
        exact Pl.dT (n := 1) (by omega)
      · rw [List.mem_singleton.mp hd]
        exact Pl.dT (n := 1) (by omega)
    · exact law_b4 D hr q FI (gI.ext e5)
end
end DW

namespace DW
open PySem PySem.Spec PyProof.Rows L2 RZ
section
variable {T : List (Addr × Str)} {P : Program} {w : World} {K : PySem.W.Frag} {mg : Str → Option Value} {base : Heap} {f : Addr} {cdv : Value} {A' : Around} {outer : List Env} {s : Shared} {Hs H0 B H : Hp} {E : XK} {Q : VK} {W : Web} {L : List Int} {p : Int} {kvs : List (List L2.Key × V)} {pd : Addr} {vw v5 : V}
theorem law_b2 (D : Ds T P w K mg base) (hr : Room 7 (A'.deeper (envOfC "law" (defScope s_law) s.heap.objs.size f cdv))) (q : ∀ H', Q (.bl true) H') (F : Lw W L p kvs pd vw v5 B) (g : Go T H0 H0 B H) {y0 y1 y7 y8 y9 y10 y11 y12 y13 y14 y15 y16 y17 y18 y19 y20 y21 y22 : Option V} :
    WB (lX P w K mg base f cdv A' outer s Hs E) ((defBody s_law).drop 11) (lD Q) [y0, y1, some vw, some (.int W.n), some (.ref pd), some v5, some (.int p), y7, y8, y9, y10, y11, y12, y13, y14, y15, y16, y17, y18, y19, y20, y21, y22] H := by
  have nd := sc_law.nd
  have M := D.M
  have kw := F.kw
  have n1 := kw.n1
  have n8 := kw.n8
  have ll := lots_len n8
  have hu := hu_of hr
  have ul : (unfree W).length ≤ 256 := Nat.le_trans (List.length_filter_le _ _) ll
  refine b_cons (Lc.set (n := 12) (lc_1 (j := 7) (xs := lots W.n) (enc := dT) (fun one => decide (0 < cost W one)) dT (src_list (d_call D.llots hr (a_cons (d_var (n := 3) rfl (.int W.n)) a_nil) ⟨W.n, rfl, by omega, n8, rfl⟩)) (by omega) (blkOk_by (by kernel_rfl)) nd
    (fun z hz v B6 x6 hv6 s H0 C cl fp => ts_one (t_gt (d_cost (i := 4) hu rfl (F.mono x6).dict (F.val z hz) (d_var (n := 7) rfl hv6)) d_int))
    fun z hz _ v B6 x6 hv6 s H0 C cl fp => d_var (n := 7) rfl hv6)
    g.u (blkOk_by (by kernel_rfl)) nd (sw_true rfl rfl rfl (by decide +kernel)) fun v12 B1 H1 g1 hv12 => ?_)
  have F1 := F.mono g1.b
  have h12 : Da B1 v12 (.list ((unfree W).map dT)) := hv12
  refine b_cons (s_newA (i := 13) nd (g.trans g1) fun r H3 a3 => ?_)
  refine b_cons (s_forA (xs := unfree W) (enc := dT) (fun σ' => ∃ y7, σ' = [y0, y1, some vw, some (.int W.n), some (.ref pd), some v5, some (.int p), y7, y8, y9, y10, y11, some v12, some (.ref r), y14, y15, y16, y17, y18, y19, y20, y21, y22]) (fun n => (((unfree W).take n).filter (isMax (unfree W))).map dT) a3 ⟨y7, rfl⟩
    (src_list (d_var (n := 12) rfl h12)) (fun n x v σ' B4 H4 hx hS xB a4 hv4 N hN => ?_) fun σ' B4 H4 hS xB a4 => ?_)
  · obtain ⟨y7, rfl⟩ := hS
    have F4 := F1.mono xB
    have h12' := h12.mono xB
    have x8 := (unfree_lot (List.mem_of_getElem? hx)).len8 n8
    have fl : (((unfree W).take n).filter (isMax (unfree W))).length ≤ 256 := by
      refine Nat.le_trans (List.length_filter_le _ _) ?_
      rw [List.length_take]
      omega
    rw [filter_step _ hx] at hN
    generalize hF : ((unfree W).take n).filter (isMax (unfree W)) = G at hN a4 fl
    refine g_name (i := 7) (b_one (s_if (t := isMax (unfree W) x) a4.go.u (Pt.is (t_eqD hr (d_lc (j := 22) (xs := unfree W) (enc := dT) (fun more => !decide (more = x) && decide ((x.filter fun a => !decide (a ∈ more)) = [])) dT (src_list (d_var (n := 12) rfl h12')) (by omega) (blkOk_by (by kernel_rfl)) nd
      (fun z hz v B6 x6 hv6 s H0 C cl fp => ts_one (t_w (w_and (x := !decide (z = x)) (Pt.is (t_neD (k := 7) hr (d_var (n := 22) rfl hv6) (d_var (n := 7) rfl (hv4.mono x6)) (shaped_dT z) (shaped_dT x)) (by rw [eqv_dT])) fun _ =>
        w_and1 (Pt.is (t_eqD (k := 7) hr (d_lc (j := 10) (xs := x) (enc := PyData.int) (fun a => !decide (a ∈ z)) .int (src_tup (d_var (n := 7) rfl (hv4.mono x6))) (by omega) (blkOk_by (by kernel_rfl)) nd
          (fun a ha v' B7 x7 hv7 s' H0' C' cl' fp' => ts_one (t_notIn (d_var (n := 10) rfl hv7) (d_var (n := 22) rfl (hv6.mono x7)))) fun a ha _ v' B7 x7 hv7 s' H0' C' cl' fp' => d_var (n := 10) rfl hv7) (d_lst a_nil (by decide)) (shaped_dL _) (shaped_dL [])) (eqv_dL _ [])))))
      fun z hz _ v B6 x6 hv6 s H0 C cl fp => d_var (n := 22) rfl hv6) (d_lst a_nil (by decide)) (shaped_LL _) (shaped_dL [])) (eqv_LL _)) (fun hc H5 e5 => ?_) fun hc H5 e5 => ?_)) nd
    · refine b_one (s_appA (i := 13) (a4.ext e5) rfl (by rw [List.length_map]; omega) (d_var (n := 7) rfl hv4) fun B6 H6 x6 a6 => hN _ B6 H6 ⟨_, rfl⟩ x6 ?_)
      rw [if_pos hc, List.map_append]
      exact a6
    · refine b_nil (hN _ B4 H5 ⟨_, rfl⟩ a4.go.b.self (by rw [if_neg (by rw [hc]; exact Bool.false_ne_true), List.append_nil]; exact a4.ext e5))
  · obtain ⟨y7, rfl⟩ := hS
    rw [List.take_length] at a4
    obtain ⟨Bt, gt, xt, ht⟩ := a4.show
    have Ft := F1.mono (xB.trans xt)
    have ht' : Da Bt (.ref r) (.list ((greatest W).map dT)) := by
      rw [greatest_law n8]
      exact ht
    have dl : (due W).length ≤ 256 := Nat.le_trans (List.length_filter_le _ _) ul
    refine b_skip gt.u (Pt.is (t_not (t_val (d_call D.alike hr (a_cons (d_call D.gu hr (a_cons (d_var (n := 2) rfl Ft.web) a_nil) ⟨W, rfl, kw, rfl⟩) (a_cons (d_var (n := 13) rfl ht') a_nil)) ⟨_, rfl, .lst (fun d hd => ?_) ?_, rfl⟩))) rfl) fun H5 e5 u5 => ?_
    · obtain ⟨l, hl, rfl⟩ := List.mem_map.mp hd
      rw [greatest_law n8] at hl
      have := (unfree_lot (List.mem_filter.mp hl).1).len8 n8
      exact Pl.dT (n := 1) (by omega)
    · rw [List.length_map, greatest_law n8]
      omega
    · exact law_b3 D hr q Ft (gt.ext e5)
end
end DW

namespace DW
open PySem PySem.Spec PyProof.Rows L2 RZ
theorem llStep_or (b : List (List Int)) (x : List Int) : llStep b x = b ++ [x] ∨ llStep b x = b := by
  unfold llStep
  split
  · exact .inl rfl
  · exact .inr rfl
section
variable {T : List (Addr × Str)} {P : Program} {w : World} {K : PySem.W.Frag} {mg : Str → Option Value} {base : Heap} {f : Addr} {cdv : Value} {A' : Around} {outer : List Env} {s : Shared} {Hs H0 B H : Hp} {E : XK} {Q : VK} {W : Web} {L : List Int} {p : Int} {kvs : List (List L2.Key × V)} {pd : Addr} {vw v5 : V}
theorem law_b1 (D : Ds T P w K mg base) (hr : Room 7 (A'.deeper (envOfC "law" (defScope s_law) s.heap.objs.size f cdv))) (q : ∀ H', Q (.bl true) H') (F : Lw W L p kvs pd vw v5 B) (g : Go T H0 H0 B H) {y0 y1 y7 y8 y9 y10 y11 y12 y13 y14 y15 y16 y17 y18 y19 y20 y21 y22 : Option V} :
    WB (lX P w K mg base f cdv A' outer s Hs E) ((defBody s_law).drop 5) (lD Q) [y0, y1, some vw, some (.int W.n), some (.ref pd), some v5, some (.int p), y7, y8, y9, y10, y11, y12, y13, y14, y15, y16, y17, y18, y19, y20, y21, y22] H := by
  have nd := sc_law.nd
  have M := D.M
  have kw := F.kw
  have n1 := kw.n1
  have n8 := kw.n8
  have ll := lots_len n8
  have hu := hu_of hr
  have fl0 : (freeL W p).length ≤ 256 := Nat.le_trans (List.length_filter_le _ _) ll
  have fm : ∀ {x : List Int}, x ∈ freeL W p → x.length ≤ 8 := fun hx => (lots_ok (List.mem_filter.mp hx).1).len8 n8
  refine b_cons (s_set (i := 8) nd g.u (d_lc (j := 7) (xs := lots W.n) (enc := dT) (isFree W p) dT (src_list (d_call D.llots hr (a_cons (d_var (n := 3) rfl (.int W.n)) a_nil) ⟨W.n, rfl, by omega, n8, rfl⟩)) (by omega) (blkOk_by (by kernel_rfl)) nd
    (fun z hz v B6 x6 hv6 s H0 C cl fp => ts_one (t_w (w_and (t_eqI (d_cost (i := 4) hu rfl (F.mono x6).dict (F.val z hz) (d_var (n := 7) rfl hv6)) d_int) fun _ => w_and1 (t_in (d_var (n := 6) rfl (.int p)) (d_var (n := 7) rfl hv6)))))
    fun z hz _ v B6 x6 hv6 s H0 C cl fp => d_var (n := 7) rfl hv6) fun v8 B1 H1 g1 hv8 => ?_)
  have F1 := F.mono g1.b
  have h8 : Da B1 v8 (.list ((freeL W p).map dT)) := hv8
  refine b_cons (s_newA (i := 9) nd (g.trans g1) fun r H3 a3 => ?_)
  refine b_cons (s_forA (xs := freeL W p) (enc := dT) (fun σ' => ∃ y7, σ' = [y0, y1, some vw, some (.int W.n), some (.ref pd), some v5, some (.int p), y7, some v8, some (.ref r), y10, y11, y12, y13, y14, y15, y16, y17, y18, y19, y20, y21, y22]) (fun n => (((freeL W p).take n).foldl llStep []).map dT) a3 ⟨y7, rfl⟩
    (src_list (d_var (n := 8) rfl h8)) (fun n x v σ' B4 H4 hx hS xB a4 hv4 N hN => ?_) fun σ' B4 H4 hS xB a4 => ?_)
  · obtain ⟨y7, rfl⟩ := hS
    obtain ⟨Bu, uu, xu, hu'⟩ := a4.read
    have fl := fold_grow llStep_or ((freeL W p).take n) []
    rw [List.length_take] at fl
    have fl' : (((freeL W p).take n).foldl llStep []).length ≤ 256 := by
      have : ([] : List (List Int)).length = 0 := rfl
      omega
    rw [foldl_take _ _ hx] at hN
    have mF : ∀ l ∈ ((freeL W p).take n).foldl llStep [], l.length ≤ 8 := fun l hl => by
      rcases fold_mem llStep_or _ _ l hl with h | h
      · cases h
      · exact fm (List.mem_of_mem_take h)
    generalize hF : ((freeL W p).take n).foldl llStep [] = G at hN a4 hu' fl' mF
    refine g_name (i := 7) (b_one (s_if (t := !G.any (holdsB x)) uu (Pt.is (t_eqD hr (d_lc (j := 21) (xs := G) (enc := dT) (holdsB x) dT (src_list (d_var (n := 9) rfl hu')) (by omega) (blkOk_by (by kernel_rfl)) nd
      (fun z hz v B6 x6 hv6 s H0 C cl fp => ts_one (Pt.is (t_eqD (k := 7) hr (d_lc (j := 10) (xs := z) (enc := PyData.int) (fun a => !decide (a ∈ x)) .int (src_tup (d_var (n := 21) rfl hv6)) ?_ (blkOk_by (by kernel_rfl)) nd
          (fun a ha v' B7 x7 hv7 s' H0' C' cl' fp' => ts_one (t_notIn (d_var (n := 10) rfl hv7) (d_var (n := 7) rfl (((hv4.mono xu).mono x6).mono x7)))) fun a ha _ v' B7 x7 hv7 s' H0' C' cl' fp' => d_var (n := 10) rfl hv7) (d_lst a_nil (by decide)) (shaped_dL _) (shaped_dL [])) ?_))
      fun z hz _ v B6 x6 hv6 s H0 C cl fp => d_var (n := 21) rfl hv6) (d_lst a_nil (by decide)) (shaped_LL _) (shaped_dL [])) ?_) (fun hc H5 e5 => ?_) fun hc H5 e5 => ?_)) nd
    · have := mF z hz
      omega
    · rw [← none_out]
      exact eqv_dL _ []
    · rw [eqv_LL, none_any]
    · have es : llStep G x = G ++ [x] := if_pos hc
      refine b_one (s_appA (i := 9) (a4.ext e5) rfl (by rw [List.length_map]; omega) (d_var (n := 7) rfl hv4) fun B6 H6 x6 a6 => hN _ B6 H6 ⟨_, rfl⟩ x6 ?_)
      rw [es, List.map_append]
      exact a6
    · have es : llStep G x = G := if_neg (by rw [hc]; exact Bool.false_ne_true)
      refine b_nil (hN _ B4 H5 ⟨_, rfl⟩ a4.go.b.self (by rw [es]; exact a4.ext e5))
  · obtain ⟨y7, rfl⟩ := hS
    rw [List.take_length, least_law] at a4
    obtain ⟨Bt, gt, xt, ht⟩ := a4.show
    have xx := xB.trans xt
    have Ft := F1.mono xx
    have ne := leastFree_ne kw F.p0 F.p1
    have ln := leastFree_len (p := p) n8
    obtain ⟨m, rest, e⟩ : ∃ m rest, leastFree W p = m :: rest := by
      cases h : leastFree W p with
      | nil => exact absurd h ne
      | cons m rest => exact ⟨m, rest, rfl⟩
    have ch := company_head e
    have at0 : atI ((leastFree W p).map dT) 0 = some (dT m) := by rw [e]; exact atI_zero _ _
    refine b_skip gt.u (Pt.is (t_not (t_val (d_call D.alike hr (a_cons (d_lst (a_cons (d_call D.lf hr (a_cons (d_var (n := 2) rfl Ft.web) (a_cons (d_var (n := 6) rfl (.int p)) a_nil)) ⟨W, p, rfl, kw, ⟨F.p0, F.p1⟩, rfl⟩) (a_cons (Pe.is (d_call D.company hr (a_cons (d_var (n := 2) rfl Ft.web) (a_cons (d_var (n := 6) rfl (.int p)) a_nil)) ⟨W, p, rfl, kw, ⟨F.p0, F.p1⟩, ne, rfl⟩) (by rw [ch])) a_nil)) (by simp))
      (a_cons (d_lst (a_cons (d_var (n := 9) rfl ht) (a_cons (Pe.is (d_len M.len (d_ixL (d_var (n := 9) rfl ht) d_int at0)) (by rw [List.length_map])) a_nil)) (by simp)) a_nil)) ⟨_, rfl, .lst (fun d hd => ?_) (by simp), rfl⟩))) rfl) fun H5 e5 u5 => ?_
    · rcases List.mem_cons.mp hd with e | hd
      · rw [e]
        refine .lst (fun d hd => ?_) (by rw [List.length_map]; omega)
        obtain ⟨l, hl, rfl⟩ := List.mem_map.mp hd
        have := fm (leastFree_free hl)
        exact Pl.dT (n := 0) (by omega)
      · rw [List.mem_singleton.mp hd]
        exact .int _ _
    · have g5 := gt.ext e5
      have h8' := h8.mono xx
      refine b_cons (s_set (i := 11) nd g5.u (d_tuple M.tuple (d_lc (j := 10) (xs := irange W.n) (enc := PyData.int) (fun a => !decide (a = p) && decide (((freeL W p).filter fun l => !decide (a ∈ l)) = [])) .int (src_range M.range (d_var (n := 3) rfl (.int W.n)) (by omega) (by omega)) (by rw [irange_len]; omega) (blkOk_by (by kernel_rfl)) nd
        (fun z hz v B6 x6 hv6 s H0 C cl fp => ts_one (t_w (w_and (t_neI (d_var (n := 10) rfl hv6) (d_var (n := 6) rfl (.int p))) fun _ => w_and1 (Pt.is (t_eqD (k := 7) hr (d_lc (j := 7) (xs := freeL W p) (enc := dT) (fun l => !decide (z ∈ l)) dT (src_list (d_var (n := 8) rfl (h8'.mono x6))) (by omega) (blkOk_by (by kernel_rfl)) nd
          (fun a ha v' B7 x7 hv7 s' H0' C' cl' fp' => ts_one (t_notIn (d_var (n := 10) rfl (hv6.mono x7)) (d_var (n := 7) rfl hv7))) fun a ha _ v' B7 x7 hv7 s' H0' C' cl' fp' => d_var (n := 7) rfl hv7) (d_lst a_nil (by decide)) (shaped_LL _) (shaped_dL [])) (eqv_LL _)))))
        fun z hz _ v B6 x6 hv6 s H0 C cl fp => d_var (n := 10) rfl hv6)) fun v11 B6 H6 g6 hv11 => ?_)
      have F6 := Ft.mono g6.b
      have h11 : Da B6 v11 (dT (guardsF W p)) := by
        rw [guards_law]
        exact hv11
      refine b_skip g6.u (Pt.is (t_not (t_val (d_call D.alike hr (a_cons (d_call D.guards hr (a_cons (d_var (n := 2) rfl F6.web) (a_cons (d_var (n := 6) rfl (.int p)) a_nil)) ⟨W, p, rfl, kw, ⟨F.p0, F.p1⟩, rfl⟩) (a_cons (d_var (n := 11) rfl h11) a_nil)) ⟨_, rfl, Pl.dT (n := 2) ?_, rfl⟩))) rfl) fun H7 e7 u7 => ?_
      · have : (guardsF W p).length ≤ (irange W.n).length := List.length_filter_le _ _
        rw [irange_len] at this
        omega
      · exact law_b2 D hr q F6 ((g5.trans g6).ext e7)
end
end DW

/-! the law, whole -/
namespace DW
open PySem PySem.Spec PyProof.Rows L2 RZ
/-- while the costs are written: n lots are done -/
structure Cs (T : List (Addr × Str)) (K : PySem.W.Frag) (H0 : Hp) (ρ pd : Addr) (W : Web) (B H : Hp) (n : Nat) : Prop where
  go : Go T H0 H0 B H
  nr : Fr0 H0 ρ
  row : RowAt K B H ρ
  ne : pd ≠ ρ
  np : Fr0 H0 pd
  nB : Fr0 B pd
  dk : ∃ kvs : List (List L2.Key × V), H pd = some (.dT kvs) ∧ kvs.length ≤ n ∧ ∀ l ∈ (lots W.n).take n, valV kvs (kI l) = some (.int (cost W l))
section
variable {T : List (Addr × Str)} {K : PySem.W.Frag} {H0 B H B2 H2 : Hp} {ρ pd : Addr} {W : Web} {n : Nat}
theorem Cs.on (c : Cs T K H0 ρ pd W B H n) (g : Go T B H B2 H2) : Cs T K H0 ρ pd W B2 H2 n := by
  obtain ⟨kvs, h1, h2⟩ := c.dk
  exact ⟨c.go.trans g, c.nr, c.row.on g, c.ne, c.np, g.prd pd c.nB h1, kvs, g.h.dtAt h1, h2⟩
theorem Cs.put (c : Cs T K H0 ρ pd W B H n) {x : List Int} (hx : (lots W.n)[n]? = some x) {kvs : List (List L2.Key × V)} (h : H pd = some (.dT kvs)) (hl : kvs.length ≤ n) (hv : ∀ l ∈ (lots W.n).take n, valV kvs (kI l) = some (.int (cost W l))) : Cs T K H0 ρ pd W B (upd H pd (.dT (putK kvs (kI x) (.int (cost W x))))) (n + 1) := by
  refine ⟨c.go.mut c.np c.nB h dt_nt dt_nc, c.nr, ?_, c.ne, c.np, c.nB, _, upd_same, ?_, fun l hm => ?_⟩
  · obtain ⟨sa, ss, pp, sd, t, k1, k2⟩ := c.row.ex
    exact ⟨c.row.nB, sa, ss, pp, sd, t, by rw [upd_ne c.ne.symm]; exact k1, k2⟩
  · have := length_putK kvs (kI x) (V.int (cost W x))
    omega
  · rw [valV_put]
    by_cases e : kI l = kI x
    · rw [if_pos e, kI_inj e]
    · rw [if_neg e]
      rw [take_snoc hx, List.mem_append, List.mem_singleton] at hm
      rcases hm with hm | hm
      · exact hv l hm
      · exact absurd (by rw [hm]) e
theorem s_asgR {X : Cx} {σ : L2.St} {tg e : Expr} {D : Ends} {Φ : PyData → Prop} {pos : Pos} (u : Xt T B H) (r : RowAt X.K B H ρ) (h : Pr T X e σ B ρ Φ) (q : ∀ v d B2 H2, Φ d → Rw T X.K B H ρ B2 H2 → Da B2 v d → WG X tg v σ H2 D.nx) (hs : swapsWithSole [tg] e pos.line X.env = pure false := by rfl) (hw : swappedStores [tg] e X.env = pure none := by rfl)
    (h1 : (assignEach [tg] X.env).map (·.2) = [assign tg X.env] := by rfl) : WS X (.Assign [tg] e pos) D σ H := PS.w (ps_asg pe_w pg_w hs hw h1) (h H u r _ fun v d B2 H2 hd g hv => q v d B2 H2 hd g hv)
end
def spLaw (T : List (Addr × Str)) (K : PySem.W.Frag) : Sp := fun vs H Q _ => ∃ (a : Addr) (ns : List Int), vs = [.ref a] ∧ SqL K H a (ns.map V.int) ∧ LamX.Tabs T H ∧ ∀ H', Q (.bl true) H'
section
variable {T : List (Addr × Str)} {P : Program} {w : World} {K : PySem.W.Frag} {mg : Str → Option Value} {base : Heap} {f : Addr} {fd : FuncData}
theorem law_a (D : Ds T P w K mg base) {cdv : Value} {A' : Around} {outer : List Env} {s : Shared} {H : Hp} {E : XK} {Q : VK} (hr : Room 7 (A'.deeper (envOfC "law" (defScope s_law) s.heap.objs.size f cdv))) (q : ∀ H', Q (.bl true) H') {a : Addr} {ns : List Int} (hS : SqL K H a (ns.map V.int)) (tb : LamX.Tabs T H) :
    WB (lX P w K mg base f cdv A' outer s H E) (defBody s_law) (lD Q) (start lawN [.ref a]) H := by
  have nd := sc_law.nd
  have M := D.M
  have hu := hu_of hr
  have go0 : Go T H H H H := .refl (.refl tb) tb
  refine b_cons (PS.w (ps_set (i := 1) nd rfl (.inl rfl) (pe_lst pa_w)) (wa_cons (PE.w (pe_var (i := 0) rfl (by first | exact Or.inl rfl | exact Or.inr (Or.inl rfl) | exact Or.inr (Or.inr rfl)) (by decide) (by decide)) ⟨.ref a, rfl, wa_cons (PE.w pe_int (wa_cons (PE.w pe_int (wa_cons (PE.w pe_int (wa_nil ⟨by show 4 ≤ sizeLine; decide, fun ρ nr => ?_⟩))))))⟩)))
  have g1 : Go T H H H (upd H ρ (.lst [.ref a, .int 0, .int 4827, .int 0])) := go0.mine nr
  have nH : Fr0 H ρ := .of nr
  have row1 : RowAt K H (upd H ρ (.lst [.ref a, .int 0, .int 4827, .int 0])) ρ := ⟨nH, a, ns, 0, 4827, 0, upd_same, hS, by decide, by decide, by decide, by decide⟩
  refine b_cons (s_setR (i := 2) (ρ := ρ) nd g1.u row1 (r_call D.lweb hr (i := 1) rfl (a_cons d_int (a_cons d_int a_nil)) rfl) fun vw d B2 H2 hd rw2 hv2 => ?_)
  obtain ⟨W, rfl, kw, n6⟩ := hd
  have n1 := kw.n1
  have n8 := kw.n8
  have ll := lots_len n8
  have g2 : Go T H H B2 H2 := g1.row nH rw2.go
  refine b_cons (PS.w (ps_asg (pe_tup pa_w) pg_w) (wa_cons (Pe.at (Pe.is (d_len M.len (d_ixT (d_var (n := 2) rfl hv2) d_int (by rfl))) (by rw [lenW])) g2.u fun v3 B3 H3 g3 hv3 => wa_cons (PE.w pe_dnewT fun pd hp => wa_nil ⟨by show 2 ≤ sizeLine; decide, fun t ht => g_pairV (i := 3) (j := 4) (.of upd_same) ?_ nd⟩))))
  obtain rfl := hv3.intE
  have npt : pd ≠ t := by
    rintro rfl
    rw [upd_same] at ht
    cases ht
  have g3' := g2.trans g3
  have row3 := rw2.row.on g3
  have g4 := g3'.mine (o := .dT []) hp
  have g5 := g4.mine (o := .tup [.int W.n, .ref pd]) ht
  have pr : pd ≠ ρ := by
    rintro rfl
    obtain ⟨sa, ss, pp, sd, tt, k1, _⟩ := row3.ex
    rw [hp] at k1
    cases k1
  have c5 : Cs T K H ρ pd W B3 (upd (upd H3 pd (.dT [])) t (.tup [.int W.n, .ref pd])) 0 := by
    refine ⟨g5, nH, (row3.ext (.new g3'.u.tabs hp)).ext (.new g4.u.tabs ht), pr, g3'.h.free hp, g3'.u.free hp, [], ?_, Nat.le_refl _, fun l hl => by cases hl⟩
    rw [upd_ne npt, upd_same]
  have hw3 := hv2.mono g3.b
  refine b_cons (s_for c5.go.u (src_list (d_call D.llots hr (a_cons (d_var (n := 3) rfl (.int W.n)) a_nil) ⟨W.n, rfl, by omega, n8, rfl⟩)) fun B6 H6 g6 => ⟨fun i B' σ' H' => ∃ y5, σ' = [some (.ref a), some (.ref ρ), some vw, some (.int W.n), some (.ref pd), y5, none, none, none, none, none, none, none, none, none, none, none, none, none, none, none, none, none] ∧ Cs T K H ρ pd W B' H' i,
    ⟨none, rfl, c5.on g6⟩, fun i d v B' σ' H' B4 H4 hd hI x1 x2 g4 hvd => ?_, fun B' σ' H' x1 x2 hI => ?_⟩)
  · obtain ⟨y5, rfl, c⟩ := hI
    rw [List.getElem?_map] at hd
    obtain ⟨x, hx, rfl⟩ := Option.map_eq_some_iff.mp hd
    have xm := List.mem_of_getElem? hx
    have hi : i < 256 := by
      have := (List.getElem?_eq_some_iff.mp hx).1
      omega
    have c4 := c.on g4
    have hw4 := hw3.mono ((g6.b.trans x1).trans g4.b)
    refine g_name (i := 5) (b_one (PS.w (ps_dput hu (pe_var (i := 4) rfl (by first | exact Or.inl rfl | exact Or.inr (Or.inl rfl) | exact Or.inr (Or.inr rfl)) (by decide) (by decide)) (pe_var (i := 5) rfl (by first | exact Or.inl rfl | exact Or.inr (Or.inl rfl) | exact Or.inr (Or.inr rfl)) (by decide) (by decide)) pe_w (by rfl))
      (Pe.at (d_len M.len (d_call D.ldeep hr (a_cons (d_var (n := 2) rfl hw4) (a_cons (d_var (n := 5) rfl hvd) a_nil)) ⟨W, x, rfl, kw, lots_ok xm, rfl⟩)) c4.go.u fun v7 B7 H7 g7 hv7 => ⟨.ref pd, rfl, v, rfl, pd, ?_⟩))) nd
    have c7 := c4.on g7
    obtain ⟨kvs, k1, k2, k3⟩ := c7.dk
    obtain ⟨b, xs, rfl, m1, m2⟩ := (hvd.mono g7.b).tupE
    have ex := m2.ints
    subst ex
    rw [List.length_map] at hv7
    have hv7' : v7 = .int (cost W x) := hv7.intE
    subst hv7'
    refine ⟨_, rfl, DPut.t (k := kI x) k1 (by rw [kI_kV]; exact g7.u.tupAt m1) (Nat.lt_of_le_of_lt (by omega : kvs.length ≤ 256) (by decide)), B7, (x1.trans g4.b).trans g7.b, ?_, _, rfl, c7.put hx k1 k2 k3⟩
    exact (c7.put hx k1 k2 k3).go.u
  · obtain ⟨y5, rfl, c⟩ := hI
    rw [List.length_map] at c
    obtain ⟨kvs, k1, k2, k3⟩ := c.dk
    rw [List.take_length] at k3
    have nb := c.go.u.telling c.go.b.tabs c.nB k1 dt_nt
    have gt := c.go.tell c.np nb k1
    have rt : RowAt K (upd B' pd (.dT kvs)) H' ρ := by
      obtain ⟨sa, ss, pp, sd, t, z1, z2, z3⟩ := c.row.ex
      exact ⟨c.row.nB.upd_ne pr.symm, sa, ss, pp, sd, t, z1, ex_l nb z2, z3⟩
    have hwt := hw3.mono ((g6.b.trans x1).trans nb)
    refine b_cons (s_asgR (ρ := ρ) gt.u rt (r_tupRR (ρ := ρ) (r_call D.taken hr (i := 1) rfl (a_cons (d_var (n := 3) rfl (.int W.n)) a_nil) ⟨W.n, rfl, n1, by omega⟩) (fun B9 x9 => r_call D.llot hr (i := 1) rfl (a_cons (d_var (n := 3) rfl (.int W.n)) a_nil) ⟨W.n, rfl, n1, n8⟩)) fun v d B8 H8 hd rw8 hv8 => ?_)
    obtain ⟨d1, d2, rfl, ⟨m, p, e1, rfl, p0, p1⟩, ⟨m', L, e2, rfl, l1, l2, l3⟩⟩ := hd
    cases e1
    cases e2
    have g8 := gt.row nH rw8.go
    refine g_pair (i := 6) (j := 5) g8.u hv8 (fun w1 w2 q1 q2 => ?_) nd
    obtain rfl := q1.intE
    exact law_b1 D hr q ⟨kw, ⟨l1, l2, l3⟩, p0, p1, hwt.mono rw8.go.b, q2, rw8.go.b.dtAt upd_same, k3⟩ g8
theorem ok_law (F : Fun K "law" "law" s_law f fd) (D : Ds T P w K mg base) : FnOk P w K mg base CX0 8 f fd ["_law_script"] (spLaw T K) :=
  F.ok sc_law (fun vs H Q E ⟨a, ns, e, _⟩ => by rw [e]; rfl) fun cdv A outer s H vs Q E hr ⟨a, ns, e, hS, tb, q⟩ => ⟨_, pss_w, by
    subst e
    exact law_a D hr q hS tb⟩
end
end DW

/-! the end: what the top has written -/
namespace DW
open PySem PySem.Spec PyProof.Rows L2 RZ
/-- what is told of a def's code object -/
def TabOf (mg : Str → Option Value) (h : Heap) (x : Str) : Prop := ∃ a o fd c P, mg x = some (.ref a) ∧ h.get? a = some o ∧ o.data = .func fd ∧ fd.code = .ref c ∧ h.IsCode c P #[] ∧ h.TableAt c P #[]
theorem walk_mine {law : PySem.W.OpenLaw} {most lev : Nat} {prog : Program} {loose : List Str} {XP : (Str → Option Value) → Heap → Prop} {YP : World → Heap → Prop} {d : DefRec} {K : Params → PySem.W.Frag} {CX : World → CXT} {x : Str}
    (hm : law.most = some most) (hs : most ≤ sizeLine) (hdf : d.params.defaults = []) (hr : Room lev callerA) (hY : ∀ (w : World) (hp : Heap), YP w hp → (K w.params).In hp)
    (F : ∀ (w : World) (mg : Str → Option Value) (fa : Addr) (hp : Heap), (K w.params).In hp → hp.Ns mainGlobals mg → mg d.name = some (.ref fa) → (∀ y : Str, ((recsOf prog).any fun e => e.name == y) = true → TabOf mg hp y) → LamX.LawAtS law w (K w.params) (CX w) lev most x mg fa hp)
    (hC : ∀ (w : World) (H : Hp) (s t : Shared) (e : Value), CX w [] H s (fun _ _ _ => False) e t → False) :
    PySem.W.WalkO prog loose XP YP law.row.toRowW d [] (fun g us => PySem.call g us) := by
  refine Att.attach_callB hm hdf fun w before now mg mb fa ob pm cd doc a us ns G Y got hd hcd hmg hobj hints hlen hbits hg => ?_
  have inK := hY w _ Y
  obtain ⟨fd, cs, sp, hT, nT, C, hb, hsp, hF⟩ := F w mg fa _ inK G.T.g hmg fun y hy => by
    obtain ⟨dL, hm, e⟩ := List.any_eq_true.mp hy
    obtain rfl : dL.name = y := beq_iff_eq.mp e
    exact G.T.tab dL hm
  exact LamX.law_callTs inK G.T.g G.T.b G.T.builtins G.T.nolimit hg hT nT C G.T.bmain hobj hints (Nat.le_trans hlen hs) hr hF hb (fun H hH hS => hsp H a ns hlen hbits hH hS) fun H e t => hC w H now t e
/-- a def that the top has written -/
def Hd (K : PySem.W.Frag) (x : Str) (st : Stmt) : Prop := ∃ (f : Addr) (oc kV dc pm cd ct : Value) (od an : Option Addr) (sl : Array (Option Value)),
  PySem.W.nsIn K mainGlobals x = some (some (.ref f)) ∧ K.lookup f = some ⟨oc, od, .func (PySem.W.fnOf x x (defArgs st) (defBody st) (defScope st) .none kV dc pm an cd ct), sl⟩ ∧ PySem.W.codeIn K cd x = true ∧ PySem.W.keepIn K (.ref f) = true
theorem hd_mk {K : PySem.W.Frag} {x : Str} {st : Stmt} {f : Addr} {oc kV dc pm cd ct : Value} {od an : Option Addr} {sl : Array (Option Value)} (a : PySem.W.nsIn K mainGlobals x = some (some (.ref f)))
    (l : K.lookup f = some ⟨oc, od, .func (PySem.W.fnOf x x (defArgs st) (defBody st) (defScope st) .none kV dc pm an cd ct), sl⟩) (c : PySem.W.codeIn K cd x = true) (k : PySem.W.keepIn K (.ref f) = true) : Hd K x st := ⟨f, oc, kV, dc, pm, cd, ct, od, an, sl, a, l, c, k⟩
theorem Hd.at_ {K : PySem.W.Frag} {x : Str} {st : Stmt} {h : Heap} {mg : Str → Option Value} (d : Hd K x st) (X : K.In h) (G : h.Ns mainGlobals mg) : ∃ f fd, At K mg x st f fd := by
  obtain ⟨f, oc, kV, dc, pm, cd, ct, od, an, sl, a, l, c, k⟩ := d
  exact ⟨f, _, fun_mk l c k, PySem.W.mg_of X G a⟩
/-- the same, its code object and that one's table named -/
def HdC (K : PySem.W.Frag) (x : Str) (st : Stmt) (c P : Addr) : Prop := ∃ (f : Addr) (oc kV dc pm ct e : Value) (od an dd : Option Addr) (sl sl' : Array (Option Value)) (vs : Array Value),
  PySem.W.nsIn K mainGlobals x = some (some (.ref f)) ∧ K.lookup f = some ⟨oc, od, .func (PySem.W.fnOf x x (defArgs st) (defBody st) (defScope st) .none kV dc pm an (.ref c) ct), sl⟩ ∧ PySem.W.codeIn K (.ref c) x = true ∧ PySem.W.keepIn K (.ref f) = true ∧
  K.lookup c = some ⟨e, dd, .fields vs, sl'⟩ ∧ vs[11]? = some (.ref P) ∧ K.lookup P = none
theorem hdc_mk {K : PySem.W.Frag} {x : Str} {st : Stmt} {c P f : Addr} {oc kV dc pm ct e : Value} {od an dd : Option Addr} {sl sl' : Array (Option Value)} {vs : Array Value} (a : PySem.W.nsIn K mainGlobals x = some (some (.ref f)))
    (l : K.lookup f = some ⟨oc, od, .func (PySem.W.fnOf x x (defArgs st) (defBody st) (defScope st) .none kV dc pm an (.ref c) ct), sl⟩) (ci : PySem.W.codeIn K (.ref c) x = true) (k : PySem.W.keepIn K (.ref f) = true)
    (lc : K.lookup c = some ⟨e, dd, .fields vs, sl'⟩) (v : vs[11]? = some (.ref P)) (n : K.lookup P = none) : HdC K x st c P := ⟨f, oc, kV, dc, pm, ct, e, od, an, dd, sl, sl', vs, a, l, ci, k, lc, v, n⟩
theorem HdC.at_ {K : PySem.W.Frag} {x : Str} {st : Stmt} {c P : Addr} {h : Heap} {mg : Str → Option Value} (d : HdC K x st c P) (X : K.In h) (G : h.Ns mainGlobals mg) (t : TabOf mg h x) :
    (∃ f fd, At K mg x st f fd ∧ fd.code = .ref c) ∧ h.get? P = some { cls := .none, data := .fields #[] } ∧ K.lookup P = none ∧ PySem.W.CodeHd h c P := by
  obtain ⟨f, oc, kV, dc, pm, ct, e, od, an, dd, sl, sl', vs, a, l, cI, k, lc, l11, lP⟩ := d
  have m := PySem.W.mg_of X G a
  obtain ⟨a', o', fd', c', P', h1, h2, h3, h4, h5, h6⟩ := t
  rw [m] at h1
  cases h1
  have g1 := X _ _ l
  rw [g1] at h2
  cases h2
  cases h3
  have ec : (Value.ref c) = .ref c' := h4
  cases ec
  have hc := PySem.W.CodeHd.of h5 h6
  obtain ⟨⟨ob, vc, e1, _, e3, e4⟩, hP⟩ := h6
  have g2 := X _ _ lc
  rw [g2] at e1
  cases e1
  cases e3
  rw [l11] at e4
  cases e4
  exact ⟨⟨f, _, ⟨fun_mk l cI k, m⟩, rfl⟩, hP, lP, hc⟩
theorem tabs_of {T : List (Addr × Str)} {H : Hp} (h : ∀ p ∈ T, H p.1 = some (.tbl #[])) : LamX.Tabs T H := fun p hp => ⟨#[], h p hp, by
  first
    | exact trivial
    | exact .nil
    | (intro z hz; cases hz)
    | simp [TriplesOk], fun pos cv hc => by
  first
    | cases hc
    | simp [codeAmong] at hc⟩
end DW

/-! the end: the facts put together -/
namespace DW
open PySem PySem.Spec PyProof.Rows L2 RZ
theorem end_mk {l : PySem.W.OpenLaw} {w : World} {K : PySem.W.Frag} {h : Heap} {mg : Str → Option Value} {fa c1 P1 c2 P2 : Addr} {tk1 tk2 : Tok} (X : K.In h) (G : h.Ns mainGlobals mg) (hfa : mg "law" = some (.ref fa)) (T1 : TabOf mg h "lots_of") (T2 : TabOf mg h "greatest_unfree")
    (D1 : HdC K "lots_of" s_lots_of c1 P1) (D2 : HdC K "greatest_unfree" s_gu c2 P2) (hP : P1 ≠ P2)
    (d0 : Hd K "is_int" s_is_int)
    (d1 : Hd K "is_from" s_is_from)
    (d2 : Hd K "is_tie" s_is_tie)
    (d3 : Hd K "need_web" s_need_web)
    (d4 : Hd K "everybody" s_everybody)
    (d5 : Hd K "tied_to" s_tied_to)
    (d6 : Hd K "hanging" s_hanging)
    (d7 : Hd K "need_lot" s_need_lot)
    (d8 : Hd K "need_person" s_need_person)
    (d9 : Hd K "parts_of" s_parts_of)
    (d10 : Hd K "others" s_others)
    (d11 : Hd K "border_of" s_border_of)
    (d12 : Hd K "least_of" s_least_of)
    (d13 : Hd K "is_deep" s_is_deep)
    (d14 : Hd K "deep_of" s_deep_of)
    (d15 : Hd K "cost_of" s_cost_of)
    (d16 : Hd K "holds" s_holds)
    (d17 : Hd K "least_free_with_of" s_lfw)
    (d18 : Hd K "least_free_with" s_lf)
    (d19 : Hd K "guards" s_guards)
    (d20 : Hd K "company" s_company)
    (d21 : Hd K "freers" s_freers)
    (d22 : Hd K "leavers" s_leavers)
    (d23 : Hd K "culprits" s_culprits)
    (d24 : Hd K "is_free_to_lose" s_ftl)
    (d25 : Hd K "_law_taken" s_taken)
    (d26 : Hd K "_law_alike" s_alike)
    (d27 : Hd K "_law_is" s_lis)
    (d28 : Hd K "_law_web" s_lweb)
    (d29 : Hd K "_law_ties" s_lties)
    (d30 : Hd K "_law_parts" s_lparts)
    (d31 : Hd K "_law_rest" s_lrest)
    (d32 : Hd K "_law_border" s_lborder)
    (d33 : Hd K "_law_deep" s_ldeep)
    (d34 : Hd K "_law_lots" s_llots)
    (d35 : Hd K "_law_lot" s_llot)
    (d36 : Hd K "law" s_law)
    (z0 : PySem.W.nsIn K mainGlobals "len" = some none)
    (z1 : PySem.W.nsIn K mainGlobals "all" = some none)
    (z2 : PySem.W.nsIn K mainGlobals "any" = some none)
    (z3 : PySem.W.nsIn K mainGlobals "tuple" = some none)
    (z4 : PySem.W.nsIn K mainGlobals "list" = some none)
    (z5 : PySem.W.nsIn K mainGlobals "range" = some none)
    (z6 : PySem.W.nsIn K mainGlobals "sorted" = some none)
    (z7 : PySem.W.nsIn K mainGlobals "min" = some none)
    (z8 : PySem.W.nsIn K mainGlobals "zip" = some none)
    (z9 : PySem.W.nsIn K mainGlobals "enumerate" = some none)
    (z10 : PySem.W.nsIn K mainGlobals "isinstance" = some none)
    (z11 : PySem.W.nsIn K mainGlobals "int" = some none)
    (z12 : PySem.W.nsIn K mainGlobals "bool" = some none)
    (z13 : PySem.W.nsIn K mainGlobals "str" = some none)
    (k1 : PySem.W.nsIn K mainGlobals "MOST_PERSONS" = some (some (.int 8 tk1))) (k2 : PySem.W.nsIn K mainGlobals "MOST_VALUE" = some (some (.int 1000 tk2))) :
    LamX.LawAtS l w K CX0 8 63 "_law_script" mg fa h := by
  obtain ⟨⟨f1, fd1, A1, q1⟩, hp1, n1, C1⟩ := D1.at_ X G T1
  obtain ⟨⟨f2, fd2, A2, q2⟩, hp2, n2, C2⟩ := D2.at_ X G T2
  obtain ⟨g0, gd0, a0⟩ := d0.at_ X G
  obtain ⟨g1, gd1, a1⟩ := d1.at_ X G
  obtain ⟨g2, gd2, a2⟩ := d2.at_ X G
  obtain ⟨g3, gd3, a3⟩ := d3.at_ X G
  obtain ⟨g4, gd4, a4⟩ := d4.at_ X G
  obtain ⟨g5, gd5, a5⟩ := d5.at_ X G
  obtain ⟨g6, gd6, a6⟩ := d6.at_ X G
  obtain ⟨g7, gd7, a7⟩ := d7.at_ X G
  obtain ⟨g8, gd8, a8⟩ := d8.at_ X G
  obtain ⟨g9, gd9, a9⟩ := d9.at_ X G
  obtain ⟨g10, gd10, a10⟩ := d10.at_ X G
  obtain ⟨g11, gd11, a11⟩ := d11.at_ X G
  obtain ⟨g12, gd12, a12⟩ := d12.at_ X G
  obtain ⟨g13, gd13, a13⟩ := d13.at_ X G
  obtain ⟨g14, gd14, a14⟩ := d14.at_ X G
  obtain ⟨g15, gd15, a15⟩ := d15.at_ X G
  obtain ⟨g16, gd16, a16⟩ := d16.at_ X G
  obtain ⟨g17, gd17, a17⟩ := d17.at_ X G
  obtain ⟨g18, gd18, a18⟩ := d18.at_ X G
  obtain ⟨g19, gd19, a19⟩ := d19.at_ X G
  obtain ⟨g20, gd20, a20⟩ := d20.at_ X G
  obtain ⟨g21, gd21, a21⟩ := d21.at_ X G
  obtain ⟨g22, gd22, a22⟩ := d22.at_ X G
  obtain ⟨g23, gd23, a23⟩ := d23.at_ X G
  obtain ⟨g24, gd24, a24⟩ := d24.at_ X G
  obtain ⟨g25, gd25, a25⟩ := d25.at_ X G
  obtain ⟨g26, gd26, a26⟩ := d26.at_ X G
  obtain ⟨g27, gd27, a27⟩ := d27.at_ X G
  obtain ⟨g28, gd28, a28⟩ := d28.at_ X G
  obtain ⟨g29, gd29, a29⟩ := d29.at_ X G
  obtain ⟨g30, gd30, a30⟩ := d30.at_ X G
  obtain ⟨g31, gd31, a31⟩ := d31.at_ X G
  obtain ⟨g32, gd32, a32⟩ := d32.at_ X G
  obtain ⟨g33, gd33, a33⟩ := d33.at_ X G
  obtain ⟨g34, gd34, a34⟩ := d34.at_ X G
  obtain ⟨g35, gd35, a35⟩ := d35.at_ X G
  obtain ⟨f, oc, kV, dc, pm, cd, ct, od, an, sl, aL, lL, cL, kL⟩ := d36
  have eL := hfa.symm.trans (PySem.W.mg_of X G aL)
  cases eL
  have M : Mg mg := ⟨PySem.W.mg_none_of X G z0, PySem.W.mg_none_of X G z1, PySem.W.mg_none_of X G z2, PySem.W.mg_none_of X G z3, PySem.W.mg_none_of X G z4, PySem.W.mg_none_of X G z5, PySem.W.mg_none_of X G z6, PySem.W.mg_none_of X G z7, PySem.W.mg_none_of X G z8, PySem.W.mg_none_of X G z9, PySem.W.mg_none_of X G z10, PySem.W.mg_none_of X G z11, PySem.W.mg_none_of X G z12, PySem.W.mg_none_of X G z13⟩
  let T : List (Addr × Str) := [(P1, ("lots_of" : Str) ++ ".<locals>." ++ "<lambda>"), (P2, ("greatest_unfree" : Str) ++ ".<locals>." ++ "<lambda>")]
  have m1 : ∀ p ∈ T, p.1 = P1 → p.2 = ("lots_of" : Str) ++ ".<locals>." ++ "<lambda>" := fun p hp e => by
    rcases List.mem_cons.mp hp with h | h
    · rw [h]
    · rw [List.mem_singleton.mp h] at e
      exact absurd e.symm hP
  have m2 : ∀ p ∈ T, p.1 = P2 → p.2 = ("greatest_unfree" : Str) ++ ".<locals>." ++ "<lambda>" := fun p hp e => by
    rcases List.mem_cons.mp hp with h | h
    · rw [h] at e
      exact absurd e hP
    · rw [List.mem_singleton.mp h]
  refine ⟨PySem.W.fnOf "law" "law" (defArgs s_law) (defBody s_law) (defScope s_law) .none kV dc pm an cd ct, [(c1, P1), (c2, P2)], spLaw T K, ?_, ?_, ?_, fun s v => .of_eq rfl, fun H a ns hl hb ht hS => ⟨a, ns, rfl, hS, tabs_of ?_, fun _ => rfl⟩, fun base hK hG hTB => ?_⟩
  · intro p hp
    rcases List.mem_cons.mp hp with h | h
    · rw [h]; exact hp1
    · rw [List.mem_singleton.mp h]; exact hp2
  · intro p hp
    rcases List.mem_cons.mp hp with h | h
    · rw [h]; exact n1
    · rw [List.mem_singleton.mp h]; exact n2
  · intro p hp
    rcases List.mem_cons.mp hp with h | h
    · rw [h]; exact C1
    · rw [List.mem_singleton.mp h]; exact C2
  · intro p hp
    rcases List.mem_cons.mp hp with h | h
    · rw [h]; exact ht (c1, P1) (by simp)
    · rw [List.mem_singleton.mp h]; exact ht (c2, P2) (by simp)
  have TB1 := hTB (c1, P1) (by simp)
  have TB2 := hTB (c2, P2) (by simp)
  have e_is_int : DefOk T l.prog w K mg base "is_int" 1 R_is_int := ok_is_int a0 M
  have e_is_from : DefOk T l.prog w K mg base "is_from" 2 R_is_from := ok_is_from a1 M e_is_int
  have e_is_tie : DefOk T l.prog w K mg base "is_tie" 3 R_is_tie := ok_is_tie a2 M e_is_from
  have e_everybody : DefOk T l.prog w K mg base "everybody" 1 R_everybody := ok_everybody a4 M
  have e_tied_to : DefOk T l.prog w K mg base "tied_to" 1 R_tied_to := ok_tied_to a5 M
  have e_hanging : DefOk T l.prog w K mg base "hanging" 2 R_hanging := ok_hanging a6 M e_tied_to
  have e_need_web : DefOk T l.prog w K mg base "need_web" 4 R_need_web := ok_need_web a3 M (PySem.W.mg_of X G k1) (PySem.W.mg_of X G k2) e_is_from e_is_tie e_everybody e_hanging
  have e_need_lot : DefOk T l.prog w K mg base "need_lot" 3 R_need_lot := ok_need_lot a7 M e_is_from
  have e_need_person : DefOk T l.prog w K mg base "need_person" 3 R_need_person := ok_need_person a8 M e_is_from
  have e_parts_of : DefOk T l.prog w K mg base "parts_of" 3 R_parts_of := ok_parts_of a9 M e_hanging
  have e_others : DefOk T l.prog w K mg base "others" 2 R_others := ok_others a10 M e_everybody
  have e_border_of : DefOk T l.prog w K mg base "border_of" 2 R_border_of := ok_border_of a11 M e_tied_to
  have e_least_of : DefOk T l.prog w K mg base "least_of" 1 R_least_of := ok_least_of a12 M
  have e_is_deep : DefOk T l.prog w K mg base "is_deep" 3 R_is_deep := ok_is_deep a13 M e_least_of e_border_of
  have e_deep_of : DefOk T l.prog w K mg base "deep_of" 4 R_deep_of := ok_deep_of a14 M e_parts_of e_others e_is_deep
  have e_cost_of : DefOk T l.prog w K mg base "cost_of" 5 R_cost_of := ok_cost_of a15 M e_deep_of
  have e_lots_of : DefOk T l.prog w K mg base "lots_of" 1 R_lots_of := ok_lots_of A1 q1 TB1 (by simp [T]) m1 M
  have e_holds : DefOk T l.prog w K mg base "holds" 1 R_holds := ok_holds a16 M
  have e_lfw : DefOk T l.prog w K mg base "least_free_with_of" 6 R_lfw := ok_lfw a17 M e_lots_of e_cost_of e_holds
  have e_lf : DefOk T l.prog w K mg base "least_free_with" 7 R_lf := ok_lf a18 M e_need_web e_need_person e_lfw
  have e_guards : DefOk T l.prog w K mg base "guards" 7 R_guards := ok_guards a19 M e_need_web e_need_person e_lfw
  have e_company : DefOk T l.prog w K mg base "company" 7 R_company := ok_company a20 M e_need_web e_need_person e_lfw
  have e_gu : DefOk T l.prog w K mg base "greatest_unfree" 6 R_gu := ok_gu A2 q2 TB2 (by simp [T]) m2 M e_need_web e_lots_of e_cost_of e_holds
  have e_freers : DefOk T l.prog w K mg base "freers" 6 R_freers := ok_freers a21 M e_need_web e_need_lot e_cost_of
  have e_leavers : DefOk T l.prog w K mg base "leavers" 6 R_leavers := ok_leavers a22 M e_need_web e_need_lot e_cost_of
  have e_culprits : DefOk T l.prog w K mg base "culprits" 5 R_culprits := ok_culprits a23 M e_need_web e_need_lot e_deep_of
  have e_ftl : DefOk T l.prog w K mg base "is_free_to_lose" 6 R_ftl := ok_ftl a24 M e_need_web e_need_lot e_lots_of e_cost_of e_holds
  have e_alike : DefOk T l.prog w K mg base "_law_alike" 4 (R_alike 3) := ok_alike a26 M 3
  have e_lis : DefOk T l.prog w K mg base "_law_is" 1 R_lis := ok_lis a27 M
  have e_llots : DefOk T l.prog w K mg base "_law_lots" 1 R_llots := ok_llots a34 M
  have e_lties : DefOk T l.prog w K mg base "_law_ties" 1 R_lties := ok_lties a29 M
  have e_lrest : DefOk T l.prog w K mg base "_law_rest" 1 R_lrest := ok_lrest a31 M
  have e_lborder : DefOk T l.prog w K mg base "_law_border" 2 R_lborder := ok_lborder a32 M e_lties
  have e_lparts : DefOk T l.prog w K mg base "_law_parts" 1 R_lparts := ok_lparts a30 M
  have e_ldeep : DefOk T l.prog w K mg base "_law_deep" 3 R_ldeep := ok_ldeep a33 M e_lparts e_lrest e_lborder
  have e_taken : RowOk T l.prog w K mg base "_law_taken" 1 Pre_taken R_taken := ok_taken a25 M
  have e_llot : RowOk T l.prog w K mg base "_law_lot" 2 Pre_llot R_llot := ok_llot a35 M e_taken
  have e_lweb : RowOk T l.prog w K mg base "_law_web" 2 Pre_lweb R_lweb := ok_lweb a28 M e_taken
  exact ok_law (fun_mk lL cL kL) ⟨M, e_lf, e_guards, e_company, e_gu, e_freers, e_leavers, e_culprits, e_ftl, e_alike, e_lis, e_llots, e_ldeep, e_taken, e_llot, e_lweb⟩
end DW

open PyProof.Rows PySem PySem.W
set_option maxHeartbeats 0 in
theorem PySem.Challenge.cw_duelwebs_k27_whole_guards_holds : PySem.Challenge.rw_duelwebs_k27_whole_guards.Holds := by
  w_on; o_law; k_head
  (case hw => w_witness2)
  k_fill
  refine DW.walk_mine (law := PySem.Challenge.rw_duelwebs_k27_whole_guards) (most := 63) (lev := 8) (x := "_law_script") (CX := fun _ => L2.CX0) rfl (by decide) rfl ⟨rfl, by decide, by decide⟩ (fun w h Y => km_in_of Y) ?F (fun _ _ _ _ _ h => h)
  case F =>
    intro w mg fa h KX G hmg tabs
    have T1 := tabs "lots_of" (by decide +kernel)
    have T2 := tabs "greatest_unfree" (by decide +kernel)
    refine' DW.end_mk KX G hmg T1 T2 ?D1 ?D2 ?hP ?d0 ?d1 ?d2 ?d3 ?d4 ?d5 ?d6 ?d7 ?d8 ?d9 ?d10 ?d11 ?d12 ?d13 ?d14 ?d15 ?d16 ?d17 ?d18 ?d19 ?d20 ?d21 ?d22 ?d23 ?d24 ?d25 ?d26 ?d27 ?d28 ?d29 ?d30 ?d31 ?d32 ?d33 ?d34 ?d35 ?d36 ?z0 ?z1 ?z2 ?z3 ?z4 ?z5 ?z6 ?z7 ?z8 ?z9 ?z10 ?z11 ?z12 ?z13 ?k1 ?k2
    (case D1 => refine' DW.hdc_mk ?a ?l ?c ?k ?lc ?v ?n; (case a => k_is); (case l => k_is); (case c => k_is); (case k => k_is); (case lc => k_is); (case v => rfl); (case n => first | kernel_rfl | rfl | decide))
    (case D2 => refine' DW.hdc_mk ?a ?l ?c ?k ?lc ?v ?n; (case a => k_is); (case l => k_is); (case c => k_is); (case k => k_is); (case lc => k_is); (case v => rfl); (case n => first | kernel_rfl | rfl | decide))
    (case hP => decide)
    (case d0 => refine' DW.hd_mk ?a ?l ?c ?k; (case a => k_is); (case l => k_is); (case c => k_is); (case k => k_is))
    (case d1 => refine' DW.hd_mk ?a ?l ?c ?k; (case a => k_is); (case l => k_is); (case c => k_is); (case k => k_is))
    (case d2 => refine' DW.hd_mk ?a ?l ?c ?k; (case a => k_is); (case l => k_is); (case c => k_is); (case k => k_is))
    (case d3 => refine' DW.hd_mk ?a ?l ?c ?k; (case a => k_is); (case l => k_is); (case c => k_is); (case k => k_is))
    (case d4 => refine' DW.hd_mk ?a ?l ?c ?k; (case a => k_is); (case l => k_is); (case c => k_is); (case k => k_is))
    (case d5 => refine' DW.hd_mk ?a ?l ?c ?k; (case a => k_is); (case l => k_is); (case c => k_is); (case k => k_is))
    (case d6 => refine' DW.hd_mk ?a ?l ?c ?k; (case a => k_is); (case l => k_is); (case c => k_is); (case k => k_is))
    (case d7 => refine' DW.hd_mk ?a ?l ?c ?k; (case a => k_is); (case l => k_is); (case c => k_is); (case k => k_is))
    (case d8 => refine' DW.hd_mk ?a ?l ?c ?k; (case a => k_is); (case l => k_is); (case c => k_is); (case k => k_is))
    (case d9 => refine' DW.hd_mk ?a ?l ?c ?k; (case a => k_is); (case l => k_is); (case c => k_is); (case k => k_is))
    (case d10 => refine' DW.hd_mk ?a ?l ?c ?k; (case a => k_is); (case l => k_is); (case c => k_is); (case k => k_is))
    (case d11 => refine' DW.hd_mk ?a ?l ?c ?k; (case a => k_is); (case l => k_is); (case c => k_is); (case k => k_is))
    (case d12 => refine' DW.hd_mk ?a ?l ?c ?k; (case a => k_is); (case l => k_is); (case c => k_is); (case k => k_is))
    (case d13 => refine' DW.hd_mk ?a ?l ?c ?k; (case a => k_is); (case l => k_is); (case c => k_is); (case k => k_is))
    (case d14 => refine' DW.hd_mk ?a ?l ?c ?k; (case a => k_is); (case l => k_is); (case c => k_is); (case k => k_is))
    (case d15 => refine' DW.hd_mk ?a ?l ?c ?k; (case a => k_is); (case l => k_is); (case c => k_is); (case k => k_is))
    (case d16 => refine' DW.hd_mk ?a ?l ?c ?k; (case a => k_is); (case l => k_is); (case c => k_is); (case k => k_is))
    (case d17 => refine' DW.hd_mk ?a ?l ?c ?k; (case a => k_is); (case l => k_is); (case c => k_is); (case k => k_is))
    (case d18 => refine' DW.hd_mk ?a ?l ?c ?k; (case a => k_is); (case l => k_is); (case c => k_is); (case k => k_is))
    (case d19 => refine' DW.hd_mk ?a ?l ?c ?k; (case a => k_is); (case l => k_is); (case c => k_is); (case k => k_is))
    (case d20 => refine' DW.hd_mk ?a ?l ?c ?k; (case a => k_is); (case l => k_is); (case c => k_is); (case k => k_is))
    (case d21 => refine' DW.hd_mk ?a ?l ?c ?k; (case a => k_is); (case l => k_is); (case c => k_is); (case k => k_is))
    (case d22 => refine' DW.hd_mk ?a ?l ?c ?k; (case a => k_is); (case l => k_is); (case c => k_is); (case k => k_is))
    (case d23 => refine' DW.hd_mk ?a ?l ?c ?k; (case a => k_is); (case l => k_is); (case c => k_is); (case k => k_is))
    (case d24 => refine' DW.hd_mk ?a ?l ?c ?k; (case a => k_is); (case l => k_is); (case c => k_is); (case k => k_is))
    (case d25 => refine' DW.hd_mk ?a ?l ?c ?k; (case a => k_is); (case l => k_is); (case c => k_is); (case k => k_is))
    (case d26 => refine' DW.hd_mk ?a ?l ?c ?k; (case a => k_is); (case l => k_is); (case c => k_is); (case k => k_is))
    (case d27 => refine' DW.hd_mk ?a ?l ?c ?k; (case a => k_is); (case l => k_is); (case c => k_is); (case k => k_is))
    (case d28 => refine' DW.hd_mk ?a ?l ?c ?k; (case a => k_is); (case l => k_is); (case c => k_is); (case k => k_is))
    (case d29 => refine' DW.hd_mk ?a ?l ?c ?k; (case a => k_is); (case l => k_is); (case c => k_is); (case k => k_is))
    (case d30 => refine' DW.hd_mk ?a ?l ?c ?k; (case a => k_is); (case l => k_is); (case c => k_is); (case k => k_is))
    (case d31 => refine' DW.hd_mk ?a ?l ?c ?k; (case a => k_is); (case l => k_is); (case c => k_is); (case k => k_is))
    (case d32 => refine' DW.hd_mk ?a ?l ?c ?k; (case a => k_is); (case l => k_is); (case c => k_is); (case k => k_is))
    (case d33 => refine' DW.hd_mk ?a ?l ?c ?k; (case a => k_is); (case l => k_is); (case c => k_is); (case k => k_is))
    (case d34 => refine' DW.hd_mk ?a ?l ?c ?k; (case a => k_is); (case l => k_is); (case c => k_is); (case k => k_is))
    (case d35 => refine' DW.hd_mk ?a ?l ?c ?k; (case a => k_is); (case l => k_is); (case c => k_is); (case k => k_is))
    (case d36 => refine' DW.hd_mk ?a ?l ?c ?k; (case a => k_is); (case l => k_is); (case c => k_is); (case k => k_is))
    (case z0 => k_is)
    (case z1 => k_is)
    (case z2 => k_is)
    (case z3 => k_is)
    (case z4 => k_is)
    (case z5 => k_is)
    (case z6 => k_is)
    (case z7 => k_is)
    (case z8 => k_is)
    (case z9 => k_is)
    (case z10 => k_is)
    (case z11 => k_is)
    (case z12 => k_is)
    (case z13 => k_is)
    (case k1 => k_is); (case k2 => k_is)
