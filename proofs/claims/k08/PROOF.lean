import PyProof.Rows.All
import HandS.Lambda
import Wide.All
import OpenK.AllK
import Wide.FinOn
import HandS.ForMost
import HandS.Star
import HandS.TupAny
import HandS.Deep
import HandS.IsInst
import HandS.Wide
import HandS.SortInts
import KE.DataMinMax
import HandS.TupMul
import HandS.Zip
import HandS.SetFor
import HandS.Strs
import KE.SortKeyHeap
import KE.KLam
import HandS.SortKw
import KE.KTupSum
import KE.GoesMore
import HandS.Style
import PySem.Challenge.RW_mountedintime_k08_whole_labels_and_penta
import HandS.EndTab
import HandS.HeadWalk
import KE.KNestM
namespace DL
open PySem PySem.Spec
/-- the tables of code objects of the defs that make lambdas, with the lambda's full name: set for each law -/
def tabs : List (Addr × Str) := []
end DL

set_option Elab.async false
set_option linter.all false
set_option maxRecDepth 100000
set_option maxHeartbeats 4000000
set_option autoImplicit false
namespace DL
open PySem PySem.Spec PyProof.Rows L2

/-! ### heaps within heaps; data stay -/
def Sub (F H : Hp) : Prop := ∀ a o, F a = some o → H a = some o
theorem Sub.refl (F : Hp) : Sub F F := fun _ _ h => h
theorem Sub.trans {F G H : Hp} (a : Sub F G) (b : Sub G H) : Sub F H := fun x o h => b x o (a x o h)
theorem Sub.rd {F H : Hp} (e : Sub F H) {a : Addr} {u : HO} (h : Rd F a u) : Rd H a u := by
  rcases h with h | ⟨o, h⟩
  · exact Or.inl (e a _ h)
  · exact Or.inr ⟨o, e a _ h⟩
theorem Sub.sl {K : PySem.W.Frag} {F H : Hp} (e : Sub F H) {a : Addr} {xs : List V} (h : SqL K F a xs) : SqL K H a xs := by
  rcases h with h | h
  · exact Or.inl (e.rd h)
  · exact Or.inr h
theorem Sub.st {K : PySem.W.Frag} {F H : Hp} (e : Sub F H) {a : Addr} {xs : List V} (h : SqT K F a xs) : SqT K H a xs := by
  rcases h with h | h
  · exact Or.inl (e.rd h)
  · exact Or.inr h
mutual
theorem dp_mono {K : PySem.W.Frag} {F G : Hp} (e : Sub F G) : ∀ (d : PyData) (v : V), Dp K F v d → Dp K G v d
  | .none, _, h => by cases h; exact .non
  | .bool b, _, h => by cases h; exact .bl b
  | .int i, _, h => by cases h; exact .int i
  | .str x, _, h => by cases h; exact .str x
  | .list ds, _, h => by
    cases h with
    | lst hs ha => exact .lst (e.sl hs) (dpAll_mono e ds _ ha)
  | .tuple ds, _, h => by
    cases h with
    | tup hs ha => exact .tup (e.st hs) (dpAll_mono e ds _ ha)
  | .dict _, _, h => by cases h
theorem dpAll_mono {K : PySem.W.Frag} {F G : Hp} (e : Sub F G) : ∀ (ds : List PyData) (vs : List V), DpAll K F vs ds → DpAll K G vs ds
  | [], _, h => by cases h; exact .nil
  | d :: ds, _, h => by
    cases h with
    | cons h1 h2 => exact .cons (dp_mono e d _ h1) (dpAll_mono e ds _ h2)
end
theorem dpAll_len {K : PySem.W.Frag} {F : Hp} : ∀ {vs : List V} {ds : List PyData}, DpAll K F vs ds → vs.length = ds.length
  | [], _, h => by cases h; rfl
  | _ :: _, _, h => by
    cases h with
    | cons _ h2 => simp [dpAll_len h2]
theorem dpAll_get {K : PySem.W.Frag} {F : Hp} : ∀ {vs : List V} {ds : List PyData}, DpAll K F vs ds → ∀ {i : Nat} {d : PyData}, ds[i]? = some d → ∃ v, vs[i]? = some v ∧ Dp K F v d
  | _, _, .nil, i, d, h => by simp at h
  | _, _, .cons h1 _, 0, d, h => by simp at h; subst h; exact ⟨_, rfl, h1⟩
  | _, _, .cons _ h2, i + 1, d, h => by
    obtain ⟨v, e, r⟩ := dpAll_get h2 (i := i) (d := d) (by simpa using h)
    exact ⟨v, by simpa using e, r⟩
theorem dpAll_at {K : PySem.W.Frag} {F : Hp} {vs : List V} {ds : List PyData} (h : DpAll K F vs ds) {i : Nat} {v : V} (e : vs[i]? = some v) : ∃ d, ds[i]? = some d ∧ Dp K F v d := by
  have hl := dpAll_len h
  have hi : i < ds.length := by
    rw [← hl]; exact (List.getElem?_eq_some_iff.mp e).1
  obtain ⟨v', e', r⟩ := dpAll_get h (List.getElem?_eq_getElem hi)
  rw [e] at e'
  cases e'
  exact ⟨_, List.getElem?_eq_getElem hi, r⟩
theorem dpAll_append {K : PySem.W.Frag} {F : Hp} : ∀ {vs : List V} {ds : List PyData} {ws : List V} {es : List PyData}, DpAll K F vs ds → DpAll K F ws es → DpAll K F (vs ++ ws) (ds ++ es)
  | _, _, _, _, .nil, h => h
  | _, _, _, _, .cons h1 h2, h => .cons h1 (dpAll_append h2 h)
theorem dpAll_set {K : PySem.W.Frag} {F : Hp} {v : V} {d : PyData} (hv : Dp K F v d) : ∀ {vs : List V} {ds : List PyData} (i : Nat), DpAll K F vs ds → DpAll K F (vs.set i v) (ds.set i d)
  | _, _, _, .nil => .nil
  | _, _, 0, .cons _ h2 => .cons hv h2
  | _, _, i + 1, .cons h1 h2 => .cons h1 (dpAll_set hv i h2)
theorem dpAll_erase {K : PySem.W.Frag} {F : Hp} : ∀ {vs : List V} {ds : List PyData} (i : Nat), DpAll K F vs ds → DpAll K F (vs.eraseIdx i) (ds.eraseIdx i)
  | _, _, _, .nil => .nil
  | _, _, 0, .cons _ h2 => h2
  | _, _, i + 1, .cons h1 h2 => .cons h1 (dpAll_erase i h2)
theorem dpAll_take {K : PySem.W.Frag} {F : Hp} : ∀ {vs : List V} {ds : List PyData} (n : Nat), DpAll K F vs ds → DpAll K F (vs.take n) (ds.take n)
  | _, _, 0, _ => .nil
  | _, _, _ + 1, .nil => .nil
  | _, _, n + 1, .cons h1 h2 => .cons h1 (dpAll_take n h2)
theorem dpAll_drop {K : PySem.W.Frag} {F : Hp} : ∀ {vs : List V} {ds : List PyData} (n : Nat), DpAll K F vs ds → DpAll K F (vs.drop n) (ds.drop n)
  | _, _, 0, h => h
  | _, _, _ + 1, .nil => .nil
  | _, _, n + 1, .cons _ h2 => dpAll_drop n h2
theorem dpAll_rep {K : PySem.W.Frag} {F : Hp} {vs : List V} {ds : List PyData} (h : DpAll K F vs ds) : ∀ n : Nat, DpAll K F (List.replicate n vs).flatten (List.replicate n ds).flatten
  | 0 => .nil
  | n + 1 => by
    rw [List.replicate_succ, List.replicate_succ, List.flatten_cons, List.flatten_cons]
    exact dpAll_append h (dpAll_rep h n)
theorem dpAll_dropLast {K : PySem.W.Frag} {F : Hp} {vs : List V} {ds : List PyData} (h : DpAll K F vs ds) : DpAll K F vs.dropLast ds.dropLast := by
  rw [List.dropLast_eq_take, List.dropLast_eq_take, dpAll_len h]
  exact dpAll_take _ h
/-- ints, bools of a list of data -/
theorem dp_int {K : PySem.W.Frag} {F : Hp} {v : V} {i : Int} (h : Dp K F v (.int i)) : v = .int i := by cases h; rfl
theorem dp_bool {K : PySem.W.Frag} {F : Hp} {v : V} {i : Bool} (h : Dp K F v (.bool i)) : v = .bl i := by cases h; rfl
theorem dp_str {K : PySem.W.Frag} {F : Hp} {v : V} {i : Str} (h : Dp K F v (.str i)) : v = .str i := by cases h; rfl
theorem dp_none {K : PySem.W.Frag} {F : Hp} {v : V} (h : Dp K F v .none) : v = .non := by cases h; rfl
theorem dp_list {K : PySem.W.Frag} {F : Hp} {v : V} {ds : List PyData} (h : Dp K F v (.list ds)) : ∃ a vs, v = .ref a ∧ SqL K F a vs ∧ DpAll K F vs ds := by
  cases h with
  | lst hs ha => exact ⟨_, _, rfl, hs, ha⟩
theorem dp_tuple {K : PySem.W.Frag} {F : Hp} {v : V} {ds : List PyData} (h : Dp K F v (.tuple ds)) : ∃ a vs, v = .ref a ∧ SqT K F a vs ∧ DpAll K F vs ds := by
  cases h with
  | tup hs ha => exact ⟨_, _, rfl, hs, ha⟩
theorem dp_ints {K : PySem.W.Frag} {F : Hp} : ∀ {ns : List Int} {vs : List V}, DpAll K F vs (ns.map PyData.int) → vs = ns.map V.int
  | [], _, h => by cases h; rfl
  | n :: ns, _, h => by
    cases h with
    | cons h1 h2 => rw [dp_int h1, dp_ints h2]; rfl
theorem dp_bools {K : PySem.W.Frag} {F : Hp} : ∀ {ns : List Bool} {vs : List V}, DpAll K F vs (ns.map PyData.bool) → vs = ns.map V.bl
  | [], _, h => by cases h; rfl
  | n :: ns, _, h => by
    cases h with
    | cons h1 h2 => rw [dp_bool h1, dp_bools h2]; rfl
theorem of_ints {K : PySem.W.Frag} {F : Hp} : ∀ (ns : List Int), DpAll K F (ns.map V.int) (ns.map PyData.int)
  | [] => .nil
  | n :: ns => .cons (.int n) (of_ints ns)

/-! ### states -/
structure Pot where
  a : Int
  b : Int
  c : Int
/-- a value: plain data, or the pot of draws -/
inductive DV where
  | d (x : PyData)
  | pot
/-- what a thing of one's own holds: a list; a dict whose keys are ints and texts, or tuples of these -/
inductive Cn where
  | l (xs : List PyData)
  | k (kvs : List (Key × PyData))
  | t (kvs : List (List Key × PyData))
/-- a slot: nothing is known; a value; a thing of its own -/
inductive Sl where
  | un
  | v (x : DV)
  | og (c : Cn)
abbrev Sl.ow (xs : List PyData) : Sl := .og (.l xs)
abbrev sd (x : PyData) : Sl := .v (.d x)
abbrev si (i : Int) : Sl := .v (.d (.int i))
abbrev sp : Sl := .v .pot
structure Zs where
  r : List Sl
  p : Pot
structure Ct where
  K : PySem.W.Frag
  P : Option Addr
  hold : Hp
  F0 : Hp
def RV (K : PySem.W.Frag) (P : Option Addr) (F : Hp) (v : V) : DV → Prop
  | .d x => Dp K F v x
  | .pot => ∃ p, P = some p ∧ v = .ref p
theorem RV.mono {K : PySem.W.Frag} {P : Option Addr} {F G : Hp} {v : V} {x : DV} (e : Sub F G) (h : RV K P F v x) : RV K P G v x := by
  cases x with
  | d x => exact dp_mono e x v h
  | pot => exact h
/-- the thing in memory holds c -/
inductive CnOk (K : PySem.W.Frag) (F : Hp) : HO → Cn → Prop
  | l {vs : List V} {ds : List PyData} (r : DpAll K F vs ds) : CnOk K F (.lst vs) (.l ds)
  | k {kv : List (Key × V)} {kd : List (Key × PyData)} (e : kv.map (·.1) = kd.map (·.1)) (r : DpAll K F (kv.map (·.2)) (kd.map (·.2))) : CnOk K F (.dK kv) (.k kd)
  | t {kv : List (List Key × V)} {kd : List (List Key × PyData)} (e : kv.map (·.1) = kd.map (·.1)) (r : DpAll K F (kv.map (·.2)) (kd.map (·.2))) : CnOk K F (.dT kv) (.t kd)
theorem CnOk.mono {K : PySem.W.Frag} {F G : Hp} {o : HO} {c : Cn} (e : Sub F G) (h : CnOk K F o c) : CnOk K G o c := by
  cases h with
  | l r => exact .l (dpAll_mono e _ _ r)
  | k q r => exact .k q (dpAll_mono e _ _ r)
  | t q r => exact .t q (dpAll_mono e _ _ r)
theorem CnOk.nt {K : PySem.W.Frag} {F : Hp} {o : HO} {c : Cn} (h : CnOk K F o c) (ps : Array Value) : o ≠ .tbl ps := by
  cases h <;> intro q <;> cases q
theorem CnOk.nc {K : PySem.W.Frag} {F : Hp} {o : HO} {c : Cn} (h : CnOk K F o c) (a : Addr) (q : Str) : o ≠ LamX.CodeO a q := by
  cases h <;> intro q <;> cases q
theorem CnOk.list {K : PySem.W.Frag} {F : Hp} {o : HO} {ds : List PyData} (h : CnOk K F o (.l ds)) : ∃ vs, o = .lst vs ∧ DpAll K F vs ds := by
  cases h with
  | l r => exact ⟨_, rfl, r⟩
def SlOk (C : Ct) (H F : Hp) (x : Option (Option V)) : Sl → Prop
  | .un => True
  | .v d => ∃ v, x = some (some v) ∧ RV C.K C.P F v d
  | .og c => ∃ a o, x = some (some (.ref a)) ∧ H a = some o ∧ F a = none ∧ C.hold a = none ∧ C.P ≠ some a ∧ CnOk C.K F o c
theorem TabS.setO {H : Hp} {P : Addr} {q : Str} (t : LamX.TabS H P q) {a : Addr} {o o' : HO} (h : H a = some o) (ht : ∀ ps, o ≠ .tbl ps) (hn : ∀ a q, o ≠ LamX.CodeO a q) : LamX.TabS (upd H a o') P q := by
  obtain ⟨ps, h1, h2, h3⟩ := t
  refine ⟨ps, ?_, h2, fun pos cv hc => ?_⟩
  · rw [upd_ne (fun z => by rw [z, h] at h1; exact ht _ (Option.some.inj h1))]
    exact h1
  · obtain ⟨c, e1, e2⟩ := h3 pos cv hc
    exact ⟨c, e1, by rw [upd_ne (fun z => by rw [z, h] at e2; exact hn _ _ (Option.some.inj e2))]; exact e2⟩
theorem TabS.set {H : Hp} {P : Addr} {q : Str} (t : LamX.TabS H P q) {a : Addr} {vs us : List V} (h : H a = some (.lst vs)) : LamX.TabS (upd H a (.lst us)) P q := TabS.setO t h (fun ps q => by cases q) (fun a q z => by cases z)
structure Sim (C : Ct) (z : Zs) (σ : L2.St) (H F : Hp) : Prop where
  sub : Sub F H
  ext : Sub C.F0 F
  keep : Sub C.hold H
  fresh : ∀ a o, F a = some o → C.F0 a = some o ∨ C.hold a = none
  slots : ∀ (i : Nat) (s : Sl), z.r[i]? = some s → SlOk C H F σ[i]? s
  sep : ∀ (i j : Nat) (xs ys : Cn) (a : Addr), i ≠ j → z.r[i]? = some (.og xs) → z.r[j]? = some (.og ys) → σ[i]? = some (some (.ref a)) → σ[j]? ≠ some (some (.ref a))
  pot : ∀ p, C.P = some p → H p = some (.lst [.int z.p.a, .int z.p.b, .int z.p.c]) ∧ F p = none ∧ C.hold p = none
  len : z.r.length = σ.length
  tab : ∀ p ∈ tabs, LamX.TabS H p.1 p.2 ∧ F p.1 = none ∧ C.hold p.1 = none
  ft : ∀ a ps, F a ≠ some (.tbl ps)
  ht : ∀ a ps, C.hold a ≠ some (.tbl ps)
theorem Sim.own {C : Ct} {z : Zs} {σ : L2.St} {H F : Hp} (S : Sim C z σ H F) (i : Nat) {ds : List PyData} (hz : z.r[i]? = some (.ow ds)) : ∃ a vs, σ[i]? = some (some (.ref a)) ∧ H a = some (.lst vs) ∧ F a = none ∧ C.hold a = none ∧ C.P ≠ some a ∧ DpAll C.K F vs ds := by
  obtain ⟨a, o, e1, h1, f1, h2, p1, r⟩ := S.slots i _ hz
  obtain ⟨vs, rfl, r'⟩ := r.list
  exact ⟨a, vs, e1, h1, f1, h2, p1, r'⟩
/-- new frozen things -/
structure Grow (H F H' F' : Hp) : Prop where
  f : Sub F F'
  h : Sub H H'
  s : Sub F' H'
  n : ∀ a o, F' a = some o → F a = some o ∨ H a = none
  t : ∀ a ps, F' a = some (.tbl ps) → F a = some (.tbl ps)
theorem Grow.refl {H F : Hp} (s : Sub F H) : Grow H F H F := ⟨Sub.refl _, Sub.refl _, s, fun _ _ h => .inl h, fun _ _ h => h⟩
theorem sub_new {H : Hp} {p : Addr} {o : HO} (h : H p = none) : Sub H (upd H p o) := fun a u e => by
  rw [upd_ne (ne_of_none e h)]
  exact e
theorem none_of_sub {F H : Hp} (s : Sub F H) {p : Addr} (h : H p = none) : F p = none := by
  cases e : F p with
  | none => rfl
  | some o => rw [s p o e] at h; cases h
theorem sub_upd {F H : Hp} (s : Sub F H) (p : Addr) (o : HO) : Sub (upd F p o) (upd H p o) := fun a u e => by
  by_cases q : a = p
  · subst q; rw [upd_same] at e ⊢; exact e
  · rw [upd_ne q] at e ⊢; exact s a u e
theorem Grow.new {H F : Hp} (s : Sub F H) {p : Addr} {o : HO} (h : H p = none) (ho : ∀ ps, o ≠ .tbl ps := by intro _ q; cases q) : Grow H F (upd H p o) (upd F p o) where
  f := sub_new (none_of_sub s h)
  h := sub_new h
  s := sub_upd s p o
  n := fun a u e => by
    by_cases q : a = p
    · subst q; exact .inr h
    · rw [upd_ne q] at e; exact .inl e
  t := fun a ps e => by
    by_cases q : a = p
    · subst q; rw [upd_same] at e; exact absurd (Option.some.inj e) (ho ps)
    · rw [upd_ne q] at e; exact e
theorem Grow.trans {H F H1 F1 H2 F2 : Hp} (a : Grow H F H1 F1) (b : Grow H1 F1 H2 F2) : Grow H F H2 F2 where
  f := a.f.trans b.f
  h := a.h.trans b.h
  s := b.s
  n := fun x o e => by
    rcases b.n x o e with q | q
    · exact a.n x o q
    · exact .inr (none_of_sub a.h q)
  t := fun x ps e => a.t x ps (b.t x ps e)
theorem none_or {H : Hp} {a : Addr} : H a = none ∨ ∃ o, H a = some o := by
  cases e : H a with
  | none => exact .inl rfl
  | some o => exact .inr ⟨o, rfl⟩
theorem Sim.grow {C : Ct} {z : Zs} {σ : L2.St} {H F H' F' : Hp} (S : Sim C z σ H F) (g : Grow H F H' F') : Sim C z σ H' F' where
  sub := g.s
  ext := S.ext.trans g.f
  keep := S.keep.trans g.h
  fresh := fun a o e => by
    rcases g.n a o e with q | q
    · exact S.fresh a o q
    · exact .inr (none_of_sub S.keep q)
  slots := fun i s e => by
    have q := S.slots i s e
    cases s with
    | un => trivial
    | v d =>
      obtain ⟨v, e1, r⟩ := q
      exact ⟨v, e1, r.mono g.f⟩
    | og ds =>
      obtain ⟨a, vs, e1, h1, f1, h2, p1, r⟩ := q
      refine ⟨a, vs, e1, g.h _ _ h1, ?_, h2, p1, r.mono g.f⟩
      rcases none_or (H := F') (a := a) with q | ⟨o, q⟩
      · exact q
      · rcases g.n a o q with q | q
        · rw [f1] at q; cases q
        · rw [h1] at q; cases q
  sep := S.sep
  pot := fun p e => by
    obtain ⟨h1, f1, h2⟩ := S.pot p e
    refine ⟨g.h _ _ h1, ?_, h2⟩
    rcases none_or (H := F') (a := p) with q | ⟨o, q⟩
    · exact q
    · rcases g.n p o q with q | q
      · rw [f1] at q; cases q
      · rw [h1] at q; cases q
  len := S.len
  tab := fun p e => by
    obtain ⟨h1, f1, h2⟩ := S.tab p e
    obtain ⟨ps, t1, _⟩ := id h1
    refine ⟨h1.ext g.h, ?_, h2⟩
    rcases none_or (H := F') (a := p.1) with q | ⟨o, q⟩
    · exact q
    · rcases g.n p.1 o q with q | q
      · rw [f1] at q; cases q
      · rw [t1] at q; cases q
  ft := fun a ps e => S.ft a ps (g.t a ps e)
  ht := S.ht

/-! ### judgements -/
def tW (C : Ct) (z : Zs) (Q : DV → Zs → Prop) : TE := fun σ H Q' => ∃ F, Sim C z σ H F ∧ ∀ v d z' H' F', Q d z' → Sim C z' σ H' F' → Sub F F' → RV C.K C.P F' v d → Q' v H'
def tWT (C : Ct) (z : Zs) (Q : Bool → Zs → Prop) : TT := fun σ H Q' => ∃ F, Sim C z σ H F ∧ ∀ b z' H' F', Q b z' → Sim C z' σ H' F' → Sub F F' → Q' b H'
def tWA (C : Ct) (z : Zs) (Q : List DV → Zs → Prop) : TA := fun σ H Q' => ∃ F, Sim C z σ H F ∧ ∀ vs ds z' H' F', Q ds z' → Sim C z' σ H' F' → Sub F F' → Paired (RV C.K C.P F') vs ds → Q' vs H'
/-- e gives a value with Q -/
def FE (X : Cx) (C : Ct) (z : Zs) (e : Expr) (Q : DV → Zs → Prop) : Prop := PE X e (tW C z Q)
def FT (X : Cx) (C : Ct) (z : Zs) (e : Expr) (Q : Bool → Zs → Prop) : Prop := PT X e (tWT C z Q)
def FW (X : Cx) (C : Ct) (z : Zs) (e : Expr) (Q : Bool → Zs → Prop) : Prop := PW X e (tWT C z Q)
def FA (X : Cx) (C : Ct) (z : Zs) (es : List Expr) (Q : List DV → Zs → Prop) : Prop := PA X es (tWA C z Q)
/-- e gives d and changes nothing -/
def FP (X : Cx) (C : Ct) (z : Zs) (e : Expr) (d : PyData) : Prop := FE X C z e fun d' z' => d' = .d d ∧ z' = z
def FPT (X : Cx) (C : Ct) (z : Zs) (e : Expr) (b : Bool) : Prop := FT X C z e fun b' z' => b' = b ∧ z' = z
def FPW (X : Cx) (C : Ct) (z : Zs) (e : Expr) (b : Bool) : Prop := FW X C z e fun b' z' => b' = b ∧ z' = z
def FPA (X : Cx) (C : Ct) (z : Zs) (es : List Expr) (ds : List PyData) : Prop := FA X C z es fun ds' z' => ds' = ds.map .d ∧ z' = z

section
variable {X : Cx} {C : Ct} {z : Zs} {e a b : Expr} {es : List Expr} {pos : Pos}
theorem pe_con {t t' : TE} (h : PE X e t) (k : ∀ σ H Q, t' σ H Q → t σ H Q) : PE X e t' := ⟨fun pins s σ H Q I hq => h.run pins s σ H Q I (k σ H Q hq)⟩
theorem pt_con {t t' : TT} (h : PT X e t) (k : ∀ σ H Q, t' σ H Q → t σ H Q) : PT X e t' := ⟨fun pins s σ H Q I hq => h.run pins s σ H Q I (k σ H Q hq)⟩
theorem pw_con {t t' : TT} (h : PW X e t) (k : ∀ σ H Q, t' σ H Q → t σ H Q) : PW X e t' := ⟨fun wh pins s σ H Q I hq => h.run wh pins s σ H Q I (k σ H Q hq)⟩
theorem pa_con {t t' : TA} (h : PA X es t) (k : ∀ σ H Q, t' σ H Q → t σ H Q) : PA X es t' := ⟨fun p pins s σ H Q I hq => h.run p pins s σ H Q I (k σ H Q hq)⟩
theorem fe_mono {Q Q' : DV → Zs → Prop} (h : FE X C z e Q) (k : ∀ d z', Q d z' → Q' d z') : FE X C z e Q' :=
  pe_con h fun σ H R ⟨F, S, q⟩ => ⟨F, S, fun v d z' H' F' x => q v d z' H' F' (k d z' x)⟩
theorem ft_mono {Q Q' : Bool → Zs → Prop} (h : FT X C z e Q) (k : ∀ d z', Q d z' → Q' d z') : FT X C z e Q' :=
  pt_con h fun σ H R ⟨F, S, q⟩ => ⟨F, S, fun d z' H' F' x => q d z' H' F' (k d z' x)⟩
theorem fw_mono {Q Q' : Bool → Zs → Prop} (h : FW X C z e Q) (k : ∀ d z', Q d z' → Q' d z') : FW X C z e Q' :=
  pw_con h fun σ H R ⟨F, S, q⟩ => ⟨F, S, fun d z' H' F' x => q d z' H' F' (k d z' x)⟩
theorem fa_mono {Q Q' : List DV → Zs → Prop} (h : FA X C z es Q) (k : ∀ d z', Q d z' → Q' d z') : FA X C z es Q' :=
  pa_con h fun σ H R ⟨F, S, q⟩ => ⟨F, S, fun v d z' H' F' x => q v d z' H' F' (k d z' x)⟩
theorem fe_fp {Q : DV → Zs → Prop} {d : PyData} (h : FP X C z e d) (k : Q (.d d) z) : FE X C z e Q := fe_mono h fun _ _ ⟨a, b⟩ => a ▸ b ▸ k
theorem ft_fp {Q : Bool → Zs → Prop} {d : Bool} (h : FPT X C z e d) (k : Q d z) : FT X C z e Q := ft_mono h fun _ _ ⟨a, b⟩ => a ▸ b ▸ k
theorem fp_is {d d' : PyData} (h : FP X C z e d) (k : d = d') : FP X C z e d' := k ▸ h
theorem fpt_is {d d' : Bool} (h : FPT X C z e d) (k : d = d') : FPT X C z e d' := k ▸ h

/-! names and constants -/
theorem fe_name {Q : DV → Zs → Prop} {x : Str} {d : DV} (i : Nat) (hN : X.N[i]? = some x) (hv : Vis X.env.scope x) (hz : z.r[i]? = some (.v d)) (k : Q d z)
    (hd : (x == ("__debug__" : Str)) = false := by decide) (hcd : (x == ("__classdict__" : Str)) = false := by decide) : FE X C z (.Name x pos) Q := by
  refine pe_con (pe_var hN hv hd hcd) ?_
  rintro σ H R ⟨F, S, q⟩
  obtain ⟨v, e, r⟩ := S.slots i _ hz
  exact ⟨v, e, q v d z H F k S (Sub.refl _) r⟩
theorem fp_name {x : Str} {d : PyData} (i : Nat) (hz : z.r[i]? = some (sd d)) (hN : X.N[i]? = some x := by rfl)
    (hv : Vis X.env.scope x := by first | exact Or.inl rfl | exact Or.inr (Or.inl rfl) | exact Or.inr (Or.inr rfl))
    (hd : (x == ("__debug__" : Str)) = false := by decide) (hcd : (x == ("__classdict__" : Str)) = false := by decide) : FP X C z (.Name x pos) d := fe_name i hN hv hz ⟨rfl, rfl⟩ hd hcd
theorem fe_c {Q : DV → Zs → Prop} {v : V} {d : PyData} (h : PE X e (tC v)) (r : ∀ F, Dp C.K F v d) (k : Q (.d d) z) : FE X C z e Q :=
  pe_con h fun σ H R ⟨F, S, q⟩ => q v (.d d) z H F k S (Sub.refl _) (r F)
theorem fp_int {i : Int} {j : Nat} : FP X C z (.Constant (.int i) j pos) (.int i) := fe_c pe_int (fun _ => .int i) ⟨rfl, rfl⟩
theorem fp_bool {i : Bool} {j : Nat} : FP X C z (.Constant (.bool i) j pos) (.bool i) := fe_c pe_bl (fun _ => .bl i) ⟨rfl, rfl⟩
theorem fp_none {j : Nat} : FP X C z (.Constant .none j pos) .none := fe_c pe_non (fun _ => .non) ⟨rfl, rfl⟩
theorem fp_str {i : Str} {j : Nat} : FP X C z (.Constant (.str i) j pos) (.str i) := fe_c pe_str (fun _ => .str i) ⟨rfl, rfl⟩
/-- a constant of the module -/
theorem fp_gint {x : Str} {i : Int} (hm : ∃ t, X.mg x = some (.int i t)) (hg : Gl X x := by rfl) (hd : (x == ("__debug__" : Str)) = false := by decide) : FP X C z (.Name x pos) (.int i) := by
  obtain ⟨t, hm⟩ := hm
  exact fe_c (pe_glob (v := .int i) hg hm ⟨t, rfl⟩ hd) (fun _ => .int i) ⟨rfl, rfl⟩
theorem fp_gstr {x : Str} {i : Str} (hm : ∃ t, X.mg x = some (.str i t)) (hg : Gl X x := by rfl) (hd : (x == ("__debug__" : Str)) = false := by decide) : FP X C z (.Name x pos) (.str i) := by
  obtain ⟨t, hm⟩ := hm
  exact fe_c (pe_glob (v := .str i) hg hm ⟨t, rfl⟩ hd) (fun _ => .str i) ⟨rfl, rfl⟩

/-! two operands -/
def G2 (C : Ct) (r : R2) (x y : DV) (k : DV → Prop) : Prop := ∀ (F H : Hp) (v u : V) (Q' : VK), Sub F H → RV C.K C.P F v x → RV C.K C.P F u y →
  (∀ w d H' F', k d → Grow H F H' F' → RV C.K C.P F' w d → Q' w H') → r v u H Q'
theorem fe_bin {r : R2} {Qa : DV → Zs → Prop} {Q : DV → Zs → Prop} (rule : ∀ ta tb, PE X a ta → PE X b tb → PE X e (tOp r ta tb)) (ha : FE X C z a Qa)
    (hb : ∀ x z1, Qa x z1 → FE X C z1 b fun y z2 => G2 C r x y fun d => Q d z2) : FE X C z e Q := by
  have pb : PE X b (fun σ H Q' => ∃ x z1, Qa x z1 ∧ tW C z1 (fun y z2 => G2 C r x y fun d => Q d z2) σ H Q') := ⟨fun pins s σ H Q' I ⟨x, z1, q, h⟩ => (hb x z1 q).run pins s σ H Q' I h⟩
  refine pe_con (rule _ _ ha pb) ?_
  rintro σ H Q' ⟨F, S, k⟩
  refine ⟨F, S, fun v x z1 H1 F1 q S1 e1 r1 => ?_⟩
  refine ⟨x, z1, q, F1, S1, fun u y z2 H2 F2 g S2 e2 r2 => ?_⟩
  exact g F2 H2 v u Q' S2.sub (r1.mono e2) r2 fun w d H3 F3 qd gr r3 => k w d z2 H3 F3 qd (S2.grow gr) ((e1.trans e2).trans gr.f) r3
theorem fp_bin {r : R2} {x y d : PyData} (rule : ∀ ta tb, PE X a ta → PE X b tb → PE X e (tOp r ta tb)) (ha : FP X C z a x) (hb : FP X C z b y)
    (g : ∀ k : DV → Prop, k (.d d) → G2 C r (.d x) (.d y) k) : FP X C z e d :=
  fe_bin rule ha fun _ _ ⟨e1, e2⟩ => by
    subst e1 e2
    exact fe_mono hb fun _ _ ⟨e1, e2⟩ => by
      subst e1 e2
      exact g _ ⟨rfl, rfl⟩
theorem g2_I0 {gg : Int → Int → Int} {i j : Int} {k : DV → Prop} (h : k (.d (.int (gg i j)))) : G2 C (rI0 fun i j => .int (gg i j)) (.d (.int i)) (.d (.int j)) k := fun F H v u Q' s r1 r2 q =>
  ⟨i, j, dp_int r1, dp_int r2, q _ _ H F h (Grow.refl s) (.int _)⟩
theorem g2_I {gg : Int → Int → Int} {CC : Int → Int → Prop} {i j : Int} {k : DV → Prop} (hc : CC i j) (h : k (.d (.int (gg i j)))) : G2 C (rI CC fun i j => .int (gg i j)) (.d (.int i)) (.d (.int j)) k := fun F H v u Q' s r1 r2 q =>
  ⟨i, j, dp_int r1, dp_int r2, hc, q _ _ H F h (Grow.refl s) (.int _)⟩
theorem g2_B0 {gg : Int → Int → Bool} {i j : Int} {k : DV → Prop} (h : k (.d (.bool (gg i j)))) : G2 C (rI0 fun i j => .bl (gg i j)) (.d (.int i)) (.d (.int j)) k := fun F H v u Q' s r1 r2 q =>
  ⟨i, j, dp_int r1, dp_int r2, q _ _ H F h (Grow.refl s) (.bl _)⟩
theorem fp_add {i j : Int} (ha : FP X C z a (.int i)) (hb : FP X C z b (.int j)) : FP X C z (.BinOp a .Add b pos) (.int (i + j)) := fp_bin (fun _ _ => pe_op op_add) ha hb fun _ h => g2_I0 (gg := fun i j => i + j) h
theorem fp_sub {i j : Int} (ha : FP X C z a (.int i)) (hb : FP X C z b (.int j)) : FP X C z (.BinOp a .Sub b pos) (.int (i - j)) := fp_bin (fun _ _ => pe_op op_sub) ha hb fun _ h => g2_I0 (gg := fun i j => i - j) h
theorem fp_mul {i j : Int} (ha : FP X C z a (.int i)) (hb : FP X C z b (.int j)) (hc : CMul i j) : FP X C z (.BinOp a .Mult b pos) (.int (i * j)) := fp_bin (fun _ _ => pe_op op_mul) ha hb fun _ h => g2_I (gg := fun i j => i * j) hc h
theorem fp_fdiv {i j : Int} (ha : FP X C z a (.int i)) (hb : FP X C z b (.int j)) (hc : CDiv i j) : FP X C z (.BinOp a .FloorDiv b pos) (.int (i / j)) := fp_bin (fun _ _ => pe_op op_fdiv) ha hb fun _ h => g2_I (gg := fun i j => i / j) hc h
theorem fp_mod {i j : Int} (ha : FP X C z a (.int i)) (hb : FP X C z b (.int j)) (hc : 0 < j) : FP X C z (.BinOp a .Mod b pos) (.int (i % j)) := fp_bin (fun _ _ => pe_op op_mod) ha hb fun _ h => g2_I (gg := fun i j => i % j) (CC := fun _ j => 0 < j) hc h
theorem fp_pow {i j : Int} (ha : FP X C z a (.int i)) (hb : FP X C z b (.int j)) (hc : CPow i j) : FP X C z (.BinOp a .Pow b pos) (.int (i ^ j.toNat)) := fp_bin (fun _ _ => pe_op op_pow) ha hb fun _ h => g2_I (gg := fun i j => i ^ j.toNat) hc h
theorem fp_cmp {op : CmpOp} {r : R2} {x y d : PyData} (ho : OpR X (compareOp op) r) (ha : FP X C z a x) (hb : FP X C z b y) (g : ∀ k : DV → Prop, k (.d d) → G2 C r (.d x) (.d y) k)
    (hm : behindInMarks op b = false) : FP X C z (.Compare a [op] [b] pos) d := fp_bin (fun _ _ ha hb => pe_cmpR ho ha hb hm) ha hb g
theorem fp_lt {i j : Int} (ha : FP X C z a (.int i)) (hb : FP X C z b (.int j)) : FP X C z (.Compare a [.Lt] [b] pos) (.bool (decide (i < j))) := fp_cmp op_lt ha hb (fun _ h => g2_B0 (gg := fun i j => decide (i < j)) h) (nomark _)
theorem fp_le {i j : Int} (ha : FP X C z a (.int i)) (hb : FP X C z b (.int j)) : FP X C z (.Compare a [.LtE] [b] pos) (.bool (decide (i ≤ j))) := fp_cmp op_le ha hb (fun _ h => g2_B0 (gg := fun i j => decide (i ≤ j)) h) (nomark _)
theorem fp_gt {i j : Int} (ha : FP X C z a (.int i)) (hb : FP X C z b (.int j)) : FP X C z (.Compare a [.Gt] [b] pos) (.bool (decide (j < i))) := fp_cmp op_gt ha hb (fun _ h => g2_B0 (gg := fun i j => decide (j < i)) h) (nomark _)
theorem fp_ge {i j : Int} (ha : FP X C z a (.int i)) (hb : FP X C z b (.int j)) : FP X C z (.Compare a [.GtE] [b] pos) (.bool (decide (j ≤ i))) := fp_cmp op_ge ha hb (fun _ h => g2_B0 (gg := fun i j => decide (j ≤ i)) h) (nomark _)
end
end DL

set_option Elab.async false
set_option linter.all false
set_option maxRecDepth 100000
set_option maxHeartbeats 4000000
set_option autoImplicit false
namespace DL
open PySem PySem.Spec PyProof.Rows L2
section
variable {X : Cx} {C : Ct} {z : Zs} {e a b : Expr} {es : List Expr} {pos : Pos}

/-! ### scalars compared; data compared -/
theorem scal_str (x y : Str) : scal (.str x) (.str y) = true := rfl
theorem g2_eqS {x y : Str} {k : DV → Prop} (h : k (.d (.bool (decide (x = y))))) : G2 C rEq (.d (.str x)) (.d (.str y)) k := fun F H v u Q' s r1 r2 q => by
  rw [dp_str r1, dp_str r2]
  refine ⟨rfl, ?_⟩
  have := q (.bl (decide (x = y))) _ H F h (Grow.refl s) (.bl _)
  simpa using this
theorem g2_neS {x y : Str} {k : DV → Prop} (h : k (.d (.bool (!decide (x = y))))) : G2 C rNe (.d (.str x)) (.d (.str y)) k := fun F H v u Q' s r1 r2 q => by
  rw [dp_str r1, dp_str r2]
  refine ⟨rfl, ?_⟩
  have := q (.bl (!decide (x = y))) _ H F h (Grow.refl s) (.bl _)
  simpa using this
theorem g2_eqI {x y : Int} {k : DV → Prop} (h : k (.d (.bool (decide (x = y))))) : G2 C rEq (.d (.int x)) (.d (.int y)) k := fun F H v u Q' s r1 r2 q => by
  rw [dp_int r1, dp_int r2]
  refine ⟨rfl, ?_⟩
  have := q (.bl (decide (x = y))) _ H F h (Grow.refl s) (.bl _)
  simpa using this
theorem g2_neI {x y : Int} {k : DV → Prop} (h : k (.d (.bool (!decide (x = y))))) : G2 C rNe (.d (.int x)) (.d (.int y)) k := fun F H v u Q' s r1 r2 q => by
  rw [dp_int r1, dp_int r2]
  refine ⟨rfl, ?_⟩
  have := q (.bl (!decide (x = y))) _ H F h (Grow.refl s) (.bl _)
  simpa using this
theorem fp_eqS {x y : Str} (ha : FP X C z a (.str x)) (hb : FP X C z b (.str y)) : FP X C z (.Compare a [.Eq] [b] pos) (.bool (decide (x = y))) := fp_cmp op_eq ha hb (fun _ h => g2_eqS h) (nomark _)
theorem fp_neS {x y : Str} (ha : FP X C z a (.str x)) (hb : FP X C z b (.str y)) : FP X C z (.Compare a [.NotEq] [b] pos) (.bool (!decide (x = y))) := fp_cmp op_ne ha hb (fun _ h => g2_neS h) (nomark _)
theorem fp_eqI {x y : Int} (ha : FP X C z a (.int x)) (hb : FP X C z b (.int y)) : FP X C z (.Compare a [.Eq] [b] pos) (.bool (decide (x = y))) := fp_cmp op_eq ha hb (fun _ h => g2_eqI h) (nomark _)
theorem fp_neI {x y : Int} (ha : FP X C z a (.int x)) (hb : FP X C z b (.int y)) : FP X C z (.Compare a [.NotEq] [b] pos) (.bool (!decide (x = y))) := fp_cmp op_ne ha hb (fun _ h => g2_neI h) (nomark _)
/-- any data -/
theorem g2_eqD {x y : PyData} {k : DV → Prop} (hx : SeqAt.shaped x = true) (hy : SeqAt.shaped y = true) (h : k (.d (.bool (PyData.eqv x y)))) : G2 C (rEqD C.K) (.d x) (.d y) k := fun F H v u Q' s r1 r2 q =>
  ⟨x, y, dp_mono s x v r1, dp_mono s y u r2, hx, hy, q _ _ H F h (Grow.refl s) (.bl _)⟩
theorem g2_neD {x y : PyData} {k : DV → Prop} (hx : SeqAt.shaped x = true) (hy : SeqAt.shaped y = true) (h : k (.d (.bool (!PyData.eqv x y)))) : G2 C (rNeD C.K) (.d x) (.d y) k := fun F H v u Q' s r1 r2 q =>
  ⟨x, y, dp_mono s x v r1, dp_mono s y u r2, hx, hy, q _ _ H F h (Grow.refl s) (.bl _)⟩
theorem fp_eqD {x y : PyData} {n : Nat} (hr : Room n X.A) (hK : C.K = X.K) (ha : FP X C z a x) (hb : FP X C z b y) (hx : SeqAt.shaped x = true) (hy : SeqAt.shaped y = true) : FP X C z (.Compare a [.Eq] [b] pos) (.bool (PyData.eqv x y)) :=
  fp_cmp (op_eqD hr.units) ha hb (fun _ h => by rw [← hK]; exact g2_eqD hx hy h) (nomark _)
theorem fp_neD {x y : PyData} {n : Nat} (hr : Room n X.A) (hK : C.K = X.K) (ha : FP X C z a x) (hb : FP X C z b y) (hx : SeqAt.shaped x = true) (hy : SeqAt.shaped y = true) : FP X C z (.Compare a [.NotEq] [b] pos) (.bool (!PyData.eqv x y)) :=
  fp_cmp (op_neD hr.units) ha hb (fun _ h => by rw [← hK]; exact g2_neD hx hy h) (nomark _)
def isNo : PyData → Bool
  | .none => true
  | _ => false
theorem isNo_of {K : PySem.W.Frag} {F : Hp} {v : V} {x : PyData} (r : Dp K F v x) : decide (v = V.non) = isNo x := by cases r <;> rfl
/-- is None -/
theorem fp_isN {x : PyData} {j : Nat} {p2 : Pos} (ha : FP X C z a x) : FP X C z (.Compare a [.Is] [.Constant .none j p2] pos) (.bool (isNo x)) := by
  refine pe_con (pe_cmp (pc_isN ha)) ?_
  rintro σ H R ⟨F, S, q⟩
  refine ⟨F, S, fun v d z' H' F' ⟨e1, e2⟩ S' e r => ?_⟩
  subst e1 e2
  refine q _ _ _ H' F' ⟨rfl, rfl⟩ S' e ?_
  rw [isNo_of (x := x) r]
  exact .bl _
theorem fp_notN {x : PyData} {j : Nat} {p2 : Pos} (ha : FP X C z a x) : FP X C z (.Compare a [.IsNot] [.Constant .none j p2] pos) (.bool (!isNo x)) := by
  refine pe_con (pe_cmp (pc_notN ha)) ?_
  rintro σ H R ⟨F, S, q⟩
  refine ⟨F, S, fun v d z' H' F' ⟨e1, e2⟩ S' e r => ?_⟩
  subst e1 e2
  refine q _ _ _ H' F' ⟨rfl, rfl⟩ S' e ?_
  rw [isNo_of (x := x) r]
  exact .bl _

/-! ### in -/
theorem g2_in {x : PyData} {ys : List PyData} {k : DV → Prop} (hx : SeqAt.shaped x = true) (hy : SeqAt.shaped (.list ys) = true) (h : k (.d (.bool (ys.any fun y => PyData.eqv y x)))) : G2 C (rInD C.K) (.d x) (.d (.list ys)) k := fun F H v u Q' s r1 r2 q =>
  ⟨x, ys, dp_mono s x v r1, dp_mono s _ u r2, hx, hy, q _ _ H F h (Grow.refl s) (.bl _)⟩
theorem g2_notin {x : PyData} {ys : List PyData} {k : DV → Prop} (hx : SeqAt.shaped x = true) (hy : SeqAt.shaped (.list ys) = true) (h : k (.d (.bool (!ys.any fun y => PyData.eqv y x)))) : G2 C (rNotInD C.K) (.d x) (.d (.list ys)) k := fun F H v u Q' s r1 r2 q =>
  ⟨x, ys, dp_mono s x v r1, dp_mono s _ u r2, hx, hy, q _ _ H F h (Grow.refl s) (.bl _)⟩

/-! ### and, or, not, if -/
theorem fw_and1 {p : Bool} (ha : FPT X C z a p) : FPW X C z (.BoolOp .And [a] pos) p := pw_and1 ha
theorem fw_or1 {p : Bool} (ha : FPT X C z a p) : FPW X C z (.BoolOp .Or [a] pos) p := pw_or1 ha
theorem fw_and {p q : Bool} (ha : FPT X C z a p) (hb : p = true → FPW X C z (.BoolOp .And (b :: es) pos) q) : FPW X C z (.BoolOp .And (a :: b :: es) pos) (p && q) := by
  cases p with
  | true =>
    refine pw_con (pw_and ha (hb rfl)) ?_
    rintro σ H R ⟨F, S, k⟩
    refine ⟨F, S, fun b' z' H' F' ⟨e1, e2⟩ S' e => ?_⟩
    subst e1 e2
    rw [if_pos rfl]
    exact ⟨F', S', fun b' z' H'' F'' x S'' e' => k b' z' H'' F'' x S'' (e.trans e')⟩
  | false =>
    have pb : PW X (.BoolOp .And (b :: es) pos) (fun _ _ _ => False) := ⟨fun _ _ _ _ _ _ _ h => h.elim⟩
    refine pw_con (pw_and ha pb) ?_
    rintro σ H R ⟨F, S, k⟩
    refine ⟨F, S, fun b' z' H' F' ⟨e1, e2⟩ S' e => ?_⟩
    subst e1 e2
    rw [if_neg Bool.false_ne_true]
    exact k _ _ _ _ ⟨rfl, rfl⟩ S' e
theorem fw_or {p q : Bool} (ha : FPT X C z a p) (hb : p = false → FPW X C z (.BoolOp .Or (b :: es) pos) q) : FPW X C z (.BoolOp .Or (a :: b :: es) pos) (p || q) := by
  cases p with
  | false =>
    refine pw_con (pw_or ha (hb rfl)) ?_
    rintro σ H R ⟨F, S, k⟩
    refine ⟨F, S, fun b' z' H' F' ⟨e1, e2⟩ S' e => ?_⟩
    subst e1 e2
    rw [if_neg Bool.false_ne_true]
    exact ⟨F', S', fun b' z' H'' F'' x S'' e' => k b' z' H'' F'' x S'' (e.trans e')⟩
  | true =>
    have pb : PW X (.BoolOp .Or (b :: es) pos) (fun _ _ _ => False) := ⟨fun _ _ _ _ _ _ _ h => h.elim⟩
    refine pw_con (pw_or ha pb) ?_
    rintro σ H R ⟨F, S, k⟩
    refine ⟨F, S, fun b' z' H' F' ⟨e1, e2⟩ S' e => ?_⟩
    subst e1 e2
    rw [if_pos rfl]
    exact k _ _ _ _ ⟨rfl, rfl⟩ S' e
theorem ft_w {p : Bool} (h : FPW X C z e p) : FPT X C z e p := PW.pt h
theorem ft_not {p : Bool} (h : FPT X C z a p) : FPT X C z (.UnaryOp .Not a pos) (!p) := by
  refine pt_con (pt_not h) ?_
  rintro σ H R ⟨F, S, k⟩
  refine ⟨F, S, fun b' z' H' F' ⟨e1, e2⟩ S' e => ?_⟩
  subst e1 e2
  exact k _ _ _ _ ⟨rfl, rfl⟩ S' e
/-- a value that is a bool, as a test (a name, a call, a subscript) -/
theorem ft_val {p : Bool} (h : FP X C z e (.bool p)) (he : ∀ whole, isTrue e X.env whole = (do let v ← whole; standAt e.pos; holding [v] (truthy v)) := by intro _; rfl) : FPT X C z e p := by
  refine pt_con (pt_val h he) ?_
  rintro σ H R ⟨F, S, k⟩
  refine ⟨F, S, fun v d z' H' F' ⟨e1, e2⟩ S' e r => ?_⟩
  subst e1 e2
  exact ⟨p, dp_bool r, k _ _ _ _ ⟨rfl, rfl⟩ S' e⟩
/-- a comparison as a test -/
theorem ft_cmp {op : CmpOp} {r : R2} {x y : PyData} {p : Bool} (ho : OpR X (compareOp op) r) (ha : FP X C z a x) (hb : FP X C z b y) (g : ∀ k : DV → Prop, k (.d (.bool p)) → G2 C r (.d x) (.d y) k)
    (hm : behindInMarks op b = false) : FPT X C z (.Compare a [op] [b] pos) p := by
  refine pt_con (pt_cmpR ho ha hb hm) ?_
  rintro σ H R ⟨F, S, k⟩
  refine ⟨F, S, fun v d z' H' F' ⟨e1, e2⟩ S' e r1 => ?_⟩
  subst e1 e2
  refine ⟨F', S', fun u d2 z' H2 F2 ⟨e1, e2⟩ S2 e2' r2 => ?_⟩
  subst e1 e2
  refine g (fun d => d = .d (.bool p)) rfl F2 H2 v u _ S2.sub (r1.mono e2') r2 fun w d H3 F3 ek gr r3 => ?_
  subst ek
  exact ⟨p, dp_bool r3, k _ _ _ _ ⟨rfl, rfl⟩ (S2.grow gr) ((e.trans e2').trans gr.f)⟩
theorem ft_lt {i j : Int} (ha : FP X C z a (.int i)) (hb : FP X C z b (.int j)) : FPT X C z (.Compare a [.Lt] [b] pos) (decide (i < j)) := ft_cmp op_lt ha hb (fun _ h => g2_B0 (gg := fun i j => decide (i < j)) h) (nomark _)
theorem ft_le {i j : Int} (ha : FP X C z a (.int i)) (hb : FP X C z b (.int j)) : FPT X C z (.Compare a [.LtE] [b] pos) (decide (i ≤ j)) := ft_cmp op_le ha hb (fun _ h => g2_B0 (gg := fun i j => decide (i ≤ j)) h) (nomark _)
theorem ft_gt {i j : Int} (ha : FP X C z a (.int i)) (hb : FP X C z b (.int j)) : FPT X C z (.Compare a [.Gt] [b] pos) (decide (j < i)) := ft_cmp op_gt ha hb (fun _ h => g2_B0 (gg := fun i j => decide (j < i)) h) (nomark _)
theorem ft_ge {i j : Int} (ha : FP X C z a (.int i)) (hb : FP X C z b (.int j)) : FPT X C z (.Compare a [.GtE] [b] pos) (decide (j ≤ i)) := ft_cmp op_ge ha hb (fun _ h => g2_B0 (gg := fun i j => decide (j ≤ i)) h) (nomark _)
theorem ft_eqS {x y : Str} (ha : FP X C z a (.str x)) (hb : FP X C z b (.str y)) : FPT X C z (.Compare a [.Eq] [b] pos) (decide (x = y)) := ft_cmp op_eq ha hb (fun _ h => g2_eqS h) (nomark _)
theorem ft_neS {x y : Str} (ha : FP X C z a (.str x)) (hb : FP X C z b (.str y)) : FPT X C z (.Compare a [.NotEq] [b] pos) (!decide (x = y)) := ft_cmp op_ne ha hb (fun _ h => g2_neS h) (nomark _)
theorem ft_eqI {x y : Int} (ha : FP X C z a (.int x)) (hb : FP X C z b (.int y)) : FPT X C z (.Compare a [.Eq] [b] pos) (decide (x = y)) := ft_cmp op_eq ha hb (fun _ h => g2_eqI h) (nomark _)
theorem ft_neI {x y : Int} (ha : FP X C z a (.int x)) (hb : FP X C z b (.int y)) : FPT X C z (.Compare a [.NotEq] [b] pos) (!decide (x = y)) := ft_cmp op_ne ha hb (fun _ h => g2_neI h) (nomark _)
theorem ft_eqD {x y : PyData} {n : Nat} (hr : Room n X.A) (hK : C.K = X.K) (ha : FP X C z a x) (hb : FP X C z b y) (hx : SeqAt.shaped x = true) (hy : SeqAt.shaped y = true) : FPT X C z (.Compare a [.Eq] [b] pos) (PyData.eqv x y) :=
  ft_cmp (op_eqD hr.units) ha hb (fun _ h => by rw [← hK]; exact g2_eqD hx hy h) (nomark _)
theorem ft_neD {x y : PyData} {n : Nat} (hr : Room n X.A) (hK : C.K = X.K) (ha : FP X C z a x) (hb : FP X C z b y) (hx : SeqAt.shaped x = true) (hy : SeqAt.shaped y = true) : FPT X C z (.Compare a [.NotEq] [b] pos) (!PyData.eqv x y) :=
  ft_cmp (op_neD hr.units) ha hb (fun _ h => by rw [← hK]; exact g2_neD hx hy h) (nomark _)
theorem ft_isN {x : PyData} {j : Nat} {p2 : Pos} (ha : FP X C z a x) : FPT X C z (.Compare a [.Is] [.Constant .none j p2] pos) (isNo x) := by
  refine pt_con (pt_cmp (pc_isN ha)) ?_
  rintro σ H R ⟨F, S, q⟩
  refine ⟨F, S, fun v d z' H' F' ⟨e1, e2⟩ S' e r => ?_⟩
  subst e1 e2
  refine ⟨_, rfl, ?_⟩
  rw [isNo_of (x := x) r]
  exact q _ _ H' F' ⟨rfl, rfl⟩ S' e
theorem ft_notN {x : PyData} {j : Nat} {p2 : Pos} (ha : FP X C z a x) : FPT X C z (.Compare a [.IsNot] [.Constant .none j p2] pos) (!isNo x) := by
  refine pt_con (pt_cmp (pc_notN ha)) ?_
  rintro σ H R ⟨F, S, q⟩
  refine ⟨F, S, fun v d z' H' F' ⟨e1, e2⟩ S' e r => ?_⟩
  subst e1 e2
  refine ⟨_, rfl, ?_⟩
  rw [isNo_of (x := x) r]
  exact q _ _ H' F' ⟨rfl, rfl⟩ S' e
theorem ft_in {x : PyData} {ys : List PyData} (hu : X.A.units + 65 < cLine) (hK : C.K = X.K) (ha : FP X C z a x) (hb : FP X C z b (.list ys)) (hx : SeqAt.shaped x = true) (hy : SeqAt.shaped (.list ys) = true) (hm : behindInMarks .In b = false := by rfl) :
    FPT X C z (.Compare a [.In] [b] pos) (ys.any fun y => PyData.eqv y x) := ft_cmp (op_inD hu) ha hb (fun _ h => by rw [← hK]; exact g2_in hx hy h) hm
theorem ft_notin {x : PyData} {ys : List PyData} (hu : X.A.units + 65 < cLine) (hK : C.K = X.K) (ha : FP X C z a x) (hb : FP X C z b (.list ys)) (hx : SeqAt.shaped x = true) (hy : SeqAt.shaped (.list ys) = true) (hm : behindInMarks .NotIn b = false := by rfl) :
    FPT X C z (.Compare a [.NotIn] [b] pos) (!ys.any fun y => PyData.eqv y x) := ft_cmp (op_notInD hu) ha hb (fun _ h => by rw [← hK]; exact g2_notin hx hy h) hm

/-- as values -/
theorem fp_one {op : BoolOp} {d : PyData} (h : FP X C z a d) : FP X C z (.BoolOp op [a] pos) d := pe_one h
theorem fp_and {p : Bool} {q : Bool} (ha : FP X C z a (.bool p)) (hb : p = true → FP X C z (.BoolOp .And (b :: es) pos) (.bool q)) : FP X C z (.BoolOp .And (a :: b :: es) pos) (.bool (p && q)) := by
  have pb : PE X (.BoolOp .And (b :: es) pos) (fun σ H R => p = true ∧ tW C z (fun d' z' => d' = .d (.bool q) ∧ z' = z) σ H R) := ⟨fun pins s σ H R I ⟨hp, h⟩ => (hb hp).run pins s σ H R I h⟩
  refine pe_con (pe_and ha pb) ?_
  rintro σ H R ⟨F, S, k⟩
  refine ⟨F, S, fun v d z' H' F' ⟨e1, e2⟩ S' e r => ?_⟩
  subst e1 e2
  refine ⟨p, dp_bool r, ?_⟩
  cases p with
  | true =>
    rw [if_pos rfl]
    exact ⟨rfl, F', S', fun v d z' H'' F'' x S'' e' => k v d z' H'' F'' x S'' (e.trans e')⟩
  | false =>
    rw [if_neg Bool.false_ne_true]
    exact k _ _ _ _ _ ⟨rfl, rfl⟩ S' e (.bl _)
theorem fp_or {p : Bool} {q : Bool} (ha : FP X C z a (.bool p)) (hb : p = false → FP X C z (.BoolOp .Or (b :: es) pos) (.bool q)) : FP X C z (.BoolOp .Or (a :: b :: es) pos) (.bool (p || q)) := by
  have pb : PE X (.BoolOp .Or (b :: es) pos) (fun σ H R => p = false ∧ tW C z (fun d' z' => d' = .d (.bool q) ∧ z' = z) σ H R) := ⟨fun pins s σ H R I ⟨hp, h⟩ => (hb hp).run pins s σ H R I h⟩
  refine pe_con (pe_or ha pb) ?_
  rintro σ H R ⟨F, S, k⟩
  refine ⟨F, S, fun v d z' H' F' ⟨e1, e2⟩ S' e r => ?_⟩
  subst e1 e2
  refine ⟨p, dp_bool r, ?_⟩
  cases p with
  | false =>
    rw [if_neg Bool.false_ne_true]
    exact ⟨rfl, F', S', fun v d z' H'' F'' x S'' e' => k v d z' H'' F'' x S'' (e.trans e')⟩
  | true =>
    rw [if_pos rfl]
    exact k _ _ _ _ _ ⟨rfl, rfl⟩ S' e (.bl _)
theorem fp_not {p : Bool} (ha : FP X C z a (.bool p)) : FP X C z (.UnaryOp .Not a pos) (.bool (!p)) := by
  refine pe_con (pe_not ha) ?_
  rintro σ H R ⟨F, S, k⟩
  refine ⟨F, S, fun v d z' H' F' ⟨e1, e2⟩ S' e r => ?_⟩
  subst e1 e2
  exact ⟨p, dp_bool r, k _ _ _ _ _ ⟨rfl, rfl⟩ S' e (.bl _)⟩
theorem fp_neg {i : Int} (ha : FP X C z a (.int i)) : FP X C z (.UnaryOp .USub a pos) (.int (-i)) := by
  refine pe_con (pe_un un_neg ha) ?_
  rintro σ H R ⟨F, S, k⟩
  refine ⟨F, S, fun v d z' H' F' ⟨e1, e2⟩ S' e r => ?_⟩
  subst e1 e2
  exact ⟨i, dp_int r, k _ _ _ _ _ ⟨rfl, rfl⟩ S' e (.int _)⟩
/-- a if t else b, with any ends -/
theorem fe_if {c : Expr} {p : Bool} {Q : DV → Zs → Prop} (hc : FPT X C z c p) (ha : p = true → FE X C z a Q) (hb : p = false → FE X C z b Q) : FE X C z (.IfExp c a b pos) Q := by
  have pa : PE X a (fun σ H R => p = true ∧ tW C z Q σ H R) := ⟨fun pins s σ H R I ⟨hp, h⟩ => (ha hp).run pins s σ H R I h⟩
  have pb : PE X b (fun σ H R => p = false ∧ tW C z Q σ H R) := ⟨fun pins s σ H R I ⟨hp, h⟩ => (hb hp).run pins s σ H R I h⟩
  refine pe_con (pe_ifExp hc pa pb) ?_
  rintro σ H R ⟨F, S, k⟩
  refine ⟨F, S, fun b' z' H' F' ⟨e1, e2⟩ S' e => ?_⟩
  subst e1 e2
  cases b' with
  | true =>
    rw [if_pos rfl]
    exact ⟨rfl, F', S', fun v d z' H'' F'' x S'' e' => k v d z' H'' F'' x S'' (e.trans e')⟩
  | false =>
    rw [if_neg Bool.false_ne_true]
    exact ⟨rfl, F', S', fun v d z' H'' F'' x S'' e' => k v d z' H'' F'' x S'' (e.trans e')⟩
theorem fp_if {c : Expr} {p : Bool} {x y : PyData} (hc : FPT X C z c p) (ha : p = true → FP X C z a x) (hb : p = false → FP X C z b y) : FP X C z (.IfExp c a b pos) (if p = true then x else y) := by
  refine fe_if hc (fun h => ?_) (fun h => ?_)
  · rw [if_pos h]; exact ha h
  · rw [if_neg (by rw [h]; exact Bool.false_ne_true)]; exact hb h

/-! ### arguments and displays -/
theorem fa_nil {Q : List DV → Zs → Prop} (k : Q [] z) : FA X C z [] Q := pa_con pa_nil fun σ H R ⟨F, S, q⟩ => q [] [] z H F k S (Sub.refl _) .nil
theorem paired_mono {K : PySem.W.Frag} {P : Option Addr} {F G : Hp} (e : Sub F G) : ∀ {vs : List V} {ds : List DV}, Paired (RV K P F) vs ds → Paired (RV K P G) vs ds
  | _, _, .nil => .nil
  | _, _, .cons h t => .cons (h.mono e) (paired_mono e t)
theorem fa_cons {Qe : DV → Zs → Prop} {Q : List DV → Zs → Prop} (h : FE X C z e Qe) (hr : ∀ d z1, Qe d z1 → FA X C z1 es fun ds z2 => Q (d :: ds) z2)
    (hs : starEach (e :: es) X.env = (false, eval e X.env) :: starEach es X.env := by rfl) : FA X C z (e :: es) Q := by
  have pr : PA X es (fun σ H R => ∃ d z1, Qe d z1 ∧ tWA C z1 (fun ds z2 => Q (d :: ds) z2) σ H R) := ⟨fun p pins s σ H R I ⟨d, z1, q, h⟩ => (hr d z1 q).run p pins s σ H R I h⟩
  refine pa_con (pa_cons h pr hs) ?_
  rintro σ H R ⟨F, S, k⟩
  refine ⟨F, S, fun v d z1 H1 F1 q S1 e1 r1 => ⟨d, z1, q, F1, S1, fun vs ds z2 H2 F2 q2 S2 e2 r2 => ?_⟩⟩
  exact k _ _ z2 H2 F2 q2 S2 (e1.trans e2) (.cons (r1.mono e2) r2)
theorem fpa_nil : FPA X C z [] [] := fa_nil ⟨rfl, rfl⟩
theorem fpa_cons {d : PyData} {ds : List PyData} (h : FP X C z e d) (hr : FPA X C z es ds) (hs : starEach (e :: es) X.env = (false, eval e X.env) :: starEach es X.env := by rfl) : FPA X C z (e :: es) (d :: ds) :=
  fa_cons h (fun _ _ ⟨e1, e2⟩ => by
    subst e1 e2
    exact fa_mono hr fun _ _ ⟨e1, e2⟩ => by
      subst e1 e2
      exact ⟨rfl, rfl⟩) hs
theorem paired_dp {K : PySem.W.Frag} {P : Option Addr} {F : Hp} : ∀ {vs : List V} {ds : List PyData}, Paired (RV K P F) vs (ds.map .d) → DpAll K F vs ds
  | _, [], h => by cases h; exact .nil
  | _, d :: ds, h => by
    cases h with
    | cons h t => exact .cons h (paired_dp t)
theorem dp_paired {K : PySem.W.Frag} {P : Option Addr} {F : Hp} : ∀ {vs : List V} {ds : List PyData}, DpAll K F vs ds → Paired (RV K P F) vs (ds.map .d)
  | _, _, .nil => .nil
  | _, _, .cons h t => .cons h (dp_paired t)
theorem paired_app {α β : Type} {R : α → β → Prop} : ∀ {a1 a2 : List α} {b1 b2 : List β}, Paired R a1 b1 → Paired R a2 b2 → Paired R (a1 ++ a2) (b1 ++ b2)
  | _, _, _, _, .nil, h => h
  | _, _, _, _, .cons r t, h => .cons r (paired_app t h)
/-- *e -/
theorem fa_star {Qe : List PyData → Zs → Prop} {Q : List DV → Zs → Prop} {p : Pos} (hK : C.K = X.K) (h : FE X C z e fun d z1 => ∃ xs, (d = .d (.tuple xs) ∨ d = .d (.list xs)) ∧ Qe xs z1) (hr : ∀ xs z1, Qe xs z1 → FA X C z1 es fun ds z2 => Q (xs.map .d ++ ds) z2)
    (hs : starEach (.Starred e p :: es) X.env = (true, eval e X.env) :: starEach es X.env := by rfl) : FA X C z (.Starred e p :: es) Q := by
  have pr : PA X es (fun σ H R => ∃ xs z1, Qe xs z1 ∧ tWA C z1 (fun ds z2 => Q (xs.map .d ++ ds) z2) σ H R) := ⟨fun p pins s σ H R I ⟨d, z1, q, h⟩ => (hr d z1 q).run p pins s σ H R I h⟩
  refine pa_con (StX.pa_star h pr hs) ?_
  rintro σ H R ⟨F, S, k⟩
  refine ⟨F, S, fun v d z1 H1 F1 q S1 e1 r1 => ?_⟩
  obtain ⟨xs, hd, q⟩ := q
  rw [← hK]
  rcases hd with hd | hd
  · subst hd
    obtain ⟨a, vs, ev, hq, hp⟩ := dp_tuple r1
    exact ⟨a, vs, ev, .inl (S1.sub.st hq), xs, z1, q, F1, S1, fun ws ds z2 H2 F2 q2 S2 e2 r2 => k _ _ z2 H2 F2 q2 S2 (e1.trans e2) (paired_app (dp_paired (dpAll_mono e2 _ _ hp)) r2)⟩
  · subst hd
    obtain ⟨a, vs, ev, hq, hp⟩ := dp_list r1
    exact ⟨a, vs, ev, .inr (S1.sub.sl hq), xs, z1, q, F1, S1, fun ws ds z2 H2 F2 q2 S2 e2 r2 => k _ _ z2 H2 F2 q2 S2 (e1.trans e2) (paired_app (dp_paired (dpAll_mono e2 _ _ hp)) r2)⟩
theorem fpa_starT {xs ds : List PyData} {p : Pos} (hK : C.K = X.K) (h : FP X C z e (.tuple xs)) (hr : FPA X C z es ds)
    (hs : starEach (.Starred e p :: es) X.env = (true, eval e X.env) :: starEach es X.env := by rfl) : FPA X C z (.Starred e p :: es) (xs ++ ds) :=
  fa_star (Qe := fun ys z1 => ys = xs ∧ z1 = z) hK (fe_mono h fun _ _ ⟨e1, e2⟩ => ⟨xs, .inl e1, rfl, e2⟩) (fun _ _ ⟨e1, e2⟩ => by
    subst e1 e2
    exact fa_mono hr fun _ _ ⟨e1, e2⟩ => by
      subst e1 e2
      exact ⟨by rw [List.map_append], rfl⟩) hs
theorem fpa_starL {xs ds : List PyData} {p : Pos} (hK : C.K = X.K) (h : FP X C z e (.list xs)) (hr : FPA X C z es ds)
    (hs : starEach (.Starred e p :: es) X.env = (true, eval e X.env) :: starEach es X.env := by rfl) : FPA X C z (.Starred e p :: es) (xs ++ ds) :=
  fa_star (Qe := fun ys z1 => ys = xs ∧ z1 = z) hK (fe_mono h fun _ _ ⟨e1, e2⟩ => ⟨xs, .inr e1, rfl, e2⟩) (fun _ _ ⟨e1, e2⟩ => by
    subst e1 e2
    exact fa_mono hr fun _ _ ⟨e1, e2⟩ => by
      subst e1 e2
      exact ⟨by rw [List.map_append], rfl⟩) hs
theorem map_d_inj : ∀ {xs ys : List PyData}, xs.map DV.d = ys.map DV.d → xs = ys
  | [], [], _ => rfl
  | [], _ :: _, h => by cases h
  | _ :: _, [], h => by cases h
  | x :: xs, y :: ys, h => by
    injection h with h1 h2
    injection h1 with h1
    rw [h1, map_d_inj h2]
/-- a tuple is made -/
theorem fe_tuple {k : Nat} {Q : DV → Zs → Prop} (h : FA X C z es fun ds z1 => ∃ xs, ds = xs.map .d ∧ xs.length ≤ sizeLine ∧ Q (.d (.tuple xs)) z1) : FE X C z (.Tuple es k pos) Q := by
  refine pe_con (pe_tup h) ?_
  rintro σ H R ⟨F, S, k⟩
  refine ⟨F, S, fun vs ds z1 H1 F1 ⟨xs, e0, hz, q⟩ S1 e1 r1 => ?_⟩
  subst e0
  have r1 := paired_dp r1
  refine ⟨by rw [dpAll_len r1]; exact hz, fun p hp => ?_⟩
  have g : Grow H1 F1 (upd H1 p (.tup vs)) (upd F1 p (.tup vs)) := Grow.new S1.sub hp
  exact k _ _ z1 _ _ q (S1.grow g) (e1.trans g.f) (.tup (SqT.of upd_same) (dpAll_mono g.f _ _ r1))
theorem fp_tuple {k : Nat} {xs : List PyData} (h : FPA X C z es xs) (hz : xs.length ≤ 100000 := by first | decide | (simp only [List.length_cons, List.length_nil]; decide)) : FP X C z (.Tuple es k pos) (.tuple xs) :=
  fe_tuple (fa_mono h fun _ _ ⟨e1, e2⟩ => ⟨xs, e1, by rw [sizeLine_eq]; omega, rfl, e2⟩)
end
end DL

set_option Elab.async false
set_option linter.all false
set_option maxRecDepth 100000
set_option maxHeartbeats 4000000
set_option autoImplicit false
namespace DL
open PySem PySem.Spec PyProof.Rows L2

/-! ### lists of one's own -/
structure OwnO (C : Ct) (z : Zs) (σ : L2.St) (H F : Hp) (a : Addr) (o : HO) : Prop where
  at_ : H a = some o
  nf : F a = none
  nh : C.hold a = none
  np : C.P ≠ some a
  sep : ∀ (i : Nat) (xs : Cn), z.r[i]? = some (.og xs) → σ[i]? ≠ some (some (.ref a))
abbrev Own (C : Ct) (z : Zs) (σ : L2.St) (H F : Hp) (a : Addr) (vs : List V) : Prop := OwnO C z σ H F a (.lst vs)
theorem Sim.cell {C : Ct} {z : Zs} {σ : L2.St} {H F : Hp} (S : Sim C z σ H F) {p : Addr} (hp : H p = none) (o : HO) : Sim C z σ (upd H p o) F where
  sub := S.sub.trans (sub_new hp)
  ext := S.ext
  keep := S.keep.trans (sub_new hp)
  fresh := S.fresh
  slots := fun i s e => by
    have q := S.slots i s e
    cases s with
    | un => trivial
    | v d => exact q
    | og ds =>
      obtain ⟨a, vs, e1, h1, f1, h2, p1, r⟩ := q
      exact ⟨a, vs, e1, sub_new hp _ _ h1, f1, h2, p1, r⟩
  sep := S.sep
  pot := fun p e => by
    obtain ⟨h1, f1, h2⟩ := S.pot p e
    exact ⟨sub_new hp _ _ h1, f1, h2⟩
  len := S.len
  tab := fun q e => by
    obtain ⟨h1, f1, h2⟩ := S.tab q e
    exact ⟨h1.ext (sub_new hp), f1, h2⟩
  ft := S.ft
  ht := S.ht
theorem Sim.own_newO {C : Ct} {z : Zs} {σ : L2.St} {H F : Hp} (S : Sim C z σ H F) {p : Addr} (hp : H p = none) (o : HO) : OwnO C z σ (upd H p o) F p o where
  at_ := upd_same
  nf := none_of_sub S.sub hp
  nh := none_of_sub S.keep hp
  np := fun e => by
    have q := (S.pot p e).1
    rw [hp] at q
    cases q
  sep := fun i xs e q => by
    obtain ⟨a, ws, e1, h1, _⟩ := S.slots i _ e
    rw [q] at e1
    cases e1
    rw [hp] at h1
    cases h1
theorem Sim.own_new {C : Ct} {z : Zs} {σ : L2.St} {H F : Hp} (S : Sim C z σ H F) {p : Addr} (hp : H p = none) (vs : List V) : Own C z σ (upd H p (.lst vs)) F p vs := S.own_newO hp _
theorem Sim.freeze {C : Ct} {z : Zs} {σ : L2.St} {H F : Hp} {a : Addr} {vs : List V} (S : Sim C z σ H F) (o : Own C z σ H F a vs) : Sim C z σ H (upd F a (.lst vs)) where
  sub := fun b u e => by
    by_cases q : b = a
    · subst q; rw [upd_same] at e; cases e; exact o.at_
    · rw [upd_ne q] at e; exact S.sub b u e
  ext := S.ext.trans (sub_new o.nf)
  keep := S.keep
  fresh := fun b u e => by
    by_cases q : b = a
    · subst q; exact .inr o.nh
    · rw [upd_ne q] at e; exact S.fresh b u e
  slots := fun i s e => by
    have q := S.slots i s e
    cases s with
    | un => trivial
    | v d =>
      obtain ⟨v, e1, r⟩ := q
      exact ⟨v, e1, r.mono (sub_new o.nf)⟩
    | og ds =>
      obtain ⟨b, ws, e1, h1, f1, h2, p1, r⟩ := q
      refine ⟨b, ws, e1, h1, ?_, h2, p1, r.mono (sub_new o.nf)⟩
      have hb : b ≠ a := fun z => by subst z; exact o.sep i ds e e1
      rw [upd_ne hb]; exact f1
  sep := S.sep
  pot := fun p e => by
    obtain ⟨h1, f1, h2⟩ := S.pot p e
    refine ⟨h1, ?_, h2⟩
    have hb : p ≠ a := fun z => by subst z; exact o.np e
    rw [upd_ne hb]; exact f1
  len := S.len
  tab := fun p e => by
    obtain ⟨h1, f1, h2⟩ := S.tab p e
    refine ⟨h1, ?_, h2⟩
    obtain ⟨ps, t1, _⟩ := h1
    have hb : p.1 ≠ a := fun z => by rw [z, o.at_] at t1; cases t1
    rw [upd_ne hb]; exact f1
  ft := fun b ps e => by
    by_cases q : b = a
    · subst q; rw [upd_same] at e; cases e
    · rw [upd_ne q] at e; exact S.ft b ps e
  ht := S.ht
def tWL (C : Ct) (z : Zs) (Q : List PyData → Zs → Prop) : TE := fun σ H Q' => ∃ F, Sim C z σ H F ∧ ∀ a vs ds z' H' F', Q ds z' → Sim C z' σ H' F' → Sub F F' → Own C z' σ H' F' a vs → DpAll C.K F' vs ds → Q' (.ref a) H'
/-- e gives a new list -/
def FL (X : Cx) (C : Ct) (z : Zs) (e : Expr) (Q : List PyData → Zs → Prop) : Prop := PE X e (tWL C z Q)
def FLP (X : Cx) (C : Ct) (z : Zs) (e : Expr) (ds : List PyData) : Prop := FL X C z e fun ds' z' => ds' = ds ∧ z' = z

section
variable {X : Cx} {C : Ct} {z : Zs} {e a b : Expr} {es : List Expr} {pos : Pos}
theorem fe_fl {Q : DV → Zs → Prop} (h : FL X C z e fun ds z' => Q (.d (.list ds)) z') : FE X C z e Q := by
  refine pe_con h ?_
  rintro σ H R ⟨F, S, k⟩
  refine ⟨F, S, fun a vs ds z' H' F' q S' e o r => ?_⟩
  exact k _ _ z' H' _ q (S'.freeze o) (e.trans (sub_new o.nf)) (.lst (SqL.of upd_same) (dpAll_mono (sub_new o.nf) _ _ r))
theorem fp_fl {ds : List PyData} (h : FLP X C z e ds) : FP X C z e (.list ds) := fe_fl (pe_con h fun σ H R ⟨F, S, k⟩ => ⟨F, S, fun a vs ds z' H' F' ⟨e1, e2⟩ => k a vs ds z' H' F' ⟨by rw [e1], e2⟩⟩)
theorem fl_mono {Q Q' : List PyData → Zs → Prop} (h : FL X C z e Q) (k : ∀ d z', Q d z' → Q' d z') : FL X C z e Q' :=
  pe_con h fun σ H R ⟨F, S, q⟩ => ⟨F, S, fun a vs d z' H' F' x => q a vs d z' H' F' (k d z' x)⟩
theorem flp_is {d d' : List PyData} (h : FLP X C z e d) (k : d = d') : FLP X C z e d' := k ▸ h
/-- a list is made -/
theorem fl_list {Q : List PyData → Zs → Prop} (h : FA X C z es fun ds z1 => ∃ xs, ds = xs.map .d ∧ xs.length ≤ sizeLine ∧ Q xs z1) : FL X C z (.List es pos) Q := by
  refine pe_con (pe_lst h) ?_
  rintro σ H R ⟨F, S, k⟩
  refine ⟨F, S, fun vs ds z1 H1 F1 ⟨xs, e0, hz, q⟩ S1 e1 r1 => ?_⟩
  subst e0
  have r1 := paired_dp r1
  refine ⟨by rw [dpAll_len r1]; exact hz, fun p hp => ?_⟩
  exact k p vs xs z1 _ F1 q (S1.cell hp _) e1 (S1.own_new hp vs) r1
theorem flp_list {xs : List PyData} (h : FPA X C z es xs) (hz : xs.length ≤ 100000 := by first | decide | (simp only [List.length_cons, List.length_nil]; decide)) : FLP X C z (.List es pos) xs :=
  fl_list (fa_mono h fun _ _ ⟨e1, e2⟩ => ⟨xs, e1, by rw [sizeLine_eq]; omega, rfl, e2⟩)

/-! ### an item -/
theorem ix_dp {K : PySem.W.Frag} {F : Hp} {vs : List V} {ds : List PyData} (h : DpAll K F vs ds) {i : Int} {d : PyData} (e : atI ds i = some d) : ∃ v, atI vs i = some v ∧ Dp K F v d := by
  unfold atI at e ⊢
  rw [dpAll_len h]
  cases q : ixN ds.length i with
  | none => rw [q] at e; cases e
  | some j =>
    rw [q] at e
    obtain ⟨v, e1, r⟩ := dpAll_get h (i := j) (d := d) e
    exact ⟨v, e1, r⟩
theorem g2_ixT {ds : List PyData} {i : Int} {d : PyData} {k : DV → Prop} (hd : atI ds i = some d) (h : k (.d d)) : G2 C (rIxT C.K) (.d (.tuple ds)) (.d (.int i)) k := fun F H v u Q' s r1 r2 q => by
  obtain ⟨a, vs, ev, hq, hp⟩ := dp_tuple r1
  obtain ⟨w, e1, r⟩ := ix_dp hp hd
  exact ⟨a, vs, i, w, ev, dp_int r2, s.st hq, e1, q w (.d d) H F h (Grow.refl s) r⟩
theorem g2_ixL {ds : List PyData} {i : Int} {d : PyData} {k : DV → Prop} (hd : atI ds i = some d) (h : k (.d d)) : G2 C (rIxL C.K) (.d (.list ds)) (.d (.int i)) k := fun F H v u Q' s r1 r2 q => by
  obtain ⟨a, vs, ev, hq, hp⟩ := dp_list r1
  obtain ⟨w, e1, r⟩ := ix_dp hp hd
  exact ⟨a, vs, i, w, ev, dp_int r2, s.sl hq, e1, q w (.d d) H F h (Grow.refl s) r⟩
theorem fp_ixT {ds : List PyData} {i : Int} {d : PyData} (hK : C.K = X.K) (ha : FP X C z a (.tuple ds)) (hb : FP X C z b (.int i)) (hd : atI ds i = some d) (hs : PlainIx b := by exact fun _ _ => rfl) : FP X C z (.Subscript a b pos) d :=
  fp_bin (fun _ _ ha hb => pe_ix ix_tup ha hb hs) ha hb fun _ h => by rw [← hK]; exact g2_ixT hd h
theorem fp_ixL {ds : List PyData} {i : Int} {d : PyData} (hK : C.K = X.K) (ha : FP X C z a (.list ds)) (hb : FP X C z b (.int i)) (hd : atI ds i = some d) (hs : PlainIx b := by exact fun _ _ => rfl) : FP X C z (.Subscript a b pos) d :=
  fp_bin (fun _ _ ha hb => pe_ix ix_list ha hb hs) ha hb fun _ h => by rw [← hK]; exact g2_ixL hd h
theorem fe_ixL {ds : List PyData} {Q : DV → Zs → Prop} (hK : C.K = X.K) (ha : FP X C z a (.list ds)) (hb : FE X C z b fun y z1 => ∃ i d, y = .d (.int i) ∧ atI ds i = some d ∧ Q (.d d) z1) (hs : PlainIx b := by exact fun _ _ => rfl) : FE X C z (.Subscript a b pos) Q :=
  fe_bin (fun _ _ ha hb => pe_ix ix_list ha hb hs) ha fun _ _ ⟨e1, e2⟩ => by
    subst e1 e2
    exact fe_mono hb fun y z1 ⟨i, d, ey, hd, q⟩ => by
      subst ey
      rw [← hK]; exact g2_ixL hd q
theorem fe_ixT {ds : List PyData} {Q : DV → Zs → Prop} (hK : C.K = X.K) (ha : FP X C z a (.tuple ds)) (hb : FE X C z b fun y z1 => ∃ i d, y = .d (.int i) ∧ atI ds i = some d ∧ Q (.d d) z1) (hs : PlainIx b := by exact fun _ _ => rfl) : FE X C z (.Subscript a b pos) Q :=
  fe_bin (fun _ _ ha hb => pe_ix ix_tup ha hb hs) ha fun _ _ ⟨e1, e2⟩ => by
    subst e1 e2
    exact fe_mono hb fun y z1 ⟨i, d, ey, hd, q⟩ => by
      subst ey
      rw [← hK]; exact g2_ixT hd q
/-- a name that holds a list of its own, read in place -/
theorem fp_onO {r : R2} {x : Str} {ds : List PyData} {y d : PyData} (i : Nat) (rule : ∀ ta tb, PE X (.Name x pos) ta → PE X b tb → PE X e (tOp r ta tb)) (hz : z.r[i]? = some (.ow ds)) (hb : FP X C z b y)
    (g : ∀ (F H : Hp) (p : Addr) (vs : List V) (u : V) (Q' : VK), Sub F H → H p = some (.lst vs) → DpAll C.K F vs ds → Dp C.K F u y → (∀ w H' F', Grow H F H' F' → Dp C.K F' w d → Q' w H') → r (.ref p) u H Q')
    (hN : X.N[i]? = some x := by rfl)
    (hv : Vis X.env.scope x := by first | exact Or.inl rfl | exact Or.inr (Or.inl rfl) | exact Or.inr (Or.inr rfl))
    (hd : (x == ("__debug__" : Str)) = false := by decide) (hcd : (x == ("__classdict__" : Str)) = false := by decide) : FP X C z e d := by
  refine pe_con (rule _ _ (pe_var hN hv hd hcd) hb) ?_
  rintro σ H R ⟨F, S, k⟩
  obtain ⟨p, vs, e1, h1, f1, _, _, r⟩ := S.own i hz
  refine ⟨.ref p, e1, F, S, fun u d' z' H' F' ⟨q1, q2⟩ S' e2 r2 => ?_⟩
  subst q1 q2
  obtain ⟨p', vs', e1', h1', _, _, _, r'⟩ := S'.own i hz
  rw [e1] at e1'
  cases e1'
  exact g F' H' p vs' u R S'.sub h1' r' r2 fun w H2 F2 gr r3 => k w (.d d) z' H2 F2 ⟨rfl, rfl⟩ (S'.grow gr) (e2.trans gr.f) r3
theorem fp_ixO {x : Str} {ds : List PyData} {j : Int} {d : PyData} {pn : Pos} (i : Nat) (hK : C.K = X.K) (hz : z.r[i]? = some (.ow ds)) (hb : FP X C z b (.int j)) (hj : atI ds j = some d) (hs : PlainIx b := by exact fun _ _ => rfl)
    (hN : X.N[i]? = some x := by rfl)
    (hv : Vis X.env.scope x := by first | exact Or.inl rfl | exact Or.inr (Or.inl rfl) | exact Or.inr (Or.inr rfl))
    (hd : (x == ("__debug__" : Str)) = false := by decide) (hcd : (x == ("__classdict__" : Str)) = false := by decide) : FP X C z (.Subscript (.Name x pn) b pos) d :=
  fp_onO i (fun _ _ ha hb => pe_ix ix_list ha hb hs) hz hb (fun F H p vs u Q' s h1 r r2 q => by
    obtain ⟨w, e1, r3⟩ := ix_dp r hj
    exact ⟨p, vs, j, w, rfl, dp_int r2, SqL.of h1, e1, q w H F (Grow.refl s) r3⟩) hN hv hd hcd

/-! ### slices -/
def cutD (xs : List PyData) (lo hi : Option Int) : List PyData := (xs.drop (HT.sIx xs.length 0 lo)).take (HT.sIx xs.length xs.length hi - HT.sIx xs.length 0 lo)
theorem cut_dp {K : PySem.W.Frag} {F : Hp} {vs : List V} {ds : List PyData} (h : DpAll K F vs ds) (lo hi : Option Int) : DpAll K F (cutV vs lo hi) (cutD ds lo hi) := by
  unfold cutV cutD
  rw [dpAll_len h]
  exact dpAll_take _ (dpAll_drop _ h)
def tWO (C : Ct) (z : Zs) (o : Option Int) : TO := fun σ H Q' => ∃ F, Sim C z σ H F ∧ ∀ H' F', Sim C z σ H' F' → Sub F F' → Q' o H'
/-- a part of a slice -/
def FO (X : Cx) (C : Ct) (z : Zs) (e : Option Expr) (o : Option Int) : Prop := PO X e (tWO C z o)
theorem po_con {e : Option Expr} {t t' : TO} (h : PO X e t) (k : ∀ σ H Q, t' σ H Q → t σ H Q) : PO X e t' := ⟨fun pins s σ H Q I hq => h.run pins s σ H Q I (k σ H Q hq)⟩
theorem fo_none : FO X C z none none := po_con po_none fun σ H R ⟨F, S, k⟩ => k H F S (Sub.refl _)
theorem fo_some {i : Int} (h : FP X C z e (.int i)) : FO X C z (some e) (some i) := by
  refine po_con (po_some h) ?_
  rintro σ H R ⟨F, S, k⟩
  refine ⟨F, S, fun v d z' H' F' ⟨e1, e2⟩ S' e r => ?_⟩
  subst e1 e2
  exact ⟨i, dp_int r, k H' F' S' e⟩
theorem sIx_whole {α : Type} (xs : List α) (lo hi : Option Int) (h : HT.sIx xs.length 0 lo = 0 ∧ HT.sIx xs.length xs.length hi = xs.length) : (xs.drop (HT.sIx xs.length 0 lo)).take (HT.sIx xs.length xs.length hi - HT.sIx xs.length 0 lo) = xs := by
  rw [h.1, h.2, List.drop_zero, Nat.sub_zero]
  exact List.take_length
theorem fp_slT {ds : List PyData} {lo hi : Option Expr} {l u : Option Int} {p2 : Pos} (hK : C.K = X.K) (ha : FP X C z a (.tuple ds)) (hl : FO X C z lo l) (hu : FO X C z hi u) : FP X C z (.Subscript a (.Slice lo hi none p2) pos) (.tuple (cutD ds l u)) := by
  refine pe_con (pe_slice sl_tupA ha hl hu) ?_
  rintro σ H R ⟨F, S, k⟩
  refine ⟨F, S, fun v d z' H1 F1 ⟨e1, e2⟩ S1 s1 r => ?_⟩
  subst e1 e2
  refine ⟨F1, S1, fun H2 F2 S2 s2 => ⟨F2, S2, fun H3 F3 S3 s3 => ?_⟩⟩
  obtain ⟨p, vs, ev, hq, hp⟩ := dp_tuple r
  have hq3 : SqT X.K H3 p vs := by rw [← hK]; exact S3.sub.st ((s2.trans s3).st hq)
  have hp3 := dpAll_mono (s2.trans s3) _ _ hp
  refine ⟨p, vs, ev, hq3, fun hw => ?_, fun hw q hn => ?_⟩
  · refine k _ _ z' H3 F3 ⟨rfl, rfl⟩ S3 ((s1.trans s2).trans s3) ?_
    have ec : cutD ds l u = ds := by
      unfold cutD
      rw [dpAll_len hp] at hw
      exact sIx_whole ds l u hw
    rw [ec]
    exact .tup ((s2.trans s3).st hq) hp3
  · have g : Grow H3 F3 (upd H3 q (.tup (cutV vs l u))) (upd F3 q (.tup (cutV vs l u))) := Grow.new S3.sub hn
    exact k _ _ z' _ _ ⟨rfl, rfl⟩ (S3.grow g) (((s1.trans s2).trans s3).trans g.f) (.tup (SqT.of upd_same) (dpAll_mono g.f _ _ (cut_dp hp3 l u)))
theorem flp_slL {ds : List PyData} {lo hi : Option Expr} {l u : Option Int} {p2 : Pos} (hK : C.K = X.K) (ha : FP X C z a (.list ds)) (hl : FO X C z lo l) (hu : FO X C z hi u) : FLP X C z (.Subscript a (.Slice lo hi none p2) pos) (cutD ds l u) := by
  refine pe_con (pe_slice sl_list ha hl hu) ?_
  rintro σ H R ⟨F, S, k⟩
  refine ⟨F, S, fun v d z' H1 F1 ⟨e1, e2⟩ S1 s1 r => ?_⟩
  subst e1 e2
  refine ⟨F1, S1, fun H2 F2 S2 s2 => ⟨F2, S2, fun H3 F3 S3 s3 => ?_⟩⟩
  obtain ⟨p, vs, ev, hq, hp⟩ := dp_list r
  have hq3 : SqL X.K H3 p vs := by rw [← hK]; exact S3.sub.sl ((s2.trans s3).sl hq)
  refine ⟨p, vs, ev, hq3, fun q hn => ?_⟩
  exact k q _ _ z' _ F3 ⟨rfl, rfl⟩ (S3.cell hn _) ((s1.trans s2).trans s3) (S3.own_new hn _) (cut_dp (dpAll_mono (s2.trans s3) _ _ hp) l u)
theorem cutD_from (xs : List PyData) (k : Nat) : cutD xs (some (k : Int)) none = xs.drop k := by
  unfold cutD
  rw [HT.sIx_nat, HT.sIx_none]
  by_cases h : k ≤ xs.length
  · rw [Nat.min_eq_left h]
    exact List.take_of_length_le (by rw [List.length_drop]; exact Nat.le_refl _)
  · rw [Nat.min_eq_right (by omega), List.drop_length, List.drop_of_length_le (by omega), List.take_nil]
theorem cutD_to (xs : List PyData) (k : Nat) : cutD xs none (some (k : Int)) = xs.take k := by
  unfold cutD
  rw [HT.sIx_nat, HT.sIx_none, List.drop_zero, Nat.sub_zero]
  by_cases h : k ≤ xs.length
  · rw [Nat.min_eq_left h]
  · rw [Nat.min_eq_right (by omega), List.take_length, List.take_of_length_le (by omega)]
theorem cutD_in (xs : List PyData) (i j : Nat) (h : j ≤ xs.length) : cutD xs (some (i : Int)) (some (j : Int)) = (xs.drop i).take (j - i) := by
  unfold cutD
  rw [HT.sIx_nat, HT.sIx_nat, Nat.min_eq_left h]
  by_cases hi : i ≤ xs.length
  · rw [Nat.min_eq_left hi]
  · rw [Nat.min_eq_right (by omega), List.drop_length, List.drop_of_length_le (by omega), List.take_nil, List.take_nil]

/-! ### sums of tuples -/
theorem g2_catT {xs ys : List PyData} {k : DV → Prop} (hz : xs.length + ys.length ≤ sizeLine) (h : k (.d (.tuple (xs ++ ys)))) : G2 C (rCatA C.K) (.d (.tuple xs)) (.d (.tuple ys)) k := fun F H v u Q' s r1 r2 q => by
  obtain ⟨a, vs, ev, hq, hp⟩ := dp_tuple r1
  obtain ⟨b, ws, eu, hq2, hp2⟩ := dp_tuple r2
  refine ⟨a, b, vs, ws, ev, eu, s.st hq, s.st hq2, by rw [dpAll_len hp, dpAll_len hp2]; exact hz, fun e => ?_, fun _ e => ?_, fun _ _ p hn => ?_⟩
  · subst e
    cases hp
    exact q _ _ H F h (Grow.refl s) (.tup hq2 hp2)
  · subst e
    cases hp2
    rw [List.append_nil] at h
    exact q _ _ H F h (Grow.refl s) (.tup hq hp)
  · have g : Grow H F (upd H p (.tup (vs ++ ws))) (upd F p (.tup (vs ++ ws))) := Grow.new s hn
    exact q _ _ _ _ h g (.tup (SqT.of upd_same) (dpAll_mono g.f _ _ (dpAll_append hp hp2)))
theorem fp_catT {xs ys : List PyData} (hK : C.K = X.K) (ha : FP X C z a (.tuple xs)) (hb : FP X C z b (.tuple ys)) (hz : xs.length + ys.length ≤ 100000) : FP X C z (.BinOp a .Add b pos) (.tuple (xs ++ ys)) :=
  fp_bin (fun _ _ => pe_op op_catA) ha hb fun _ h => by rw [← hK]; exact g2_catT (by rw [sizeLine_eq]; omega) h

/-! ### calls of what is built in -/
def GC (C : Ct) (r : List V → Hp → VK → Prop) (ds : List DV) (k : DV → Prop) : Prop := ∀ (F H : Hp) (vs : List V) (Q' : VK), Sub F H → Paired (RV C.K C.P F) vs ds →
  (∀ w d H' F', k d → Grow H F H' F' → RV C.K C.P F' w d → Q' w H') → r vs H Q'
/-- .. where a new list is given -/
def GN (C : Ct) (r : List V → Hp → VK → Prop) (ds : List DV) (k : List PyData → Prop) : Prop := ∀ (F H : Hp) (vs : List V) (Q' : VK), Sub F H → Paired (RV C.K C.P F) vs ds →
  (∀ p ws xs, k xs → H p = none → DpAll C.K F ws xs → Q' (.ref p) (upd H p (.lst ws))) → r vs H Q'
section
variable {x : Str} {p : Pos} {id T : String} {r : List V → Hp → VK → Prop}
theorem fe_cb (pe : ∀ t, PA X es t → PE X e (tCB r t)) {Q : DV → Zs → Prop} (ha : FA X C z es fun ds z1 => GC C r ds fun d => Q d z1) : FE X C z e Q := by
  refine pe_con (pe _ ha) ?_
  rintro σ H R ⟨F, S, k⟩
  refine ⟨F, S, fun vs ds z1 H1 F1 q S1 s1 r1 => ?_⟩
  exact q F1 H1 vs R S1.sub r1 fun w d H2 F2 qd g r2 => k w d z1 H2 F2 qd (S1.grow g) (s1.trans g.f) r2
theorem fl_cb (pe : ∀ t, PA X es t → PE X e (tCB r t)) {Q : List PyData → Zs → Prop} (ha : FA X C z es fun ds z1 => GN C r ds fun d => Q d z1) : FL X C z e Q := by
  refine pe_con (pe _ ha) ?_
  rintro σ H R ⟨F, S, k⟩
  refine ⟨F, S, fun vs ds z1 H1 F1 q S1 s1 r1 => ?_⟩
  exact q F1 H1 vs R S1.sub r1 fun p ws xs qx hn hd => k p ws xs z1 _ F1 qx (S1.cell hn _) s1 (S1.own_new hn _) hd
theorem fp_cb (pe : ∀ t, PA X es t → PE X e (tCB r t)) {xs : List PyData} {d : PyData} (ha : FPA X C z es xs) (g : ∀ k : DV → Prop, k (.d d) → GC C r (xs.map .d) k) : FP X C z e d :=
  fe_cb pe (fa_mono ha fun _ _ ⟨e1, e2⟩ => by
    subst e1 e2
    exact g _ ⟨rfl, rfl⟩)
theorem flp_cb (pe : ∀ t, PA X es t → PE X e (tCB r t)) {xs : List PyData} {d : List PyData} (ha : FPA X C z es xs) (g : ∀ k : List PyData → Prop, k d → GN C r (xs.map .d) k) : FLP X C z e d :=
  fl_cb pe (fa_mono ha fun _ _ ⟨e1, e2⟩ => by
    subst e1 e2
    exact g _ ⟨rfl, rfl⟩)
/-- a call with a name's own list -/
theorem fp_cbO {ds : List PyData} {d : PyData} {pn : Pos} {y : Str} (i : Nat) (pe : ∀ t, PA X [.Name y pn] t → PE X e (tCB r t)) (hz : z.r[i]? = some (.ow ds))
    (g : ∀ (F H : Hp) (q : Addr) (vs : List V) (Q' : VK), Sub F H → H q = some (.lst vs) → DpAll C.K F vs ds → (∀ w H' F', Grow H F H' F' → Dp C.K F' w d → Q' w H') → r [.ref q] H Q')
    (hN : X.N[i]? = some y := by rfl)
    (hv : Vis X.env.scope y := by first | exact Or.inl rfl | exact Or.inr (Or.inl rfl) | exact Or.inr (Or.inr rfl))
    (hd : (y == ("__debug__" : Str)) = false := by decide) (hcd : (y == ("__classdict__" : Str)) = false := by decide)
    (hs : starEach [.Name y pn] X.env = (false, eval (.Name y pn) X.env) :: starEach [] X.env := by rfl) : FP X C z e d := by
  refine pe_con (pe _ (pa_cons (pe_var hN hv hd hcd) pa_nil hs)) ?_
  rintro σ H R ⟨F, S, k⟩
  obtain ⟨q, vs, e1, h1, f1, _, _, r1⟩ := S.own i hz
  exact ⟨.ref q, e1, g F H q vs R S.sub h1 r1 fun w H2 F2 gr r3 => k w (.d d) z H2 F2 ⟨rfl, rfl⟩ (S.grow gr) gr.f r3⟩
theorem flp_cbO {ds xs : List PyData} {pn : Pos} {y : Str} (i : Nat) (pe : ∀ t, PA X [.Name y pn] t → PE X e (tCB r t)) (hz : z.r[i]? = some (.ow ds))
    (g : ∀ (F H : Hp) (q : Addr) (vs : List V) (Q' : VK), Sub F H → H q = some (.lst vs) → DpAll C.K F vs ds → (∀ p ws, H p = none → DpAll C.K F ws xs → Q' (.ref p) (upd H p (.lst ws))) → r [.ref q] H Q')
    (hN : X.N[i]? = some y := by rfl)
    (hv : Vis X.env.scope y := by first | exact Or.inl rfl | exact Or.inr (Or.inl rfl) | exact Or.inr (Or.inr rfl))
    (hd : (y == ("__debug__" : Str)) = false := by decide) (hcd : (y == ("__classdict__" : Str)) = false := by decide)
    (hs : starEach [.Name y pn] X.env = (false, eval (.Name y pn) X.env) :: starEach [] X.env := by rfl) : FLP X C z e xs := by
  refine pe_con (pe _ (pa_cons (pe_var hN hv hd hcd) pa_nil hs)) ?_
  rintro σ H R ⟨F, S, k⟩
  obtain ⟨q, vs, e1, h1, f1, _, _, r1⟩ := S.own i hz
  exact ⟨.ref q, e1, g F H q vs R S.sub h1 r1 fun p ws hn hd => k p ws xs z _ F ⟨rfl, rfl⟩ (S.cell hn _) (Sub.refl _) (S.own_new hn _) hd⟩
end
theorem paired1 {α β : Type} {R : α → β → Prop} {vs : List α} {y : β} (h : Paired R vs [y]) : ∃ v, vs = [v] ∧ R v y := by
  cases h with
  | cons r t => cases t; exact ⟨_, rfl, r⟩
theorem paired2 {α β : Type} {R : α → β → Prop} {vs : List α} {y w : β} (h : Paired R vs [y, w]) : ∃ v u, vs = [v, u] ∧ R v y ∧ R u w := by
  cases h with
  | cons r t => obtain ⟨u, e, r2⟩ := paired1 t; subst e; exact ⟨_, _, rfl, r, r2⟩
theorem paired3 {α β : Type} {R : α → β → Prop} {vs : List α} {y w o : β} (h : Paired R vs [y, w, o]) : ∃ v u t, vs = [v, u, t] ∧ R v y ∧ R u w ∧ R t o := by
  cases h with
  | cons r t => obtain ⟨u, t, e, r2, r3⟩ := paired2 t; subst e; exact ⟨_, _, _, rfl, r, r2, r3⟩
end
end DL

set_option Elab.async false
set_option linter.all false
set_option maxRecDepth 100000
set_option maxHeartbeats 4000000
set_option autoImplicit false
namespace DL
open PySem PySem.Spec PyProof.Rows L2
section
variable {X : Cx} {C : Ct} {z : Zs} {e a b c : Expr} {es : List Expr} {pos p : Pos}
theorem arg1 {d : PyData} (ha : FP X C z a d) (hs : starEach [a] X.env = (false, eval a X.env) :: starEach [] X.env := by rfl) : FPA X C z [a] [d] := fpa_cons ha fpa_nil hs
theorem arg2 {d d2 : PyData} (ha : FP X C z a d) (hb : FP X C z b d2) (hs : starEach [a, b] X.env = (false, eval a X.env) :: starEach [b] X.env := by rfl) (hs2 : starEach [b] X.env = (false, eval b X.env) :: starEach [] X.env := by rfl) : FPA X C z [a, b] [d, d2] := fpa_cons ha (arg1 hb hs2) hs
/-! len -/
abbrev rLen (K : PySem.W.Frag) : List V → Hp → VK → Prop := fun xs H Q => ∃ p ys, xs = [.ref p] ∧ (SqL K H p ys ∨ SqT K H p ys) ∧ Q (.int ys.length) H
theorem gc_len {d : PyData} {ds : List PyData} {k : DV → Prop} (hd : d = .list ds ∨ d = .tuple ds) (h : k (.d (.int ds.length))) : GC C (rLen C.K) [.d d] k := fun F H vs Q' s r q => by
  obtain ⟨v, e1, r1⟩ := paired1 r
  subst e1
  rcases hd with hd | hd
  · subst hd
    obtain ⟨a, ws, ev, hq, hp⟩ := dp_list r1
    subst ev
    exact ⟨a, ws, rfl, .inl (s.sl hq), by rw [dpAll_len hp]; exact q _ _ H F h (Grow.refl s) (.int _)⟩
  · subst hd
    obtain ⟨a, ws, ev, hq, hp⟩ := dp_tuple r1
    subst ev
    exact ⟨a, ws, rfl, .inr (s.st hq), by rw [dpAll_len hp]; exact q _ _ H F h (Grow.refl s) (.int _)⟩
theorem fp_lenT {ds : List PyData} (hK : C.K = X.K) (hm : X.mg "len" = none) (ha : FP X C z a (.tuple ds)) (hg : Gl X "len" := by rfl) (hs : starEach [a] X.env = (false, eval a X.env) :: starEach [] X.env := by rfl) : FP X C z (.Call (.Name "len" p) [a] [] pos) (.int ds.length) :=
  fp_cb (fun _ ha => pe_callB call_len_seq hg hm PySem.boot_len ha (he := hs)) (arg1 ha hs) fun _ h => by rw [← hK]; exact gc_len (.inr rfl) h
theorem fp_lenL {ds : List PyData} (hK : C.K = X.K) (hm : X.mg "len" = none) (ha : FP X C z a (.list ds)) (hg : Gl X "len" := by rfl) (hs : starEach [a] X.env = (false, eval a X.env) :: starEach [] X.env := by rfl) : FP X C z (.Call (.Name "len" p) [a] [] pos) (.int ds.length) :=
  fp_cb (fun _ ha => pe_callB call_len_seq hg hm PySem.boot_len ha (he := hs)) (arg1 ha hs) fun _ h => by rw [← hK]; exact gc_len (.inl rfl) h
theorem fp_lenO {ds : List PyData} {y : Str} {pn : Pos} (i : Nat) (hK : C.K = X.K) (hm : X.mg "len" = none) (hz : z.r[i]? = some (.ow ds)) (hg : Gl X "len" := by rfl)
    (hN : X.N[i]? = some y := by rfl)
    (hv : Vis X.env.scope y := by first | exact Or.inl rfl | exact Or.inr (Or.inl rfl) | exact Or.inr (Or.inr rfl))
    (hd : (y == ("__debug__" : Str)) = false := by decide) (hcd : (y == ("__classdict__" : Str)) = false := by decide)
    (hs : starEach [.Name y pn] X.env = (false, eval (.Name y pn) X.env) :: starEach [] X.env := by rfl) : FP X C z (.Call (.Name "len" p) [.Name y pn] [] pos) (.int ds.length) :=
  fp_cbO i (fun _ ha => pe_callB call_len_seq hg hm PySem.boot_len ha (he := hs)) hz (fun F H q vs Q' s h1 r k => ⟨q, vs, rfl, .inl (SqL.of h1), by rw [dpAll_len r]; exact k _ H F (Grow.refl s) (.int _)⟩) hN hv hd hcd hs
/-! sum, max, min, all, any -/
theorem gc_sum {ns : List Int} {k : DV → Prop} (h : k (.d (.int ns.sum))) : GC C (rSum C.K) [.d (.list (ns.map .int))] k := fun F H vs Q' s r q => by
  obtain ⟨v, e1, r1⟩ := paired1 r
  subst e1
  obtain ⟨a, ws, ev, hq, hp⟩ := dp_list r1
  subst ev
  have e := dp_ints hp
  subst e
  exact ⟨a, ns, rfl, s.sl hq, q _ _ H F h (Grow.refl s) (.int _)⟩
theorem fp_sum {ns : List Int} (hK : C.K = X.K) (hc : X.calm = true) (hm : X.mg "sum" = none) (ha : FP X C z a (.list (ns.map .int))) (hg : Gl X "sum" := by rfl) (hs : starEach [a] X.env = (false, eval a X.env) :: starEach [] X.env := by rfl) : FP X C z (.Call (.Name "sum" p) [a] [] pos) (.int ns.sum) :=
  fp_cb (fun _ ha => pe_callB (cr_sum hc) hg hm (by decide +kernel) ha (he := hs)) (arg1 ha hs) fun _ h => by rw [← hK]; exact gc_sum h
def maxI : List Int → Int
  | [] => 0
  | n :: ns => ns.foldl max n
def minI : List Int → Int
  | [] => 0
  | n :: ns => ns.foldl min n
theorem foldl_max_spec : ∀ (ns : List Int) (n : Int), (ns.foldl max n = n ∨ ns.foldl max n ∈ ns) ∧ n ≤ ns.foldl max n ∧ ∀ y ∈ ns, y ≤ ns.foldl max n
  | [], n => ⟨.inl rfl, Int.le_refl _, by simp⟩
  | m :: ns, n => by
    obtain ⟨h1, h2, h3⟩ := foldl_max_spec ns (max n m)
    rw [List.foldl_cons]
    refine ⟨?_, by omega, fun y hy => ?_⟩
    · rcases h1 with h1 | h1
      · rcases (show max n m = n ∨ max n m = m by omega) with h | h
        · left; omega
        · right; rw [h1, h]; exact List.mem_cons_self
      · right; exact List.mem_cons_of_mem _ h1
    · rcases List.mem_cons.mp hy with rfl | hy
      · omega
      · exact h3 y hy
theorem foldl_min_spec : ∀ (ns : List Int) (n : Int), (ns.foldl min n = n ∨ ns.foldl min n ∈ ns) ∧ ns.foldl min n ≤ n ∧ ∀ y ∈ ns, ns.foldl min n ≤ y
  | [], n => ⟨.inl rfl, Int.le_refl _, by simp⟩
  | m :: ns, n => by
    obtain ⟨h1, h2, h3⟩ := foldl_min_spec ns (min n m)
    rw [List.foldl_cons]
    refine ⟨?_, by omega, fun y hy => ?_⟩
    · rcases h1 with h1 | h1
      · rcases (show min n m = n ∨ min n m = m by omega) with h | h
        · left; omega
        · right; rw [h1, h]; exact List.mem_cons_self
      · right; exact List.mem_cons_of_mem _ h1
    · rcases List.mem_cons.mp hy with rfl | hy
      · omega
      · exact h3 y hy
theorem maxI_spec {ns : List Int} (h : ns ≠ []) : maxI ns ∈ ns ∧ ∀ y ∈ ns, y ≤ maxI ns := by
  cases ns with
  | nil => exact absurd rfl h
  | cons n ns =>
    obtain ⟨h1, h2, h3⟩ := foldl_max_spec ns n
    refine ⟨?_, fun y hy => ?_⟩
    · show ns.foldl max n ∈ _
      rcases h1 with h1 | h1
      · rw [h1]; exact List.mem_cons_self
      · exact List.mem_cons_of_mem _ h1
    · show y ≤ ns.foldl max n
      rcases List.mem_cons.mp hy with rfl | hy
      · exact h2
      · exact h3 y hy
theorem minI_spec {ns : List Int} (h : ns ≠ []) : minI ns ∈ ns ∧ ∀ y ∈ ns, minI ns ≤ y := by
  cases ns with
  | nil => exact absurd rfl h
  | cons n ns =>
    obtain ⟨h1, h2, h3⟩ := foldl_min_spec ns n
    refine ⟨?_, fun y hy => ?_⟩
    · show ns.foldl min n ∈ _
      rcases h1 with h1 | h1
      · rw [h1]; exact List.mem_cons_self
      · exact List.mem_cons_of_mem _ h1
    · show ns.foldl min n ≤ y
      rcases List.mem_cons.mp hy with rfl | hy
      · exact h2
      · exact h3 y hy
theorem maxI_eq {ns : List Int} {m : Int} (h1 : m ∈ ns) (h2 : ∀ y ∈ ns, y ≤ m) : m = maxI ns := by
  have h : ns ≠ [] := fun e => by rw [e] at h1; cases h1
  obtain ⟨a, b⟩ := maxI_spec h
  have := h2 _ a
  have := b _ h1
  omega
theorem minI_eq {ns : List Int} {m : Int} (h1 : m ∈ ns) (h2 : ∀ y ∈ ns, m ≤ y) : m = minI ns := by
  have h : ns ≠ [] := fun e => by rw [e] at h1; cases h1
  obtain ⟨a, b⟩ := minI_spec h
  have := h2 _ a
  have := b _ h1
  omega
theorem gc_max {ns : List Int} {k : DV → Prop} (hn : ns ≠ []) (h : k (.d (.int (maxI ns)))) : GC C (rMax C.K) [.d (.list (ns.map .int))] k := fun F H vs Q' s r q => by
  obtain ⟨v, e1, r1⟩ := paired1 r
  subst e1
  obtain ⟨a, ws, ev, hq, hp⟩ := dp_list r1
  subst ev
  have e := dp_ints hp
  subst e
  refine ⟨a, ns, rfl, s.sl hq, List.length_pos_iff.mpr hn, fun m h1 h2 => ?_⟩
  rw [maxI_eq h1 h2]
  exact q _ _ H F h (Grow.refl s) (.int _)
theorem gc_min {ns : List Int} {k : DV → Prop} (hn : ns ≠ []) (h : k (.d (.int (minI ns)))) : GC C (rMin C.K) [.d (.list (ns.map .int))] k := fun F H vs Q' s r q => by
  obtain ⟨v, e1, r1⟩ := paired1 r
  subst e1
  obtain ⟨a, ws, ev, hq, hp⟩ := dp_list r1
  subst ev
  have e := dp_ints hp
  subst e
  refine ⟨a, ns, rfl, s.sl hq, List.length_pos_iff.mpr hn, fun m h1 h2 => ?_⟩
  rw [minI_eq h1 h2]
  exact q _ _ H F h (Grow.refl s) (.int _)
theorem fp_maxL {ns : List Int} (hK : C.K = X.K) (hc : X.calm = true) (hm : X.mg "max" = none) (ha : FP X C z a (.list (ns.map .int))) (hn : ns ≠ []) (hg : Gl X "max" := by rfl) (hs : starEach [a] X.env = (false, eval a X.env) :: starEach [] X.env := by rfl) : FP X C z (.Call (.Name "max" p) [a] [] pos) (.int (maxI ns)) :=
  fp_cb (fun _ ha => pe_callB (cr_max hc) hg hm (by decide +kernel) ha (he := hs)) (arg1 ha hs) fun _ h => by rw [← hK]; exact gc_max hn h
theorem fp_minL {ns : List Int} (hK : C.K = X.K) (hc : X.calm = true) (hm : X.mg "min" = none) (ha : FP X C z a (.list (ns.map .int))) (hn : ns ≠ []) (hg : Gl X "min" := by rfl) (hs : starEach [a] X.env = (false, eval a X.env) :: starEach [] X.env := by rfl) : FP X C z (.Call (.Name "min" p) [a] [] pos) (.int (minI ns)) :=
  fp_cb (fun _ ha => pe_callB (cr_min hc) hg hm (by decide +kernel) ha (he := hs)) (arg1 ha hs) fun _ h => by rw [← hK]; exact gc_min hn h
theorem gc_all {bs : List Bool} {k : DV → Prop} (h : k (.d (.bool (bs.all id)))) : GC C (rAll C.K) [.d (.list (bs.map .bool))] k := fun F H vs Q' s r q => by
  obtain ⟨v, e1, r1⟩ := paired1 r
  subst e1
  obtain ⟨a, ws, ev, hq, hp⟩ := dp_list r1
  subst ev
  have e := dp_bools hp
  subst e
  exact ⟨a, bs, rfl, s.sl hq, q _ _ H F h (Grow.refl s) (.bl _)⟩
theorem gc_any {bs : List Bool} {k : DV → Prop} (h : k (.d (.bool (bs.any id)))) : GC C (rAny C.K) [.d (.list (bs.map .bool))] k := fun F H vs Q' s r q => by
  obtain ⟨v, e1, r1⟩ := paired1 r
  subst e1
  obtain ⟨a, ws, ev, hq, hp⟩ := dp_list r1
  subst ev
  have e := dp_bools hp
  subst e
  exact ⟨a, bs, rfl, s.sl hq, q _ _ H F h (Grow.refl s) (.bl _)⟩
theorem fp_all {bs : List Bool} (hK : C.K = X.K) (hc : X.calm = true) (hm : X.mg "all" = none) (ha : FP X C z a (.list (bs.map .bool))) (hg : Gl X "all" := by rfl) (hs : starEach [a] X.env = (false, eval a X.env) :: starEach [] X.env := by rfl) : FP X C z (.Call (.Name "all" p) [a] [] pos) (.bool (bs.all id)) :=
  fp_cb (fun _ ha => pe_callB (cr_all hc) hg hm (by decide +kernel) ha (he := hs)) (arg1 ha hs) fun _ h => by rw [← hK]; exact gc_all h
theorem fp_any {bs : List Bool} (hK : C.K = X.K) (hc : X.calm = true) (hm : X.mg "any" = none) (ha : FP X C z a (.list (bs.map .bool))) (hg : Gl X "any" := by rfl) (hs : starEach [a] X.env = (false, eval a X.env) :: starEach [] X.env := by rfl) : FP X C z (.Call (.Name "any" p) [a] [] pos) (.bool (bs.any id)) :=
  fp_cb (fun _ ha => pe_callB (cr_any hc) hg hm (by decide +kernel) ha (he := hs)) (arg1 ha hs) fun _ h => by rw [← hK]; exact gc_any h
/-- with draws within: some bools -/
theorem fe_all {Q : DV → Zs → Prop} (hK : C.K = X.K) (hc : X.calm = true) (hm : X.mg "all" = none) (ha : FE X C z a fun d z1 => ∃ bs : List Bool, d = .d (.list (bs.map .bool)) ∧ Q (.d (.bool (bs.all id))) z1) (hg : Gl X "all" := by rfl) (hs : starEach [a] X.env = (false, eval a X.env) :: starEach [] X.env := by rfl) :
    FE X C z (.Call (.Name "all" p) [a] [] pos) Q :=
  fe_cb (fun _ ha => pe_callB (cr_all hc) hg hm (by decide +kernel) ha (he := hs)) (fa_cons ha (fun d z1 ⟨bs, e1, q⟩ => fa_nil (by
    subst e1
    rw [← hK]
    exact gc_all q)) hs)
/-! tuple, list, sorted -/
theorem gc_tuple {d : PyData} {ds : List PyData} {k : DV → Prop} (hd : d = .list ds ∨ d = .tuple ds) (h : k (.d (.tuple ds))) : GC C (fun xs H Q => ∃ p ys, xs = [.ref p] ∧ ((SqL C.K H p ys ∧ ∀ l, H l = none → Q (.ref l) (upd H l (.tup ys))) ∨ (SqT C.K H p ys ∧ Q (.ref p) H))) [.d d] k := fun F H vs Q' s r q => by
  obtain ⟨v, e1, r1⟩ := paired1 r
  subst e1
  rcases hd with hd | hd
  · subst hd
    obtain ⟨a, ws, ev, hq, hp⟩ := dp_list r1
    subst ev
    refine ⟨a, ws, rfl, .inl ⟨s.sl hq, fun l hn => ?_⟩⟩
    have g : Grow H F (upd H l (.tup ws)) (upd F l (.tup ws)) := Grow.new s hn
    exact q _ _ _ _ h g (.tup (SqT.of upd_same) (dpAll_mono g.f _ _ hp))
  · subst hd
    obtain ⟨a, ws, ev, hq, hp⟩ := dp_tuple r1
    subst ev
    exact ⟨a, ws, rfl, .inr ⟨s.st hq, q _ _ H F h (Grow.refl s) (.tup hq hp)⟩⟩
theorem fe_tupleOf {Q : DV → Zs → Prop} (hK : C.K = X.K) (hm : X.mg "tuple" = none) (ha : FE X C z a fun d z1 => ∃ ds, (d = .d (.list ds) ∨ d = .d (.tuple ds)) ∧ Q (.d (.tuple ds)) z1) (hg : Gl X "tuple" := by rfl) (hs : starEach [a] X.env = (false, eval a X.env) :: starEach [] X.env := by rfl) :
    FE X C z (.Call (.Name "tuple" p) [a] [] pos) Q :=
  fe_cb (fun _ ha => pe_callTy call_tuple_of hg hm (by decide +kernel) ha (he := hs)) (fa_cons ha (fun d z1 ⟨ds, e1, q⟩ => fa_nil (by
    rw [← hK]
    rcases e1 with e1 | e1
    · subst e1; exact gc_tuple (.inl rfl) q
    · subst e1; exact gc_tuple (.inr rfl) q)) hs)
theorem fp_tupleL {ds : List PyData} (hK : C.K = X.K) (hm : X.mg "tuple" = none) (ha : FP X C z a (.list ds)) (hg : Gl X "tuple" := by rfl) (hs : starEach [a] X.env = (false, eval a X.env) :: starEach [] X.env := by rfl) : FP X C z (.Call (.Name "tuple" p) [a] [] pos) (.tuple ds) :=
  fp_cb (fun _ ha => pe_callTy call_tuple_of hg hm (by decide +kernel) ha (he := hs)) (arg1 ha hs) fun _ h => by rw [← hK]; exact gc_tuple (.inl rfl) h
theorem fp_tupleT {ds : List PyData} (hK : C.K = X.K) (hm : X.mg "tuple" = none) (ha : FP X C z a (.tuple ds)) (hg : Gl X "tuple" := by rfl) (hs : starEach [a] X.env = (false, eval a X.env) :: starEach [] X.env := by rfl) : FP X C z (.Call (.Name "tuple" p) [a] [] pos) (.tuple ds) :=
  fp_cb (fun _ ha => pe_callTy call_tuple_of hg hm (by decide +kernel) ha (he := hs)) (arg1 ha hs) fun _ h => by rw [← hK]; exact gc_tuple (.inr rfl) h
theorem fp_tupleO {ds : List PyData} {y : Str} {pn : Pos} (i : Nat) (hK : C.K = X.K) (hm : X.mg "tuple" = none) (hz : z.r[i]? = some (.ow ds)) (hg : Gl X "tuple" := by rfl)
    (hN : X.N[i]? = some y := by rfl)
    (hv : Vis X.env.scope y := by first | exact Or.inl rfl | exact Or.inr (Or.inl rfl) | exact Or.inr (Or.inr rfl))
    (hd : (y == ("__debug__" : Str)) = false := by decide) (hcd : (y == ("__classdict__" : Str)) = false := by decide)
    (hs : starEach [.Name y pn] X.env = (false, eval (.Name y pn) X.env) :: starEach [] X.env := by rfl) : FP X C z (.Call (.Name "tuple" p) [.Name y pn] [] pos) (.tuple ds) :=
  fp_cbO i (fun _ ha => pe_callTy call_tuple_of hg hm (by decide +kernel) ha (he := hs)) hz (fun F H q vs Q' s h1 r k => by
    refine ⟨q, vs, rfl, .inl ⟨SqL.of h1, fun l hn => ?_⟩⟩
    have g : Grow H F (upd H l (.tup vs)) (upd F l (.tup vs)) := Grow.new s hn
    exact k _ _ _ g (.tup (SqT.of upd_same) (dpAll_mono g.f _ _ r))) hN hv hd hcd hs
theorem gn_list {d : PyData} {ds : List PyData} {k : List PyData → Prop} (hd : d = .list ds ∨ d = .tuple ds) (h : k ds) : GN C (fun xs H Q => ∃ p ys, xs = [.ref p] ∧ (SqL C.K H p ys ∨ SqT C.K H p ys) ∧ ∀ l, H l = none → Q (.ref l) (upd H l (.lst ys))) [.d d] k := fun F H vs Q' s r q => by
  obtain ⟨v, e1, r1⟩ := paired1 r
  subst e1
  rcases hd with hd | hd
  · subst hd
    obtain ⟨a, ws, ev, hq, hp⟩ := dp_list r1
    subst ev
    exact ⟨a, ws, rfl, .inl (s.sl hq), fun l hn => q l ws ds h hn hp⟩
  · subst hd
    obtain ⟨a, ws, ev, hq, hp⟩ := dp_tuple r1
    subst ev
    exact ⟨a, ws, rfl, .inr (s.st hq), fun l hn => q l ws ds h hn hp⟩
theorem flp_listL {ds : List PyData} (hK : C.K = X.K) (hm : X.mg "list" = none) (ha : FP X C z a (.list ds)) (hg : Gl X "list" := by rfl) (hs : starEach [a] X.env = (false, eval a X.env) :: starEach [] X.env := by rfl) : FLP X C z (.Call (.Name "list" p) [a] [] pos) ds :=
  flp_cb (fun _ ha => pe_callTy call_list_of hg hm (by decide +kernel) ha (he := hs)) (arg1 ha hs) fun _ h => by rw [← hK]; exact gn_list (.inl rfl) h
theorem flp_listT {ds : List PyData} (hK : C.K = X.K) (hm : X.mg "list" = none) (ha : FP X C z a (.tuple ds)) (hg : Gl X "list" := by rfl) (hs : starEach [a] X.env = (false, eval a X.env) :: starEach [] X.env := by rfl) : FLP X C z (.Call (.Name "list" p) [a] [] pos) ds :=
  flp_cb (fun _ ha => pe_callTy call_list_of hg hm (by decide +kernel) ha (he := hs)) (arg1 ha hs) fun _ h => by rw [← hK]; exact gn_list (.inr rfl) h
/-! scalars -/
theorem gc_abs {i : Int} {k : DV → Prop} (h : k (.d (.int (if i < 0 then -i else i)))) : GC C (fun xs H Q => ∃ i, xs = [.int i] ∧ Q (.int (if i < 0 then -i else i)) H) [.d (.int i)] k := fun F H vs Q' s r q => by
  obtain ⟨v, e1, r1⟩ := paired1 r
  subst e1
  exact ⟨i, by rw [dp_int r1], q _ _ H F h (Grow.refl s) (.int _)⟩
theorem fp_abs {i : Int} (hm : X.mg "abs" = none) (ha : FP X C z a (.int i)) (hg : Gl X "abs" := by rfl) (hs : starEach [a] X.env = (false, eval a X.env) :: starEach [] X.env := by rfl) : FP X C z (.Call (.Name "abs" p) [a] [] pos) (.int (if i < 0 then -i else i)) :=
  fp_cb (fun _ ha => pe_callB call_abs hg hm (by decide +kernel) ha (he := hs)) (arg1 ha hs) fun _ h => gc_abs h
theorem fp_intI {i : Int} (hm : X.mg "int" = none) (ha : FP X C z a (.int i)) (hg : Gl X "int" := by rfl) (hs : starEach [a] X.env = (false, eval a X.env) :: starEach [] X.env := by rfl) : FP X C z (.Call (.Name "int" p) [a] [] pos) (.int i) :=
  fp_cb (fun _ ha => pe_callTy call_int1 hg hm (by decide +kernel) ha (he := hs)) (arg1 ha hs) fun _ h => fun F H vs Q' s r q => by
    obtain ⟨v, e1, r1⟩ := paired1 r
    subst e1
    exact .inl ⟨i, by rw [dp_int r1], q _ _ H F h (Grow.refl s) (.int _)⟩
theorem fp_intB {i : Bool} (hm : X.mg "int" = none) (ha : FP X C z a (.bool i)) (hg : Gl X "int" := by rfl) (hs : starEach [a] X.env = (false, eval a X.env) :: starEach [] X.env := by rfl) : FP X C z (.Call (.Name "int" p) [a] [] pos) (.int (if i then 1 else 0)) :=
  fp_cb (fun _ ha => pe_callTy call_int1 hg hm (by decide +kernel) ha (he := hs)) (arg1 ha hs) fun _ h => fun F H vs Q' s r q => by
    obtain ⟨v, e1, r1⟩ := paired1 r
    subst e1
    exact .inr ⟨i, by rw [dp_bool r1], q _ _ H F h (Grow.refl s) (.int _)⟩
theorem fp_max2 {i j : Int} (hc : X.calm = true) (hm : X.mg "max" = none) (ha : FP X C z a (.int i)) (hb : FP X C z b (.int j)) (hg : Gl X "max" := by rfl) (hs : starEach [a, b] X.env = (false, eval a X.env) :: starEach [b] X.env := by rfl) (hs2 : starEach [b] X.env = (false, eval b X.env) :: starEach [] X.env := by rfl)
    (hpl : (backTo pos (starEach [b] X.env)).any (·.1) = false := by rfl) : FP X C z (.Call (.Name "max" p) [a, b] [] pos) (.int (max i j)) :=
  fp_cb (fun _ ha => pe_callB (call_max2 hc) hg hm (by decide +kernel) ha (he := hs) (hpl := hpl)) (arg2 ha hb hs hs2) fun _ h => fun F H vs Q' s r q => by
    obtain ⟨v, u, e1, r1, r2⟩ := paired2 r
    subst e1
    refine ⟨i, j, by rw [dp_int r1, dp_int r2], ?_⟩
    have e : (if j > i then j else i) = max i j := by
      by_cases hh : j > i
      · rw [if_pos hh]; omega
      · rw [if_neg hh]; omega
    rw [e]
    exact q _ _ H F h (Grow.refl s) (.int _)
theorem fp_min2 {i j : Int} (hc : X.calm = true) (hm : X.mg "min" = none) (ha : FP X C z a (.int i)) (hb : FP X C z b (.int j)) (hg : Gl X "min" := by rfl) (hs : starEach [a, b] X.env = (false, eval a X.env) :: starEach [b] X.env := by rfl) (hs2 : starEach [b] X.env = (false, eval b X.env) :: starEach [] X.env := by rfl)
    (hpl : (backTo pos (starEach [b] X.env)).any (·.1) = false := by rfl) : FP X C z (.Call (.Name "min" p) [a, b] [] pos) (.int (min i j)) :=
  fp_cb (fun _ ha => pe_callB (call_min2 hc) hg hm (by decide +kernel) ha (he := hs) (hpl := hpl)) (arg2 ha hb hs hs2) fun _ h => fun F H vs Q' s r q => by
    obtain ⟨v, u, e1, r1, r2⟩ := paired2 r
    subst e1
    refine ⟨i, j, by rw [dp_int r1, dp_int r2], ?_⟩
    have e : (if j < i then j else i) = min i j := by
      by_cases hh : j < i
      · rw [if_pos hh]; omega
      · rw [if_neg hh]; omega
    rw [e]
    exact q _ _ H F h (Grow.refl s) (.int _)
/-! isinstance -/
def tyD : PyData → Option Value
  | .none => some (.type "NoneType")
  | .bool _ => some (.type "bool")
  | .int _ => some (.type "int")
  | .str _ => some (.type "str")
  | .list _ => some (.type "list")
  | .tuple _ => some (.type "tuple")
  | .dict _ => none
theorem ty_of {K : PySem.W.Frag} {F H : Hp} (s : Sub F H) {d : PyData} {v : V} {t : Value} (h : Dp K F v d) (ht : tyD d = some t) (hl : ∀ ds, d = .list ds → False) : TyX K H v t := by
  cases h with
  | non => cases ht; exact .base .non
  | bl b => cases ht; exact .base (.bl b)
  | int i => cases ht; exact .base (.int i)
  | str x => cases ht; exact .base (.str x)
  | lst _ _ => exact (hl _ rfl).elim
  | tup hq _ =>
    cases ht
    rcases hq with (hq | ⟨o, hq⟩) | ⟨o, its, n, hk, hc, _⟩
    · exact .base (.tup (s _ _ hq))
    · exact .fTuple (s _ _ hq)
    · exact .kTuple hk hc
theorem fp_isi {d : PyData} {T : String} {t : Value} {k : Bool} {y : Str} {py : Pos} (hK : C.K = X.K) (hm : X.mg "isinstance" = none) (hmy : X.mg y = none) (hvy : bootBuiltins y = some (.type T)) (ha : FP X C z a d) (ht : tyD d = some t) (hl : ∀ ds, d = .list ds → False)
    (hk : PySem.W.kitOne X.K t (.type T) = some k) (hny : y ≠ "__name__" := by decide) (hdy : (y == ("__debug__" : Str)) = false := by decide)
    (hg : Gl X "isinstance" := by rfl) (hgy : Gl X y := by rfl) (hs : starEach [a, .Name y py] X.env = (false, eval a X.env) :: starEach [.Name y py] X.env := by rfl) (hs2 : starEach [.Name y py] X.env = (false, eval (.Name y py) X.env) :: starEach [] X.env := by rfl)
    (hpl : (backTo pos (starEach [.Name y py] X.env)).any (·.1) = false := by rfl) : FP X C z (.Call (.Name "isinstance" p) [a, .Name y py] [] pos) (.bool k) := by
  have pc : PE X (.Name y py) (tC (.ty T)) := pe_bltn hgy hmy hvy rfl hny hdy
  refine pe_con (pe_callB call_isi hg hm (by decide +kernel) (pa_cons ha (pa_cons pc pa_nil hs2) hs) (he := hs) (hpl := hpl)) ?_
  rintro σ H R ⟨F, S, q⟩
  refine ⟨F, S, fun v d' z' H1 F1 ⟨e1, e2⟩ S1 s1 r => ?_⟩
  subst e1 e2
  exact ⟨v, .ty T, t, .type T, k, rfl, .ty T, by rw [← hK]; exact ty_of S1.sub r ht hl, hk, q _ _ z' H1 F1 ⟨rfl, rfl⟩ S1 s1 (.bl _)⟩
end
theorem kit_self (K : PySem.W.Frag) (n : String) : PySem.W.kitOne K (.type n) (.type n) = some true := by
  unfold PySem.W.kitOne
  rw [if_pos (by simp)]
theorem kit_int_bool (K : PySem.W.Frag) : PySem.W.kitOne K (.type "int") (.type "bool") = some false := by rfl
theorem kit_int_tuple (K : PySem.W.Frag) : PySem.W.kitOne K (.type "int") (.type "tuple") = some false := by rfl
end DL

set_option Elab.async false
set_option linter.all false
set_option maxRecDepth 100000
set_option maxHeartbeats 4000000
set_option autoImplicit false
namespace DL
open PySem PySem.Spec PyProof.Rows L2

/-! ### slots stored, forgotten -/
theorem Sim.set {C : Ct} {z : Zs} {σ : L2.St} {H F : Hp} (S : Sim C z σ H F) (i : Nat) {v : V} {d : DV} (r : RV C.K C.P F v d) : Sim C ⟨z.r.set i (.v d), z.p⟩ (σ.set i (some v)) H F where
  sub := S.sub
  ext := S.ext
  keep := S.keep
  fresh := S.fresh
  slots := fun j s e => by
    have e : (z.r.set i (.v d))[j]? = some s := e
    by_cases h : i = j
    · subst h
      have hl : i < z.r.length := by
        have := (List.getElem?_eq_some_iff.mp e).1
        rwa [List.length_set] at this
      rw [List.getElem?_set_self hl] at e
      cases e
      exact ⟨v, by rw [List.getElem?_set_self (by rw [← S.len]; exact hl)], r⟩
    · rw [List.getElem?_set_ne h] at e
      rw [List.getElem?_set_ne h]
      exact S.slots j s e
  sep := fun j k xs ys a n e1 e2 h1 => by
    have e1 : (z.r.set i (.v d))[j]? = some (.og xs) := e1
    have e2 : (z.r.set i (.v d))[k]? = some (.og ys) := e2
    have hj : i ≠ j := fun q => by
      subst q
      have hl : i < z.r.length := by
        have := (List.getElem?_eq_some_iff.mp e1).1
        rwa [List.length_set] at this
      rw [List.getElem?_set_self hl] at e1
      cases e1
    have hk : i ≠ k := fun q => by
      subst q
      have hl : i < z.r.length := by
        have := (List.getElem?_eq_some_iff.mp e2).1
        rwa [List.length_set] at this
      rw [List.getElem?_set_self hl] at e2
      cases e2
    rw [List.getElem?_set_ne hj] at e1 h1
    rw [List.getElem?_set_ne hk] at e2 ⊢
    exact S.sep j k xs ys a n e1 e2 h1
  pot := S.pot
  len := by rw [List.length_set, List.length_set]; exact S.len
  tab := S.tab
  ft := S.ft
  ht := S.ht
theorem Sim.setOwnO {C : Ct} {z : Zs} {σ : L2.St} {H F : Hp} (S : Sim C z σ H F) (i : Nat) {a : Addr} {ob : HO} {ds : Cn} (o : OwnO C z σ H F a ob) (r : CnOk C.K F ob ds) : Sim C ⟨z.r.set i (.og ds), z.p⟩ (σ.set i (some (.ref a))) H F where
  sub := S.sub
  ext := S.ext
  keep := S.keep
  fresh := S.fresh
  slots := fun j s e => by
    have e : (z.r.set i (.og ds))[j]? = some s := e
    by_cases h : i = j
    · subst h
      have hl : i < z.r.length := by
        have := (List.getElem?_eq_some_iff.mp e).1
        rwa [List.length_set] at this
      rw [List.getElem?_set_self hl] at e
      cases e
      exact ⟨a, ob, by rw [List.getElem?_set_self (by rw [← S.len]; exact hl)], o.at_, o.nf, o.nh, o.np, r⟩
    · rw [List.getElem?_set_ne h] at e
      rw [List.getElem?_set_ne h]
      exact S.slots j s e
  sep := fun j k xs ys b n e1 e2 h1 => by
    have e1 : (z.r.set i (.og ds))[j]? = some (.og xs) := e1
    have e2 : (z.r.set i (.og ds))[k]? = some (.og ys) := e2
    by_cases hj : i = j
    · subst hj
      have hl : i < σ.length := by
        have := (List.getElem?_eq_some_iff.mp e1).1
        rw [List.length_set, S.len] at this
        exact this
      rw [List.getElem?_set_self hl] at h1
      cases h1
      rw [List.getElem?_set_ne n] at e2 ⊢
      exact o.sep k ys e2
    · rw [List.getElem?_set_ne hj] at e1 h1
      by_cases hk : i = k
      · subst hk
        have hl : i < σ.length := by
          have := (List.getElem?_eq_some_iff.mp e2).1
          rw [List.length_set, S.len] at this
          exact this
        rw [List.getElem?_set_self hl]
        intro q
        cases q
        exact o.sep j xs e1 h1
      · rw [List.getElem?_set_ne hk] at e2 ⊢
        exact S.sep j k xs ys b n e1 e2 h1
  pot := S.pot
  len := by rw [List.length_set, List.length_set]; exact S.len
  tab := S.tab
  ft := S.ft
  ht := S.ht
theorem Sim.setOwn {C : Ct} {z : Zs} {σ : L2.St} {H F : Hp} (S : Sim C z σ H F) (i : Nat) {a : Addr} {vs : List V} {ds : List PyData} (o : Own C z σ H F a vs) (r : DpAll C.K F vs ds) : Sim C ⟨z.r.set i (.ow ds), z.p⟩ (σ.set i (some (.ref a))) H F := S.setOwnO i o (.l r)
theorem Sim.unset {C : Ct} {z : Zs} {σ : L2.St} {H F : Hp} (S : Sim C z σ H F) (i : Nat) : Sim C ⟨z.r.set i .un, z.p⟩ (σ.set i none) H F where
  sub := S.sub
  ext := S.ext
  keep := S.keep
  fresh := S.fresh
  slots := fun j s e => by
    have e : (z.r.set i .un)[j]? = some s := e
    by_cases h : i = j
    · subst h
      have hl : i < z.r.length := by
        have := (List.getElem?_eq_some_iff.mp e).1
        rwa [List.length_set] at this
      rw [List.getElem?_set_self hl] at e
      cases e
      trivial
    · rw [List.getElem?_set_ne h] at e
      rw [List.getElem?_set_ne h]
      exact S.slots j s e
  sep := fun j k xs ys a n e1 e2 h1 => by
    have e1 : (z.r.set i .un)[j]? = some (.og xs) := e1
    have e2 : (z.r.set i .un)[k]? = some (.og ys) := e2
    have hj : i ≠ j := fun q => by
      subst q
      have hl : i < z.r.length := by
        have := (List.getElem?_eq_some_iff.mp e1).1
        rwa [List.length_set] at this
      rw [List.getElem?_set_self hl] at e1
      cases e1
    have hk : i ≠ k := fun q => by
      subst q
      have hl : i < z.r.length := by
        have := (List.getElem?_eq_some_iff.mp e2).1
        rwa [List.length_set] at this
      rw [List.getElem?_set_self hl] at e2
      cases e2
    rw [List.getElem?_set_ne hj] at e1 h1
    rw [List.getElem?_set_ne hk] at e2 ⊢
    exact S.sep j k xs ys a n e1 e2 h1
  pot := S.pot
  len := by rw [List.length_set, List.length_set]; exact S.len
  tab := S.tab
  ft := S.ft
  ht := S.ht
def wipeR (r : List Sl) : List Nat → List Sl
  | [] => r
  | v :: vs => (wipeR r vs).set v .un
theorem Sim.wipe {C : Ct} {z : Zs} {σ : L2.St} {H F : Hp} (S : Sim C z σ H F) : ∀ vs : List Nat, Sim C ⟨wipeR z.r vs, z.p⟩ (L2.wipe σ vs) H F
  | [] => S
  | v :: vs => (S.wipe vs).unset v
theorem wipe_out (σ : L2.St) : ∀ (vs : List Nat) (i : Nat), i ∉ vs → (L2.wipe σ vs)[i]? = σ[i]?
  | [], _, _ => rfl
  | v :: vs, i, h => by
    unfold L2.wipe
    rw [List.getElem?_set_ne (fun e => h (by rw [e]; exact List.mem_cons_self))]
    exact wipe_out σ vs i fun q => h (List.mem_cons_of_mem _ q)
theorem wipe_in (σ : L2.St) : ∀ (vs : List Nat) (i : Nat), i ∈ vs → i < σ.length → (L2.wipe σ vs)[i]? = some none
  | [], _, h, _ => by cases h
  | v :: vs, i, h, hl => by
    unfold L2.wipe
    by_cases e : v = i
    · subst e
      rw [List.getElem?_set_self (by rw [wipe_length]; exact hl)]
    · rw [List.getElem?_set_ne e]
      exact wipe_in σ vs i ((List.mem_cons.mp h).resolve_left fun q => e q.symm) hl
theorem wipeR_out (r : List Sl) : ∀ (vs : List Nat) (i : Nat), i ∉ vs → (wipeR r vs)[i]? = r[i]?
  | [], _, _ => rfl
  | v :: vs, i, h => by
    unfold wipeR
    rw [List.getElem?_set_ne (fun e => h (by rw [e]; exact List.mem_cons_self))]
    exact wipeR_out r vs i fun q => h (List.mem_cons_of_mem _ q)
def Agree (vs : List Nat) (σ σ' : L2.St) : Prop := σ'.length = σ.length ∧ ∀ i, i ∉ vs → σ'[i]? = σ[i]?
theorem Agree.refl (vs : List Nat) (σ : L2.St) : Agree vs σ σ := ⟨rfl, fun _ _ => rfl⟩
theorem Agree.trans {vs : List Nat} {a b c : L2.St} (h : Agree vs a b) (k : Agree vs b c) : Agree vs a c := ⟨k.1.trans h.1, fun i hi => (k.2 i hi).trans (h.2 i hi)⟩
theorem Agree.set {vs : List Nat} {σ : L2.St} {i : Nat} (h : i ∈ vs) (v : Option V) : Agree vs σ (σ.set i v) := ⟨List.length_set, fun j hj => List.getElem?_set_ne fun e => hj (by rw [← e]; exact h)⟩
theorem agree_wipe {vs : List Nat} {σ σ' : L2.St} (h : Agree vs σ σ') : L2.wipe σ' vs = L2.wipe σ vs := by
  refine List.ext_getElem? fun i => ?_
  by_cases hi : i ∈ vs
  · by_cases hl : i < σ.length
    · rw [wipe_in σ' vs i hi (by rw [h.1]; exact hl), wipe_in σ vs i hi hl]
    · rw [List.getElem?_eq_none (l := L2.wipe σ' vs) (by rw [wipe_length, h.1]; omega), List.getElem?_eq_none (l := L2.wipe σ vs) (by rw [wipe_length]; omega)]
  · rw [wipe_out σ vs i hi, wipe_out σ' vs i hi]
    exact h.2 i hi
theorem wipe_agree (vs : List Nat) (σ : L2.St) : Agree vs σ (L2.wipe σ vs) := ⟨wipe_length σ vs, fun i hi => wipe_out σ vs i hi⟩

/-! ### targets -/
def tWG (C : Ct) (vs : List Nat) (z : Zs) (d : PyData) (Q : Zs → Prop) : TG := fun v σ H R => ∃ F, Sim C z σ H F ∧ Dp C.K F v d ∧ ∀ z' σ', Q z' → Sim C z' σ' H F → Agree vs σ σ' → R σ' H
/-- d is stored at the target; vs: the slots that may be written -/
def FG (X : Cx) (C : Ct) (vs : List Nat) (z : Zs) (tg : Expr) (d : PyData) (Q : Zs → Prop) : Prop := PG X tg (tWG C vs z d Q)
def tWGs (C : Ct) (vs : List Nat) (z : Zs) (ds : List PyData) (Q : Zs → Prop) : TGs := fun ws σ H R => ∃ F, Sim C z σ H F ∧ DpAll C.K F ws ds ∧ ∀ z' σ', Q z' → Sim C z' σ' H F → Agree vs σ σ' → R σ' H
def FGs (X : Cx) (C : Ct) (vs : List Nat) (z : Zs) (tgs : List Expr) (ds : List PyData) (Q : Zs → Prop) : Prop := PGs X tgs (tWGs C vs z ds Q)
section
variable {X : Cx} {C : Ct} {vs : List Nat} {z : Zs} {pos : Pos}
theorem pg_con {tg : Expr} {t t' : TG} (h : PG X tg t) (k : ∀ v σ H R, t' v σ H R → t v σ H R) : PG X tg t' := ⟨fun pins s σ H v u Q I r hw => h.run pins s σ H v u Q I r (k v σ H Q hw)⟩
theorem pgs_con {tg : List Expr} {t t' : TGs} (h : PGs X tg t) (k : ∀ v σ H R, t' v σ H R → t v σ H R) : PGs X tg t' := ⟨fun pins s σ H v u Q I r hw => h.run pins s σ H v u Q I r (k v σ H Q hw)⟩
theorem fg_mono {tg : Expr} {d : PyData} {Q Q' : Zs → Prop} (h : FG X C vs z tg d Q) (k : ∀ z', Q z' → Q' z') : FG X C vs z tg d Q' := pg_con h fun v σ H R ⟨F, S, r, q⟩ => ⟨F, S, r, fun z' σ' x => q z' σ' (k z' x)⟩
theorem fg_name {x : Str} {d : PyData} {Q : Zs → Prop} (i : Nat) (hN : X.N.Nodup) (hi : X.N[i]? = some x) (hx : Loc X.env.scope x) (k : Q ⟨z.r.set i (sd d), z.p⟩) (hv : i ∈ vs)
    (hf : X.fn x = true ∨ X.env.scope.names.lookup x = some .local) : FG X C vs z (.Name x pos) d Q :=
  pg_con (pg_name hN hi hx hf) fun v σ H R ⟨F, S, r, q⟩ => q _ _ k (S.set i (d := .d d) r) (Agree.set hv _)
theorem fgs_nil {Q : Zs → Prop} (k : Q z) : FGs X C vs z [] [] Q := pgs_con pgs_nil fun v σ H R ⟨F, S, r, q⟩ => by
  cases r
  exact ⟨rfl, q z σ k S (Agree.refl vs σ)⟩
theorem fgs_cons {e : Expr} {es : List Expr} {d : PyData} {ds : List PyData} {Q : Zs → Prop} (h : FG X C vs z e d fun z1 => FGs X C vs z1 es ds Q)
    (hs : (assignEach (e :: es) X.env).map (·.2) = assign e X.env :: (assignEach es X.env).map (·.2) := by rfl) : FGs X C vs z (e :: es) (d :: ds) Q := by
  have pr : PGs X es (fun ws σ H R => ∃ z1, FGs X C vs z1 es ds Q ∧ tWGs C vs z1 ds Q ws σ H R) := ⟨fun pins s σ H v u R I r ⟨z1, f, hw⟩ => f.run pins s σ H v u R I r hw⟩
  refine pgs_con (pgs_cons h pr hs) ?_
  rintro ws σ H R ⟨F, S, r, q⟩
  cases r with
  | cons r1 r2 =>
    refine ⟨_, _, rfl, F, S, r1, fun z1 σ1 f S1 a1 => ⟨z1, f, F, S1, r2, fun z2 σ2 q2 S2 a2 => q z2 σ2 q2 S2 (a1.trans a2)⟩⟩
theorem fg_tup {es : List Expr} {k : Nat} {ds : List PyData} {Q : Zs → Prop} (hc : X.calm = true) (hK : C.K = X.K) (h : FGs X C vs z es ds Q)
    (hn : (assignEach es X.env).length = ds.length := by rfl) (hst : (assignEach es X.env).findIdx? (·.1) = none := by rfl) : FG X C vs z (.Tuple es k pos) (.tuple ds) Q := by
  refine pg_con (pg_tup hc h hn hst) ?_
  rintro v σ H R ⟨F, S, r, q⟩
  obtain ⟨a, ws, ev, hq, hp⟩ := dp_tuple r
  exact ⟨a, ws, ev, by rw [← hK]; exact S.sub.st hq, dpAll_len hp, F, S, hp, q⟩
end

/-! ### what is walked -/
structure ItOk (C : Ct) (J : It) (F : Hp) (ds : List PyData) : Prop where
  go : ∀ i H, Sub F H → i < ds.length → J.go i H
  stop : ∀ H, Sub F H → J.stop ds.length H
  yld : ∀ i H F' x H', Sub F F' → Sub F' H → J.yld i H x H' → i < ds.length → ∃ d F'', ds[i]? = some d ∧ Grow H F' H' F'' ∧ Dp C.K F'' x d
def tWI (C : Ct) (z : Zs) (Q : List PyData → Zs → Prop) : TI := fun σ H R => ∃ F, Sim C z σ H F ∧ ∀ J ds z' H' F', Q ds z' → Sim C z' σ H' F' → Sub F F' → ItOk C J F' ds → R J H'
def FI (X : Cx) (C : Ct) (z : Zs) (tg iter : Expr) (Q : List PyData → Zs → Prop) : Prop := PI X tg iter (tWI C z Q)
def FIP (X : Cx) (C : Ct) (z : Zs) (tg iter : Expr) (ds : List PyData) : Prop := FI X C z tg iter fun ds' z' => ds' = ds ∧ z' = z
section
variable {X : Cx} {C : Ct} {z : Zs} {tg e a b : Expr} {p pos : Pos}
theorem pi_con {t t' : TI} (h : PI X tg e t) (k : ∀ σ H R, t' σ H R → t σ H R) : PI X tg e t' := ⟨fun pins s σ H R I hw => h.run pins s σ H R I (k σ H R hw)⟩
theorem fi_mono {Q Q' : List PyData → Zs → Prop} (h : FI X C z tg e Q) (k : ∀ ds z', Q ds z' → Q' ds z') : FI X C z tg e Q' := pi_con h fun σ H R ⟨F, S, q⟩ => ⟨F, S, fun J ds z' H' F' x => q J ds z' H' F' (k ds z' x)⟩
theorem itl_ok {F : Hp} {q : Addr} {vs : List V} {ds : List PyData} (h : SqL C.K F q vs) (r : DpAll C.K F vs ds) : ItOk C (Itl C.K q) F ds where
  go := fun i H s hi => by
    have hl := dpAll_len r
    exact ⟨vs, vs[i]'(by omega), s.sl h, List.getElem?_eq_getElem (by omega)⟩
  stop := fun H s => ⟨vs, s.sl h, by rw [dpAll_len r]; exact Nat.le_refl _⟩
  yld := fun i H F' x H' s1 s2 y hi => by
    obtain ⟨e, y⟩ := y
    subst e
    obtain ⟨d, ed, rd⟩ := dpAll_at r (y vs ((s1.trans s2).sl h))
    exact ⟨d, F', ed, Grow.refl s2, dp_mono s1 _ _ rd⟩
theorem itt_ok {F : Hp} {q : Addr} {vs : List V} {ds : List PyData} (h : SqT C.K F q vs) (r : DpAll C.K F vs ds) : ItOk C (Itt C.K q) F ds where
  go := fun i H s hi => by
    have hl := dpAll_len r
    exact ⟨vs, vs[i]'(by omega), s.st h, List.getElem?_eq_getElem (by omega)⟩
  stop := fun H s => ⟨vs, s.st h, by rw [dpAll_len r]; exact Nat.le_refl _⟩
  yld := fun i H F' x H' s1 s2 y hi => by
    obtain ⟨e, y⟩ := y
    subst e
    obtain ⟨d, ed, rd⟩ := dpAll_at r (y vs ((s1.trans s2).st h))
    exact ⟨d, F', ed, Grow.refl s2, dp_mono s1 _ _ rd⟩
theorem fi_list {Q : List PyData → Zs → Prop} (hK : C.K = X.K) (h : FE X C z e fun d z1 => ∃ ds, d = .d (.list ds) ∧ Q ds z1) : FI X C z tg e Q := by
  refine pi_con (pi_list h) ?_
  rintro σ H R ⟨F, S, q⟩
  refine ⟨F, S, fun v d z1 H1 F1 ⟨ds, ed, qd⟩ S1 s1 r => ?_⟩
  subst ed
  obtain ⟨a, vs, ev, hq, hp⟩ := dp_list r
  rw [← hK]
  exact ⟨a, ev, ⟨vs, S1.sub.sl hq⟩, q _ ds z1 H1 F1 qd S1 s1 (itl_ok hq hp)⟩
theorem fi_tup {Q : List PyData → Zs → Prop} (hK : C.K = X.K) (h : FE X C z e fun d z1 => ∃ ds, d = .d (.tuple ds) ∧ Q ds z1) : FI X C z tg e Q := by
  refine pi_con (pi_tup h) ?_
  rintro σ H R ⟨F, S, q⟩
  refine ⟨F, S, fun v d z1 H1 F1 ⟨ds, ed, qd⟩ S1 s1 r => ?_⟩
  subst ed
  obtain ⟨a, vs, ev, hq, hp⟩ := dp_tuple r
  rw [← hK]
  exact ⟨a, ev, ⟨vs, S1.sub.st hq⟩, q _ ds z1 H1 F1 qd S1 s1 (itt_ok hq hp)⟩
theorem fip_list {ds : List PyData} (hK : C.K = X.K) (h : FP X C z e (.list ds)) : FIP X C z tg e ds := fi_list hK (fe_fp h ⟨ds, rfl, rfl, rfl⟩)
theorem fip_tup {ds : List PyData} (hK : C.K = X.K) (h : FP X C z e (.tuple ds)) : FIP X C z tg e ds := fi_tup hK (fe_fp h ⟨ds, rfl, rfl, rfl⟩)
/-- range -/
def rng (lo : Int) (n : Nat) : List PyData := (List.range n).map fun i => .int (lo + (i : Nat))
theorem itr_ok {F : Hp} {lo : Int} {n : Nat} : ItOk C (Itr lo n) F (rng lo n) where
  go := fun i H s hi => by unfold rng at hi; rw [List.length_map, List.length_range] at hi; exact hi
  stop := fun H s => by
    show n ≤ (rng lo n).length
    unfold rng; rw [List.length_map, List.length_range]; exact Nat.le_refl _
  yld := fun i H F' x H' s1 s2 y hi => by
    obtain ⟨e, y⟩ := y
    subst e
    unfold rng at hi ⊢
    rw [List.length_map, List.length_range] at hi
    refine ⟨.int (lo + (i : Nat)), F', ?_, Grow.refl s2, by rw [y]; exact .int _⟩
    rw [List.getElem?_map, List.getElem?_range hi]
    rfl
theorem fi_range1 {Q : List PyData → Zs → Prop} (hm : X.mg "range" = none) (h : FE X C z a fun d z1 => ∃ j : Int, d = .d (.int j) ∧ j < 2 ^ 62 ∧ -(2 ^ 62) ≤ j ∧ Q (rng 0 j.toNat) z1) (hg : Gl X "range" := by rfl) (hs : starEach [a] X.env = [(false, eval a X.env)] := by rfl) :
    FI X C z tg (.Call (.Name "range" p) [a] [] pos) Q := by
  have pa : PA X [a] (tCons (tW C z fun d z1 => ∃ j : Int, d = .d (.int j) ∧ j < 2 ^ 62 ∧ -(2 ^ 62) ≤ j ∧ Q (rng 0 j.toNat) z1) tNil) := pa_cons h pa_nil hs
  refine pi_con (pi_range1 hg hm pa hs) ?_
  rintro σ H R ⟨F, S, q⟩
  refine ⟨F, S, fun v d z1 H1 F1 ⟨j, ed, h1, h2, qd⟩ S1 s1 r => ?_⟩
  subst ed
  exact ⟨j, by rw [dp_int r], h2, h1, q _ _ z1 H1 F1 qd S1 s1 itr_ok⟩
theorem fip_range1 {j : Int} (hm : X.mg "range" = none) (h : FP X C z a (.int j)) (h1 : j < 2 ^ 62) (h2 : -(2 ^ 62) ≤ j) (hg : Gl X "range" := by rfl) (hs : starEach [a] X.env = [(false, eval a X.env)] := by rfl) : FIP X C z tg (.Call (.Name "range" p) [a] [] pos) (rng 0 j.toNat) :=
  fi_range1 hm (fe_fp h ⟨j, rfl, h1, h2, rfl, rfl⟩) hg hs
theorem fip_range2 {i j : Int} (hm : X.mg "range" = none) (ha : FP X C z a (.int i)) (hb : FP X C z b (.int j)) (h1 : -(2 ^ 62) ≤ i ∧ i < 2 ^ 62 ∧ -(2 ^ 62) ≤ j ∧ j < 2 ^ 62) (hg : Gl X "range" := by rfl) (hs : starEach [a, b] X.env = [(false, eval a X.env), (false, eval b X.env)] := by rfl) (hs2 : starEach [b] X.env = [(false, eval b X.env)] := by rfl) :
    FIP X C z tg (.Call (.Name "range" p) [a, b] [] pos) (rng i (j - i).toNat) := by
  have pa := pa_cons ha (pa_cons hb pa_nil hs2) (by rw [hs, hs2])
  refine pi_con (pi_range2 hg hm pa hs hs2) ?_
  rintro σ H R ⟨F, S, q⟩
  refine ⟨F, S, fun v d z1 H1 F1 ⟨e1, e2⟩ S1 s1 r => ?_⟩
  subst e1 e2
  refine ⟨F1, S1, fun v2 d2 z2 H2 F2 ⟨e1, e2⟩ S2 s2 r2 => ?_⟩
  subst e1 e2
  exact ⟨i, j, by rw [dp_int r, dp_int r2], h1, q _ _ z2 H2 F2 ⟨rfl, rfl⟩ S2 (s1.trans s2) itr_ok⟩
end
end DL

set_option Elab.async false
set_option linter.all false
set_option maxRecDepth 100000
set_option maxHeartbeats 4000000
set_option autoImplicit false
namespace DL
open PySem PySem.Spec PyProof.Rows L2

/-! ### comprehensions -/
abbrev blkX (X : Cx) (scope : Scope) (s : Shared) (H : Hp) (cc : Addr) (cl : List (Str × Addr)) (fp : List Addr) : Cx := X.blk s H scope (compEnvC scope cl cc X.env) fp
/-- the tests of a clause -/
def FTs (X : Cx) (C : Ct) (z : Zs) (ifs : List Expr) (Q : Bool → Zs → Prop) : Prop := PTs X ifs (tWT C z Q)
theorem pts_con {X : Cx} {ifs : List Expr} {t t' : TT} (h : PTs X ifs t) (k : ∀ σ H Q, t' σ H Q → t σ H Q) : PTs X ifs t' := ⟨fun pins s σ H Q I hq => h.run pins s σ H Q I (k σ H Q hq)⟩
theorem fts_nil {X : Cx} {C : Ct} {z : Zs} {Q : Bool → Zs → Prop} (k : Q true z) : FTs X C z [] Q := pts_con pts_nil fun σ H R ⟨F, S, q⟩ => q true z H F k S (Sub.refl _)
theorem fts_one {X : Cx} {C : Ct} {z : Zs} {e : Expr} {Q : Bool → Zs → Prop} (h : FT X C z e Q) : FTs X C z [e] Q := pts_one h
def noOwnAt (r : List Sl) (vs : List Nat) : Bool := vs.all fun i => match r[i]? with
  | some (.og _) => false
  | _ => true
theorem noOwn_of {r : List Sl} {vs : List Nat} (h : noOwnAt r vs = true) {i : Nat} (hi : i ∈ vs) (ds : Cn) : r[i]? ≠ some (.og ds) := fun e => by
  unfold noOwnAt at h
  rw [List.all_eq_true] at h
  have := h i hi
  rw [e] at this
  cases this
def Ct.withO (C : Ct) (D : Addr) (o : HO) : Ct := ⟨C.K, C.P, upd C.hold D o, C.F0⟩
abbrev Ct.with (C : Ct) (D : Addr) (vs : List V) : Ct := C.withO D (.lst vs)
theorem Sim.into {C : Ct} {z : Zs} {σ : L2.St} {H F : Hp} {D : Addr} {ob : HO} (S : Sim C z σ H F) (o : OwnO C z σ H F D ob) (nt : ∀ ps, ob ≠ .tbl ps := by intro _ q; cases q) : Sim (C.withO D ob) z σ H F where
  sub := S.sub
  ext := S.ext
  keep := fun a u e => by
    have e : upd C.hold D ob a = some u := e
    by_cases q : a = D
    · subst q; rw [upd_same] at e; cases e; exact o.at_
    · rw [upd_ne q] at e; exact S.keep a u e
  fresh := fun a u e => by
    rcases S.fresh a u e with q | q
    · exact .inl q
    · refine .inr ?_
      have hD : a ≠ D := fun z => by subst z; rw [o.nf] at e; cases e
      show upd C.hold D ob a = none
      rw [upd_ne hD]; exact q
  slots := fun i s e => by
    have q := S.slots i s e
    cases s with
    | un => trivial
    | v d => exact q
    | og ds =>
      obtain ⟨a, ws, e1, h1, f1, h2, p1, r⟩ := q
      have hD : a ≠ D := fun z => by subst z; exact o.sep i ds e e1
      exact ⟨a, ws, e1, h1, f1, (by show upd C.hold D ob a = none; rw [upd_ne hD]; exact h2), p1, r⟩
  sep := S.sep
  pot := fun p e => by
    obtain ⟨h1, f1, h2⟩ := S.pot p e
    have hD : p ≠ D := fun z => by subst z; exact o.np e
    exact ⟨h1, f1, by show upd C.hold D ob p = none; rw [upd_ne hD]; exact h2⟩
  len := S.len
  tab := fun p e => by
    obtain ⟨h1, f1, h2⟩ := S.tab p e
    obtain ⟨ps, t1, _⟩ := id h1
    have hD : p.1 ≠ D := fun z => by rw [z, o.at_] at t1; exact nt _ (Option.some.inj t1)
    exact ⟨h1, f1, by show upd C.hold D ob p.1 = none; rw [upd_ne hD]; exact h2⟩
  ft := S.ft
  ht := fun b ps e => by
    have e : upd C.hold D ob b = some (.tbl ps) := e
    by_cases q : b = D
    · subst q; rw [upd_same] at e; exact nt _ (Option.some.inj e)
    · rw [upd_ne q] at e; exact S.ht b ps e
theorem Sim.back {C : Ct} {r r4 : List Sl} {p0 p4 : Pot} {σ σ4 : L2.St} {H F H4 F4 : Hp} {D : Addr} {ob : HO} {vs : List Nat} (S : Sim C ⟨r, p0⟩ σ H F) (o : OwnO C ⟨r, p0⟩ σ H F D ob) (S4 : Sim (C.withO D ob) ⟨r4, p4⟩ σ4 H4 F4)
    (hr : ∀ i, i ∉ vs → r4[i]? = r[i]?) (hσ : ∀ i, i ∉ vs → σ4[i]? = σ[i]?) (hn : noOwnAt r vs = true) (hs : Sub F F4) : Sim C ⟨r, p4⟩ σ H4 F4 ∧ OwnO C ⟨r, p4⟩ σ H4 F4 D ob := by
  have hD : H4 D = some ob := S4.keep D _ (by show upd C.hold D ob D = _; rw [upd_same])
  have fD : F4 D = none := by
    rcases none_or (H := F4) (a := D) with q | ⟨u, q⟩
    · exact q
    · rcases S4.fresh D u q with q2 | q2
      · have := S.ext D u q2
        rw [o.nf] at this; cases this
      · have q2 : upd C.hold D ob D = none := q2
        rw [upd_same] at q2; cases q2
  refine ⟨⟨S4.sub, S4.ext, fun a u e => ?_, fun a u e => ?_, fun i s e => ?_, S.sep, fun p e => ?_, S.len, fun p e => ?_, S4.ft, S.ht⟩, ⟨hD, fD, o.nh, o.np, o.sep⟩⟩
  · refine S4.keep a u ?_
    show upd C.hold D ob a = some u
    have : a ≠ D := fun z => by subst z; rw [o.nh] at e; cases e
    rw [upd_ne this]; exact e
  · rcases S4.fresh a u e with q | q
    · exact .inl q
    · refine .inr ?_
      have : a ≠ D := fun z => by subst z; rw [fD] at e; cases e
      have q : upd C.hold D ob a = none := q
      rw [upd_ne this] at q; exact q
  · have q := S.slots i s e
    cases s with
    | un => trivial
    | v d =>
      obtain ⟨v, e1, r1⟩ := q
      exact ⟨v, e1, r1.mono hs⟩
    | og ds =>
      have e : r[i]? = some (.og ds) := e
      have hi : i ∉ vs := fun hi => noOwn_of hn hi ds e
      obtain ⟨a, us, e1, h1, f1, h2, p1, r1⟩ := S4.slots i (.og ds) (by show r4[i]? = _; rw [hr i hi]; exact e)
      rw [hσ i hi] at e1
      refine ⟨a, us, e1, h1, f1, ?_, p1, r1⟩
      have : a ≠ D := fun z => by subst z; exact o.sep i ds e e1
      have h2 : upd C.hold D ob a = none := h2
      rw [upd_ne this] at h2; exact h2
  · obtain ⟨h1, f1, h2⟩ := S4.pot p e
    refine ⟨h1, f1, ?_⟩
    have : p ≠ D := fun z => by subst z; exact o.np e
    have h2 : upd C.hold D ob p = none := h2
    rw [upd_ne this] at h2; exact h2
  · obtain ⟨h1, f1, h2⟩ := S4.tab p e
    exact ⟨h1, f1, (S.tab p e).2.2⟩
theorem Sim.mutD {C : Ct} {z : Zs} {σ : L2.St} {H F : Hp} {D : Addr} {ws us : List V} (S : Sim C z σ H F) (o : Own C z σ H F D ws) : Sim C z σ (upd H D (.lst us)) F ∧ Own C z σ (upd H D (.lst us)) F D us := by
  refine ⟨⟨fun a u e => ?_, S.ext, fun a u e => ?_, S.fresh, fun i s e => ?_, S.sep, fun p e => ?_, S.len, fun p e => ?_, S.ft, S.ht⟩, ⟨upd_same, o.nf, o.nh, o.np, o.sep⟩⟩
  · have : a ≠ D := fun z => by subst z; rw [o.nf] at e; cases e
    rw [upd_ne this]; exact S.sub a u e
  · have : a ≠ D := fun z => by subst z; rw [o.nh] at e; cases e
    rw [upd_ne this]; exact S.keep a u e
  · have q := S.slots i s e
    cases s with
    | un => trivial
    | v d => exact q
    | og ds =>
      obtain ⟨a, vs, e1, h1, f1, h2, p1, r1⟩ := q
      have : a ≠ D := fun z => by subst z; exact o.sep i ds e e1
      exact ⟨a, vs, e1, by rw [upd_ne this]; exact h1, f1, h2, p1, r1⟩
  · obtain ⟨h1, f1, h2⟩ := S.pot p e
    have : p ≠ D := fun z => by subst z; exact o.np e
    exact ⟨by rw [upd_ne this]; exact h1, f1, h2⟩
  · obtain ⟨h1, f1, h2⟩ := S.tab p e
    exact ⟨TabS.set h1 o.at_, f1, h2⟩
theorem OwnO.grow {C : Ct} {z : Zs} {σ : L2.St} {H F H' F' : Hp} {D : Addr} {ob : HO} (o : OwnO C z σ H F D ob) (g : Grow H F H' F') : OwnO C z σ H' F' D ob := by
  refine ⟨g.h _ _ o.at_, ?_, o.nh, o.np, o.sep⟩
  rcases none_or (H := F') (a := D) with q | ⟨u, q⟩
  · exact q
  · rcases g.n D u q with q2 | q2
    · rw [o.nf] at q2; cases q2
    · rw [o.at_] at q2; cases q2

/-- one turn of a comprehension, from the state ⟨r, p⟩: the item d; what comes of it: kept with a value, or not -/
def Turn1 (X : Cx) (C : Ct) (scope : Scope) (vs : List Nat) (tg elt : Expr) (ifs : List Expr) (r : List Sl) (p : Pot) (d : PyData) (keep : PyData → Pot → Prop) (skip : Pot → Prop) : Prop :=
  ∀ (s : Shared) (H : Hp) (cc : Addr) (cl : List (Str × Addr)) (fp : List Addr) (C' : Ct), C'.K = C.K → C'.P = C.P →
    FG (blkX X scope s H cc cl fp) C' vs ⟨wipeR r vs, p⟩ tg d fun z3 => (∀ i, i ∉ vs → z3.r[i]? = r[i]?) ∧
      ∀ (s : Shared) (H : Hp) (cc : Addr) (cl : List (Str × Addr)) (fp : List Addr), FTs (blkX X scope s H cc cl fp) C' z3 ifs fun b z4 => z4.r = z3.r ∧
        if b = true then ∀ (s : Shared) (H : Hp) (cc : Addr) (cl : List (Str × Addr)) (fp : List Addr), FE (blkX X scope s H cc cl fp) C' z4 elt fun y z5 => ∃ yd, y = .d yd ∧ z5.r = z4.r ∧ keep yd z5.p
        else skip z4.p
/-- what a comprehension asks of what it walks: J by the turn, what is made so far, the pot -/
def LcQ (X : Cx) (C : Ct) (scope : Scope) (vs : List Nat) (tg elt : Expr) (ifs : List Expr) (Q : List PyData → Zs → Prop) : List PyData → Zs → Prop := fun ds z1 => noOwnAt z1.r vs = true ∧ ∃ J : Nat → List PyData → Pot → Prop, J 0 [] z1.p ∧
  (∀ i d acc p, ds[i]? = some d → J i acc p → acc.length < sizeLine ∧ Turn1 X C scope vs tg elt ifs z1.r p d (fun yd p' => J (i + 1) (acc ++ [yd]) p') (fun p' => J (i + 1) acc p')) ∧
  ∀ acc p, J ds.length acc p → Q acc ⟨z1.r, p⟩
def lcG (X : Cx) (scope : Scope) (vs : List Nat) (tg : Expr) : TG := fun v σ H R => ∃ (C' : Ct) (z : Zs) (d : PyData) (Qg : Zs → Prop), (∀ (s : Shared) (H : Hp) (cc : Addr) (cl : List (Str × Addr)) (fp : List Addr), FG (blkX X scope s H cc cl fp) C' vs z tg d Qg) ∧ tWG C' vs z d Qg v σ H R
def lcT (X : Cx) (scope : Scope) (ifs : List Expr) : TT := fun σ H R => ∃ (C' : Ct) (z : Zs) (Qt : Bool → Zs → Prop), (∀ (s : Shared) (H : Hp) (cc : Addr) (cl : List (Str × Addr)) (fp : List Addr), FTs (blkX X scope s H cc cl fp) C' z ifs Qt) ∧ tWT C' z Qt σ H R
def lcE (X : Cx) (scope : Scope) (elt : Expr) : TE := fun σ H R => ∃ (C' : Ct) (z : Zs) (Qe : DV → Zs → Prop), (∀ (s : Shared) (H : Hp) (cc : Addr) (cl : List (Str × Addr)) (fp : List Addr), FE (blkX X scope s H cc cl fp) C' z elt Qe) ∧ tW C' z Qe σ H R
section
variable {X : Cx} {C : Ct} {z : Zs} {elt tg iter : Expr} {ifs : List Expr} {scope : Scope} {pos : Pos}
theorem lcG_pg (vs : List Nat) (s : Shared) (H : Hp) (cc : Addr) (cl : List (Str × Addr)) (fp : List Addr) : PG (X.blk s H scope (compEnvC scope cl cc X.env) fp) tg (lcG X scope vs tg) := ⟨fun pins s' σ H' v u R I r ⟨C', z, d, Qg, f, w⟩ => (f s H cc cl fp).run pins s' σ H' v u R I r w⟩
theorem lcT_pt (s : Shared) (H : Hp) (cc : Addr) (cl : List (Str × Addr)) (fp : List Addr) : PTs (X.blk s H scope (compEnvC scope cl cc X.env) fp) ifs (lcT X scope ifs) := ⟨fun pins s' σ H' R I ⟨C', z, Qt, f, w⟩ => (f s H cc cl fp).run pins s' σ H' R I w⟩
theorem lcE_pe (s : Shared) (H : Hp) (cc : Addr) (cl : List (Str × Addr)) (fp : List Addr) : PE (X.blk s H scope (compEnvC scope cl cc X.env) fp) elt (lcE X scope elt) := ⟨fun pins s' σ H' R I ⟨C', z, Qe, f, w⟩ => (f s H cc cl fp).run pins s' σ H' R I w⟩
theorem lc_reads {vs : List Nat} {Q : List PyData → Zs → Prop} (σ : L2.St) (H : Hp) (R : VK) (h : tWL C z Q σ H R) : tLc (tWI C z (LcQ X C scope vs tg elt ifs Q)) (lcG X scope vs tg) (lcT X scope ifs) (lcE X scope elt) vs σ H R := by
  obtain ⟨F, S, k⟩ := h
  refine ⟨F, S, fun J ds z1 H1 F1 ⟨hno, Jn, J0, turn, fin⟩ S1 s1 itok D hD => ?_⟩
  refine ⟨fun i m H2 => m = ds.length - i ∧ i ≤ ds.length ∧ ∃ acc p F2 ws, Jn i acc p ∧ Sim C ⟨z1.r, p⟩ σ H2 F2 ∧ Sub F1 F2 ∧ Own C ⟨z1.r, p⟩ σ H2 F2 D ws ∧ DpAll C.K F2 ws acc, ⟨ds.length, by simp, Nat.zero_le _, [], z1.p, F1, [], J0, S1.cell hD _, Sub.refl _, S1.own_new hD _, .nil⟩, ?_⟩
  rintro i m H2 ⟨rfl, hi2, acc, p, F2, ws, hJ, S2, s2, o2, r2⟩
  by_cases hlt : i < ds.length
  · refine .inr ⟨itok.go i H2 (s2.trans S2.sub) hlt, fun H3 => i + 1 ≤ ds.length ∧ ∃ acc p F2 ws, Jn (i + 1) acc p ∧ Sim C ⟨z1.r, p⟩ σ H3 F2 ∧ Sub F1 F2 ∧ Own C ⟨z1.r, p⟩ σ H3 F2 D ws ∧ DpAll C.K F2 ws acc, fun H3 ⟨h1, h2⟩ => ⟨ds.length - (i + 1), by omega, rfl, h1, h2⟩, fun x H3 y => ?_⟩
    obtain ⟨d, F3, ed, gr, rd⟩ := itok.yld i H2 F2 x H3 s2 S2.sub y hlt
    have S3 := S2.grow gr
    have o3 := o2.grow gr
    obtain ⟨hz, tn⟩ := turn i d acc p ed hJ
    have Si := (S3.into o3).wipe vs
    refine ⟨C.with D ws, _, d, _, fun s H cc cl fp => tn s H cc cl fp (C.with D ws) rfl rfl, F3, Si, rd, fun z3 σ3 ⟨hz3, tn3⟩ S4 ag => ?_⟩
    have ag' : Agree vs σ σ3 := (wipe_agree vs σ).trans ag
    refine ⟨(agree_wipe ag').trans ?_, C.with D ws, z3, _, tn3, F3, S4, fun b z4 H4 F4 ⟨hz4, tn4⟩ S5 s5 => ?_⟩
    · rfl
    obtain ⟨r4, p4⟩ := z4
    cases b with
    | false =>
      rw [if_neg Bool.false_ne_true] at tn4 ⊢
      obtain ⟨S6, o6⟩ := S3.back (vs := vs) o3 S5 (fun i hi => by have e : r4 = z3.r := hz4; rw [e]; exact hz3 i hi) (fun i hi => ag'.2 i hi) hno s5
      exact ⟨by omega, acc, p4, F4, ws, tn4, S6, (s2.trans gr.f).trans s5, o6, dpAll_mono (gr.f.trans s5) _ _ r2⟩
    | true =>
      rw [if_pos rfl] at tn4 ⊢
      refine ⟨C.with D ws, _, _, tn4, F4, S5, fun v y z5 H5 F5 ⟨yd, ey, hz5, jn⟩ S6 s6 r6 => ?_⟩
      subst ey
      obtain ⟨r5, p5⟩ := z5
      have hr5 : ∀ i, i ∉ vs → r5[i]? = z1.r[i]? := fun i hi => by
        have e : r5 = r4 := hz5
        have e2 : r4 = z3.r := hz4
        rw [e, e2]; exact hz3 i hi
      obtain ⟨S7, o7⟩ := S3.back (vs := vs) o3 S6 hr5 (fun i hi => ag'.2 i hi) hno (s5.trans s6)
      obtain ⟨S8, o8⟩ := S7.mutD (us := ws ++ [v]) o7
      have hl : ws.length < sizeLine := by rw [dpAll_len r2]; exact hz
      refine ⟨ws, o7.at_, hl, by omega, acc ++ [yd], p5, F5, ws ++ [v], jn, S8, ((s2.trans gr.f).trans s5).trans s6, o8, ?_⟩
      exact dpAll_append (dpAll_mono ((gr.f.trans s5).trans s6) _ _ r2) (.cons r6 .nil)
  · have e : i = ds.length := by omega
    subst e
    refine .inl ⟨itok.stop H2 (s2.trans S2.sub), ?_⟩
    exact k D ws acc _ H2 F2 (fin acc p hJ) S2 (s1.trans s2) o2 r2

theorem fl_lc {own : List (Str × Nat)} {Q : List PyData → Zs → Prop} (hc : X.calm = true) (hN : X.N.Nodup) (ok : BlkOk X.N X.env.scope scope own)
    (hi : FI X C z tg iter (LcQ X C scope (own.map (·.2)) tg elt ifs Q))
    (hs : ∀ x, foldedSetIterable iter X.env x = pure x := by intro _; rfl) : FL X C z (.ListComp elt [⟨tg, iter, ifs, 0⟩] scope pos) Q :=
  pe_con (pe_lc (pos := pos) hc hN hi ok (lcG_pg _) lcT_pt lcE_pe hs) fun σ H R h => lc_reads σ H R h

/-- pure: a filter and a map -/
theorem lcp_lc {α : Type} {vs : List Nat} (xs : List α) (enc : α → PyData) (pf : α → Bool) (gf : α → PyData)
    (hi : FIP X C z tg iter (xs.map enc)) (hlen : xs.length ≤ 100000) (hno : noOwnAt z.r vs = true)
    (turn : ∀ x, x ∈ xs → Turn1 X C scope vs tg elt ifs z.r z.p (enc x) (fun yd p' => pf x = true ∧ yd = gf x ∧ p' = z.p) (fun p' => pf x = false ∧ p' = z.p)) :
    FI X C z tg iter (LcQ X C scope vs tg elt ifs fun ds' z' => ds' = (xs.filter pf).map gf ∧ z' = z) := by
  refine fi_mono hi fun ds z1 ⟨e1, e2⟩ => ?_
  subst e1 e2
  refine ⟨hno, fun i acc p => acc = ((xs.take i).filter pf).map gf ∧ p = z1.p, ⟨rfl, rfl⟩, ?_, ?_⟩
  · rintro i d acc p ed ⟨rfl, rfl⟩
    rw [List.getElem?_map] at ed
    cases hx : xs[i]? with
    | none => rw [hx] at ed; cases ed
    | some x =>
      rw [hx] at ed
      cases ed
      have hmem : x ∈ xs := List.mem_of_getElem? hx
      have htk : xs.take (i + 1) = xs.take i ++ [x] := by rw [List.take_add_one, hx]; rfl
      refine ⟨?_, ?_⟩
      · rw [List.length_map, sizeLine_eq]
        have h1 := List.length_filter_le pf (xs.take i)
        have h2 := List.length_take_le i xs
        have h3 : (xs.take i).length ≤ xs.length := List.length_take_le' i xs
        omega
      · intro s H cc cl fp C' hk hp
        refine fg_mono (turn x hmem s H cc cl fp C' hk hp) fun z3 ⟨h3, f3⟩ => ⟨h3, fun s H cc cl fp => pts_con (f3 s H cc cl fp) fun σ H R ⟨F, S, q⟩ => ⟨F, S, fun b z4 H' F' ⟨h4, f4⟩ => q b z4 H' F' ⟨h4, ?_⟩⟩⟩
        cases b with
        | true =>
          rw [if_pos rfl] at f4 ⊢
          intro s H cc cl fp
          refine fe_mono (f4 s H cc cl fp) fun y z5 ⟨yd, ey, h5, hpf, eyd, ep⟩ => ⟨yd, ey, h5, ?_, ep⟩
          rw [htk, List.filter_append, List.map_append, eyd]
          simp [hpf]
        | false =>
          rw [if_neg Bool.false_ne_true] at f4 ⊢
          obtain ⟨hpf, ep⟩ := f4
          refine ⟨?_, ep⟩
          rw [htk, List.filter_append, List.map_append]
          simp [hpf]
  · rintro acc p ⟨rfl, rfl⟩
    refine ⟨?_, rfl⟩
    rw [List.length_map, List.take_length]
/-- pure: a map -/
theorem lcp_map {α : Type} {vs : List Nat} (xs : List α) (enc : α → PyData) (gf : α → PyData)
    (hi : FIP X C z tg iter (xs.map enc)) (hlen : xs.length ≤ 100000) (hno : noOwnAt z.r vs = true)
    (turn : ∀ x, x ∈ xs → ∀ (s : Shared) (H : Hp) (cc : Addr) (cl : List (Str × Addr)) (fp : List Addr) (C' : Ct), C'.K = C.K → C'.P = C.P →
      FG (blkX X scope s H cc cl fp) C' vs ⟨wipeR z.r vs, z.p⟩ tg (enc x) fun z3 => (∀ i, i ∉ vs → z3.r[i]? = z.r[i]?) ∧ z3.p = z.p ∧
        ∀ (s : Shared) (H : Hp) (cc : Addr) (cl : List (Str × Addr)) (fp : List Addr), FP (blkX X scope s H cc cl fp) C' z3 elt (gf x)) :
    FI X C z tg iter (LcQ X C scope vs tg elt [] fun ds' z' => ds' = xs.map gf ∧ z' = z) := by
  have h := lcp_lc (z := z) (elt := elt) (ifs := []) (scope := scope) (vs := vs) xs enc (fun _ => true) gf hi hlen hno (fun x hx s H cc cl fp C' hk hp => by
    refine fg_mono (turn x hx s H cc cl fp C' hk hp) fun z3 ⟨h3, hp3, f3⟩ => ⟨h3, fun s H cc cl fp => fts_nil ⟨rfl, ?_⟩⟩
    rw [if_pos rfl]
    intro s H cc cl fp
    refine fe_mono (f3 s H cc cl fp) fun y z5 ⟨ey, e5⟩ => ⟨gf x, ey, by rw [e5], rfl, rfl, by rw [e5]; exact hp3⟩)
  rw [List.filter_eq_self.mpr (fun _ _ => rfl)] at h
  exact h
/-- pure: a filter and a map, the test and the element apart -/
theorem lcp_if {α : Type} {vs : List Nat} {test : Expr} (xs : List α) (enc : α → PyData) (pf : α → Bool) (gf : α → PyData)
    (hi : FIP X C z tg iter (xs.map enc)) (hlen : xs.length ≤ 100000) (hno : noOwnAt z.r vs = true)
    (turn : ∀ x, x ∈ xs → ∀ (s : Shared) (H : Hp) (cc : Addr) (cl : List (Str × Addr)) (fp : List Addr) (C' : Ct), C'.K = C.K → C'.P = C.P →
      FG (blkX X scope s H cc cl fp) C' vs ⟨wipeR z.r vs, z.p⟩ tg (enc x) fun z3 => (∀ i, i ∉ vs → z3.r[i]? = z.r[i]?) ∧ z3.p = z.p ∧
        ∀ (s : Shared) (H : Hp) (cc : Addr) (cl : List (Str × Addr)) (fp : List Addr), FPT (blkX X scope s H cc cl fp) C' z3 test (pf x) ∧ (pf x = true → FP (blkX X scope s H cc cl fp) C' z3 elt (gf x))) :
    FI X C z tg iter (LcQ X C scope vs tg elt [test] fun ds' z' => ds' = (xs.filter pf).map gf ∧ z' = z) := by
  refine lcp_lc (z := z) (elt := elt) (ifs := [test]) (scope := scope) (vs := vs) xs enc pf gf hi hlen hno (fun x hx s H cc cl fp C' hk hp => ?_)
  refine fg_mono (turn x hx s H cc cl fp C' hk hp) fun z3 ⟨h3, hp3, f3⟩ => ⟨h3, fun s H cc cl fp => fts_one (ft_mono (f3 s H cc cl fp).1 fun b z4 ⟨eb, e4⟩ => ?_)⟩
  subst eb e4
  refine ⟨rfl, ?_⟩
  by_cases hb : pf x = true
  · rw [if_pos hb]
    intro s H cc cl fp
    exact fe_mono ((f3 s H cc cl fp).2 hb) fun y z5 ⟨ey, e5⟩ => ⟨gf x, ey, by rw [e5], hb, rfl, by rw [e5]; exact hp3⟩
  · rw [if_neg hb]
    exact ⟨by simpa using hb, hp3⟩
end
end DL

set_option Elab.async false
set_option linter.all false
set_option maxRecDepth 100000
set_option maxHeartbeats 4000000
set_option autoImplicit false
namespace DL
open PySem PySem.Spec PyProof.Rows L2

/-! ### what a def promises -/
/-- from the arguments and the pot: the wish about value and pot -/
abbrev WF := List DV → Pot → (DV → Pot → Prop) → Prop
def PotOk (P : Option Addr) (π : Pot) (H F : Hp) : Prop := ∀ p, P = some p → H p = some (.lst [.int π.a, .int π.b, .int π.c]) ∧ F p = none
structure TabOk (H F : Hp) : Prop where
  t : ∀ p ∈ tabs, LamX.TabS H p.1 p.2 ∧ F p.1 = none
  f : ∀ a ps, F a ≠ some (.tbl ps)
def SpD (K : PySem.W.Frag) (W : WF) : Sp := fun vs H Q _ => ∃ (P : Option Addr) (F : Hp) (π : Pot) (ds : List DV) (k : DV → Pot → Prop), W ds π k ∧ Sub F H ∧ Paired (RV K P F) vs ds ∧ PotOk P π H F ∧ TabOk H F ∧
  ∀ v d π' H' F', k d π' → Sub F F' → Sub F' H' → (∀ a o, H a = some o → P ≠ some a → (∀ ps, o ≠ .tbl ps) → H' a = some o) → (∀ a o, F' a = some o → F a = some o ∨ H a = none ∨ ∃ ps, H a = some (.tbl ps)) → PotOk P π' H' F' → TabOk H' F' → RV K P F' v d → Q v H'

section
variable {X : Cx} {C : Ct} {z : Zs} {e a : Expr} {es : List Expr} {pos p : Pos} {x : Str} {k : Nat} {f : Addr} {fd : FuncData} {ps : List Str} {W : WF}
theorem Sim.after {σ : L2.St} {H F H' F' : Hp} {π' : Pot} (S : Sim C z σ H F) (sF : Sub F F') (sH : Sub F' H') (kp : ∀ a o, H a = some o → C.P ≠ some a → (∀ ps, o ≠ .tbl ps) → H' a = some o) (fr : ∀ a o, F' a = some o → F a = some o ∨ H a = none ∨ ∃ ps, H a = some (.tbl ps)) (po : PotOk C.P π' H' F') (tb : TabOk H' F') : Sim C ⟨z.r, π'⟩ σ H' F' where
  sub := sH
  ext := S.ext.trans sF
  keep := fun a o e => kp a o (S.keep a o e) (fun q => by
    have := (S.pot a q).2.2
    rw [e] at this; cases this) fun ps q => S.ht a ps (by rw [← q]; exact e)
  fresh := fun a o e => by
    rcases fr a o e with q | q | ⟨ps, q⟩
    · exact S.fresh a o q
    · exact .inr (none_of_sub S.keep q)
    · refine .inr ?_
      rcases none_or (H := C.hold) (a := a) with w | ⟨u, w⟩
      · exact w
      · have := S.keep a u w
        rw [q] at this; cases this
        exact absurd w (S.ht a ps)
  slots := fun i s e => by
    have q := S.slots i s e
    cases s with
    | un => trivial
    | v d =>
      obtain ⟨v, e1, r⟩ := q
      exact ⟨v, e1, r.mono sF⟩
    | og ds =>
      obtain ⟨a, vs, e1, h1, f1, h2, p1, r⟩ := q
      refine ⟨a, vs, e1, kp a _ h1 p1 (fun ps q => r.nt ps q), ?_, h2, p1, r.mono sF⟩
      rcases none_or (H := F') (a := a) with q | ⟨o, q⟩
      · exact q
      · rcases fr a o q with q | q | ⟨ps, q⟩
        · rw [f1] at q; cases q
        · rw [h1] at q; cases q
        · rw [h1] at q; exact absurd (Option.some.inj q) (r.nt ps)
  sep := S.sep
  pot := fun p e => ⟨(po p e).1, (po p e).2, (S.pot p e).2.2⟩
  len := S.len
  tab := fun p e => ⟨(tb.t p e).1, (tb.t p e).2, (S.tab p e).2.2⟩
  ft := tb.f
  ht := S.ht
theorem fe_call {Q : DV → Zs → Prop} (G : FnOk X.prog X.w X.K X.mg X.base CX0 k f fd ps (SpD X.K W)) (hr : Room k X.A) (hK : C.K = X.K) (hm : X.mg x = some (.ref f)) (hk : PySem.W.keepIn X.K (.ref f) = true) (hb : Binds X.K fd ps [])
    (ha : FA X C z (a :: es) fun ds z1 => W ds z1.p fun d π' => Q d ⟨z1.r, π'⟩) (hg : Gl X x := by rfl) (hdb : (x == ("__debug__" : Str)) = false := by decide)
    (he : starEach (a :: es) X.env = (false, eval a X.env) :: starEach es X.env := by rfl) (hpl : (backTo pos (starEach es X.env)).any (·.1) = false := by rfl) : FE X C z (.Call (.Name x p) (a :: es) [] pos) Q := by
  refine pe_con (pe_call G hr hg hm hk hb .nil pass0 ha hdb he hpl) ?_
  rintro σ H R ⟨F, S, q⟩
  refine ⟨F, S, fun vs ds z1 H1 F1 w S1 s1 r1 => ?_⟩
  show SpD X.K W (vs ++ []) H1 R E0
  rw [List.append_nil]
  refine ⟨C.P, F1, z1.p, ds, _, w, S1.sub, by rw [← hK]; exact r1, fun p e => ⟨(S1.pot p e).1, (S1.pot p e).2.1⟩, ⟨fun p e => ⟨(S1.tab p e).1, (S1.tab p e).2.1⟩, S1.ft⟩, fun v d π' H' F' qd sF sH kp fr po tb rv => ?_⟩
  rw [← hK] at rv
  exact q v d _ H' F' qd (S1.after sF sH kp fr po tb) (s1.trans sF) rv
/-- a call of a def that is a function of plain data -/
theorem fp_call {ds : List PyData} {d : PyData} (G : FnOk X.prog X.w X.K X.mg X.base CX0 k f fd ps (SpD X.K W)) (hr : Room k X.A) (hK : C.K = X.K) (hm : X.mg x = some (.ref f)) (hk : PySem.W.keepIn X.K (.ref f) = true) (hb : Binds X.K fd ps [])
    (ha : FPA X C z (a :: es) ds) (hw : ∀ (π : Pot) (q : DV → Pot → Prop), q (.d d) π → W (ds.map .d) π q) (hg : Gl X x := by rfl) (hdb : (x == ("__debug__" : Str)) = false := by decide)
    (he : starEach (a :: es) X.env = (false, eval a X.env) :: starEach es X.env := by rfl) (hpl : (backTo pos (starEach es X.env)).any (·.1) = false := by rfl) : FP X C z (.Call (.Name x p) (a :: es) [] pos) d :=
  fe_call G hr hK hm hk hb (fa_mono ha fun _ _ ⟨e1, e2⟩ => by
    subst e1 e2
    exact hw _ _ ⟨rfl, rfl⟩) hg hdb he hpl
end

/-! ### statements -/
inductive Out where
  | nx
  | rt (d : DV)
  | bk
  | ct
def Fin (C : Ct) (D : Ends) (σ : L2.St) (H F : Hp) : Out → Prop
  | .nx => D.nx σ H
  | .bk => D.bk σ H
  | .ct => D.ct σ H
  | .rt d => ∀ v, RV C.K C.P F v d → D.rt v H
def tWS (C : Ct) (z : Zs) (Q : Out → Zs → Prop) : TS := fun D σ H => ∃ F, Sim C z σ H F ∧ ∀ o z' σ' H' F', Q o z' → Sim C z' σ' H' F' → Sub F F' → Fin C D σ' H' F' o
/-- a statement; a block -/
def F1 (X : Cx) (C : Ct) (z : Zs) (st : Stmt) (Q : Out → Zs → Prop) : Prop := PS X st (tWS C z Q)
def FS (X : Cx) (C : Ct) (z : Zs) (st : List Stmt) (Q : Out → Zs → Prop) : Prop := PSs X st (tWS C z Q)
/-- behind a statement: on, or out -/
def Then (Q : Out → Zs → Prop) (N : Zs → Prop) : Out → Zs → Prop := fun o z => match o with
  | .nx => N z
  | .rt d => Q (.rt d) z
  | .bk => Q .bk z
  | .ct => Q .ct z
section
variable {X : Cx} {C : Ct} {z : Zs} {e : Expr} {st : Stmt} {sts rest : List Stmt} {pos : Pos} {Q : Out → Zs → Prop}
theorem ps_con {t t' : TS} (h : PS X st t) (k : ∀ D σ H, t' D σ H → t D σ H) : PS X st t' := ⟨fun pins s σ H D I hq => h.run pins s σ H D I (k D σ H hq)⟩
theorem pss_con {t t' : TS} (h : PSs X sts t) (k : ∀ D σ H, t' D σ H → t D σ H) : PSs X sts t' := ⟨fun pins s σ H D I hq => h.run pins s σ H D I (k D σ H hq)⟩
theorem f1_mono {Q' : Out → Zs → Prop} (h : F1 X C z st Q) (k : ∀ o z', Q o z' → Q' o z') : F1 X C z st Q' := ps_con h fun D σ H ⟨F, S, q⟩ => ⟨F, S, fun o z' σ' H' F' x => q o z' σ' H' F' (k o z' x)⟩
theorem fs_mono {Q' : Out → Zs → Prop} (h : FS X C z sts Q) (k : ∀ o z', Q o z' → Q' o z') : FS X C z sts Q' := pss_con h fun D σ H ⟨F, S, q⟩ => ⟨F, S, fun o z' σ' H' F' x => q o z' σ' H' F' (k o z' x)⟩
theorem fs_nil (k : Q .nx z) : FS X C z [] Q := pss_con pss_nil fun D σ H ⟨F, S, q⟩ => q .nx z σ H F k S (Sub.refl _)
theorem fs_cons (h : F1 X C z st (Then Q fun z1 => FS X C z1 rest Q)) : FS X C z (st :: rest) Q := by
  have pr : PSs X rest (fun D σ H => ∃ z1, FS X C z1 rest Q ∧ tWS C z1 Q D σ H) := ⟨fun pins s σ H D I ⟨z1, f, w⟩ => f.run pins s σ H D I w⟩
  refine pss_con (pss_cons h pr) ?_
  rintro D σ H ⟨F, S, q⟩
  refine ⟨F, S, fun o z1 σ1 H1 F1 q1 S1 s1 => ?_⟩
  cases o with
  | nx => exact ⟨z1, q1, F1, S1, fun o z2 σ2 H2 F2 q2 S2 s2 => q o z2 σ2 H2 F2 q2 S2 (s1.trans s2)⟩
  | rt d => exact q (.rt d) z1 σ1 H1 F1 q1 S1 s1
  | bk => exact q .bk z1 σ1 H1 F1 q1 S1 s1
  | ct => exact q .ct z1 σ1 H1 F1 q1 S1 s1
theorem fs_one (h : F1 X C z st Q) : FS X C z [st] Q := pss_one h
theorem f1_pass (k : Q .nx z) : F1 X C z (.Pass pos) Q := ps_con ps_pass fun D σ H ⟨F, S, q⟩ => q .nx z σ H F k S (Sub.refl _)
theorem f1_break (k : Q .bk z) : F1 X C z (.Break pos) Q := ps_con ps_break fun D σ H ⟨F, S, q⟩ => q .bk z σ H F k S (Sub.refl _)
theorem f1_cont (k : Q .ct z) : F1 X C z (.Continue pos) Q := ps_con ps_continue fun D σ H ⟨F, S, q⟩ => q .ct z σ H F k S (Sub.refl _)
theorem f1_ret (h : FE X C z e fun d z1 => Q (.rt d) z1) : F1 X C z (.Return (some e) pos) Q := by
  refine ps_con (ps_ret h) ?_
  rintro D σ H ⟨F, S, q⟩
  exact ⟨F, S, fun v d z1 H1 F1 q1 S1 s1 r => q (.rt d) z1 σ H1 F1 q1 S1 s1 v r⟩
theorem f1_retP {d : PyData} (h : FP X C z e d) (k : Q (.rt (.d d)) z) : F1 X C z (.Return (some e) pos) Q := f1_ret (fe_fp h k)
theorem f1_expr (h : FE X C z e fun _ z1 => Q .nx z1) (hs : swapsWith e none pos.line X.env = pure false := by rfl) : F1 X C z (.Expr e pos) Q := by
  refine ps_con (ps_expr h hs) ?_
  rintro D σ H ⟨F, S, q⟩
  exact ⟨F, S, fun v d z1 H1 F1 q1 S1 s1 r => q .nx z1 σ H1 F1 q1 S1 s1⟩
theorem f1_if {c : Expr} {a b : List Stmt} (hc : FT X C z c fun k z1 => (k = true → FS X C z1 a Q) ∧ (k = false → FS X C z1 b Q)) : F1 X C z (.If c a b pos) Q := by
  have pa : PSs X a (fun D σ H => ∃ z1, FS X C z1 a Q ∧ tWS C z1 Q D σ H) := ⟨fun pins s σ H D I ⟨z1, f, w⟩ => f.run pins s σ H D I w⟩
  have pb : PSs X b (fun D σ H => ∃ z1, FS X C z1 b Q ∧ tWS C z1 Q D σ H) := ⟨fun pins s σ H D I ⟨z1, f, w⟩ => f.run pins s σ H D I w⟩
  refine ps_con (ps_if hc pa pb) ?_
  rintro D σ H ⟨F, S, q⟩
  refine ⟨F, S, fun k z1 H1 F1 ⟨q1, q2⟩ S1 s1 => ?_⟩
  cases k with
  | true =>
    rw [if_pos rfl]
    exact ⟨z1, q1 rfl, F1, S1, fun o z2 σ2 H2 F2 q2 S2 s2 => q o z2 σ2 H2 F2 q2 S2 (s1.trans s2)⟩
  | false =>
    rw [if_neg Bool.false_ne_true]
    exact ⟨z1, q2 rfl, F1, S1, fun o z2 σ2 H2 F2 q2 S2 s2 => q o z2 σ2 H2 F2 q2 S2 (s1.trans s2)⟩
theorem f1_ifP {c : Expr} {a b : List Stmt} {k : Bool} (hc : FPT X C z c k) (ha : k = true → FS X C z a Q) (hb : k = false → FS X C z b Q) : F1 X C z (.If c a b pos) Q :=
  f1_if (ft_fp hc ⟨ha, hb⟩)
/-- a branch that isn't taken -/
theorem fs_if_no {c : Expr} {a : List Stmt} {k : Bool} (hc : FPT X C z c k) (hk : k = false) (h : FS X C z rest Q) : FS X C z (.If c a [] pos :: rest) Q :=
  fs_cons (f1_ifP hc (fun h => by rw [hk] at h; cases h) fun _ => fs_nil h)
end
end DL

set_option Elab.async false
set_option linter.all false
set_option maxRecDepth 100000
set_option maxHeartbeats 4000000
set_option autoImplicit false
namespace DL
open PySem PySem.Spec PyProof.Rows L2

theorem Sim.mutC {C : Ct} {z : Zs} {σ : L2.St} {H F : Hp} {i : Nat} {c c' : Cn} {a : Addr} {o' : HO} (S : Sim C z σ H F) (hz : z.r[i]? = some (.og c)) (ha : σ[i]? = some (some (.ref a))) (r : CnOk C.K F o' c') :
    Sim C ⟨z.r.set i (.og c'), z.p⟩ σ (upd H a o') F := by
  obtain ⟨a', vs, e1, h1, f1, h2, p1, r1⟩ := S.slots i _ hz
  rw [ha] at e1
  cases e1
  have hl : i < z.r.length := (List.getElem?_eq_some_iff.mp hz).1
  have own : ∀ (j : Nat) (xs : Cn), (z.r.set i (.og c'))[j]? = some (.og xs) → ∃ ys, z.r[j]? = some (.og ys) := fun j xs e => by
    by_cases q : i = j
    · subst q; exact ⟨c, hz⟩
    · rw [List.getElem?_set_ne q] at e; exact ⟨xs, e⟩
  refine ⟨fun b u e => ?_, S.ext, fun b u e => ?_, S.fresh, fun j s e => ?_, fun j k xs ys b n e1 e2 h => ?_, fun p e => ?_, by rw [List.length_set]; exact S.len, fun p e => ?_, S.ft, S.ht⟩
  · have : b ≠ a := fun q => by subst q; rw [f1] at e; cases e
    rw [upd_ne this]; exact S.sub b u e
  · have : b ≠ a := fun q => by subst q; rw [h2] at e; cases e
    rw [upd_ne this]; exact S.keep b u e
  · have e : (z.r.set i (.og c'))[j]? = some s := e
    by_cases q : i = j
    · subst q
      rw [List.getElem?_set_self hl] at e
      cases e
      exact ⟨a, o', ha, upd_same, f1, h2, p1, r⟩
    · rw [List.getElem?_set_ne q] at e
      have w := S.slots j s e
      cases s with
      | un => trivial
      | v d => exact w
      | og es =>
        obtain ⟨b, ws, e1, g1, f2, g2, p2, r2⟩ := w
        have : b ≠ a := fun w => by
          subst w
          exact S.sep i j c es b q hz e ha e1
        exact ⟨b, ws, e1, by rw [upd_ne this]; exact g1, f2, g2, p2, r2⟩
  · obtain ⟨xs', e1'⟩ := own j xs e1
    obtain ⟨ys', e2'⟩ := own k ys e2
    exact S.sep j k xs' ys' b n e1' e2' h
  · obtain ⟨g1, f2, g2⟩ := S.pot p e
    have : p ≠ a := fun q => by subst q; exact p1 e
    exact ⟨by rw [upd_ne this]; exact g1, f2, g2⟩
  · obtain ⟨g1, f2, g2⟩ := S.tab p e
    exact ⟨TabS.setO g1 h1 r1.nt r1.nc, f2, g2⟩
theorem Sim.mutO {C : Ct} {z : Zs} {σ : L2.St} {H F : Hp} {i : Nat} {ds ds' : List PyData} {a : Addr} {us : List V} (S : Sim C z σ H F) (hz : z.r[i]? = some (.ow ds)) (ha : σ[i]? = some (some (.ref a))) (r : DpAll C.K F us ds') :
    Sim C ⟨z.r.set i (.ow ds'), z.p⟩ σ (upd H a (.lst us)) F := S.mutC hz ha (.l r)

section
variable {X : Cx} {C : Ct} {z : Zs} {e a b c : Expr} {body sts rest : List Stmt} {pos p px py pt : Pos} {Q : Out → Zs → Prop} {x y : Str}

/-! ### names assigned -/
theorem f1_set {x : Str} (i : Nat) (hN : X.N.Nodup) (hi : X.N[i]? = some x) (hx : Loc X.env.scope x) (h : FE X C z e fun d z1 => Q .nx ⟨z1.r.set i (.v d), z1.p⟩)
    (hs : swapsWith e (some (.Name x px)) pos.line X.env = pure false := by rfl) (hf : X.fn x = true ∨ X.env.scope.names.lookup x = some .local := by first | exact .inl rfl | exact .inr rfl | assumption) : F1 X C z (.Assign [.Name x px] e pos) Q := by
  refine ps_con (ps_set hN hi hx h hs hf) ?_
  rintro D σ H ⟨F, S, q⟩
  exact ⟨F, S, fun v d z1 H1 F1 q1 S1 s1 r => q .nx _ _ H1 F1 q1 (S1.set i r) s1⟩
theorem f1_setP {x : Str} {d : PyData} (i : Nat) (hN : X.N.Nodup) (h : FP X C z e d) (k : Q .nx ⟨z.r.set i (sd d), z.p⟩) (hi : X.N[i]? = some x := by rfl) (hx : Loc X.env.scope x := by first | exact .inl rfl | exact .inr rfl)
    (hs : swapsWith e (some (.Name x px)) pos.line X.env = pure false := by rfl) (hf : X.fn x = true ∨ X.env.scope.names.lookup x = some .local := by first | exact .inl rfl | exact .inr rfl | assumption) : F1 X C z (.Assign [.Name x px] e pos) Q :=
  f1_set i hN hi hx (fe_fp h k) hs hf
/-- a new list, kept as one's own -/
theorem f1_setO {x : Str} (i : Nat) (hN : X.N.Nodup) (h : FL X C z e fun ds z1 => Q .nx ⟨z1.r.set i (.ow ds), z1.p⟩) (hi : X.N[i]? = some x := by rfl) (hx : Loc X.env.scope x := by first | exact .inl rfl | exact .inr rfl)
    (hs : swapsWith e (some (.Name x px)) pos.line X.env = pure false := by rfl) (hf : X.fn x = true ∨ X.env.scope.names.lookup x = some .local := by first | exact .inl rfl | exact .inr rfl | assumption) : F1 X C z (.Assign [.Name x px] e pos) Q := by
  refine ps_con (ps_set hN hi hx h hs hf) ?_
  rintro D σ H ⟨F, S, q⟩
  exact ⟨F, S, fun a vs ds z1 H1 F1 q1 S1 s1 o r => q .nx _ _ H1 F1 q1 (S1.setOwn i o r) s1⟩
/-- name = [comprehension], the name a local -/
theorem f1_setLc {x : Str} {own : List (Str × Nat)} {elt tg iter : Expr} {ifs : List Expr} {scope : Scope} {lp : Pos} (i : Nat) (hc : X.calm = true) (hN : X.N.Nodup) (ok : BlkOk X.N X.env.scope scope own)
    (hi : FI X C z tg iter (LcQ X C scope (own.map (·.2)) tg elt ifs fun ds z1 => Q .nx ⟨z1.r.set i (.v (.d (.list ds))), z1.p⟩))
    (hx : X.N[i]? = some x := by rfl) (hy : X.env.scope.names.lookup x = some .local := by rfl)
    (hsw : swapsWith (.ListComp elt [⟨tg, iter, ifs, 0⟩] scope lp) (some (.Name x px)) pos.line X.env = pure true := by exact sw_true rfl rfl rfl (by decide +kernel))
    (hs : ∀ x, foldedSetIterable iter X.env x = pure x := by intro _; rfl) : F1 X C z (.Assign [.Name x px] (.ListComp elt [⟨tg, iter, ifs, 0⟩] scope lp) pos) Q := by
  refine ps_con (ps_setLc hc hN hx hy hsw hi ok (lcG_pg (own.map (·.2))) lcT_pt lcE_pe hs) ?_
  rintro D σ H ⟨F, S, q⟩
  refine lc_reads σ H _ ⟨F, S, fun a vs ds z1 H1 F1 q1 S1 s1 o r => ?_⟩
  exact q .nx _ _ H1 _ q1 ((S1.freeze o).set i (d := .d (.list ds)) (.lst (SqL.of upd_same) (dpAll_mono (sub_new o.nf) _ _ r))) (s1.trans (sub_new o.nf))
theorem f1_setLcO {x : Str} {own : List (Str × Nat)} {elt tg iter : Expr} {ifs : List Expr} {scope : Scope} {lp : Pos} (i : Nat) (hc : X.calm = true) (hN : X.N.Nodup) (ok : BlkOk X.N X.env.scope scope own)
    (hi : FI X C z tg iter (LcQ X C scope (own.map (·.2)) tg elt ifs fun ds z1 => Q .nx ⟨z1.r.set i (.ow ds), z1.p⟩))
    (hx : X.N[i]? = some x := by rfl) (hy : X.env.scope.names.lookup x = some .local := by rfl)
    (hsw : swapsWith (.ListComp elt [⟨tg, iter, ifs, 0⟩] scope lp) (some (.Name x px)) pos.line X.env = pure true := by exact sw_true rfl rfl rfl (by decide +kernel))
    (hs : ∀ x, foldedSetIterable iter X.env x = pure x := by intro _; rfl) : F1 X C z (.Assign [.Name x px] (.ListComp elt [⟨tg, iter, ifs, 0⟩] scope lp) pos) Q := by
  refine ps_con (ps_setLc hc hN hx hy hsw hi ok (lcG_pg (own.map (·.2))) lcT_pt lcE_pe hs) ?_
  rintro D σ H ⟨F, S, q⟩
  refine lc_reads σ H _ ⟨F, S, fun a vs ds z1 H1 F1 q1 S1 s1 o r => ?_⟩
  exact q .nx _ _ H1 _ q1 (S1.setOwn i o r) s1
/-- any target -/
theorem f1_asg {tg : Expr} (vs : List Nat) (h : FE X C z e fun d z1 => ∃ x, d = .d x ∧ FG X C vs z1 tg x (Q .nx)) (hs : swapsWithSole [tg] e pos.line X.env = pure false := by rfl) (hw : swappedStores [tg] e X.env = pure none := by rfl)
    (h1 : (assignEach [tg] X.env).map (·.2) = [assign tg X.env] := by rfl) : F1 X C z (.Assign [tg] e pos) Q := by
  have pg : PG X tg (fun v σ H R => ∃ z1 x, FG X C vs z1 tg x (Q .nx) ∧ tWG C vs z1 x (Q .nx) v σ H R) := ⟨fun pins s σ H v u R I r ⟨z1, x, f, w⟩ => f.run pins s σ H v u R I r w⟩
  refine ps_con (ps_asg h pg hs hw h1) ?_
  rintro D σ H ⟨F, S, q⟩
  refine ⟨F, S, fun v d z1 H1 F1 ⟨x, ed, f⟩ S1 s1 r => ?_⟩
  subst ed
  exact ⟨z1, x, f, F1, S1, r, fun z2 σ2 q2 S2 _ => q .nx z2 σ2 H1 F1 q2 S2 s1⟩
/-- a, b = e1, e2: both values -/
theorem f1_par {i j : Nat} {k k2 : Nat} {pt2 : Pos} (hc : X.calm = true) (hN : X.N.Nodup) (hij : i ≠ j) (ha : FA X C z [a, b] fun ds z1 => ∃ d1 d2, ds = [d1, d2] ∧ Q .nx ⟨(z1.r.set i (.v d1)).set j (.v d2), z1.p⟩)
    (hi : X.N[i]? = some x := by rfl) (hj : X.N[j]? = some y := by rfl) (hx : X.env.scope.names.lookup x = some .local := by rfl) (hy : X.env.scope.names.lookup y = some .local := by rfl)
    (hw : swappedStores [.Tuple [.Name x px, .Name y py] k pt] (.Tuple [a, b] k2 pt2) X.env = pure (some [x, y]) := by rfl)
    (hs : swapsWithSole [.Tuple [.Name x px, .Name y py] k pt] (.Tuple [a, b] k2 pt2) pos.line X.env = pure false := by rfl) :
    F1 X C z (.Assign [.Tuple [.Name x px, .Name y py] k pt] (.Tuple [a, b] k2 pt2) pos) Q := by
  refine ps_con (ps_par hc hN hi hj hij hx hy ha hw hs) ?_
  rintro D σ H ⟨F, S, q⟩
  refine ⟨F, S, fun vs ds z1 H1 F1 ⟨d1, d2, ed, q1⟩ S1 s1 r => ?_⟩
  subst ed
  obtain ⟨v, u, ev, r1, r2⟩ := paired2 r
  subst ev
  exact ⟨v, u, rfl, q .nx _ _ H1 F1 q1 ((S1.set i r1).set j r2) s1⟩
theorem f1_parP {i j : Nat} {k k2 : Nat} {pt2 : Pos} {d1 d2 : PyData} (hc : X.calm = true) (hN : X.N.Nodup) (hij : i ≠ j) (ha : FP X C z a d1) (hb : FP X C z b d2) (q : Q .nx ⟨(z.r.set i (sd d1)).set j (sd d2), z.p⟩)
    (hi : X.N[i]? = some x := by rfl) (hj : X.N[j]? = some y := by rfl) (hx : X.env.scope.names.lookup x = some .local := by rfl) (hy : X.env.scope.names.lookup y = some .local := by rfl)
    (hw : swappedStores [.Tuple [.Name x px, .Name y py] k pt] (.Tuple [a, b] k2 pt2) X.env = pure (some [x, y]) := by rfl)
    (hs : swapsWithSole [.Tuple [.Name x px, .Name y py] k pt] (.Tuple [a, b] k2 pt2) pos.line X.env = pure false := by rfl)
    (h1 : starEach [a, b] X.env = (false, eval a X.env) :: starEach [b] X.env := by rfl) (h2 : starEach [b] X.env = (false, eval b X.env) :: starEach [] X.env := by rfl) :
    F1 X C z (.Assign [.Tuple [.Name x px, .Name y py] k pt] (.Tuple [a, b] k2 pt2) pos) Q :=
  f1_par hc hN hij (fa_mono (arg2 ha hb h1 h2) fun _ _ ⟨e1, e2⟩ => by
    subst e1 e2
    exact ⟨_, _, rfl, q⟩) hi hj hx hy hw hs
/-- .. the first a new list of its own -/
theorem f1_parOV {i j : Nat} {k k2 : Nat} {pt2 : Pos} (hc : X.calm = true) (hN : X.N.Nodup) (hij : i ≠ j) (ha : FL X C z a fun ds z1 => ∀ C', C'.K = C.K → C'.P = C.P → FE X C' z1 b fun d z2 => z2.r = z1.r ∧ noOwnAt z1.r [i, j] = true ∧ Q .nx ⟨(z2.r.set i (.ow ds)).set j (.v d), z2.p⟩)
    (hi : X.N[i]? = some x := by rfl) (hj : X.N[j]? = some y := by rfl) (hx : X.env.scope.names.lookup x = some .local := by rfl) (hy : X.env.scope.names.lookup y = some .local := by rfl)
    (hw : swappedStores [.Tuple [.Name x px, .Name y py] k pt] (.Tuple [a, b] k2 pt2) X.env = pure (some [x, y]) := by rfl)
    (hs : swapsWithSole [.Tuple [.Name x px, .Name y py] k pt] (.Tuple [a, b] k2 pt2) pos.line X.env = pure false := by rfl)
    (h1 : starEach [a, b] X.env = (false, eval a X.env) :: starEach [b] X.env := by rfl) (h2 : starEach [b] X.env = (false, eval b X.env) :: starEach [] X.env := by rfl) :
    F1 X C z (.Assign [.Tuple [.Name x px, .Name y py] k pt] (.Tuple [a, b] k2 pt2) pos) Q := by
  have pb : PE X b (fun σ H R => ∃ C' z1 Qb, FE X C' z1 b Qb ∧ tW C' z1 Qb σ H R) := ⟨fun pins s σ H R I ⟨C', z1, Qb, f, w⟩ => f.run pins s σ H R I w⟩
  refine ps_con (ps_par hc hN hi hj hij hx hy (pa_cons ha (pa_cons pb pa_nil h2) h1) hw hs) ?_
  rintro D σ H ⟨F, S, q⟩
  refine ⟨F, S, fun p vs ds z1 H1 F1 f S1 s1 o r => ?_⟩
  refine ⟨C.with p vs, z1, _, f _ rfl rfl, F1, S1.into o, fun v d z2 H2 F2 ⟨er, hno, q2⟩ S2 s2 rv => ?_⟩
  obtain ⟨r2, p2⟩ := z2
  have er : r2 = z1.r := er
  subst er
  obtain ⟨S3, o3⟩ := S1.back (vs := []) o S2 (fun _ _ => rfl) (fun _ _ => rfl) (by rfl) s2
  exact ⟨.ref p, v, rfl, q .nx _ _ H2 F2 q2 ((S3.setOwn i o3 (dpAll_mono s2 _ _ r)).set j rv) (s1.trans s2)⟩
/-- .. both new lists -/
theorem f1_parOO {i j : Nat} {k k2 : Nat} {pt2 : Pos} (hc : X.calm = true) (hN : X.N.Nodup) (hij : i ≠ j) (ha : FL X C z a fun ds z1 => ∀ C', C'.K = C.K → C'.P = C.P → FL X C' z1 b fun es z2 => z2.r = z1.r ∧ Q .nx ⟨(z2.r.set i (.ow ds)).set j (.ow es), z2.p⟩)
    (hi : X.N[i]? = some x := by rfl) (hj : X.N[j]? = some y := by rfl) (hx : X.env.scope.names.lookup x = some .local := by rfl) (hy : X.env.scope.names.lookup y = some .local := by rfl)
    (hw : swappedStores [.Tuple [.Name x px, .Name y py] k pt] (.Tuple [a, b] k2 pt2) X.env = pure (some [x, y]) := by rfl)
    (hs : swapsWithSole [.Tuple [.Name x px, .Name y py] k pt] (.Tuple [a, b] k2 pt2) pos.line X.env = pure false := by rfl)
    (h1 : starEach [a, b] X.env = (false, eval a X.env) :: starEach [b] X.env := by rfl) (h2 : starEach [b] X.env = (false, eval b X.env) :: starEach [] X.env := by rfl) :
    F1 X C z (.Assign [.Tuple [.Name x px, .Name y py] k pt] (.Tuple [a, b] k2 pt2) pos) Q := by
  have pb : PE X b (fun σ H R => ∃ C' z1 Qb, FL X C' z1 b Qb ∧ tWL C' z1 Qb σ H R) := ⟨fun pins s σ H R I ⟨C', z1, Qb, f, w⟩ => f.run pins s σ H R I w⟩
  refine ps_con (ps_par hc hN hi hj hij hx hy (pa_cons ha (pa_cons pb pa_nil h2) h1) hw hs) ?_
  rintro D σ H ⟨F, S, q⟩
  refine ⟨F, S, fun p vs ds z1 H1 F1 f S1 s1 o r => ?_⟩
  refine ⟨C.with p vs, z1, _, f _ rfl rfl, F1, S1.into o, fun p2 ws es z2 H2 F2 ⟨er, q2⟩ S2 s2 o2 rw2 => ?_⟩
  obtain ⟨r2, pp2⟩ := z2
  have er : r2 = z1.r := er
  subst er
  obtain ⟨S3, o3⟩ := S1.back (vs := []) o S2 (fun _ _ => rfl) (fun _ _ => rfl) (by rfl) s2
  have ne : p2 ≠ p := fun w => by
    subst w
    have h := o2.nh
    have h : upd C.hold p2 (.lst vs) p2 = none := h
    rw [upd_same] at h; cases h
  have o4 : Own C ⟨z1.r, pp2⟩ σ H2 F2 p2 ws := ⟨o2.at_, o2.nf, by
    have h : upd C.hold p (.lst vs) p2 = none := o2.nh
    rw [upd_ne ne] at h; exact h, o2.np, o2.sep⟩
  have S5 := S3.setOwn i o3 (dpAll_mono s2 _ _ r)
  have o5 : Own C ⟨z1.r.set i (.ow ds), pp2⟩ (σ.set i (some (.ref p))) H2 F2 p2 ws := ⟨o4.at_, o4.nf, o4.nh, o4.np, fun l xs e => by
    have e : (z1.r.set i (.ow ds))[l]? = some (.og xs) := e
    by_cases hl : i = l
    · subst hl
      have hlt : i < σ.length := by
        have := (List.getElem?_eq_some_iff.mp e).1
        rw [List.length_set] at this
        rw [← S3.len]; exact this
      rw [List.getElem?_set_self hlt]
      intro w
      cases w
      exact ne rfl
    · rw [List.getElem?_set_ne hl] at e ⊢
      exact o4.sep l xs e⟩
  exact ⟨.ref p, .ref p2, rfl, q .nx _ _ H2 F2 q2 (S5.setOwn j o5 rw2) (s1.trans s2)⟩

/-! ### one's own list changed -/
theorem f1_append {ap pn : Pos} (i : Nat) (hK : C.K = X.K) (hz : ∃ ds, z.r[i]? = some (.ow ds)) (h : FE X C z e fun v z1 => ∃ d ds, v = .d d ∧ z1.r[i]? = some (.ow ds) ∧ ds.length < 100000 ∧ Q .nx ⟨z1.r.set i (.ow (ds ++ [d])), z1.p⟩)
    (hN : X.N[i]? = some x := by rfl)
    (hv : Vis X.env.scope x := by first | exact Or.inl rfl | exact Or.inr (Or.inl rfl) | exact Or.inr (Or.inr rfl))
    (hd : (x == ("__debug__" : Str)) = false := by decide) (hcd : (x == ("__classdict__" : Str)) = false := by decide)
    (hs : starEach [e] X.env = (false, eval e X.env) :: starEach [] X.env := by rfl)
    (hbase : attributeBase (.Name x pn) ("append" : Str) X.env (eval (.Name x pn) X.env) = eval (.Name x pn) X.env := by rfl)
    (hfew : ((backTo p (starEach [e] X.env)).all (fun x => !x.1) && (backToKw p (keywordEach [] X.env)).all (fun x => x.1.isSome)
      && decide ([e].length + ([] : List Keyword).length + (if ([] : List Keyword).isEmpty then 0 else 1) < 30)) = true := by rfl)
    (hline : (ap.endLine == p.line) = true := by rfl) (hplain : (backTo p (starEach [] X.env)).any (·.1) = false := by rfl)
    (hsw : swapsWith (.Call (.Attribute (.Name x pn) ("append" : Str) ap) [e] [] p) none pos.line X.env = pure false := by rfl) : F1 X C z (.Expr (.Call (.Attribute (.Name x pn) ("append" : Str) ap) [e] [] p) pos) Q := by
  refine ps_con (ps_expr (pe_bm PySem.F.plainAttrs_list PySem.F.slot_list_append PySem.F.type_list_append mt_append (pe_var hN hv hd hcd) (pa_cons h pa_nil hs) hbase hfew hline hs hplain) hsw) ?_
  rintro D σ H ⟨F, S, q⟩
  obtain ⟨ds0, hz⟩ := hz
  obtain ⟨a0, vs0, e0, h0, _⟩ := S.own i hz
  refine ⟨.ref a0, e0, Or.inl ⟨rfl, vs0, SqL.of h0⟩, F, S, fun v d z1 H1 F1 ⟨x', ds, ed, hz1, hlen, q1⟩ S1 s1 r => ?_⟩
  subst ed
  obtain ⟨a1, vs, e1, h1, f1, _, _, r1⟩ := S1.own i hz1
  rw [e0] at e1
  cases e1
  refine ⟨a0, vs, v, rfl, rfl, h1, by rw [dpAll_len r1, sizeLine_eq]; omega, ?_⟩
  exact q .nx _ σ _ F1 q1 (S1.mutO hz1 e0 (dpAll_append r1 (.cons r .nil))) s1
/-- extended by a new list -/
theorem f1_extend {ap pn : Pos} (i : Nat) (hK : C.K = X.K) (hz : ∃ ds, z.r[i]? = some (.ow ds)) (h : FL X C z e fun es z1 => ∃ ds, z1.r[i]? = some (.ow ds) ∧ ds.length + es.length ≤ 100000 ∧ Q .nx ⟨z1.r.set i (.ow (ds ++ es)), z1.p⟩)
    (hN : X.N[i]? = some x := by rfl)
    (hv : Vis X.env.scope x := by first | exact Or.inl rfl | exact Or.inr (Or.inl rfl) | exact Or.inr (Or.inr rfl))
    (hd : (x == ("__debug__" : Str)) = false := by decide) (hcd : (x == ("__classdict__" : Str)) = false := by decide)
    (hs : starEach [e] X.env = (false, eval e X.env) :: starEach [] X.env := by rfl)
    (hbase : attributeBase (.Name x pn) ("extend" : Str) X.env (eval (.Name x pn) X.env) = eval (.Name x pn) X.env := by rfl)
    (hfew : ((backTo p (starEach [e] X.env)).all (fun x => !x.1) && (backToKw p (keywordEach [] X.env)).all (fun x => x.1.isSome)
      && decide ([e].length + ([] : List Keyword).length + (if ([] : List Keyword).isEmpty then 0 else 1) < 30)) = true := by rfl)
    (hline : (ap.endLine == p.line) = true := by rfl) (hplain : (backTo p (starEach [] X.env)).any (·.1) = false := by rfl)
    (hsw : swapsWith (.Call (.Attribute (.Name x pn) ("extend" : Str) ap) [e] [] p) none pos.line X.env = pure false := by rfl) : F1 X C z (.Expr (.Call (.Attribute (.Name x pn) ("extend" : Str) ap) [e] [] p) pos) Q := by
  refine ps_con (ps_expr (pe_bm PySem.F.plainAttrs_list PySem.F.slot_list_extend PySem.F.type_list_extend mt_extend (pe_var hN hv hd hcd) (pa_cons h pa_nil hs) hbase hfew hline hs hplain) hsw) ?_
  rintro D σ H ⟨F, S, q⟩
  obtain ⟨ds0, hz⟩ := hz
  obtain ⟨a0, vs0, e0, h0, _⟩ := S.own i hz
  refine ⟨.ref a0, e0, Or.inl ⟨rfl, vs0, SqL.of h0⟩, F, S, fun b ws es z1 H1 F1 ⟨ds, hz1, hlen, q1⟩ S1 s1 o r => ?_⟩
  obtain ⟨a1, vs, e1, h1, f1, _, _, r1⟩ := S1.own i hz1
  rw [e0] at e1
  cases e1
  refine ⟨a0, b, vs, ws, rfl, rfl, h1, o.at_, by rw [dpAll_len r1, dpAll_len r, sizeLine_eq]; omega, ?_⟩
  exact q .nx _ σ _ F1 q1 (S1.mutO hz1 e0 (dpAll_append r1 r)) s1
/-- x.pop(e) -/
theorem fe_pop {ap pn : Pos} {Q : DV → Zs → Prop} (i : Nat) (hK : C.K = X.K) (hz : ∃ ds, z.r[i]? = some (.ow ds))
    (h : FE X C z e fun v z1 => ∃ (j : Int) (n : Nat) (ds : List PyData) (d : PyData), v = .d (.int j) ∧ z1.r[i]? = some (.ow ds) ∧ -(2 ^ 63) ≤ j ∧ j < 2 ^ 63 ∧ seqIndex? j ds.length = some n ∧ ds[n]? = some d ∧ Q (.d d) ⟨z1.r.set i (.ow (ds.eraseIdx n)), z1.p⟩)
    (hN : X.N[i]? = some x := by rfl)
    (hv : Vis X.env.scope x := by first | exact Or.inl rfl | exact Or.inr (Or.inl rfl) | exact Or.inr (Or.inr rfl))
    (hd : (x == ("__debug__" : Str)) = false := by decide) (hcd : (x == ("__classdict__" : Str)) = false := by decide)
    (hs : starEach [e] X.env = (false, eval e X.env) :: starEach [] X.env := by rfl)
    (hbase : attributeBase (.Name x pn) ("pop" : Str) X.env (eval (.Name x pn) X.env) = eval (.Name x pn) X.env := by rfl)
    (hfew : ((backTo p (starEach [e] X.env)).all (fun x => !x.1) && (backToKw p (keywordEach [] X.env)).all (fun x => x.1.isSome)
      && decide ([e].length + ([] : List Keyword).length + (if ([] : List Keyword).isEmpty then 0 else 1) < 30)) = true := by rfl)
    (hline : (ap.endLine == p.line) = true := by rfl) (hplain : (backTo p (starEach [] X.env)).any (·.1) = false := by rfl) : FE X C z (.Call (.Attribute (.Name x pn) ("pop" : Str) ap) [e] [] p) Q := by
  refine pe_con (pe_bm PySem.F.plainAttrs_list PySem.F.slot_list_pop PySem.F.type_list_pop mt_popAt (pe_var hN hv hd hcd) (pa_cons h pa_nil hs) hbase hfew hline hs hplain) ?_
  rintro σ H R ⟨F, S, q⟩
  obtain ⟨ds0, hz⟩ := hz
  obtain ⟨a0, vs0, e0, h0, _⟩ := S.own i hz
  refine ⟨.ref a0, e0, Or.inl ⟨rfl, vs0, SqL.of h0⟩, F, S, fun v d z1 H1 F1 ⟨j, n, ds, d', ed, hz1, g1, g2, hsq, hdn, q1⟩ S1 s1 r => ?_⟩
  subst ed
  obtain ⟨a1, vs, e1, h1, f1, _, _, r1⟩ := S1.own i hz1
  rw [e0] at e1
  cases e1
  obtain ⟨w, ew, rw2⟩ := dpAll_get r1 hdn
  refine ⟨a0, vs, j, n, w, rfl, by rw [dp_int r], h1, g1, g2, by rw [dpAll_len r1]; exact hsq, ew, ?_⟩
  exact q w _ _ _ F1 q1 (S1.mutO hz1 e0 (dpAll_erase n r1)) s1 rw2
/-- x[j] = e -/
theorem f1_setItem {j : Expr} {pn tp : Pos} {d : PyData} {n : Int} {k : Nat} {ds : List PyData} (i : Nat) (hK : C.K = X.K) (hz : z.r[i]? = some (.ow ds)) (h : FP X C z e d) (hj : FP X C z j (.int n)) (hn : ixN ds.length n = some k) (q0 : Q .nx ⟨z.r.set i (.ow (ds.set k d)), z.p⟩)
    (hN : X.N[i]? = some x := by rfl)
    (hv : Vis X.env.scope x := by first | exact Or.inl rfl | exact Or.inr (Or.inl rfl) | exact Or.inr (Or.inr rfl))
    (hd : (x == ("__debug__" : Str)) = false := by decide) (hcd : (x == ("__classdict__" : Str)) = false := by decide)
    (ha : ∀ v, assign (.Subscript (.Name x pn) j tp) X.env v = (do
      let ov ← holding [v] (eval (.Name x pn) X.env)
      let iv ← holding [v, ov] (eval j X.env)
      standAt tp
      holding [v, ov, iv] (setItem ov iv v)
      release [v, ov, iv] []) := by intro _; rfl)
    (hs : swapsWithSole [.Subscript (.Name x pn) j tp] e pos.line X.env = pure false := by rfl) (hw : swappedStores [.Subscript (.Name x pn) j tp] e X.env = pure none := by rfl)
    (h1 : (assignEach [.Subscript (.Name x pn) j tp] X.env).map (·.2) = [assign (.Subscript (.Name x pn) j tp) X.env] := by rfl) : F1 X C z (.Assign [.Subscript (.Name x pn) j tp] e pos) Q := by
  refine ps_con (ps_asg h (pg_sub (pe_var hN hv hd hcd) hj set_list ha) hs hw h1) ?_
  rintro D σ H ⟨F, S, q⟩
  refine ⟨F, S, fun v d' z1 H1 F1 ⟨e1, e2⟩ S1 s1 r => ?_⟩
  subst e1 e2
  obtain ⟨a0, vs0, e0, h0, _⟩ := S1.own i hz
  refine ⟨.ref a0, e0, F1, S1, fun u d2 z2 H2 F2 ⟨e1, e2⟩ S2 s2 r2 => ?_⟩
  subst e1 e2
  obtain ⟨a1, vs, e1, g1, f1, _, _, r1⟩ := S2.own i hz
  rw [e0] at e1
  cases e1
  refine ⟨a0, vs, n, k, rfl, dp_int r2, g1, by rw [dpAll_len r1]; exact hn, ?_⟩
  exact q .nx _ σ _ F2 q0 (S2.mutO hz e0 (dpAll_set (dp_mono s2 _ _ r) k r1)) (s1.trans s2)

/-! ### loops -/
theorem f1_for {tg iter : Expr} (vs : List Nat) (hp : PassesOwn (model X.prog X.w) X.A X.env X.xe) (hc : X.calm = true)
    (hi : FI X C z tg iter fun ds z1 => ∃ I : Nat → Zs → Prop, I 0 z1 ∧
      (∀ i d z2, ds[i]? = some d → I i z2 → FG X C vs z2 tg d fun z3 => FS X C z3 body fun o z4 => match o with
        | .nx => I (i + 1) z4
        | .ct => I (i + 1) z4
        | .bk => Q .nx z4
        | .rt d => Q (.rt d) z4) ∧
      ∀ z2, I ds.length z2 → Q .nx z2)
    (hs : ∀ x, foldedSetIterable iter X.env x = pure x := by intro _; rfl) : F1 X C z (.For tg iter body [] pos) Q := by
  have pg : PG X tg (fun v σ H R => ∃ z1 d Qg, FG X C vs z1 tg d Qg ∧ tWG C vs z1 d Qg v σ H R) := ⟨fun pins s σ H v u R I r ⟨z1, d, Qg, f, w⟩ => f.run pins s σ H v u R I r w⟩
  have pb : PSs X body (fun D σ H => ∃ z1 Qb, FS X C z1 body Qb ∧ tWS C z1 Qb D σ H) := ⟨fun pins s σ H D I ⟨z1, Qb, f, w⟩ => f.run pins s σ H D I w⟩
  refine ps_con (ps_for hp hc hi pg pb hs) ?_
  rintro D σ H ⟨F, S, q⟩
  refine ⟨F, S, fun J ds z1 H1 F1 ⟨I, I0, turn, fin⟩ S1 s1 itok => ?_⟩
  refine ⟨fun i m σ2 H2 => m = ds.length - i ∧ i ≤ ds.length ∧ ∃ z2 F2, I i z2 ∧ Sim C z2 σ2 H2 F2 ∧ Sub F1 F2, ⟨ds.length, by simp, Nat.zero_le _, z1, F1, I0, S1, Sub.refl _⟩, ?_⟩
  rintro i m σ2 H2 ⟨rfl, hi2, z2, F2, hI, S2, s2⟩
  by_cases hlt : i < ds.length
  · refine .inr ⟨itok.go i H2 (s2.trans S2.sub) hlt, fun σ3 H3 => i + 1 ≤ ds.length ∧ ∃ z2 F2, I (i + 1) z2 ∧ Sim C z2 σ3 H3 F2 ∧ Sub F1 F2, fun σ3 H3 ⟨h1, h2⟩ => ⟨ds.length - (i + 1), by omega, rfl, h1, h2⟩, fun x H3 y => ?_⟩
    obtain ⟨d, F3, ed, gr, rd⟩ := itok.yld i H2 F2 x H3 s2 S2.sub y hlt
    refine ⟨z2, d, _, turn i d z2 ed hI, F3, S2.grow gr, rd, fun z3 σ3 f3 S3 _ => ?_⟩
    refine ⟨z3, _, f3, F3, S3, fun o z4 σ4 H4 F4 q4 S4 s4 => ?_⟩
    cases o with
    | nx => exact ⟨hlt, z4, F4, q4, S4, (s2.trans gr.f).trans s4⟩
    | ct => exact ⟨hlt, z4, F4, q4, S4, (s2.trans gr.f).trans s4⟩
    | bk => exact q .nx z4 σ4 H4 F4 q4 S4 (((s1.trans s2).trans gr.f).trans s4)
    | rt d => exact q (.rt d) z4 σ4 H4 F4 q4 S4 (((s1.trans s2).trans gr.f).trans s4)
  · have e : i = ds.length := by omega
    subst e
    exact .inl ⟨itok.stop H2 (s2.trans S2.sub), q .nx z2 σ2 H2 F2 (fin z2 hI) S2 (s1.trans s2)⟩
theorem f1_while (I : Nat → Zs → Prop) (hp : PassesOwn (model X.prog X.w) X.A X.env X.xe) (n0 : Nat) (h0 : I n0 z)
    (turn : ∀ n z2, I n z2 → FT X C z2 c fun k z3 => (k = true → FS X C z3 body fun o z4 => match o with
        | .nx => ∃ m, m < n ∧ I m z4
        | .ct => ∃ m, m < n ∧ I m z4
        | .bk => Q .nx z4
        | .rt d => Q (.rt d) z4) ∧ (k = false → Q .nx z3)) : F1 X C z (.While c body [] pos) Q := by
  have pc : PT X c (fun σ H R => ∃ z1 Qc, FT X C z1 c Qc ∧ tWT C z1 Qc σ H R) := ⟨fun pins s σ H R I ⟨z1, Qc, f, w⟩ => f.run pins s σ H R I w⟩
  have pb : PSs X body (fun D σ H => ∃ z1 Qb, FS X C z1 body Qb ∧ tWS C z1 Qb D σ H) := ⟨fun pins s σ H D I ⟨z1, Qb, f, w⟩ => f.run pins s σ H D I w⟩
  refine ps_con (ps_while hp pc pb) ?_
  rintro D σ H ⟨F, S, q⟩
  refine ⟨fun m σ2 H2 => ∃ z2 F2, I m z2 ∧ Sim C z2 σ2 H2 F2 ∧ Sub F F2, ⟨n0, z, F, h0, S, Sub.refl _⟩, ?_⟩
  rintro m σ2 H2 ⟨z2, F2, hI, S2, s2⟩
  refine ⟨z2, _, turn m z2 hI, F2, S2, fun k z3 H3 F3 ⟨q1, q2⟩ S3 s3 => ?_⟩
  cases k with
  | true =>
    rw [if_pos rfl]
    refine ⟨fun σ3 H3 => ∃ m', m' < m ∧ ∃ z2 F2, I m' z2 ∧ Sim C z2 σ3 H3 F2 ∧ Sub F F2, fun σ3 H3 h => h, z3, _, q1 rfl, F3, S3, fun o z4 σ4 H4 F4 q4 S4 s4 => ?_⟩
    cases o with
    | nx =>
      obtain ⟨m', hm, hI'⟩ := q4
      exact ⟨m', hm, z4, F4, hI', S4, (s2.trans s3).trans s4⟩
    | ct =>
      obtain ⟨m', hm, hI'⟩ := q4
      exact ⟨m', hm, z4, F4, hI', S4, (s2.trans s3).trans s4⟩
    | bk => exact q .nx z4 σ4 H4 F4 q4 S4 ((s2.trans s3).trans s4)
    | rt d => exact q (.rt d) z4 σ4 H4 F4 q4 S4 ((s2.trans s3).trans s4)
  | false =>
    rw [if_neg Bool.false_ne_true]
    exact q .nx z3 σ2 H3 F3 (q2 rfl) S3 (s2.trans s3)
end

/-! ### a def keeps its promise -/
theorem ok_defC {P : Program} {w : World} {K : PySem.W.Frag} {mg : Str → Option Value} {base : Heap} {x qual : Str} {st : Stmt} {f : Addr} {fd : FuncData} {N ps : List Str} {k : Nat} {W : WF} (F : Fun K x qual st f fd) (S : FnScope N ps (defScope st))
    (len : ∀ ds π q, W ds π q → ds.length = ps.length)
    (hbody : ∀ (cdv : Value) (A : Around) (outer : List Env) (s : Shared) (H : Hp) (E : XK) (ds : List DV) (π : Pot) (q : DV → Pot → Prop) (C : Ct), fd.code = cdv → Room k (A.deeper (envOfC qual (defScope st) s.heap.objs.size f cdv)) → C.K = K → W ds π q →
      FS (cxOf CX0 P w K mg base N qual (defScope st) f cdv A outer s H E).nox C ⟨ds.map Sl.v ++ List.replicate (N.length - ds.length) .un, π⟩ (defBody st) fun o z' => match o with
        | .rt d => q d z'.p
        | .nx => q (.d .none) z'.p
        | _ => False) : FnOk P w K mg base CX0 (k + 1) f fd ps (SpD K W) := by
  have plen : ∀ {K : PySem.W.Frag} {P : Option Addr} {F : Hp} {vs : List V} {ds : List DV}, Paired (RV K P F) vs ds → vs.length = ds.length := fun h => Paired.length h
  obtain ⟨coc, cod, ckV, cdoc, cpm, can, cdv, cct, cosl, ecode, clk, chd⟩ := F.ex
  have ecd : fd.code = cdv := by rw [ecode]
  subst ecode
  refine fn_of clk chd S (fun vs H Q E h => ?_) fun A outer s H vs Q E hr h => ?_
  · obtain ⟨P, F, π, ds, q, hw, _, hp, _⟩ := h
    rw [plen hp]; exact len ds π q hw
  · obtain ⟨Pt, F0, π, ds, q, hw, sF, hp, po, tb, fin⟩ := h
    have hold : ∃ hold : Hp, (∀ a o, hold a = some o → H a = some o) ∧ (∀ a, Pt = some a → hold a = none) ∧ (∀ a o, H a = some o → Pt ≠ some a → (∀ ps, o ≠ .tbl ps) → hold a = some o) ∧ (∀ a ps, hold a ≠ some (.tbl ps)) ∧ (∀ a ps, H a = some (.tbl ps) → hold a = none) := by
      classical
      refine ⟨fun a => if Pt = some a ∨ ∃ ps, H a = some (.tbl ps) then none else H a, fun a o e => ?_, fun a e => ?_, fun a o e ne nt => ?_, fun a ps e => ?_, fun a ps e => if_pos (.inr ⟨ps, e⟩)⟩
      · dsimp only at e
        split at e
        · cases e
        · exact e
      · dsimp only; rw [if_pos (.inl e)]
      · dsimp only; rw [if_neg (fun q => Or.elim q ne fun ⟨ps, z⟩ => nt ps (by rw [e] at z; exact Option.some.inj z))]; exact e
      · dsimp only at e
        split at e
        · cases e
        · rename_i n; exact n (.inr ⟨ps, e⟩)
    obtain ⟨hold, hh1, hh2, hh3, hh4, hh6⟩ := hold
    have hh5 : ∀ p ∈ tabs, hold p.1 = none := fun p hp => by
      obtain ⟨ps, t1, _⟩ := (tb.t p hp).1
      exact hh6 p.1 ps t1
    have hb := hbody cdv A outer s H E ds π q ⟨K, Pt, hold, F0⟩ ecd hr rfl hw
    refine ⟨_, hb.nox, F0, ?_, ?_⟩
    · refine ⟨sF, Sub.refl _, hh1, fun a o e => .inl e, fun i sl e => ?_, fun i j xs ys a _ e1 => ?_, fun p e => ⟨(po p e).1, (po p e).2, hh2 p e⟩, ?_, fun p e => ⟨(tb.t p e).1, (tb.t p e).2, hh5 p e⟩, tb.f, hh4⟩
      · have e : (ds.map Sl.v ++ List.replicate (N.length - ds.length) Sl.un)[i]? = some sl := e
        by_cases hi : i < ds.length
        · rw [List.getElem?_append_left (by rw [List.length_map]; exact hi), List.getElem?_map, List.getElem?_eq_getElem hi] at e
          cases e
          have hvi : i < vs.length := by rw [plen hp]; exact hi
          have r : RV K Pt F0 vs[i] ds[i] := by
            have all : ∀ {vs : List V} {ds : List DV}, Paired (RV K Pt F0) vs ds → ∀ (i : Nat) (h1 : i < vs.length) (h2 : i < ds.length), RV K Pt F0 vs[i] ds[i] := by
              intro vs ds h
              induction h with
              | nil => intro i h1; simp at h1
              | cons r t ih =>
                intro i h1 h2
                cases i with
                | zero => exact r
                | succ i => exact ih i (by simpa using h1) (by simpa using h2)
            exact all hp i hvi hi
          refine ⟨vs[i], ?_, r⟩
          unfold L2.start
          rw [List.getElem?_append_left (by rw [List.length_map]; exact hvi), List.getElem?_map, List.getElem?_eq_getElem hvi]
          rfl
        · rw [List.getElem?_append_right (by rw [List.length_map]; omega), List.getElem?_replicate] at e
          split at e
          · cases e; trivial
          · cases e
      · have e1 : (ds.map Sl.v ++ List.replicate (N.length - ds.length) Sl.un)[i]? = some (.og xs) := e1
        have := List.mem_of_getElem? e1
        rcases List.mem_append.mp this with m | m
        · obtain ⟨y, _, ey⟩ := List.mem_map.mp m
          cases ey
        · have := List.eq_of_mem_replicate m
          cases this
      · show (ds.map Sl.v ++ List.replicate (N.length - ds.length) Sl.un).length = (L2.start N vs).length
        unfold L2.start
        simp only [List.length_append, List.length_map, List.length_replicate, plen hp]
    · intro o z' σ' H' F' qo S' s'
      have keep : ∀ a o, H a = some o → Pt ≠ some a → (∀ ps, o ≠ .tbl ps) → H' a = some o := fun a o e ne nt => S'.keep a o (hh3 a o e ne nt)
      have fresh : ∀ a o, F' a = some o → F0 a = some o ∨ H a = none ∨ ∃ ps, H a = some (.tbl ps) := fun a o e => by
        rcases S'.fresh a o e with g | g
        · exact .inl g
        · rcases none_or (H := H) (a := a) with g2 | ⟨u, g2⟩
          · exact .inr (.inl g2)
          · by_cases ne : Pt = some a
            · have := (S'.pot a ne).2.1
              rw [e] at this; cases this
            · by_cases nt : ∃ ps, u = .tbl ps
              · obtain ⟨ps, ep⟩ := nt
                exact .inr (.inr ⟨ps, by rw [← ep]; exact g2⟩)
              have := hh3 a u g2 ne (fun ps q => nt ⟨ps, q⟩)
              have g : hold a = none := g
              rw [this] at g; cases g
      have pot : PotOk Pt z'.p H' F' := fun p e => ⟨(S'.pot p e).1, (S'.pot p e).2.1⟩
      have tb' : TabOk H' F' := ⟨fun p e => ⟨(S'.tab p e).1, (S'.tab p e).2.1⟩, S'.ft⟩
      cases o with
      | nx => exact fin .non (.d .none) z'.p H' F' qo s' S'.sub keep fresh pot tb' .non
      | rt d => exact fun v r => fin v d z'.p H' F' qo s' S'.sub keep fresh pot tb' r
      | bk => exact qo.elim
      | ct => exact qo.elim
theorem ok_def {P : Program} {w : World} {K : PySem.W.Frag} {mg : Str → Option Value} {base : Heap} {x qual : Str} {st : Stmt} {f : Addr} {fd : FuncData} {N ps : List Str} {k : Nat} {W : WF} (F : Fun K x qual st f fd) (S : FnScope N ps (defScope st))
    (len : ∀ ds π q, W ds π q → ds.length = ps.length)
    (hbody : ∀ (cdv : Value) (A : Around) (outer : List Env) (s : Shared) (H : Hp) (E : XK) (ds : List DV) (π : Pot) (q : DV → Pot → Prop) (C : Ct), Room k (A.deeper (envOfC qual (defScope st) s.heap.objs.size f cdv)) → C.K = K → W ds π q →
      FS (cxOf CX0 P w K mg base N qual (defScope st) f cdv A outer s H E).nox C ⟨ds.map Sl.v ++ List.replicate (N.length - ds.length) .un, π⟩ (defBody st) fun o z' => match o with
        | .rt d => q d z'.p
        | .nx => q (.d .none) z'.p
        | _ => False) : FnOk P w K mg base CX0 (k + 1) f fd ps (SpD K W) := ok_defC F S len fun cdv A outer s H E ds π q C _ hr hK h => hbody cdv A outer s H E ds π q C hr hK h
end DL

set_option Elab.async false
set_option linter.all false
set_option maxRecDepth 100000
set_option maxHeartbeats 4000000
set_option autoImplicit false
namespace DL
open PySem PySem.Spec PyProof.Rows L2
section
variable {X : Cx} {C : Ct} {z : Zs} {e a b c : Expr} {es : List Expr} {pos p : Pos}
theorem fp_chain {op op' : CmpOp} {r r' : R2} {x y w : PyData} {k1 k2 : Bool} (ho : OpR X (compareOp op) r) (ho' : OpR X (compareOp op') r') (ha : FP X C z a x) (hb : FP X C z b y) (hc : k1 = true → FP X C z c w)
    (g : ∀ k : DV → Prop, k (.d (.bool k1)) → G2 C r (.d x) (.d y) k) (g' : k1 = true → ∀ k : DV → Prop, k (.d (.bool k2)) → G2 C r' (.d y) (.d w) k) (hm : lastMarks [op, op'] [b, c] = false) :
    FP X C z (.Compare a [op, op'] [b, c] pos) (.bool (k1 && k2)) := by
  have pc : PE X c (fun σ H R => k1 = true ∧ tW C z (fun d' z' => d' = .d w ∧ z' = z) σ H R) := ⟨fun pins s σ H R I ⟨h, q⟩ => (hc h).run pins s σ H R I q⟩
  refine pe_con (pe_chain ho ho' ha hb pc hm) ?_
  rintro σ H R ⟨F, S, k⟩
  refine ⟨F, S, fun v d z' H1 F1 ⟨e1, e2⟩ S1 s1 r1 => ?_⟩
  subst e1 e2
  refine ⟨F1, S1, fun u d2 z2 H2 F2 ⟨e1, e2⟩ S2 s2 r2 => ?_⟩
  subst e1 e2
  refine g (fun d => d = .d (.bool k1)) rfl F2 H2 v u _ S2.sub (r1.mono s2) r2 fun t d H3 F3 ek gr r3 => ?_
  subst ek
  refine ⟨k1, dp_bool r3, ?_⟩
  cases k1 with
  | false =>
    rw [if_neg Bool.false_ne_true]
    exact k _ _ _ H3 F3 ⟨rfl, rfl⟩ (S2.grow gr) ((s1.trans s2).trans gr.f) (.bl _)
  | true =>
    rw [if_pos rfl]
    refine ⟨rfl, F3, S2.grow gr, fun w' d3 z3 H4 F4 ⟨e1, e2⟩ S4 s4 r4 => ?_⟩
    subst e1 e2
    refine g' rfl (fun d => d = .d (.bool k2)) rfl F4 H4 u w' _ S4.sub ((r2.mono gr.f).mono s4) r4 fun t2 d4 H5 F5 ek gr2 r5 => ?_
    subst ek
    exact k t2 _ _ H5 F5 ⟨rfl, rfl⟩ (S4.grow gr2) ((((s1.trans s2).trans gr.f).trans s4).trans gr2.f) r5
theorem fp_leLe {i j k : Int} (ha : FP X C z a (.int i)) (hb : FP X C z b (.int j)) (hc : FP X C z c (.int k)) (hm : lastMarks [.LtE, .LtE] [b, c] = false := by with_unfolding_all rfl) : FP X C z (.Compare a [.LtE, .LtE] [b, c] pos) (.bool (decide (i ≤ j) && decide (j ≤ k))) :=
  fp_chain op_le op_le ha hb (fun _ => hc) (fun _ h => g2_B0 (gg := fun i j => decide (i ≤ j)) h) (fun _ _ h => g2_B0 (gg := fun i j => decide (i ≤ j)) h) hm
theorem fp_eqEq {i j k : Int} (ha : FP X C z a (.int i)) (hb : FP X C z b (.int j)) (hc : FP X C z c (.int k)) (hm : lastMarks [.Eq, .Eq] [b, c] = false := by with_unfolding_all rfl) : FP X C z (.Compare a [.Eq, .Eq] [b, c] pos) (.bool (decide (i = j) && decide (j = k))) :=
  fp_chain op_eq op_eq ha hb (fun _ => hc) (fun _ h => g2_eqI h) (fun _ _ h => g2_eqI h) hm
/-- a def of the module, with what it promises -/
def HasDef (P : Program) (w : World) (K : PySem.W.Frag) (mg : Str → Option Value) (base : Heap) (x : Str) (k : Nat) (ps : List Str) (W : WF) : Prop :=
  ∃ (f : Addr) (fd : FuncData), FnOk P w K mg base CX0 k f fd ps (SpD K W) ∧ mg x = some (.ref f) ∧ PySem.W.keepIn K (.ref f) = true ∧ Binds K fd ps []
theorem fe_def {k n : Nat} {ps : List Str} {x : Str} {W : WF} {Q : DV → Zs → Prop} (D : HasDef X.prog X.w X.K X.mg X.base x k ps W) (hr : Room n X.A) (hn : k ≤ n) (hK : C.K = X.K)
    (ha : FA X C z (a :: es) fun ds z1 => W ds z1.p fun d π' => Q d ⟨z1.r, π'⟩) (hg : Gl X x := by rfl) (hdb : (x == ("__debug__" : Str)) = false := by decide)
    (he : starEach (a :: es) X.env = (false, eval a X.env) :: starEach es X.env := by rfl) (hpl : (backTo pos (starEach es X.env)).any (·.1) = false := by rfl) : FE X C z (.Call (.Name x p) (a :: es) [] pos) Q := by
  obtain ⟨f, fd, ok, hm, hk, hb⟩ := D
  exact fe_call ok (hr.mono hn) hK hm hk hb ha hg hdb he hpl
theorem fp_def {k n : Nat} {ps : List Str} {x : Str} {W : WF} {ds : List PyData} {d : PyData} (D : HasDef X.prog X.w X.K X.mg X.base x k ps W) (hr : Room n X.A) (hn : k ≤ n) (hK : C.K = X.K)
    (ha : FPA X C z (a :: es) ds) (hw : ∀ (π : Pot) (q : DV → Pot → Prop), q (.d d) π → W (ds.map .d) π q) (hg : Gl X x := by rfl) (hdb : (x == ("__debug__" : Str)) = false := by decide)
    (he : starEach (a :: es) X.env = (false, eval a X.env) :: starEach es X.env := by rfl) (hpl : (backTo pos (starEach es X.env)).any (·.1) = false := by rfl) : FP X C z (.Call (.Name x p) (a :: es) [] pos) d := by
  obtain ⟨f, fd, ok, hm, hk, hb⟩ := D
  exact fp_call ok (hr.mono hn) hK hm hk hb ha hw hg hdb he hpl
end
/-- the statement at a place of a text's top -/
def topOf (P : Program) (i : Nat) : Stmt := P.main.body.getD i (.Pass ⟨0, 0, 0, 0⟩)
end DL

set_option Elab.async false
set_option linter.all false
set_option maxRecDepth 100000
set_option maxHeartbeats 4000000
set_option autoImplicit false
namespace DL
open PySem PySem.Spec PyProof.Rows L2

def Outside (vs : List Nat) (r r' : List Sl) : Prop := ∀ i, i ∉ vs → r'[i]? = r[i]?
theorem Outside.wipe (r : List Sl) (vs : List Nat) : Outside vs r (wipeR r vs) := fun i hi => wipeR_out r vs i hi
theorem Outside.set {vs : List Nat} {r r' : List Sl} (h : Outside vs r r') {i : Nat} (hi : i ∈ vs) (s : Sl) : Outside vs r (r'.set i s) := fun j hj => by
  rw [List.getElem?_set_ne (fun e => hj (by rw [← e]; exact hi))]
  exact h j hj
theorem wipeR_len (r : List Sl) : ∀ vs : List Nat, (wipeR r vs).length = r.length
  | [] => rfl
  | v :: vs => by
    unfold wipeR
    rw [List.length_set]
    exact wipeR_len r vs

section
variable {X : Cx} {C : Ct} {z : Zs} {elt iter : Expr} {scope : Scope} {pos pp p1 p2 p : Pos} {nm n1 n2 : Str} {kk : Nat}
theorem lcq_mono {vs : List Nat} {tg : Expr} {ifs : List Expr} {Q Q' : List PyData → Zs → Prop} (h : FI X C z tg iter (LcQ X C scope vs tg elt ifs Q)) (k : ∀ ds z', Q ds z' → Q' ds z') : FI X C z tg iter (LcQ X C scope vs tg elt ifs Q') :=
  fi_mono h fun ds z1 ⟨h1, J, h2, h3, h4⟩ => ⟨h1, J, h2, h3, fun acc p hJ => k _ _ (h4 acc p hJ)⟩
/-- [elt for nm in iter] -/
theorem lcp_mapN {α : Type} (i : Nat) (xs : List α) (enc : α → PyData) (gf : α → PyData) (hN : X.N.Nodup) (hi : FIP X C z (.Name nm pp) iter (xs.map enc)) (hlen : xs.length ≤ 100000) (hno : noOwnAt z.r [i] = true)
    (turn : ∀ x, x ∈ xs → ∀ (s : Shared) (H : Hp) (cc : Addr) (cl : List (Str × Addr)) (fp : List Addr) (C' : Ct), C'.K = C.K → C'.P = C.P → FP (blkX X scope s H cc cl fp) C' ⟨(wipeR z.r [i]).set i (sd (enc x)), z.p⟩ elt (gf x))
    (hx : X.N[i]? = some nm := by rfl) (hl : Loc (relS scope X.env.scope) nm := by first | exact .inl rfl | exact .inr rfl)
    (hf : (scope.names.lookup nm == some .cell) = true ∨ (relS scope X.env.scope).names.lookup nm = some .local := by first | exact .inr rfl | exact .inl rfl) :
    FI X C z (.Name nm pp) iter (LcQ X C scope [i] (.Name nm pp) elt [] fun ds' z' => ds' = xs.map gf ∧ z' = z) :=
  lcp_map xs enc gf hi hlen hno fun x hmem s H cc cl fp C' hk hp => fg_name i hN hx hl ⟨(Outside.wipe z.r [i]).set (by simp) _, rfl, fun s H cc cl fp => turn x hmem s H cc cl fp C' hk hp⟩ (by simp) hf
/-- [elt for nm in iter if test] -/
theorem lcp_ifN {α : Type} {test : Expr} (i : Nat) (xs : List α) (enc : α → PyData) (pf : α → Bool) (gf : α → PyData) (hN : X.N.Nodup) (hi : FIP X C z (.Name nm pp) iter (xs.map enc)) (hlen : xs.length ≤ 100000) (hno : noOwnAt z.r [i] = true)
    (turn : ∀ x, x ∈ xs → ∀ (s : Shared) (H : Hp) (cc : Addr) (cl : List (Str × Addr)) (fp : List Addr) (C' : Ct), C'.K = C.K → C'.P = C.P →
      FPT (blkX X scope s H cc cl fp) C' ⟨(wipeR z.r [i]).set i (sd (enc x)), z.p⟩ test (pf x) ∧ (pf x = true → FP (blkX X scope s H cc cl fp) C' ⟨(wipeR z.r [i]).set i (sd (enc x)), z.p⟩ elt (gf x)))
    (hx : X.N[i]? = some nm := by rfl) (hl : Loc (relS scope X.env.scope) nm := by first | exact .inl rfl | exact .inr rfl)
    (hf : (scope.names.lookup nm == some .cell) = true ∨ (relS scope X.env.scope).names.lookup nm = some .local := by first | exact .inr rfl | exact .inl rfl) :
    FI X C z (.Name nm pp) iter (LcQ X C scope [i] (.Name nm pp) elt [test] fun ds' z' => ds' = (xs.filter pf).map gf ∧ z' = z) :=
  lcp_if xs enc pf gf hi hlen hno fun x hmem s H cc cl fp C' hk hp => fg_name i hN hx hl ⟨(Outside.wipe z.r [i]).set (by simp) _, rfl, fun s H cc cl fp => turn x hmem s H cc cl fp C' hk hp⟩ (by simp) hf
/-- [elt for n1, n2 in iter] -/
theorem lcp_mapT {α : Type} (i j : Nat) (xs : List α) (e1 e2 : α → PyData) (gf : α → PyData) (hc : X.calm = true) (hK : C.K = X.K) (hN : X.N.Nodup) (hi : FIP X C z (.Tuple [.Name n1 p1, .Name n2 p2] kk pp) iter (xs.map fun x => .tuple [e1 x, e2 x])) (hlen : xs.length ≤ 100000) (hno : noOwnAt z.r [i, j] = true)
    (turn : ∀ x, x ∈ xs → ∀ (s : Shared) (H : Hp) (cc : Addr) (cl : List (Str × Addr)) (fp : List Addr) (C' : Ct), C'.K = C.K → C'.P = C.P → FP (blkX X scope s H cc cl fp) C' ⟨((wipeR z.r [i, j]).set i (sd (e1 x))).set j (sd (e2 x)), z.p⟩ elt (gf x))
    (hx : X.N[i]? = some n1 := by rfl) (hl : Loc (relS scope X.env.scope) n1 := by first | exact .inl rfl | exact .inr rfl)
    (hf : (scope.names.lookup n1 == some .cell) = true ∨ (relS scope X.env.scope).names.lookup n1 = some .local := by first | exact .inr rfl | exact .inl rfl)
    (hx2 : X.N[j]? = some n2 := by rfl) (hl2 : Loc (relS scope X.env.scope) n2 := by first | exact .inl rfl | exact .inr rfl)
    (hf2 : (scope.names.lookup n2 == some .cell) = true ∨ (relS scope X.env.scope).names.lookup n2 = some .local := by first | exact .inr rfl | exact .inl rfl) :
    FI X C z (.Tuple [.Name n1 p1, .Name n2 p2] kk pp) iter (LcQ X C scope [i, j] (.Tuple [.Name n1 p1, .Name n2 p2] kk pp) elt [] fun ds' z' => ds' = xs.map gf ∧ z' = z) :=
  lcp_map xs (fun x => .tuple [e1 x, e2 x]) gf hi hlen hno fun x hmem s H cc cl fp C' hk hp => fg_tup hc (hk.trans hK) (fgs_cons (fg_name i hN hx hl (fgs_cons (fg_name j hN hx2 hl2 (fgs_nil ⟨((Outside.wipe z.r [i, j]).set (by simp) _).set (by simp) _, rfl, fun s H cc cl fp => turn x hmem s H cc cl fp C' hk hp⟩) (by simp) hf2)) (by simp) hf)) rfl rfl
theorem lcp_ifT {α : Type} {test : Expr} (i j : Nat) (xs : List α) (e1 e2 : α → PyData) (pf : α → Bool) (gf : α → PyData) (hc : X.calm = true) (hK : C.K = X.K) (hN : X.N.Nodup) (hi : FIP X C z (.Tuple [.Name n1 p1, .Name n2 p2] kk pp) iter (xs.map fun x => .tuple [e1 x, e2 x])) (hlen : xs.length ≤ 100000) (hno : noOwnAt z.r [i, j] = true)
    (turn : ∀ x, x ∈ xs → ∀ (s : Shared) (H : Hp) (cc : Addr) (cl : List (Str × Addr)) (fp : List Addr) (C' : Ct), C'.K = C.K → C'.P = C.P →
      FPT (blkX X scope s H cc cl fp) C' ⟨((wipeR z.r [i, j]).set i (sd (e1 x))).set j (sd (e2 x)), z.p⟩ test (pf x) ∧ (pf x = true → FP (blkX X scope s H cc cl fp) C' ⟨((wipeR z.r [i, j]).set i (sd (e1 x))).set j (sd (e2 x)), z.p⟩ elt (gf x)))
    (hx : X.N[i]? = some n1 := by rfl) (hl : Loc (relS scope X.env.scope) n1 := by first | exact .inl rfl | exact .inr rfl)
    (hf : (scope.names.lookup n1 == some .cell) = true ∨ (relS scope X.env.scope).names.lookup n1 = some .local := by first | exact .inr rfl | exact .inl rfl)
    (hx2 : X.N[j]? = some n2 := by rfl) (hl2 : Loc (relS scope X.env.scope) n2 := by first | exact .inl rfl | exact .inr rfl)
    (hf2 : (scope.names.lookup n2 == some .cell) = true ∨ (relS scope X.env.scope).names.lookup n2 = some .local := by first | exact .inr rfl | exact .inl rfl) :
    FI X C z (.Tuple [.Name n1 p1, .Name n2 p2] kk pp) iter (LcQ X C scope [i, j] (.Tuple [.Name n1 p1, .Name n2 p2] kk pp) elt [test] fun ds' z' => ds' = (xs.filter pf).map gf ∧ z' = z) :=
  lcp_if xs (fun x => .tuple [e1 x, e2 x]) pf gf hi hlen hno fun x hmem s H cc cl fp C' hk hp => fg_tup hc (hk.trans hK) (fgs_cons (fg_name i hN hx hl (fgs_cons (fg_name j hN hx2 hl2 (fgs_nil ⟨((Outside.wipe z.r [i, j]).set (by simp) _).set (by simp) _, rfl, fun s H cc cl fp => turn x hmem s H cc cl fp C' hk hp⟩) (by simp) hf2)) (by simp) hf)) rfl rfl
/-- a comprehension as a value, a new list, or kept at a name -/
theorem flp_of {own : List (Str × Nat)} {tg : Expr} {ifs : List Expr} {ds : List PyData} (hc : X.calm = true) (hN : X.N.Nodup) (ok : BlkOk X.N X.env.scope scope own)
    (hi : FI X C z tg iter (LcQ X C scope (own.map (·.2)) tg elt ifs fun ds' z' => ds' = ds ∧ z' = z)) (hs : ∀ x, foldedSetIterable iter X.env x = pure x := by intro _; rfl) : FLP X C z (.ListComp elt [⟨tg, iter, ifs, 0⟩] scope pos) ds := fl_lc hc hN ok hi hs
theorem fp_of {own : List (Str × Nat)} {tg : Expr} {ifs : List Expr} {ds : List PyData} (hc : X.calm = true) (hN : X.N.Nodup) (ok : BlkOk X.N X.env.scope scope own)
    (hi : FI X C z tg iter (LcQ X C scope (own.map (·.2)) tg elt ifs fun ds' z' => ds' = ds ∧ z' = z)) (hs : ∀ x, foldedSetIterable iter X.env x = pure x := by intro _; rfl) : FP X C z (.ListComp elt [⟨tg, iter, ifs, 0⟩] scope pos) (.list ds) := fp_fl (flp_of hc hN ok hi hs)
theorem f1_setLcP {x : Str} {own : List (Str × Nat)} {tg : Expr} {ifs : List Expr} {lp px : Pos} {ds : List PyData} {Q : Out → Zs → Prop} (i : Nat) (hc : X.calm = true) (hN : X.N.Nodup) (ok : BlkOk X.N X.env.scope scope own)
    (hi : FI X C z tg iter (LcQ X C scope (own.map (·.2)) tg elt ifs fun ds' z' => ds' = ds ∧ z' = z)) (k : Q .nx ⟨z.r.set i (sd (.list ds)), z.p⟩)
    (hx : X.N[i]? = some x := by rfl) (hy : X.env.scope.names.lookup x = some .local := by rfl)
    (hsw : swapsWith (.ListComp elt [⟨tg, iter, ifs, 0⟩] scope lp) (some (.Name x px)) pos.line X.env = pure true := by exact sw_true rfl rfl rfl (by decide +kernel))
    (hs : ∀ x, foldedSetIterable iter X.env x = pure x := by intro _; rfl) : F1 X C z (.Assign [.Name x px] (.ListComp elt [⟨tg, iter, ifs, 0⟩] scope lp) pos) Q :=
  f1_setLc i hc hN ok (lcq_mono hi fun ds' z' ⟨e1, e2⟩ => by
    subst e1 e2
    exact k) hx hy hsw hs
end

/-! ### zip -/
theorem itzT_ok {C : Ct} {F : Hp} {a b : Addr} {vs ws : List V} {ds es : List PyData} (h1 : SqT C.K F a vs) (h2 : SqT C.K F b ws) (r1 : DpAll C.K F vs ds) (r2 : DpAll C.K F ws es) : ItOk C (RZ.ItzT C.K a b) F ((ds.zip es).map fun q => .tuple [q.1, q.2]) where
  go := fun i H s hi => by
    rw [List.length_map, List.length_zip] at hi
    have l1 := dpAll_len r1
    have l2 := dpAll_len r2
    exact ⟨vs, ws, vs[i]'(by omega), ws[i]'(by omega), s.st h1, s.st h2, List.getElem?_eq_getElem _, List.getElem?_eq_getElem _⟩
  stop := fun H s => by
    refine ⟨vs, ws, s.st h1, s.st h2, ?_⟩
    rw [List.length_map, List.length_zip, dpAll_len r1, dpAll_len r2]
    omega
  yld := fun i H F' x H' s1 s2 y hi => by
    obtain ⟨T, v, u, ex, hT, eH, f1, f2⟩ := y
    subst ex eH
    obtain ⟨d, ed, rd⟩ := dpAll_at r1 (f1 vs ((s1.trans s2).st h1))
    obtain ⟨d2, ed2, rd2⟩ := dpAll_at r2 (f2 ws ((s1.trans s2).st h2))
    have g : Grow H F' (upd H T (.tup [v, u])) (upd F' T (.tup [v, u])) := Grow.new s2 hT
    refine ⟨.tuple [d, d2], _, ?_, g, .tup (SqT.of upd_same) (.cons (dp_mono (s1.trans g.f) _ _ rd) (.cons (dp_mono (s1.trans g.f) _ _ rd2) .nil))⟩
    rw [List.getElem?_map]
    have : (ds.zip es)[i]? = some (d, d2) := by rw [List.getElem?_zip_eq_some]; exact ⟨ed, ed2⟩
    rw [this]; rfl
theorem itzL_ok {C : Ct} {F : Hp} {a b : Addr} {vs ws : List V} {ds es : List PyData} (h1 : SqL C.K F a vs) (h2 : SqL C.K F b ws) (r1 : DpAll C.K F vs ds) (r2 : DpAll C.K F ws es) : ItOk C (Itz C.K a b) F ((ds.zip es).map fun q => .tuple [q.1, q.2]) where
  go := fun i H s hi => by
    rw [List.length_map, List.length_zip] at hi
    have l1 := dpAll_len r1
    have l2 := dpAll_len r2
    exact ⟨vs, ws, vs[i]'(by omega), ws[i]'(by omega), s.sl h1, s.sl h2, List.getElem?_eq_getElem _, List.getElem?_eq_getElem _⟩
  stop := fun H s => by
    refine ⟨vs, ws, s.sl h1, s.sl h2, ?_⟩
    rw [List.length_map, List.length_zip, dpAll_len r1, dpAll_len r2]
    omega
  yld := fun i H F' x H' s1 s2 y hi => by
    obtain ⟨T, v, u, ex, hT, eH, f1, f2⟩ := y
    subst ex eH
    obtain ⟨d, ed, rd⟩ := dpAll_at r1 (f1 vs ((s1.trans s2).sl h1))
    obtain ⟨d2, ed2, rd2⟩ := dpAll_at r2 (f2 ws ((s1.trans s2).sl h2))
    have g : Grow H F' (upd H T (.tup [v, u])) (upd F' T (.tup [v, u])) := Grow.new s2 hT
    refine ⟨.tuple [d, d2], _, ?_, g, .tup (SqT.of upd_same) (.cons (dp_mono (s1.trans g.f) _ _ rd) (.cons (dp_mono (s1.trans g.f) _ _ rd2) .nil))⟩
    rw [List.getElem?_map]
    have : (ds.zip es)[i]? = some (d, d2) := by rw [List.getElem?_zip_eq_some]; exact ⟨ed, ed2⟩
    rw [this]; rfl
section
variable {X : Cx} {C : Ct} {z : Zs} {a b : Expr} {pos p tpos : Pos} {kk : Nat} {elts : List Expr}
theorem fip_zipT {ds es : List PyData} (hK : C.K = X.K) (hm : X.mg "zip" = none) (ha : FP X C z a (.tuple ds)) (hb : FP X C z b (.tuple es)) (hg : Gl X "zip" := by rfl) (hs : starEach [a, b] X.env = (false, eval a X.env) :: starEach [b] X.env := by rfl) (hs2 : starEach [b] X.env = (false, eval b X.env) :: starEach [] X.env := by rfl)
    (hpl : (backTo pos (starEach [b] X.env)).any (·.1) = false := by rfl) : FIP X C z (.Tuple elts kk tpos) (.Call (.Name "zip" p) [a, b] [] pos) ((ds.zip es).map fun q => .tuple [q.1, q.2]) := by
  refine pi_con (RZ.pi_zipA hg hm (arg2 ha hb hs hs2) hs hpl) ?_
  rintro σ H R ⟨F, S, k⟩
  refine ⟨F, S, fun vs ds' z1 H1 F1 ⟨e1, e2⟩ S1 s1 r => ?_⟩
  subst e1 e2
  obtain ⟨v, u, ev, r1, r2⟩ := paired2 r
  obtain ⟨q, ws, e1, h1, d1⟩ := dp_tuple r1
  obtain ⟨q2, ws2, e2, h2, d2⟩ := dp_tuple r2
  subst ev e1 e2
  rw [← hK]
  exact ⟨q, q2, ws, ws2, rfl, .inr ⟨S1.sub.st h1, S1.sub.st h2, k _ _ z1 H1 F1 ⟨rfl, rfl⟩ S1 s1 (itzT_ok h1 h2 d1 d2)⟩⟩
theorem fip_zipL {ds es : List PyData} (hK : C.K = X.K) (hm : X.mg "zip" = none) (ha : FP X C z a (.list ds)) (hb : FP X C z b (.list es)) (hg : Gl X "zip" := by rfl) (hs : starEach [a, b] X.env = (false, eval a X.env) :: starEach [b] X.env := by rfl) (hs2 : starEach [b] X.env = (false, eval b X.env) :: starEach [] X.env := by rfl)
    (hpl : (backTo pos (starEach [b] X.env)).any (·.1) = false := by rfl) : FIP X C z (.Tuple elts kk tpos) (.Call (.Name "zip" p) [a, b] [] pos) ((ds.zip es).map fun q => .tuple [q.1, q.2]) := by
  refine pi_con (RZ.pi_zipA hg hm (arg2 ha hb hs hs2) hs hpl) ?_
  rintro σ H R ⟨F, S, k⟩
  refine ⟨F, S, fun vs ds' z1 H1 F1 ⟨e1, e2⟩ S1 s1 r => ?_⟩
  subst e1 e2
  obtain ⟨v, u, ev, r1, r2⟩ := paired2 r
  obtain ⟨q, ws, e1, h1, d1⟩ := dp_list r1
  obtain ⟨q2, ws2, e2, h2, d2⟩ := dp_list r2
  subst ev e1 e2
  rw [← hK]
  exact ⟨q, q2, ws, ws2, rfl, .inl ⟨S1.sub.sl h1, S1.sub.sl h2, k _ _ z1 H1 F1 ⟨rfl, rfl⟩ S1 s1 (itzL_ok h1 h2 d1 d2)⟩⟩
end
end DL

set_option Elab.async false
set_option linter.all false
set_option maxRecDepth 100000
set_option maxHeartbeats 4000000
set_option autoImplicit false
namespace DL
open PySem PySem.Spec PyProof.Rows L2

/-! ### a set of a list of ints -/
abbrev freshSet (w : World) : Obj := { cls := .type "set", dict := none, data := .set #[] 0 (.fresh 0 0 (!w.params.followText "set-order")) }
set_option maxHeartbeats 8000000 in
theorem set_of_list {P : Program} {w : World} {A : Around} {E : Value → Shared → Prop} {s : Shared} {l : Addr} {items : Array Value} (ns : List Int) {Q : Value → Shared → Prop} (hh : A.handled = none) (hl : s.heap.IsList l items)
    (hit : IntsAre items.toList ns) (hb : ns.length + 1 < scanBound)
    (fin : ∀ (h' : Heap) (tk c : Nat), SetR w h' s.heap.objs.size (fun j => decide (j ∈ ns)) c → c ≤ ns.length → (∀ b o, s.heap.get? b = some o → h'.get? b = some o) → Q (.ref s.heap.objs.size) { s with heap := h', toks := tk }) :
    wpAny (model P w) A (call (.type "set") [.ref l]) Q E s := by
  have many : items.size = ns.length := by rw [← Array.length_toList]; exact IntsAre.length hit
  obtain ⟨cMro, tlMro, isMro⟩ := F.called_set.mro
  have isMade := F.called_set.made
  have isSub := F.called_set.sub
  refine wpAny_call (codeAny_of_tree ?_)
  show wpAny _ _ (callAny (.type "set") _) _ _ _
  refine wpAny_pure ⟨Code.quiet_builtin _ (by decide +kernel), codeAny_builtin F.entry_type_call ?_⟩
  rw [Around.under_plain (weight_type_call_type "set" [.ref l] []) rfl]
  have notTy := F.called_set.notType
  have canMk := F.called_set.canCreate
  have tyCall := F.typeCall_set_1 (.ref l)
  repeat (any_goals (first | assumption | wp_step))
  generalize hs1 : ({ s with heap := s.heap.push (freshSet w) } : Shared) = s1
  refine codeAny_mono (code_set_led1 (.ref l) (E := E) (Q₁ := fun obj sx => obj = .ref s.heap.objs.size ∧ sx = s1) ⟨rfl, hs1⟩) fun r sx hr => ?_
  cases r with
  | error e => exact hr
  | ok fl =>
    cases fl with
    | next => exact hr.elim
    | brk => exact hr.elim
    | cont => exact hr.elim
    | ret obj =>
      obtain ⟨rfl, rfl⟩ := hr
      subst hs1
      have atS : (s.heap.push (freshSet w)).get? s.heap.objs.size = some (freshSet w) := Heap.get?_push_size _ rfl
      have tyS : Shared.TypeIs { s with heap := s.heap.push (freshSet w) } (.ref s.heap.objs.size) "set" := ⟨_, atS, rfl⟩
      have lkInit := F.called_set.init.lookup
      have bdInit := F.called_set.init.bind (.ref s.heap.objs.size)
      repeat (any_goals (first | assumption | wp_step))
      let goal : Value → Shared → Prop := fun r t => r = .none ∧ ∃ h' tk c, t = { s with heap := h', toks := tk } ∧ SetR w h' s.heap.objs.size (fun j => decide (j ∈ ns)) c ∧ c ≤ ns.length ∧ ∀ b o, s.heap.get? b = some o → h'.get? b = some o
      refine codeAny_mono (codeAny_call_builtin (R := wants goal E) F.called_set.init.plain F.entry_set_init (check_set_init_1 tyS ?_)) fun r2 s2 hr2 => ?_
      · obtain ⟨ol, hol, hcl, nl, hdl⟩ := hl
        obtain ⟨oc, od, odt, osl⟩ := ol
        simp only at hcl hdl
        subst hcl hdl
        have atL : (s.heap.push (freshSet w)).get? l = some ⟨.type "list", od, .seq items nl, osl⟩ := Heap.get?_push_of_some _ hol
        have sub1 := F.sub_list_set
        have sub2 := F.sub_list_frozenset
        have noDict : (Value.type "list" == Value.type "dict") = false := by decide
        have isL : (s.heap.push (freshSet w)).IsList l items := ⟨_, atL, rfl, nl, rfl⟩
        unfold Builtin.«set.__init__» noKeywords Builtin.Frozenset.updateFrom
        generalize hPI : pyIter = PI
        wp_walk
        subst hPI
        refine wpAny_pyIter_list isL (wpAny_bind (wpAny_runValue ?_))
        have ltL : l < s.heap.objs.size := Heap.lt_size hol
        have quiet : A.in1.in1.in1.handled = none := by simp [hh]
        have neI : l ≠ (s.heap.push (freshSet w)).objs.size := by
          rw [Heap.size_push]; exact Nat.ne_of_lt (Nat.lt_succ_of_lt ltL)
        have outS : s.heap.objs.size ∉ [(s.heap.push (freshSet w)).objs.size, l] := by
          rw [Heap.size_push]
          intro z
          rcases List.mem_cons.mp z with z | z
          · exact absurd z (Nat.ne_of_lt (Nat.lt_succ_self _))
          · exact absurd (List.mem_singleton.mp z) (Nat.ne_of_gt ltL)
        have vals : ∀ (i : Nat) (v : Value), items[i]? = some v → ∃ k t, ns[i]? = some k ∧ v = .int k t := fun i v hv => by
          have hi : i < ns.length := by rw [← many]; exact (Array.getElem?_eq_some_iff.mp hv).1
          obtain ⟨t, e⟩ := PyProof.Rows.IntsAre.int_at hit i v (by rw [Array.getElem?_toList]; exact hv)
          refine ⟨ns[i], t, List.getElem?_eq_getElem hi, ?_⟩
          rw [e, List.getD_eq_getElem?_getD, List.getElem?_eq_getElem hi] <;> rfl
        have W := (Walks.list (prog := P) (w := w) quiet (s.heap.push (freshSet w)).objs.size l neI items).toS
        refine set_update_ints W s.heap.objs.size outS ns many hb vals (items.size - 0) 0 _ (by omega) (Nat.zero_le _) ⟨⟨_, Heap.get?_push_size _ rfl, rfl, rfl⟩, isL.push _⟩ ⟨0, Nat.le_refl 0, setR_new_at (Heap.get?_push_of_some _ atS)⟩ ?_
        intro t c mv hc R
        obtain ⟨h2, g2, d2, tk2, os2⟩ := t
        have eg : g2 = s.gens := mv.gens
        have ed : d2 = s.drawn := mv.drawn
        have eo : os2 = s.os := mv.os
        subst eg ed eo
        show wpAny _ _ _ _ _ _
        refine wpAny_pure ?_
        show wpAny _ _ (ret Value.none) _ _ _
        rw [many] at hc
        refine wpAny_pure ⟨rfl, h2, tk2, c, rfl, R, hc, fun b o e => ?_⟩
        have lt0 : b < s.heap.objs.size := Heap.lt_size e
        refine mv.heap b o (fun z => ?_) (Heap.get?_push_of_some _ (Heap.get?_push_of_some _ e))
        rcases List.mem_cons.mp z with z | z
        · exact absurd z (Nat.ne_of_lt lt0)
        · refine absurd (List.mem_singleton.mp z) ?_
          rw [Heap.size_push]; exact Nat.ne_of_lt (Nat.lt_succ_of_lt lt0)
      · cases r2 with
        | error e => exact hr2
        | ok fl2 =>
          cases fl2 with
          | next => exact hr2.elim
          | brk => exact hr2.elim
          | cont => exact hr2.elim
          | ret r =>
            obtain ⟨rfl, h', tk, c, rfl, R, hc, hk⟩ := hr2
            repeat (any_goals (first | assumption | wp_step))
            exact fin _ _ _ R hc hk
end DL

set_option Elab.async false
set_option linter.all false
set_option maxRecDepth 100000
set_option maxHeartbeats 4000000
set_option autoImplicit false
namespace DL
open PySem PySem.Spec PyProof.Rows L2

/-! ### ascending, without duplicates -/
def insU (x : Int) : List Int → List Int
  | [] => [x]
  | y :: ys => if x < y then x :: y :: ys else if x = y then y :: ys else y :: insU x ys
def sortU : List Int → List Int
  | [] => []
  | x :: xs => insU x (sortU xs)
theorem mem_insU {x k : Int} : ∀ {ys : List Int}, k ∈ insU x ys ↔ k = x ∨ k ∈ ys
  | [] => by simp [insU]
  | y :: ys => by
    unfold insU
    split
    · simp
    · split
      · rename_i _ h; subst h; simp
      · simp only [List.mem_cons, mem_insU (ys := ys)]
        constructor
        · rintro (h | h | h)
          · exact .inr (.inl h)
          · exact .inl h
          · exact .inr (.inr h)
        · rintro (h | h | h)
          · exact .inr (.inl h)
          · exact .inl h
          · exact .inr (.inr h)
theorem mem_sortU {k : Int} : ∀ {xs : List Int}, k ∈ sortU xs ↔ k ∈ xs
  | [] => by simp [sortU]
  | x :: xs => by
    unfold sortU
    rw [mem_insU, mem_sortU (xs := xs), List.mem_cons]
theorem insU_asc {x : Int} : ∀ {ys : List Int}, ys.Pairwise (· < ·) → (insU x ys).Pairwise (· < ·)
  | [], _ => by simp [insU]
  | y :: ys, h => by
    obtain ⟨h1, h2⟩ := List.pairwise_cons.mp h
    unfold insU
    split
    · rename_i hxy
      refine List.pairwise_cons.mpr ⟨fun k hk => ?_, h⟩
      rcases List.mem_cons.mp hk with rfl | hk
      · exact hxy
      · have := h1 k hk; omega
    · split
      · exact h
      · refine List.pairwise_cons.mpr ⟨fun k hk => ?_, insU_asc h2⟩
        rcases mem_insU.mp hk with rfl | hk
        · omega
        · exact h1 k hk
theorem sortU_asc : ∀ xs : List Int, (sortU xs).Pairwise (· < ·)
  | [] => List.Pairwise.nil
  | x :: xs => insU_asc (sortU_asc xs)
theorem asc_unique : ∀ {xs ys : List Int}, xs.Pairwise (· < ·) → ys.Pairwise (· < ·) → (∀ k, k ∈ xs ↔ k ∈ ys) → xs = ys
  | [], [], _, _, _ => rfl
  | [], y :: ys, _, _, h => by have := (h y).mpr List.mem_cons_self; cases this
  | x :: xs, [], _, _, h => by have := (h x).mp List.mem_cons_self; cases this
  | x :: xs, y :: ys, h1, h2, h => by
    obtain ⟨a1, a2⟩ := List.pairwise_cons.mp h1
    obtain ⟨b1, b2⟩ := List.pairwise_cons.mp h2
    have e : x = y := by
      rcases List.mem_cons.mp ((h x).mp List.mem_cons_self) with q | q
      · exact q
      · rcases List.mem_cons.mp ((h y).mpr List.mem_cons_self) with r | r
        · exact r.symm
        · have := b1 x q
          have := a1 y r
          omega
    subst e
    rw [asc_unique a2 b2 fun k => ?_]
    constructor
    · intro hk
      rcases List.mem_cons.mp ((h k).mp (List.mem_cons_of_mem _ hk)) with q | q
      · subst q; exact absurd (a1 k hk) (Int.lt_irrefl _)
      · exact q
    · intro hk
      rcases List.mem_cons.mp ((h k).mpr (List.mem_cons_of_mem _ hk)) with q | q
      · subst q; exact absurd (b1 k hk) (Int.lt_irrefl _)
      · exact q

/-- set(xs), a list of ints -/
def rSetI (K : PySem.W.Frag) (w : World) : List V → Hp → VK → Prop := fun vs H Q => ∃ (a : Addr) (ns : List Int), vs = [.ref a] ∧ SqL K H a (ns.map V.int) ∧ ns.length + 1 < scanBound ∧
  ∀ p c, H p = none → c ≤ ns.length → Q (.ref p) (upd H p (SetO w p (fun j => decide (j ∈ ns)) c))
theorem cr_setI {X : Cx} (hc : X.calm = true) : CallR X (.type "set") (rSetI X.K X.w) := by
  intro pins s σ H vs us Q I r h
  obtain ⟨a, ns, rfl, hs, hb, q⟩ := h
  obtain ⟨its, rv, hl, hz⟩ := I.list hs
  rw [Vals.ref1 r]
  refine set_of_list ns (I.ok.hd hc) hl.isList (by rw [List.toList_toArray]; exact rv.ints) hb fun h' tk c R hcn hk => ?_
  have hn : H s.heap.objs.size = none := I.hok.fresh (Nat.le_refl _)
  exact ⟨.ref s.heap.objs.size, _, I.laid (t' := tk) hk (Nat.le_refl _) (setO_new R), rfl, q _ c hn hcn⟩
section
variable {X : Cx} {C : Ct} {z : Zs} {a : Expr} {pos p p2 pos2 : Pos}
theorem flp_sortedSet {ns : List Int} (hK : C.K = X.K) (hc : X.calm = true) (hm : X.mg "sorted" = none) (hm2 : X.mg "set" = none) (ha : FP X C z a (.list (ns.map .int))) (hlen : ns.length < 64) (hg : Gl X "sorted" := by rfl) (hg2 : Gl X "set" := by rfl)
    (hs : starEach [a] X.env = (false, eval a X.env) :: starEach [] X.env := by rfl) : FLP X C z (.Call (.Name "sorted" p) [.Call (.Name "set" p2) [a] [] pos2] [] pos) ((sortU ns).map .int) := by
  have ps := pe_callTy (pos := pos2) (p := p2) (cr_setI hc) hg2 hm2 (by decide +kernel) (pa_cons ha pa_nil hs) (he := hs)
  refine pe_con (pe_callB (cr_sortedSet hc) hg hm (by decide +kernel) (pa_cons ps pa_nil (by rfl)) (he := by rfl)) ?_
  rintro σ H R ⟨F, S, k⟩
  refine ⟨F, S, fun v d z1 H1 F1 ⟨e1, e2⟩ S1 s1 r => ?_⟩
  subst e1 e2
  obtain ⟨b, vs, ev, hq, hp⟩ := dp_list r
  have e := dp_ints hp
  subst e ev
  refine ⟨b, ns, rfl, by rw [← hK]; exact S1.sub.sl hq, Nat.lt_of_lt_of_le (show ns.length + 1 < 65 by omega) (by decide), fun q c hn hcn => ?_⟩
  refine ⟨q, _, c, rfl, upd_same, by omega, fun ms t hasc hmem hl hnt => ?_⟩
  have em : ms = sortU ns := asc_unique hasc (sortU_asc ns) fun k => by rw [hmem k, mem_sortU]; simp
  subst em
  have S2 := S1.cell hn (SetO X.w q (fun j => decide (j ∈ ns)) c)
  exact k t _ _ z1 _ F1 ⟨rfl, rfl⟩ (S2.cell hnt _) s1 (S2.own_new hnt _) (of_ints _)

/-! ### the least and the greatest of a list of data -/
theorem reads_item {h : Heap} {vs : Array Value} {xs : List PyData} {as : List Addr} (hr : ReadsAll h vs.toList xs as) {i : Nat} {v : Value} {x : PyData} (hv : vs[i]? = some v) (hx : xs[i]? = some x) : ∃ bs, Reads h v x bs := by
  obtain ⟨bs, r, hi, _⟩ := PySem.W.readsAll_atA hr i v hv
  rw [List.getD_eq_getElem?_getD, hx] at r
  exact ⟨bs, r⟩
def rMinD (K : PySem.W.Frag) (n : Nat) : List V → Hp → VK → Prop := fun vs H Q => ∃ (a : Addr) (ws : List V) (x : PyData) (xs : List PyData), vs = [.ref a] ∧ SqL K H a ws ∧ DpAll K H ws (x :: xs) ∧ PySem.W.AlikeAll (x :: xs) ∧ PyData.depthAll (x :: xs) ≤ n ∧
  ∀ (i : Nat) (v : V), ws[i]? = some v → (x :: xs)[i]? = some (PySem.W.minD x xs) → Q v H
theorem minD_mem (x : PyData) (xs : List PyData) : PySem.W.minD x xs ∈ x :: xs := by
  unfold PySem.W.minD
  have all : ∀ (xs : List PyData) (x : PyData), xs.foldl (fun a y => if PySem.W.dataLt y a then y else a) x = x ∨ xs.foldl (fun a y => if PySem.W.dataLt y a then y else a) x ∈ xs := by
    intro xs
    induction xs with
    | nil => intro x; exact .inl rfl
    | cons y ys ih =>
      intro x
      rw [List.foldl_cons]
      rcases ih (if PySem.W.dataLt y x then y else x) with h | h
      · by_cases c : PySem.W.dataLt y x = true
        · rw [if_pos c] at h ⊢; exact .inr (by rw [h]; exact List.mem_cons_self)
        · rw [if_neg c] at h ⊢; exact .inl h
      · exact .inr (List.mem_cons_of_mem _ h)
  rcases all xs x with h | h
  · rw [h]; exact List.mem_cons_self
  · exact List.mem_cons_of_mem _ h
theorem cr_minD {X : Cx} {n : Nat} (hc : X.calm = true) (hu : X.A.units + 1 + n < cLine) : CallR X (.builtin "min") (rMinD X.K n) := by
  intro pins s σ H vs us Q I r h
  obtain ⟨a, ws, x, xs, rfl, hs, hd, hal, hdp, q⟩ := h
  obtain ⟨its, rv, hl, hz⟩ := I.list hs
  rw [Vals.ref1 r]
  obtain ⟨as, hr⟩ := Dp.readsAll I _ _ its hd rv
  have hr' : ReadsAll s.heap its.toArray.toList (x :: xs) as := by rw [List.toList_toArray]; exact hr
  refine PySem.W.min_list_data (I.ok.hd hc) hl.isList hr' hal (by omega) fun i v h' tk bs hv hm hk => ?_
  have hi : i < its.length := by
    have := (Array.getElem?_eq_some_iff.mp hv).1
    rw [List.size_toArray] at this; exact this
  have hlen : ws.length = (x :: xs).length := dpAll_len hd
  have hi2 : i < (x :: xs).length := by rw [← hlen, rv.length]; exact hi
  have e2 : (x :: xs)[i]? = some (x :: xs)[i] := List.getElem?_eq_getElem hi2
  obtain ⟨cs, r2⟩ := reads_item hr' hv e2
  have r3 := PySem.W.reads_keeps hk r2
  have hmem : (x :: xs)[i] ∈ x :: xs := List.getElem_mem hi2
  have eq : (x :: xs)[i] = PySem.W.minD x xs := PySem.W.alike_unique _ _ v _ _ (hal.1 _ hmem _ (minD_mem x xs)) r3 hm
  obtain ⟨u, eu, ru⟩ := rv.get (i := i) (x := ws[i]'(by rw [hlen]; exact hi2)) (List.getElem?_eq_getElem _)
  have ev : its[i]? = some v := by
    rw [← hv, List.getElem?_toArray]
  rw [ev] at eu
  cases eu
  exact ⟨_, H, I.kept (t' := tk) hk, ru, q i _ (List.getElem?_eq_getElem _) (by rw [e2, eq])⟩
theorem fp_minD {x : PyData} {xs : List PyData} {n k : Nat} (hr : Room k X.A) (hK : C.K = X.K) (hc : X.calm = true) (hm : X.mg "min" = none) (ha : FP X C z a (.list (x :: xs))) (hal : PySem.W.AlikeAll (x :: xs)) (hd : PyData.depthAll (x :: xs) ≤ n) (hn : n ≤ 40) (hg : Gl X "min" := by rfl) (hs : starEach [a] X.env = (false, eval a X.env) :: starEach [] X.env := by rfl) :
    FP X C z (.Call (.Name "min" p) [a] [] pos) (PySem.W.minD x xs) := by
  have hu : X.A.units + 1 + n < cLine := by have := hr.units; omega
  refine pe_con (pe_callB (cr_minD (n := n) hc hu) hg hm (by decide +kernel) (arg1 ha hs) (he := hs)) ?_
  rintro σ H R ⟨F, S, kk⟩
  refine ⟨F, S, fun vs ds z1 H1 F1 ⟨e1, e2⟩ S1 s1 r => ?_⟩
  subst e1 e2
  obtain ⟨v, ev, r1⟩ := paired1 r
  subst ev
  obtain ⟨b, ws, ev, hq, hp⟩ := dp_list r1
  subst ev
  rw [← hK]
  refine ⟨b, ws, x, xs, rfl, S1.sub.sl hq, dpAll_mono S1.sub _ _ hp, hal, hd, fun i v hv hx => ?_⟩
  obtain ⟨v', ev', rv'⟩ := dpAll_get hp hx
  rw [hv] at ev'
  cases ev'
  exact kk v _ z1 H1 F1 ⟨rfl, rfl⟩ S1 s1 rv'
end
end DL

set_option Elab.async false
set_option linter.all false
set_option maxRecDepth 100000
set_option maxHeartbeats 4000000
set_option autoImplicit false
namespace DL
open PySem PySem.Spec PyProof.Rows L2

/-! ### lambdas as keys -/
theorem Sim.extN {C : Ct} {z : Zs} {σ : L2.St} {H F H' : Hp} (S : Sim C z σ H F) (e : LamX.ExtN H H') (t : LamX.Tabs tabs H') : Sim C z σ H' F where
  sub := fun a o h => e a o (S.sub a o h) fun ps q => S.ft a ps (by rw [← q]; exact h)
  ext := S.ext
  keep := fun a o h => e a o (S.keep a o h) fun ps q => S.ht a ps (by rw [← q]; exact h)
  fresh := S.fresh
  slots := fun i s h => by
    have q := S.slots i s h
    cases s with
    | un => trivial
    | v d => exact q
    | og ds =>
      obtain ⟨a, vs, e1, h1, f1, h2, p1, r⟩ := q
      exact ⟨a, vs, e1, e a _ h1 (fun ps q => r.nt ps q), f1, h2, p1, r⟩
  sep := S.sep
  pot := fun p h => by
    obtain ⟨h1, f1, h2⟩ := S.pot p h
    exact ⟨e p _ h1 (fun ps q => by cases q), f1, h2⟩
  len := S.len
  tab := fun p h => ⟨t p h, (S.tab p h).2⟩
  ft := S.ft
  ht := S.ht
theorem Sim.tabs {C : Ct} {z : Zs} {σ : L2.St} {H F : Hp} (S : Sim C z σ H F) : LamX.Tabs tabs H := fun p h => (S.tab p h).1
mutual
/-- data without lists -/
def flatD : PyData → Bool
  | .list _ => false
  | .dict _ => false
  | .tuple ds => flatAll ds
  | _ => true
def flatAll : List PyData → Bool
  | [] => true
  | d :: ds => flatD d && flatAll ds
end
mutual
theorem reads_flat {h : Heap} : ∀ (d : PyData) (v : Value) (as : List Addr), flatD d = true → Reads h v d as → as = []
  | .none, _, _, _, r => by cases r; rfl
  | .bool _, _, _, _, r => by cases r; rfl
  | .int _, _, _, _, r => by cases r; rfl
  | .str _, _, _, _, r => by cases r; rfl
  | .list _, _, _, f, _ => by simp [flatD] at f
  | .dict _, _, _, f, _ => by simp [flatD] at f
  | .tuple ds, _, _, f, r => by
    cases r with
    | tuple _ _ _ ha => exact readsAll_flat ds _ _ (by simpa [flatD] using f) ha
theorem readsAll_flat {h : Heap} : ∀ (ds : List PyData) (vs : List Value) (as : List Addr), flatAll ds = true → ReadsAll h vs ds as → as = []
  | [], _, _, _, r => by cases r; rfl
  | d :: ds, _, _, f, r => by
    have f : (flatD d && flatAll ds) = true := by simpa [flatAll] using f
    rw [Bool.and_eq_true] at f
    cases r with
    | cons r1 r2 => rw [reads_flat d _ _ f.1 r1, readsAll_flat ds _ _ f.2 r2]; rfl
end
/-- an expression of a lambda's body: it gives d and keeps all that was there -/
def LE (P : Program) (w : World) (A : Around) (env : Env) (s : Shared) (e : Expr) (d : PyData) : Prop :=
  ∀ h tk, (∀ b o, s.heap.get? b = some o → h.get? b = some o) →
    wpAny (model P w) A (eval e env) (fun v s' => ∃ h' tk' as, s' = { s with heap := h', toks := tk' } ∧ (∀ b o, h.get? b = some o → h'.get? b = some o) ∧ Reads h' v d as) (fun _ _ => False) { s with heap := h, toks := tk }
/-- the lambda's one parameter -/
structure LV (pn : Str) (d : PyData) (env : Env) (s : Shared) : Prop where
  kind : env.scope.kind = .function
  loc : env.kindOf pn = some .local
  look : ∃ v as m, s.heap.Ns env.locals m ∧ m pn = some v ∧ Reads s.heap v d as
section
variable {P : Program} {w : World} {A : Around} {env : Env} {s : Shared} {a b : Expr} {pos : Pos}
theorem le_name {pn : Str} {d : PyData} (V : LV pn d env s) (hd : (pn == ("__debug__" : Str)) = false := by decide) : LE P w A env s (.Name pn pos) d := by
  intro h tk kp
  obtain ⟨v, as, m, hn, hm, r⟩ := V.look
  exact wpAny_Name (wpAny_loadName_local V.kind V.loc (hn.keeps kp) hm ⟨h, tk, as, rfl, fun _ _ e => e, PyProof.Rows.Reads.keeps kp r⟩) hd
theorem le_int {i : Int} {j : Nat} : LE P w A env s (.Constant (.int i) j pos) (.int i) := fun h tk _ =>
  wpAny_Constant_int ⟨h, tk + 1, [], rfl, fun _ _ e => e, .int i _⟩
theorem le_neg {i : Int} (ha : LE P w A env s a (.int i)) : LE P w A env s (.UnaryOp .USub a pos) (.int (-i)) := by
  intro h tk kp
  refine UnaryOp_ (thn (ha h tk kp) fun v s' ⟨h', tk', as, e, k', r⟩ => ?_)
  subst e
  cases r with
  | int _ t => exact neg_int ⟨h', tk' + 1, [], rfl, k', .int _ _⟩
theorem le_ix {xs : List PyData} {i : Int} {x : PyData} (ha : LE P w A env s a (.tuple xs)) (hb : LE P w A env s b (.int i)) (h0 : 0 ≤ i) (h1 : i < 2 ^ 63) (hx : xs[i.toNat]? = some x) (hs : PlainIx b := by exact fun _ _ => rfl) : LE P w A env s (.Subscript a b pos) x := by
  intro h tk kp
  refine Subscript_ (thn (ha h tk kp) fun v s1 ⟨h1', tk1, as, e, k1, r1⟩ => ?_)
  subst e
  refine thn (hb h1' tk1 fun b o q => k1 b o (kp b o q)) fun u s2 ⟨h2, tk2, bs, e, k2, r2⟩ => ?_
  subst e
  cases r2 with
  | int _ t =>
    obtain ⟨ad, l, rfl, hT, hR⟩ := reads_tuple_items r1
    have hT2 : IsTup h2 ad l.toArray := by
      obtain ⟨o, e1, e2, e3⟩ := hT
      exact ⟨o, k2 _ _ e1, e2, e3⟩
    have hl : l.length = xs.length := by
      have all : ∀ {l : List Value} {xs : List PyData} {as : List Addr}, ReadsAll h1' l xs as → l.length = xs.length := by
        intro l
        induction l with
        | nil => intro xs as r; cases r; rfl
        | cons v l ih =>
          intro xs as r
          cases r with
          | cons _ r2 => simp [ih r2]
      exact all hR
    have hi : i.toNat < xs.length := (List.getElem?_eq_some_iff.mp hx).1
    have hv : l.toArray[i.toNat]? = some (l[i.toNat]'(by omega)) := by
      rw [List.getElem?_toArray]; exact List.getElem?_eq_getElem _
    obtain ⟨cs, r3⟩ := reads_item (vs := l.toArray) (by rw [List.toList_toArray]; exact hR) hv hx
    exact subscriptTail_builtinR (x := l[i.toNat]'(by omega)) hT2.typeIs slot_tuple_getitem.lookup
      (getItem_tuple (j := i.toNat) (Q := fun r s' => r = l[i.toNat]'(by omega) ∧ ∃ h' tk' as, s' = { s with heap := h', toks := tk' } ∧ (∀ b o, h.get? b = some o → h'.get? b = some o) ∧ Reads h' r x as) hT2 (by omega) h1
        (by rw [seqIndex_of h0 (by rw [List.size_toArray]; omega)]) hv ⟨rfl, h2, tk2, cs, rfl, fun b o q => k2 b o (k1 b o q), PyProof.Rows.Reads.keeps k2 r3⟩) (hs _ _)
theorem le_tup2 {x y : PyData} {k : Nat} (ha : LE P w A env s a x) (hb : LE P w A env s b y) (h1 : starEach [a, b] env = (false, eval a env) :: starEach [b] env := by rfl) (h2 : starEach [b] env = (false, eval b env) :: starEach [] env := by rfl) : LE P w A env s (.Tuple [a, b] k pos) (.tuple [x, y]) := by
  intro h tk kp
  refine wpAny_Tuple ?_
  rw [h1, h2]
  show wpAny _ _ (spliced ((false, eval a env) :: (false, eval b env) :: [])) _ _ _
  refine Calls.spliced_cons (thn (ha h tk kp) fun v s1 ⟨h1', tk1, as, e, k1, r1⟩ => ?_)
  subst e
  refine Calls.spliced_cons (thn (hb h1' tk1 fun b o q => k1 b o (kp b o q)) fun u s2 ⟨h2', tk2, bs, e, k2, r2⟩ => ?_)
  subst e
  refine Calls.spliced_nil ⟨by simp; decide, ?_⟩
  have kk : ∀ b o, h2'.get? b = some o → (h2'.push { cls := .type "tuple", data := .seq [v, u].toArray }).get? b = some o := fun b o e => Heap.get?_push_of_some _ e
  exact ⟨_, _, as ++ (bs ++ []), rfl, fun b o q => kk b o (k2 b o (k1 b o q)), .tuple (Heap.get?_push_size _ rfl) rfl rfl (.cons (PyProof.Rows.Reads.keeps kk (PyProof.Rows.Reads.keeps k2 r1)) (.cons (PyProof.Rows.Reads.keeps kk r2) .nil))⟩
end

/-- a lambda with one parameter, without names from around -/
structure LamOk (scope : Scope) (pn : Str) : Prop where
  kind : scope.kind = .function
  co : scope.isCoroutine = false
  gen : scope.isGenerator = false
  own : ∀ y ∈ scope.names, y.2 ≠ .cell ∧ y.2 ≠ .free
  par : scope.names.lookup pn = some .local
theorem depthAll_le {n : Nat} {x : PyData} {xs : List PyData} (h : PyData.depthAll xs ≤ n) (hx : x ∈ xs) : x.depth ≤ n := by
  induction xs with
  | nil => cases hx
  | cons y ys ih =>
    have h : max y.depth (PyData.depthAll ys) ≤ n := by simpa [PyData.depthAll] using h
    rcases List.mem_cons.mp hx with rfl | hx
    · omega
    · exact ih (by omega) hx
section
variable {X : Cx} {C : Ct} {z : Zs} {a : Expr} {pos p lpos kpos : Pos}
/-- sorted(a, key=lambda pn: body) -/
theorem flp_sortedKey {β : Type} {k : Nat} {params : Arguments} {body : Expr} {scope : Scope} {pn : Str} {c T : Addr} {xs : List β} (enc key : β → PyData) (hr : Room (k + 3) X.A) (hK : C.K = X.K) (hm : X.mg "sorted" = none)
    (TB : LamX.TabB X.base X.mg c T) (hcode : X.env.code = .ref c) (hmT : (T, X.env.qual ++ "<lambda>") ∈ tabs) (hu : ∀ p ∈ tabs, p.1 = T → p.2 = X.env.qual ++ "<lambda>") (L : LamOk scope pn) (hdef : defaultsOf params X.env = ([], []))
    (hbind : ∀ (q : Str) (cl : List (Str × Addr)) (pm cv ctv v : Value), bindArgs (PySem.W.kla_fn "<lambda>" q params body scope cl pm cv ctv) ⟨[v], []⟩ = pure [(pn, v)])
    (ha : FP X C z a (.list (xs.map enc))) (hal : PySem.W.AllAlike (xs.map key)) (hsk : PySem.W.Sortable (xs.map key)) (hlen : xs.length ≤ sizeLine) (hd : ∀ x ∈ xs, (key x).depth ≤ 16) (hfl : ∀ x ∈ xs, flatD (key x) = true)
    (hbody : ∀ x ∈ xs, ∀ (A : Around) (env : Env) (s : Shared), LV pn (enc x) env s → LE X.prog X.w A env s body (key x))
    (hg : Gl X "sorted" := by rfl) (hs : starEach [a] X.env = (false, eval a X.env) :: starEach [] X.env := by rfl) (hpl : (backTo pos (starEach [a] X.env)).any (·.1) = false := by rfl)
    (hpn : (pn == ("__debug__" : Str)) = false := by decide) :
    FLP X C z (.Call (.Name "sorted" p) [a] [⟨some "key", .Lambda params body scope lpos, kpos⟩] pos) ((xs.mergeSort (PySem.W.dataLe false key)).map enc) := by
  refine ⟨fun pins s σ H Q I h => ?_⟩
  obtain ⟨F, S, kk⟩ := h
  refine wpAny_Call_Name_kw (ld_blt (u := .builtin "sorted") I hg hm (by decide +kernel) ?_)
  refine PyProof.Rows.callWith_kw (thn ((arg1 ha hs).run pos pins s σ H (fun vs H1 => ∃ F1, Sim C z σ H1 F1 ∧ Sub F F1 ∧ Paired (RV C.K C.P F1) vs [.d (.list (xs.map enc))]) I ⟨F, S, fun vs ds z' H' F' e S' s' r => ?_⟩) fun us s1 ⟨vs, H1, I1, r1, q1⟩ => ?_) (by rw [hs]; rfl) hpl
  · obtain ⟨e1, e2⟩ := e
    subst e1 e2
    exact ⟨F', S', s', r⟩
  obtain ⟨F1, S1, sF, rp⟩ := q1
  show wpAny _ _ (evalAll ((do let v ← eval (.Lambda params body scope lpos) X.env; standAt pos; pure v) :: [])) _ _ s1
  refine wpAny_evalAll_cons (wpAny_bind (LamX.lam_make2 I1 TB hcode hmT hu S1.tabs hdef (fun y hy e => absurd e (L.own y hy).2) fun f c' pm ctv H2 s2 I2 eN T2 hf hfn hfr hco => wpAny_bind (wpAny_standAt (wpAny_pure (wpAny_evalAll_nil ?_)))))
  have S2 := S1.extN eN T2
  obtain ⟨v, ev, rv⟩ := paired1 rp
  subst ev
  obtain ⟨b, ws, eb, hq, hp⟩ := dp_list rv
  subst eb
  rw [hK] at hq hp
  rw [Vals.ref1 r1]
  obtain ⟨its, rvs, hl, hz⟩ := I2.list (S2.sub.sl hq)
  obtain ⟨⟨oc, ovs, ot, hoc, hdc, hvc⟩, _, _⟩ := I2.hok c' _ hco
  have hEach : ∀ (ws : List V) (its : List Value) (xs : List β), Vals ws its → DpAll X.K F1 ws (xs.map enc) → PySem.W.EachIs (fun v x => (∃ y, RelV y v ∧ Dp X.K F1 y (enc x)) ∧ ∃ as, Reads s2.heap v (enc x) as) its xs := by
    intro ws
    induction ws with
    | nil =>
      intro its xs h1 h2
      cases h1
      cases xs with
      | nil => exact .nil
      | cons x xs => cases h2
    | cons y ys ih =>
      intro its xs h1 h2
      cases h1 with
      | cons a1 a2 =>
        cases xs with
        | nil => cases h2
        | cons x xs =>
          cases h2 with
          | cons b1 b2 => exact .cons ⟨⟨y, a1, b1⟩, Dp.reads I2 _ _ _ (dp_mono S2.sub _ _ b1) a1⟩ (ih _ _ a2 b2)
  have hback : ∀ (out : List Value) (ys : List β), PySem.W.EachIs (fun v x => (∃ y, RelV y v ∧ Dp X.K F1 y (enc x)) ∧ ∃ as, Reads s2.heap v (enc x) as) out ys → ∃ vs, Vals vs out ∧ DpAll X.K F1 vs (ys.map enc) := by
    intro out ys h
    induction h with
    | nil => exact ⟨[], .nil, .nil⟩
    | cons r _ ih =>
      obtain ⟨⟨y, a1, b1⟩, _⟩ := r
      obtain ⟨vs, a2, b2⟩ := ih
      exact ⟨y :: vs, .cons a1 a2, .cons b1 b2⟩
  have hlx : ws.length = xs.length := by rw [dpAll_len hp, List.length_map]
  refine PySem.W.sorted_key_data (b := false) key hl.isList (hEach ws its xs rvs hp) hal hsk hlen (fun x hx => ?_) (PyProof.Rows.ksk_s1 _ _) (fun _ => PyProof.Rows.ksk_l1 _ _) (fun _ => PyProof.Rows.ksk_t1 _ _) (fun v x hR hx h tk kp => ?_) (fun out cc h' tk kp hfresh hD hol eo => ?_)
  · have := hr.units
    have := hd x hx
    omega
  · obtain ⟨_, as, hrd⟩ := hR
    have hok2 := (hr.in1.in1).depth
    refine wpAny_call (PySem.W.kla_callFunE hok2 (kp _ _ hf) rfl L.co L.gen rfl ⟨c', oc, ovs, ot, rfl, kp _ _ hoc, hdc, hvc⟩ ?_)
    rw [hbind]
    refine wpAny_pure (wpAny_newFunctionEnv (fun y hy => (L.own y hy).1) (fun y hy => ?_) (fun h₁ hns hsb => ⟨(I2.nolimit.keeps kp).fresh _ hsb, ?_⟩) L.kind)
    · rcases List.mem_cons.mp hy with e | e
      · subst e; exact L.par
      · cases e
    · have kp2 : ∀ b o, h.get? b = some o → h₁.get? b = some o := fun b o e => hsb.extBut b o (Nat.ne_of_lt (Heap.lt_size e)) (Heap.get?_push_of_some _ e)
      show codeAny _ _ (.expr body (LamX.lamEnv X scope h.objs.size f c')) _ _
      refine PySem.W.kla_codeExpr (wpAny_mono (hbody x hx _ (LamX.lamEnv X scope h.objs.size f c') { s2 with heap := h₁, toks := tk } ⟨L.kind, L.par, v, as, _, hns, ?_, PyProof.Rows.Reads.keeps (fun b o e => kp2 b o (kp b o e)) hrd⟩ h₁ _ fun _ _ e => e) (fun v' s' hq => ?_) fun _ _ q => q.elim)
      · show List.lookup pn [(pn, v)] = some v
        simp
      · obtain ⟨h', tk', as', e, k', r'⟩ := hq
        subst e
        have := reads_flat _ _ _ (hfl x hx) r'
        subst this
        exact ⟨h', tk', rfl, fun b o e => k' b o (kp2 b o e), r'⟩
  · obtain ⟨vs, hv, hdp⟩ := hback _ _ eo
    have hn : H2 (s2.heap.objs.size + 1) = none := I2.hok.fresh (Nat.le_succ _)
    have hvl : vs.length ≤ sizeLine := by rw [hv.length, hol]; exact hlen
    have J := I2.laid (t' := tk) kp (Nat.le_succ _) (o := .lst vs) ⟨hvl, out, cc, hv, hD⟩
    have S3 := S2.cell hn (.lst vs)
    exact ⟨.ref _, _, J, rfl, kk _ vs _ z _ F1 ⟨rfl, rfl⟩ S3 sF (S2.own_new hn vs) (by rw [hK]; exact hdp)⟩
end
end DL

set_option Elab.async false
set_option linter.all false
set_option maxRecDepth 100000
set_option maxHeartbeats 4000000
set_option autoImplicit false
namespace DL
open PySem PySem.Spec PyProof.Rows L2

/-! ### sum of a tuple -/
def rSumT (K : PySem.W.Frag) : List V → Hp → VK → Prop := fun vs H Q => ∃ (a : Addr) (ns : List Int), vs = [V.ref a] ∧ SqT K H a (ns.map V.int) ∧ Q (.int ns.sum) H
theorem cr_sumT {X : Cx} (hc : X.calm = true) : CallR X (.builtin "sum") (rSumT X.K) := by
  intro pins s σ H vs us Q I r h
  obtain ⟨a, ns, rfl, hs, q⟩ := h
  obtain ⟨its, rv, pl, _⟩ := I.tuple hs
  rw [Vals.ref1 r]
  have hi := rv.ints
  obtain ⟨xs, e⟩ := hi.allInts.items
  have hn : numsOf (intItems xs).toList = ns := by rw [← e]; exact hi.numsOf
  rw [nums_intItems] at hn
  rw [e] at pl
  refine PySem.W.ktm_sumG (I.ok.hd hc) pl fun h' tk t' hk => ?_
  have e2 : preSum (numAt xs) xs.size = ns.sum := by
    rw [preSum_eq, List.take_of_length_le (by simp), hn]
  rw [e2]
  exact ⟨.int ns.sum, H, I.kept (t' := tk) hk, ⟨t', rfl⟩, q⟩
section
variable {X : Cx} {C : Ct} {z : Zs} {a b c e : Expr} {pos p pn p2 : Pos} {tg : Expr}
theorem fp_sumT {ns : List Int} (hK : C.K = X.K) (hc : X.calm = true) (hm : X.mg "sum" = none) (ha : FP X C z a (.tuple (ns.map .int))) (hg : Gl X "sum" := by rfl) (hs : starEach [a] X.env = (false, eval a X.env) :: starEach [] X.env := by rfl) : FP X C z (.Call (.Name "sum" p) [a] [] pos) (.int ns.sum) :=
  fp_cb (fun _ ha => pe_callB (cr_sumT hc) hg hm (by decide +kernel) ha (he := hs)) (arg1 ha hs) fun _ h => by
    rw [← hK]
    intro F H vs Q' s r q
    obtain ⟨v, e1, r1⟩ := paired1 r
    subst e1
    obtain ⟨t, ws, ev, hq, hp⟩ := dp_tuple r1
    subst ev
    have e := dp_ints hp
    subst e
    exact ⟨t, ns, rfl, s.st hq, q _ _ H F h (Grow.refl s) (.int _)⟩

/-! ### range downwards -/
def rngD (hi : Int) (n : Nat) : List PyData := (List.range n).map fun i => .int (hi - (i : Nat))
theorem fip_rangeDown {i j : Int} (hm : X.mg "range" = none) (ha : FP X C z a (.int i)) (hb : FP X C z b (.int j)) (hcc : FP X C z c (.int (-1))) (h1 : -(2 ^ 62) ≤ i ∧ i < 2 ^ 62 ∧ -(2 ^ 62) ≤ j ∧ j < 2 ^ 62) (hg : Gl X "range" := by rfl)
    (hs : starEach [a, b, c] X.env = (false, eval a X.env) :: starEach [b, c] X.env := by rfl) (hs2 : starEach [b, c] X.env = (false, eval b X.env) :: starEach [c] X.env := by rfl) (hs3 : starEach [c] X.env = (false, eval c X.env) :: starEach [] X.env := by rfl)
    (hpl : (backTo pos (starEach [b, c] X.env)).any (·.1) = false := by rfl) : FIP X C z tg (.Call (.Name "range" p) [a, b, c] [] pos) (rngD i (i - j).toNat) := by
  refine pi_con (pi_range3 hg hm (fpa_cons ha (fpa_cons hb (arg1 hcc hs3) hs2) hs) hs hpl) ?_
  rintro σ H R ⟨F, S, k⟩
  refine ⟨F, S, fun vs ds z1 H1 F1 ⟨e1, e2⟩ S1 s1 r => ?_⟩
  subst e1 e2
  cases r with
  | cons r1 rr =>
    cases rr with
    | cons r2 rr =>
      cases rr with
      | cons r3 rr =>
        cases rr
        have e1 := dp_int r1
        have e2 := dp_int r2
        have e3 := dp_int r3
        subst e1 e2 e3
        refine ⟨i, j, -1, (i - j).toNat, rfl, RgC.neg h1.1 h1.2.1 h1.2.2.1 h1.2.2.2, k _ _ _ H1 F1 ⟨rfl, rfl⟩ S1 s1 ?_⟩
        have hl : (rngD i (i - j).toNat).length = (i - j).toNat := by simp [rngD]
        exact ⟨fun k H' s' hk => (show k < (i - j).toNat from by rw [← hl]; exact hk), fun H' s' => (show (i - j).toNat ≤ (rngD i (i - j).toNat).length from by rw [hl]; exact Nat.le_refl _), fun k H' F' x H'' s' s2 hy hk => by
          rw [hl] at hk
          obtain ⟨eH, ex⟩ := hy
          subst ex eH
          refine ⟨.int (i - (k : Nat)), F', ?_, Grow.refl s2, ?_⟩
          · unfold rngD
            rw [List.getElem?_map, List.getElem?_range hk]
            rfl
          · have e : i + (k : Nat) * (-1) = i - (k : Nat) := by omega
            rw [e]
            exact .int _⟩

/-! ### great ints -/
theorem fp_mulW {i j : Int} (ha : FP X C z a (.int i)) (hb : FP X C z b (.int j)) (hc : CMulW i j) : FP X C z (.BinOp a .Mult b pos) (.int (i * j)) := fp_bin (fun _ _ => pe_op op_mulW) ha hb fun _ h => g2_I (gg := fun i j => i * j) hc h
theorem fp_fdivW {i j : Int} (ha : FP X C z a (.int i)) (hb : FP X C z b (.int j)) (hc : CDivW i j) : FP X C z (.BinOp a .FloorDiv b pos) (.int (i / j)) := fp_bin (fun _ _ => pe_op op_fdivW) ha hb fun _ h => g2_I (gg := fun i j => i / j) hc h

/-! ### the pot -/
theorem fp_potIx {x : Str} {k : Int} {v : Int} (i : Nat) (hK : C.K = X.K) (hz : z.r[i]? = some sp) (hb : FP X C z b (.int k)) (hk : atI [z.p.a, z.p.b, z.p.c] k = some v) (hs : PlainIx b := by exact fun _ _ => rfl)
    (hN : X.N[i]? = some x := by rfl)
    (hv : Vis X.env.scope x := by first | exact Or.inl rfl | exact Or.inr (Or.inl rfl) | exact Or.inr (Or.inr rfl))
    (hd : (x == ("__debug__" : Str)) = false := by decide) (hcd : (x == ("__classdict__" : Str)) = false := by decide) : FP X C z (.Subscript (.Name x pn) b pos) (.int v) := by
  refine pe_con (pe_ix ix_list (pe_var hN hv hd hcd) hb hs) ?_
  rintro σ H R ⟨F, S, q⟩
  obtain ⟨w, e, p, hp, ew⟩ := S.slots i _ hz
  subst ew
  refine ⟨.ref p, e, F, S, fun u d z1 H1 F1 ⟨e1, e2⟩ S1 s1 r => ?_⟩
  subst e1 e2
  have hl := (S1.pot p hp).1
  have eu := dp_int r
  subst eu
  refine ⟨p, _, k, .int v, rfl, rfl, SqL.of hl, ?_, q (.int v) _ _ H1 F1 ⟨rfl, rfl⟩ S1 s1 (.int v)⟩
  have e3 : ([V.int z1.p.a, V.int z1.p.b, V.int z1.p.c] : List V) = [z1.p.a, z1.p.b, z1.p.c].map V.int := rfl
  rw [e3]
  unfold atI at hk ⊢
  rw [List.length_map]
  cases h : ixN [z1.p.a, z1.p.b, z1.p.c].length k with
  | none => rw [h] at hk; cases hk
  | some j =>
    rw [h] at hk
    have hk : ([z1.p.a, z1.p.b, z1.p.c] : List Int)[j]? = some v := hk
    show (([z1.p.a, z1.p.b, z1.p.c] : List Int).map V.int)[j]? = _
    rw [List.getElem?_map, hk]; rfl
theorem Sim.potSet {σ : L2.St} {H F : Hp} {p : Addr} (S : Sim C z σ H F) (hp : C.P = some p) (π : Pot) : Sim C ⟨z.r, π⟩ σ (upd H p (.lst [.int π.a, .int π.b, .int π.c])) F := by
  obtain ⟨h1, f1, h2⟩ := S.pot p hp
  refine ⟨fun b u e => ?_, S.ext, fun b u e => ?_, S.fresh, fun j s e => ?_, S.sep, fun p' e => ?_, S.len, fun q e => ?_, S.ft, S.ht⟩
  · have : b ≠ p := fun q => by subst q; rw [f1] at e; cases e
    rw [upd_ne this]; exact S.sub b u e
  · have : b ≠ p := fun q => by subst q; rw [h2] at e; cases e
    rw [upd_ne this]; exact S.keep b u e
  · have w := S.slots j s e
    cases s with
    | un => trivial
    | v d => exact w
    | og es =>
      obtain ⟨b, ws, e1, g1, f2, g2, p2, r2⟩ := w
      have : b ≠ p := fun w => by subst w; exact p2 hp
      exact ⟨b, ws, e1, by rw [upd_ne this]; exact g1, f2, g2, p2, r2⟩
  · rw [hp] at e
    cases e
    exact ⟨upd_same, f1, h2⟩
  · obtain ⟨g1, f2, g2⟩ := S.tab q e
    exact ⟨TabS.set g1 h1, f2, g2⟩
/-- pot[k] = e -/
theorem f1_potSet {x : Str} {j : Expr} {tp : Pos} {v : Int} {n : Int} {k : Nat} {π : Pot} {Q : Out → Zs → Prop} (i : Nat) (hz : z.r[i]? = some sp) (h : FP X C z e (.int v)) (hj : FP X C z j (.int n)) (hn : ixN 3 n = some k)
    (hπ : ([z.p.a, z.p.b, z.p.c] : List Int).set k v = [π.a, π.b, π.c]) (q0 : Q .nx ⟨z.r, π⟩)
    (hN : X.N[i]? = some x := by rfl)
    (hv : Vis X.env.scope x := by first | exact Or.inl rfl | exact Or.inr (Or.inl rfl) | exact Or.inr (Or.inr rfl))
    (hd : (x == ("__debug__" : Str)) = false := by decide) (hcd : (x == ("__classdict__" : Str)) = false := by decide)
    (ha : ∀ v, assign (.Subscript (.Name x pn) j tp) X.env v = (do let ov ← holding [v] (eval (.Name x pn) X.env); let iv ← holding [v, ov] (eval j X.env); standAt tp; holding [v, ov, iv] (setItem ov iv v); release [v, ov, iv] []) := by intro _; rfl)
    (hs : swapsWithSole [.Subscript (.Name x pn) j tp] e pos.line X.env = pure false := by rfl) (hw : swappedStores [.Subscript (.Name x pn) j tp] e X.env = pure none := by rfl)
    (h1 : (assignEach [.Subscript (.Name x pn) j tp] X.env).map (·.2) = [assign (.Subscript (.Name x pn) j tp) X.env] := by rfl) : F1 X C z (.Assign [.Subscript (.Name x pn) j tp] e pos) Q := by
  refine ps_con (ps_asg h (pg_sub (pe_var hN hv hd hcd) hj set_list ha) hs hw h1) ?_
  rintro D σ H ⟨F, S, q⟩
  refine ⟨F, S, fun u d' z1 H1 F1 ⟨e1, e2⟩ S1 s1 r => ?_⟩
  subst e1 e2
  obtain ⟨w, e0, p, hp, ew⟩ := S1.slots i _ hz
  subst ew
  refine ⟨.ref p, e0, F1, S1, fun u2 d2 z2 H2 F2 ⟨e1, e2⟩ S2 s2 r2 => ?_⟩
  subst e1 e2
  have hl := (S2.pot p hp).1
  have eu := dp_int r
  subst eu
  refine ⟨p, _, n, k, rfl, dp_int r2, hl, hn, ?_⟩
  have e3 : ([V.int z2.p.a, V.int z2.p.b, V.int z2.p.c] : List V).set k (.int v) = [V.int π.a, V.int π.b, V.int π.c] := by
    have e4 : ([V.int z2.p.a, V.int z2.p.b, V.int z2.p.c] : List V) = [z2.p.a, z2.p.b, z2.p.c].map V.int := rfl
    rw [e4, ← List.map_set, hπ]; rfl
  rw [e3]
  exact q .nx _ σ _ F2 q0 (S2.potSet hp π) (s1.trans s2)
/-- a loop that goes over data, told by a fold: st b z: the state z stands for b -/
theorem f1_forA {α β : Type} {iter : Expr} {body : List Stmt} {Q : Out → Zs → Prop} (vs : List Nat) (xs : List α) (enc : α → PyData) (st : β → Zs → Prop) (step : β → α → β) (b0 : β) (hp : PassesOwn (model X.prog X.w) X.A X.env X.xe) (hc : X.calm = true)
    (hi : FIP X C z tg iter (xs.map enc)) (h0 : st b0 z)
    (turn : ∀ (pre : List α) (x : α) (post : List α), xs = pre ++ x :: post → ∀ z2, st (pre.foldl step b0) z2 → FG X C vs z2 tg (enc x) fun z3 => FS X C z3 body fun o z4 => match o with
      | .nx => st (step (pre.foldl step b0) x) z4
      | .ct => st (step (pre.foldl step b0) x) z4
      | .bk => Q .nx z4
      | .rt d => Q (.rt d) z4)
    (fin : ∀ z2, st (xs.foldl step b0) z2 → Q .nx z2)
    (hs : ∀ x, foldedSetIterable iter X.env x = pure x := by intro _; rfl) : F1 X C z (.For tg iter body [] pos) Q := by
  refine f1_for vs hp hc (fi_mono hi fun ds z1 ⟨e1, e2⟩ => ?_) hs
  subst e1 e2
  refine ⟨fun i z2 => st ((xs.take i).foldl step b0) z2, h0, fun i d z2 hd hst => ?_, fun z2 h => fin z2 ?_⟩
  · rw [List.getElem?_map] at hd
    cases hx : xs[i]? with
    | none => rw [hx] at hd; cases hd
    | some x =>
      rw [hx] at hd
      cases hd
      have hlt := (List.getElem?_eq_some_iff.mp hx).1
      have hxe := (List.getElem?_eq_some_iff.mp hx).2
      have e : xs = xs.take i ++ x :: xs.drop (i + 1) := by
        rw [← hxe, List.getElem_cons_drop, List.take_append_drop]
      have e2 : (xs.take (i + 1)).foldl step b0 = step ((xs.take i).foldl step b0) x := by
        rw [List.take_succ, hx, List.foldl_append]; rfl
      have := turn (xs.take i) x (xs.drop (i + 1)) e z2 hst
      rw [← e2] at this
      exact this
  · rw [List.length_map, List.take_length] at h
    exact h
end
end DL

set_option Elab.async false
set_option linter.all false
set_option maxRecDepth 100000
set_option maxHeartbeats 4000000
set_option autoImplicit false
namespace DL
open PySem PySem.Spec PyProof.Rows L2

/-! ### a tuple so many times -/
theorem mulT1 (l : Addr) (items : Array Value) (n : Nat) (dd : Option Addr) (sl : Array (Option Value)) (u : Tok) :
    Meets (Builtin.«tuple.__mul__» ⟨[.ref l, .int 1 u], []⟩) (fun _ R s => s.heap.get? l = some { cls := .type "tuple", dict := dd, data := .seq items n, slots := sl } ∧ R (.ok (.ret (Value.ref l))) s) :=
  .of_wp fun prog w A R s h => by
    obtain ⟨hp, gn, dr, tk, os⟩ := s
    obtain ⟨hl, hr⟩ := h
    have fi := AutoSeq1.idx_int
    have c1 : (items.isEmpty || (1 : Int) == 1) = true := by simp
    wp_walk using wpAny_loadPart' hl
    exact ⟨_, rfl, hr⟩
theorem mulT0 (l : Addr) (items : Array Value) (n : Nat) (dd : Option Addr) (sl : Array (Option Value)) (u : Tok) (hne : items.isEmpty = false) :
    Meets (Builtin.«tuple.__mul__» ⟨[.ref l, .int 0 u], []⟩) (fun _ R s => s.heap.get? l = some { cls := .type "tuple", dict := dd, data := .seq items n, slots := sl } ∧ R (.ok (.ret (Value.ref s.heap.objs.size))) { s with heap := s.heap.push { cls := Value.type "tuple", data := Data.seq #[] } }) :=
  .of_wp fun prog w A R s h => by
    obtain ⟨hp, gn, dr, tk, os⟩ := s
    obtain ⟨hl, hr⟩ := h
    have fi := AutoSeq1.idx_int
    have c1 : (items.isEmpty || (0 : Int) == 1) = false := by rw [hne]; rfl
    have c2 : (decide ((0 : Int) ≤ 0) || items.isEmpty) = true := rfl
    wp_walk using wpAny_loadPart' hl
    exact ⟨_, rfl, hr⟩
def rRepT01 (K : PySem.W.Frag) : R2 := fun x y H Q => ∃ l k xs, x = .ref l ∧ y = .int k ∧ SqT K H l xs ∧ xs ≠ [] ∧ ((k = 1 ∧ Q (.ref l) H) ∨ (k = 0 ∧ ∀ p, H p = none → Q (.ref p) (upd H p (.tup []))))
theorem op_repT01 {X : Cx} : OpR X (binaryOp .Mult) (rRepT01 X.K) := by
  intro pins s σ H x y v u Q I rx ry h
  obtain ⟨l, k, xs, rfl, rfl, hT, hne, q⟩ := h
  cases rx
  obtain ⟨t, rfl⟩ := ry
  obtain ⟨its, r, ⟨⟨cls, dd, data, sl⟩, ho, hcls, n, hdat⟩, hs⟩ := I.tuple hT
  simp only at hcls hdat
  subst hcls hdat
  have hi : its.toArray.isEmpty = false := by
    cases its with
    | nil =>
      cases r
      exact absurd rfl hne
    | cons a b => rfl
  refine wpAny_binaryOp_repeat_ref (T := "tuple") (U := "int") (by decide) ⟨_, ho, rfl⟩ (fun s' => typeIs_int s' k t) noFill_tuple_mul F.fills_int_mul F.slot_int_rmul repeat_tuple F.slot_int_index.lookup ?_
  refine call_meets F.slot_int_rmul (typeIs_int s k t) F.entry_int_rmul (F.args_int_rmul_2 _ _) (int_rmul_tuple k t l its.toArray n dd sl) ⟨ho, rfl, ⟨_, ho, rfl⟩, ?_⟩
  rcases q with ⟨rfl, q⟩ | ⟨rfl, q⟩
  · exact call_meets F.slot_tuple_mul ⟨_, ho, rfl⟩ F.entry_tuple_mul (F.args_tuple_mul_2 _ _) (mulT1 l its.toArray n dd sl t) ⟨ho, .ref l, H, I, rfl, q⟩
  · refine call_meets F.slot_tuple_mul ⟨_, ho, rfl⟩ F.entry_tuple_mul (F.args_tuple_mul_2 _ _) (mulT0 l its.toArray n dd sl t hi) ⟨ho, ?_⟩
    exact ⟨.ref s.heap.objs.size, _, I.laid (t' := s.toks) (o := .tup []) (fun b ob e => Heap.get?_push_of_some _ e) (Nat.le_refl _) ⟨Nat.zero_le _, [], .nil, IsTup.new _ _⟩, rfl, q _ (I.hok.fresh (Nat.le_refl _))⟩
section
variable {X : Cx} {C : Ct} {z : Zs} {a b c e : Expr} {pos p pn p2 : Pos} {tg : Expr}
theorem fp_repT {ds : List PyData} {k : Int} (hK : C.K = X.K) (ha : FP X C z a (.tuple ds)) (hb : FP X C z b (.int k)) (hne : ds ≠ []) (h0 : 0 ≤ k) (h1 : k ≤ 1000) (hl : ds.length ≤ 1000) : FP X C z (.BinOp a .Mult b pos) (.tuple (List.replicate k.toNat ds).flatten) := by
  have conv : ∀ {F H : Hp} {v u : V}, Sub F H → RV C.K C.P F v (.d (.tuple ds)) → RV C.K C.P F u (.d (.int k)) → ∃ q ws, v = .ref q ∧ u = .int k ∧ SqT X.K H q ws ∧ ws ≠ [] ∧ ws.length = ds.length ∧ DpAll C.K F ws ds := by
    intro F H v u s r1 r2
    obtain ⟨q, ws, ev, hq, hp⟩ := dp_tuple r1
    refine ⟨q, ws, ev, dp_int r2, by rw [← hK]; exact s.st hq, fun e => ?_, dpAll_len hp, hp⟩
    subst e
    cases hp
    exact hne rfl
  by_cases h2 : 2 ≤ k
  · refine fp_bin (fun _ _ ha hb => pe_op op_repT ha hb) ha hb fun kk h => ?_
    intro F H v u Q' s r1 r2 q
    obtain ⟨t, ws, rfl, rfl, hq, hn, hln, hp⟩ := conv s r1 r2
    refine ⟨t, k, ws, rfl, rfl, hq, hn, h2, h1, by omega, fun p hpn => ?_⟩
    exact q _ _ _ (upd F p (.tup (List.replicate k.toNat ws).flatten)) h (Grow.new s hpn) (.tup (SqT.of upd_same) (dpAll_mono (sub_new (none_of_sub s hpn)) _ _ (dpAll_rep hp k.toNat)))
  · refine fp_bin (fun _ _ ha hb => pe_op op_repT01 ha hb) ha hb fun kk h => ?_
    intro F H v u Q' s r1 r2 q
    obtain ⟨t, ws, rfl, rfl, hq, hn, hln, hp⟩ := conv s r1 r2
    refine ⟨t, k, ws, rfl, rfl, hq, hn, ?_⟩
    rcases (show k = 1 ∨ k = 0 by omega) with e | e
    · subst e
      refine .inl ⟨rfl, q _ _ H F h (Grow.refl s) ?_⟩
      have e2 : (List.replicate (1 : Int).toNat ds).flatten = ds := by simp
      rw [e2]; exact r1
    · subst e
      refine .inr ⟨rfl, fun p hpn => q _ _ _ (upd F p (.tup [])) h (Grow.new s hpn) ?_⟩
      have e2 : (List.replicate (0 : Int).toNat ds).flatten = [] := by simp
      rw [e2]
      exact .tup (SqT.of upd_same) .nil

/-! ### a def that gives a new list -/
def SpL (K : PySem.W.Frag) (W : List DV → (List PyData → Prop) → Prop) : Sp := fun vs H Q _ => ∃ (F : Hp) (ds : List DV) (k : List PyData → Prop), W ds k ∧ Sub F H ∧ Paired (RV K none F) vs ds ∧ TabOk H F ∧
  ∀ a us es H' F', k es → Sub F F' → Sub F' H' → (∀ b o, H b = some o → (∀ ps, o ≠ .tbl ps) → H' b = some o) → (∀ b o, F' b = some o → F b = some o ∨ H b = none ∨ ∃ ps, H b = some (.tbl ps)) → TabOk H' F' →
    H' a = some (.lst us) → F' a = none → (H a = none ∨ ∃ ps, H a = some (.tbl ps)) → DpAll K F' us es → Q (.ref a) H'
def tWSL (C : Ct) (z : Zs) (Q : List PyData → Prop) : TS := fun D σ H => ∃ F, Sim C z σ H F ∧ ∀ a vs ds z' σ' H' F', Q ds → Sim C z' σ' H' F' → Sub F F' → Own C z' σ' H' F' a vs → DpAll C.K F' vs ds → D.rt (.ref a) H'
theorem psl_cons {X : Cx} {C : Ct} {z : Zs} {st : Stmt} {rest : List Stmt} {Q : List PyData → Prop} {N : Zs → Prop} (h : F1 X C z st (Then (fun _ _ => False) N)) (hr : ∀ z1, N z1 → PSs X rest (tWSL C z1 Q)) : PSs X (st :: rest) (tWSL C z Q) := by
  have pr : PSs X rest (fun D σ H => ∃ z1, N z1 ∧ tWSL C z1 Q D σ H) := ⟨fun pins s σ H D I ⟨z1, n, w⟩ => (hr z1 n).run pins s σ H D I w⟩
  refine pss_con (pss_cons h pr) ?_
  rintro D σ H ⟨F, S, q⟩
  refine ⟨F, S, fun o z1 σ1 H1 F1 q1 S1 s1 => ?_⟩
  cases o with
  | nx => exact ⟨z1, q1, F1, S1, fun a vs ds z2 σ2 H2 F2 q2 S2 s2 => q a vs ds z2 σ2 H2 F2 q2 S2 (s1.trans s2)⟩
  | rt d => exact q1.elim
  | bk => exact q1.elim
  | ct => exact q1.elim
theorem psl_ret {X : Cx} {C : Ct} {z : Zs} {e : Expr} {pos : Pos} {Q : List PyData → Prop} (h : FL X C z e fun ds _ => Q ds) : PSs X [.Return (some e) pos] (tWSL C z Q) := by
  refine pss_con (pss_one (ps_ret h)) ?_
  rintro D σ H ⟨F, S, q⟩
  exact ⟨F, S, fun a vs ds z' H' F' q1 S1 s1 o r => q a vs ds z' σ H' F' q1 S1 s1 o r⟩
end
theorem paired_len {K : PySem.W.Frag} {P : Option Addr} {F : Hp} {vs : List V} {ds : List DV} (h : Paired (RV K P F) vs ds) : vs.length = ds.length := Paired.length h
theorem paired_at {K : PySem.W.Frag} {Pt : Option Addr} {F0 : Hp} : ∀ {vs : List V} {ds : List DV}, Paired (RV K Pt F0) vs ds → ∀ (i : Nat) (h1 : i < vs.length) (h2 : i < ds.length), RV K Pt F0 vs[i] ds[i] := by
  intro vs ds h
  induction h with
  | nil => intro i h1; simp at h1
  | cons r t ih =>
    intro i h1 h2
    cases i with
    | zero => exact r
    | succ i => exact ih i (by simpa using h1) (by simpa using h2)
theorem sim_enter {K : PySem.W.Frag} {F0 H : Hp} {ds : List DV} {vs : List V} {N : List Str} (sF : Sub F0 H) (hp : Paired (RV K none F0) vs ds) (tb : TabOk H F0) :
    ∃ hold : Hp, (∀ a o, H a = some o → (∀ ps, o ≠ .tbl ps) → hold a = some o) ∧ Sim ⟨K, none, hold, F0⟩ ⟨ds.map Sl.v ++ List.replicate (N.length - ds.length) .un, ⟨0, 0, 0⟩⟩ (L2.start N vs) H F0 := by
  classical
  refine ⟨fun a => if ∃ ps, H a = some (.tbl ps) then none else H a, fun a o e nt => ?_, ?_⟩
  · dsimp only
    rw [if_neg (fun ⟨ps, z⟩ => nt ps (by rw [e] at z; exact Option.some.inj z))]; exact e
  · refine ⟨sF, Sub.refl _, fun a o e => ?_, fun a o e => .inl e, fun i sl e => ?_, fun i j xs ys a _ e1 => ?_, fun p e => (by cases e), ?_, fun p e => ⟨(tb.t p e).1, (tb.t p e).2, ?_⟩, tb.f, fun a ps e => ?_⟩
    · dsimp only at e
      split at e
      · cases e
      · exact e
    · have e : (ds.map Sl.v ++ List.replicate (N.length - ds.length) Sl.un)[i]? = some sl := e
      by_cases hi : i < ds.length
      · rw [List.getElem?_append_left (by rw [List.length_map]; exact hi), List.getElem?_map, List.getElem?_eq_getElem hi] at e
        cases e
        have hvi : i < vs.length := by rw [paired_len hp]; exact hi
        refine ⟨vs[i], ?_, paired_at hp i hvi hi⟩
        unfold L2.start
        rw [List.getElem?_append_left (by rw [List.length_map]; exact hvi), List.getElem?_map, List.getElem?_eq_getElem hvi]
        rfl
      · rw [List.getElem?_append_right (by rw [List.length_map]; omega), List.getElem?_replicate] at e
        split at e
        · cases e; trivial
        · cases e
    · have e1 : (ds.map Sl.v ++ List.replicate (N.length - ds.length) Sl.un)[i]? = some (.og xs) := e1
      have := List.mem_of_getElem? e1
      rcases List.mem_append.mp this with m | m
      · obtain ⟨y, _, ey⟩ := List.mem_map.mp m
        cases ey
      · have := List.eq_of_mem_replicate m
        cases this
    · show (ds.map Sl.v ++ List.replicate (N.length - ds.length) Sl.un).length = (L2.start N vs).length
      unfold L2.start
      simp only [List.length_append, List.length_map, List.length_replicate, paired_len hp]
    · obtain ⟨ps, t1, _⟩ := (tb.t p e).1
      exact if_pos ⟨ps, t1⟩
    · dsimp only at e
      split at e
      · cases e
      · rename_i n; exact n ⟨ps, e⟩
theorem ok_defL {P : Program} {w : World} {K : PySem.W.Frag} {mg : Str → Option Value} {base : Heap} {x qual : Str} {st : Stmt} {f : Addr} {fd : FuncData} {N ps : List Str} {k : Nat} {W : List DV → (List PyData → Prop) → Prop} (F : Fun K x qual st f fd) (S : FnScope N ps (defScope st))
    (len : ∀ ds q, W ds q → ds.length = ps.length)
    (hbody : ∀ (cdv : Value) (A : Around) (outer : List Env) (s : Shared) (H : Hp) (E : XK) (ds : List DV) (q : List PyData → Prop) (C : Ct), Room k (A.deeper (envOfC qual (defScope st) s.heap.objs.size f cdv)) → C.K = K → W ds q →
      PSs (cxOf CX0 P w K mg base N qual (defScope st) f cdv A outer s H E).nox (defBody st) (tWSL C ⟨ds.map Sl.v ++ List.replicate (N.length - ds.length) .un, ⟨0, 0, 0⟩⟩ q)) : FnOk P w K mg base CX0 (k + 1) f fd ps (SpL K W) := by
  refine F.ok S (fun vs H Q E h => ?_) (fun cdv A outer s H vs Q E hr h => ?_)
  · obtain ⟨F, ds, q, hw, _, hp, _⟩ := h
    rw [paired_len hp]; exact len ds q hw
  · obtain ⟨F0, ds, q, hw, sF, hp, tb, fin⟩ := h
    obtain ⟨hold, hh, S0⟩ := sim_enter (N := N) sF hp tb
    refine ⟨_, hbody cdv A outer s H E ds q ⟨K, none, hold, F0⟩ hr rfl hw, F0, S0, fun a us es z' σ' H' F' qo S' s' o r => ?_⟩
    refine fin a us es H' F' qo s' S'.sub (fun b u e nt => S'.keep b u (hh b u e nt)) (fun b u e => ?_) ⟨fun p e => ⟨(S'.tab p e).1, (S'.tab p e).2.1⟩, S'.ft⟩ o.at_ o.nf ?_ r
    · rcases S'.fresh b u e with g | g
      · exact .inl g
      · rcases none_or (H := H) (a := b) with g2 | ⟨u2, g2⟩
        · exact .inr (.inl g2)
        · by_cases nt : ∃ ps, u2 = .tbl ps
          · obtain ⟨ps, ep⟩ := nt
            exact .inr (.inr ⟨ps, by rw [← ep]; exact g2⟩)
          · have h3 := hh b u2 g2 (fun ps q => nt ⟨ps, q⟩)
            have g : hold b = none := g
            rw [h3] at g; cases g
    · have g : hold a = none := o.nh
      rcases none_or (H := H) (a := a) with g2 | ⟨u2, g2⟩
      · exact .inl g2
      · by_cases nt : ∃ ps, u2 = .tbl ps
        · obtain ⟨ps, ep⟩ := nt
          exact .inr ⟨ps, by rw [← ep]; exact g2⟩
        · have h3 := hh a u2 g2 (fun ps q => nt ⟨ps, q⟩)
          rw [h3] at g; cases g
def HasDefL (P : Program) (w : World) (K : PySem.W.Frag) (mg : Str → Option Value) (base : Heap) (x : Str) (k : Nat) (ps : List Str) (W : List DV → (List PyData → Prop) → Prop) : Prop :=
  ∃ (f : Addr) (fd : FuncData), FnOk P w K mg base CX0 k f fd ps (SpL K W) ∧ mg x = some (.ref f) ∧ PySem.W.keepIn K (.ref f) = true ∧ Binds K fd ps []
section
variable {X : Cx} {C : Ct} {z : Zs} {a : Expr} {es : List Expr} {pos pos2 p p2 : Pos}
theorem paired_plain {K : PySem.W.Frag} {P : Option Addr} {F : Hp} : ∀ {vs : List V} {ds : List PyData}, Paired (RV K P F) vs (ds.map .d) → Paired (RV K none F) vs (ds.map .d)
  | _, [], h => by cases h; exact .nil
  | _, d :: ds, h => by
    cases h with
    | cons r t => exact .cons r (paired_plain t)
/-- y(x(..)): the new list that x gives is y's pot -/
theorem fp_freshPot {k k2 n : Nat} {ps ps2 : List Str} {x y : Str} {W1 : List DV → (List PyData → Prop) → Prop} {W2 : WF} {ds : List PyData} {d : PyData} (D1 : HasDefL X.prog X.w X.K X.mg X.base x k ps W1) (D2 : HasDef X.prog X.w X.K X.mg X.base y k2 ps2 W2)
    (hr : Room n X.A) (hn : k ≤ n) (hn2 : k2 ≤ n) (hK : C.K = X.K)
    (ha : FPA X C z (a :: es) ds) (hw : W1 (ds.map .d) fun us => ∃ i j l : Int, us = [.int i, .int j, .int l] ∧ W2 [.pot] ⟨i, j, l⟩ fun d' _ => d' = .d d) (hg : Gl X x := by rfl) (hg2 : Gl X y := by rfl)
    (hdb : (x == ("__debug__" : Str)) = false := by decide) (hdb2 : (y == ("__debug__" : Str)) = false := by decide)
    (he : starEach (a :: es) X.env = (false, eval a X.env) :: starEach es X.env := by rfl) (hpl : (backTo pos (starEach es X.env)).any (·.1) = false := by rfl)
    (he2 : starEach [.Call (.Name x p) (a :: es) [] pos] X.env = (false, eval (.Call (.Name x p) (a :: es) [] pos) X.env) :: starEach [] X.env := by rfl) (hpl2 : (backTo pos2 (starEach [] X.env)).any (·.1) = false := by rfl) :
    FP X C z (.Call (.Name y p2) [.Call (.Name x p) (a :: es) [] pos] [] pos2) d := by
  obtain ⟨f, fd, ok, hm, hk, hb⟩ := D1
  obtain ⟨f2, fd2, ok2, hm2, hk2, hb2⟩ := D2
  refine pe_con (pe_call ok2 (hr.mono hn2) hg2 hm2 hk2 hb2 .nil pass0 (pa_cons (pe_call ok (hr.mono hn) hg hm hk hb .nil pass0 ha hdb he hpl) pa_nil he2) hdb2 he2 hpl2) ?_
  rintro σ H R ⟨F, S, kk⟩
  refine ⟨F, S, fun vs ds' z1 H1 F1 ⟨e1, e2⟩ S1 s1 r1 => ?_⟩
  subst e1 e2
  show SpL X.K W1 (vs ++ []) H1 _ E0
  rw [List.append_nil]
  rw [hK] at r1
  have r1 := paired_plain r1
  refine ⟨F1, _, _, hw, S1.sub, r1, ⟨fun p e => ⟨(S1.tab p e).1, (S1.tab p e).2.1⟩, S1.ft⟩, fun q us xs H2 F2 k2 sF sH kp fr tb hq fq nq dp => ?_⟩
  obtain ⟨i, j, l, rfl, w2⟩ := k2
  have eu : us = [V.int i, V.int j, V.int l] := dp_ints (ns := [i, j, l]) dp
  subst eu
  show SpD X.K W2 [.ref q] H2 R E0
  refine ⟨some q, F2, ⟨i, j, l⟩, [.pot], _, w2, sH, .cons ⟨q, rfl, rfl⟩ .nil, fun p e => ?_, tb, fun v d' π' H3 F3 e sF3 sH3 kp3 fr3 po3 tb3 rv => ?_⟩
  · cases e
    exact ⟨hq, fq⟩
  · subst e
    have ne : ∀ b o, H1 b = some o → (∀ ps, o ≠ .tbl ps) → b ≠ q := fun b o e nt w => by
      subst w
      rcases nq with w | ⟨ps, w⟩
      · rw [w] at e; cases e
      · rw [w] at e; cases e; exact nt ps rfl
    have S3 := S1.after (π' := z1.p) (sF.trans sF3) sH3 (fun b o e _ nt => kp3 b o (kp b o e nt) (fun w => ne b o e nt (Option.some.inj w).symm) nt) (fun b o e => by
      rcases fr3 b o e with w | w | w
      · exact fr b o w
      · rcases none_or (H := H1) (a := b) with g | ⟨u, g⟩
        · exact .inr (.inl g)
        · by_cases nt : ∃ ps, u = .tbl ps
          · obtain ⟨ps, ep⟩ := nt
            exact .inr (.inr ⟨ps, by rw [← ep]; exact g⟩)
          · have := kp b u g (fun ps q => nt ⟨ps, q⟩)
            rw [w] at this; cases this
      · obtain ⟨ps, w⟩ := w
        rcases none_or (H := H1) (a := b) with g | ⟨u, g⟩
        · exact .inr (.inl g)
        · by_cases nt : ∃ ps, u = .tbl ps
          · obtain ⟨ps, ep⟩ := nt
            exact .inr (.inr ⟨ps, by rw [← ep]; exact g⟩)
          · have := kp b u g (fun ps q => nt ⟨ps, q⟩)
            rw [w] at this; cases this
            exact (nt ⟨ps, rfl⟩).elim) (fun p e => by
      obtain ⟨g1, g2, g3⟩ := S1.pot p e
      have n1 : p ≠ q := ne p _ g1 (fun ps w => by cases w)
      refine ⟨kp3 p _ (kp p _ g1 fun ps w => by cases w) (fun w => n1 (Option.some.inj w).symm) (fun ps w => by cases w), ?_⟩
      rcases none_or (H := F3) (a := p) with w | ⟨o, w⟩
      · exact w
      · rcases fr3 p o w with w | w | ⟨ps, w⟩
        · rcases fr p o w with w | w | ⟨ps, w⟩
          · rw [g2] at w; cases w
          · rw [g1] at w; cases w
          · rw [g1] at w; cases w
        · have := kp p _ g1 fun ps w => by cases w
          rw [w] at this; cases this
        · have := kp p _ g1 fun ps w => by cases w
          rw [w] at this; cases this) tb3
    refine kk v _ _ H3 F3 ⟨rfl, rfl⟩ S3 (s1.trans (sF.trans sF3)) ?_
    show Dp C.K F3 v d
    rw [hK]
    exact rv
end
end DL

set_option Elab.async false
set_option linter.all false
set_option maxRecDepth 100000
set_option maxHeartbeats 4000000
set_option autoImplicit false
namespace DL
open PySem PySem.Spec PyProof.Rows L2
/-! ### a list of one's own becomes plain data -/
theorem Sim.forget {C : Ct} {z : Zs} {σ : L2.St} {H F : Hp} (S : Sim C z σ H F) (i : Nat) : Sim C ⟨z.r.set i .un, z.p⟩ σ H F where
  sub := S.sub
  ext := S.ext
  keep := S.keep
  fresh := S.fresh
  slots := fun j s e => by
    have e : (z.r.set i .un)[j]? = some s := e
    by_cases h : i = j
    · subst h
      have hl : i < z.r.length := by
        have := (List.getElem?_eq_some_iff.mp e).1
        rwa [List.length_set] at this
      rw [List.getElem?_set_self hl] at e
      cases e
      trivial
    · rw [List.getElem?_set_ne h] at e
      exact S.slots j s e
  sep := fun j k xs ys a n e1 e2 h1 => by
    have ne : ∀ (l : Nat) (ws : Cn), (z.r.set i .un)[l]? = some (.og ws) → z.r[l]? = some (.og ws) := fun l ws e => by
      by_cases q : i = l
      · subst q
        have hl : i < z.r.length := by
          have := (List.getElem?_eq_some_iff.mp e).1
          rwa [List.length_set] at this
        rw [List.getElem?_set_self hl] at e
        cases e
      · rw [List.getElem?_set_ne q] at e; exact e
    exact S.sep j k xs ys a n (ne j xs e1) (ne k ys e2) h1
  pot := S.pot
  len := by rw [List.length_set]; exact S.len
  tab := S.tab
  ft := S.ft
  ht := S.ht
theorem Sim.learn {C : Ct} {r : List Sl} {p : Pot} {σ : L2.St} {H F : Hp} {i : Nat} {v : V} {d : DV} (S : Sim C ⟨r.set i .un, p⟩ σ H F) (hv : σ[i]? = some (some v)) (rv : RV C.K C.P F v d) : Sim C ⟨r.set i (.v d), p⟩ σ H F where
  sub := S.sub
  ext := S.ext
  keep := S.keep
  fresh := S.fresh
  slots := fun j s e => by
    have e : (r.set i (.v d))[j]? = some s := e
    by_cases h : i = j
    · subst h
      have hl : i < r.length := by
        have := (List.getElem?_eq_some_iff.mp e).1
        rwa [List.length_set] at this
      rw [List.getElem?_set_self hl] at e
      cases e
      exact ⟨v, hv, rv⟩
    · rw [List.getElem?_set_ne h] at e
      exact S.slots j s (by show (r.set i .un)[j]? = _; rw [List.getElem?_set_ne h]; exact e)
  sep := fun j k xs ys a n e1 e2 h1 => by
    have ne : ∀ (l : Nat) (ws : Cn), (r.set i (.v d))[l]? = some (.og ws) → (r.set i .un)[l]? = some (.og ws) := fun l ws e => by
      by_cases q : i = l
      · subst q
        have hl : i < r.length := by
          have := (List.getElem?_eq_some_iff.mp e).1
          rwa [List.length_set] at this
        rw [List.getElem?_set_self hl] at e
        cases e
      · rw [List.getElem?_set_ne q] at e ⊢; exact e
    exact S.sep j k xs ys a n (ne j xs e1) (ne k ys e2) h1
  pot := S.pot
  len := by
    have := S.len
    rw [List.length_set]
    rw [List.length_set] at this
    exact this
  tab := S.tab
  ft := S.ft
  ht := S.ht
theorem Sim.frozen {C : Ct} {z : Zs} {σ : L2.St} {H F : Hp} {i : Nat} {ds : List PyData} (S : Sim C z σ H F) (hz : z.r[i]? = some (.ow ds)) : ∃ F', Sub F F' ∧ Sim C ⟨z.r.set i (sd (.list ds)), z.p⟩ σ H F' := by
  obtain ⟨a, vs, e1, h1, f1, h2, p1, r1⟩ := S.own i hz
  have hl : i < z.r.length := (List.getElem?_eq_some_iff.mp hz).1
  have o : Own C ⟨z.r.set i .un, z.p⟩ σ H F a vs := ⟨h1, f1, h2, p1, fun j xs e q => by
    have e : (z.r.set i .un)[j]? = some (.og xs) := e
    by_cases w : i = j
    · subst w
      rw [List.getElem?_set_self hl] at e
      cases e
    · rw [List.getElem?_set_ne w] at e
      exact S.sep i j _ xs a w hz e e1 q⟩
  refine ⟨upd F a (.lst vs), sub_new f1, ((S.forget i).freeze o).learn e1 ?_⟩
  exact .lst (SqL.of upd_same) (dpAll_mono (sub_new f1) _ _ r1)
section
variable {X : Cx} {C : Ct} {z : Zs} {e a b : Expr} {st : Stmt} {sts : List Stmt} {pos p pn : Pos} {Q : Out → Zs → Prop}
theorem fs_freeze {ds : List PyData} (i : Nat) (hz : z.r[i]? = some (.ow ds)) (h : FS X C ⟨z.r.set i (sd (.list ds)), z.p⟩ sts Q) : FS X C z sts Q :=
  pss_con h fun D σ H ⟨F, S, q⟩ => by
    obtain ⟨F', s, S'⟩ := S.frozen hz
    exact ⟨F', S', fun o z' σ' H' F'' q1 S1 s1 => q o z' σ' H' F'' q1 S1 (s.trans s1)⟩
theorem fip_is {tg it : Expr} {ds ds' : List PyData} (h : FIP X C z tg it ds) (k : ds = ds') : FIP X C z tg it ds' := k ▸ h
/-- a loop over so many places -/
theorem f1_forI {iter tg : Expr} {body : List Stmt} (vs : List Nat) (n : Nat) (enc : Nat → PyData) (I : Nat → Zs → Prop) (hp : PassesOwn (model X.prog X.w) X.A X.env X.xe) (hc : X.calm = true)
    (hi : FIP X C z tg iter ((List.range n).map enc)) (h0 : I 0 z)
    (turn : ∀ i, i < n → ∀ z2, I i z2 → FG X C vs z2 tg (enc i) fun z3 => FS X C z3 body fun o z4 => match o with
      | .nx => I (i + 1) z4
      | .ct => I (i + 1) z4
      | .bk => Q .nx z4
      | .rt d => Q (.rt d) z4)
    (fin : ∀ z2, I n z2 → Q .nx z2)
    (hs : ∀ x, foldedSetIterable iter X.env x = pure x := by intro _; rfl) : F1 X C z (.For tg iter body [] pos) Q := by
  refine f1_for vs hp hc (fi_mono hi fun ds z1 ⟨e1, e2⟩ => ?_) hs
  subst e1 e2
  refine ⟨I, h0, fun i d z2 hd hst => ?_, fun z2 h => fin z2 (by rw [List.length_map, List.length_range] at h; exact h)⟩
  rw [List.getElem?_map] at hd
  by_cases hi : i < n
  · rw [List.getElem?_range hi] at hd
    cases hd
    exact turn i hi z2 hst
  · rw [List.getElem?_eq_none (by rw [List.length_range]; omega)] at hd
    cases hd
/-- x not in l, l a list of one's own -/
theorem ft_notinO {x : PyData} {ys : List PyData} {y : Str} (i : Nat) (hu : X.A.units + 65 < cLine) (hK : C.K = X.K) (ha : FP X C z a x) (hz : z.r[i]? = some (.ow ys)) (hx : SeqAt.shaped x = true) (hy : SeqAt.shaped (.list ys) = true)
    (hN : X.N[i]? = some y := by rfl) (hv : Vis X.env.scope y := by first | exact Or.inl rfl | exact Or.inr (Or.inl rfl) | exact Or.inr (Or.inr rfl))
    (hd : (y == ("__debug__" : Str)) = false := by decide) (hcd : (y == ("__classdict__" : Str)) = false := by decide) (hm : behindInMarks .NotIn (.Name y pn) = false := by rfl) :
    FPT X C z (.Compare a [.NotIn] [.Name y pn] pos) (!ys.any fun y => PyData.eqv y x) := by
  refine pt_con (pt_cmpR (op_notInD hu) ha (pe_var hN hv hd hcd) hm) ?_
  rintro σ H R ⟨F, S, k⟩
  refine ⟨F, S, fun v d z' H' F' ⟨e1, e2⟩ S' e r1 => ?_⟩
  subst e1 e2
  obtain ⟨q, vs, e1, h1, f1, _, _, rr⟩ := S'.own i hz
  refine ⟨.ref q, e1, ?_⟩
  have sub' : Sub (upd F' q (.lst vs)) H' := fun b u e => by
    by_cases w : b = q
    · subst w; rw [upd_same] at e; cases e; exact h1
    · rw [upd_ne w] at e; exact S'.sub b u e
  have g := g2_notin (C := C) hx hy (k := fun d => d = .d (.bool (!ys.any fun y => PyData.eqv y x))) rfl
  rw [hK] at g
  refine g (upd F' q (.lst vs)) H' v (.ref q) _ sub' (r1.mono (sub_new f1)) (.lst (SqL.of upd_same) (dpAll_mono (sub_new f1) _ _ rr)) fun w d H3 F3 ek gr r3 => ?_
  subst ek
  exact ⟨_, dp_bool r3, k _ _ _ _ ⟨rfl, rfl⟩ (S'.grow ⟨Sub.refl _, gr.h, S'.sub.trans gr.h, fun _ _ h => .inl h, fun _ _ h => h⟩) e⟩
end
end DL

set_option Elab.async false
set_option linter.all false
set_option maxRecDepth 100000
set_option maxHeartbeats 4000000
set_option autoImplicit false
namespace DL
open PySem PySem.Spec PyProof.Rows L2
/-! ### powers of great ints -/
def CPowW (i j : Int) : Prop := 0 ≤ j ∧ (Builtin.Int.intBits i : Int) * j ≤ 2 ^ 27
theorem op_powW {X : Cx} : OpR X (binaryOp .Pow) (rI CPowW fun i j => .int (i ^ j.toNat)) := opI fun _ _ _ _ _ _ _ hc q => pow_int hc.1 hc.2 q
section
variable {X : Cx} {C : Ct} {z : Zs} {a b c e elt iter : Expr} {pos p pn pp : Pos} {x nm : Str} {Q : DV → Zs → Prop}
theorem fp_powW {i j : Int} (ha : FP X C z a (.int i)) (hb : FP X C z b (.int j)) (hc : CPowW i j) : FP X C z (.BinOp a .Pow b pos) (.int (i ^ j.toNat)) := fp_bin (fun _ _ => pe_op op_powW) ha hb fun _ h => g2_I (gg := fun i j => i ^ j.toNat) hc h

/-! ### draws -/
theorem fe_addD {i : Int} (ha : FP X C z a (.int i)) (hb : FE X C z b fun y z1 => ∃ j : Int, y = .d (.int j) ∧ Q (.d (.int (i + j))) z1) : FE X C z (.BinOp a .Add b pos) Q :=
  fe_bin (fun _ _ => pe_op op_add) ha fun _ _ ⟨e1, e2⟩ => by
    subst e1 e2
    exact fe_mono hb fun y z1 ⟨j, ey, q⟩ => by
      subst ey
      exact g2_I0 (gg := fun i j => i + j) q
/-- a sum whose first part is drawn too -/
theorem fe_addDD (ha : FE X C z a fun x z1 => ∃ i : Int, x = .d (.int i) ∧ FE X C z1 b fun y z2 => ∃ j : Int, y = .d (.int j) ∧ Q (.d (.int (i + j))) z2) : FE X C z (.BinOp a .Add b pos) Q :=
  fe_bin (fun _ _ => pe_op op_add) ha fun _ _ ⟨i, e1, hb⟩ => by
    subst e1
    exact fe_mono hb fun y z1 ⟨j, ey, q⟩ => by
      subst ey
      exact g2_I0 (gg := fun i j => i + j) q
/-- the pot's bounds: n draws at most behind it -/
structure PB (π : Pot) (n : Nat) : Prop where
  a : 0 ≤ π.a
  b0 : 0 ≤ π.b
  b1 : π.b < 2305843009213693952
  c0 : 0 ≤ π.c
  c1 : π.c ≤ n
theorem PB.mono {π : Pot} {n m : Nat} (h : PB π n) (k : n ≤ m) : PB π m := ⟨h.a, h.b0, h.b1, h.c0, by have := h.c1; omega⟩
def Wtake : WF := fun ds π q => ∃ (u : Int) (n : Nat), ds = [.pot, .d (.int u)] ∧ 1 ≤ u ∧ u < 1073741824 ∧ PB π n ∧ n < 1000000 ∧ ∀ (d : Int) (π' : Pot), 0 ≤ d → d < u → PB π' (n + 1) → q (.d (.int d)) π'
def Wof : WF := fun ds π q => ∃ (xs : List PyData) (n : Nat), ds = [.pot, .d (.list xs)] ∧ xs ≠ [] ∧ xs.length ≤ 100000 ∧ PB π n ∧ n < 1000000 ∧ ∀ x ∈ xs, ∀ π', PB π' (n + 1) → q (.d x) π'
theorem fa_consP {es : List Expr} {d : PyData} {Q : List DV → Zs → Prop} (h : FP X C z e d) (hr : FA X C z es fun ds z2 => Q (.d d :: ds) z2) (hs : starEach (e :: es) X.env = (false, eval e X.env) :: starEach es X.env := by rfl) : FA X C z (e :: es) Q :=
  fa_cons h (fun _ _ ⟨e1, e2⟩ => by
    subst e1 e2
    exact hr) hs
/-- [pot, e] -/
theorem fa_potP {d : PyData} {Q : List DV → Zs → Prop} (i : Nat) (hz : z.r[i]? = some sp) (he : FE X C z e fun y z1 => Q [.pot, y] z1)
    (hN : X.N[i]? = some x := by rfl) (hv : Vis X.env.scope x := by first | exact Or.inl rfl | exact Or.inr (Or.inl rfl) | exact Or.inr (Or.inr rfl))
    (hd : (x == ("__debug__" : Str)) = false := by decide) (hcd : (x == ("__classdict__" : Str)) = false := by decide)
    (hs : starEach [.Name x pn, e] X.env = (false, eval (.Name x pn) X.env) :: starEach [e] X.env := by rfl) (hs2 : starEach [e] X.env = (false, eval e X.env) :: starEach [] X.env := by rfl) : FA X C z [.Name x pn, e] Q :=
  fa_cons (fe_name (Q := fun d z1 => d = .pot ∧ z1 = z) i hN hv hz ⟨rfl, rfl⟩ hd hcd) (fun _ _ ⟨e1, e2⟩ => by
    subst e1 e2
    exact fa_cons he (fun y z1 q => fa_nil q) hs2) hs
theorem fe_take {k n m : Nat} {u : Int} (i : Nat) (D : HasDef X.prog X.w X.K X.mg X.base "_law_take" k ["pot", "upto"] Wtake) (hr : Room n X.A) (hn : k ≤ n) (hK : C.K = X.K) (hz : z.r[i]? = some sp) (he : FP X C z e (.int u)) (h1 : 1 ≤ u) (h2 : u < 1073741824) (hp : PB z.p m) (hm : m < 1000000)
    (q : ∀ (d : Int) (π' : Pot), 0 ≤ d → d < u → PB π' (m + 1) → Q (.d (.int d)) ⟨z.r, π'⟩)
    (hN : X.N[i]? = some x := by rfl) (hv : Vis X.env.scope x := by first | exact Or.inl rfl | exact Or.inr (Or.inl rfl) | exact Or.inr (Or.inr rfl))
    (hd : (x == ("__debug__" : Str)) = false := by decide) (hcd : (x == ("__classdict__" : Str)) = false := by decide)
    (hs : starEach [.Name x pn, e] X.env = (false, eval (.Name x pn) X.env) :: starEach [e] X.env := by rfl) (hs2 : starEach [e] X.env = (false, eval e X.env) :: starEach [] X.env := by rfl)
    (hg : Gl X "_law_take" := by rfl) (hpl : (backTo pos (starEach [e] X.env)).any (·.1) = false := by rfl) : FE X C z (.Call (.Name "_law_take" p) [.Name x pn, e] [] pos) Q :=
  fe_def D hr hn hK (fa_potP (d := .none) i hz (fe_mono he fun y z1 ⟨e1, e2⟩ => by
    subst e1 e2
    exact ⟨u, m, rfl, h1, h2, hp, hm, q⟩) hN hv hd hcd hs hs2) hg (by decide) hs hpl
theorem fe_of {k n : Nat} (i : Nat) (D : HasDef X.prog X.w X.K X.mg X.base "_law_of" k ["pot", "some"] Wof) (hr : Room n X.A) (hn : k ≤ n) (hK : C.K = X.K) (hz : z.r[i]? = some sp)
    (he : FE X C z e fun y z1 => ∃ (xs : List PyData) (m : Nat), y = .d (.list xs) ∧ xs ≠ [] ∧ xs.length ≤ 100000 ∧ PB z1.p m ∧ m < 1000000 ∧ ∀ x ∈ xs, ∀ π', PB π' (m + 1) → Q (.d x) ⟨z1.r, π'⟩)
    (hN : X.N[i]? = some x := by rfl) (hv : Vis X.env.scope x := by first | exact Or.inl rfl | exact Or.inr (Or.inl rfl) | exact Or.inr (Or.inr rfl))
    (hd : (x == ("__debug__" : Str)) = false := by decide) (hcd : (x == ("__classdict__" : Str)) = false := by decide)
    (hs : starEach [.Name x pn, e] X.env = (false, eval (.Name x pn) X.env) :: starEach [e] X.env := by rfl) (hs2 : starEach [e] X.env = (false, eval e X.env) :: starEach [] X.env := by rfl)
    (hg : Gl X "_law_of" := by rfl) (hpl : (backTo pos (starEach [e] X.env)).any (·.1) = false := by rfl) : FE X C z (.Call (.Name "_law_of" p) [.Name x pn, e] [] pos) Q :=
  fe_def D hr hn hK (fa_potP (d := .none) i hz (fe_mono he fun y z1 ⟨xs, m, ey, h1, h2, h3, h4, h5⟩ => by
    subst ey
    exact ⟨xs, m, rfl, h1, h2, h3, h4, h5⟩) hN hv hd hcd hs hs2) hg (by decide) hs hpl
/-- f(pot) -/
theorem fe_potCall {k n : Nat} {y : Str} {ps : List Str} {W : WF} (i : Nat) (D : HasDef X.prog X.w X.K X.mg X.base y k ps W) (hr : Room n X.A) (hn : k ≤ n) (hK : C.K = X.K) (hz : z.r[i]? = some sp) (w : W [.pot] z.p fun d π' => Q d ⟨z.r, π'⟩)
    (hN : X.N[i]? = some x := by rfl) (hv : Vis X.env.scope x := by first | exact Or.inl rfl | exact Or.inr (Or.inl rfl) | exact Or.inr (Or.inr rfl))
    (hd : (x == ("__debug__" : Str)) = false := by decide) (hcd : (x == ("__classdict__" : Str)) = false := by decide)
    (hs : starEach [.Name x pn] X.env = (false, eval (.Name x pn) X.env) :: starEach [] X.env := by rfl)
    (hg : Gl X y := by rfl) (hdb : (y == ("__debug__" : Str)) = false := by decide) (hpl : (backTo pos (starEach [] X.env)).any (·.1) = false := by rfl) : FE X C z (.Call (.Name y p) [.Name x pn] [] pos) Q :=
  fe_def D hr hn hK (fa_cons (fe_name (Q := fun d z1 => d = .pot ∧ z1 = z) i hN hv hz ⟨rfl, rfl⟩ hd hcd) (fun _ _ ⟨e1, e2⟩ => by
    subst e1 e2
    exact fa_nil w) hs) hg hdb hs hpl
/-- a comprehension whose element draws -/
theorem lcd_mapN {scope : Scope} {Q : List PyData → Zs → Prop} (i : Nat) (J : Nat → List PyData → Pot → Prop) (hN : X.N.Nodup)
    (hi : FI X C z (.Name nm pp) iter fun ds z1 => noOwnAt z1.r [i] = true ∧ J 0 [] z1.p ∧
      (∀ k d acc p, ds[k]? = some d → J k acc p → acc.length < 100000 ∧ ∀ (s : Shared) (H : Hp) (cc : Addr) (cl : List (Str × Addr)) (fp : List Addr) (C' : Ct), C'.K = C.K → C'.P = C.P →
        FE (blkX X scope s H cc cl fp) C' ⟨(wipeR z1.r [i]).set i (sd d), p⟩ elt fun y z5 => ∃ yd, y = .d yd ∧ z5.r = (wipeR z1.r [i]).set i (sd d) ∧ J (k + 1) (acc ++ [yd]) z5.p) ∧
      ∀ acc p, J ds.length acc p → Q acc ⟨z1.r, p⟩)
    (hx : X.N[i]? = some nm := by rfl) (hl : Loc (relS scope X.env.scope) nm := by first | exact .inl rfl | exact .inr rfl)
    (hf : (scope.names.lookup nm == some .cell) = true ∨ (relS scope X.env.scope).names.lookup nm = some .local := by first | exact .inr rfl | exact .inl rfl) :
    FI X C z (.Name nm pp) iter (LcQ X C scope [i] (.Name nm pp) elt [] Q) := by
  refine fi_mono hi fun ds z1 ⟨h1, h2, h3, h4⟩ => ⟨h1, J, h2, fun k d acc p hd hJ => ?_, h4⟩
  obtain ⟨g1, g2⟩ := h3 k d acc p hd hJ
  refine ⟨by rw [sizeLine_eq]; omega, fun s H cc cl fp C' hk hp => ?_⟩
  refine fg_name i hN hx hl ⟨(Outside.wipe z1.r [i]).set (by simp) _, fun s H cc cl fp => fts_nil ⟨rfl, ?_⟩⟩ (by simp) hf
  rw [if_pos rfl]
  intro s H cc cl fp
  exact fe_mono (g2 s H cc cl fp C' hk hp) fun y z5 ⟨yd, e1, e2, e3⟩ => ⟨yd, e1, e2, e3⟩
end
end DL

set_option Elab.async false
set_option linter.all false
set_option maxRecDepth 100000
set_option maxHeartbeats 4000000
set_option autoImplicit false
namespace DL
open PySem PySem.Spec PyProof.Rows L2
section
variable {X : Cx} {C : Ct} {z : Zs} {a b c e elt iter : Expr} {es : List Expr} {pos p pn pp : Pos} {x nm : Str}
/-! ### tests that draw -/
theorem fw_or1E {Q : Bool → Zs → Prop} (ha : FT X C z a Q) : FW X C z (.BoolOp .Or [a] pos) Q := pw_or1 ha
theorem fw_orE {Q : Bool → Zs → Prop} (ha : FT X C z a fun k z1 => (k = true → Q true z1) ∧ (k = false → FW X C z1 (.BoolOp .Or (b :: es) pos) Q)) : FW X C z (.BoolOp .Or (a :: b :: es) pos) Q := by
  have pb : PW X (.BoolOp .Or (b :: es) pos) (fun σ H R => ∃ z1, FW X C z1 (.BoolOp .Or (b :: es) pos) Q ∧ tWT C z1 Q σ H R) := ⟨fun wh pins s σ H R I ⟨z1, f, w⟩ => f.run wh pins s σ H R I w⟩
  refine pw_con (pw_or ha pb) ?_
  rintro σ H R ⟨F, S, k⟩
  refine ⟨F, S, fun b' z1 H1 F1 ⟨h1, h2⟩ S1 s1 => ?_⟩
  cases b' with
  | true =>
    rw [if_pos rfl]
    exact k true z1 H1 F1 (h1 rfl) S1 s1
  | false =>
    rw [if_neg Bool.false_ne_true]
    exact ⟨z1, h2 rfl, F1, S1, fun b2 z2 H2 F2 q S2 s2 => k b2 z2 H2 F2 q S2 (s1.trans s2)⟩
theorem ft_wE {Q : Bool → Zs → Prop} (h : FW X C z e Q) : FT X C z e Q := PW.pt h
theorem ft_notE {Q : Bool → Zs → Prop} (h : FT X C z a fun k z1 => Q (!k) z1) : FT X C z (.UnaryOp .Not a pos) Q := by
  refine pt_con (pt_not h) ?_
  rintro σ H R ⟨F, S, k⟩
  exact ⟨F, S, fun b' z' H' F' q S' e => k _ _ _ _ q S' e⟩
theorem ft_valE {Q : Bool → Zs → Prop} (h : FE X C z e fun d z1 => ∃ k, d = .d (.bool k) ∧ Q k z1) (he : ∀ whole, isTrue e X.env whole = (do let v ← whole; standAt e.pos; holding [v] (truthy v)) := by intro _; rfl) : FT X C z e Q := by
  refine pt_con (pt_val h he) ?_
  rintro σ H R ⟨F, S, k⟩
  refine ⟨F, S, fun v d z' H' F' ⟨q, e1, h1⟩ S' e r => ?_⟩
  subst e1
  exact ⟨q, dp_bool r, k _ _ _ _ h1 S' e⟩
theorem fa_consE {Q : List DV → Zs → Prop} (h : FE X C z e fun d z1 => FA X C z1 es fun ds z2 => Q (d :: ds) z2) (hs : starEach (e :: es) X.env = (false, eval e X.env) :: starEach es X.env := by rfl) : FA X C z (e :: es) Q :=
  fa_cons h (fun _ _ q => q) hs
/-- one of a list that is written, the last of them drawn -/
theorem fe_list {Q' : DV → Zs → Prop} (h : FA X C z es fun ds z1 => ∃ xs, ds = xs.map .d ∧ xs.length ≤ sizeLine ∧ Q' (.d (.list xs)) z1) : FE X C z (.List es pos) Q' := fe_fl (fl_list (Q := fun xs z1 => Q' (.d (.list xs)) z1) h)
end
end DL
namespace DL
open PySem PySem.Spec PyProof.Rows L2
theorem fa_fpa {X : Cx} {C : Ct} {z : Zs} {es : List Expr} {ds : List PyData} {Q : List DV → Zs → Prop} (h : FPA X C z es ds) (k : Q (ds.map .d) z) : FA X C z es Q :=
  fa_mono h fun _ _ ⟨e1, e2⟩ => by
    subst e1 e2
    exact k
end DL

namespace DL
open PySem PySem.Spec PyProof.Rows L2
theorem fa_potE {X : Cx} {C : Ct} {z : Zs} {es : List Expr} {pn : PySem.Pos} {x : Str} {Q : List DV → Zs → Prop} (i : Nat) (hz : z.r[i]? = some sp) (hr : FA X C z es fun ds z2 => Q (.pot :: ds) z2)
    (hN : X.N[i]? = some x := by rfl) (hv : Vis X.env.scope x := by first | exact Or.inl rfl | exact Or.inr (Or.inl rfl) | exact Or.inr (Or.inr rfl))
    (hd : (x == ("__debug__" : Str)) = false := by decide) (hcd : (x == ("__classdict__" : Str)) = false := by decide)
    (hs : starEach (.Name x pn :: es) X.env = (false, eval (.Name x pn) X.env) :: starEach es X.env := by rfl) : FA X C z (.Name x pn :: es) Q :=
  fa_cons (fe_name (Q := fun d z1 => d = .pot ∧ z1 = z) i hN hv hz ⟨rfl, rfl⟩ hd hcd) (fun _ _ ⟨e1, e2⟩ => by
    subst e1 e2
    exact hr) hs
end DL

set_option Elab.async false
set_option linter.all false
set_option maxRecDepth 100000
set_option maxHeartbeats 4000000
set_option autoImplicit false
namespace DL
open PySem PySem.Spec PyProof.Rows L2

/-! ### enumerate of a tuple -/
abbrev enumO (it : Addr) : Obj := { cls := .type "enumerate", data := .fields #[.none, .bool false, .ref it, rawInt 0, .none, .none] }
abbrev tupItO (t : Addr) : Obj := { cls := .type "tuple_iterator", data := .fields #[.ref t, .int 0 0] }
theorem enum_newT (t : Addr) (xs : Array Value) (n : Nat) (dct : Option Addr) (sl : Array (Option Value)) :
    Meets (Builtin.«enumerate.__new__» ⟨[.type "enumerate", .ref t], []⟩) (fun _ R s => s.heap.get? t = some { cls := .type "tuple", dict := dct, data := .seq xs n, slots := sl } ∧
      R (.ok (.ret (.ref (s.heap.push (tupItO t)).objs.size))) { s with heap := (s.heap.push (tupItO t)).push (enumO s.heap.objs.size) }) :=
  .of_wp fun prog w A R sh hh => by
    obtain ⟨hp, gs, dr, tk, os⟩ := sh
    obtain ⟨ht, hr⟩ := hh
    have hT : Heap.IsTuple (Shared.heap ⟨hp, gs, dr, tk, os⟩) t xs := ⟨_, ht, rfl, n, rfl⟩
    have isub := sub_enumerate
    wp_walk using wpAny_loadPart' ht
    refine wpAny_stack_any fun st => wpAny_pure ?_
    split
    · rename_i c _ _ _ _ _
      cases (c == Value.type "enumerate") <;> (wp_walk using wpAny_loadPart' ht, wpAny_pyIter_tuple hT; exact ⟨_, rfl, hr⟩)
    · wp_walk using wpAny_loadPart' ht, wpAny_pyIter_tuple hT
      exact ⟨_, rfl, hr⟩
end DL

set_option Elab.async false
set_option linter.all false
set_option maxRecDepth 100000
set_option maxHeartbeats 4000000
set_option autoImplicit false
namespace DL
open PySem PySem.Spec PyProof.Rows L2

theorem call_enumT {prog : Program} {w : World} {A : Around} {E : Value → Shared → Prop} {s : Shared} {l : Addr} {items : Array Value} {Q : Value → Shared → Prop} (hL : s.heap.IsTuple l items)
    (h : ∀ h', IsEnum h' (s.heap.objs.size + 1) s.heap.objs.size 0 .none → h'.IsTupleIter s.heap.objs.size l 0 → h'.objs.size = s.heap.objs.size + 2 →
      (∀ b o, s.heap.get? b = some o → h'.get? b = some o) → Q (.ref (s.heap.objs.size + 1)) { s with heap := h' }) :
    wpAny (model prog w) A (call (.type "enumerate") [.ref l]) Q E s := by
  obtain ⟨⟨c, dct, dt, sl⟩, hl, hc, n, hd⟩ := hL
  replace hc : c = .type "tuple" := hc
  replace hd : dt = .seq items n := hd
  subst hc hd
  refine callType_new F.called_enumerate (by decide) (F.typeCall_enumerate_1 _) (F.newCall_enumerate_1 _) (fun obj => F.args_object_init_2 obj _) F.entry_enumerate_new
    (enum_newT l items n dct sl) ⟨hl, ?_⟩
  have hz : (s.heap.push (tupItO l)).objs.size = s.heap.objs.size + 1 := Heap.size_push ..
  show _ ∧ _
  rw [hz]
  have he : IsEnum ((s.heap.push (tupItO l)).push (enumO s.heap.objs.size)) (s.heap.objs.size + 1) s.heap.objs.size 0 .none := by
    have := Heap.get?_push_size (s.heap.push (tupItO l)) (o := enumO s.heap.objs.size) rfl
    rw [hz] at this; exact this
  refine ⟨⟨_, he, rfl⟩, h _ he ⟨_, Heap.get?_push_of_some _ (Heap.get?_push_size _ rfl), rfl, rfl⟩ (by rw [Heap.size_push, hz]) fun b o x => Heap.get?_push_of_some _ (Heap.get?_push_of_some _ x)⟩
/-- the tuple at a, each item in a new pair with its place -/
def IteT (K : PySem.W.Frag) (a : Addr) : It :=
  ⟨fun i H => ∃ (xs : List V) (x : V), SqT K H a xs ∧ xs[i]? = some x, fun i H v H' => ∃ T x, v = .ref T ∧ H T = none ∧ H' = upd H T (.tup [.int (i : Nat), x]) ∧ ∀ xs, SqT K H a xs → xs[i]? = some x, fun i H => ∃ xs : List V, SqT K H a xs ∧ xs.length ≤ i⟩
theorem turn_enumT {P : Program} {w : World} {K : PySem.W.Frag} {elts : List Expr} {kk : Nat} {tpos : Pos} (a e it : Addr) (hai : a ≠ it) (hae : a ≠ e) :
    Turn P w K (.Tuple elts kk tpos) (IteT K a) [e, it] e (fun i h => (∃ old, IsEnum h e it ((i : Nat) : Int) old) ∧ h.IsTupleIter it a i ∧ e ≠ it) where
  mem := by simp
  obj := fun i h st b hb => by
    obtain ⟨⟨old, he⟩, ⟨o, ho, hc, hd⟩, _⟩ := st
    have e' : b = e ∨ b = it := by simpa using hb
    rcases e' with z | z
    · rw [z]; exact ⟨_, he, fun v q => nomatch q⟩
    · rw [z]; exact ⟨o, ho, fun v q => by rw [hd] at q; cases q⟩
  keep := fun i h h' st k => let ⟨⟨old, he⟩, hi, hne⟩ := st; ⟨⟨old, k e (by simp) _ he⟩, hi.at fun o q => k it (by simp) o q, hne⟩
  item := by
    intro X hP hw hK hc i pins s σ H E I hf st hg
    subst hP hw hK
    obtain ⟨⟨old, he⟩, hit, hne⟩ := st
    obtain ⟨xs, x, hq, hx⟩ := hg
    obtain ⟨its, rv, p, hz⟩ := I.tuple hq
    obtain ⟨u, hu, ru⟩ := rv.get hx
    have hel : e < s.heap.objs.size := Heap.lt_size he
    have hil : it < s.heap.objs.size := by obtain ⟨_, q, _⟩ := hit; exact Heap.lt_size q
    have hlt : i < its.toArray.size := by
      have := List.getElem?_eq_some_iff.mp hu
      simp only [List.size_toArray]
      exact this.1
    refine wpAny_pyNext_enum_itemD (Draws.tuple (A := X.A.in1) (I.ok.hd hc) it a hai its.toArray) he ⟨hit, p⟩ hlt hne (by simp; exact ⟨hne, fun q => hae q.symm⟩) fun y h' tk hP ho hst hT hsz hk => ?_
    have hy : y = u := by
      have : its[i]? = some y := by simpa using hP
      rw [hu] at this
      exact (Option.some.inj this).symm
    subst hy
    refine ⟨_, rfl, wpAny_letOwnedTupleGo_enum (s := { s with heap := h', toks := tk + 1 }) ho fun h'' he' sb => ?_⟩
    have hT2 : h''.get? s.heap.objs.size = some { cls := .type "tuple", data := .seq #[.int i tk, y] } := (sb.2 _ (Nat.ne_of_gt hel)).trans hT
    have new : ObjOk X.prog X.w (upd H s.heap.objs.size (.tup [.int (i : Nat), x])) h'' s.heap.objs.size (.tup [.int (i : Nat), x]) :=
      ⟨by show 2 ≤ sizeLine; decide, [.int i tk, y], .cons ⟨_, rfl⟩ (.cons ru .nil), ⟨_, hT2, rfl, _, rfl⟩⟩
    have I1 : Inv X pins σ (upd H s.heap.objs.size (.tup [.int (i : Nat), x])) { s with heap := h'', toks := tk + 1 } :=
      I.turnedNew (ch := [e, it]) (fun b ob hb q => (sb.2 b (fun z => hb (by simp [z]))).trans (hk b ob (fun z => hb (by simp [z])) (fun z => hb (by simp [z])) q)) hf (Nat.le_refl _) new
    refine ⟨.ref s.heap.objs.size, _, I1, rfl, ⟨_, x, rfl, I.hok.fresh (Nat.le_refl _), rfl, fun ys hy => by rw [I.tuple_inj hy hq]; exact hx⟩, ⟨⟨y, ?_⟩, hst.1.at fun o q => (sb.2 it (Ne.symm hne)).trans q, hne⟩, fun b hb => ?_⟩
    · have e1 : ((i + 1 : Nat) : Int) = (i : Int) + 1 := by omega
      rw [e1]; exact he'
    · have hb' : b < s.heap.objs.size := by
        have e' : b = e ∨ b = it := by simpa using hb
        rcases e' with z | z
        · rw [z]; exact hel
        · rw [z]; exact hil
      rw [upd_ne (Nat.ne_of_lt hb')]
      exact (hf b hb).1
  done := by
    intro X hP hw hK hc i pins s σ H E I hf st hg
    subst hP hw hK
    obtain ⟨⟨old, he⟩, hit, hne⟩ := st
    obtain ⟨xs, hq, hx⟩ := hg
    obtain ⟨its, rv, p, hz⟩ := I.tuple hq
    obtain ⟨f0, f1, f2, f3, f4, f5⟩ := hf it (by simp)
    have hl := rv.length
    obtain ⟨o, ho, hcc, hd⟩ := id hit
    obtain ⟨ol, hol, _, nl, hdl⟩ := id p
    have hT : s.TypeIs (.ref e) "enumerate" := ⟨_, he, rfl⟩
    unfold pyNext
    refine wpAny_bind (wpAny_attempt (wpAny_callSpecial?_slot (name := Str.ofString "__next__") hT F.slot_enumerate_next
      (wpAny_call_entry F.slot_enumerate_next hT F.entry_enumerate_next ?_ (F.args_enumerate_next_1 _))))
    show wpAny _ _ (field (.ref e) 2 >>= _) _ _ _
    refine wpAny_bind (wpAny_field he rfl (x := .ref it) rfl ?_)
    refine wpAny_bind (wpAny_nextOf_tuple_end (I.ok.hd hc) hit p (by simp; omega) fun h' x he' hx' => ?_)
    obtain ⟨o, ho, hc⟩ := hx'
    refine wpAny_bind (wpAny_isInstance (T := "StopIteration") (b := true) ⟨o, ho, hc⟩ isSubtype_stop ?_)
    refine wpAny_pure ⟨rfl, I.turned (t' := s.toks) (fun b o hb q => he' b o hb q) f0 f1 f3 f4 f5⟩
  self := fun A i s Q E st h => let ⟨⟨_, he⟩, _⟩ := st; wpAny_pyIter_enum he h
def iEnumT (K : PySem.W.Frag) (ta : TA) : TI := fun σ H R => ta σ H fun vs H1 => ∃ a xs, vs = [.ref a] ∧ SqT K H1 a xs ∧ R (IteT K a) H1
theorem pi_enumT {X : Cx} {e : Expr} {ta : TA} {p pos tpos : Pos} {elts : List Expr} {kk : Nat} (hg : Gl X "enumerate") (hm : X.mg "enumerate" = none) (ha : PA X [e] ta) (hs : starEach [e] X.env = [(false, eval e X.env)] := by rfl) :
    PI X (.Tuple elts kk tpos) (.Call (.Name "enumerate" p) [e] [] pos) (iEnumT X.K ta) := by
  refine ⟨fun pins s σ H R I h => ?_⟩
  refine Call_ (ld_blt I hg hm boot_enumerate (PyProof.Rows.callWith_type1 (thn (ha.run pos pins s σ H _ I h) fun us s1 ⟨vs, H1, I1, r1, q1⟩ => ?_) hs rfl))
  obtain ⟨a, xs, ex, hq, q⟩ := q1
  subst ex
  cases r1 with
  | cons r rr =>
    cases rr
    cases r
    obtain ⟨its, rv, p', hz⟩ := I1.tuple hq
    obtain ⟨o1, ho1, _⟩ := id p'
    have hlt : a < s1.heap.objs.size := Heap.lt_size ho1
    refine call_enumT p' fun h' he hit hsz hk => wpAny_pyIter_enum he ?_
    have I2 : Inv X pins σ H1 { s1 with heap := h' } := I1.kept (t' := s1.toks) hk
    refine ⟨s1.heap.objs.size + 1, [s1.heap.objs.size + 1, s1.heap.objs.size], _, _, H1, rfl, I2, turn_enumT a (s1.heap.objs.size + 1) s1.heap.objs.size (Nat.ne_of_lt hlt) (Nat.ne_of_lt (Nat.lt_succ_of_lt hlt)), ⟨⟨.none, he⟩, hit, Nat.succ_ne_self _⟩, fun b hb => ?_, q⟩
    have e' : b = s1.heap.objs.size + 1 ∨ b = s1.heap.objs.size := by simpa using hb
    have hle : s1.heap.objs.size ≤ b := by
      rcases e' with z | z
      · rw [z]; exact Nat.le_add_right _ _
      · rw [z]; exact Nat.le_refl _
    exact I1.fpOk hle (I1.hok.fresh hle)
/-- the pairs of places and items -/
def placed (ds : List PyData) : List PyData := ds.zipIdx.map fun q => .tuple [.int (q.2 : Nat), q.1]
theorem iteT_ok {C : Ct} {F : Hp} {a : Addr} {vs : List V} {ds : List PyData} (h1 : SqT C.K F a vs) (r1 : DpAll C.K F vs ds) : ItOk C (IteT C.K a) F (placed ds) where
  go := fun i H s hi => by
    unfold placed at hi
    rw [List.length_map, List.length_zipIdx] at hi
    have l1 := dpAll_len r1
    exact ⟨vs, vs[i]'(by omega), s.st h1, List.getElem?_eq_getElem _⟩
  stop := fun H s => by
    refine ⟨vs, s.st h1, ?_⟩
    unfold placed
    rw [List.length_map, List.length_zipIdx, dpAll_len r1]
    exact Nat.le_refl _
  yld := fun i H F' x H' s1 s2 y hi => by
    obtain ⟨T, v, ex, hT, eH, f1⟩ := y
    subst ex eH
    obtain ⟨d, ed, rd⟩ := dpAll_at r1 (f1 vs ((s1.trans s2).st h1))
    have g : Grow H F' (upd H T (.tup [.int (i : Nat), v])) (upd F' T (.tup [.int (i : Nat), v])) := Grow.new s2 hT
    refine ⟨.tuple [.int (i : Nat), d], _, ?_, g, .tup (SqT.of upd_same) (.cons (.int _) (.cons (dp_mono (s1.trans g.f) _ _ rd) .nil))⟩
    unfold placed
    rw [List.getElem?_map, List.getElem?_zipIdx, ed]
    simp
section
variable {X : Cx} {C : Ct} {z : Zs} {a : Expr} {pos p tpos : Pos} {kk : Nat} {elts : List Expr}
theorem fip_enumT {ds : List PyData} (hK : C.K = X.K) (hm : X.mg "enumerate" = none) (ha : FP X C z a (.tuple ds)) (hg : Gl X "enumerate" := by rfl) (hs : starEach [a] X.env = [(false, eval a X.env)] := by rfl) : FIP X C z (.Tuple elts kk tpos) (.Call (.Name "enumerate" p) [a] [] pos) (placed ds) := by
  refine pi_con (pi_enumT hg hm (arg1 ha hs) hs) ?_
  rintro σ H R ⟨F, S, k⟩
  refine ⟨F, S, fun vs ds' z1 H1 F1 ⟨e1, e2⟩ S1 s1 r => ?_⟩
  subst e1 e2
  obtain ⟨v, ev, r1⟩ := paired1 r
  obtain ⟨q, ws, e1, h1, d1⟩ := dp_tuple r1
  subst ev e1
  rw [← hK]
  exact ⟨q, ws, rfl, S1.sub.st h1, k _ _ z1 H1 F1 ⟨rfl, rfl⟩ S1 s1 (iteT_ok h1 d1)⟩
end
end DL

set_option Elab.async false
set_option linter.all false
set_option maxRecDepth 100000
set_option maxHeartbeats 4000000
set_option autoImplicit false
namespace DL
open PySem PySem.Spec PyProof.Rows L2

/-! ### a tuple turned round -/
theorem places_rev (n : Nat) : Builtin.Slice.slicePlaces ((n : Int) - 1) (-1) (-1) = n := by
  unfold Builtin.Slice.slicePlaces
  rw [if_neg (by decide)]
  by_cases h : (n : Int) - 1 > -1
  · rw [if_pos h]
    have : ((n : Int) - 1 - -1 - 1) / (- -1) + 1 = n := by
      show ((n : Int) - 1 - -1 - 1) / 1 + 1 = n
      rw [Int.ediv_one]; omega
    rw [this]; rfl
  · rw [if_neg h]
    show 0 = n
    omega
theorem sliceApplied_rev {prog : Program} {w : World} {A : Around} {E : Value → Shared → Prop} {s : Shared} {sl : Addr} {vl vu vs : Value} {n : Nat} {Q : Int × Int × Nat → Shared → Prop} (hs : s.heap.IsSliceOf sl vl vu vs) (pl : IsPart vl none) (pu : IsPart vu none) (ps : IsPart vs (some (-1)))
    (h : Q ((n : Int) - 1, -1, n) s) : wpAny (model prog w) A (Builtin.Slice.sliceApplied (.ref sl) (pure (n : Int))) Q E s := by
  obtain ⟨os, hos, hcs, hds⟩ := id hs
  unfold Builtin.Slice.sliceApplied Builtin.Slice.sliceFields
  refine wpAny_bind (wpAny_bind (wpAny_field hos hds (x := vl) rfl (wpAny_bind (wpAny_field hos hds (x := vu) rfl (wpAny_bind (wpAny_field hos hds (x := vs) rfl (wpAny_pure ?_)))))))
  refine wpAny_bind (HT.slicePart_ ps ?_)
  show wpAny _ _ (if ((-1 : Int) == 0) = true then _ else _) _ _ s
  rw [if_neg (by decide)]
  refine wpAny_bind (HT.slicePart_ pl (wpAny_bind (HT.slicePart_ pu (wpAny_bind (wpAny_pure ?_)))))
  show wpAny _ _ (pure ((n : Int) - 1, (-1 : Int), Builtin.Slice.slicePlaces ((n : Int) - 1) (-1) (-1))) _ _ s
  rw [places_rev]
  exact wpAny_pure h
theorem pick_rev (xs : Array Value) : ((List.range xs.size).filterMap fun (m : Nat) => xs[(((xs.size : Int) - 1) + (m : Int) * -1).toNat]?) = xs.toList.reverse := by
  have e : ((List.range xs.size).filterMap fun (m : Nat) => xs[(((xs.size : Int) - 1) + (m : Int) * -1).toNat]?) = ((List.range xs.size).map (fun m => xs.size - 1 - m)).filterMap (fun i => xs[i]?) := by
    rw [List.filterMap_map]
    congr 1
    funext m
    show _ = xs[xs.size - 1 - m]?
    congr 1
    omega
  rw [e, PySem.W.krv_range, List.filterMap_reverse, PySem.W.krv_all]
theorem getItem_tuple_rev {prog : Program} {w : World} {A : Around} {E : Value → Shared → Prop} {s : Shared} {t sl : Addr} {items : Array Value} {vl vu vs : Value} {Q : Value → Shared → Prop} (ht : IsTup s.heap t items) (hs : s.heap.IsSliceOf sl vl vu vs) (pl : IsPart vl none) (pu : IsPart vu none) (ps : IsPart vs (some (-1)))
    (h : Q (.ref s.heap.objs.size) { s with heap := s.heap.push { cls := .type "tuple", data := .seq items.toList.reverse.toArray } })
    (hsz : items.size ≤ sizeLine) : wpAny (model prog w) A (getItem (.ref t) (.ref sl)) Q E s := by
  have htake : sizeOk (.seq items.toList.reverse.toArray) := by
    show items.toList.reverse.toArray.size ≤ sizeLine
    rw [List.size_toArray, List.length_reverse, Array.length_toList]
    exact hsz
  obtain ⟨os, hos, hcs, hds⟩ := id hs
  have hTs : s.TypeIs (.ref sl) "slice" := ⟨os, hos, hcs⟩
  unfold getItem
  try with_reducible refine wpAny_holding ?_
  first | refine wpAny_bind (wpAny_pure ?_) | skip
  refine wpAny_bind (wpAny_sequenceKey ht.typeIs (by decide) ?_)
  refine wpAny_bind (wpAny_callSpecial?_slot (name := Str.ofString "__getitem__") ht.typeIs PyProof.Rows.slot_tuple_getitem
    (wpAny_call_entry PyProof.Rows.slot_tuple_getitem ht.typeIs entry_tuple_getitem ?_ (args_tuple_getitem _ _)))
  show wpAny _ _ (Builtin.Tuple.tupleItemsOf (.ref t) >>= _) _ _ s
  refine wpAny_bind (tupleItemsOf_ ht ?_)
  refine wpAny_bind (wpAny_typeOf hTs ?_)
  rw [if_pos (by decide)]
  refine wpAny_bind (sliceApplied_rev hs pl pu ps ?_)
  have hno : ¬ ((((items.size : Int) - 1) == 0 && (-1 : Int) == 1 && items.size == items.size) = true) := by
    intro q
    rw [Bool.and_eq_true, Bool.and_eq_true] at q
    exact absurd q.1.2 (by decide)
  show wpAny _ _ (if (((items.size : Int) - 1) == 0 && (-1 : Int) == 1 && items.size == items.size) = true then _ else _) _ _ s
  rw [if_neg hno, pick_rev]
  first
    | exact wpAny_bind (m := Builtin.Tuple.tupleExact _) (wpAny_newObj_type (wpAny_pure ⟨_, rfl, wpAny_pure h⟩) htake)
    | exact wpAny_bind (m := Builtin.Tuple.tupleExact _) (wpAny_newObj_type (wpAny_bind (wpAny_pure (wpAny_pure ⟨_, rfl, wpAny_pure h⟩))) htake)
    | exact wpAny_bind (wpAny_bind (m := Builtin.Tuple.tupleExact _) (wpAny_newObj_type (wpAny_pure (wpAny_pure ⟨_, rfl, wpAny_pure h⟩)) htake))
    | exact wpAny_bind (wpAny_bind (m := Builtin.Tuple.tupleExact _) (wpAny_newObj_type (wpAny_pure ⟨_, rfl, wpAny_pure h⟩) htake))
def tRevT (K : PySem.W.Frag) (te : TE) : TE := fun σ H Q => te σ H fun x H1 => ∃ a xs, x = .ref a ∧ SqT K H1 a xs ∧ ∀ p, H1 p = none → Q (.ref p) (upd H1 p (.tup xs.reverse))
theorem pe_revT {X : Cx} {te : TE} {e : Expr} {k : Nat} {p1 p2 p3 pos : Pos} (he : PE X e te) : PE X (.Subscript e (.Slice none none (some (.UnaryOp .USub (.Constant (.int 1) k p1) p2)) p3) pos) (tRevT X.K te) := by
  refine ⟨fun pins s σ H Q I h => ?_⟩
  refine Subscript_ (thn (he.run pins s σ H _ I h) fun v s1 ⟨x, H1, I1, r1, q1⟩ => ?_)
  obtain ⟨a, xs, ex, hx, q⟩ := q1
  subst ex
  cases r1
  have hst : PO X (some (.UnaryOp .USub (.Constant (.int 1) k p1) p2)) (tPart (tUn (rU fun i => .int (-i)) (tC (.int 1)))) := po_some (pe_un un_neg pe_int)
  refine wpAny_Slice (thn (po_none.run pins s1 σ H1 (fun o H2 => o = none ∧ H2 = H1) I1 ⟨rfl, rfl⟩) fun vl s2 ⟨l, H2, I2, pl, el, e2⟩ => ?_)
  subst el e2
  refine thn (po_none.run pins s2 σ H2 (fun o H3 => o = none ∧ H3 = H2) I2 ⟨rfl, rfl⟩) fun vu s3 ⟨u, H3, I3, pu, eu, e3⟩ => ?_
  subst eu e3
  refine thn (hst.run pins s3 σ H3 (fun o H4 => o = some (-1) ∧ H4 = H3) I3 ⟨1, rfl, -1, rfl, rfl, rfl⟩) fun vs s4 ⟨o, H4, I4, ps, eo, e4⟩ => ?_
  subst eo e4
  have I5 : Inv X pins σ H4 { s4 with heap := s4.heap.push { cls := .type "slice", data := .fields #[vl, vu, vs] } } := I4.kept (t' := s4.toks) fun b ob q => Heap.get?_push_of_some _ q
  obtain ⟨its, r, ht, hz⟩ := I5.tuple hx
  have hlen := r.length
  show wpAny (model X.prog X.w) X.A (subscriptTail e (.Slice none none (some (.UnaryOp .USub (.Constant (.int 1) k p1) p2)) p3) (.ref a) (.ref s4.heap.objs.size)) (EP X pins σ Q) X.xe { s4 with heap := s4.heap.push { cls := .type "slice", data := .fields #[vl, vu, vs] } }
  refine tail_any (ops := [.ref a, .ref s4.heap.objs.size]) ht.typeIs (PyProof.Rows.slot_tuple_getitem.lookup) ?_ (by with_unfolding_all rfl)
  refine getItem_tuple_rev ht (Heap.IsSliceOf.new _ vl vu vs) pl pu ps ?_ (by rw [List.size_toArray]; omega)
  refine ⟨.ref _, _, I5.laid (t' := s4.toks) (o := .tup xs.reverse) (fun b ob q => Heap.get?_push_of_some _ q) (Nat.le_refl _) ?_, rfl, q _ (I5.hok.fresh (Nat.le_refl _))⟩
  exact ⟨by rw [List.length_reverse]; exact hz, _, r.reverse, ⟨_, Heap.get?_push_size _ rfl, rfl, 0, rfl⟩⟩
theorem dpAll_rev {K : PySem.W.Frag} {F : Hp} : ∀ {vs : List V} {ds : List PyData}, DpAll K F vs ds → DpAll K F vs.reverse ds.reverse
  | _, _, .nil => .nil
  | _, _, .cons h t => by
    rw [List.reverse_cons, List.reverse_cons]
    exact dpAll_append (dpAll_rev t) (.cons h .nil)
section
variable {X : Cx} {C : Ct} {z : Zs} {a : Expr} {pos p1 p2 p3 : Pos} {k : Nat}
theorem fp_revT {ds : List PyData} (hK : C.K = X.K) (ha : FP X C z a (.tuple ds)) : FP X C z (.Subscript a (.Slice none none (some (.UnaryOp .USub (.Constant (.int 1) k p1) p2)) p3) pos) (.tuple ds.reverse) := by
  refine pe_con (pe_revT ha) ?_
  rintro σ H R ⟨F, S, q⟩
  refine ⟨F, S, fun v d z' H1 F1 ⟨e1, e2⟩ S1 s1 r => ?_⟩
  subst e1 e2
  obtain ⟨p, vs, ev, hq, hp⟩ := dp_tuple r
  refine ⟨p, vs, ev, by rw [← hK]; exact S1.sub.st hq, fun q' hn => ?_⟩
  have g : Grow H1 F1 (upd H1 q' (.tup vs.reverse)) (upd F1 q' (.tup vs.reverse)) := Grow.new S1.sub hn
  exact q _ _ z' _ _ ⟨rfl, rfl⟩ (S1.grow g) (s1.trans g.f) (.tup (SqT.of upd_same) (dpAll_mono g.f _ _ (dpAll_rev hp)))
end
end DL

set_option Elab.async false
set_option linter.all false
set_option maxRecDepth 100000
set_option maxHeartbeats 4000000
set_option autoImplicit false
namespace DL
open PySem PySem.Spec PyProof.Rows L2

/-! ### dicts of one's own -/
def keyD : Key → PyData
  | .inl i => .int i
  | .inr x => .str x
theorem keyD_v {K : PySem.W.Frag} {F : Hp} {k : Key} {v : V} (h : Dp K F v (keyD k)) : v = kV k := by
  cases k with
  | inl i => exact dp_int h
  | inr x => cases h; rfl
section
variable {κ : Type} [DecidableEq κ]
def getD (kd : List (κ × PyData)) (k : κ) : Option PyData := (kd.find? fun p => decide (p.1 = k)).map (·.2)
def putD (kd : List (κ × PyData)) (k : κ) (d : PyData) : List (κ × PyData) :=
  if (kd.any fun p => decide (p.1 = k)) = true then kd.map (fun p => if p.1 = k then (p.1, d) else p) else kd ++ [(k, d)]
def mergeD (kd more : List (κ × PyData)) : List (κ × PyData) := more.foldl (fun acc p => putD acc p.1 p.2) kd
inductive KDp (K : PySem.W.Frag) (F : Hp) : List (κ × V) → List (κ × PyData) → Prop
  | nil : KDp K F [] []
  | cons {k : κ} {v : V} {d : PyData} {kv : List (κ × V)} {kd : List (κ × PyData)} (h : Dp K F v d) (t : KDp K F kv kd) : KDp K F ((k, v) :: kv) ((k, d) :: kd)
theorem kdp_of {K : PySem.W.Frag} {F : Hp} : ∀ {kv : List (κ × V)} {kd : List (κ × PyData)}, kv.map (·.1) = kd.map (·.1) → DpAll K F (kv.map (·.2)) (kd.map (·.2)) → KDp K F kv kd
  | [], [], _, _ => .nil
  | [], _ :: _, e, _ => by cases e
  | _ :: _, [], e, _ => by cases e
  | (k, v) :: kv, (k', d) :: kd, e, r => by
    rw [List.map_cons, List.map_cons] at e r
    injection e with e1 e2
    have e1 : k = k' := e1
    subst e1
    cases r with
    | cons h t => exact .cons h (kdp_of e2 t)
theorem KDp.keys {K : PySem.W.Frag} {F : Hp} {kv : List (κ × V)} {kd : List (κ × PyData)} (h : KDp K F kv kd) : kv.map (·.1) = kd.map (·.1) := by
  induction h with
  | nil => rfl
  | cons h t ih => rw [List.map_cons, List.map_cons, ih]
theorem KDp.vals {K : PySem.W.Frag} {F : Hp} {kv : List (κ × V)} {kd : List (κ × PyData)} (h : KDp K F kv kd) : DpAll K F (kv.map (·.2)) (kd.map (·.2)) := by
  induction h with
  | nil => exact .nil
  | cons h t ih => exact .cons h ih
theorem KDp.mono {K : PySem.W.Frag} {F G : Hp} (e : Sub F G) {kv : List (κ × V)} {kd : List (κ × PyData)} (h : KDp K F kv kd) : KDp K G kv kd := by
  induction h with
  | nil => exact .nil
  | cons h t ih => exact .cons (dp_mono e _ _ h) ih
theorem KDp.len {K : PySem.W.Frag} {F : Hp} {kv : List (κ × V)} {kd : List (κ × PyData)} (h : KDp K F kv kd) : kv.length = kd.length := by
  induction h with
  | nil => rfl
  | cons h t ih => rw [List.length_cons, List.length_cons, ih]
theorem KDp.get {K : PySem.W.Frag} {F : Hp} {kv : List (κ × V)} {kd : List (κ × PyData)} (h : KDp K F kv kd) (k : κ) : match getD kd k with
    | some d => ∃ v, valV kv k = some v ∧ Dp K F v d
    | none => valV kv k = none := by
  induction h with
  | nil => rfl
  | @cons k' v d kv kd h t ih =>
    by_cases e : k' = k
    · have e1 : getD ((k', d) :: kd) k = some d := by simp [getD, List.find?_cons, e]
      rw [e1]
      exact ⟨v, valV_pos (p := (k', v)) e, h⟩
    · have e1 : getD ((k', d) :: kd) k = getD kd k := by simp [getD, List.find?_cons, e]
      rw [e1, valV_neg (p := (k', v)) e]
      exact ih
theorem KDp.any {K : PySem.W.Frag} {F : Hp} {kv : List (κ × V)} {kd : List (κ × PyData)} (h : KDp K F kv kd) (k : κ) : (kv.any fun p => decide (p.1 = k)) = kd.any fun p => decide (p.1 = k) := by
  induction h with
  | nil => rfl
  | cons h t ih => rw [List.any_cons, List.any_cons, ih]
theorem KDp.app {K : PySem.W.Frag} {F : Hp} {kv kv2 : List (κ × V)} {kd kd2 : List (κ × PyData)} (h : KDp K F kv kd) (h2 : KDp K F kv2 kd2) : KDp K F (kv ++ kv2) (kd ++ kd2) := by
  induction h with
  | nil => exact h2
  | cons h t ih => exact .cons h ih
theorem KDp.mapK {K : PySem.W.Frag} {F : Hp} {kv : List (κ × V)} {kd : List (κ × PyData)} (h : KDp K F kv kd) (k : κ) {v : V} {d : PyData} (r : Dp K F v d) : KDp K F (kv.map fun p => if p.1 = k then (p.1, v) else p) (kd.map fun p => if p.1 = k then (p.1, d) else p) := by
  induction h with
  | nil => exact .nil
  | @cons k' v' d' kv kd h t ih =>
    rw [List.map_cons, List.map_cons]
    by_cases e : k' = k
    · rw [if_pos (show (k', v').1 = k from e), if_pos (show (k', d').1 = k from e)]
      exact .cons r ih
    · rw [if_neg (show ¬ (k', v').1 = k from e), if_neg (show ¬ (k', d').1 = k from e)]
      exact .cons h ih
theorem KDp.put {K : PySem.W.Frag} {F : Hp} {kv : List (κ × V)} {kd : List (κ × PyData)} (h : KDp K F kv kd) (k : κ) {v : V} {d : PyData} (r : Dp K F v d) : KDp K F (putK kv k v) (putD kd k d) := by
  unfold putK putD
  rw [h.any k]
  split
  · exact h.mapK k r
  · exact h.app (.cons r .nil)
end
theorem KDp.merge {K : PySem.W.Frag} {F : Hp} {more : List (Key × V)} {md : List (Key × PyData)} (h : KDp K F more md) : ∀ {kv : List (Key × V)} {kd : List (Key × PyData)}, KDp K F kv kd → KDp K F (mergeK kv more) (mergeD kd md) := by
  induction h with
  | nil => intro kv kd h; exact h
  | cons h t ih =>
    intro kv kd h2
    exact ih (h2.put _ h)
theorem CnOk.k' {K : PySem.W.Frag} {F : Hp} {kv : List (Key × V)} {kd : List (Key × PyData)} (h : KDp K F kv kd) : CnOk K F (.dK kv) (.k kd) := .k h.keys h.vals
theorem CnOk.t' {K : PySem.W.Frag} {F : Hp} {kv : List (List Key × V)} {kd : List (List Key × PyData)} (h : KDp K F kv kd) : CnOk K F (.dT kv) (.t kd) := .t h.keys h.vals
theorem CnOk.dictK {K : PySem.W.Frag} {F : Hp} {o : HO} {kd : List (Key × PyData)} (h : CnOk K F o (.k kd)) : ∃ kv, o = .dK kv ∧ KDp K F kv kd := by
  cases h with
  | k e r => exact ⟨_, rfl, kdp_of e r⟩
theorem CnOk.dictT {K : PySem.W.Frag} {F : Hp} {o : HO} {kd : List (List Key × PyData)} (h : CnOk K F o (.t kd)) : ∃ kv, o = .dT kv ∧ KDp K F kv kd := by
  cases h with
  | t e r => exact ⟨_, rfl, kdp_of e r⟩
theorem Sim.mutDO {C : Ct} {z : Zs} {σ : L2.St} {H F : Hp} {D : Addr} {ob o2 : HO} (S : Sim C z σ H F) (o : OwnO C z σ H F D ob) (nt : ∀ ps, ob ≠ .tbl ps := by intro _ q; cases q) (nc : ∀ a q, ob ≠ LamX.CodeO a q := by intro _ _ q; cases q) : Sim C z σ (upd H D o2) F ∧ OwnO C z σ (upd H D o2) F D o2 := by
  refine ⟨⟨fun a u e => ?_, S.ext, fun a u e => ?_, S.fresh, fun i s e => ?_, S.sep, fun p e => ?_, S.len, fun p e => ?_, S.ft, S.ht⟩, ⟨upd_same, o.nf, o.nh, o.np, o.sep⟩⟩
  · have : a ≠ D := fun z => by subst z; rw [o.nf] at e; cases e
    rw [upd_ne this]; exact S.sub a u e
  · have : a ≠ D := fun z => by subst z; rw [o.nh] at e; cases e
    rw [upd_ne this]; exact S.keep a u e
  · have q := S.slots i s e
    cases s with
    | un => trivial
    | v d => exact q
    | og ds =>
      obtain ⟨a, vs, e1, h1, f1, h2, p1, r1⟩ := q
      have : a ≠ D := fun z => by subst z; exact o.sep i ds e e1
      exact ⟨a, vs, e1, by rw [upd_ne this]; exact h1, f1, h2, p1, r1⟩
  · obtain ⟨h1, f1, h2⟩ := S.pot p e
    have : p ≠ D := fun z => by subst z; exact o.np e
    exact ⟨by rw [upd_ne this]; exact h1, f1, h2⟩
  · obtain ⟨h1, f1, h2⟩ := S.tab p e
    exact ⟨TabS.setO h1 o.at_ nt nc, f1, h2⟩
/-- e gives a new thing of its own -/
def tWN (C : Ct) (z : Zs) (Q : Cn → Zs → Prop) : TE := fun σ H Q' => ∃ F, Sim C z σ H F ∧ ∀ a o c z' H' F', Q c z' → Sim C z' σ H' F' → Sub F F' → OwnO C z' σ H' F' a o → CnOk C.K F' o c → Q' (.ref a) H'
def FN (X : Cx) (C : Ct) (z : Zs) (e : Expr) (Q : Cn → Zs → Prop) : Prop := PE X e (tWN C z Q)
section
variable {X : Cx} {C : Ct} {z : Zs} {e a b : Expr} {es : List Expr} {pos pt px py p : Pos} {x y : Str} {Q : Out → Zs → Prop}
theorem fn_fl {Q : Cn → Zs → Prop} (h : FL X C z e fun ds z' => Q (.l ds) z') : FN X C z e Q := by
  refine pe_con h ?_
  rintro σ H R ⟨F, S, k⟩
  exact ⟨F, S, fun a vs ds z' H' F' q S' s o r => k a _ _ z' H' F' q S' s o (.l r)⟩
/-- the pairs of a display -/
inductive FDs (X : Cx) (C : Ct) (z : Zs) : List (Option Expr) → List Expr → List (Key × PyData) → Prop
  | nil : FDs X C z [] [] []
  | cons {k v : Expr} {ks : List (Option Expr)} {vs : List Expr} {key : Key} {d : PyData} {kd : List (Key × PyData)} (hk : ∀ C', C'.K = C.K → C'.P = C.P → FP X C' z k (keyD key)) (hv : ∀ C', C'.K = C.K → C'.P = C.P → FP X C' z v d) (t : FDs X C z ks vs kd) : FDs X C z (some k :: ks) (v :: vs) ((key, d) :: kd)
def tAny (C : Ct) (z : Zs) (d : PyData) : TE := fun σ H R => ∃ C', C'.K = C.K ∧ C'.P = C.P ∧ tW C' z (fun d' z' => d' = .d d ∧ z' = z) σ H R
theorem pe_any {e : Expr} {d : PyData} (h : ∀ C', C'.K = C.K → C'.P = C.P → FP X C' z e d) : PE X e (tAny C z d) := ⟨fun pins s σ H R I ⟨C', e1, e2, w⟩ => (h C' e1 e2).run pins s σ H R I w⟩
theorem fds_run {ks : List (Option Expr)} {vs : List Expr} {kd : List (Key × PyData)} (h : FDs X C z ks vs kd) : ∃ trs, PPs X pos ks vs trs ∧ ∀ C', C'.K = C.K → C'.P = C.P → ∀ σ H Q F, Sim C' z σ H F →
    (∀ (kv : List (Key × V)) H' F', Sim C' z σ H' F' → Sub F F' → KDp C'.K F' kv kd → Q (kv.map fun kv => (kV kv.1, kv.2)) H') → tPairs trs σ H Q := by
  induction h with
  | nil => exact ⟨[], pps_nil, fun C' _ _ σ H Q F S k => k [] H F S (Sub.refl _) .nil⟩
  | @cons k v ks vs key d kd hk hv t ih =>
    obtain ⟨trs, hp, ih⟩ := ih
    refine ⟨(_, _) :: trs, pps_cons (pe_any hk) (pe_any hv) hp, fun C' c1 c2 σ H Q F S q => ?_⟩
    refine ⟨C', c1, c2, F, S, fun v1 d1 z1 H1 F1 ⟨e1, e2⟩ S1 s1 r1 => ?_⟩
    subst e1 e2
    refine ⟨C', c1, c2, F1, S1, fun v2 d2 z2 H2 F2 ⟨e1, e2⟩ S2 s2 r2 => ?_⟩
    subst e1 e2
    refine ih C' c1 c2 σ H2 _ F2 S2 fun kv H3 F3 S3 s3 r3 => ?_
    have ek := keyD_v r1
    subst ek
    exact q ((key, v2) :: kv) H3 F3 S3 ((s1.trans s2).trans s3) (.cons (dp_mono s3 _ _ r2) r3)
theorem FDs.len {ks : List (Option Expr)} {vs : List Expr} {kd : List (Key × PyData)} (h : FDs X C z ks vs kd) : kd.length = ks.length ∧ ks.length = vs.length ∧ ks.all (·.isSome) = true := by
  induction h with
  | nil => exact ⟨rfl, rfl, rfl⟩
  | cons hk hv t ih => exact ⟨by simp [ih.1], by simp [ih.2.1], by simp; simpa using ih.2.2⟩
/-- {k: v, ..} -/
theorem fn_disp {ks : List (Option Expr)} {vs : List Expr} {kd : List (Key × PyData)} {Q : Cn → Zs → Prop} (h : FDs X C z ks vs kd) (h0 : ks ≠ []) (h15 : ks.length ≤ 15) (k : Q (.k (mergeD [] kd)) z) : FN X C z (.Dict ks vs pos) Q := by
  obtain ⟨l1, l2, l3⟩ := h.len
  obtain ⟨trs, hp, run⟩ := fds_run (pos := pos) h
  refine pe_con (pe_disp hp l3 l2 h0 h15) ?_
  rintro σ H R ⟨F, S, q⟩
  intro p hn
  have S0 := S.cell hn (.dK [])
  have o0 := S.own_newO hn (.dK [])
  refine run (C.withO p (.dK [])) rfl rfl σ _ _ F (S0.into o0) fun kv H2 F2 S2 s2 r2 => ?_
  obtain ⟨r, pp⟩ := z
  obtain ⟨S3, o3⟩ := S0.back (vs := []) o0 S2 (fun _ _ => rfl) (fun _ _ => rfl) (by rfl) s2
  refine ⟨o3.at_, kv, rfl, ?_, ?_⟩
  · rw [r2.len, l1]; exact h15
  · obtain ⟨S4, o4⟩ := S3.mutDO (o2 := .dK (mergeK [] kv)) o3
    exact q p _ _ _ _ F2 k S4 s2 o4 (.k' (r2.merge .nil))
/-- .. kept at a name -/
theorem f1_setN {x : Str} (i : Nat) (hN : X.N.Nodup) (h : FN X C z e fun c z1 => Q .nx ⟨z1.r.set i (.og c), z1.p⟩) (hi : X.N[i]? = some x := by rfl) (hx : Loc X.env.scope x := by first | exact .inl rfl | exact .inr rfl)
    (hs : swapsWith e (some (.Name x px)) pos.line X.env = pure false := by rfl) (hf : X.fn x = true ∨ X.env.scope.names.lookup x = some .local := by first | exact .inl rfl | exact .inr rfl | assumption) : F1 X C z (.Assign [.Name x px] e pos) Q := by
  refine ps_con (ps_set hN hi hx h hs hf) ?_
  rintro D σ H ⟨F, S, q⟩
  exact ⟨F, S, fun a o c z1 H1 F1 q1 S1 s1 ow r => q .nx _ _ H1 F1 q1 (S1.setOwnO i ow r) s1⟩
/-- a, b = {..}, e2 -/
theorem f1_parNV {i j : Nat} {k k2 : Nat} {pt2 : Pos} (hc : X.calm = true) (hN : X.N.Nodup) (hij : i ≠ j) (ha : FN X C z a fun c z1 => ∀ C', C'.K = C.K → C'.P = C.P → FE X C' z1 b fun d z2 => z2.r = z1.r ∧ noOwnAt z1.r [i, j] = true ∧ Q .nx ⟨(z2.r.set i (.og c)).set j (.v d), z2.p⟩)
    (hi : X.N[i]? = some x := by rfl) (hj : X.N[j]? = some y := by rfl) (hx : X.env.scope.names.lookup x = some .local := by rfl) (hy : X.env.scope.names.lookup y = some .local := by rfl)
    (hw : swappedStores [.Tuple [.Name x px, .Name y py] k pt] (.Tuple [a, b] k2 pt2) X.env = pure (some [x, y]) := by rfl)
    (hs : swapsWithSole [.Tuple [.Name x px, .Name y py] k pt] (.Tuple [a, b] k2 pt2) pos.line X.env = pure false := by rfl)
    (h1 : starEach [a, b] X.env = (false, eval a X.env) :: starEach [b] X.env := by rfl) (h2 : starEach [b] X.env = (false, eval b X.env) :: starEach [] X.env := by rfl) :
    F1 X C z (.Assign [.Tuple [.Name x px, .Name y py] k pt] (.Tuple [a, b] k2 pt2) pos) Q := by
  have pb : PE X b (fun σ H R => ∃ C' z1 Qb, FE X C' z1 b Qb ∧ tW C' z1 Qb σ H R) := ⟨fun pins s σ H R I ⟨C', z1, Qb, f, w⟩ => f.run pins s σ H R I w⟩
  refine ps_con (ps_par hc hN hi hj hij hx hy (pa_cons ha (pa_cons pb pa_nil h2) h1) hw hs) ?_
  rintro D σ H ⟨F, S, q⟩
  refine ⟨F, S, fun p ob c z1 H1 F1 f S1 s1 o r => ?_⟩
  refine ⟨C.withO p ob, z1, _, f _ rfl rfl, F1, S1.into o r.nt, fun v d z2 H2 F2 ⟨er, hno, q2⟩ S2 s2 rv => ?_⟩
  obtain ⟨r2, p2⟩ := z2
  have er : r2 = z1.r := er
  subst er
  obtain ⟨S3, o3⟩ := S1.back (vs := []) o S2 (fun _ _ => rfl) (fun _ _ => rfl) (by rfl) s2
  exact ⟨.ref p, v, rfl, q .nx _ _ H2 F2 q2 ((S3.setOwnO i o3 (r.mono s2)).set j rv) (s1.trans s2)⟩
/-- d[j] -/
theorem fp_dgetK {n : Expr} {pn : Pos} {x : Str} {kd : List (Key × PyData)} {key : Key} {d : PyData} (i : Nat) (hu : X.A.units + 1 < cLine) (hz : z.r[i]? = some (.og (.k kd))) (hj : FP X C z n (keyD key)) (hg : getD kd key = some d) (hs : NoSl n := by exact fun _ _ => rfl) (hN : X.N[i]? = some x := by rfl)
    (hv : Vis X.env.scope x := by first | exact Or.inl rfl | exact Or.inr (Or.inl rfl) | exact Or.inr (Or.inr rfl))
    (hd : (x == ("__debug__" : Str)) = false := by decide) (hcd : (x == ("__classdict__" : Str)) = false := by decide) : FP X C z (.Subscript (.Name x pn) n pos) d := by
  refine pe_con (pe_dget hu (pe_var hN hv hd hcd) hj hs) ?_
  rintro σ H R ⟨F, S, q⟩
  obtain ⟨a, o, e1, h1, _, _, _, r⟩ := S.slots i _ hz
  refine ⟨_, e1, F, S, fun v dd z1 H1 F1 ⟨q1, q2⟩ S1 s1 rv => ?_⟩
  subst q1 q2
  obtain ⟨a', o', e1', h1', _, _, _, r'⟩ := S1.slots i _ hz
  rw [e1] at e1'
  cases e1'
  obtain ⟨kv, eo, rk⟩ := r'.dictK
  subst eo
  have hk := rk.get key
  rw [hg] at hk
  obtain ⟨u, hu1, ru⟩ := hk
  rw [keyD_v rv]
  exact ⟨a, u, rfl, by rw [← hu1]; exact DGet.k h1', q _ _ _ _ F1 ⟨rfl, rfl⟩ S1 s1 ru⟩
/-- membership as a value -/
theorem fp_in {x : PyData} {ys : List PyData} (hu : X.A.units + 65 < cLine) (hK : C.K = X.K) (ha : FP X C z a x) (hb : FP X C z b (.list ys)) (hx : SeqAt.shaped x = true) (hy : SeqAt.shaped (.list ys) = true) (hm : behindInMarks .In b = false := by rfl) :
    FP X C z (.Compare a [.In] [b] pos) (.bool (ys.any fun y => PyData.eqv y x)) := fp_cmp (op_inD hu) ha hb (fun _ h => by rw [← hK]; exact g2_in hx hy h) hm
end
end DL

set_option Elab.async false
set_option linter.all false
set_option maxRecDepth 100000
set_option maxHeartbeats 4000000
set_option autoImplicit false
namespace DL
open PySem PySem.Spec PyProof.Rows L2
section
variable {X : Cx} {C : Ct} {z : Zs} {a b c : Expr} {pos : Pos}
theorem fp_ltLe {i j k : Int} (ha : FP X C z a (.int i)) (hb : FP X C z b (.int j)) (hc : FP X C z c (.int k)) (hm : lastMarks [.Lt, .LtE] [b, c] = false := by with_unfolding_all rfl) : FP X C z (.Compare a [.Lt, .LtE] [b, c] pos) (.bool (decide (i < j) && decide (j ≤ k))) :=
  fp_chain op_lt op_le ha hb (fun _ => hc) (fun _ h => g2_B0 (gg := fun i j => decide (i < j)) h) (fun _ _ h => g2_B0 (gg := fun i j => decide (i ≤ j)) h) hm
theorem fp_leLt {i j k : Int} (ha : FP X C z a (.int i)) (hb : FP X C z b (.int j)) (hc : FP X C z c (.int k)) (hm : lastMarks [.LtE, .Lt] [b, c] = false := by with_unfolding_all rfl) : FP X C z (.Compare a [.LtE, .Lt] [b, c] pos) (.bool (decide (i ≤ j) && decide (j < k))) :=
  fp_chain op_le op_lt ha hb (fun _ => hc) (fun _ h => g2_B0 (gg := fun i j => decide (i ≤ j)) h) (fun _ _ h => g2_B0 (gg := fun i j => decide (i < j)) h) hm
theorem fp_ltLt {i j k : Int} (ha : FP X C z a (.int i)) (hb : FP X C z b (.int j)) (hc : FP X C z c (.int k)) (hm : lastMarks [.Lt, .Lt] [b, c] = false := by with_unfolding_all rfl) : FP X C z (.Compare a [.Lt, .Lt] [b, c] pos) (.bool (decide (i < j) && decide (j < k))) :=
  fp_chain op_lt op_lt ha hb (fun _ => hc) (fun _ h => g2_B0 (gg := fun i j => decide (i < j)) h) (fun _ _ h => g2_B0 (gg := fun i j => decide (i < j)) h) hm
theorem ft_chain {op op' : CmpOp} {r r' : R2} {x y w : PyData} {k1 k2 : Bool} (ho : OpR X (compareOp op) r) (ho' : OpR X (compareOp op') r') (ha : FP X C z a x) (hb : FP X C z b y) (hc : k1 = true → FP X C z c w)
    (g : ∀ k : DV → Prop, k (.d (.bool k1)) → G2 C r (.d x) (.d y) k) (g' : k1 = true → ∀ k : DV → Prop, k (.d (.bool k2)) → G2 C r' (.d y) (.d w) k) (hm : lastMarks [op, op'] [b, c] = false) :
    FPT X C z (.Compare a [op, op'] [b, c] pos) (k1 && k2) := by
  have pc : PE X c (fun σ H R => k1 = true ∧ tW C z (fun d' z' => d' = .d w ∧ z' = z) σ H R) := ⟨fun pins s σ H R I ⟨h, q⟩ => (hc h).run pins s σ H R I q⟩
  refine pt_con (pt_chain ho ho' ha hb pc hm) ?_
  rintro σ H R ⟨F, S, k⟩
  refine ⟨F, S, fun v d z' H1 F1 ⟨e1, e2⟩ S1 s1 r1 => ?_⟩
  subst e1 e2
  refine ⟨F1, S1, fun u d2 z2 H2 F2 ⟨e1, e2⟩ S2 s2 r2 => ?_⟩
  subst e1 e2
  refine g (fun d => d = .d (.bool k1)) rfl F2 H2 v u _ S2.sub (r1.mono s2) r2 fun t d H3 F3 ek gr r3 => ?_
  subst ek
  refine ⟨k1, dp_bool r3, ?_⟩
  cases k1 with
  | false =>
    rw [if_neg Bool.false_ne_true]
    exact ⟨false, rfl, k _ _ H3 F3 ⟨rfl, rfl⟩ (S2.grow gr) ((s1.trans s2).trans gr.f)⟩
  | true =>
    rw [if_pos rfl]
    refine ⟨rfl, F3, S2.grow gr, fun w' d3 z3 H4 F4 ⟨e1, e2⟩ S4 s4 r4 => ?_⟩
    subst e1 e2
    refine g' rfl (fun d => d = .d (.bool k2)) rfl F4 H4 u w' _ S4.sub ((r2.mono gr.f).mono s4) r4 fun t2 d4 H5 F5 ek gr2 r5 => ?_
    subst ek
    exact ⟨k2, dp_bool r5, k _ _ H5 F5 ⟨rfl, rfl⟩ (S4.grow gr2) ((((s1.trans s2).trans gr.f).trans s4).trans gr2.f)⟩
theorem ft_ltLe {i j k : Int} (ha : FP X C z a (.int i)) (hb : FP X C z b (.int j)) (hc : FP X C z c (.int k)) (hm : lastMarks [.Lt, .LtE] [b, c] = false := by with_unfolding_all rfl) : FPT X C z (.Compare a [.Lt, .LtE] [b, c] pos) (decide (i < j) && decide (j ≤ k)) :=
  ft_chain op_lt op_le ha hb (fun _ => hc) (fun _ h => g2_B0 (gg := fun i j => decide (i < j)) h) (fun _ _ h => g2_B0 (gg := fun i j => decide (i ≤ j)) h) hm
theorem ft_leLe {i j k : Int} (ha : FP X C z a (.int i)) (hb : FP X C z b (.int j)) (hc : FP X C z c (.int k)) (hm : lastMarks [.LtE, .LtE] [b, c] = false := by with_unfolding_all rfl) : FPT X C z (.Compare a [.LtE, .LtE] [b, c] pos) (decide (i ≤ j) && decide (j ≤ k)) :=
  ft_chain op_le op_le ha hb (fun _ => hc) (fun _ h => g2_B0 (gg := fun i j => decide (i ≤ j)) h) (fun _ _ h => g2_B0 (gg := fun i j => decide (i ≤ j)) h) hm
theorem ft_leLt {i j k : Int} (ha : FP X C z a (.int i)) (hb : FP X C z b (.int j)) (hc : FP X C z c (.int k)) (hm : lastMarks [.LtE, .Lt] [b, c] = false := by with_unfolding_all rfl) : FPT X C z (.Compare a [.LtE, .Lt] [b, c] pos) (decide (i ≤ j) && decide (j < k)) :=
  ft_chain op_le op_lt ha hb (fun _ => hc) (fun _ h => g2_B0 (gg := fun i j => decide (i ≤ j)) h) (fun _ _ h => g2_B0 (gg := fun i j => decide (i < j)) h) hm
theorem ft_ltLt {i j k : Int} (ha : FP X C z a (.int i)) (hb : FP X C z b (.int j)) (hc : FP X C z c (.int k)) (hm : lastMarks [.Lt, .Lt] [b, c] = false := by with_unfolding_all rfl) : FPT X C z (.Compare a [.Lt, .Lt] [b, c] pos) (decide (i < j) && decide (j < k)) :=
  ft_chain op_lt op_lt ha hb (fun _ => hc) (fun _ h => g2_B0 (gg := fun i j => decide (i < j)) h) (fun _ _ h => g2_B0 (gg := fun i j => decide (i < j)) h) hm
end
end DL

set_option Elab.async false
set_option linter.all false
set_option maxRecDepth 100000
set_option maxHeartbeats 4000000
set_option autoImplicit false
namespace DL
open PySem PySem.Spec PyProof.Rows L2
section
variable {X : Cx} {C : Ct} {z : Zs} {a b c : Expr} {pos : Pos}
/-- a if t else b, both new lists -/
theorem fl_if {c : Expr} {p : Bool} {Q : List PyData → Zs → Prop} (hc : FPT X C z c p) (ha : p = true → FL X C z a Q) (hb : p = false → FL X C z b Q) : FL X C z (.IfExp c a b pos) Q := by
  have pa : PE X a (fun σ H R => p = true ∧ tWL C z Q σ H R) := ⟨fun pins s σ H R I ⟨hp, h⟩ => (ha hp).run pins s σ H R I h⟩
  have pb : PE X b (fun σ H R => p = false ∧ tWL C z Q σ H R) := ⟨fun pins s σ H R I ⟨hp, h⟩ => (hb hp).run pins s σ H R I h⟩
  refine pe_con (pe_ifExp hc pa pb) ?_
  rintro σ H R ⟨F, S, k⟩
  refine ⟨F, S, fun b' z' H' F' ⟨e1, e2⟩ S' e => ?_⟩
  subst e1 e2
  cases b' with
  | true =>
    rw [if_pos rfl]
    exact ⟨rfl, F', S', fun a vs d z' H'' F'' x S'' e' => k a vs d z' H'' F'' x S'' (e.trans e')⟩
  | false =>
    rw [if_neg Bool.false_ne_true]
    exact ⟨rfl, F', S', fun a vs d z' H'' F'' x S'' e' => k a vs d z' H'' F'' x S'' (e.trans e')⟩
theorem flp_if {c : Expr} {p : Bool} {xs ys : List PyData} (hc : FPT X C z c p) (ha : p = true → FLP X C z a xs) (hb : p = false → FLP X C z b ys) : FLP X C z (.IfExp c a b pos) (if p = true then xs else ys) := by
  refine fl_if hc (fun h => ?_) (fun h => ?_)
  · rw [if_pos h]; exact ha h
  · rw [if_neg (by rw [h]; exact Bool.false_ne_true)]; exact hb h
/-- a + b, both new lists -/
theorem fl_cat {Q : List PyData → Zs → Prop} (ha : FL X C z a fun xs z1 => ∀ C', C'.K = C.K → C'.P = C.P → FL X C' z1 b fun ys z2 => z2.r = z1.r ∧ xs.length + ys.length ≤ 100000 ∧ Q (xs ++ ys) z2) : FL X C z (.BinOp a .Add b pos) Q := by
  have pb : PE X b (fun σ H R => ∃ C' z1 Qb, FL X C' z1 b Qb ∧ tWL C' z1 Qb σ H R) := ⟨fun pins s σ H R I ⟨C', z1, Qb, f, w⟩ => f.run pins s σ H R I w⟩
  refine pe_con (pe_op op_cat ha pb) ?_
  rintro σ H R ⟨F, S, q⟩
  refine ⟨F, S, fun p vs ds z1 H1 F1 f S1 s1 o r => ?_⟩
  refine ⟨C.with p vs, z1, _, f _ rfl rfl, F1, S1.into o, fun p2 ws es z2 H2 F2 ⟨er, hl, q2⟩ S2 s2 o2 rw2 => ?_⟩
  obtain ⟨r2, pp2⟩ := z2
  have er : r2 = z1.r := er
  subst er
  obtain ⟨S3, o3⟩ := S1.back (vs := []) o S2 (fun _ _ => rfl) (fun _ _ => rfl) (by rfl) s2
  have r' := dpAll_mono s2 _ _ r
  refine ⟨p, p2, vs, ws, rfl, rfl, o3.at_, o2.at_, ?_, fun p3 hn => ?_⟩
  · rw [dpAll_len r', dpAll_len rw2, sizeLine_eq]; omega
  · exact q p3 _ _ _ _ F2 q2 (S3.cell hn _) (s1.trans s2) (S3.own_new hn _) (dpAll_append r' rw2)
theorem flp_cat {xs ys : List PyData} (ha : FLP X C z a xs) (hb : ∀ C', C'.K = C.K → C'.P = C.P → FLP X C' z b ys) (hl : xs.length + ys.length ≤ 100000) : FLP X C z (.BinOp a .Add b pos) (xs ++ ys) :=
  fl_cat (fl_mono ha fun _ _ ⟨e1, e2⟩ C' c1 c2 => by
    subst e1 e2
    exact fl_mono (hb C' c1 c2) fun _ _ ⟨e1, e2⟩ => by
      subst e1 e2
      exact ⟨rfl, hl, rfl, rfl⟩)
/-- a, b = e1, e2 by the general road (a or b a cell); the first a new thing of its own -/
theorem f1_asgNV {x y : Str} {px py pt pt2 : Pos} {i j k k2 : Nat} {Q : Out → Zs → Prop} (hc : X.calm = true) (hN : X.N.Nodup) (hij : i ≠ j) (ha : FN X C z a fun c z1 => ∀ C', C'.K = C.K → C'.P = C.P → FE X C' z1 b fun d z2 => z2.r = z1.r ∧ Q .nx ⟨(z2.r.set i (.og c)).set j (.v d), z2.p⟩)
    (hi : X.N[i]? = some x := by rfl) (hj : X.N[j]? = some y := by rfl) (hx : Loc X.env.scope x := by first | exact .inl rfl | exact .inr rfl) (hy : Loc X.env.scope y := by first | exact .inl rfl | exact .inr rfl)
    (hfx : X.fn x = true ∨ X.env.scope.names.lookup x = some .local := by first | exact .inl rfl | exact .inr rfl) (hfy : X.fn y = true ∨ X.env.scope.names.lookup y = some .local := by first | exact .inl rfl | exact .inr rfl)
    (hw : swappedStores [.Tuple [.Name x px, .Name y py] k pt] (.Tuple [a, b] k2 pt2) X.env = pure none := by rfl)
    (hs : swapsWithSole [.Tuple [.Name x px, .Name y py] k pt] (.Tuple [a, b] k2 pt2) pos.line X.env = pure false := by rfl)
    (h0 : (assignEach [.Tuple [.Name x px, .Name y py] k pt] X.env).map (·.2) = [assign (.Tuple [.Name x px, .Name y py] k pt) X.env] := by rfl)
    (ht : (assignEach [.Name x px, .Name y py] X.env).map (·.2) = assign (.Name x px) X.env :: (assignEach [.Name y py] X.env).map (·.2) := by rfl)
    (ht2 : (assignEach [.Name y py] X.env).map (·.2) = assign (.Name y py) X.env :: (assignEach [] X.env).map (·.2) := by rfl)
    (hn : (assignEach [.Name x px, .Name y py] X.env).length = 2 := by rfl) (hst : (assignEach [.Name x px, .Name y py] X.env).findIdx? (·.1) = none := by rfl)
    (h1 : starEach [a, b] X.env = (false, eval a X.env) :: starEach [b] X.env := by rfl) (h2 : starEach [b] X.env = (false, eval b X.env) :: starEach [] X.env := by rfl) :
    F1 X C z (.Assign [.Tuple [.Name x px, .Name y py] k pt] (.Tuple [a, b] k2 pt2) pos) Q := by
  have pb : PE X b (fun σ H R => ∃ C' z1 Qb, FE X C' z1 b Qb ∧ tW C' z1 Qb σ H R) := ⟨fun pins s σ H R I ⟨C', z1, Qb, f, w⟩ => f.run pins s σ H R I w⟩
  refine ps_con (ps_asg (pe_tup (pa_cons ha (pa_cons pb pa_nil h2) h1)) (pg_tup hc (pgs_cons (pg_name hN hi hx hfx) (pgs_cons (pg_name hN hj hy hfy) pgs_nil ht2) ht) hn hst) hs hw h0) ?_
  rintro D σ H ⟨F, S, q⟩
  refine ⟨F, S, fun p ob c z1 H1 F1 f S1 s1 o r => ?_⟩
  refine ⟨C.withO p ob, z1, _, f _ rfl rfl, F1, S1.into o r.nt, fun v d z2 H2 F2 ⟨er, q2⟩ S2 s2 rv => ?_⟩
  obtain ⟨r2, p2⟩ := z2
  have er : r2 = z1.r := er
  subst er
  obtain ⟨S3, o3⟩ := S1.back (vs := []) o S2 (fun _ _ => rfl) (fun _ _ => rfl) (by rfl) s2
  refine ⟨by show 2 ≤ sizeLine; decide, fun t hn => ⟨t, [.ref p, v], rfl, SqT.of upd_same, rfl, _, _, rfl, _, _, rfl, rfl, ?_⟩⟩
  have S4 := S3.cell hn (.tup [.ref p, v])
  have o4 : OwnO C ⟨z1.r, p2⟩ σ (upd H2 t (.tup [.ref p, v])) F2 p ob := ⟨sub_new hn _ _ o3.at_, o3.nf, o3.nh, o3.np, o3.sep⟩
  exact q .nx _ _ _ F2 q2 ((S4.setOwnO i o4 (r.mono s2)).set j rv) (s1.trans s2)
end
end DL

set_option Elab.async false
set_option linter.all false
set_option maxRecDepth 100000
set_option maxHeartbeats 4000000
set_option autoImplicit false
namespace DL
open PySem PySem.Spec PyProof.Rows L2

/-! ### rules that ask for no kind -/
section
variable {X : Cx} {C : Ct} {z : Zs} {a b e : Expr} {es : List Expr} {pos p pp : Pos}
def ixD : PyData → PyData → Option PyData
  | .tuple ds, .int i => atI ds i
  | .list ds, .int i => atI ds i
  | _, _ => none
theorem fp_ix {x y d : PyData} (hK : C.K = X.K) (ha : FP X C z a x) (hb : FP X C z b y) (hd : ixD x y = some d) (hs : PlainIx b := by exact fun _ _ => rfl) : FP X C z (.Subscript a b pos) d := by
  cases x <;> cases y <;> first | exact fp_ixT hK ha hb hd hs | exact fp_ixL hK ha hb hd hs | cases hd
def lenD : PyData → Option Nat
  | .tuple ds => some ds.length
  | .list ds => some ds.length
  | _ => none
theorem fp_len {x : PyData} {n : Nat} (hK : C.K = X.K) (hm : X.mg "len" = none) (ha : FP X C z a x) (hd : lenD x = some n) (hg : Gl X "len" := by rfl) (hs : starEach [a] X.env = (false, eval a X.env) :: starEach [] X.env := by rfl) : FP X C z (.Call (.Name "len" p) [a] [] pos) (.int n) := by
  cases x <;> cases hd <;> first | exact fp_lenT hK hm ha hg hs | exact fp_lenL hK hm ha hg hs
def slD (l u : Option Int) : PyData → Option PyData
  | .tuple ds => some (.tuple (cutD ds l u))
  | .list ds => some (.list (cutD ds l u))
  | _ => none
theorem fp_sl {x d : PyData} {lo hi : Option Expr} {l u : Option Int} {p2 : Pos} (hK : C.K = X.K) (ha : FP X C z a x) (hl : FO X C z lo l) (hu : FO X C z hi u) (hd : slD l u x = some d) : FP X C z (.Subscript a (.Slice lo hi none p2) pos) d := by
  cases x <;> cases hd <;> first | exact fp_slT hK ha hl hu | exact fp_fl (flp_slL hK ha hl hu)
def seqD : PyData → Option (List PyData)
  | .tuple ds => some ds
  | .list ds => some ds
  | _ => none
theorem fip_seq {tg : Expr} {x : PyData} {ds : List PyData} (hK : C.K = X.K) (h : FP X C z e x) (hd : seqD x = some ds) : FIP X C z tg e ds := by
  cases x <;> cases hd <;> first | exact fip_tup hK h | exact fip_list hK h
theorem fp_tupleS {x : PyData} {ds : List PyData} (hK : C.K = X.K) (hm : X.mg "tuple" = none) (ha : FP X C z a x) (hd : seqD x = some ds) (hg : Gl X "tuple" := by rfl) (hs : starEach [a] X.env = (false, eval a X.env) :: starEach [] X.env := by rfl) : FP X C z (.Call (.Name "tuple" p) [a] [] pos) (.tuple ds) := by
  cases x <;> cases hd <;> first | exact fp_tupleL hK hm ha hg hs | exact fp_tupleT hK hm ha hg hs
theorem flp_listS {x : PyData} {ds : List PyData} (hK : C.K = X.K) (hm : X.mg "list" = none) (ha : FP X C z a x) (hd : seqD x = some ds) (hg : Gl X "list" := by rfl) (hs : starEach [a] X.env = (false, eval a X.env) :: starEach [] X.env := by rfl) : FLP X C z (.Call (.Name "list" p) [a] [] pos) ds := by
  cases x <;> cases hd <;> first | exact flp_listL hK hm ha hg hs | exact flp_listT hK hm ha hg hs
theorem fp_listS {x : PyData} {ds : List PyData} (hK : C.K = X.K) (hm : X.mg "list" = none) (ha : FP X C z a x) (hd : seqD x = some ds) (hg : Gl X "list" := by rfl) (hs : starEach [a] X.env = (false, eval a X.env) :: starEach [] X.env := by rfl) : FP X C z (.Call (.Name "list" p) [a] [] pos) (.list ds) := fp_fl (flp_listS hK hm ha hd hg hs)
def cvI : PyData → Option Int
  | .int i => some i
  | .bool b => some (if b then 1 else 0)
  | _ => none
theorem fp_intG {x : PyData} {i : Int} (hm : X.mg "int" = none) (ha : FP X C z a x) (hd : cvI x = some i) (hg : Gl X "int" := by rfl) (hs : starEach [a] X.env = (false, eval a X.env) :: starEach [] X.env := by rfl) : FP X C z (.Call (.Name "int" p) [a] [] pos) (.int i) := by
  cases x <;> cases hd <;> first | exact fp_intI hm ha hg hs | exact fp_intB hm ha hg hs

/-! equal -/
inductive EqG : PyData → PyData → Bool → Prop
  | int {i j : Int} : EqG (.int i) (.int j) (decide (i = j))
  | str {i j : Str} : EqG (.str i) (.str j) (decide (i = j))
  | dat {x y : PyData} {p : Bool} (hx : SeqAt.shaped x = true) (hy : SeqAt.shaped y = true) (h : PyData.eqv x y = p) : EqG x y p
theorem fp_eqG {x y : PyData} {n : Nat} {k : Bool} (hr : Room n X.A) (hK : C.K = X.K) (ha : FP X C z a x) (hb : FP X C z b y) (h : EqG x y k) : FP X C z (.Compare a [.Eq] [b] pos) (.bool k) := by
  cases h with
  | int => exact fp_eqI ha hb
  | str => exact fp_eqS ha hb
  | dat hx hy h => subst h; exact fp_eqD hr hK ha hb hx hy
theorem fp_neG {x y : PyData} {n : Nat} {k : Bool} (hr : Room n X.A) (hK : C.K = X.K) (ha : FP X C z a x) (hb : FP X C z b y) (h : EqG x y k) : FP X C z (.Compare a [.NotEq] [b] pos) (.bool (!k)) := by
  cases h with
  | int => exact fp_neI ha hb
  | str => exact fp_neS ha hb
  | dat hx hy h => subst h; exact fp_neD hr hK ha hb hx hy
theorem ft_eqG {x y : PyData} {n : Nat} {k : Bool} (hr : Room n X.A) (hK : C.K = X.K) (ha : FP X C z a x) (hb : FP X C z b y) (h : EqG x y k) : FPT X C z (.Compare a [.Eq] [b] pos) k := by
  cases h with
  | int => exact ft_eqI ha hb
  | str => exact ft_eqS ha hb
  | dat hx hy h => subst h; exact ft_eqD hr hK ha hb hx hy
theorem ft_neG {x y : PyData} {n : Nat} {k : Bool} (hr : Room n X.A) (hK : C.K = X.K) (ha : FP X C z a x) (hb : FP X C z b y) (h : EqG x y k) : FPT X C z (.Compare a [.NotEq] [b] pos) (!k) := by
  cases h with
  | int => exact ft_neI ha hb
  | str => exact ft_neS ha hb
  | dat hx hy h => subst h; exact ft_neD hr hK ha hb hx hy

/-! all, any, sum of data -/
inductive BoolsG : List PyData → List Bool → Prop
  | map {α : Type} {xs : List α} {f : α → Bool} : BoolsG (xs.map fun x => .bool (f x)) (xs.map f)
  | nil : BoolsG [] []
  | cons {b : Bool} {ds : List PyData} {bs : List Bool} (h : BoolsG ds bs) : BoolsG (.bool b :: ds) (b :: bs)
theorem BoolsG.eq {ds : List PyData} {bs : List Bool} (h : BoolsG ds bs) : ds = bs.map .bool := by
  induction h with
  | map => rw [List.map_map]; rfl
  | nil => rfl
  | cons _ ih => rw [ih]; rfl
inductive IntsG : List PyData → List Int → Prop
  | map {α : Type} {xs : List α} {f : α → Int} : IntsG (xs.map fun x => .int (f x)) (xs.map f)
  | nil : IntsG [] []
  | cons {b : Int} {ds : List PyData} {bs : List Int} (h : IntsG ds bs) : IntsG (.int b :: ds) (b :: bs)
theorem IntsG.eq {ds : List PyData} {bs : List Int} (h : IntsG ds bs) : ds = bs.map .int := by
  induction h with
  | map => rw [List.map_map]; rfl
  | nil => rfl
  | cons _ ih => rw [ih]; rfl
theorem fp_allG {ds : List PyData} {bs : List Bool} (hK : C.K = X.K) (hc : X.calm = true) (hm : X.mg "all" = none) (ha : FP X C z a (.list ds)) (h : BoolsG ds bs) (hg : Gl X "all" := by rfl) (hs : starEach [a] X.env = (false, eval a X.env) :: starEach [] X.env := by rfl) : FP X C z (.Call (.Name "all" p) [a] [] pos) (.bool (bs.all id)) :=
  fp_all hK hc hm (h.eq ▸ ha) hg hs
theorem fp_anyG {ds : List PyData} {bs : List Bool} (hK : C.K = X.K) (hc : X.calm = true) (hm : X.mg "any" = none) (ha : FP X C z a (.list ds)) (h : BoolsG ds bs) (hg : Gl X "any" := by rfl) (hs : starEach [a] X.env = (false, eval a X.env) :: starEach [] X.env := by rfl) : FP X C z (.Call (.Name "any" p) [a] [] pos) (.bool (bs.any id)) :=
  fp_any hK hc hm (h.eq ▸ ha) hg hs
theorem fp_sumG {x : PyData} {ds : List PyData} {bs : List Int} (hK : C.K = X.K) (hc : X.calm = true) (hm : X.mg "sum" = none) (ha : FP X C z a x) (hd : seqD x = some ds) (h : IntsG ds bs) (hg : Gl X "sum" := by rfl) (hs : starEach [a] X.env = (false, eval a X.env) :: starEach [] X.env := by rfl) : FP X C z (.Call (.Name "sum" p) [a] [] pos) (.int bs.sum) := by
  rw [h.eq] at hd
  cases x <;> cases hd <;> first | exact fp_sum hK hc hm ha hg hs | exact fp_sumT hK hc hm ha hg hs
theorem fp_maxG {ds : List PyData} {bs : List Int} (hK : C.K = X.K) (hc : X.calm = true) (hm : X.mg "max" = none) (ha : FP X C z a (.list ds)) (h : IntsG ds bs) (hn : bs ≠ []) (hg : Gl X "max" := by rfl) (hs : starEach [a] X.env = (false, eval a X.env) :: starEach [] X.env := by rfl) : FP X C z (.Call (.Name "max" p) [a] [] pos) (.int (maxI bs)) :=
  fp_maxL hK hc hm (h.eq ▸ ha) hn hg hs
theorem fp_minG {ds : List PyData} {bs : List Int} (hK : C.K = X.K) (hc : X.calm = true) (hm : X.mg "min" = none) (ha : FP X C z a (.list ds)) (h : IntsG ds bs) (hn : bs ≠ []) (hg : Gl X "min" := by rfl) (hs : starEach [a] X.env = (false, eval a X.env) :: starEach [] X.env := by rfl) : FP X C z (.Call (.Name "min" p) [a] [] pos) (.int (minI bs)) :=
  fp_minL hK hc hm (h.eq ▸ ha) hn hg hs
/-- a tuple display: its length is seen last -/
theorem fp_tupG {k : Nat} {xs : List PyData} (h : FPA X C z es xs) (hz : xs.length ≤ 100000) : FP X C z (.Tuple es k pos) (.tuple xs) := fp_tuple h hz
theorem flp_listG {xs : List PyData} (h : FPA X C z es xs) (hz : xs.length ≤ 100000) : FLP X C z (.List es pos) xs := flp_list h hz
theorem fp_listG {xs : List PyData} (h : FPA X C z es xs) (hz : xs.length ≤ 100000) : FP X C z (.List es pos) (.list xs) := fp_fl (flp_list h hz)
theorem fp_nm {x : Str} {d : PyData} (i : Nat) (hN : X.N[i]? = some x) (hz : z.r[i]? = some (sd d))
    (hv : Vis X.env.scope x := by first | exact Or.inl rfl | exact Or.inr (Or.inl rfl) | exact Or.inr (Or.inr rfl))
    (hd : (x == ("__debug__" : Str)) = false := by decide) (hcd : (x == ("__classdict__" : Str)) = false := by decide) : FP X C z (.Name x pos) d := fp_name i hz hN hv hd hcd
end
/-! ### list + list, data -/
def rCatL (K : PySem.W.Frag) : R2 := fun x y H Q => ∃ l b xs zs, x = .ref l ∧ y = .ref b ∧ SqL K H l xs ∧ SqL K H b zs ∧ xs.length + zs.length ≤ sizeLine ∧ ∀ p, H p = none → Q (.ref p) (upd H p (.lst (xs ++ zs)))
theorem op_catL {X : Cx} : OpR X (binaryOp .Add) (rCatL X.K) := by
  intro pins s σ H x y v u Q I rx ry h
  obtain ⟨l, b, xs, zs, rfl, rfl, hH, hB, hz, q⟩ := h
  cases rx
  cases ry
  obtain ⟨its, r, ⟨⟨cls, dd, data, sl⟩, n, e, hc, hd, hs⟩, hl⟩ := I.list hH
  obtain ⟨its2, r2, ⟨⟨cls2, dd2, data2, sl2⟩, n2, e2, hc2, hd2, hs2⟩, hl2⟩ := I.list hB
  simp only at hc hd hs hc2 hd2 hs2
  subst hc hd hs hc2 hd2 hs2
  have ea : its.toArray ++ its2.toArray = (its ++ its2).toArray := by simp
  have l1 := r.length
  have l2 := r2.length
  refine concat_meets ⟨_, e, rfl⟩ ⟨_, e2, rfl⟩ noFill_list_add seq_list_add PySem.F.slot_list_add PySem.F.entry_list_add (PySem.F.args_list_add_2 _ _) (list_addW l b its.toArray its2.toArray n n2 _ _ sl sl2 (by simp; omega)) ⟨e, e2, ?_⟩
  rw [ea]
  exact ⟨.ref _, _, I.lnew (t' := s.toks) (r.append r2) (by rw [List.length_append]; omega), rfl, q _ I.fresh⟩
section
variable {X : Cx} {C : Ct} {z : Zs} {a b e : Expr} {es : List Expr} {pos p pp : Pos}
theorem flp_catD {xs ys : List PyData} (hK : C.K = X.K) (ha : FP X C z a (.list xs)) (hb : FP X C z b (.list ys)) (hl : xs.length + ys.length ≤ 100000) : FLP X C z (.BinOp a .Add b pos) (xs ++ ys) := by
  refine pe_con (pe_op op_catL ha hb) ?_
  rintro σ H R ⟨F, S, k⟩
  refine ⟨F, S, fun v d z1 H1 F1 ⟨e1, e2⟩ S1 s1 r1 => ?_⟩
  subst e1 e2
  refine ⟨F1, S1, fun u d2 z2 H2 F2 ⟨e1, e2⟩ S2 s2 r2 => ?_⟩
  subst e1 e2
  obtain ⟨q, vs, ev, hq, dv⟩ := dp_list (dp_mono s2 _ _ r1)
  obtain ⟨q2, vs2, ev2, hq2, dv2⟩ := dp_list r2
  subst ev ev2
  rw [← hK]
  refine ⟨q, q2, vs, vs2, rfl, rfl, S2.sub.sl hq, S2.sub.sl hq2, by rw [dpAll_len dv, dpAll_len dv2, sizeLine_eq]; omega, fun p3 hn => ?_⟩
  exact k p3 _ _ _ _ F2 ⟨rfl, rfl⟩ (S2.cell hn _) (s1.trans s2) (S2.own_new hn _) (dpAll_append dv dv2)
end
end DL

set_option Elab.async false
set_option linter.all false
set_option maxRecDepth 100000
set_option maxHeartbeats 4000000
set_option autoImplicit false
namespace DL
open PySem PySem.Spec PyProof.Rows L2

/-! ### what an operation gives, told by kinds: classes that Lean searches -/
/-- x[i] -/
class IxC (x : PyData) (i : Int) (d : outParam PyData) (s : outParam Prop) : Prop where
  h : s → ixD x (.int i) = some d
theorem ixD_map {α : Type} {xs : List α} {f : α → PyData} {n : Nat} (c : α) (h : n < xs.length) : atI (xs.map f) (n : Int) = some (f (xs.getD n c)) := by
  unfold atI ixN
  rw [if_pos (by omega), if_pos (by rw [List.length_map]; omega)]
  show (xs.map f)[(n : Int).toNat]? = _
  rw [Int.toNat_natCast, List.getElem?_map, List.getElem?_eq_getElem h, List.getD_eq_getElem?_getD, List.getElem?_eq_getElem h]
  rfl
theorem ixD_mapI {α : Type} {xs : List α} {f : α → PyData} {i : Int} (c : α) (h : 0 ≤ i ∧ i < xs.length) : atI (xs.map f) i = some (f (xs.getD i.toNat c)) := by
  have e : i = (i.toNat : Int) := by omega
  rw [e, ixD_map c (by omega), Int.toNat_natCast]
theorem ixD_last {α : Type} {xs : List α} {f : α → PyData} (c : α) (h : 0 < xs.length) : atI (xs.map f) (-1) = some (f (xs.getD (xs.length - 1) c)) := by
  unfold atI ixN
  rw [if_neg (by omega), if_pos (by rw [List.length_map]; omega), List.length_map]
  have e : (-1 + (xs.length : Int)).toNat = xs.length - 1 := by omega
  first
  | (show (xs.map f)[(-1 + (xs.length : Int)).toNat]? = _
     rw [e, List.getElem?_map, List.getElem?_eq_getElem (by omega), List.getD_eq_getElem?_getD, List.getElem?_eq_getElem (by omega)]; rfl)
  | (show (xs.map f)[((xs.length : Int) + -1).toNat]? = _
     have e : ((xs.length : Int) + -1).toNat = xs.length - 1 := by omega
     rw [e, List.getElem?_map, List.getElem?_eq_getElem (by omega), List.getD_eq_getElem?_getD, List.getElem?_eq_getElem (by omega)]; rfl)
instance (priority := 1200) ixT_nat {xs : List Int} {f : Int → PyData} {n : Nat} : IxC (.tuple (xs.map f)) (n : Int) (f (xs.getD n 0)) (n < xs.length) := ⟨fun h => ixD_map 0 h⟩
instance (priority := 1200) ixL_nat {xs : List Int} {f : Int → PyData} {n : Nat} : IxC (.list (xs.map f)) (n : Int) (f (xs.getD n 0)) (n < xs.length) := ⟨fun h => ixD_map 0 h⟩
instance (priority := 1200) ixT_natN {xs : List Nat} {f : Nat → PyData} {n : Nat} : IxC (.tuple (xs.map f)) (n : Int) (f (xs.getD n 0)) (n < xs.length) := ⟨fun h => ixD_map 0 h⟩
instance (priority := 1200) ixL_natN {xs : List Nat} {f : Nat → PyData} {n : Nat} : IxC (.list (xs.map f)) (n : Int) (f (xs.getD n 0)) (n < xs.length) := ⟨fun h => ixD_map 0 h⟩
instance (priority := 1200) ixT_natL {α : Type} {xs : List (List α)} {f : List α → PyData} {n : Nat} : IxC (.tuple (xs.map f)) (n : Int) (f (xs.getD n [])) (n < xs.length) := ⟨fun h => ixD_map [] h⟩
instance (priority := 1200) ixL_natL {α : Type} {xs : List (List α)} {f : List α → PyData} {n : Nat} : IxC (.list (xs.map f)) (n : Int) (f (xs.getD n [])) (n < xs.length) := ⟨fun h => ixD_map [] h⟩
instance (priority := 1100) ixT_natG {α : Type} [Inhabited α] {xs : List α} {f : α → PyData} {n : Nat} : IxC (.tuple (xs.map f)) (n : Int) (f (xs.getD n default)) (n < xs.length) := ⟨fun h => ixD_map _ h⟩
instance (priority := 1100) ixL_natG {α : Type} [Inhabited α] {xs : List α} {f : α → PyData} {n : Nat} : IxC (.list (xs.map f)) (n : Int) (f (xs.getD n default)) (n < xs.length) := ⟨fun h => ixD_map _ h⟩
instance (priority := 1090) ixT_lastI {xs : List Int} {f : Int → PyData} : IxC (.tuple (xs.map f)) (-1) (f (xs.getD (xs.length - 1) 0)) (0 < xs.length) := ⟨fun h => ixD_last _ h⟩
instance (priority := 1090) ixL_lastI {xs : List Int} {f : Int → PyData} : IxC (.list (xs.map f)) (-1) (f (xs.getD (xs.length - 1) 0)) (0 < xs.length) := ⟨fun h => ixD_last _ h⟩
instance (priority := 1080) ixT_last {α : Type} [Inhabited α] {xs : List α} {f : α → PyData} : IxC (.tuple (xs.map f)) (-1) (f (xs.getD (xs.length - 1) default)) (0 < xs.length) := ⟨fun h => ixD_last _ h⟩
instance (priority := 1080) ixL_last {α : Type} [Inhabited α] {xs : List α} {f : α → PyData} : IxC (.list (xs.map f)) (-1) (f (xs.getD (xs.length - 1) default)) (0 < xs.length) := ⟨fun h => ixD_last _ h⟩
instance (priority := 1010) ixT_intI {xs : List Int} {f : Int → PyData} {i : Int} : IxC (.tuple (xs.map f)) i (f (xs.getD i.toNat 0)) (0 ≤ i ∧ i < xs.length) := ⟨fun h => ixD_mapI 0 h⟩
instance (priority := 1010) ixL_intI {xs : List Int} {f : Int → PyData} {i : Int} : IxC (.list (xs.map f)) i (f (xs.getD i.toNat 0)) (0 ≤ i ∧ i < xs.length) := ⟨fun h => ixD_mapI 0 h⟩
instance (priority := 1005) ixT_intN {xs : List Nat} {f : Nat → PyData} {i : Int} : IxC (.tuple (xs.map f)) i (f (xs.getD i.toNat 0)) (0 ≤ i ∧ i < xs.length) := ⟨fun h => ixD_mapI 0 h⟩
instance (priority := 1005) ixL_intN {xs : List Nat} {f : Nat → PyData} {i : Int} : IxC (.list (xs.map f)) i (f (xs.getD i.toNat 0)) (0 ≤ i ∧ i < xs.length) := ⟨fun h => ixD_mapI 0 h⟩
instance (priority := 1003) ixT_intL {α : Type} {xs : List (List α)} {f : List α → PyData} {i : Int} : IxC (.tuple (xs.map f)) i (f (xs.getD i.toNat [])) (0 ≤ i ∧ i < xs.length) := ⟨fun h => ixD_mapI [] h⟩
instance (priority := 1003) ixL_intL {α : Type} {xs : List (List α)} {f : List α → PyData} {i : Int} : IxC (.list (xs.map f)) i (f (xs.getD i.toNat [])) (0 ≤ i ∧ i < xs.length) := ⟨fun h => ixD_mapI [] h⟩
instance (priority := 1000) ixT_int {α : Type} [Inhabited α] {xs : List α} {f : α → PyData} {i : Int} : IxC (.tuple (xs.map f)) i (f (xs.getD i.toNat default)) (0 ≤ i ∧ i < xs.length) := ⟨fun h => ixD_mapI _ h⟩
instance (priority := 1000) ixL_int {α : Type} [Inhabited α] {xs : List α} {f : α → PyData} {i : Int} : IxC (.list (xs.map f)) i (f (xs.getD i.toNat default)) (0 ≤ i ∧ i < xs.length) := ⟨fun h => ixD_mapI _ h⟩
theorem atI_k {xs : List PyData} {n : Nat} {d : PyData} (h : xs[n]? = some d) : atI xs (n : Int) = some d := by
  unfold atI ixN
  have := (List.getElem?_eq_some_iff.mp h).1
  rw [if_pos (by omega), if_pos (by omega)]
  exact h
instance (priority := 2000) ixT_0 {a : PyData} {l : List PyData} : IxC (.tuple (a :: l)) 0 a True := ⟨fun _ => atI_k (n := 0) rfl⟩
instance (priority := 2000) ixT_1 {a b : PyData} {l : List PyData} : IxC (.tuple (b :: a :: l)) 1 a True := ⟨fun _ => atI_k (n := 1) rfl⟩
instance (priority := 2000) ixT_2 {a b c : PyData} {l : List PyData} : IxC (.tuple (b :: c :: a :: l)) 2 a True := ⟨fun _ => atI_k (n := 2) rfl⟩
instance (priority := 2000) ixT_3 {a b c d : PyData} {l : List PyData} : IxC (.tuple (b :: c :: d :: a :: l)) 3 a True := ⟨fun _ => atI_k (n := 3) rfl⟩
instance (priority := 2000) ixT_4 {a b c d e : PyData} {l : List PyData} : IxC (.tuple (b :: c :: d :: e :: a :: l)) 4 a True := ⟨fun _ => atI_k (n := 4) rfl⟩
instance (priority := 2000) ixT_5 {a b c d e f : PyData} {l : List PyData} : IxC (.tuple (b :: c :: d :: e :: f :: a :: l)) 5 a True := ⟨fun _ => atI_k (n := 5) rfl⟩
instance (priority := 2000) ixL_0 {a : PyData} {l : List PyData} : IxC (.list (a :: l)) 0 a True := ⟨fun _ => atI_k (n := 0) rfl⟩
instance (priority := 2000) ixL_1 {a b : PyData} {l : List PyData} : IxC (.list (b :: a :: l)) 1 a True := ⟨fun _ => atI_k (n := 1) rfl⟩
instance (priority := 2000) ixL_2 {a b c : PyData} {l : List PyData} : IxC (.list (b :: c :: a :: l)) 2 a True := ⟨fun _ => atI_k (n := 2) rfl⟩
instance (priority := 2000) ixL_3 {a b c d : PyData} {l : List PyData} : IxC (.list (b :: c :: d :: a :: l)) 3 a True := ⟨fun _ => atI_k (n := 3) rfl⟩
instance (priority := 2000) ixT_m1_1 {a : PyData} : IxC (.tuple [a]) (-1) a True := ⟨fun _ => rfl⟩
instance (priority := 2000) ixT_m1_2 {a b : PyData} : IxC (.tuple [b, a]) (-1) a True := ⟨fun _ => rfl⟩
instance (priority := 2000) ixT_m1_3 {a b c : PyData} : IxC (.tuple [b, c, a]) (-1) a True := ⟨fun _ => rfl⟩

/-- len(x) -/
class LenC (x : PyData) (n : outParam Nat) : Prop where
  h : lenD x = some n
instance (priority := 1100) {α : Type} {xs : List α} {f : α → PyData} : LenC (.tuple (xs.map f)) xs.length := ⟨by show some _ = _; rw [List.length_map]⟩
instance (priority := 1100) {α : Type} {xs : List α} {f : α → PyData} : LenC (.list (xs.map f)) xs.length := ⟨by show some _ = _; rw [List.length_map]⟩
instance (priority := 1000) {xs : List PyData} : LenC (.tuple xs) xs.length := ⟨rfl⟩
instance (priority := 1000) {xs : List PyData} : LenC (.list xs) xs.length := ⟨rfl⟩

/-- the items of x -/
class SeqC (x : PyData) (ds : outParam (List PyData)) : Prop where
  h : seqD x = some ds
instance {xs : List PyData} : SeqC (.tuple xs) xs := ⟨rfl⟩
instance {xs : List PyData} : SeqC (.list xs) xs := ⟨rfl⟩

/-- int(x) -/
class CvC (x : PyData) (i : outParam Int) : Prop where
  h : cvI x = some i
instance {i : Int} : CvC (.int i) i := ⟨rfl⟩
instance {b : Bool} : CvC (.bool b) (if b then 1 else 0) := ⟨rfl⟩

/-- x == y -/
class EqC (x y : PyData) (b : outParam Bool) (s : outParam Prop) : Prop where
  h : s → EqG x y b
instance (priority := 2000) {i j : Int} : EqC (.int i) (.int j) (decide (i = j)) True := ⟨fun _ => .int⟩
instance (priority := 2000) {i j : Str} : EqC (.str i) (.str j) (decide (i = j)) True := ⟨fun _ => .str⟩
instance (priority := 100) {x y : PyData} : EqC x y (PyData.eqv x y) (SeqAt.shaped x = true ∧ SeqAt.shaped y = true) := ⟨fun h => .dat h.1 h.2 rfl⟩

/-- all(ds), any(ds), the ints of ds -/
class AllC (ds : List PyData) (p : outParam Bool) : Prop where
  h : ∃ bs : List Bool, ds = bs.map .bool ∧ bs.all id = p
instance {α : Type} {xs : List α} {f : α → Bool} : AllC (xs.map fun x => .bool (f x)) (xs.all f) := ⟨xs.map f, by rw [List.map_map]; rfl, by rw [List.all_map]; rfl⟩
instance : AllC [] true := ⟨[], rfl, rfl⟩
instance {b p : Bool} {ds : List PyData} [h : AllC ds p] : AllC (.bool b :: ds) (b && p) := ⟨by obtain ⟨bs, e1, e2⟩ := h.h; exact ⟨b :: bs, by rw [e1]; rfl, by rw [List.all_cons, e2]; rfl⟩⟩
class AnyC (ds : List PyData) (p : outParam Bool) : Prop where
  h : ∃ bs : List Bool, ds = bs.map .bool ∧ bs.any id = p
instance {α : Type} {xs : List α} {f : α → Bool} : AnyC (xs.map fun x => .bool (f x)) (xs.any f) := ⟨xs.map f, by rw [List.map_map]; rfl, by rw [List.any_map]; rfl⟩
instance : AnyC [] false := ⟨[], rfl, rfl⟩
instance {b p : Bool} {ds : List PyData} [h : AnyC ds p] : AnyC (.bool b :: ds) (b || p) := ⟨by obtain ⟨bs, e1, e2⟩ := h.h; exact ⟨b :: bs, by rw [e1]; rfl, by rw [List.any_cons, e2]; rfl⟩⟩
class IntsC (ds : List PyData) (is : outParam (List Int)) : Prop where
  h : ds = is.map .int
instance (priority := 1100) {is : List Int} : IntsC (is.map .int) is := ⟨rfl⟩
instance {α : Type} {xs : List α} {f : α → Int} : IntsC (xs.map fun x => .int (f x)) (xs.map f) := ⟨by rw [List.map_map]; rfl⟩
instance : IntsC [] [] := ⟨rfl⟩
instance {b : Int} {ds : List PyData} {is : List Int} [h : IntsC ds is] : IntsC (.int b :: ds) (b :: is) := ⟨by rw [h.h]; rfl⟩
instance {ds es : List PyData} {is js : List Int} [h : IntsC ds is] [k : IntsC es js] : IntsC (ds ++ es) (is ++ js) := ⟨by rw [h.h, k.h, List.map_append]⟩

/-- x + y -/
class AddC (x y : PyData) (d : outParam PyData) (s : outParam Prop) : Prop where
  h : s → (∃ i j : Int, x = .int i ∧ y = .int j ∧ d = .int (i + j)) ∨ (∃ as bs, x = .tuple as ∧ y = .tuple bs ∧ as.length + bs.length ≤ 100000 ∧ d = .tuple (as ++ bs)) ∨ (∃ as bs, x = .list as ∧ y = .list bs ∧ as.length + bs.length ≤ 100000 ∧ d = .list (as ++ bs))
instance {i j : Int} : AddC (.int i) (.int j) (.int (i + j)) True := ⟨fun _ => .inl ⟨i, j, rfl, rfl, rfl⟩⟩
instance {as bs : List PyData} : AddC (.tuple as) (.tuple bs) (.tuple (as ++ bs)) (as.length + bs.length ≤ 100000) := ⟨fun h => .inr (.inl ⟨as, bs, rfl, rfl, h, rfl⟩)⟩
instance {as bs : List PyData} : AddC (.list as) (.list bs) (.list (as ++ bs)) (as.length + bs.length ≤ 100000) := ⟨fun h => .inr (.inr ⟨as, bs, rfl, rfl, h, rfl⟩)⟩
/-- x * y -/
class MulC (x y : PyData) (d : outParam PyData) (s : outParam Prop) : Prop where
  h : s → (∃ i j : Int, x = .int i ∧ y = .int j ∧ CMul i j ∧ d = .int (i * j)) ∨ (∃ as k, x = .tuple as ∧ y = .int k ∧ as ≠ [] ∧ 0 ≤ k ∧ k ≤ 1000 ∧ as.length ≤ 1000 ∧ d = .tuple (List.replicate k.toNat as).flatten)
instance (priority := 1000) {i j : Int} : MulC (.int i) (.int j) (.int (i * j)) (CMul i j) := ⟨fun h => .inl ⟨i, j, rfl, rfl, h, rfl⟩⟩
theorem rep_flat {α : Type} (d : α) : ∀ n : Nat, (List.replicate n [d]).flatten = List.replicate n d
  | 0 => rfl
  | n + 1 => by rw [List.replicate_succ, List.replicate_succ, List.flatten_cons, rep_flat d n]; rfl
instance (priority := 1100) {d : PyData} {k : Int} : MulC (.tuple [d]) (.int k) (.tuple (List.replicate k.toNat d)) (0 ≤ k ∧ k ≤ 1000) := ⟨fun h => .inr ⟨[d], k, rfl, rfl, by simp, h.1, h.2, by simp, by rw [rep_flat]⟩⟩
instance (priority := 1000) {as : List PyData} {k : Int} : MulC (.tuple as) (.int k) (.tuple (List.replicate k.toNat as).flatten) (as ≠ [] ∧ 0 ≤ k ∧ k ≤ 1000 ∧ as.length ≤ 1000) := ⟨fun h => .inr ⟨as, k, rfl, rfl, h.1, h.2.1, h.2.2.1, h.2.2.2, rfl⟩⟩

section
variable {X : Cx} {C : Ct} {z : Zs} {a b e : Expr} {es : List Expr} {pos p pp : Pos}
theorem fp_ixC {x d : PyData} {i : Int} {s : Prop} (hK : C.K = X.K) (ha : FP X C z a x) (hb : FP X C z b (.int i)) [c : IxC x i d s] (h : s) (hs : PlainIx b := by exact fun _ _ => rfl) : FP X C z (.Subscript a b pos) d := fp_ix hK ha hb (c.h h) hs
theorem fp_lenC {x : PyData} {n : Nat} (hK : C.K = X.K) (hm : X.mg "len" = none) (ha : FP X C z a x) [c : LenC x n] (hg : Gl X "len" := by rfl) (hs : starEach [a] X.env = (false, eval a X.env) :: starEach [] X.env := by rfl) : FP X C z (.Call (.Name "len" p) [a] [] pos) (.int n) := fp_len hK hm ha c.h hg hs
theorem fip_seqC {tg : Expr} {x : PyData} {ds : List PyData} (hK : C.K = X.K) (h : FP X C z e x) [c : SeqC x ds] : FIP X C z tg e ds := fip_seq hK h c.h
theorem fp_tupleC {x : PyData} {ds : List PyData} (hK : C.K = X.K) (hm : X.mg "tuple" = none) (ha : FP X C z a x) [c : SeqC x ds] (hg : Gl X "tuple" := by rfl) (hs : starEach [a] X.env = (false, eval a X.env) :: starEach [] X.env := by rfl) : FP X C z (.Call (.Name "tuple" p) [a] [] pos) (.tuple ds) := fp_tupleS hK hm ha c.h hg hs
theorem flp_listC {x : PyData} {ds : List PyData} (hK : C.K = X.K) (hm : X.mg "list" = none) (ha : FP X C z a x) [c : SeqC x ds] (hg : Gl X "list" := by rfl) (hs : starEach [a] X.env = (false, eval a X.env) :: starEach [] X.env := by rfl) : FLP X C z (.Call (.Name "list" p) [a] [] pos) ds := flp_listS hK hm ha c.h hg hs
theorem fp_intC {x : PyData} {i : Int} (hm : X.mg "int" = none) (ha : FP X C z a x) [c : CvC x i] (hg : Gl X "int" := by rfl) (hs : starEach [a] X.env = (false, eval a X.env) :: starEach [] X.env := by rfl) : FP X C z (.Call (.Name "int" p) [a] [] pos) (.int i) := fp_intG hm ha c.h hg hs
theorem fp_eqC {x y : PyData} {n : Nat} {k : Bool} {s : Prop} (hr : Room n X.A) (hK : C.K = X.K) (ha : FP X C z a x) (hb : FP X C z b y) [c : EqC x y k s] (h : s) : FP X C z (.Compare a [.Eq] [b] pos) (.bool k) := fp_eqG hr hK ha hb (c.h h)
theorem fp_neC {x y : PyData} {n : Nat} {k : Bool} {s : Prop} (hr : Room n X.A) (hK : C.K = X.K) (ha : FP X C z a x) (hb : FP X C z b y) [c : EqC x y k s] (h : s) : FP X C z (.Compare a [.NotEq] [b] pos) (.bool (!k)) := fp_neG hr hK ha hb (c.h h)
theorem ft_eqC {x y : PyData} {n : Nat} {k : Bool} {s : Prop} (hr : Room n X.A) (hK : C.K = X.K) (ha : FP X C z a x) (hb : FP X C z b y) [c : EqC x y k s] (h : s) : FPT X C z (.Compare a [.Eq] [b] pos) k := ft_eqG hr hK ha hb (c.h h)
theorem ft_neC {x y : PyData} {n : Nat} {k : Bool} {s : Prop} (hr : Room n X.A) (hK : C.K = X.K) (ha : FP X C z a x) (hb : FP X C z b y) [c : EqC x y k s] (h : s) : FPT X C z (.Compare a [.NotEq] [b] pos) (!k) := ft_neG hr hK ha hb (c.h h)
theorem fp_allC {ds : List PyData} {k : Bool} (hK : C.K = X.K) (hc : X.calm = true) (hm : X.mg "all" = none) (ha : FP X C z a (.list ds)) [c : AllC ds k] (hg : Gl X "all" := by rfl) (hs : starEach [a] X.env = (false, eval a X.env) :: starEach [] X.env := by rfl) : FP X C z (.Call (.Name "all" p) [a] [] pos) (.bool k) := by
  obtain ⟨bs, e1, e2⟩ := c.h
  subst e1 e2
  exact fp_all hK hc hm ha hg hs
theorem fp_anyC {ds : List PyData} {k : Bool} (hK : C.K = X.K) (hc : X.calm = true) (hm : X.mg "any" = none) (ha : FP X C z a (.list ds)) [c : AnyC ds k] (hg : Gl X "any" := by rfl) (hs : starEach [a] X.env = (false, eval a X.env) :: starEach [] X.env := by rfl) : FP X C z (.Call (.Name "any" p) [a] [] pos) (.bool k) := by
  obtain ⟨bs, e1, e2⟩ := c.h
  subst e1 e2
  exact fp_any hK hc hm ha hg hs
theorem fp_sumC {x : PyData} {ds : List PyData} {is : List Int} (hK : C.K = X.K) (hc : X.calm = true) (hm : X.mg "sum" = none) (ha : FP X C z a x) [cs : SeqC x ds] [c : IntsC ds is] (hg : Gl X "sum" := by rfl) (hs : starEach [a] X.env = (false, eval a X.env) :: starEach [] X.env := by rfl) : FP X C z (.Call (.Name "sum" p) [a] [] pos) (.int is.sum) := by
  have e1 := c.h
  have e2 := cs.h
  subst e1
  cases x <;> cases e2 <;> first | exact fp_sum hK hc hm ha hg hs | exact fp_sumT hK hc hm ha hg hs
theorem fp_maxC {ds : List PyData} {is : List Int} (hK : C.K = X.K) (hc : X.calm = true) (hm : X.mg "max" = none) (ha : FP X C z a (.list ds)) [c : IntsC ds is] (hn : is ≠ []) (hg : Gl X "max" := by rfl) (hs : starEach [a] X.env = (false, eval a X.env) :: starEach [] X.env := by rfl) : FP X C z (.Call (.Name "max" p) [a] [] pos) (.int (maxI is)) := by
  have e1 := c.h
  subst e1
  exact fp_maxL hK hc hm ha hn hg hs
theorem fp_minC {ds : List PyData} {is : List Int} (hK : C.K = X.K) (hc : X.calm = true) (hm : X.mg "min" = none) (ha : FP X C z a (.list ds)) [c : IntsC ds is] (hn : is ≠ []) (hg : Gl X "min" := by rfl) (hs : starEach [a] X.env = (false, eval a X.env) :: starEach [] X.env := by rfl) : FP X C z (.Call (.Name "min" p) [a] [] pos) (.int (minI is)) := by
  have e1 := c.h
  subst e1
  exact fp_minL hK hc hm ha hn hg hs
theorem fp_addC {x y d : PyData} {s : Prop} (hK : C.K = X.K) (ha : FP X C z a x) (hb : FP X C z b y) [c : AddC x y d s] (h : s) : FP X C z (.BinOp a .Add b pos) d := by
  rcases c.h h with ⟨i, j, e1, e2, e3⟩ | ⟨as, bs, e1, e2, hl, e3⟩ | ⟨as, bs, e1, e2, hl, e3⟩
  · subst e1 e2 e3
    exact fp_add ha hb
  · subst e1 e2 e3
    exact fp_catT hK ha hb hl
  · subst e1 e2 e3
    exact fp_fl (flp_catD hK ha hb hl)
theorem fp_mulC {x y d : PyData} {s : Prop} (hK : C.K = X.K) (ha : FP X C z a x) (hb : FP X C z b y) [c : MulC x y d s] (h : s) : FP X C z (.BinOp a .Mult b pos) d := by
  rcases c.h h with ⟨i, j, e1, e2, hm, e3⟩ | ⟨as, bs, e1, e2, h1, h2, h3, h4, e3⟩
  · subst e1 e2 e3
    exact fp_mul ha hb hm
  · subst e1 e2 e3
    exact fp_repT hK ha hb h1 h2 h3 h4
/-- a slice -/
class SlC (x : PyData) (l u : Option Int) (d : outParam PyData) (s : outParam Prop) : Prop where
  h : s → slD l u x = some d
theorem fp_slC {x d : PyData} {s : Prop} {lo hi : Option Expr} {l u : Option Int} {p2 : Pos} (hK : C.K = X.K) (ha : FP X C z a x) (hl : FO X C z lo l) (hu : FO X C z hi u) [c : SlC x l u d s] (h : s) : FP X C z (.Subscript a (.Slice lo hi none p2) pos) d := fp_sl hK ha hl hu (c.h h)
end
theorem cutD_map {α : Type} (f : α → PyData) (xs : List α) (l u : Option Int) : cutD (xs.map f) l u = ((xs.drop (HT.sIx xs.length 0 l)).take (HT.sIx xs.length xs.length u - HT.sIx xs.length 0 l)).map f := by
  unfold cutD
  rw [List.length_map, List.map_take, List.map_drop]
theorem sl_to {α : Type} (f : α → PyData) (xs : List α) (k : Nat) : cutD (xs.map f) none (some (k : Int)) = (xs.take k).map f := by rw [cutD_to, List.map_take]
theorem sl_from {α : Type} (f : α → PyData) (xs : List α) (k : Nat) : cutD (xs.map f) (some (k : Int)) none = (xs.drop k).map f := by rw [cutD_from, List.map_drop]
instance (priority := 1100) {α : Type} {f : α → PyData} {xs : List α} {k : Nat} : SlC (.tuple (xs.map f)) none (some (k : Int)) (.tuple ((xs.take k).map f)) True := ⟨fun _ => by show some (PyData.tuple (cutD _ _ _)) = _; rw [sl_to]⟩
instance (priority := 1100) {α : Type} {f : α → PyData} {xs : List α} {k : Nat} : SlC (.list (xs.map f)) none (some (k : Int)) (.list ((xs.take k).map f)) True := ⟨fun _ => by show some (PyData.list (cutD _ _ _)) = _; rw [sl_to]⟩
instance (priority := 1100) {α : Type} {f : α → PyData} {xs : List α} {k : Nat} : SlC (.tuple (xs.map f)) (some (k : Int)) none (.tuple ((xs.drop k).map f)) True := ⟨fun _ => by show some (PyData.tuple (cutD _ _ _)) = _; rw [sl_from]⟩
instance (priority := 1100) {α : Type} {f : α → PyData} {xs : List α} {k : Nat} : SlC (.list (xs.map f)) (some (k : Int)) none (.list ((xs.drop k).map f)) True := ⟨fun _ => by show some (PyData.list (cutD _ _ _)) = _; rw [sl_from]⟩
instance (priority := 1000) {α : Type} {f : α → PyData} {xs : List α} {i : Int} : SlC (.tuple (xs.map f)) none (some i) (.tuple ((xs.take i.toNat).map f)) (0 ≤ i) := ⟨fun h => by
  have e : i = (i.toNat : Int) := by omega
  show some (PyData.tuple (cutD _ _ _)) = _; rw [e, sl_to, Int.toNat_natCast]⟩
instance (priority := 1000) {α : Type} {f : α → PyData} {xs : List α} {i : Int} : SlC (.list (xs.map f)) none (some i) (.list ((xs.take i.toNat).map f)) (0 ≤ i) := ⟨fun h => by
  have e : i = (i.toNat : Int) := by omega
  show some (PyData.list (cutD _ _ _)) = _; rw [e, sl_to, Int.toNat_natCast]⟩
instance (priority := 1000) {α : Type} {f : α → PyData} {xs : List α} {i : Int} : SlC (.tuple (xs.map f)) (some i) none (.tuple ((xs.drop i.toNat).map f)) (0 ≤ i) := ⟨fun h => by
  have e : i = (i.toNat : Int) := by omega
  show some (PyData.tuple (cutD _ _ _)) = _; rw [e, sl_from, Int.toNat_natCast]⟩
instance (priority := 1000) {α : Type} {f : α → PyData} {xs : List α} {i : Int} : SlC (.list (xs.map f)) (some i) none (.list ((xs.drop i.toNat).map f)) (0 ≤ i) := ⟨fun h => by
  have e : i = (i.toNat : Int) := by omega
  show some (PyData.list (cutD _ _ _)) = _; rw [e, sl_from, Int.toNat_natCast]⟩
instance (priority := 100) {xs : List PyData} {l u : Option Int} : SlC (.tuple xs) l u (.tuple (cutD xs l u)) True := ⟨fun _ => rfl⟩
instance (priority := 100) {xs : List PyData} {l u : Option Int} : SlC (.list xs) l u (.list (cutD xs l u)) True := ⟨fun _ => rfl⟩
/-- a loop over data, told by what is done -/
theorem f1_forP {X : Cx} {C : Ct} {z : Zs} {pos : Pos} {tg : Expr} {α : Type} {iter : Expr} {body : List Stmt} {Q : Out → Zs → Prop} (vs : List Nat) (xs : List α) (enc : α → PyData) (I : List α → Zs → Prop) (hp : PassesOwn (model X.prog X.w) X.A X.env X.xe) (hc : X.calm = true)
    (hi : FIP X C z tg iter (xs.map enc)) (h0 : I [] z)
    (turn : ∀ (pre : List α) (x : α) (post : List α), xs = pre ++ x :: post → ∀ z2, I pre z2 → FG X C vs z2 tg (enc x) fun z3 => FS X C z3 body fun o z4 => match o with
      | .nx => I (pre ++ [x]) z4
      | .ct => I (pre ++ [x]) z4
      | .bk => Q .nx z4
      | .rt d => Q (.rt d) z4)
    (fin : ∀ z2, I xs z2 → Q .nx z2)
    (hs : ∀ x, foldedSetIterable iter X.env x = pure x := by intro _; rfl) : F1 X C z (.For tg iter body [] pos) Q := by
  have e : ∀ l : List α, l.foldl (fun acc x => acc ++ [x]) [] = l := fun l => by
    have : ∀ (l acc : List α), l.foldl (fun acc x => acc ++ [x]) acc = acc ++ l := fun l => by
      induction l with
      | nil => intro acc; simp
      | cons x l ih => intro acc; rw [List.foldl_cons, ih]; simp
    rw [this]; rfl
  refine f1_forA vs xs enc I (fun acc x => acc ++ [x]) [] hp hc hi h0 (fun pre x post ex z2 h => ?_) (fun z2 h => fin z2 (by rw [e] at h; exact h)) hs
  rw [e] at h ⊢
  exact turn pre x post ex z2 h
end DL

set_option Elab.async false
set_option linter.all false
set_option maxRecDepth 100000
set_option maxHeartbeats 4000000
set_option autoImplicit false
namespace DL
open PySem PySem.Spec PyProof.Rows L2

/-! ### enumerate over lists -/
theorem ite_ok {C : Ct} {F : Hp} {a : Addr} {vs : List V} {ds : List PyData} (h1 : SqL C.K F a vs) (r1 : DpAll C.K F vs ds) : ItOk C (Ite C.K a) F (placed ds) where
  go := fun i H s hi => by
    unfold placed at hi
    rw [List.length_map, List.length_zipIdx] at hi
    have l1 := dpAll_len r1
    exact ⟨vs, vs[i]'(by omega), s.sl h1, List.getElem?_eq_getElem _⟩
  stop := fun H s => by
    refine ⟨vs, s.sl h1, ?_⟩
    unfold placed
    rw [List.length_map, List.length_zipIdx, dpAll_len r1]
    exact Nat.le_refl _
  yld := fun i H F' x H' s1 s2 y hi => by
    obtain ⟨T, v, ex, hT, eH, f1⟩ := y
    subst ex eH
    obtain ⟨d, ed, rd⟩ := dpAll_at r1 (f1 vs ((s1.trans s2).sl h1))
    have g : Grow H F' (upd H T (.tup [.int (i : Nat), v])) (upd F' T (.tup [.int (i : Nat), v])) := Grow.new s2 hT
    refine ⟨.tuple [.int (i : Nat), d], _, ?_, g, .tup (SqT.of upd_same) (.cons (.int _) (.cons (dp_mono (s1.trans g.f) _ _ rd) .nil))⟩
    unfold placed
    rw [List.getElem?_map, List.getElem?_zipIdx, ed]
    simp
section
variable {X : Cx} {C : Ct} {z : Zs} {a b e : Expr} {pos p tpos : Pos} {kk : Nat} {elts : List Expr}
theorem fip_enumL {ds : List PyData} (hK : C.K = X.K) (hm : X.mg "enumerate" = none) (ha : FP X C z a (.list ds)) (hg : Gl X "enumerate" := by rfl) (hs : starEach [a] X.env = [(false, eval a X.env)] := by rfl) : FIP X C z (.Tuple elts kk tpos) (.Call (.Name "enumerate" p) [a] [] pos) (placed ds) := by
  refine pi_con (pi_enum hg hm (arg1 ha hs) hs) ?_
  rintro σ H R ⟨F, S, k⟩
  refine ⟨F, S, fun vs ds' z1 H1 F1 ⟨e1, e2⟩ S1 s1 r => ?_⟩
  subst e1 e2
  obtain ⟨v, ev, r1⟩ := paired1 r
  obtain ⟨q, ws, e1, h1, d1⟩ := dp_list r1
  subst ev e1
  rw [← hK]
  exact ⟨q, ws, rfl, S1.sub.sl h1, k _ _ z1 H1 F1 ⟨rfl, rfl⟩ S1 s1 (ite_ok h1 d1)⟩
/-- places and items -/
class EnumC (x : PyData) (ds : outParam (List PyData)) : Prop where
  h : ∃ xs, seqD x = some xs ∧ placed xs = ds
theorem placed_map {α : Type} (xs : List α) (f : α → PyData) : placed (xs.map f) = xs.zipIdx.map fun q => .tuple [.int (q.2 : Nat), f q.1] := by
  unfold placed
  rw [List.zipIdx_map, List.map_map]
  rfl
instance (priority := 1100) {α : Type} {xs : List α} {f : α → PyData} : EnumC (.tuple (xs.map f)) (xs.zipIdx.map fun q => .tuple [.int (q.2 : Nat), f q.1]) := ⟨_, rfl, placed_map xs f⟩
instance (priority := 1100) {α : Type} {xs : List α} {f : α → PyData} : EnumC (.list (xs.map f)) (xs.zipIdx.map fun q => .tuple [.int (q.2 : Nat), f q.1]) := ⟨_, rfl, placed_map xs f⟩
instance (priority := 1000) {xs : List PyData} : EnumC (.tuple xs) (xs.zipIdx.map fun q => .tuple [.int (q.2 : Nat), q.1]) := ⟨_, rfl, rfl⟩
instance (priority := 1000) {xs : List PyData} : EnumC (.list xs) (xs.zipIdx.map fun q => .tuple [.int (q.2 : Nat), q.1]) := ⟨_, rfl, rfl⟩
theorem fip_enumC {x : PyData} {ds : List PyData} (hK : C.K = X.K) (hm : X.mg "enumerate" = none) (ha : FP X C z a x) [c : EnumC x ds] (hg : Gl X "enumerate" := by rfl) (hs : starEach [a] X.env = [(false, eval a X.env)] := by rfl) : FIP X C z (.Tuple elts kk tpos) (.Call (.Name "enumerate" p) [a] [] pos) ds := by
  obtain ⟨xs, e1, e2⟩ := c.h
  subst e2
  cases x <;> cases e1 <;> first | exact fip_enumT hK hm ha hg hs | exact fip_enumL hK hm ha hg hs
/-- zip of two of one kind -/
class ZipC (x y : PyData) (ds : outParam (List PyData)) : Prop where
  h : ∃ xs ys, ((x = .tuple xs ∧ y = .tuple ys) ∨ (x = .list xs ∧ y = .list ys)) ∧ ((xs.zip ys).map fun q => .tuple [q.1, q.2]) = ds
theorem zip_map {α β : Type} (xs : List α) (ys : List β) (f : α → PyData) (g : β → PyData) : (((xs.map f).zip (ys.map g)).map fun q => PyData.tuple [q.1, q.2]) = (xs.zip ys).map fun q => .tuple [f q.1, g q.2] := by
  rw [List.zip_map, List.map_map]
  rfl
instance (priority := 1100) {α β : Type} {xs : List α} {ys : List β} {f : α → PyData} {g : β → PyData} : ZipC (.tuple (xs.map f)) (.tuple (ys.map g)) ((xs.zip ys).map fun q => .tuple [f q.1, g q.2]) := ⟨_, _, .inl ⟨rfl, rfl⟩, zip_map xs ys f g⟩
instance (priority := 1100) {α β : Type} {xs : List α} {ys : List β} {f : α → PyData} {g : β → PyData} : ZipC (.list (xs.map f)) (.list (ys.map g)) ((xs.zip ys).map fun q => .tuple [f q.1, g q.2]) := ⟨_, _, .inr ⟨rfl, rfl⟩, zip_map xs ys f g⟩
instance (priority := 1000) {xs ys : List PyData} : ZipC (.tuple xs) (.tuple ys) ((xs.zip ys).map fun q => .tuple [q.1, q.2]) := ⟨_, _, .inl ⟨rfl, rfl⟩, rfl⟩
instance (priority := 1000) {xs ys : List PyData} : ZipC (.list xs) (.list ys) ((xs.zip ys).map fun q => .tuple [q.1, q.2]) := ⟨_, _, .inr ⟨rfl, rfl⟩, rfl⟩
theorem fip_zipC {x y : PyData} {ds : List PyData} (hK : C.K = X.K) (hm : X.mg "zip" = none) (ha : FP X C z a x) (hb : FP X C z b y) [c : ZipC x y ds] (hg : Gl X "zip" := by rfl) (hs : starEach [a, b] X.env = (false, eval a X.env) :: starEach [b] X.env := by rfl) (hs2 : starEach [b] X.env = (false, eval b X.env) :: starEach [] X.env := by rfl)
    (hpl : (backTo pos (starEach [b] X.env)).any (·.1) = false := by rfl) : FIP X C z (.Tuple elts kk tpos) (.Call (.Name "zip" p) [a, b] [] pos) ds := by
  obtain ⟨xs, ys, e, e2⟩ := c.h
  subst e2
  rcases e with ⟨e1, e2⟩ | ⟨e1, e2⟩ <;> subst e1 e2
  · exact fip_zipT hK hm ha hb hg hs hs2 hpl
  · exact fip_zipL hK hm ha hb hg hs hs2 hpl

/-! isinstance, by kind -/
class IsiC (d : PyData) (T : String) (k : outParam Bool) : Prop where
  h : ∃ t, tyD d = some t ∧ (∀ ds, d = .list ds → False) ∧ ∀ K : PySem.W.Frag, PySem.W.kitOne K t (.type T) = some k
instance {i : Int} : IsiC (.int i) "int" true := ⟨_, rfl, by simp, fun K => kit_self K _⟩
instance {i : Int} : IsiC (.int i) "bool" false := ⟨_, rfl, by simp, fun K => rfl⟩
instance {i : Int} : IsiC (.int i) "tuple" false := ⟨_, rfl, by simp, fun K => rfl⟩
instance {i : Int} : IsiC (.int i) "str" false := ⟨_, rfl, by simp, fun K => rfl⟩
instance {i : Str} : IsiC (.str i) "str" true := ⟨_, rfl, by simp, fun K => kit_self K _⟩
instance {i : Str} : IsiC (.str i) "int" false := ⟨_, rfl, by simp, fun K => rfl⟩
instance {i : Str} : IsiC (.str i) "tuple" false := ⟨_, rfl, by simp, fun K => rfl⟩
instance {i : List PyData} : IsiC (.tuple i) "tuple" true := ⟨_, rfl, by simp, fun K => kit_self K _⟩
instance {i : List PyData} : IsiC (.tuple i) "str" false := ⟨_, rfl, by simp, fun K => rfl⟩
instance {i : List PyData} : IsiC (.tuple i) "int" false := ⟨_, rfl, by simp, fun K => rfl⟩
instance : IsiC .none "int" false := ⟨_, rfl, by simp, fun K => rfl⟩
instance : IsiC .none "tuple" false := ⟨_, rfl, by simp, fun K => rfl⟩
instance : IsiC .none "str" false := ⟨_, rfl, by simp, fun K => rfl⟩
instance {b : Bool} : IsiC (.bool b) "bool" true := ⟨_, rfl, by simp, fun K => kit_self K _⟩
instance {b : Bool} : IsiC (.bool b) "str" false := ⟨_, rfl, by simp, fun K => rfl⟩
instance {b : Bool} : IsiC (.bool b) "tuple" false := ⟨_, rfl, by simp, fun K => rfl⟩
theorem fp_isiC {d : PyData} (T : String) {k : Bool} {y : Str} {py : Pos} (hK : C.K = X.K) (hm : X.mg "isinstance" = none) (hmy : X.mg y = none) (hvy : bootBuiltins y = some (.type T)) (ha : FP X C z a d) [c : IsiC d T k]
    (hny : y ≠ "__name__" := by decide) (hdy : (y == ("__debug__" : Str)) = false := by decide)
    (hg : Gl X "isinstance" := by rfl) (hgy : Gl X y := by rfl) (hs : starEach [a, .Name y py] X.env = (false, eval a X.env) :: starEach [.Name y py] X.env := by rfl) (hs2 : starEach [.Name y py] X.env = (false, eval (.Name y py) X.env) :: starEach [] X.env := by rfl)
    (hpl : (backTo pos (starEach [.Name y py] X.env)).any (·.1) = false := by rfl) : FP X C z (.Call (.Name "isinstance" p) [a, .Name y py] [] pos) (.bool k) := by
  obtain ⟨t, h1, h2, h3⟩ := c.h
  exact fp_isi hK hm hmy hvy ha h1 h2 (h3 _) hny hdy hg hgy hs hs2 hpl

/-! in -/
class InC (x y : PyData) (b : outParam Bool) (s : outParam Prop) : Prop where
  h : s → ∃ ys, y = .list ys ∧ SeqAt.shaped x = true ∧ SeqAt.shaped y = true ∧ (ys.any fun v => PyData.eqv v x) = b
instance (priority := 100) {x : PyData} {ys : List PyData} : InC x (.list ys) (ys.any fun v => PyData.eqv v x) (SeqAt.shaped x = true ∧ SeqAt.shaped (.list ys) = true) := ⟨fun h => ⟨ys, rfl, h.1, h.2, rfl⟩⟩
theorem fp_inC {x y : PyData} {k : Bool} {s : Prop} (hu : X.A.units + 200 < cLine) (hK : C.K = X.K) (ha : FP X C z a x) (hb : FP X C z b y) [c : InC x y k s] (h : s) (hm : behindInMarks .In b = false := by rfl) : FP X C z (.Compare a [.In] [b] pos) (.bool k) := by
  obtain ⟨ys, e1, h1, h2, e2⟩ := c.h h
  subst e1 e2
  exact fp_in (by omega) hK ha hb h1 h2 hm
theorem ft_inC {x y : PyData} {k : Bool} {s : Prop} (hu : X.A.units + 200 < cLine) (hK : C.K = X.K) (ha : FP X C z a x) (hb : FP X C z b y) [c : InC x y k s] (h : s) (hm : behindInMarks .In b = false := by rfl) : FPT X C z (.Compare a [.In] [b] pos) k := by
  obtain ⟨ys, e1, h1, h2, e2⟩ := c.h h
  subst e1 e2
  exact ft_in (by omega) hK ha hb h1 h2 hm
theorem ft_notinC {x y : PyData} {k : Bool} {s : Prop} (hu : X.A.units + 200 < cLine) (hK : C.K = X.K) (ha : FP X C z a x) (hb : FP X C z b y) [c : InC x y k s] (h : s) (hm : behindInMarks .NotIn b = false := by rfl) : FPT X C z (.Compare a [.NotIn] [b] pos) (!k) := by
  obtain ⟨ys, e1, h1, h2, e2⟩ := c.h h
  subst e1 e2
  exact ft_notin (by omega) hK ha hb h1 h2 hm
theorem fl_flp {ds : List PyData} {Q : List PyData → Zs → Prop} (h : FLP X C z e ds) (k : Q ds z) : FL X C z e Q := fl_mono h fun _ _ ⟨e1, e2⟩ => by
  subst e1 e2
  exact k
theorem room_units {n : Nat} {A : Around} (hr : Room n A) : A.units + 200 < cLine := by have := hr.un; omega
end
section
variable {X : Cx} {C : Ct} {z : Zs} {elt iter : Expr} {scope : Scope} {pos pp : Pos} {nm : Str}
theorem f1_setLcO_P {x : Str} {own : List (Str × Nat)} {tg : Expr} {ifs : List Expr} {lp px : Pos} {ds : List PyData} {Q : Out → Zs → Prop} (i : Nat) (hc : X.calm = true) (hN : X.N.Nodup) (ok : BlkOk X.N X.env.scope scope own)
    (hi : FI X C z tg iter (LcQ X C scope (own.map (·.2)) tg elt ifs fun ds' z' => ds' = ds ∧ z' = z)) (k : Q .nx ⟨z.r.set i (.ow ds), z.p⟩)
    (hx : X.N[i]? = some x := by rfl) (hy : X.env.scope.names.lookup x = some .local := by rfl)
    (hsw : swapsWith (.ListComp elt [⟨tg, iter, ifs, 0⟩] scope lp) (some (.Name x px)) pos.line X.env = pure true := by exact sw_true rfl rfl rfl (by decide +kernel))
    (hs : ∀ x, foldedSetIterable iter X.env x = pure x := by intro _; rfl) : F1 X C z (.Assign [.Name x px] (.ListComp elt [⟨tg, iter, ifs, 0⟩] scope lp) pos) Q :=
  f1_setLcO i hc hN ok (lcq_mono hi fun ds' z' ⟨e1, e2⟩ => by
    subst e1 e2
    exact k) hx hy hsw hs
/-- a comprehension whose elements draw: all that is kept is what holds of each -/
theorem lcd_all {α : Type} (i : Nat) (enc : α → PyData) (Pv : α → Prop) (c m : Nat) (ds : List PyData) (hN : X.N.Nodup) (hi : FIP X C z (.Name nm pp) iter ds) (hlen : ds.length ≤ 100000) (hno : noOwnAt z.r [i] = true) (hp : PB z.p m)
    (turn : ∀ d, d ∈ ds → ∀ (k : Nat) (π : Pot), k < ds.length → PB π (m + c * k) → ∀ (s : Shared) (H : Hp) (cc : Addr) (cl : List (Str × Addr)) (fp : List Addr) (C' : Ct), C'.K = C.K → C'.P = C.P →
      FE (blkX X scope s H cc cl fp) C' ⟨(wipeR z.r [i]).set i (sd d), π⟩ elt fun y z5 => ∃ v, y = .d (enc v) ∧ z5.r = (wipeR z.r [i]).set i (sd d) ∧ Pv v ∧ PB z5.p (m + c * k + c))
    (Q : List PyData → Zs → Prop) (q : ∀ (vs : List α) (π : Pot), vs.length = ds.length → (∀ v ∈ vs, Pv v) → PB π (m + c * ds.length) → Q (vs.map enc) ⟨z.r, π⟩)
    (hx : X.N[i]? = some nm := by rfl) (hl : Loc (relS scope X.env.scope) nm := by first | exact .inl rfl | exact .inr rfl)
    (hf : (scope.names.lookup nm == some .cell) = true ∨ (relS scope X.env.scope).names.lookup nm = some .local := by first | exact .inr rfl | exact .inl rfl) :
    FI X C z (.Name nm pp) iter (LcQ X C scope [i] (.Name nm pp) elt [] Q) := by
  refine lcd_mapN i (fun k acc π => ∃ vs : List α, acc = vs.map enc ∧ vs.length = k ∧ k ≤ ds.length ∧ (∀ v ∈ vs, Pv v) ∧ PB π (m + c * k)) hN (fi_mono hi fun ds' z1 ⟨e1, e2⟩ => ?_) hx hl hf
  subst e1 e2
  refine ⟨hno, ⟨[], rfl, rfl, Nat.zero_le _, by simp, by simpa using hp⟩, fun k d acc p hd ⟨vs, e1, e2, e3, e4, e5⟩ => ⟨?_, fun s H cc cl fp C' hk hp' => ?_⟩, fun acc p ⟨vs, e1, e2, e3, e4, e5⟩ => ?_⟩
  · rw [e1, List.length_map]
    have := (List.getElem?_eq_some_iff.mp hd).1
    omega
  · have hkl := (List.getElem?_eq_some_iff.mp hd).1
    refine fe_mono (turn d (List.mem_of_getElem? hd) k p hkl e5 s H cc cl fp C' hk hp') fun y z5 ⟨v, y1, y2, y3, y4⟩ => ⟨enc v, y1, y2, vs ++ [v], ?_, ?_, by omega, ?_, ?_⟩
    · rw [e1, List.map_append]; rfl
    · rw [List.length_append, e2]; rfl
    · intro u hu
      rcases List.mem_append.mp hu with hu | hu
      · exact e4 u hu
      · rw [List.mem_singleton.mp hu]; exact y3
    · rw [Nat.mul_add, Nat.mul_one, ← Nat.add_assoc]; exact y4
  · rw [e1]
    exact q vs p (by omega) e4 (by rw [← e2] at e5; rw [← e2]; exact e5)
end
/-- an int that is a number from 0 on -/
abbrev nI (i : Nat) : PyData := .int ((i : Nat) : Int)
theorem fip_rangeN {X : Cx} {C : Ct} {z : Zs} {a tg : Expr} {p pos : Pos} {j : Int} (hm : X.mg "range" = none) (h : FP X C z a (.int j)) (h1 : j < 2 ^ 62) (h2 : -(2 ^ 62) ≤ j) (hg : Gl X "range" := by rfl) (hs : starEach [a] X.env = [(false, eval a X.env)] := by rfl) : FIP X C z tg (.Call (.Name "range" p) [a] [] pos) ((List.range j.toNat).map nI) :=
  fip_is (fip_range1 hm h h1 h2 hg hs) (by unfold rng; refine List.map_congr_left fun i _ => ?_; rw [Int.zero_add])
end DL

set_option Elab.async false
set_option linter.all false
set_option maxRecDepth 100000
set_option maxHeartbeats 4000000
set_option autoImplicit false
namespace DL
open PySem PySem.Spec PyProof.Rows L2

/-! ### data without truth values: Python's == is being the same -/
mutual
def nb : PyData → Bool
  | .none | .int _ => true
  | .str x => PyData.strOk x
  | .list xs | .tuple xs => nbAll xs
  | .bool _ | .dict _ => false
def nbAll : List PyData → Bool
  | [] => true
  | x :: xs => nb x && nbAll xs
end
mutual
theorem nb_lay : ∀ x : PyData, nb x = true → x.canLay0 = true
  | .none, _ | .int _, _ => rfl
  | .bool _, h => by rw [nb] at h; cases h
  | .dict _, h => by rw [nb] at h; cases h
  | .str s, h => by rw [nb] at h; exact h
  | .list xs, h => by rw [nb] at h; rw [PyData.canLay0]; exact nbAll_lay xs h
  | .tuple xs, h => by rw [nb] at h; rw [PyData.canLay0]; exact nbAll_lay xs h
theorem nbAll_lay : ∀ xs : List PyData, nbAll xs = true → PyData.canLayAll0 xs = true
  | [], _ => rfl
  | x :: xs, h => by
    rw [nbAll, Bool.and_eq_true] at h
    rw [PyData.canLayAll0, Bool.and_eq_true]
    exact ⟨nb_lay x h.1, nbAll_lay xs h.2⟩
end
mutual
theorem nb_eqv : ∀ x y : PyData, nb x = true → nb y = true → (PyData.eqv x y = true ↔ x = y)
  | .none, y, _, hy => by cases y <;> simp [PyData.eqv, nb] at hy ⊢
  | .int i, y, _, hy => by cases y <;> simp [PyData.eqv, nb] at hy ⊢
  | .str s, y, _, hy => by cases y <;> simp [PyData.eqv, nb] at hy ⊢
  | .bool _, _, h, _ => by rw [nb] at h; cases h
  | .dict _, _, h, _ => by rw [nb] at h; cases h
  | .list xs, y, h, hy => by
    cases y with
    | list ys =>
      rw [nb] at h hy
      rw [PyData.eqv, nbAll_eqv xs ys h hy, PyData.list.injEq]
    | _ => simp [PyData.eqv, nb] at hy ⊢
  | .tuple xs, y, h, hy => by
    cases y with
    | tuple ys =>
      rw [nb] at h hy
      rw [PyData.eqv, nbAll_eqv xs ys h hy, PyData.tuple.injEq]
    | _ => simp [PyData.eqv, nb] at hy ⊢
theorem nbAll_eqv : ∀ xs ys : List PyData, nbAll xs = true → nbAll ys = true → (PyData.eqvAll xs ys = true ↔ xs = ys)
  | [], [], _, _ => by simp [PyData.eqvAll]
  | [], _ :: _, _, _ => by simp [PyData.eqvAll]
  | _ :: _, [], _, _ => by simp [PyData.eqvAll]
  | x :: xs, y :: ys, h, hy => by
    rw [nbAll, Bool.and_eq_true] at h hy
    rw [PyData.eqvAll, Bool.and_eq_true, nb_eqv x y h.1 hy.1, nbAll_eqv xs ys h.2 hy.2, List.cons.injEq]
end
noncomputable instance (priority := low) decD : DecidableEq PyData := fun a b => Classical.propDecidable (a = b)
class Nb (x : PyData) (n : outParam Nat) : Prop where
  b : nb x = true
  d : x.depth ≤ n
class NbL (xs : List PyData) (n : outParam Nat) : Prop where
  b : nbAll xs = true
  d : PyData.depthAll xs ≤ n
theorem strOk_of (s : String) : PyData.strOk (Str.ofString s) = true := by
  rw [Str.ofString_eq_toList]
  unfold PyData.strOk
  rw [Array.all_eq_true]
  intro i hi
  simp only [List.getElem_toArray, List.getElem_map, decide_eq_true_eq]
  have := (s.toList[i]'(by simpa using hi)).valid
  unfold UInt32.isValidChar Nat.isValidChar at this
  show (s.toList[i]'(by simpa using hi)).val.toNat < 1114112
  omega
instance : Nb .none 0 := ⟨rfl, Nat.le_refl _⟩
instance {i : Int} : Nb (.int i) 0 := ⟨rfl, Nat.le_refl _⟩
instance {s : String} : Nb (.str (Str.ofString s)) 0 := ⟨by rw [nb]; exact strOk_of s, Nat.le_refl _⟩
instance : NbL [] 0 := ⟨rfl, Nat.le_refl _⟩
instance {x : PyData} {xs : List PyData} {n m : Nat} [h : Nb x n] [k : NbL xs m] : NbL (x :: xs) (max n m) := ⟨by rw [nbAll, h.b, k.b]; rfl, by rw [PyData.depthAll]; have := h.d; have := k.d; omega⟩
theorem nbAll_map {α : Type} {f : α → PyData} : ∀ {xs : List α}, (∀ x ∈ xs, nb (f x) = true) → nbAll (xs.map f) = true
  | [], _ => rfl
  | x :: xs, h => by rw [List.map_cons, nbAll, h x List.mem_cons_self, nbAll_map fun y hy => h y (List.mem_cons_of_mem _ hy)]; rfl
theorem depthAll_map {α : Type} {f : α → PyData} {n : Nat} : ∀ {xs : List α}, (∀ x ∈ xs, (f x).depth ≤ n) → PyData.depthAll (xs.map f) ≤ n
  | [], _ => Nat.zero_le _
  | x :: xs, h => by
    rw [List.map_cons, PyData.depthAll]
    have := h x List.mem_cons_self
    have := depthAll_map (xs := xs) fun y hy => h y (List.mem_cons_of_mem _ hy)
    omega
instance {α : Type} {xs : List α} {f : α → PyData} {n : Nat} [h : ∀ x, Nb (f x) n] : NbL (xs.map f) n := ⟨nbAll_map fun x _ => (h x).b, depthAll_map fun x _ => (h x).d⟩
theorem nbAll_app : ∀ {xs ys : List PyData}, nbAll xs = true → nbAll ys = true → nbAll (xs ++ ys) = true
  | [], _, _, h => h
  | x :: xs, ys, h, k => by
    rw [nbAll, Bool.and_eq_true] at h
    rw [List.cons_append, nbAll, h.1, nbAll_app h.2 k]; rfl
theorem depthAll_app : ∀ {xs ys : List PyData} {n m : Nat}, PyData.depthAll xs ≤ n → PyData.depthAll ys ≤ m → PyData.depthAll (xs ++ ys) ≤ max n m
  | [], _, _, _, _, h => by rw [List.nil_append]; omega
  | x :: xs, ys, n, m, h, k => by
    rw [PyData.depthAll] at h
    rw [List.cons_append, PyData.depthAll]
    have := depthAll_app (xs := xs) (n := n) (by omega) k
    omega
instance {xs ys : List PyData} {n m : Nat} [h : NbL xs n] [k : NbL ys m] : NbL (xs ++ ys) (max n m) := ⟨nbAll_app h.b k.b, depthAll_app h.d k.d⟩
instance {c : Prop} [Decidable c] {x y : PyData} {n m : Nat} [h : Nb x n] [k : Nb y m] : Nb (if c then x else y) (max n m) := ⟨by split; exact h.b; exact k.b, by have := h.d; have := k.d; split <;> omega⟩
instance {c : Prop} [Decidable c] {x y : List PyData} {n m : Nat} [h : NbL x n] [k : NbL y m] : NbL (if c then x else y) (max n m) := ⟨by split; exact h.b; exact k.b, by have := h.d; have := k.d; split <;> omega⟩
instance {n : Nat} {x : PyData} {m : Nat} [h : Nb x m] : NbL (List.replicate n x) m := ⟨by
  have e : List.replicate n x = (List.replicate n ()).map fun _ => x := by rw [List.map_replicate]
  rw [e]; exact nbAll_map fun _ _ => h.b, by
  have e : List.replicate n x = (List.replicate n ()).map fun _ => x := by rw [List.map_replicate]
  rw [e]; exact depthAll_map fun _ _ => h.d⟩
instance {xs : List PyData} {n : Nat} [h : NbL xs n] : Nb (.list xs) (n + 1) := ⟨by rw [nb]; exact h.b, by rw [PyData.depth]; exact Nat.succ_le_succ h.d⟩
instance {xs : List PyData} {n : Nat} [h : NbL xs n] : Nb (.tuple xs) (n + 1) := ⟨by rw [nb]; exact h.b, by rw [PyData.depth]; exact Nat.succ_le_succ h.d⟩
theorem Nb.shaped {x : PyData} {n : Nat} (h : Nb x n) (k : n ≤ 64) : SeqAt.shaped x = true := by
  unfold SeqAt.shaped
  rw [nb_lay x h.b, decide_eq_true (Nat.le_trans h.d k)]; rfl
theorem Nb.eqv {x y : PyData} {n m : Nat} (h : Nb x n) (k : Nb y m) : PyData.eqv x y = decide (x = y) := by
  by_cases e : x = y
  · rw [(nb_eqv x y h.b k.b).mpr e, decide_eq_true e]
  · rw [decide_eq_false e]
    exact Bool.eq_false_iff.mpr fun q => e ((nb_eqv x y h.b k.b).mp q)
instance (priority := 500) {x y : PyData} {n m : Nat} [h : Nb x n] [k : Nb y m] : EqC x y (decide (x = y)) (n ≤ 64 ∧ m ≤ 64) := ⟨fun q => .dat (h.shaped q.1) (k.shaped q.2) (h.eqv k)⟩
theorem mem_nb : ∀ {xs : List PyData}, nbAll xs = true → ∀ x ∈ xs, nb x = true
  | y :: ys, h, x, hx => by
    rw [nbAll, Bool.and_eq_true] at h
    rcases List.mem_cons.mp hx with e | e
    · rw [e]; exact h.1
    · exact mem_nb h.2 x e
theorem any_mem {x : PyData} (hx : nb x = true) : ∀ {ys : List PyData}, nbAll ys = true → (ys.any fun v => PyData.eqv v x) = decide (x ∈ ys)
  | [], _ => rfl
  | y :: ys, h => by
    rw [nbAll, Bool.and_eq_true] at h
    rw [List.any_cons, any_mem hx h.2]
    by_cases e : y = x
    · have m : x ∈ y :: ys := by rw [e]; exact List.mem_cons_self
      rw [(nb_eqv y x h.1 hx).mpr e, Bool.true_or]
      exact (decide_eq_true m).symm
    · have q : PyData.eqv y x = false := Bool.eq_false_iff.mpr fun q => e ((nb_eqv y x h.1 hx).mp q)
      rw [q, Bool.false_or]
      exact decide_eq_decide.mpr ⟨fun m => List.mem_cons_of_mem _ m, fun m => (List.mem_cons.mp m).elim (fun r => absurd r.symm e) id⟩
instance (priority := 500) {x : PyData} {ys : List PyData} {n m : Nat} [h : Nb x n] [k : NbL ys m] : InC x (.list ys) (decide (x ∈ ys)) (n ≤ 64 ∧ m ≤ 63) := ⟨fun q => ⟨ys, rfl, h.shaped q.1, Nb.shaped (n := m + 1) inferInstance (by omega), any_mem h.b k.b⟩⟩

/-! ints and numbers -/
class NatsC (ds : List PyData) (ns : outParam (List Nat)) : Prop where
  h : ds = ns.map nI
instance (priority := 1100) {ns : List Nat} : NatsC (ns.map nI) ns := ⟨rfl⟩
instance {α : Type} {xs : List α} {f : α → Nat} : NatsC (xs.map fun x => .int ((f x : Nat) : Int)) (xs.map f) := ⟨by rw [List.map_map]; rfl⟩
theorem map_inj {α β : Type} {f : α → β} (h : ∀ x y, f x = f y → x = y) : ∀ {xs ys : List α}, xs.map f = ys.map f ↔ xs = ys
  | [], [] => by simp
  | [], _ :: _ => by simp
  | _ :: _, [] => by simp
  | x :: xs, y :: ys => by
    rw [List.map_cons, List.map_cons, List.cons.injEq, List.cons.injEq, map_inj h]
    exact ⟨fun ⟨a, b⟩ => ⟨h _ _ a, b⟩, fun ⟨a, b⟩ => ⟨by rw [a], b⟩⟩
theorem nI_inj (x y : Nat) (h : nI x = nI y) : x = y := by
  have := PyData.int.inj h
  omega
theorem nats_eq {xs ys : List Nat} : xs.map nI = ys.map nI ↔ xs = ys := map_inj nI_inj
theorem ints_eq {xs ys : List Int} : xs.map PyData.int = ys.map PyData.int ↔ xs = ys := map_inj fun _ _ => PyData.int.inj
theorem eqC_of {x y : PyData} {n m : Nat} [h : Nb x n] [k : Nb y m] (hn : n ≤ 64) (hm : m ≤ 64) {p : Prop} [Decidable p] (e : x = y ↔ p) : EqG x y (decide p) := .dat (h.shaped hn) (k.shaped hm) (by rw [h.eqv k]; exact decide_eq_decide.mpr e)
instance (priority := 900) {ds es : List PyData} {ns ms : List Nat} [h : NatsC ds ns] [k : NatsC es ms] : EqC (.list ds) (.list es) (decide (ns = ms)) True := ⟨fun _ => by
  rw [h.h, k.h]; exact eqC_of (by decide) (by decide) (by rw [PyData.list.injEq, nats_eq])⟩
instance (priority := 900) {ds es : List PyData} {ns ms : List Nat} [h : NatsC ds ns] [k : NatsC es ms] : EqC (.tuple ds) (.tuple es) (decide (ns = ms)) True := ⟨fun _ => by
  rw [h.h, k.h]; exact eqC_of (by decide) (by decide) (by rw [PyData.tuple.injEq, nats_eq])⟩
instance (priority := 800) {ds es : List PyData} {ns ms : List Int} [h : IntsC ds ns] [k : IntsC es ms] : EqC (.list ds) (.list es) (decide (ns = ms)) True := ⟨fun _ => by
  rw [h.h, k.h]; exact eqC_of (by decide) (by decide) (by rw [PyData.list.injEq, ints_eq])⟩
instance (priority := 800) {ds es : List PyData} {ns ms : List Int} [h : IntsC ds ns] [k : IntsC es ms] : EqC (.tuple ds) (.tuple es) (decide (ns = ms)) True := ⟨fun _ => by
  rw [h.h, k.h]; exact eqC_of (by decide) (by decide) (by rw [PyData.tuple.injEq, ints_eq])⟩
instance (priority := 900) {x : Nat} {ds : List PyData} {ns : List Nat} [k : NatsC ds ns] : InC (nI x) (.list ds) (decide (x ∈ ns)) True := ⟨fun _ => ⟨ds, rfl, Nb.shaped (n := 0) inferInstance (by decide), by rw [k.h]; exact Nb.shaped (n := 1) inferInstance (by decide), by
  rw [k.h, any_mem rfl (nbAll_map fun _ _ => rfl)]
  exact decide_eq_decide.mpr ⟨fun h => by obtain ⟨y, hy, e⟩ := List.mem_map.mp h; rw [← nI_inj _ _ e]; exact hy, fun h => List.mem_map.mpr ⟨x, h, rfl⟩⟩⟩⟩
instance (priority := 800) {x : Int} {ds : List PyData} {ns : List Int} [k : IntsC ds ns] : InC (.int x) (.list ds) (decide (x ∈ ns)) True := ⟨fun _ => ⟨ds, rfl, Nb.shaped (n := 0) inferInstance (by decide), by rw [k.h]; exact Nb.shaped (n := 1) inferInstance (by decide), by
  rw [k.h, any_mem rfl (nbAll_map fun _ _ => rfl)]
  exact decide_eq_decide.mpr ⟨fun h => by obtain ⟨y, hy, e⟩ := List.mem_map.mp h; cases e; exact hy, fun h => List.mem_map.mpr ⟨x, h, rfl⟩⟩⟩⟩
end DL

set_option Elab.async false
set_option linter.all false
set_option maxRecDepth 100000
set_option maxHeartbeats 4000000
set_option autoImplicit false
namespace DL
open PySem PySem.Spec PyProof.Rows L2
/-- x[::-1] -/
class RevC (x : PyData) (ds : outParam (List PyData)) : Prop where
  h : ∃ xs, x = .tuple xs ∧ xs.reverse = ds
instance (priority := 1100) {α : Type} {xs : List α} {f : α → PyData} : RevC (.tuple (xs.map f)) (xs.reverse.map f) := ⟨_, rfl, by rw [List.map_reverse]⟩
instance (priority := 1000) {xs : List PyData} : RevC (.tuple xs) xs.reverse := ⟨_, rfl, rfl⟩
theorem fp_revC {X : Cx} {C : Ct} {z : Zs} {a : Expr} {pos p1 p2 p3 : Pos} {k : Nat} {x : PyData} {ds : List PyData} (hK : C.K = X.K) (ha : FP X C z a x) [c : RevC x ds] : FP X C z (.Subscript a (.Slice none none (some (.UnaryOp .USub (.Constant (.int 1) k p1) p2)) p3) pos) (.tuple ds) := by
  obtain ⟨xs, e1, e2⟩ := c.h
  subst e1 e2
  exact fp_revT hK ha
theorem split_at {α : Type} {l pre post : List α} {x : α} (h : l = pre ++ x :: post) : l[pre.length]? = some x := by
  rw [h, List.getElem?_append_right (Nat.le_refl _), Nat.sub_self]; rfl
theorem split_lt {α : Type} {l pre post : List α} {x : α} (h : l = pre ++ x :: post) : pre.length < l.length := by
  rw [h, List.length_append, List.length_cons]; omega
theorem split_mem {α : Type} {l pre post : List α} {x : α} (h : l = pre ++ x :: post) : x ∈ l := by rw [h]; simp
theorem zipIdx_split {α : Type} {l : List α} {pre post : List (α × Nat)} {x : α × Nat} (h : l.zipIdx = pre ++ x :: post) : x.2 = pre.length ∧ l[pre.length]? = some x.1 ∧ pre.length < l.length := by
  have h1 := split_at h
  rw [List.getElem?_zipIdx] at h1
  cases e : l[pre.length]? with
  | none => rw [e] at h1; cases h1
  | some y =>
    rw [e] at h1
    have h1 := Option.some.inj h1
    refine ⟨by rw [← h1]; exact Nat.zero_add _, by rw [← h1], (List.getElem?_eq_some_iff.mp e).1⟩
theorem zip_split {α β : Type} {l : List α} {m : List β} {pre post : List (α × β)} {x : α × β} (h : l.zip m = pre ++ x :: post) : l[pre.length]? = some x.1 ∧ m[pre.length]? = some x.2 := by
  have h1 := split_at h
  exact List.getElem?_zip_eq_some.mp h1
theorem getD_of {α : Type} {l : List α} {n : Nat} {x d : α} (h : l[n]? = some x) : l.getD n d = x := by
  rw [List.getD_eq_getElem?_getD, h]; rfl
theorem fp_dgetR {X : Cx} {C : Ct} {z : Zs} {pos : Pos} {n : Expr} {pn : Pos} {x : Str} {m : Nat} {kd : List (Key × PyData)} {key : Key} {d : PyData} (i : Nat) (hr : Room m X.A) (hz : z.r[i]? = some (.og (.k kd))) (hj : FP X C z n (keyD key)) (hg : getD kd key = some d) (hs : NoSl n := by exact fun _ _ => rfl) (hN : X.N[i]? = some x := by rfl)
    (hv : Vis X.env.scope x := by first | exact Or.inl rfl | exact Or.inr (Or.inl rfl) | exact Or.inr (Or.inr rfl))
    (hd : (x == ("__debug__" : Str)) = false := by decide) (hcd : (x == ("__classdict__" : Str)) = false := by decide) : FP X C z (.Subscript (.Name x pn) n pos) d := fp_dgetK i (by have := hr.un; omega) hz hj hg hs hN hv hd hcd
end DL

set_option Elab.async false
set_option linter.all false
set_option maxRecDepth 100000
set_option maxHeartbeats 4000000
set_option autoImplicit false
namespace DL
open PySem PySem.Spec PyProof.Rows L2
/-! ### what draws, by any road -/
section
variable {X : Cx} {C : Ct} {z : Zs} {a b c e elt iter tg : Expr} {es : List Expr} {pos p pn pp : Pos} {nm : Str} {scope : Scope}
theorem fe_oneE {op : BoolOp} {Q : DV → Zs → Prop} (h : FE X C z a Q) : FE X C z (.BoolOp op [a] pos) Q := pe_one h
theorem fe_andE {Q : DV → Zs → Prop} (ha : FE X C z a fun x z1 => ∃ p : Bool, x = .d (.bool p) ∧ (p = false → Q (.d (.bool false)) z1) ∧ (p = true → FE X C z1 (.BoolOp .And (b :: es) pos) Q)) : FE X C z (.BoolOp .And (a :: b :: es) pos) Q := by
  have pb : PE X (.BoolOp .And (b :: es) pos) (fun σ H R => ∃ z1, FE X C z1 (.BoolOp .And (b :: es) pos) Q ∧ tW C z1 Q σ H R) := ⟨fun pins s σ H R I ⟨z1, f, w⟩ => f.run pins s σ H R I w⟩
  refine pe_con (pe_and ha pb) ?_
  rintro σ H R ⟨F, S, k⟩
  refine ⟨F, S, fun v d z' H' F' ⟨p, ex, h1, h2⟩ S' e r => ?_⟩
  subst ex
  refine ⟨p, dp_bool r, ?_⟩
  cases p with
  | true =>
    rw [if_pos rfl]
    exact ⟨z', h2 rfl, F', S', fun v d z2 H'' F'' x S'' e' => k v d z2 H'' F'' x S'' (e.trans e')⟩
  | false =>
    rw [if_neg Bool.false_ne_true]
    exact k _ _ _ _ _ (h1 rfl) S' e (.bl _)
theorem fe_orE {Q : DV → Zs → Prop} (ha : FE X C z a fun x z1 => ∃ p : Bool, x = .d (.bool p) ∧ (p = true → Q (.d (.bool true)) z1) ∧ (p = false → FE X C z1 (.BoolOp .Or (b :: es) pos) Q)) : FE X C z (.BoolOp .Or (a :: b :: es) pos) Q := by
  have pb : PE X (.BoolOp .Or (b :: es) pos) (fun σ H R => ∃ z1, FE X C z1 (.BoolOp .Or (b :: es) pos) Q ∧ tW C z1 Q σ H R) := ⟨fun pins s σ H R I ⟨z1, f, w⟩ => f.run pins s σ H R I w⟩
  refine pe_con (pe_or ha pb) ?_
  rintro σ H R ⟨F, S, k⟩
  refine ⟨F, S, fun v d z' H' F' ⟨p, ex, h1, h2⟩ S' e r => ?_⟩
  subst ex
  refine ⟨p, dp_bool r, ?_⟩
  cases p with
  | false =>
    rw [if_neg Bool.false_ne_true]
    exact ⟨z', h2 rfl, F', S', fun v d z2 H'' F'' x S'' e' => k v d z2 H'' F'' x S'' (e.trans e')⟩
  | true =>
    rw [if_pos rfl]
    exact k _ _ _ _ _ (h1 rfl) S' e (.bl _)
theorem fe_notE {Q : DV → Zs → Prop} (ha : FE X C z a fun x z1 => ∃ p : Bool, x = .d (.bool p) ∧ Q (.d (.bool (!p))) z1) : FE X C z (.UnaryOp .Not a pos) Q := by
  refine pe_con (pe_not ha) ?_
  rintro σ H R ⟨F, S, k⟩
  refine ⟨F, S, fun v d z' H' F' ⟨p, ex, q⟩ S' e r => ?_⟩
  subst ex
  exact ⟨p, dp_bool r, k _ _ _ _ _ q S' e (.bl _)⟩
/-- a op b of ints, either may draw -/
theorem fe_II {r : R2} {gg : Int → Int → PyData} {Q : DV → Zs → Prop} (rule : ∀ ta tb, PE X a ta → PE X b tb → PE X e (tOp r ta tb)) (CC : Int → Int → Prop) (g : ∀ (i j : Int) (k : DV → Prop), CC i j → k (.d (gg i j)) → G2 C r (.d (.int i)) (.d (.int j)) k)
    (ha : FE X C z a fun x z1 => ∃ i : Int, x = .d (.int i) ∧ FE X C z1 b fun y z2 => ∃ j : Int, y = .d (.int j) ∧ CC i j ∧ Q (.d (gg i j)) z2) : FE X C z e Q :=
  fe_bin rule ha fun x z1 ⟨i, ex, hb⟩ => fe_mono hb fun y z2 ⟨j, ey, hc, q⟩ => by
    subst ex ey
    exact g i j _ hc q
theorem fe_addI {Q : DV → Zs → Prop} (ha : FE X C z a fun x z1 => ∃ i : Int, x = .d (.int i) ∧ FE X C z1 b fun y z2 => ∃ j : Int, y = .d (.int j) ∧ Q (.d (.int (i + j))) z2) : FE X C z (.BinOp a .Add b pos) Q :=
  fe_II (gg := fun i j => .int (i + j)) (fun _ _ => pe_op op_add) (fun _ _ => True) (fun _ _ _ _ h => g2_I0 (gg := fun i j => i + j) h) (fe_mono ha fun _ _ ⟨i, e, h⟩ => ⟨i, e, fe_mono h fun _ _ ⟨j, e, q⟩ => ⟨j, e, trivial, q⟩⟩)
theorem fe_subI {Q : DV → Zs → Prop} (ha : FE X C z a fun x z1 => ∃ i : Int, x = .d (.int i) ∧ FE X C z1 b fun y z2 => ∃ j : Int, y = .d (.int j) ∧ Q (.d (.int (i - j))) z2) : FE X C z (.BinOp a .Sub b pos) Q :=
  fe_II (gg := fun i j => .int (i - j)) (fun _ _ => pe_op op_sub) (fun _ _ => True) (fun _ _ _ _ h => g2_I0 (gg := fun i j => i - j) h) (fe_mono ha fun _ _ ⟨i, e, h⟩ => ⟨i, e, fe_mono h fun _ _ ⟨j, e, q⟩ => ⟨j, e, trivial, q⟩⟩)
theorem fe_mulI {Q : DV → Zs → Prop} (ha : FE X C z a fun x z1 => ∃ i : Int, x = .d (.int i) ∧ FE X C z1 b fun y z2 => ∃ j : Int, y = .d (.int j) ∧ CMul i j ∧ Q (.d (.int (i * j))) z2) : FE X C z (.BinOp a .Mult b pos) Q :=
  fe_II (gg := fun i j => .int (i * j)) (fun _ _ => pe_op op_mul) CMul (fun _ _ _ hc h => g2_I (gg := fun i j => i * j) hc h) ha
theorem fe_fdivI {Q : DV → Zs → Prop} (ha : FE X C z a fun x z1 => ∃ i : Int, x = .d (.int i) ∧ FE X C z1 b fun y z2 => ∃ j : Int, y = .d (.int j) ∧ CDiv i j ∧ Q (.d (.int (i / j))) z2) : FE X C z (.BinOp a .FloorDiv b pos) Q :=
  fe_II (gg := fun i j => .int (i / j)) (fun _ _ => pe_op op_fdiv) CDiv (fun _ _ _ hc h => g2_I (gg := fun i j => i / j) hc h) ha
theorem fe_modI {Q : DV → Zs → Prop} (ha : FE X C z a fun x z1 => ∃ i : Int, x = .d (.int i) ∧ FE X C z1 b fun y z2 => ∃ j : Int, y = .d (.int j) ∧ 0 < j ∧ Q (.d (.int (i % j))) z2) : FE X C z (.BinOp a .Mod b pos) Q :=
  fe_II (gg := fun i j => .int (i % j)) (fun _ _ => pe_op op_mod) (fun _ j => 0 < j) (fun _ _ _ hc h => g2_I (gg := fun i j => i % j) (CC := fun _ j => 0 < j) hc h) ha
/-- a test that compares ints, either may draw -/
theorem ft_cmpE {op : CmpOp} {r : R2} {gg : Int → Int → Bool} {Q : Bool → Zs → Prop} (ho : OpR X (compareOp op) r) (g : ∀ (i j : Int) (k : DV → Prop), k (.d (.bool (gg i j))) → G2 C r (.d (.int i)) (.d (.int j)) k) (hm : behindInMarks op b = false)
    (ha : FE X C z a fun x z1 => ∃ i : Int, x = .d (.int i) ∧ FE X C z1 b fun y z2 => ∃ j : Int, y = .d (.int j) ∧ Q (gg i j) z2) : FT X C z (.Compare a [op] [b] pos) Q := by
  have pb : PE X b (fun σ H R => ∃ z1 Qb, FE X C z1 b Qb ∧ tW C z1 Qb σ H R) := ⟨fun pins s σ H R I ⟨z1, Qb, f, w⟩ => f.run pins s σ H R I w⟩
  refine pt_con (pt_cmpR ho ha pb hm) ?_
  rintro σ H R ⟨F, S, k⟩
  refine ⟨F, S, fun v d z' H' F' ⟨i, ex, h1⟩ S' e r1 => ?_⟩
  subst ex
  refine ⟨z', _, h1, F', S', fun u d2 z2 H2 F2 ⟨j, ey, q⟩ S2 e2' r2 => ?_⟩
  subst ey
  refine g i j (fun d => d = .d (.bool (gg i j))) rfl F2 H2 v u _ S2.sub (r1.mono e2') r2 fun w d H3 F3 ek gr r3 => ?_
  subst ek
  exact ⟨_, dp_bool r3, k _ _ _ _ q (S2.grow gr) ((e.trans e2').trans gr.f)⟩
theorem ft_eqE {Q : Bool → Zs → Prop} (ha : FE X C z a fun x z1 => ∃ i : Int, x = .d (.int i) ∧ FE X C z1 b fun y z2 => ∃ j : Int, y = .d (.int j) ∧ Q (decide (i = j)) z2) : FT X C z (.Compare a [.Eq] [b] pos) Q := ft_cmpE op_eq (fun _ _ _ h => g2_eqI h) (nomark _) ha
theorem ft_neE {Q : Bool → Zs → Prop} (ha : FE X C z a fun x z1 => ∃ i : Int, x = .d (.int i) ∧ FE X C z1 b fun y z2 => ∃ j : Int, y = .d (.int j) ∧ Q (!decide (i = j)) z2) : FT X C z (.Compare a [.NotEq] [b] pos) Q := ft_cmpE (gg := fun i j => !decide (i = j)) op_ne (fun _ _ _ h => g2_neI h) (nomark _) ha
theorem ft_ltE {Q : Bool → Zs → Prop} (ha : FE X C z a fun x z1 => ∃ i : Int, x = .d (.int i) ∧ FE X C z1 b fun y z2 => ∃ j : Int, y = .d (.int j) ∧ Q (decide (i < j)) z2) : FT X C z (.Compare a [.Lt] [b] pos) Q := ft_cmpE op_lt (fun _ _ _ h => g2_B0 (gg := fun i j => decide (i < j)) h) (nomark _) ha
theorem ft_gtE {Q : Bool → Zs → Prop} (ha : FE X C z a fun x z1 => ∃ i : Int, x = .d (.int i) ∧ FE X C z1 b fun y z2 => ∃ j : Int, y = .d (.int j) ∧ Q (decide (j < i)) z2) : FT X C z (.Compare a [.Gt] [b] pos) Q := ft_cmpE (gg := fun i j => decide (j < i)) op_gt (fun _ _ _ h => g2_B0 (gg := fun i j => decide (j < i)) h) (nomark _) ha
theorem ft_leE {Q : Bool → Zs → Prop} (ha : FE X C z a fun x z1 => ∃ i : Int, x = .d (.int i) ∧ FE X C z1 b fun y z2 => ∃ j : Int, y = .d (.int j) ∧ Q (decide (i ≤ j)) z2) : FT X C z (.Compare a [.LtE] [b] pos) Q := ft_cmpE op_le (fun _ _ _ h => g2_B0 (gg := fun i j => decide (i ≤ j)) h) (nomark _) ha
theorem ft_geE {Q : Bool → Zs → Prop} (ha : FE X C z a fun x z1 => ∃ i : Int, x = .d (.int i) ∧ FE X C z1 b fun y z2 => ∃ j : Int, y = .d (.int j) ∧ Q (decide (j ≤ i)) z2) : FT X C z (.Compare a [.GtE] [b] pos) Q := ft_cmpE (gg := fun i j => decide (j ≤ i)) op_ge (fun _ _ _ h => g2_B0 (gg := fun i j => decide (j ≤ i)) h) (nomark _) ha
theorem fi_fip {ds : List PyData} {Q : List PyData → Zs → Prop} (h : FIP X C z tg e ds) (k : Q ds z) : FI X C z tg e Q := fi_mono h fun _ _ ⟨e1, e2⟩ => by
  subst e1 e2
  exact k
theorem fe_ifE {Q : DV → Zs → Prop} {c : Expr} (hc : FT X C z c fun k z1 => (k = true → FE X C z1 a Q) ∧ (k = false → FE X C z1 b Q)) : FE X C z (.IfExp c a b pos) Q := by
  have pa : PE X a (fun σ H R => ∃ z1, FE X C z1 a Q ∧ tW C z1 Q σ H R) := ⟨fun pins s σ H R I ⟨z1, f, w⟩ => f.run pins s σ H R I w⟩
  have pb : PE X b (fun σ H R => ∃ z1, FE X C z1 b Q ∧ tW C z1 Q σ H R) := ⟨fun pins s σ H R I ⟨z1, f, w⟩ => f.run pins s σ H R I w⟩
  refine pe_con (pe_ifExp hc pa pb) ?_
  rintro σ H R ⟨F, S, k⟩
  refine ⟨F, S, fun t z1 H1 F1 ⟨h1, h2⟩ S1 s1 => ?_⟩
  cases t with
  | true =>
    rw [if_pos rfl]
    exact ⟨z1, h1 rfl, F1, S1, fun v d z2 H2 F2 q S2 s2 => k v d z2 H2 F2 q S2 (s1.trans s2)⟩
  | false =>
    rw [if_neg Bool.false_ne_true]
    exact ⟨z1, h2 rfl, F1, S1, fun v d z2 H2 F2 q S2 s2 => k v d z2 H2 F2 q S2 (s1.trans s2)⟩
/-- a comprehension whose elements draw: what holds of each is kept -/
theorem fi_draw {α : Type} (i : Nat) (enc : α → PyData) (Pv : α → Prop) (cn m : Nat) {Q : List PyData → Zs → Prop} (hN : X.N.Nodup)
    (hi : FI X C z (.Name nm pp) iter fun ds z1 => ds.length ≤ 100000 ∧ noOwnAt z1.r [i] = true ∧ PB z1.p m ∧
      (∀ d, d ∈ ds → ∀ (k : Nat) (π : Pot), k < ds.length → PB π (m + cn * k) → ∀ (s : Shared) (H : Hp) (cc : Addr) (cl : List (Str × Addr)) (fp : List Addr) (C' : Ct), C'.K = C.K → C'.P = C.P →
        FE (blkX X scope s H cc cl fp) C' ⟨(wipeR z1.r [i]).set i (sd d), π⟩ elt fun y z5 => ∃ v, y = .d (enc v) ∧ z5.r = (wipeR z1.r [i]).set i (sd d) ∧ Pv v ∧ PB z5.p (m + cn * k + cn)) ∧
      ∀ (vs : List α) (π : Pot), vs.length = ds.length → (∀ v ∈ vs, Pv v) → PB π (m + cn * ds.length) → Q (vs.map enc) ⟨z1.r, π⟩)
    (hx : X.N[i]? = some nm := by rfl) (hl : Loc (relS scope X.env.scope) nm := by first | exact .inl rfl | exact .inr rfl)
    (hf : (scope.names.lookup nm == some .cell) = true ∨ (relS scope X.env.scope).names.lookup nm = some .local := by first | exact .inr rfl | exact .inl rfl) : FI X C z (.Name nm pp) iter (LcQ X C scope [i] (.Name nm pp) elt [] Q) := by
  refine (lcd_mapN i (fun k acc π => ∃ vs : List α, acc = vs.map enc ∧ vs.length = k ∧ (∀ v ∈ vs, Pv v) ∧ PB π (m + cn * k)) hN (fi_mono hi fun ds z1 ⟨hlen, hno, hp, turn, q⟩ => ?_) hx hl hf)
  refine ⟨hno, ⟨[], rfl, rfl, by simp, by simpa using hp⟩, fun k d acc p hd ⟨vs, e1, e2, e4, e5⟩ => ⟨?_, fun s H cc cl fp C' hk hp' => ?_⟩, fun acc p ⟨vs, e1, e2, e4, e5⟩ => ?_⟩
  · rw [e1, List.length_map]
    have := (List.getElem?_eq_some_iff.mp hd).1
    omega
  · have hkl := (List.getElem?_eq_some_iff.mp hd).1
    refine fe_mono (turn d (List.mem_of_getElem? hd) k p hkl e5 s H cc cl fp C' hk hp') fun y z5 ⟨v, y1, y2, y3, y4⟩ => ⟨enc v, y1, y2, vs ++ [v], ?_, ?_, ?_, ?_⟩
    · rw [e1, List.map_append]; rfl
    · rw [List.length_append, e2]; rfl
    · intro u hu
      rcases List.mem_append.mp hu with hu | hu
      · exact e4 u hu
      · rw [List.mem_singleton.mp hu]; exact y3
    · rw [Nat.mul_add, Nat.mul_one, ← Nat.add_assoc]; exact y4
  · rw [e1]
    exact q vs p (by omega) e4 e5
end
theorem nats_of {vs : List Int} {b : Int} (h : ∀ v ∈ vs, 0 ≤ v ∧ v < b) : ∃ ns : List Nat, vs = ns.map (fun n : Nat => (n : Int)) ∧ ∀ n ∈ ns, (n : Int) < b := by
  refine ⟨vs.map Int.toNat, ?_, fun n hn => ?_⟩
  · rw [List.map_map]
    conv => lhs; rw [← List.map_id vs]
    refine List.map_congr_left fun v hv => ?_
    have := h v hv
    show v = ((v.toNat : Nat) : Int)
    omega
  · obtain ⟨v, hv, e⟩ := List.mem_map.mp hn
    have := h v hv
    omega
theorem nI_map (ns : List Nat) : (ns.map fun n : Nat => (n : Int)).map PyData.int = ns.map nI := by rw [List.map_map]; rfl
theorem fi_rangeN {X : Cx} {C : Ct} {z : Zs} {a tg : Expr} {p pos : Pos} {Q : List PyData → Zs → Prop} (hm : X.mg "range" = none) (h : FE X C z a fun d z1 => ∃ j : Int, d = .d (.int j) ∧ j < 2 ^ 62 ∧ -(2 ^ 62) ≤ j ∧ Q ((List.range j.toNat).map nI) z1) (hg : Gl X "range" := by rfl) (hs : starEach [a] X.env = [(false, eval a X.env)] := by rfl) :
    FI X C z tg (.Call (.Name "range" p) [a] [] pos) Q := fi_range1 hm (fe_mono h fun d z1 ⟨j, e, h1, h2, q⟩ => ⟨j, e, h1, h2, by
      have e : rng 0 j.toNat = (List.range j.toNat).map nI := by unfold rng; refine List.map_congr_left fun i _ => ?_; rw [Int.zero_add]
      rw [e]; exact q⟩) hg hs
instance (priority := 2000) eqBool {a b : Bool} : EqC (.bool a) (.bool b) (a == b) True := ⟨fun _ => .dat rfl rfl rfl⟩
theorem cutD_both (xs : List PyData) (i j : Nat) : cutD xs (some (i : Int)) (some (j : Int)) = (xs.take j).drop i := by
  by_cases h : j ≤ xs.length
  · rw [cutD_in xs i j h, List.drop_take]
  · have e1 : HT.sIx xs.length xs.length (some (j : Int)) = xs.length := by
      rw [HT.sIx_nat]; omega
    have h2 := cutD_from xs i
    unfold cutD at h2 ⊢
    rw [e1]
    have e2 : HT.sIx xs.length xs.length none = xs.length := rfl
    rw [e2] at h2
    rw [h2, List.take_of_length_le (l := xs) (by omega)]
theorem sl_both {α : Type} (f : α → PyData) (xs : List α) (i j : Nat) : cutD (xs.map f) (some (i : Int)) (some (j : Int)) = ((xs.take j).drop i).map f := by rw [cutD_both, List.map_drop, List.map_take]
instance (priority := 1000) slT_both {α : Type} {f : α → PyData} {xs : List α} {i j : Int} : SlC (.tuple (xs.map f)) (some i) (some j) (.tuple (((xs.take j.toNat).drop i.toNat).map f)) (0 ≤ i ∧ 0 ≤ j) := ⟨fun h => by
  have e1 : i = (i.toNat : Int) := by omega
  have e2 : j = (j.toNat : Int) := by omega
  show some (PyData.tuple (cutD _ _ _)) = _; rw [e1, e2, sl_both, Int.toNat_natCast, Int.toNat_natCast]⟩
instance (priority := 1000) slL_both {α : Type} {f : α → PyData} {xs : List α} {i j : Int} : SlC (.list (xs.map f)) (some i) (some j) (.list (((xs.take j.toNat).drop i.toNat).map f)) (0 ≤ i ∧ 0 ≤ j) := ⟨fun h => by
  have e1 : i = (i.toNat : Int) := by omega
  have e2 : j = (j.toNat : Int) := by omega
  show some (PyData.list (cutD _ _ _)) = _; rw [e1, e2, sl_both, Int.toNat_natCast, Int.toNat_natCast]⟩
section
variable {X : Cx} {C : Ct} {z : Zs} {a b : Expr} {es : List Expr} {pos : Pos}
theorem fw_and_no {p : Bool} (ha : FPT X C z a p) (hp : p = false) : FPW X C z (.BoolOp .And (a :: b :: es) pos) false := by subst hp; exact fw_and (q := false) ha (fun h => nomatch h)
theorem fw_or_yes {p : Bool} (ha : FPT X C z a p) (hp : p = true) : FPW X C z (.BoolOp .Or (a :: b :: es) pos) true := by subst hp; exact fw_or (q := true) ha (fun h => nomatch h)
theorem fp_and_no {p : Bool} (ha : FP X C z a (.bool p)) (hp : p = false) : FP X C z (.BoolOp .And (a :: b :: es) pos) (.bool false) := by subst hp; exact fp_and (q := false) ha (fun h => nomatch h)
theorem fp_or_yes {p : Bool} (ha : FP X C z a (.bool p)) (hp : p = true) : FP X C z (.BoolOp .Or (a :: b :: es) pos) (.bool true) := by subst hp; exact fp_or (q := true) ha (fun h => nomatch h)
end
theorem fs_at {X : Cx} {C : Ct} {z z' : Zs} {sts : List Stmt} {Q : Out → Zs → Prop} (h : z = z') (k : FS X C z' sts Q) : FS X C z sts Q := h ▸ k
/-- a part of a list, by Python's bounds -/
def subL {α : Type} (xs : List α) (l u : Option Int) : List α := (xs.drop (HT.sIx xs.length 0 l)).take (HT.sIx xs.length xs.length u - HT.sIx xs.length 0 l)
theorem subL_mem {α : Type} {xs : List α} {l u : Option Int} {x : α} (h : x ∈ subL xs l u) : x ∈ xs := List.mem_of_mem_drop (List.mem_of_mem_take h)
theorem subL_len {α : Type} (xs : List α) (l u : Option Int) : (subL xs l u).length ≤ xs.length := by
  unfold subL
  rw [List.length_take, List.length_drop]; omega
instance (priority := 300) slT_sub {α : Type} {f : α → PyData} {xs : List α} {l u : Option Int} : SlC (.tuple (xs.map f)) l u (.tuple ((subL xs l u).map f)) True := ⟨fun _ => by show some (PyData.tuple (cutD _ _ _)) = _; rw [cutD_map]; rfl⟩
instance (priority := 300) slL_sub {α : Type} {f : α → PyData} {xs : List α} {l u : Option Int} : SlC (.list (xs.map f)) l u (.list ((subL xs l u).map f)) True := ⟨fun _ => by show some (PyData.list (cutD _ _ _)) = _; rw [cutD_map]; rfl⟩
instance (priority := 1150) {α : Type} {f : α → PyData} {xs : List α} {i : Int} : SlC (.tuple (xs.map f)) (some (-i)) (none) (.tuple ((subL xs (some (-i)) (none)).map f)) True := ⟨fun _ => by show some (PyData.tuple (cutD _ _ _)) = _; rw [cutD_map]; rfl⟩
instance (priority := 1150) {α : Type} {f : α → PyData} {xs : List α} {i : Int} : SlC (.tuple (xs.map f)) (none) (some (-i)) (.tuple ((subL xs (none) (some (-i))).map f)) True := ⟨fun _ => by show some (PyData.tuple (cutD _ _ _)) = _; rw [cutD_map]; rfl⟩
instance (priority := 1150) {α : Type} {f : α → PyData} {xs : List α} {i j : Int} : SlC (.tuple (xs.map f)) (some i) (some (-j)) (.tuple ((subL xs (some i) (some (-j))).map f)) True := ⟨fun _ => by show some (PyData.tuple (cutD _ _ _)) = _; rw [cutD_map]; rfl⟩
instance (priority := 1150) {α : Type} {f : α → PyData} {xs : List α} {i j : Int} : SlC (.tuple (xs.map f)) (some (-i)) (some j) (.tuple ((subL xs (some (-i)) (some j)).map f)) True := ⟨fun _ => by show some (PyData.tuple (cutD _ _ _)) = _; rw [cutD_map]; rfl⟩
instance (priority := 1150) {α : Type} {f : α → PyData} {xs : List α} {i : Int} : SlC (.list (xs.map f)) (some (-i)) (none) (.list ((subL xs (some (-i)) (none)).map f)) True := ⟨fun _ => by show some (PyData.list (cutD _ _ _)) = _; rw [cutD_map]; rfl⟩
instance (priority := 1150) {α : Type} {f : α → PyData} {xs : List α} {i : Int} : SlC (.list (xs.map f)) (none) (some (-i)) (.list ((subL xs (none) (some (-i))).map f)) True := ⟨fun _ => by show some (PyData.list (cutD _ _ _)) = _; rw [cutD_map]; rfl⟩
instance (priority := 1150) {α : Type} {f : α → PyData} {xs : List α} {i j : Int} : SlC (.list (xs.map f)) (some i) (some (-j)) (.list ((subL xs (some i) (some (-j))).map f)) True := ⟨fun _ => by show some (PyData.list (cutD _ _ _)) = _; rw [cutD_map]; rfl⟩
instance (priority := 1150) {α : Type} {f : α → PyData} {xs : List α} {i j : Int} : SlC (.list (xs.map f)) (some (-i)) (some j) (.list ((subL xs (some (-i)) (some j)).map f)) True := ⟨fun _ => by show some (PyData.list (cutD _ _ _)) = _; rw [cutD_map]; rfl⟩
instance nbCut {xs : List PyData} {l u : Option Int} {n : Nat} [h : NbL xs n] : NbL (cutD xs l u) n := ⟨by
  have all : ∀ {xs ys : List PyData}, (∀ x ∈ ys, x ∈ xs) → nbAll xs = true → nbAll ys = true := fun {xs ys} hs h => by
    have e : ys = ys.map id := (List.map_id ys).symm
    rw [e]; exact nbAll_map fun x hx => mem_nb h x (hs x hx)
  exact all (fun x hx => List.mem_of_mem_drop (List.mem_of_mem_take hx)) h.b, by
  have dm : ∀ {xs : List PyData} {n : Nat}, PyData.depthAll xs ≤ n → ∀ x ∈ xs, x.depth ≤ n := fun {xs n} => by
    induction xs with
    | nil => intro _ x hx; cases hx
    | cons y ys ih =>
      intro h x hx
      rw [PyData.depthAll] at h
      rcases List.mem_cons.mp hx with e | e
      · rw [e]; omega
      · exact ih (by omega) x e
  have e : cutD xs l u = (cutD xs l u).map id := (List.map_id _).symm
  rw [e]
  exact depthAll_map fun x hx => dm h.d x (List.mem_of_mem_drop (List.mem_of_mem_take hx))⟩
theorem fs_consI {X : Cx} {C : Ct} {z : Zs} {st : Stmt} {rest : List Stmt} {Q : Out → Zs → Prop} (N : Zs → Prop) (h : F1 X C z st (Then Q N)) (k : ∀ z1, N z1 → FS X C z1 rest Q) : FS X C z (st :: rest) Q :=
  fs_cons (f1_mono h fun o z1 q => by
    cases o with
    | nx => exact k z1 q
    | rt d => exact q
    | bk => exact q
    | ct => exact q)
end DL

set_option Elab.async false
set_option linter.all false
set_option maxRecDepth 100000
set_option maxHeartbeats 4000000
set_option autoImplicit false
namespace K08
open PySem PySem.Spec PyProof.Rows L2 DL
abbrev Pg : Program := PySem.Challenge.pw_mountedintime_k08_whole_labels_and_penta
abbrev st (i : Nat) : Stmt := topOf Pg i
/-- what is built in and not covered -/
structure Blt (mg : Str → Option Value) : Prop where
  abs : mg "abs" = none
  all : mg "all" = none
  any : mg "any" = none
  bool : mg "bool" = none
  enumerate : mg "enumerate" = none
  int : mg "int" = none
  isinstance : mg "isinstance" = none
  len : mg "len" = none
  max : mg "max" = none
  min : mg "min" = none
  range : mg "range" = none
  str : mg "str" = none
  sum : mg "sum" = none
  tuple : mg "tuple" = none
  zip : mg "zip" = none
theorem all_true {α : Type} (xs : List α) : (xs.map fun _ => true).all id = true := by simp
theorem atI_mem {xs : List PyData} {d : Int} (h0 : 0 ≤ d) (h1 : d < xs.length) : ∃ x ∈ xs, atI xs d = some x := by
  have hi : d.toNat < xs.length := by omega
  refine ⟨xs[d.toNat], List.getElem_mem hi, ?_⟩
  unfold atI ixN
  rw [if_pos h0, if_pos h1]
  show xs[d.toNat]? = _
  exact List.getElem?_eq_getElem hi
theorem atI_ints {ms : List Int} {i : Nat} (h : i < ms.length) : atI (ms.map PyData.int) (i : Int) = some (.int (ms.getD i 0)) := by
  unfold atI ixN
  rw [List.length_map, if_pos (by omega), if_pos (by omega)]
  show (ms.map PyData.int)[(i : Int).toNat]? = _
  rw [Int.toNat_natCast, List.getElem?_map, List.getElem?_eq_getElem h, List.getD_eq_getElem?_getD, List.getElem?_eq_getElem h]
  rfl
section
variable {P : Program} {w : World} {K : PySem.W.Frag} {mg : Str → Option Value} {base : Heap} {f : Addr} {fd : FuncData}

def WisTuple : WF := fun ds π q => ∃ (xs : List PyData) (a b : Int), ds = [.d (.tuple xs), .d (.int a), .d (.int b)] ∧ q (.d (.bool (decide (a ≤ xs.length) && decide ((xs.length : Int) ≤ b)))) π
theorem sc1 : FnScope ["value", "least", "most"] ["value", "least", "most"] (defScope (st 1)) := ⟨rfl, rfl, rfl, by decide +kernel, rfl, by decide +kernel, by decide +kernel⟩
theorem ok1 (F : Fun K "is_tuple" "is_tuple" (st 1) f fd) (B : Blt mg) : FnOk P w K mg base CX0 1 f fd ["value", "least", "most"] (SpD K WisTuple) := by
  refine ok_def F sc1 (fun ds π q h => ?_) (fun cdv A outer s H E ds π q C hr hK h => ?_)
  · obtain ⟨xs, a, b, rfl, _⟩ := h; rfl
  · obtain ⟨xs, a, b, rfl, h⟩ := h
    refine fs_one (f1_retP (fp_and (fp_isi hK B.isinstance B.tuple (by decide +kernel) (fp_name 0 rfl) rfl (by simp) (kit_self _ _)) fun _ => fp_one (fp_leLe (fp_name 1 rfl) (fp_lenT hK B.len (fp_name 0 rfl)) (fp_name 2 rfl))) ?_)
    exact h
def WisWhole : WF := fun ds π q => ∃ (a : Int), ds = [.d (.int a)] ∧ q (.d (.bool true)) π
theorem sc2 : FnScope ["value"] ["value"] (defScope (st 2)) := ⟨rfl, rfl, rfl, by decide +kernel, rfl, by decide +kernel, by decide +kernel⟩
theorem ok2 (F : Fun K "is_whole" "is_whole" (st 2) f fd) (B : Blt mg) : FnOk P w K mg base CX0 1 f fd ["value"] (SpD K WisWhole) := by
  refine ok_def F sc2 (fun ds π q h => ?_) (fun cdv A outer s H E ds π q C hr hK h => ?_)
  · obtain ⟨a, rfl, _⟩ := h; rfl
  · obtain ⟨a, rfl, h⟩ := h
    refine fs_one (f1_retP (fp_and (fp_isi hK B.isinstance B.int (by decide +kernel) (fp_name 0 rfl) rfl (by simp) (kit_self _ _)) fun _ => fp_one (fp_not (fp_isi hK B.isinstance B.bool (by decide +kernel) (fp_name 0 rfl) rfl (by simp) (kit_int_bool _)))) ?_)
    exact h
def WisInteger : WF := fun ds π q => ∃ (a l h : Int), ds = [.d (.int a), .d (.int l), .d (.int h)] ∧ q (.d (.bool (decide (l ≤ a) && decide (a ≤ h)))) π
theorem sc3 : FnScope ["value", "low", "high"] ["value", "low", "high"] (defScope (st 3)) := ⟨rfl, rfl, rfl, by decide +kernel, rfl, by decide +kernel, by decide +kernel⟩
theorem ok3 (F : Fun K "is_integer" "is_integer" (st 3) f fd) (D2 : HasDef P w K mg base "is_whole" 1 ["value"] WisWhole) : FnOk P w K mg base CX0 2 f fd ["value", "low", "high"] (SpD K WisInteger) := by
  refine ok_def F sc3 (fun ds π q h => ?_) (fun cdv A outer s H E ds π q C hr hK h => ?_)
  · obtain ⟨a, l, h, rfl, _⟩ := h; rfl
  · obtain ⟨a, lo, hi, rfl, h⟩ := h
    refine fs_one (f1_retP (fp_and (fp_def D2 hr (Nat.le_refl _) hK (arg1 (fp_name 0 rfl)) fun π q h => ⟨a, rfl, h⟩) fun _ => fp_one (fp_leLe (fp_name 1 rfl) (fp_name 0 rfl) (fp_name 2 rfl))) ?_)
    exact h
theorem w_isTuple {xs : List PyData} {a b : Int} {v : Bool} (h : (decide (a ≤ xs.length) && decide ((xs.length : Int) ≤ b)) = v) (π : Pot) (q : DV → Pot → Prop) (k : q (.d (.bool v)) π) : WisTuple ([.tuple xs, .int a, .int b].map .d) π q := ⟨xs, a, b, rfl, by rw [h]; exact k⟩
theorem w_isInteger {a b c : Int} {v : Bool} (h : (decide (b ≤ a) && decide (a ≤ c)) = v) (π : Pot) (q : DV → Pot → Prop) (k : q (.d (.bool v)) π) : WisInteger ([.int a, .int b, .int c].map .d) π q := ⟨a, b, c, rfl, by rw [h]; exact k⟩
def Wpot : List DV → (List PyData → Prop) → Prop := fun ds q => ∃ (ns : List Int) (place : Nat), ds = [.d (.list (ns.map .int)), .d (.int place)] ∧ ns.length ≤ 63 ∧ place ≤ 63 ∧ ∀ i j l : Int, PB ⟨i, j, l⟩ 0 → q [.int i, .int j, .int l]
abbrev N41 : List Str := ["script", "place", "cell", "own", "small"]
theorem sc41 : FnScope N41 ["script", "place"] (defScope (st 42)) := ⟨rfl, rfl, rfl, by decide +kernel, rfl, by decide +kernel, by decide +kernel⟩
theorem cut1 (ns : List Int) : ∃ ms : List Int, cutD (ns.map PyData.int) none (some 1) = ms.map .int := by
  have : ∀ d ∈ cutD (ns.map PyData.int) none (some 1), ∃ i, d = PyData.int i := fun d hd => by
    have hd : d ∈ ns.map PyData.int := List.mem_of_mem_drop (List.mem_of_mem_take hd)
    obtain ⟨i, _, e⟩ := List.mem_map.mp hd
    exact ⟨i, e.symm⟩
  revert this
  generalize cutD (ns.map PyData.int) none (some 1) = l
  intro h
  induction l with
  | nil => exact ⟨[], rfl⟩
  | cons d ds ih =>
    obtain ⟨i, rfl⟩ := h d List.mem_cons_self
    obtain ⟨ms, e⟩ := ih fun d hd => h d (List.mem_cons_of_mem _ hd)
    exact ⟨i :: ms, by rw [e]; rfl⟩
theorem bool01 (b : Bool) : -(2 ^ 64) < (if b = true then (1 : Int) else 0) ∧ (if b = true then (1 : Int) else 0) < 2 ^ 64 := by cases b <;> decide
theorem bool0 (b : Bool) : 0 ≤ (if b = true then (1 : Int) else 0) := by cases b <;> decide
theorem ok41 (F : Fun K "_law_pot" "_law_pot" (st 42) f fd) (B : Blt mg) : FnOk P w K mg base CX0 1 f fd ["script", "place"] (SpL K Wpot) := by
  refine ok_defL F sc41 (fun ds q h => ?_) (fun cdv A outer s H E ds q C hr hK h => ?_)
  · obtain ⟨c, l, rfl, _⟩ := h; rfl
  · obtain ⟨ns, place, rfl, hl, hp, h⟩ := h
    obtain ⟨ms, hms⟩ := cut1 ns
    refine psl_cons (N := fun z1 => ∃ cell : Int, z1 = ⟨[sd (.list (ns.map .int)), si place, si cell, .un, .un], ⟨0, 0, 0⟩⟩) (f1_setP 2 sc41.nd (d := .int (if place < ns.length then ns.getD place 0 else ms.sum % 1000003 + 23143 * place + 19125)) (fp_is (fp_if (ft_lt (fp_name 1 rfl) (fp_lenL hK B.len (fp_name 0 rfl)))
      (fun hlt => fp_ixL hK (fp_name 0 rfl) (fp_name 1 rfl) (atI_ints (by have := of_decide_eq_true hlt; rw [List.length_map] at this; omega)))
      (fun _ => fp_add (fp_add (fp_mod (fp_intI B.int (fp_sum (ns := ms) hK rfl B.sum (fp_is (fp_fl (flp_slL hK (fp_name 0 rfl) fo_none (fo_some fp_int))) (by rw [hms])))) fp_int (by decide)) (fp_mul fp_int (fp_name 1 rfl) (.inl ⟨by decide, by decide⟩))) fp_int)) ?_) ⟨_, rfl⟩) fun z1 hz => ?_
    · rw [List.length_map]
      by_cases hlt : place < ns.length
      · rw [if_pos hlt, if_pos (decide_eq_true (by omega))]
      · rw [if_neg hlt, if_neg (by rw [decide_eq_false (by omega)]; exact Bool.false_ne_true)]
    · obtain ⟨cell, rfl⟩ := hz
      refine psl_cons (N := fun z1 => ∃ own : Int, 0 ≤ own ∧ z1 = ⟨[sd (.list (ns.map .int)), si place, si cell, si own, .un], ⟨0, 0, 0⟩⟩) (f1_setP 3 sc41.nd (fp_mul (fp_mod (fp_intI B.int (fp_abs B.abs (fp_name 2 rfl))) (fp_powW (fp_pow fp_int fp_int ⟨by decide, by decide, by decide⟩) fp_int ⟨by decide, by decide +kernel⟩) (by decide +kernel)) (fp_intB B.int (fp_ge (fp_abs B.abs (fp_name 2 rfl)) (fp_pow fp_int fp_int ⟨by decide, by decide, by decide⟩))) (.inr ?_)) ⟨_, ?_, rfl⟩) fun z1 hz => ?_
      · exact bool01 _
      · exact Int.mul_nonneg (Int.emod_nonneg _ (by decide +kernel)) (bool0 _)
      · obtain ⟨own, h0, rfl⟩ := hz
        refine psl_cons (N := fun z1 => ∃ small : Int, 0 ≤ small ∧ small < 2305843009213693951 ∧ z1 = ⟨[sd (.list (ns.map .int)), si place, si cell, si own, si small], ⟨0, 0, 0⟩⟩) (f1_setP 4 sc41.nd (fp_mod (fp_intI B.int (fp_name 2 rfl)) fp_int (by decide)) ⟨_, Int.emod_nonneg _ (by decide), Int.emod_lt_of_pos _ (by decide), rfl⟩) fun z1 hz => ?_
        obtain ⟨small, s0, s1, rfl⟩ := hz
        refine psl_ret (fl_mono (flp_list (xs := [.int own, .int ((small * 129429 + 27453 * place * place + 2197) % 2305843009213693921), .int 0]) (fpa_cons (fp_name 3 rfl) (arg2 (fp_mod (fp_intI B.int (fp_add (fp_add (fp_mul (fp_name 4 rfl) fp_int (.inr ⟨by decide, by decide⟩)) (fp_mul (fp_mul fp_int (fp_name 1 rfl) (.inl ⟨by decide, by decide⟩)) (fp_name 1 rfl) (.inr ⟨by omega, by omega⟩))) fp_int)) fp_int (by decide)) fp_int))) fun ds' z' ⟨e1, e2⟩ => ?_)
        subst e1
        have b0 := Int.emod_nonneg (small * 129429 + 27453 * place * place + 2197) (b := 2305843009213693921) (by decide)
        have b1 := Int.emod_lt_of_pos (small * 129429 + 27453 * place * place + 2197) (b := 2305843009213693921) (by decide)
        exact h _ _ _ ⟨h0, b0, Int.lt_trans b1 (by decide), Int.le_refl 0, Int.le_refl 0⟩
abbrev N42 : List Str := ["pot", "upto", "digit", "prime", "blend"]
theorem sc42 : FnScope N42 ["pot", "upto"] (defScope (st 43)) := ⟨rfl, rfl, rfl, by decide +kernel, rfl, by decide +kernel, by decide +kernel⟩
def primes : List Int := [2147483647, 2147483629, 2147483587, 2147483579, 2147483563]
theorem primes_ok {k : Nat} (h : k < 5) : 2147483563 ≤ primes.getD k 0 ∧ primes.getD k 0 ≤ 2147483647 := by
  match k, h with
  | 0, _ => decide
  | 1, _ => decide
  | 2, _ => decide
  | 3, _ => decide
  | 4, _ => decide
theorem sq_lt {c : Int} (h0 : 0 ≤ c) (h1 : c ≤ 1000001) : 103143 * c * c ≤ 103143 * 1000001 * 1000001 := by
  have a : 103143 * c ≤ 103143 * 1000001 := by omega
  exact Int.le_trans (Int.mul_le_mul_of_nonneg_right a h0) (Int.mul_le_mul_of_nonneg_left h1 (by decide))
theorem ok42 (F : Fun K "_law_take" "_law_take" (st 43) f fd) (B : Blt mg) : FnOk P w K mg base CX0 1 f fd ["pot", "upto"] (SpD K Wtake) := by
  refine ok_def F sc42 (fun ds π q h => ?_) (fun cdv A outer s H E ds π q C hr hK h => ?_)
  · obtain ⟨u, n, rfl, _⟩ := h; rfl
  · obtain ⟨u, n, rfl, u1, u2, pb, hn, h⟩ := h
    obtain ⟨pa, pb0, pb1, pc0, pc1⟩ := pb
    obtain ⟨pa', pb', pc'⟩ := π
    simp only at pa pb0 pb1 pc0 pc1
    refine fs_cons (f1_ifP (ft_gt (fp_potIx 0 hK rfl fp_int rfl) fp_int) (fun hpos => ?_) fun _ => fs_nil ?_)
    · have hpos : 0 < pa' := of_decide_eq_true hpos
      refine fs_cons (f1_setP 2 sc42.nd (fp_mod (fp_intI B.int (fp_potIx 0 hK rfl fp_int rfl)) (fp_name 1 rfl) (by omega)) ?_)
      refine fs_cons (f1_potSet (k := 0) (π := ⟨pa' / u, pb', pc'⟩) 0 rfl (fp_fdiv (fp_potIx 0 hK rfl fp_int rfl) (fp_name 1 rfl) ⟨by omega, u2⟩) fp_int rfl rfl ?_)
      refine fs_one (f1_retP (fp_name 2 rfl) (h _ _ (Int.emod_nonneg _ (by omega)) (Int.emod_lt_of_pos _ (by omega)) ⟨?_, pb0, pb1, pc0, ?_⟩))
      · exact Int.ediv_nonneg pa (by omega)
      · show pc' ≤ ((n + 1 : Nat) : Int)
        omega
    · refine fs_cons (f1_potSet (k := 2) (π := ⟨pa', pb', pc' + 1⟩) 0 rfl (fp_add (fp_potIx 0 hK rfl fp_int rfl) fp_int) fp_int rfl rfl ?_)
      have hk : (pc' + 1) % 5 = (((pc' + 1) % 5).toNat : Int) := by omega
      have hk5 : ((pc' + 1) % 5).toNat < 5 := by omega
      obtain ⟨p1, p2⟩ := primes_ok hk5
      refine fs_cons (f1_setP 3 sc42.nd (fp_ixL hK (fp_is (fp_fl (flp_list (fpa_cons fp_int (fpa_cons fp_int (fpa_cons fp_int (arg2 fp_int fp_int)))))) (show _ = PyData.list (primes.map .int) from rfl)) (fp_is (fp_mod (fp_intI B.int (fp_potIx 0 hK rfl fp_int rfl)) fp_int (by decide)) (congrArg PyData.int hk)) (atI_ints hk5)) ?_)
      generalize primes.getD ((pc' + 1) % 5).toNat 0 = pr at p1 p2 ⊢
      have hs := sq_lt (c := pc' + 1) (by omega) (by omega)
      have hs0 : 0 ≤ 103143 * (pc' + 1) * (pc' + 1) := Int.mul_nonneg (Int.mul_nonneg (by decide) (by omega)) (by omega)
      refine fs_cons (f1_setP 4 sc42.nd (fp_mod (fp_intI B.int (fp_pow (fp_intI B.int (fp_add (fp_add (fp_potIx 0 hK rfl fp_int rfl) (fp_mul (fp_mul fp_int (fp_potIx 0 hK rfl fp_int rfl) (.inl ⟨by decide, by decide⟩)) (fp_potIx 0 hK rfl fp_int rfl) (.inr ⟨?_, ?_⟩))) fp_int)) fp_int ⟨by decide, by decide, ?_⟩)) (fp_name 3 rfl) (by omega)) ?_)
      · show -(2 ^ 64) < pc' + 1
        omega
      · show pc' + 1 < 2 ^ 64
        omega
      · show (pb' + 103143 * (pc' + 1) * (pc' + 1) + 20135).natAbs < 2 ^ 64
        omega
      · generalize hbl : (pb' + 103143 * (pc' + 1) * (pc' + 1) + 20135) ^ (3 : Int).toNat % pr = bl
        have b0 : 0 ≤ bl := by rw [← hbl]; exact Int.emod_nonneg _ (by omega)
        have b1 : bl < pr := by rw [← hbl]; exact Int.emod_lt_of_pos _ (by omega)
        refine fs_one (f1_retP (fp_mod (fp_intI B.int (fp_fdiv (fp_mul (fp_name 4 rfl) (fp_add (fp_mod (fp_intI B.int (fp_name 4 rfl)) fp_int (by decide)) (fp_mul fp_int (fp_potIx 0 hK rfl fp_int rfl) (.inl ⟨by decide, by decide⟩))) (.inl ⟨by omega, by omega⟩)) fp_int ⟨by decide, by decide⟩)) (fp_name 1 rfl) (by omega)) (h _ _ (Int.emod_nonneg _ (by omega)) (Int.emod_lt_of_pos _ (by omega)) ⟨pa, pb0, pb1, ?_, ?_⟩))
        · show 0 ≤ pc' + 1
          omega
        · show pc' + 1 ≤ ((n + 1 : Nat) : Int)
          omega
end
section
variable {P : Program} {w : World} {K : PySem.W.Frag} {mg : Str → Option Value} {base : Heap} {f : Addr} {fd : FuncData}
/-! ### what the top has written -/
def IsDef (K : PySem.W.Frag) (x : Str) (st : Stmt) : Prop := ∃ (f : Addr) (fd : FuncData), Fun K x x st f fd ∧ PySem.W.nsIn K mainGlobals x = some (some (.ref f))
theorem mk_def {x : Str} {st : Stmt} {f : Addr} {od an : Option Addr} {sl : Array (Option Value)} {oc kV dc pm cd ct : Value} (a : PySem.W.nsIn K mainGlobals x = some (some (.ref f)))
    (l : K.lookup f = some ⟨oc, od, .func (PySem.W.fnOf x x (defArgs st) (defBody st) (defScope st) .none kV dc pm an cd ct), sl⟩) (c : PySem.W.codeIn K cd x = true) (k : PySem.W.keepIn K (.ref f) = true) : IsDef K x st := ⟨f, _, fun_mk l c k, a⟩
def IsDefC (K : PySem.W.Frag) (x : Str) (st : Stmt) (ca : Addr) : Prop := ∃ (f : Addr) (fd : FuncData), Fun K x x st f fd ∧ PySem.W.nsIn K mainGlobals x = some (some (.ref f)) ∧ fd.code = .ref ca
theorem mk_defC {x : Str} {st : Stmt} {f ca : Addr} {od an : Option Addr} {sl : Array (Option Value)} {oc kV dc pm ct : Value} (a : PySem.W.nsIn K mainGlobals x = some (some (.ref f)))
    (l : K.lookup f = some ⟨oc, od, .func (PySem.W.fnOf x x (defArgs st) (defBody st) (defScope st) .none kV dc pm an (.ref ca) ct), sl⟩) (c : PySem.W.codeIn K (.ref ca) x = true) (k : PySem.W.keepIn K (.ref f) = true) : IsDefC K x st ca := ⟨f, _, fun_mk l c k, a, rfl⟩
theorem has_def {h : Heap} {x : Str} {st : Stmt} {k : Nat} {ps : List Str} {W : WF} (X : K.In h) (G : h.Ns mainGlobals mg) (D : IsDef K x st) (ok : ∀ f fd, Fun K x x st f fd → FnOk P w K mg base CX0 k f fd ps (SpD K W))
    (b : ∀ (kV doc pm : Value) (an : Option Addr) (cdv ct : Value) (us : List Value), us.length = ps.length → bindArgs (PySem.W.fnOf x x (defArgs st) (defBody st) (defScope st) .none kV doc pm an cdv ct) ⟨us, []⟩ = pure (ps.zip us)) : HasDef P w K mg base x k ps W := by
  obtain ⟨f, fd, F, a⟩ := D
  exact ⟨f, fd, ok f fd F, PySem.W.mg_of X G a, F.kp, F.binds b⟩
theorem has_defL {h : Heap} {x : Str} {st : Stmt} {k : Nat} {ps : List Str} {W : List DV → (List PyData → Prop) → Prop} (X : K.In h) (G : h.Ns mainGlobals mg) (D : IsDef K x st) (ok : ∀ f fd, Fun K x x st f fd → FnOk P w K mg base CX0 k f fd ps (SpL K W))
    (b : ∀ (kV doc pm : Value) (an : Option Addr) (cdv ct : Value) (us : List Value), us.length = ps.length → bindArgs (PySem.W.fnOf x x (defArgs st) (defBody st) (defScope st) .none kV doc pm an cdv ct) ⟨us, []⟩ = pure (ps.zip us)) : HasDefL P w K mg base x k ps W := by
  obtain ⟨f, fd, F, a⟩ := D
  exact ⟨f, fd, ok f fd F, PySem.W.mg_of X G a, F.kp, F.binds b⟩
end
structure BltK (K : PySem.W.Frag) : Prop where
  abs : PySem.W.nsIn K mainGlobals "abs" = some none
  all : PySem.W.nsIn K mainGlobals "all" = some none
  any : PySem.W.nsIn K mainGlobals "any" = some none
  bool : PySem.W.nsIn K mainGlobals "bool" = some none
  enumerate : PySem.W.nsIn K mainGlobals "enumerate" = some none
  int : PySem.W.nsIn K mainGlobals "int" = some none
  isinstance : PySem.W.nsIn K mainGlobals "isinstance" = some none
  len : PySem.W.nsIn K mainGlobals "len" = some none
  max : PySem.W.nsIn K mainGlobals "max" = some none
  min : PySem.W.nsIn K mainGlobals "min" = some none
  range : PySem.W.nsIn K mainGlobals "range" = some none
  str : PySem.W.nsIn K mainGlobals "str" = some none
  sum : PySem.W.nsIn K mainGlobals "sum" = some none
  tuple : PySem.W.nsIn K mainGlobals "tuple" = some none
  zip : PySem.W.nsIn K mainGlobals "zip" = some none
theorem BltK.mg {K : PySem.W.Frag} {mg : Str → Option Value} {h : Heap} (X : K.In h) (G : h.Ns mainGlobals mg) (B : BltK K) : Blt mg := ⟨PySem.W.mg_none_of X G B.abs, PySem.W.mg_none_of X G B.all, PySem.W.mg_none_of X G B.any, PySem.W.mg_none_of X G B.bool, PySem.W.mg_none_of X G B.enumerate, PySem.W.mg_none_of X G B.int, PySem.W.mg_none_of X G B.isinstance, PySem.W.mg_none_of X G B.len, PySem.W.mg_none_of X G B.max, PySem.W.mg_none_of X G B.min, PySem.W.mg_none_of X G B.range, PySem.W.mg_none_of X G B.str, PySem.W.mg_none_of X G B.sum, PySem.W.mg_none_of X G B.tuple, PySem.W.mg_none_of X G B.zip⟩
end K08


set_option Elab.async false
set_option linter.all false
set_option maxRecDepth 100000
set_option maxHeartbeats 4000000
set_option autoImplicit false
namespace K08
open PySem PySem.Spec PyProof.Rows L2 DL
/-! ### data -/
abbrev encW (ws : List Int) : PyData := .tuple (ws.map PyData.int)
def encS (b : Int) (ws : List Int) (r : Int) : PyData := .tuple [.int b, encW ws, .int r]
structure SchOk (b : Int) (ws : List Int) (r : Int) : Prop where
  b0 : 2 ≤ b
  b1 : b ≤ 40
  l1 : 1 ≤ ws.length
  l2 : ws.length ≤ 16
  all : ∀ w ∈ ws, 0 ≤ w ∧ w ≤ b - 1
  r0 : 0 ≤ r
  r1 : r ≤ b - 1
structure LabOk (b : Int) (ws ls : List Int) : Prop where
  len : ls.length = ws.length
  all : ∀ w ∈ ls, 0 ≤ w ∧ w ≤ b - 1
/-- the module's constants -/
structure Cst (mg : Str → Option Value) : Prop where
  mostBase : ∃ t, mg "MOST_BASE" = some (.int 40 t)
  mostDigits : ∃ t, mg "MOST_DIGITS" = some (.int 16 t)
  mostReach : ∃ t, mg "MOST_REACH" = some (.int 6 t)
  ten : ∃ t, mg "TEN" = some (.int 10 t)
  five : ∃ t, mg "FIVE" = some (.int 5 t)
  pair : ∃ t, mg "PAIR" = some (.int 2 t)
  triple : ∃ t, mg "TRIPLE" = some (.int 3 t)
  all : ∃ t, mg "ALL" = some (.str "all" t)
  missed : ∃ t, mg "MISSED" = some (.str "missed" t)
  weights : ∃ t, mg "WEIGHTS" = some (.str "weights" t)
  never : ∃ t, mg "NEVER" = some (.str "never" t)
/-- the sum of weights times digits -/
def dotW : List Int → List Int → Int
  | w :: ws, l :: ls => w * l + dotW ws ls
  | _, _ => 0
theorem dotW_zip : ∀ ws ls : List Int, ((ws.zip ls).map fun q => q.1 * q.2).sum = dotW ws ls
  | [], _ => rfl
  | _ :: _, [] => rfl
  | w :: ws, l :: ls => by
    rw [List.zip_cons_cons, List.map_cons, List.sum_cons, dotW_zip ws ls]
    rfl
theorem zip_ints (ws ls : List Int) : ((ws.map PyData.int).zip (ls.map PyData.int)).map (fun q => PyData.tuple [q.1, q.2]) = (ws.zip ls).map fun q => PyData.tuple [.int q.1, .int q.2] := by
  rw [List.zip_map, List.map_map]
  rfl
section
variable {P : Program} {w : World} {K : PySem.W.Frag} {mg : Str → Option Value} {base : Heap} {f : Addr} {fd : FuncData}
abbrev DisTuple (P : Program) (w : World) (K : PySem.W.Frag) (mg : Str → Option Value) (base : Heap) : Prop := HasDef P w K mg base "is_tuple" 1 ["value", "least", "most"] WisTuple
abbrev DisInteger (P : Program) (w : World) (K : PySem.W.Frag) (mg : Str → Option Value) (base : Heap) : Prop := HasDef P w K mg base "is_integer" 2 ["value", "low", "high"] WisInteger
def WisScheme : WF := fun ds π q => ∃ (b : Int) (ws : List Int) (r : Int), ds = [.d (encS b ws r)] ∧ SchOk b ws r ∧ q (.d (.bool true)) π
abbrev N21 : List Str := ["value", "base", "weights", "rest", "one"]
theorem sc21 : FnScope N21 ["value"] (defScope (st 21)) := ⟨rfl, rfl, rfl, by decide +kernel, rfl, by decide +kernel, by decide +kernel⟩
theorem ok21 (F : Fun K "is_scheme" "is_scheme" (st 21) f fd) (B : Blt mg) (G : Cst mg) (D1 : DisTuple P w K mg base) (D3 : DisInteger P w K mg base) : FnOk P w K mg base CX0 3 f fd ["value"] (SpD K WisScheme) := by
  refine ok_def F sc21 (fun ds π q h => ?_) (fun cdv A outer s H E ds π q C hr hK h => ?_)
  · obtain ⟨b, ws, r, rfl, _⟩ := h; rfl
  · obtain ⟨b, ws, r, rfl, ok, h⟩ := h
    obtain ⟨b0, b1, l1, l2, all, r0, r1⟩ := ok
    refine fs_if_no (ft_w (fw_or (q := false) (ft_not (p := true) (ft_val (fp_def D1 hr (by decide) hK (fpa_cons (fp_name 0 rfl) (arg2 (fp_gint G.triple) (fp_gint G.triple))) (w_isTuple (by simp))))) fun _ => fw_or1 (ft_not (p := true) (ft_val
      (fp_def D3 hr (by decide) hK (fpa_cons (fp_ixT (d := .int b) hK (fp_name 0 rfl) fp_int rfl) (arg2 (fp_gint G.pair) (fp_gint G.mostBase))) (w_isInteger (by simp; omega))))))) rfl ?_
    refine fs_cons (f1_asg [1, 2, 3] (fe_fp (fp_name 0 rfl) ⟨_, rfl, ?_⟩))
    refine fg_tup rfl hK (fgs_cons (fg_name 1 sc21.nd rfl (.inr rfl) (fgs_cons (fg_name 2 sc21.nd rfl (.inl rfl) (fgs_cons (fg_name 3 sc21.nd rfl (.inl rfl) (fgs_nil ?_) (by simp) (.inl rfl))) (by simp) (.inl rfl))) (by simp) (.inl rfl))) rfl rfl
    refine fs_if_no (ft_w (fw_or (q := false) (ft_not (p := true) (ft_val (fp_def D1 hr (by decide) hK (fpa_cons (fp_name 2 rfl) (arg2 fp_int (fp_gint G.mostDigits))) (w_isTuple (by simp; omega))))) fun _ => fw_or1 (ft_not (p := true) (ft_val ?_)))) rfl ?_
    · refine fp_is (fp_all (bs := ws.map fun _ => true) hK rfl B.all (fp_is (fp_of rfl sc21.nd (blkOk_by (own := [("one", 4)]) (N := N21) (sc := defScope (st 21)) (by decide +kernel))
        (lcp_mapN 4 ws .int (fun _ => .bool true) sc21.nd (fip_tup hK (fp_name 2 rfl)) (by omega) rfl fun x hx s H cc cl fp C' hk hp => ?_)) (by simp))) (by rw [all_true])
      have hl := all x hx
      exact fp_def D3 hr (by decide) (hk.trans hK) (fpa_cons (fp_name 4 rfl) (arg2 fp_int (fp_sub (fp_name 1 rfl) fp_int))) (w_isInteger (by simp; omega))
    · exact fs_one (f1_retP (fp_def D3 hr (by decide) hK (fpa_cons (fp_name 3 rfl) (arg2 fp_int (fp_sub (fp_name 1 rfl) fp_int))) (w_isInteger (by simp; omega))) h)
def WckScheme : WF := fun ds π q => ∃ (b : Int) (ws : List Int) (r : Int), ds = [.d (encS b ws r)] ∧ SchOk b ws r ∧ q (.d .none) π
theorem sc22 : FnScope ["value"] ["value"] (defScope (st 22)) := ⟨rfl, rfl, rfl, by decide +kernel, rfl, by decide +kernel, by decide +kernel⟩
theorem ok22 (F : Fun K "check_scheme" "check_scheme" (st 22) f fd) (D21 : HasDef P w K mg base "is_scheme" 3 ["value"] WisScheme) : FnOk P w K mg base CX0 4 f fd ["value"] (SpD K WckScheme) := by
  refine ok_def F sc22 (fun ds π q h => ?_) (fun cdv A outer s H E ds π q C hr hK h => ?_)
  · obtain ⟨b, ws, r, rfl, _⟩ := h; rfl
  · obtain ⟨b, ws, r, rfl, ok, h⟩ := h
    exact fs_if_no (ft_not (ft_val (fp_def D21 hr (by decide) hK (arg1 (fp_name 0 rfl)) fun π q k => ⟨b, ws, r, rfl, ok, k⟩))) rfl (fs_nil h)
def WckLabel : WF := fun ds π q => ∃ (b : Int) (ws : List Int) (r : Int) (ls : List Int), ds = [.d (encS b ws r), .d (encW ls)] ∧ SchOk b ws r ∧ LabOk b ws ls ∧ q (.d .none) π
abbrev N23 : List Str := ["scheme", "value", "many", "one"]
theorem sc23 : FnScope N23 ["scheme", "value"] (defScope (st 23)) := ⟨rfl, rfl, rfl, by decide +kernel, rfl, by decide +kernel, by decide +kernel⟩
theorem ok23 (F : Fun K "check_label" "check_label" (st 23) f fd) (B : Blt mg) (G : Cst mg) (D1 : DisTuple P w K mg base) (D3 : DisInteger P w K mg base) : FnOk P w K mg base CX0 3 f fd ["scheme", "value"] (SpD K WckLabel) := by
  refine ok_def F sc23 (fun ds π q h => ?_) (fun cdv A outer s H E ds π q C hr hK h => ?_)
  · obtain ⟨b, ws, r, ls, rfl, _⟩ := h; rfl
  · obtain ⟨b, ws, r, ls, rfl, ok, lab, h⟩ := h
    obtain ⟨b0, b1, l1, l2, all, r0, r1⟩ := ok
    obtain ⟨len, alll⟩ := lab
    refine fs_cons (f1_setP 2 sc23.nd (fp_lenT hK B.len (fp_ixT (d := encW ws) hK (fp_name 0 rfl) fp_int rfl)) ?_)
    rw [List.length_map]
    refine fs_if_no (ft_w (fw_or (q := false) (ft_not (p := true) (ft_val (fp_def D1 hr (by decide) hK (fpa_cons (fp_name 1 rfl) (arg2 (fp_name 2 rfl) (fp_name 2 rfl))) (w_isTuple (by simp; omega))))) fun _ => fw_or1 (ft_not (p := true) (ft_val ?_)))) rfl (fs_nil h)
    refine fp_is (fp_all (bs := ls.map fun _ => true) hK rfl B.all (fp_is (fp_of rfl sc23.nd (blkOk_by (own := [("one", 3)]) (N := N23) (sc := defScope (st 23)) (by decide +kernel))
        (lcp_mapN 3 ls .int (fun _ => .bool true) sc23.nd (fip_tup hK (fp_name 1 rfl)) (by omega) rfl fun x hx s H cc cl fp C' hk hp => ?_)) (by simp))) (by rw [all_true])
    have hl := alll x hx
    exact fp_def D3 hr (by decide) (hk.trans hK) (fpa_cons (fp_name 3 rfl) (arg2 fp_int (fp_sub (fp_ixT (d := .int b) (hk.trans hK) (fp_name 0 rfl) fp_int rfl) fp_int))) (w_isInteger (by simp; omega))
def isR (b : Int) (ws : List Int) (r : Int) (ls : List Int) : Bool := decide (dotW ws ls % b = r)
def WisRightOf : WF := fun ds π q => ∃ (b : Int) (ws : List Int) (r : Int) (ls : List Int), ds = [.d (encS b ws r), .d (encW ls)] ∧ SchOk b ws r ∧ LabOk b ws ls ∧ q (.d (.bool (isR b ws r ls))) π
abbrev N25 : List Str := ["scheme", "label", "base", "weights", "rest", "weight", "digit"]
theorem sc25 : FnScope N25 ["scheme", "label"] (defScope (st 25)) := ⟨rfl, rfl, rfl, by decide +kernel, rfl, by decide +kernel, by decide +kernel⟩
theorem ok25 (F : Fun K "is_right_of" "is_right_of" (st 25) f fd) (B : Blt mg) : FnOk P w K mg base CX0 1 f fd ["scheme", "label"] (SpD K WisRightOf) := by
  refine ok_def F sc25 (fun ds π q h => ?_) (fun cdv A outer s H E ds π q C hr hK h => ?_)
  · obtain ⟨b, ws, r, ls, rfl, _⟩ := h; rfl
  · obtain ⟨b, ws, r, ls, rfl, ok, lab, h⟩ := h
    obtain ⟨b0, b1, l1, l2, all, r0, r1⟩ := ok
    obtain ⟨len, alll⟩ := lab
    refine fs_cons (f1_asg [2, 3, 4] (fe_fp (fp_name 0 rfl) ⟨_, rfl, ?_⟩))
    refine fg_tup rfl hK (fgs_cons (fg_name 2 sc25.nd rfl (.inl rfl) (fgs_cons (fg_name 3 sc25.nd rfl (.inl rfl) (fgs_cons (fg_name 4 sc25.nd rfl (.inl rfl) (fgs_nil ?_) (by simp) (.inl rfl))) (by simp) (.inl rfl))) (by simp) (.inl rfl))) rfl rfl
    refine fs_one (f1_retP (fp_eqI (fp_mod (fp_sum (ns := (ws.zip ls).map fun q => q.1 * q.2) hK rfl B.sum (fp_is (fp_of rfl sc25.nd (blkOk_by (own := [("weight", 5), ("digit", 6)]) (N := N25) (sc := defScope (st 25)) (by decide +kernel))
        (lcp_mapT 5 6 (ws.zip ls) (fun q => .int q.1) (fun q => .int q.2) (fun q => .int (q.1 * q.2)) rfl hK sc25.nd (fip_is (fip_zipT hK B.zip (fp_name 3 rfl) (fp_name 1 rfl)) (zip_ints ws ls)) ?_ rfl fun x hx s H cc cl fp C' hk hp => ?_)) ?_)) (fp_name 2 rfl) (by omega)) (fp_name 4 rfl)) ?_)
    · rw [List.length_zip]; omega
    · have h1 := all x.1 (List.of_mem_zip hx).1
      exact fp_mul (fp_name 5 rfl) (fp_name 6 rfl) (.inl ⟨by omega, by omega⟩)
    · rw [List.map_map]; rfl
    · rw [dotW_zip]; exact h
def WisRight : WF := fun ds π q => ∃ (b : Int) (ws : List Int) (r : Int) (ls : List Int), ds = [.d (encS b ws r), .d (encW ls)] ∧ SchOk b ws r ∧ LabOk b ws ls ∧ q (.d (.bool (isR b ws r ls))) π
theorem sc24 : FnScope ["scheme", "label"] ["scheme", "label"] (defScope (st 24)) := ⟨rfl, rfl, rfl, by decide +kernel, rfl, by decide +kernel, by decide +kernel⟩
theorem ok24 (F : Fun K "is_right" "is_right" (st 24) f fd) (D22 : HasDef P w K mg base "check_scheme" 4 ["value"] WckScheme) (D23 : HasDef P w K mg base "check_label" 3 ["scheme", "value"] WckLabel) (D25 : HasDef P w K mg base "is_right_of" 1 ["scheme", "label"] WisRightOf) : FnOk P w K mg base CX0 5 f fd ["scheme", "label"] (SpD K WisRight) := by
  refine ok_def F sc24 (fun ds π q h => ?_) (fun cdv A outer s H E ds π q C hr hK h => ?_)
  · obtain ⟨b, ws, r, ls, rfl, _⟩ := h; rfl
  · obtain ⟨b, ws, r, ls, rfl, ok, lab, h⟩ := h
    refine fs_cons (f1_expr (fe_fp (fp_def D22 hr (by decide) hK (arg1 (fp_name 0 rfl)) fun π q k => ⟨b, ws, r, rfl, ok, k⟩) ?_))
    refine fs_cons (f1_expr (fe_fp (fp_def D23 hr (by decide) hK (arg2 (fp_name 0 rfl) (fp_name 1 rfl)) fun π q k => ⟨b, ws, r, ls, rfl, ok, lab, k⟩) ?_))
    exact fs_one (f1_retP (fp_def D25 hr (by decide) hK (arg2 (fp_name 0 rfl) (fp_name 1 rfl)) fun π q k => ⟨b, ws, r, ls, rfl, ok, lab, k⟩) h)
def WckPlace : WF := fun ds π q => ∃ (b : Int) (ws : List Int) (r : Int) (p : Nat), ds = [.d (encS b ws r), .d (.int p)] ∧ p < ws.length ∧ q (.d .none) π
theorem sc26 : FnScope ["scheme", "value"] ["scheme", "value"] (defScope (st 26)) := ⟨rfl, rfl, rfl, by decide +kernel, rfl, by decide +kernel, by decide +kernel⟩
theorem ok26 (F : Fun K "check_place" "check_place" (st 26) f fd) (B : Blt mg) (D3 : DisInteger P w K mg base) : FnOk P w K mg base CX0 3 f fd ["scheme", "value"] (SpD K WckPlace) := by
  refine ok_def F sc26 (fun ds π q h => ?_) (fun cdv A outer s H E ds π q C hr hK h => ?_)
  · obtain ⟨b, ws, r, p, rfl, _⟩ := h; rfl
  · obtain ⟨b, ws, r, p, rfl, hp, h⟩ := h
    exact fs_if_no (ft_not (ft_val (fp_def D3 hr (by decide) hK (fpa_cons (fp_name 1 rfl) (arg2 fp_int (fp_sub (fp_lenT hK B.len (fp_ixT (d := encW ws) hK (fp_name 0 rfl) fp_int rfl)) fp_int))) (w_isInteger (v := true) (by simp; omega))))) rfl (fs_nil h)
/-- the digit at the place set to d -/
def put (ls : List Int) (p : Nat) (d : Int) : List Int := ls.take p ++ d :: ls.drop (p + 1)
def digitsFor (b : Int) (ws : List Int) (r : Int) (ls : List Int) (p : Nat) : List Int := ((List.range b.toNat).filter fun d => isR b ws r (put ls p (d : Nat))).map fun d => ((d : Nat) : Int)
def WdigitsFor : WF := fun ds π q => ∃ (b : Int) (ws : List Int) (r : Int) (ls : List Int) (p : Nat), ds = [.d (encS b ws r), .d (encW ls), .d (.int p)] ∧ SchOk b ws r ∧ LabOk b ws ls ∧ p < ws.length ∧ q (.d (encW (digitsFor b ws r ls p))) π
abbrev N27 : List Str := ["scheme", "label", "place", "some", "digit", "one"]
theorem sc27 : FnScope N27 ["scheme", "label", "place"] (defScope (st 27)) := ⟨rfl, rfl, rfl, by decide +kernel, rfl, by decide +kernel, by decide +kernel⟩
end
end K08

set_option Elab.async false
set_option linter.all false
set_option maxRecDepth 100000
set_option maxHeartbeats 4000000
set_option autoImplicit false
namespace K08
open PySem PySem.Spec PyProof.Rows L2 DL
theorem rng0 (n : Nat) : rng 0 n = (List.range n).map fun i => PyData.int ((i : Nat) : Int) := by
  unfold rng
  refine List.map_congr_left fun i _ => ?_
  rw [Int.zero_add]
theorem put_ints (ls : List Int) (p : Nat) (d : Int) : (put ls p d).map PyData.int = cutD (ls.map PyData.int) none (some (p : Int)) ++ .int d :: cutD (ls.map PyData.int) (some ((p : Int) + 1)) none := by
  have e : (p : Int) + 1 = ((p + 1 : Nat) : Int) := by omega
  rw [e, cutD_to, cutD_from]
  unfold put
  rw [List.map_append, List.map_cons, List.map_take, List.map_drop]
theorem put_len {ls : List Int} {p : Nat} (h : p < ls.length) (d : Int) : (put ls p d).length = ls.length := by
  unfold put
  rw [List.length_append, List.length_cons, List.length_take, List.length_drop]
  omega
theorem put_ok {b : Int} {ws ls : List Int} {p : Nat} {d : Int} (ok : LabOk b ws ls) (h : p < ws.length) (d0 : 0 ≤ d) (d1 : d ≤ b - 1) : LabOk b ws (put ls p d) := by
  refine ⟨by rw [put_len (by rw [ok.len]; exact h)]; exact ok.len, fun x hx => ?_⟩
  unfold put at hx
  rcases List.mem_append.mp hx with hx | hx
  · exact ok.all x (List.mem_of_mem_take hx)
  · rcases List.mem_cons.mp hx with hx | hx
    · subst hx; exact ⟨d0, d1⟩
    · exact ok.all x (List.mem_of_mem_drop hx)
theorem put_at {ls : List Int} {p : Nat} (h : p < ls.length) (d : Int) : (put ls p d)[p]? = some d := by
  unfold put
  rw [List.getElem?_append_right (by rw [List.length_take]; omega), List.length_take]
  have : p - min p ls.length = 0 := by omega
  rw [this]; rfl
theorem find_range {n : Nat} {P : Nat → Bool} {i : Nat} (hi : i < n) (h : P i = true) (hn : ∀ j, j < i → P j = false) : (List.range n).find? P = some i := by
  rw [List.find?_range_eq_some]
  exact ⟨h, by simpa using hi, fun j hj => by simpa using hn j hj⟩
theorem find_none {n : Nat} {P : Nat → Bool} (hn : ∀ j, j < n → P j = false) : (List.range n).find? P = none := by
  rw [List.find?_eq_none]
  intro x hx
  rw [hn x (List.mem_range.mp hx)]
  exact Bool.false_ne_true
section
variable {P : Program} {w : World} {K : PySem.W.Frag} {mg : Str → Option Value} {base : Heap} {f : Addr} {fd : FuncData}
theorem ok27 (F : Fun K "digits_for" "digits_for" (st 27) f fd) (B : Blt mg) (D22 : HasDef P w K mg base "check_scheme" 4 ["value"] WckScheme) (D23 : HasDef P w K mg base "check_label" 3 ["scheme", "value"] WckLabel)
    (D26 : HasDef P w K mg base "check_place" 3 ["scheme", "value"] WckPlace) (D25 : HasDef P w K mg base "is_right_of" 1 ["scheme", "label"] WisRightOf) : FnOk P w K mg base CX0 5 f fd ["scheme", "label", "place"] (SpD K WdigitsFor) := by
  refine ok_def F sc27 (fun ds π q h => ?_) (fun cdv A outer s H E ds π q C hr hK h => ?_)
  · obtain ⟨b, ws, r, ls, p, rfl, _⟩ := h; rfl
  · obtain ⟨b, ws, r, ls, p, rfl, ok, lab, hp, h⟩ := h
    refine fs_cons (f1_expr (fe_fp (fp_def D22 hr (by decide) hK (arg1 (fp_name 0 rfl)) fun π q k => ⟨b, ws, r, rfl, ok, k⟩) ?_))
    refine fs_cons (f1_expr (fe_fp (fp_def D23 hr (by decide) hK (arg2 (fp_name 0 rfl) (fp_name 1 rfl)) fun π q k => ⟨b, ws, r, ls, rfl, ok, lab, k⟩) ?_))
    refine fs_cons (f1_expr (fe_fp (fp_def D26 hr (by decide) hK (arg2 (fp_name 0 rfl) (fp_name 2 rfl)) fun π q k => ⟨b, ws, r, p, rfl, hp, k⟩) ?_))
    have hb0 := ok.b0
    have hb1 := ok.b1
    have hl2 := ok.l2
    have hll := lab.len
    have hpl : p < ls.length := by omega
    refine fs_cons (f1_setLcP 3 rfl sc27.nd (blkOk_by (own := [("digit", 4)]) (N := N27) (sc := defScope (st 27)) (by decide +kernel))
      (lcp_mapN 4 (List.range b.toNat) (fun d => .int ((d : Nat) : Int)) (fun d => encW (put ls p ((d : Nat) : Int))) sc27.nd (fip_is (fip_range1 B.range (fp_ixT (d := .int b) hK (fp_name 0 rfl) fp_int rfl) (by omega) (by omega)) (rng0 _)) (by rw [List.length_range]; omega) rfl fun x hx s H cc cl fp C' hk hp' => ?_) ?_)
    · refine fp_is (fp_tuple (fpa_starT (hk.trans hK) (fp_slT (hk.trans hK) (fp_name 1 rfl) fo_none (fo_some (fp_name 2 rfl))) (fpa_cons (fp_name 4 rfl) (fpa_starT (hk.trans hK) (fp_slT (hk.trans hK) (fp_name 1 rfl) (fo_some (fp_add (fp_name 2 rfl) fp_int)) fo_none) fpa_nil))) ?_) ?_
      · rw [List.append_nil, ← put_ints, List.length_map, put_len hpl]; omega
      · rw [List.append_nil, ← put_ints]
    · refine fs_one (f1_retP (fp_tupleL hK B.tuple (fp_is (fp_of rfl sc27.nd (blkOk_by (own := [("one", 5)]) (N := N27) (sc := defScope (st 27)) (by decide +kernel))
        (lcp_ifN 5 (List.range b.toNat) (fun d => encW (put ls p ((d : Nat) : Int))) (fun d => isR b ws r (put ls p ((d : Nat) : Int))) (fun d => .int ((d : Nat) : Int)) sc27.nd (fip_list hK (fp_name 3 rfl)) (by rw [List.length_range]; omega) rfl fun x hx s H cc cl fp C' hk hp' => ⟨?_, fun _ => ?_⟩)) ?_)) h)
      · have hx := List.mem_range.mp hx
        exact ft_val (fp_def D25 hr (by decide) (hk.trans hK) (arg2 (fp_name 0 rfl) (fp_name 5 rfl)) fun π q k => ⟨b, ws, r, _, rfl, ok, put_ok lab hp (by omega) (by omega), k⟩)
      · refine fp_ixT (hk.trans hK) (fp_name 5 rfl) (fp_name 2 rfl) ?_
        rw [atI_ints (by rw [put_len hpl]; exact hpl), List.getD_eq_getElem?_getD, put_at hpl]
        rfl
      · unfold digitsFor
        rw [List.map_map]; rfl
def Wcommon : WF := fun ds π q => ∃ (a c : Nat), ds = [.d (.int a), .d (.int c)] ∧ c < 2 ^ 20 ∧ q (.d (.int (Nat.gcd a c))) π
theorem sc28 : FnScope ["one", "other"] ["one", "other"] (defScope (st 28)) := ⟨rfl, rfl, rfl, by decide +kernel, rfl, by decide +kernel, by decide +kernel⟩
theorem ok28 (F : Fun K "common" "common" (st 28) f fd) : FnOk P w K mg base CX0 1 f fd ["one", "other"] (SpD K Wcommon) := by
  refine ok_def F sc28 (fun ds π q h => ?_) (fun cdv A outer s H E ds π q C hr hK h => ?_)
  · obtain ⟨a, c, rfl, _⟩ := h; rfl
  · obtain ⟨a, c, rfl, hc, h⟩ := h
    refine fs_cons (f1_while (fun n z => ∃ x : Nat, z = ⟨[si (x : Int), si (n : Int)], π⟩ ∧ Nat.gcd x n = Nat.gcd a c) PassesOwn.never c ⟨a, rfl, rfl⟩ (fun n z2 hz => ?_))
    obtain ⟨x, rfl, hg⟩ := hz
    refine ft_fp (ft_neI (fp_name 1 rfl) fp_int) ⟨fun hne => ?_, fun heq => ?_⟩
    · have hn : ¬ ((n : Int) = 0) := by simpa using hne
      have hn0 : 0 < n := by omega
      refine fs_one (f1_parP (i := 0) (j := 1) rfl sc28.nd (by decide) (fp_name 1 rfl) (fp_mod (fp_name 0 rfl) (fp_name 1 rfl) (by omega)) ?_)
      exact ⟨x % n, Nat.mod_lt _ hn0, n, rfl, by rw [← hg, Nat.gcd_comm n, ← Nat.gcd_rec, Nat.gcd_comm]⟩
    · have hn : (n : Int) = 0 := by simpa using heq
      have hn : n = 0 := by omega
      subst hn
      refine fs_one (f1_retP (fp_name 0 rfl) ?_)
      rw [Nat.gcd_zero_right] at hg
      rw [hg]
      exact h
/-- the place p lets a wrong digit pass -/
def badW (b : Int) (ws : List Int) (p : Nat) : Bool := decide (1 < Nat.gcd (ws.getD p 0).toNat b.toNat)
def wrongF (b : Int) (ws : List Int) : PyData := match (List.range ws.length).find? (badW b ws) with
  | none => .tuple [.str "all"]
  | some p => .tuple [.str "missed", .int (p : Int), .int 0, .int (b / (Nat.gcd (ws.getD p 0).toNat b.toNat : Nat))]
def WfindsWrong : WF := fun ds π q => ∃ (b : Int) (ws : List Int) (r : Int), ds = [.d (encS b ws r)] ∧ SchOk b ws r ∧ q (.d (wrongF b ws)) π
abbrev N29 : List Str := ["scheme", "base", "weights", "rest", "place", "weight", "share"]
theorem sc29 : FnScope N29 ["scheme"] (defScope (st 29)) := ⟨rfl, rfl, rfl, by decide +kernel, rfl, by decide +kernel, by decide +kernel⟩
theorem placed_ints (ws : List Int) : DL.placed (ws.map PyData.int) = (List.range ws.length).map fun i => PyData.tuple [.int ((i : Nat) : Int), .int (ws.getD i 0)] := by
  unfold DL.placed
  refine List.ext_getElem? fun i => ?_
  rw [List.getElem?_map, List.getElem?_zipIdx, List.getElem?_map, List.getElem?_map]
  by_cases h : i < ws.length
  · have e : ws.getD i 0 = ws[i] := by rw [List.getD_eq_getElem?_getD, List.getElem?_eq_getElem h]; rfl
    rw [List.getElem?_range h, List.getElem?_eq_getElem h]
    simp only [Option.map_some, e, Nat.zero_add]
  · rw [List.getElem?_eq_none (by omega), List.getElem?_eq_none (by rw [List.length_range]; omega)]
    rfl
theorem ok29 (F : Fun K "finds_wrong" "finds_wrong" (st 29) f fd) (B : Blt mg) (G : Cst mg) (D22 : HasDef P w K mg base "check_scheme" 4 ["value"] WckScheme) (D28 : HasDef P w K mg base "common" 1 ["one", "other"] Wcommon) : FnOk P w K mg base CX0 5 f fd ["scheme"] (SpD K WfindsWrong) := by
  refine ok_def F sc29 (fun ds π q h => ?_) (fun cdv A outer s H E ds π q C hr hK h => ?_)
  · obtain ⟨b, ws, r, rfl, _⟩ := h; rfl
  · obtain ⟨b, ws, r, rfl, ok, h⟩ := h
    refine fs_cons (f1_expr (fe_fp (fp_def D22 hr (by decide) hK (arg1 (fp_name 0 rfl)) fun π q k => ⟨b, ws, r, rfl, ok, k⟩) ?_))
    obtain ⟨b0, b1, l1, l2, all, r0, r1⟩ := ok
    refine fs_cons (f1_asg [1, 2, 3] (fe_fp (fp_name 0 rfl) ⟨_, rfl, ?_⟩))
    refine fg_tup rfl hK (fgs_cons (fg_name 1 sc29.nd rfl (.inl rfl) (fgs_cons (fg_name 2 sc29.nd rfl (.inl rfl) (fgs_cons (fg_name 3 sc29.nd rfl (.inl rfl) (fgs_nil ?_) (by simp) (.inl rfl))) (by simp) (.inl rfl))) (by simp) (.inl rfl))) rfl rfl
    refine fs_cons (f1_forI [4, 5] ws.length (fun i => .tuple [.int ((i : Nat) : Int), .int (ws.getD i 0)]) (fun i z => ∃ s4 s5 s6, z = ⟨[sd (encS b ws r), si b, sd (encW ws), si r, s4, s5, s6], π⟩ ∧ ∀ j, j < i → badW b ws j = false) PassesOwn.never rfl ?_ ⟨_, _, _, rfl, fun j hj => by omega⟩ (fun i hi z2 hz => ?_) fun z2 hz => ?_)
    · exact fip_is (fip_enumT hK B.enumerate (fp_name 2 rfl)) (placed_ints ws)
    · obtain ⟨s4, s5, s6, rfl, hno⟩ := hz
      refine fg_tup rfl hK (fgs_cons (fg_name 4 sc29.nd rfl (.inl rfl) (fgs_cons (fg_name 5 sc29.nd rfl (.inl rfl) (fgs_nil ?_) (by simp) (.inl rfl))) (by simp) (.inl rfl))) rfl rfl
      have hw := all (ws.getD i 0) (by rw [List.getD_eq_getElem?_getD, List.getElem?_eq_getElem hi]; exact List.getElem_mem hi)
      refine fs_cons (f1_setP 6 sc29.nd (d := .int (Nat.gcd (ws.getD i 0).toNat b.toNat : Nat)) (fp_def D28 hr (by decide) hK (arg2 (fp_name 5 rfl) (fp_name 1 rfl)) fun π q k => ⟨(ws.getD i 0).toNat, b.toNat, ?_, by omega, k⟩) ?_)
      · rw [Int.toNat_of_nonneg hw.1, Int.toNat_of_nonneg (by omega)]; rfl
      · have hgp : 0 < Nat.gcd (ws.getD i 0).toNat b.toNat := Nat.gcd_pos_of_pos_right _ (by omega)
        have hgl : Nat.gcd (ws.getD i 0).toNat b.toNat ≤ b.toNat := Nat.le_of_dvd (by omega) (Nat.gcd_dvd_right _ _)
        refine fs_one (f1_ifP (ft_gt (fp_name 6 rfl) fp_int) (fun hgt => ?_) fun hle => fs_nil ⟨_, _, _, rfl, fun j hj => ?_⟩)
        · have hgt : 1 < Nat.gcd (ws.getD i 0).toNat b.toNat := by have := of_decide_eq_true hgt; omega
          refine fs_one (f1_retP (fp_tuple (fpa_cons (fp_gstr G.missed) (fpa_cons (fp_name 4 rfl) (arg2 fp_int (fp_fdiv (fp_name 1 rfl) (fp_name 6 rfl) ⟨by omega, by omega⟩))))) ?_)
          unfold wrongF at h
          rw [find_range hi (decide_eq_true hgt) hno] at h
          exact h
        · by_cases e : j = i
          · subst e
            refine decide_eq_false ?_
            have := of_decide_eq_false hle
            omega
          · exact hno j (by omega)
    · obtain ⟨s4, s5, s6, rfl, hno⟩ := hz
      refine fs_one (f1_retP (fp_tuple (arg1 (fp_gstr G.all))) ?_)
      unfold wrongF at h
      rw [find_none hno] at h
      exact h
end
end K08

set_option Elab.async false
set_option linter.all false
set_option maxRecDepth 100000
set_option maxHeartbeats 4000000
set_option autoImplicit false
namespace K08
open PySem PySem.Spec PyProof.Rows L2 DL
def difX (ws : List Int) (p s : Nat) : Nat := (ws.getD p 0 - ws.getD s 0).natAbs
/-- the places p and s let an exchange pass -/
def badX (b : Int) (ws : List Int) (reach p s : Nat) : Bool := decide (p < s) && decide (s ≤ p + reach) && decide (s < ws.length) && decide (1 < Nat.gcd (difX ws p s) b.toNat)
def exchF (b : Int) (ws : List Int) (reach : Nat) : PyData := match (List.range ws.length).find? (fun p => (List.range ws.length).any (badX b ws reach p)) with
  | none => .tuple [.str "all"]
  | some p => match (List.range ws.length).find? (badX b ws reach p) with
    | none => .tuple [.str "all"]
    | some s => .tuple [.str "missed", .int (p : Int), .int (s : Int), .int 0, .int (b / (Nat.gcd (difX ws p s) b.toNat : Nat))]
theorem any_no {n : Nat} {P : Nat → Bool} (h : ∀ s, s < n → P s = false) : (List.range n).any P = false := by
  rw [List.any_eq_false]
  intro x hx
  rw [h x (List.mem_range.mp hx)]
  exact Bool.false_ne_true
theorem badX_far {b : Int} {ws : List Int} {reach p s : Nat} (h : p < s → s ≤ p + reach → ¬ s < ws.length) : badX b ws reach p s = false := by
  unfold badX
  by_cases h1 : p < s
  · by_cases h2 : s ≤ p + reach
    · rw [decide_eq_false (h h1 h2), Bool.and_false, Bool.false_and]
    · rw [decide_eq_false h2, Bool.and_false, Bool.false_and, Bool.false_and]
  · rw [decide_eq_false h1, Bool.false_and, Bool.false_and, Bool.false_and]
section
variable {P : Program} {w : World} {K : PySem.W.Frag} {mg : Str → Option Value} {base : Heap} {f : Addr} {fd : FuncData}
def WfindsExch : WF := fun ds π q => ∃ (b : Int) (ws : List Int) (r : Int) (reach : Nat), ds = [.d (encS b ws r), .d (.int reach)] ∧ SchOk b ws r ∧ 1 ≤ reach ∧ reach ≤ 6 ∧ q (.d (exchF b ws reach)) π
abbrev N30 : List Str := ["scheme", "reach", "base", "weights", "rest", "place", "other", "share"]
theorem sc30 : FnScope N30 ["scheme", "reach"] (defScope (st 30)) := ⟨rfl, rfl, rfl, by decide +kernel, rfl, by decide +kernel, by decide +kernel⟩
theorem ok30 (F : Fun K "finds_exchanged" "finds_exchanged" (st 30) f fd) (B : Blt mg) (G : Cst mg) (D3 : DisInteger P w K mg base) (D22 : HasDef P w K mg base "check_scheme" 4 ["value"] WckScheme) (D28 : HasDef P w K mg base "common" 1 ["one", "other"] Wcommon) :
    FnOk P w K mg base CX0 5 f fd ["scheme", "reach"] (SpD K WfindsExch) := by
  refine ok_def F sc30 (fun ds π q h => ?_) (fun cdv A outer s H E ds π q C hr hK h => ?_)
  · obtain ⟨b, ws, r, c, rfl, _⟩ := h; rfl
  · obtain ⟨b, ws, r, reach, rfl, ok, c0, c1, h⟩ := h
    refine fs_cons (f1_expr (fe_fp (fp_def D22 hr (by decide) hK (arg1 (fp_name 0 rfl)) fun π q k => ⟨b, ws, r, rfl, ok, k⟩) ?_))
    obtain ⟨b0, b1, l1, l2, all, r0, r1⟩ := ok
    refine fs_if_no (ft_not (p := true) (ft_val (fp_def D3 hr (by decide) hK (fpa_cons (fp_name 1 rfl) (arg2 fp_int (fp_gint G.mostReach))) (w_isInteger (by simp; omega))))) rfl ?_
    refine fs_cons (f1_asg [2, 3, 4] (fe_fp (fp_name 0 rfl) ⟨_, rfl, ?_⟩))
    refine fg_tup rfl hK (fgs_cons (fg_name 2 sc30.nd rfl (.inl rfl) (fgs_cons (fg_name 3 sc30.nd rfl (.inl rfl) (fgs_cons (fg_name 4 sc30.nd rfl (.inl rfl) (fgs_nil ?_) (by simp) (.inl rfl))) (by simp) (.inl rfl))) (by simp) (.inl rfl))) rfl rfl
    refine fs_cons (f1_forI [5] ws.length (fun i => .int ((i : Nat) : Int)) (fun i z => ∃ s5 s6 s7, z = ⟨[sd (encS b ws r), si (reach : Int), si b, sd (encW ws), si r, s5, s6, s7], π⟩ ∧ ∀ j, j < i → ∀ s, badX b ws reach j s = false) PassesOwn.never rfl ?_ ⟨_, _, _, rfl, fun j hj => by omega⟩ (fun i hi z2 hz => ?_) fun z2 hz => ?_)
    · refine fip_is (fip_range1 B.range (fp_lenT hK B.len (fp_name 3 rfl)) (by rw [List.length_map]; omega) (by omega)) ?_
      rw [List.length_map, Int.toNat_natCast, rng0]
    · obtain ⟨s5, s6, s7, rfl, hno⟩ := hz
      refine fg_name 5 sc30.nd rfl (.inl rfl) ?_ (by simp) (.inl rfl)
      refine fs_one (f1_forI [6] (min ((i : Int) + reach) ((ws.length : Int) - 1) + 1 - ((i : Int) + 1)).toNat (fun k => .int ((i : Int) + 1 + (k : Nat))) (fun k z => ∃ s6 s7, z = ⟨[sd (encS b ws r), si (reach : Int), si b, sd (encW ws), si r, si (i : Int), s6, s7], π⟩ ∧ ∀ s, s < i + 1 + k → badX b ws reach i s = false) PassesOwn.never rfl ?_ ⟨_, _, rfl, fun s hs => badX_far (fun h1 _ => by omega)⟩ (fun k hk z3 hz => ?_) fun z3 hz => ?_)
      · refine fip_is (fip_range2 B.range (fp_add (fp_name 5 rfl) fp_int) (fp_add (fp_min2 rfl B.min (fp_add (fp_name 5 rfl) (fp_name 1 rfl)) (fp_sub (fp_lenT hK B.len (fp_name 3 rfl)) fp_int)) fp_int) ?_) ?_
        · rw [List.length_map]; omega
        · rw [List.length_map]; rfl
      · obtain ⟨s6, s7, rfl, hno2⟩ := hz
        refine fg_name 6 sc30.nd rfl (.inl rfl) ?_ (by simp) (.inl rfl)
        have es : (i : Int) + 1 + (k : Nat) = ((i + 1 + k : Nat) : Int) := by omega
        rw [es]
        generalize hs : i + 1 + k = s at *
        have hsn : s < ws.length := by omega
        have hsr : s ≤ i + reach := by omega
        have m1 := all (ws.getD i 0) (by rw [List.getD_eq_getElem?_getD, List.getElem?_eq_getElem hi]; exact List.getElem_mem hi)
        have m2 := all (ws.getD s 0) (by rw [List.getD_eq_getElem?_getD, List.getElem?_eq_getElem hsn]; exact List.getElem_mem hsn)
        refine fs_cons (f1_setP 7 sc30.nd (d := .int (Nat.gcd (difX ws i s) b.toNat : Nat)) (fp_def D28 hr (by decide) hK (arg2 (fp_abs B.abs (fp_sub (fp_ixT hK (fp_name 3 rfl) (fp_name 5 rfl) (atI_ints hi)) (fp_ixT hK (fp_name 3 rfl) (fp_name 6 rfl) (atI_ints hsn)))) (fp_name 2 rfl)) fun π q k => ⟨difX ws i s, b.toNat, ?_, by omega, k⟩) ?_)
        · have e1 : (if ws.getD i 0 - ws.getD s 0 < 0 then -(ws.getD i 0 - ws.getD s 0) else ws.getD i 0 - ws.getD s 0) = ((difX ws i s : Nat) : Int) := by
            unfold difX
            split <;> omega
          rw [e1, Int.toNat_of_nonneg (by omega)]; rfl
        · have hgp : 0 < Nat.gcd (difX ws i s) b.toNat := Nat.gcd_pos_of_pos_right _ (by omega)
          have hgl : Nat.gcd (difX ws i s) b.toNat ≤ b.toNat := Nat.le_of_dvd (by omega) (Nat.gcd_dvd_right _ _)
          refine fs_one (f1_ifP (ft_gt (fp_name 7 rfl) fp_int) (fun hgt => ?_) fun hle => fs_nil ⟨_, _, rfl, fun j hj => ?_⟩)
          · have hgt : 1 < Nat.gcd (difX ws i s) b.toNat := by have := of_decide_eq_true hgt; omega
            have hbad : badX b ws reach i s = true := by
              unfold badX
              rw [decide_eq_true hgt, decide_eq_true hsn, decide_eq_true hsr, decide_eq_true (show i < s by omega)]
              rfl
            refine fs_one (f1_retP (fp_tuple (fpa_cons (fp_gstr G.missed) (fpa_cons (fp_name 5 rfl) (fpa_cons (fp_name 6 rfl) (arg2 fp_int (fp_fdiv (fp_name 2 rfl) (fp_name 7 rfl) ⟨by omega, by omega⟩)))))) ?_)
            unfold exchF at h
            rw [find_range (P := fun p => (List.range ws.length).any (badX b ws reach p)) hi (List.any_eq_true.mpr ⟨s, List.mem_range.mpr hsn, hbad⟩) (fun j hj => any_no fun s _ => hno j hj s)] at h
            simp only at h
            rw [find_range hsn hbad fun j hj => hno2 j hj] at h
            exact h
          · by_cases e : j = s
            · subst e
              unfold badX
              rw [decide_eq_false (show ¬ 1 < Nat.gcd (difX ws i j) b.toNat by have := of_decide_eq_false hle; omega), Bool.and_false]
            · exact hno2 j (by omega)
      · obtain ⟨s6, s7, rfl, hno2⟩ := hz
        refine ⟨_, _, _, rfl, fun j hj s => ?_⟩
        by_cases e : j = i
        · subst e
          by_cases hs : s < j + 1 + (min ((j : Int) + reach) ((ws.length : Int) - 1) + 1 - ((j : Int) + 1)).toNat
          · exact hno2 s hs
          · exact badX_far (fun h1 h2 => by omega)
        · exact hno j (by omega) s
    · obtain ⟨s5, s6, s7, rfl, hno⟩ := hz
      refine fs_one (f1_retP (fp_tuple (arg1 (fp_gstr G.all))) ?_)
      unfold exchF at h
      rw [find_none (P := fun p => (List.range ws.length).any (badX b ws reach p)) fun j hj => any_no fun s _ => hno j hj s] at h
      exact h
end
end K08

set_option Elab.async false
set_option linter.all false
set_option maxRecDepth 100000
set_option maxHeartbeats 4000000
set_option autoImplicit false
namespace K08
open PySem PySem.Spec PyProof.Rows L2 DL
abbrev allD : PyData := .tuple [.str "all"]
def allW (b : Int) (ws : List Int) : Bool := (List.range ws.length).all fun p => !badW b ws p
def allX (b : Int) (ws : List Int) (reach : Nat) : Bool := (List.range ws.length).all fun p => (List.range ws.length).all fun s => !badX b ws reach p s
theorem find_all {n : Nat} {P : Nat → Bool} : (List.range n).find? P = none ↔ ((List.range n).all fun p => !P p) = true := by
  rw [List.find?_eq_none, List.all_eq_true]
  exact forall_congr' fun x => forall_congr' fun _ => by simp
theorem wrongF_all (b : Int) (ws : List Int) : PyData.eqv (wrongF b ws) allD = allW b ws := by
  unfold wrongF allW
  cases h : (List.range ws.length).find? (badW b ws) with
  | none => rw [find_all.mp h]; rfl
  | some p =>
    have hn : ¬ ((List.range ws.length).all fun p => !badW b ws p) = true := fun h2 => by rw [find_all.mpr h2] at h; cases h
    rw [Bool.eq_false_iff.mpr hn]
    rfl
theorem exchF_all (b : Int) (ws : List Int) (reach : Nat) : PyData.eqv (exchF b ws reach) allD = allX b ws reach := by
  unfold exchF allX
  cases h : (List.range ws.length).find? (fun p => (List.range ws.length).any (badX b ws reach p)) with
  | none =>
    have h2 := find_all.mp h
    have e : ((List.range ws.length).all fun p => (List.range ws.length).all fun s => !badX b ws reach p s) = true := by
      rw [List.all_eq_true] at h2 ⊢
      intro p hp
      have := h2 p hp
      rw [List.all_eq_true]
      intro s hs
      rw [Bool.not_eq_true', List.any_eq_false] at this
      simpa using this s hs
    rw [e]; rfl
  | some p =>
    have hp := List.find?_some h
    obtain ⟨s, hs, hb⟩ := List.any_eq_true.mp hp
    have hpm := List.mem_of_find?_eq_some h
    have hn : ¬ ((List.range ws.length).all fun p => (List.range ws.length).all fun s => !badX b ws reach p s) = true := fun h2 => by
      rw [List.all_eq_true] at h2
      have h3 := h2 p hpm
      rw [List.all_eq_true] at h3
      have h4 := h3 s hs
      rw [hb] at h4
      cases h4
    rw [Bool.eq_false_iff.mpr hn]
    simp only
    cases h5 : (List.range ws.length).find? (badX b ws reach p) with
    | none =>
      have h6 := List.find?_eq_none.mp h5 s hs
      exact absurd hb h6
    | some s => rfl
theorem lay_ints (xs : List Int) : PyData.canLayAll0 (xs.map PyData.int) = true := by
  induction xs with
  | nil => rfl
  | cons x xs ih => rw [List.map_cons]; exact ih
theorem depth_ints (xs : List Int) : PyData.depthAll (xs.map PyData.int) = 0 := by
  induction xs with
  | nil => simp [PyData.depthAll]
  | cons x xs ih => simp [PyData.depthAll, PyData.depth, ih]
theorem shaped_si {s : Str} (hs : PyData.strOk s = true) (xs : List Int) : SeqAt.shaped (.tuple (.str s :: xs.map PyData.int)) = true := by
  have h1 : PyData.canLay0 (.tuple (.str s :: xs.map PyData.int)) = true := by
    show (PyData.strOk s && PyData.canLayAll0 (xs.map PyData.int)) = true
    rw [hs, lay_ints]; rfl
  have h2 : (PyData.tuple (.str s :: xs.map PyData.int)).depth ≤ 64 := by
    simp [PyData.depth, PyData.depthAll, depth_ints]
  unfold SeqAt.shaped
  rw [h1, decide_eq_true h2]; rfl
theorem ok_all : PyData.strOk "all" = true := by decide +kernel
theorem ok_missed : PyData.strOk "missed" = true := by decide +kernel
theorem shaped_all : SeqAt.shaped allD = true := shaped_si ok_all []
theorem wrongF_shaped (b : Int) (ws : List Int) : SeqAt.shaped (wrongF b ws) = true := by
  unfold wrongF
  split
  · exact shaped_all
  · exact shaped_si ok_missed [_, _, _]
theorem exchF_shaped (b : Int) (ws : List Int) (reach : Nat) : SeqAt.shaped (exchF b ws reach) = true := by
  unfold exchF
  split
  · exact shaped_all
  · split
    · exact shaped_all
    · exact shaped_si ok_missed [_, _, _, _]
def showsW (b : Int) (ws : List Int) (p : Nat) (a c : Int) : Bool := !decide (a = c) && decide (ws.getD p 0 * (a - c) % b = 0)
def missW (p : Nat) (a c : Int) : PyData := .tuple [.str "missed", .int (p : Int), .int a, .int c]
section
variable {P : Program} {w : World} {K : PySem.W.Frag} {mg : Str → Option Value} {base : Heap} {f : Addr} {fd : FuncData}
def WshowsWrong : WF := fun ds π q => ∃ (b : Int) (ws : List Int) (r : Int) (v : PyData), ds = [.d (encS b ws r), .d v] ∧ SchOk b ws r ∧
  ((v = allD ∧ q (.d (.bool (allW b ws))) π) ∨ ∃ (p : Nat) (a c : Int), v = missW p a c ∧ p < ws.length ∧ 0 ≤ a ∧ a ≤ b - 1 ∧ 0 ≤ c ∧ c ≤ b - 1 ∧ q (.d (.bool (showsW b ws p a c))) π)
abbrev N31 : List Str := ["scheme", "value", "base", "weights", "rest", "one"]
theorem sc31 : FnScope N31 ["scheme", "value"] (defScope (st 31)) := ⟨rfl, rfl, rfl, by decide +kernel, rfl, by decide +kernel, by decide +kernel⟩
theorem ok31 (F : Fun K "shows_wrong" "shows_wrong" (st 31) f fd) (B : Blt mg) (G : Cst mg) (D1 : DisTuple P w K mg base) (D3 : DisInteger P w K mg base) (D22 : HasDef P w K mg base "check_scheme" 4 ["value"] WckScheme) (D29 : HasDef P w K mg base "finds_wrong" 5 ["scheme"] WfindsWrong) :
    FnOk P w K mg base CX0 6 f fd ["scheme", "value"] (SpD K WshowsWrong) := by
  refine ok_def F sc31 (fun ds π q h => ?_) (fun cdv A outer s H E ds π q C hr hK h => ?_)
  · obtain ⟨b, ws, r, c, rfl, _⟩ := h; rfl
  · obtain ⟨b, ws, r, v, rfl, ok, h⟩ := h
    refine fs_cons (f1_expr (fe_fp (fp_def D22 hr (by decide) hK (arg1 (fp_name 0 rfl)) fun π q k => ⟨b, ws, r, rfl, ok, k⟩) ?_))
    rcases h with ⟨rfl, h⟩ | ⟨p, a, c, rfl, hp, a0, a1, c0, c1, h⟩
    · refine fs_if_no (ft_w (fw_or (q := false) (ft_not (p := true) (ft_val (fp_def D1 hr (by decide) hK (fpa_cons (fp_name 1 rfl) (arg2 fp_int fp_int)) (w_isTuple (by simp))))) fun _ => fw_or1 (ft_not (p := true) (ft_val
        (fp_isi hK B.isinstance B.str (by decide +kernel) (fp_ixT (d := .str "all") hK (fp_name 1 rfl) fp_int rfl) rfl (by simp) (kit_self _ _)))))) rfl ?_
      refine fs_cons (f1_ifP (ft_eqS (fp_ixT (d := .str "all") hK (fp_name 1 rfl) fp_int rfl) (fp_gstr G.all)) (fun _ => ?_) fun hf => by simp at hf)
      refine fs_one (f1_retP (fp_is (fp_and (p := true) (q := allW b ws) (fp_is (fp_eqI (fp_lenT hK B.len (fp_name 1 rfl)) fp_int) rfl) fun _ => fp_one (fp_is (fp_eqD hr hK (fp_def D29 hr (by decide) hK (arg1 (fp_name 0 rfl)) fun π q k => ⟨b, ws, r, rfl, ok, k⟩) (fp_tuple (arg1 (fp_gstr G.all))) (wrongF_shaped b ws) shaped_all) (by rw [← wrongF_all]))) rfl) h)
    · refine fs_if_no (ft_w (fw_or (q := false) (ft_not (p := true) (ft_val (fp_def D1 hr (by decide) hK (fpa_cons (fp_name 1 rfl) (arg2 fp_int fp_int)) (w_isTuple (by simp))))) fun _ => fw_or1 (ft_not (p := true) (ft_val
        (fp_isi hK B.isinstance B.str (by decide +kernel) (fp_ixT (d := .str "missed") hK (fp_name 1 rfl) fp_int rfl) rfl (by simp) (kit_self _ _)))))) rfl ?_
      refine fs_if_no (ft_eqS (fp_ixT (d := .str "missed") hK (fp_name 1 rfl) fp_int rfl) (fp_gstr G.all)) (by decide) ?_
      obtain ⟨b0, b1, l1, l2, all, r0, r1⟩ := ok
      refine fs_if_no (ft_w (fw_or (q := false) (fpt_is (ft_neS (fp_ixT (d := .str "missed") hK (fp_name 1 rfl) fp_int rfl) (fp_gstr G.missed)) (by decide : _ = false)) fun _ => fw_or (p := false) (q := false) (fpt_is (ft_neI (fp_lenT hK B.len (fp_name 1 rfl)) fp_int) (by rfl)) fun _ => fw_or1 (ft_not (p := true) (ft_val
        (fp_def D3 hr (by decide) hK (fpa_cons (fp_ixT (d := .int p) hK (fp_name 1 rfl) fp_int rfl) (arg2 fp_int (fp_sub (fp_lenT hK B.len (fp_ixT (d := encW ws) hK (fp_name 0 rfl) fp_int rfl)) fp_int))) (w_isInteger (by simp; omega))))))) rfl ?_
      refine fs_cons (f1_asg [2, 3, 4] (fe_fp (fp_name 0 rfl) ⟨_, rfl, ?_⟩))
      refine fg_tup rfl hK (fgs_cons (fg_name 2 sc31.nd rfl (.inr rfl) (fgs_cons (fg_name 3 sc31.nd rfl (.inl rfl) (fgs_cons (fg_name 4 sc31.nd rfl (.inl rfl) (fgs_nil ?_) (by simp) (.inl rfl))) (by simp) (.inl rfl))) (by simp) (.inl rfl))) rfl rfl
      refine fs_cons (f1_ifP (ft_w (fw_or (p := false) (q := decide (a = c)) (ft_not (p := true) (ft_val ?_)) fun _ => fw_or1 (ft_eqI (fp_ixT (d := .int a) hK (fp_name 1 rfl) fp_int rfl) (fp_ixT (d := .int c) hK (fp_name 1 rfl) (fp_gint G.triple) rfl)))) (fun he => ?_) fun he => fs_nil ?_)
      · refine fp_is (fp_all (bs := [a, c].map fun _ => true) hK rfl B.all (fp_is (fp_of rfl sc31.nd (blkOk_by (own := [("one", 5)]) (N := N31) (sc := defScope (st 31)) (by decide +kernel))
          (lcp_mapN 5 [a, c] .int (fun _ => .bool true) sc31.nd (fip_is (fip_tup hK (fp_slT hK (fp_name 1 rfl) (fo_some fp_int) fo_none)) rfl) (by simp) rfl fun x hx s H cc cl fp C' hk hp => ?_)) (by simp))) (by rw [all_true])
        have hx : x = a ∨ x = c := by simpa using hx
        exact fp_def D3 hr (by decide) (hk.trans hK) (fpa_cons (fp_name 5 rfl) (arg2 fp_int (fp_sub (fp_name 2 rfl) fp_int))) (w_isInteger (by simp; omega))
      · have he : decide (a = c) = true := he
        unfold showsW at h
        rw [he] at h
        exact fs_one (f1_retP fp_bool h)
      · have he : decide (a = c) = false := he
        unfold showsW at h
        rw [he] at h
        have hw := all (ws.getD p 0) (by rw [List.getD_eq_getElem?_getD, List.getElem?_eq_getElem hp]; exact List.getElem_mem hp)
        refine fs_one (f1_retP (fp_eqI (fp_mod (fp_mul (fp_ixT hK (fp_name 3 rfl) (fp_ixT (d := .int p) hK (fp_name 1 rfl) fp_int rfl) (atI_ints hp)) (fp_sub (fp_ixT (d := .int a) hK (fp_name 1 rfl) fp_int rfl) (fp_ixT (d := .int c) hK (fp_name 1 rfl) (fp_gint G.triple) rfl)) (.inl ⟨by omega, by omega⟩)) (fp_name 2 rfl) (by omega)) fp_int) h)
end
end K08

set_option Elab.async false
set_option linter.all false
set_option maxRecDepth 100000
set_option maxHeartbeats 4000000
set_option autoImplicit false
namespace K08
open PySem PySem.Spec PyProof.Rows L2 DL
def showsX (b : Int) (ws : List Int) (reach p s : Nat) (a c : Int) : Bool := (decide (p < s) && decide (s ≤ p + reach)) && (!decide (a = c) && decide ((ws.getD p 0 - ws.getD s 0) * (a - c) % b = 0))
def missX (p s : Nat) (a c : Int) : PyData := .tuple [.str "missed", .int (p : Int), .int (s : Int), .int a, .int c]
section
variable {P : Program} {w : World} {K : PySem.W.Frag} {mg : Str → Option Value} {base : Heap} {f : Addr} {fd : FuncData}
def WshowsExch : WF := fun ds π q => ∃ (b : Int) (ws : List Int) (r : Int) (reach : Nat) (v : PyData), ds = [.d (encS b ws r), .d (.int reach), .d v] ∧ SchOk b ws r ∧ 1 ≤ reach ∧ reach ≤ 6 ∧
  ((v = allD ∧ q (.d (.bool (allX b ws reach))) π) ∨ ∃ (p s : Nat) (a c : Int), v = missX p s a c ∧ p < ws.length ∧ s < ws.length ∧ 0 ≤ a ∧ a ≤ b - 1 ∧ 0 ≤ c ∧ c ≤ b - 1 ∧ q (.d (.bool (showsX b ws reach p s a c))) π)
abbrev N32 : List Str := ["scheme", "reach", "value", "due", "base", "weights", "rest", "place", "other", "one", "its", "spot", "digit"]
theorem sc32 : FnScope N32 ["scheme", "reach", "value"] (defScope (st 32)) := ⟨rfl, rfl, rfl, by decide +kernel, rfl, by decide +kernel, by decide +kernel⟩
theorem ok32 (F : Fun K "shows_exchanged" "shows_exchanged" (st 32) f fd) (B : Blt mg) (G : Cst mg) (D1 : DisTuple P w K mg base) (D3 : DisInteger P w K mg base) (D30 : HasDef P w K mg base "finds_exchanged" 5 ["scheme", "reach"] WfindsExch) :
    FnOk P w K mg base CX0 6 f fd ["scheme", "reach", "value"] (SpD K WshowsExch) := by
  refine ok_def F sc32 (fun ds π q h => ?_) (fun cdv A outer s H E ds π q C hr hK h => ?_)
  · obtain ⟨b, ws, r, c, v, rfl, _⟩ := h; rfl
  · obtain ⟨b, ws, r, reach, v, rfl, ok, e0, e1, h⟩ := h
    refine fs_cons (f1_setP 3 sc32.nd (fp_def D30 hr (by decide) hK (arg2 (fp_name 0 rfl) (fp_name 1 rfl)) fun π q k => ⟨b, ws, r, reach, rfl, ok, e0, e1, k⟩) ?_)
    rcases h with ⟨rfl, h⟩ | ⟨p, s, a, c, rfl, hp, hs, a0, a1, c0, c1, h⟩
    · refine fs_if_no (ft_w (fw_or (q := false) (ft_not (p := true) (ft_val (fp_def D1 hr (by decide) hK (fpa_cons (fp_name 2 rfl) (arg2 fp_int fp_int)) (w_isTuple (by simp))))) fun _ => fw_or1 (ft_not (p := true) (ft_val
        (fp_isi hK B.isinstance B.str (by decide +kernel) (fp_ixT (d := .str "all") hK (fp_name 2 rfl) fp_int rfl) rfl (by simp) (kit_self _ _)))))) rfl ?_
      refine fs_cons (f1_ifP (ft_eqS (fp_ixT (d := .str "all") hK (fp_name 2 rfl) fp_int rfl) (fp_gstr G.all)) (fun _ => ?_) fun hf => by simp at hf)
      refine fs_one (f1_retP (fp_is (fp_and (p := true) (q := allX b ws reach) (fp_is (fp_eqI (fp_lenT hK B.len (fp_name 2 rfl)) fp_int) rfl) fun _ => fp_one (fp_is (fp_eqD hr hK (fp_name 3 rfl) (fp_tuple (arg1 (fp_gstr G.all))) (exchF_shaped b ws reach) shaped_all) (by rw [← exchF_all]))) rfl) h)
    · refine fs_if_no (ft_w (fw_or (q := false) (ft_not (p := true) (ft_val (fp_def D1 hr (by decide) hK (fpa_cons (fp_name 2 rfl) (arg2 fp_int fp_int)) (w_isTuple (by simp))))) fun _ => fw_or1 (ft_not (p := true) (ft_val
        (fp_isi hK B.isinstance B.str (by decide +kernel) (fp_ixT (d := .str "missed") hK (fp_name 2 rfl) fp_int rfl) rfl (by simp) (kit_self _ _)))))) rfl ?_
      refine fs_if_no (ft_eqS (fp_ixT (d := .str "missed") hK (fp_name 2 rfl) fp_int rfl) (fp_gstr G.all)) (by decide) ?_
      obtain ⟨b0, b1, l1, l2, all, r0, r1⟩ := ok
      refine fs_if_no (ft_w (fw_or (q := false) (fpt_is (ft_neS (fp_ixT (d := .str "missed") hK (fp_name 2 rfl) fp_int rfl) (fp_gstr G.missed)) (by decide : _ = false)) fun _ => fw_or1 (fpt_is (ft_neI (fp_lenT hK B.len (fp_name 2 rfl)) fp_int) (by rfl)))) rfl ?_
      refine fs_cons (f1_asg [4, 5, 6] (fe_fp (fp_name 0 rfl) ⟨_, rfl, ?_⟩))
      refine fg_tup rfl hK (fgs_cons (fg_name 4 sc32.nd rfl (.inr rfl) (fgs_cons (fg_name 5 sc32.nd rfl (.inr rfl) (fgs_cons (fg_name 6 sc32.nd rfl (.inl rfl) (fgs_nil ?_) (by simp) (.inl rfl))) (by simp) (.inl rfl))) (by simp) (.inl rfl))) rfl rfl
      refine fs_cons (f1_asg [7, 8, 9, 10] (fe_fp (d := .tuple [.int (p : Int), .int (s : Int), .int a, .int c]) (fp_is (fp_slT hK (fp_name 2 rfl) (fo_some fp_int) fo_none) rfl) ⟨_, rfl, ?_⟩))
      refine fg_tup rfl hK (fgs_cons (fg_name 7 sc32.nd rfl (.inl rfl) (fgs_cons (fg_name 8 sc32.nd rfl (.inl rfl) (fgs_cons (fg_name 9 sc32.nd rfl (.inl rfl) (fgs_cons (fg_name 10 sc32.nd rfl (.inl rfl) (fgs_nil ?_) (by simp) (.inl rfl))) (by simp) (.inl rfl))) (by simp) (.inl rfl))) (by simp) (.inl rfl))) rfl rfl
      refine fs_cons (f1_ifP (ft_w (fw_or (p := false) (q := !(decide ((0 : Int) < (s : Int) - p) && decide ((s : Int) - p ≤ reach))) (ft_not (p := true) (ft_val ?_)) fun _ => fw_or1 (ft_not (ft_ltLe fp_int (fp_sub (fp_name 8 rfl) (fp_name 7 rfl)) (fp_name 1 rfl))))) (fun he => ?_) fun he => fs_nil ?_)
      · refine fp_is (fp_all (bs := [(p : Int), (s : Int)].map fun _ => true) hK rfl B.all (fp_is (fp_of rfl sc32.nd (blkOk_by (own := [("spot", 11)]) (N := N32) (sc := defScope (st 32)) (by decide +kernel))
          (lcp_mapN 11 [(p : Int), (s : Int)] .int (fun _ => .bool true) sc32.nd (fip_is (fip_tup hK (fp_tuple (arg2 (fp_name 7 rfl) (fp_name 8 rfl)))) rfl) (by simp) rfl fun x hx s' H cc cl fp C' hk hp' => ?_)) (by simp))) (by rw [all_true])
        have hx : x = (p : Int) ∨ x = (s : Int) := by simpa using hx
        exact fp_def D3 hr (by decide) (hk.trans hK) (fpa_cons (fp_name 11 rfl) (arg2 fp_int (fp_sub (fp_lenT (hk.trans hK) B.len (fp_name 5 rfl)) fp_int))) (w_isInteger (by simp; omega))
      · have e : (decide (p < s) && decide (s ≤ p + reach)) = false := by
          have he : (!(decide ((0 : Int) < (s : Int) - p) && decide ((s : Int) - p ≤ reach))) = true := he
          by_cases h1 : p < s
          · by_cases h2 : s ≤ p + reach
            · rw [decide_eq_true (show (0 : Int) < (s : Int) - p by omega), decide_eq_true (show (s : Int) - p ≤ reach by omega)] at he
              cases he
            · rw [decide_eq_false h2, Bool.and_false]
          · rw [decide_eq_false h1, Bool.false_and]
        unfold showsX at h
        rw [e, Bool.false_and] at h
        exact fs_one (f1_retP fp_bool h)
      · have e : (decide (p < s) && decide (s ≤ p + reach)) = true := by
          have he : (!(decide ((0 : Int) < (s : Int) - p) && decide ((s : Int) - p ≤ reach))) = false := he
          rw [Bool.not_eq_false'] at he
          rw [Bool.and_eq_true, decide_eq_true_eq, decide_eq_true_eq] at he
          rw [decide_eq_true (show p < s by omega), decide_eq_true (show s ≤ p + reach by omega)]
          rfl
        unfold showsX at h
        rw [e, Bool.true_and] at h
        refine fs_cons (f1_ifP (ft_w (fw_or (p := false) (q := decide (a = c)) (ft_not (p := true) (ft_val ?_)) fun _ => fw_or1 (ft_eqI (fp_name 9 rfl) (fp_name 10 rfl)))) (fun he => ?_) fun he => fs_nil ?_)
        · refine fp_is (fp_all (bs := [a, c].map fun _ => true) hK rfl B.all (fp_is (fp_of rfl sc32.nd (blkOk_by (own := [("digit", 12)]) (N := N32) (sc := defScope (st 32)) (by decide +kernel))
            (lcp_mapN 12 [a, c] .int (fun _ => .bool true) sc32.nd (fip_is (fip_tup hK (fp_tuple (arg2 (fp_name 9 rfl) (fp_name 10 rfl)))) rfl) (by simp) rfl fun x hx s H cc cl fp C' hk hp => ?_)) (by simp))) (by rw [all_true])
          have hx : x = a ∨ x = c := by simpa using hx
          exact fp_def D3 hr (by decide) (hk.trans hK) (fpa_cons (fp_name 12 rfl) (arg2 fp_int (fp_sub (fp_name 4 rfl) fp_int))) (w_isInteger (by simp; omega))
        · have he : decide (a = c) = true := he
          rw [he] at h
          exact fs_one (f1_retP fp_bool h)
        · have he : decide (a = c) = false := he
          rw [he] at h
          have hw := all (ws.getD p 0) (by rw [List.getD_eq_getElem?_getD, List.getElem?_eq_getElem hp]; exact List.getElem_mem hp)
          have hw2 := all (ws.getD s 0) (by rw [List.getD_eq_getElem?_getD, List.getElem?_eq_getElem hs]; exact List.getElem_mem hs)
          exact fs_one (f1_retP (fp_eqI (fp_mod (fp_mul (fp_sub (fp_ixT hK (fp_name 5 rfl) (fp_name 7 rfl) (atI_ints hp)) (fp_ixT hK (fp_name 5 rfl) (fp_name 8 rfl) (atI_ints hs))) (fp_sub (fp_name 9 rfl) (fp_name 10 rfl)) (.inl ⟨by omega, by omega⟩)) (fp_name 4 rfl) (by omega)) fp_int) h)
/-- the least number from 2 on that divides n -/
def leastF (n : Nat) : Nat := ((List.range (n + 1)).find? fun d => decide (2 ≤ d) && decide (n % d = 0)).getD 0
theorem leastF_is {n d : Nat} (h2 : 2 ≤ d) (hd : n % d = 0) (hn : 0 < n) (hno : ∀ j, 2 ≤ j → j < d → ¬ n % j = 0) : leastF n = d := by
  unfold leastF
  have hle : d ≤ n := Nat.le_of_dvd hn (Nat.dvd_of_mod_eq_zero hd)
  rw [find_range (P := fun d => decide (2 ≤ d) && decide (n % d = 0)) (i := d) (by omega) (by rw [decide_eq_true h2, decide_eq_true hd]; rfl) fun j hj => ?_]
  · rfl
  · by_cases h : 2 ≤ j
    · rw [decide_eq_false (hno j h hj), Bool.and_false]
    · rw [decide_eq_false h, Bool.false_and]
def WleastFactor : WF := fun ds π q => ∃ (n : Nat), ds = [.d (.int n)] ∧ 2 ≤ n ∧ n ≤ 40 ∧ q (.d (.int (leastF n))) π
theorem sc33 : FnScope ["number", "found"] ["number"] (defScope (st 33)) := ⟨rfl, rfl, rfl, by decide +kernel, rfl, by decide +kernel, by decide +kernel⟩
theorem ok33 (F : Fun K "least_factor" "least_factor" (st 33) f fd) (G : Cst mg) : FnOk P w K mg base CX0 1 f fd ["number"] (SpD K WleastFactor) := by
  refine ok_def F sc33 (fun ds π q h => ?_) (fun cdv A outer s H E ds π q C hr hK h => ?_)
  · obtain ⟨n, rfl, _⟩ := h; rfl
  · obtain ⟨n, rfl, n2, n40, h⟩ := h
    refine fs_cons (f1_setP 1 sc33.nd (fp_gint G.pair) ?_)
    refine fs_cons (f1_while (fun m z => ∃ d : Nat, z = ⟨[si (n : Int), si (d : Int)], π⟩ ∧ 2 ≤ d ∧ d ≤ n ∧ m = n - d ∧ ∀ j, 2 ≤ j → j < d → ¬ n % j = 0) PassesOwn.never (n - 2) ⟨2, rfl, by omega, n2, rfl, fun j h1 h2 => by omega⟩ (fun m z2 hz => ?_))
    obtain ⟨d, rfl, d2, dn, em, hno⟩ := hz
    have ee : ((n : Int) % (d : Int)) = ((n % d : Nat) : Int) := by omega
    refine ft_fp (ft_neI (fp_mod (fp_name 0 rfl) (fp_name 1 rfl) (by omega)) fp_int) ⟨fun hne => ?_, fun heq => ?_⟩
    · have hn : ¬ (n % d = 0) := by rw [ee] at hne; simp at hne; omega
      refine fs_one (f1_setP 1 sc33.nd (fp_add (fp_name 1 rfl) fp_int) ?_)
      have hlt : d < n := by
        rcases Nat.lt_or_ge d n with q | q
        · exact q
        · have : d = n := by omega
          subst this
          exact absurd (Nat.mod_self d) hn
      refine ⟨n - (d + 1), by omega, d + 1, rfl, by omega, by omega, rfl, fun j h1 h2 => ?_⟩
      by_cases e : j = d
      · subst e; exact hn
      · exact hno j h1 (by omega)
    · have hn : n % d = 0 := by rw [ee] at heq; simp at heq; omega
      refine fs_one (f1_retP (fp_name 1 rfl) ?_)
      rw [leastF_is d2 hn (by omega) hno] at h
      exact h
end
end K08

set_option Elab.async false
set_option linter.all false
set_option maxRecDepth 100000
set_option maxHeartbeats 4000000
set_option autoImplicit false
namespace K08
open PySem PySem.Spec PyProof.Rows L2 DL
def bestW (need places : Nat) : List Int := (List.range places).map fun i => ((i % need + 1 : Nat) : Int)
def bestF (b places reach : Nat) : PyData := if leastF b ≤ min (reach + 1) places then .tuple [.str "never", .int (leastF b : Nat)] else .tuple [.str "weights", encW (bestW (min (reach + 1) places) places)]
section
variable {P : Program} {w : World} {K : PySem.W.Frag} {mg : Str → Option Value} {base : Heap} {f : Addr} {fd : FuncData}
structure Asked (b places reach : Nat) : Prop where
  b0 : 2 ≤ b
  b1 : b ≤ 40
  p0 : 1 ≤ places
  p1 : places ≤ 16
  r0 : 1 ≤ reach
  r1 : reach ≤ 6
def WbestWeights : WF := fun ds π q => ∃ (b places reach : Nat), ds = [.d (.int b), .d (.int places), .d (.int reach)] ∧ Asked b places reach ∧ q (.d (bestF b places reach)) π
abbrev N34 : List Str := ["base", "places", "reach", "value", "most", "need", "at"]
theorem sc34 : FnScope N34 ["base", "places", "reach"] (defScope (st 34)) := ⟨rfl, rfl, rfl, by decide +kernel, rfl, by decide +kernel, by decide +kernel⟩
theorem ok34 (F : Fun K "best_weights" "best_weights" (st 34) f fd) (B : Blt mg) (G : Cst mg) (D3 : DisInteger P w K mg base) (D33 : HasDef P w K mg base "least_factor" 1 ["number"] WleastFactor) :
    FnOk P w K mg base CX0 3 f fd ["base", "places", "reach"] (SpD K WbestWeights) := by
  refine ok_def F sc34 (fun ds π q h => ?_) (fun cdv A outer s H E ds π q C hr hK h => ?_)
  · obtain ⟨b, p, r, rfl, _⟩ := h; rfl
  · obtain ⟨b, places, reach, rfl, ok, h⟩ := h
    obtain ⟨b0, b1, p0, p1, r0, r1⟩ := ok
    refine fs_cons (f1_forA [3, 4] [((b : Int), (40 : Int)), ((places : Int), 16), ((reach : Int), 6)] (fun x => .tuple [.int x.1, .int x.2]) (fun (_ : Unit) z => ∃ s3 s4, z = ⟨[si (b : Int), si (places : Int), si (reach : Int), s3, s4, .un, .un], π⟩) (fun _ _ => ()) () PassesOwn.never rfl ?_ ⟨_, _, rfl⟩ (fun pre x post e z2 hz => ?_) fun z2 hz => ?_)
    · exact fip_is (fip_tup hK (fp_tuple (xs := [.tuple [.int b, .int 40], .tuple [.int places, .int 16], .tuple [.int reach, .int 6]]) (fpa_cons (fp_tuple (arg2 (fp_name 0 rfl) (fp_gint G.mostBase))) (arg2 (fp_tuple (arg2 (fp_name 1 rfl) (fp_gint G.mostDigits))) (fp_tuple (arg2 (fp_name 2 rfl) (fp_gint G.mostReach))))))) rfl
    · obtain ⟨s3, s4, rfl⟩ := hz
      have hx : x ∈ [((b : Int), (40 : Int)), ((places : Int), 16), ((reach : Int), 6)] := by rw [e]; simp
      refine fg_tup rfl hK (fgs_cons (fg_name 3 sc34.nd rfl (.inl rfl) (fgs_cons (fg_name 4 sc34.nd rfl (.inl rfl) (fgs_nil ?_) (by simp) (.inl rfl))) (by simp) (.inl rfl))) rfl rfl
      have hx : x = ((b : Int), (40 : Int)) ∨ x = ((places : Int), 16) ∨ x = ((reach : Int), 6) := by simpa using hx
      rcases hx with rfl | rfl | rfl
      · refine fs_if_no (ft_not (p := true) (ft_val (fp_def D3 hr (by decide) hK (fpa_cons (fp_name 3 rfl) (arg2 (fp_is (fp_if (x := .int 2) (y := .int 1) (ft_eqI (fp_name 4 rfl) (fp_gint G.mostBase)) (fun _ => fp_gint G.pair) fun _ => fp_int) (show _ = PyData.int 2 from rfl)) (fp_name 4 rfl))) (w_isInteger (by simp; omega))))) rfl (fs_nil ⟨_, _, rfl⟩)
      · refine fs_if_no (ft_not (p := true) (ft_val (fp_def D3 hr (by decide) hK (fpa_cons (fp_name 3 rfl) (arg2 (fp_is (fp_if (x := .int 2) (y := .int 1) (ft_eqI (fp_name 4 rfl) (fp_gint G.mostBase)) (fun _ => fp_gint G.pair) fun _ => fp_int) (show _ = PyData.int 1 from rfl)) (fp_name 4 rfl))) (w_isInteger (by simp; omega))))) rfl (fs_nil ⟨_, _, rfl⟩)
      · refine fs_if_no (ft_not (p := true) (ft_val (fp_def D3 hr (by decide) hK (fpa_cons (fp_name 3 rfl) (arg2 (fp_is (fp_if (x := .int 2) (y := .int 1) (ft_eqI (fp_name 4 rfl) (fp_gint G.mostBase)) (fun _ => fp_gint G.pair) fun _ => fp_int) (show _ = PyData.int 1 from rfl)) (fp_name 4 rfl))) (w_isInteger (by simp; omega))))) rfl (fs_nil ⟨_, _, rfl⟩)
    · obtain ⟨s3, s4, rfl⟩ := hz
      have en : min ((reach : Int) + 1) (places : Int) = ((min (reach + 1) places : Nat) : Int) := by omega
      refine fs_cons (f1_setP 5 sc34.nd (d := .int ((min (reach + 1) places : Nat) : Int)) (fp_is (fp_min2 rfl B.min (fp_add (fp_name 2 rfl) fp_int) (fp_name 1 rfl)) (congrArg PyData.int en)) ?_)
      have hn : 1 ≤ min (reach + 1) places := by omega
      unfold bestF at h
      generalize min (reach + 1) places = need at *
      refine fs_cons (f1_ifP (ft_le (fp_def D33 hr (by decide) hK (arg1 (fp_name 0 rfl)) fun π q k => ⟨b, rfl, b0, b1, k⟩) (fp_name 5 rfl)) (fun hle => ?_) fun hgt => fs_nil ?_)
      · have hle := of_decide_eq_true hle
        rw [if_pos (by omega)] at h
        exact fs_one (f1_retP (fp_tuple (arg2 (fp_gstr G.never) (fp_def D33 hr (by decide) hK (arg1 (fp_name 0 rfl)) fun π q k => ⟨b, rfl, b0, b1, k⟩))) h)
      · have hgt := of_decide_eq_false hgt
        rw [if_neg (by omega)] at h
        refine fs_one (f1_retP (fp_tuple (arg2 (fp_gstr G.weights) (fp_tupleL (ds := (bestW need places).map PyData.int) hK B.tuple (fp_is (fp_of rfl sc34.nd (blkOk_by (own := [("at", 6)]) (N := N34) (sc := defScope (st 34)) (by decide +kernel))
          (lcp_mapN 6 (List.range places) (fun i => .int ((i : Nat) : Int)) (fun i => .int ((i % need + 1 : Nat) : Int)) sc34.nd (fip_is (fip_range1 B.range (fp_name 1 rfl) (by omega) (by omega)) (by rw [Int.toNat_natCast, rng0])) (by rw [List.length_range]; omega) rfl fun x hx s H cc cl fp C' hk hp => ?_)) ?_)))) h)
        · refine fp_is (fp_add (fp_mod (fp_name 6 rfl) (fp_name 5 rfl) (by omega)) fp_int) ?_
          congr 1
        · unfold bestW
          rw [List.map_map]; rfl
end
end K08

set_option Elab.async false
set_option linter.all false
set_option maxRecDepth 100000
set_option maxHeartbeats 4000000
set_option autoImplicit false
namespace K08
open PySem PySem.Spec PyProof.Rows L2 DL
theorem dec_iff {p q : Prop} [Decidable p] [Decidable q] (h : p ↔ q) : decide p = decide q := decide_eq_decide.mpr h
def showsN (b need n : Nat) : Bool := decide (leastF b ≤ need) && ((decide (2 ≤ n) && decide (n ≤ need)) && decide (b % n = 0))
section
variable {P : Program} {w : World} {K : PySem.W.Frag} {mg : Str → Option Value} {base : Heap} {f : Addr} {fd : FuncData}
def WshowsBest : WF := fun ds π q => ∃ (b places reach : Nat) (v : PyData), ds = [.d (.int b), .d (.int places), .d (.int reach), .d v] ∧ Asked b places reach ∧
  ((∃ n : Nat, v = .tuple [.str "never", .int n] ∧ 1 ≤ n ∧ n ≤ 1000 ∧ q (.d (.bool (showsN b (min (reach + 1) places) n))) π) ∨
    ∃ ws : List Int, v = .tuple [.str "weights", encW ws] ∧ ws.length = places ∧ (∀ w ∈ ws, 0 ≤ w ∧ w ≤ (b : Int) - 1) ∧ q (.d (.bool (allW b ws && allX b ws reach))) π)
abbrev N35 : List Str := ["base", "places", "reach", "value", "due", "is_factor", "scheme"]
theorem sc35 : FnScope N35 ["base", "places", "reach", "value"] (defScope (st 35)) := ⟨rfl, rfl, rfl, by decide +kernel, rfl, by decide +kernel, by decide +kernel⟩
theorem ok35 (F : Fun K "shows_best" "shows_best" (st 35) f fd) (B : Blt mg) (G : Cst mg) (D1 : DisTuple P w K mg base) (D3 : DisInteger P w K mg base) (D21 : HasDef P w K mg base "is_scheme" 3 ["value"] WisScheme)
    (D29 : HasDef P w K mg base "finds_wrong" 5 ["scheme"] WfindsWrong) (D30 : HasDef P w K mg base "finds_exchanged" 5 ["scheme", "reach"] WfindsExch) (D34 : HasDef P w K mg base "best_weights" 3 ["base", "places", "reach"] WbestWeights) :
    FnOk P w K mg base CX0 6 f fd ["base", "places", "reach", "value"] (SpD K WshowsBest) := by
  refine ok_def F sc35 (fun ds π q h => ?_) (fun cdv A outer s H E ds π q C hr hK h => ?_)
  · obtain ⟨b, p, r, v, rfl, _⟩ := h; rfl
  · obtain ⟨b, places, reach, v, rfl, ok, h⟩ := h
    refine fs_cons (f1_setP 4 sc35.nd (fp_def D34 hr (by decide) hK (fpa_cons (fp_name 0 rfl) (arg2 (fp_name 1 rfl) (fp_name 2 rfl))) fun π q k => ⟨b, places, reach, rfl, ok, k⟩) ?_)
    obtain ⟨b0, b1, p0, p1, r0, r1⟩ := ok
    have en : min ((reach : Int) + 1) (places : Int) = ((min (reach + 1) places : Nat) : Int) := by omega
    rcases h with ⟨n, rfl, n1, n2, h⟩ | ⟨ws, rfl, hl, hall, h⟩
    · refine fs_if_no (ft_w (fw_or (q := false) (ft_not (p := true) (ft_val (fp_def D1 hr (by decide) hK (fpa_cons (fp_name 3 rfl) (arg2 (fp_gint G.pair) (fp_gint G.pair))) (w_isTuple (by simp))))) fun _ => fw_or1 (ft_not (p := true) (ft_val
        (fp_isi hK B.isinstance B.str (by decide +kernel) (fp_ixT (d := .str "never") hK (fp_name 3 rfl) fp_int rfl) rfl (by simp) (kit_self _ _)))))) rfl ?_
      refine fs_cons (f1_ifP (ft_eqS (fp_ixT (d := .str "never") hK (fp_name 3 rfl) fp_int rfl) (fp_gstr G.never)) (fun _ => ?_) fun hf => by simp at hf)
      refine fs_cons (f1_setP 5 sc35.nd (d := .bool (decide (2 ≤ n) && decide (n ≤ min (reach + 1) places))) (fp_def D3 hr (by decide) hK (fpa_cons (fp_ixT (d := .int n) hK (fp_name 3 rfl) fp_int rfl) (arg2 (fp_gint G.pair) (fp_min2 rfl B.min (fp_add (fp_name 2 rfl) fp_int) (fp_name 1 rfl)))) (w_isInteger ?_)) ?_)
      · rw [en, dec_iff (show (2 : Int) ≤ (n : Int) ↔ 2 ≤ n by omega), dec_iff (show (n : Int) ≤ ((min (reach + 1) places : Nat) : Int) ↔ n ≤ min (reach + 1) places by omega)]
      · have hz : (b : Int) % (n : Int) = ((b % n : Nat) : Int) := by omega
        unfold showsN at h
        refine fs_one (f1_retP (fp_is (fp_and (p := decide (leastF b ≤ min (reach + 1) places)) (q := (decide (2 ≤ n) && decide (n ≤ min (reach + 1) places)) && decide (b % n = 0)) ?_ fun _ => fp_and (fp_name 5 rfl) fun _ => fp_one (fp_is (fp_eqI (fp_mod (fp_name 0 rfl) (fp_ixT (d := .int n) hK (fp_name 3 rfl) fp_int rfl) (by omega)) fp_int) ?_)) rfl) h)
        · unfold bestF
          by_cases hle : leastF b ≤ min (reach + 1) places
          · rw [if_pos hle, decide_eq_true hle]
            exact fp_is (fp_eqS (fp_ixT (d := .str "never") hK (fp_name 4 rfl) fp_int rfl) (fp_gstr G.never)) rfl
          · rw [if_neg hle, decide_eq_false hle]
            exact fp_is (fp_eqS (fp_ixT (d := .str "weights") hK (fp_name 4 rfl) fp_int rfl) (fp_gstr G.never)) (congrArg PyData.bool (by decide +kernel))
        · rw [hz, dec_iff (show ((b % n : Nat) : Int) = 0 ↔ b % n = 0 by omega)]
    · have sok : SchOk b ws 0 := ⟨by omega, by omega, by omega, by omega, hall, by omega, by omega⟩
      refine fs_if_no (ft_w (fw_or (q := false) (ft_not (p := true) (ft_val (fp_def D1 hr (by decide) hK (fpa_cons (fp_name 3 rfl) (arg2 (fp_gint G.pair) (fp_gint G.pair))) (w_isTuple (by simp))))) fun _ => fw_or1 (ft_not (p := true) (ft_val
        (fp_isi hK B.isinstance B.str (by decide +kernel) (fp_ixT (d := .str "weights") hK (fp_name 3 rfl) fp_int rfl) rfl (by simp) (kit_self _ _)))))) rfl ?_
      refine fs_if_no (ft_eqS (fp_ixT (d := .str "weights") hK (fp_name 3 rfl) fp_int rfl) (fp_gstr G.never)) (by decide +kernel) ?_
      refine fs_cons (f1_setP 6 sc35.nd (d := encS b ws 0) (fp_tuple (xs := [.int b, encW ws, .int 0]) (fpa_cons (fp_name 0 rfl) (arg2 (fp_ixT (d := encW ws) hK (fp_name 3 rfl) fp_int rfl) fp_int))) ?_)
      refine fs_if_no (ft_w (fw_or (q := false) (fpt_is (ft_neS (fp_ixT (d := .str "weights") hK (fp_name 3 rfl) fp_int rfl) (fp_gstr G.weights)) (by decide +kernel : _ = false)) fun _ => fw_or (p := false) (q := false) (ft_not (p := true) (ft_val (fp_def D21 hr (by decide) hK (arg1 (fp_name 6 rfl)) fun π q k => ⟨b, ws, 0, rfl, sok, k⟩)))
        fun _ => fw_or1 (fpt_is (ft_neI (fp_lenT hK B.len (fp_ixT (d := encW ws) hK (fp_name 3 rfl) fp_int rfl)) (fp_name 1 rfl)) (by rw [List.length_map, hl]; simp)))) rfl ?_
      refine fs_one (f1_retP (fp_and (p := allW b ws) (q := allX b ws reach) (fp_is (fp_eqD hr hK (fp_def D29 hr (by decide) hK (arg1 (fp_name 6 rfl)) fun π q k => ⟨b, ws, 0, rfl, sok, k⟩) (fp_tuple (arg1 (fp_gstr G.all))) (wrongF_shaped b ws) shaped_all) (by rw [← wrongF_all]))
        fun _ => fp_one (fp_is (fp_eqD hr hK (fp_def D30 hr (by decide) hK (arg2 (fp_name 6 rfl) (fp_name 2 rfl)) fun π q k => ⟨b, ws, 0, reach, rfl, sok, r0, r1, k⟩) (fp_tuple (arg1 (fp_gstr G.all))) (exchF_shaped b ws reach) shaped_all) (by rw [← exchF_all]))) h)
end
end K08

set_option Elab.async false
set_option linter.all false
set_option maxRecDepth 100000
set_option maxHeartbeats 4000000
set_option autoImplicit false
namespace K08
open PySem PySem.Spec PyProof.Rows L2 DL
abbrev nD (d : Nat) : PyData := .int (d : Int)
abbrev encN (ds : List Nat) : PyData := .tuple (ds.map nD)
def joinF (a c : Nat) : Nat := if a < 5 then (a % 5 + c % 5) % 5 + (if 5 ≤ c then 5 else 0) else (a % 5 + (5 - c % 5)) % 5 + (if c < 5 then 5 else 0)
def perm : List Nat := [1, 5, 7, 6, 2, 8, 3, 0, 9, 4]
def permF (d : Nat) : Nat := perm.getD d 0
def iterP : Nat → Nat → Nat
  | 0, d => d
  | k + 1, d => permF (iterP k d)
def mixF (d t : Nat) : Nat := iterP (t % 8) d
def tenS (ds : List Nat) : Nat → Nat
  | 0 => 0
  | i + 1 => joinF (tenS ds i) (mixF (ds.getD i 0) i)
def tenR (ds : List Nat) : Bool := decide (tenS ds.reverse ds.length = 0)
structure TenOk (ds : List Nat) : Prop where
  l1 : 1 ≤ ds.length
  l2 : ds.length ≤ 16
  all : ∀ d ∈ ds, d < 10
theorem permF_lt (d : Nat) : permF d < 10 := by
  by_cases h : d < 10
  · match d, h with
    | 0, _ | 1, _ | 2, _ | 3, _ | 4, _ | 5, _ | 6, _ | 7, _ | 8, _ | 9, _ => decide
  · unfold permF perm
    rw [List.getD_eq_getElem?_getD, List.getElem?_eq_none (by simp; omega)]
    decide
theorem iterP_lt {d : Nat} (h : d < 10) : ∀ k, iterP k d < 10
  | 0 => h
  | k + 1 => permF_lt _
theorem mixF_lt {d : Nat} (h : d < 10) (t : Nat) : mixF d t < 10 := iterP_lt h _
theorem joinF_lt (a c : Nat) : joinF a c < 10 := by
  unfold joinF
  split <;> split <;> omega
theorem tenS_lt (ds : List Nat) : ∀ i, tenS ds i < 10
  | 0 => Nat.succ_pos _
  | i + 1 => joinF_lt _ _
theorem joinF_lo {a c : Nat} (ha : a < 5) : ((a : Int) % 5 + (c : Int) % 5) % 5 + 5 * (if decide ((5 : Int) ≤ (c : Int)) = true then 1 else 0) = ((joinF a c : Nat) : Int) := by
  unfold joinF
  rw [if_pos ha]
  by_cases h5 : 5 ≤ c
  · rw [if_pos h5, if_pos (decide_eq_true (show (5 : Int) ≤ (c : Int) by omega))]; omega
  · rw [if_neg h5, if_neg (by rw [decide_eq_false (show ¬ (5 : Int) ≤ (c : Int) by omega)]; exact Bool.false_ne_true)]; omega
theorem joinF_hi {a c : Nat} (ha : ¬ a < 5) : ((a : Int) % 5 - (c : Int) % 5) % 5 + 5 * (if decide ((c : Int) < (5 : Int)) = true then 1 else 0) = ((joinF a c : Nat) : Int) := by
  unfold joinF
  rw [if_neg ha]
  by_cases h5 : c < 5
  · rw [if_pos h5, if_pos (decide_eq_true (show (c : Int) < (5 : Int) by omega))]; omega
  · rw [if_neg h5, if_neg (by rw [decide_eq_false (show ¬ (c : Int) < (5 : Int) by omega)]; exact Bool.false_ne_true)]; omega
section
variable {P : Program} {w : World} {K : PySem.W.Frag} {mg : Str → Option Value} {base : Heap} {f : Addr} {fd : FuncData}
def Wjoined : WF := fun ds π q => ∃ (a c : Nat), ds = [.d (nD a), .d (nD c)] ∧ a < 10 ∧ c < 10 ∧ q (.d (nD (joinF a c))) π
abbrev N36 : List Str := ["one", "other", "digit", "mine", "its"]
theorem sc36 : FnScope N36 ["one", "other"] (defScope (st 36)) := ⟨rfl, rfl, rfl, by decide +kernel, rfl, by decide +kernel, by decide +kernel⟩
theorem ok36 (F : Fun K "joined" "joined" (st 36) f fd) (B : Blt mg) (G : Cst mg) (D3 : DisInteger P w K mg base) : FnOk P w K mg base CX0 3 f fd ["one", "other"] (SpD K Wjoined) := by
  refine ok_def F sc36 (fun ds π q h => ?_) (fun cdv A outer s H E ds π q C hr hK h => ?_)
  · obtain ⟨a, c, rfl, _⟩ := h; rfl
  · obtain ⟨a, c, rfl, ha, hc, h⟩ := h
    refine fs_if_no (ft_not (p := true) (ft_val ?_)) rfl ?_
    · refine fp_is (fp_all (bs := [a, c].map fun _ => true) hK rfl B.all (fp_is (fp_of rfl sc36.nd (blkOk_by (own := [("digit", 2)]) (N := N36) (sc := defScope (st 36)) (by decide +kernel))
        (lcp_mapN 2 [a, c] nD (fun _ => .bool true) sc36.nd (fip_is (fip_tup hK (fp_tuple (arg2 (fp_name 0 rfl) (fp_name 1 rfl)))) rfl) (by simp) rfl fun x hx s H cc cl fp C' hk hp => ?_)) (by simp))) (by rw [all_true])
      have hx : x = a ∨ x = c := by simpa using hx
      exact fp_def D3 hr (by decide) (hk.trans hK) (fpa_cons (fp_name 2 rfl) (arg2 fp_int (fp_sub (fp_gint G.ten) fp_int))) (w_isInteger (by simp; omega))
    · refine fs_cons (f1_parP (i := 3) (j := 4) rfl sc36.nd (by decide) (fp_mod (fp_name 0 rfl) (fp_gint G.five) (by decide)) (fp_mod (fp_name 1 rfl) (fp_gint G.five) (by decide)) ?_)
      refine fs_cons (f1_ifP (ft_lt (fp_name 0 rfl) (fp_gint G.five)) (fun hlt => ?_) fun hge => fs_nil ?_)
      · have hlt := of_decide_eq_true hlt
        refine fs_one (f1_retP (fp_is (fp_add (fp_mod (fp_add (fp_name 3 rfl) (fp_name 4 rfl)) (fp_gint G.five) (by decide)) (fp_mul (fp_gint G.five) (fp_intB B.int (fp_ge (fp_name 1 rfl) (fp_gint G.five))) (.inl ⟨by decide, by decide⟩))) ?_) h)
        exact congrArg PyData.int (joinF_lo (by omega))
      · have hge := of_decide_eq_false hge
        refine fs_one (f1_retP (fp_is (fp_add (fp_mod (fp_sub (fp_name 3 rfl) (fp_name 4 rfl)) (fp_gint G.five) (by decide)) (fp_mul (fp_gint G.five) (fp_intB B.int (fp_lt (fp_name 1 rfl) (fp_gint G.five))) (.inl ⟨by decide, by decide⟩))) ?_) h)
        exact congrArg PyData.int (joinF_hi (by omega))
def Wmixed : WF := fun ds π q => ∃ (d t : Nat), ds = [.d (nD d), .d (nD t)] ∧ d < 10 ∧ t ≤ 100 ∧ q (.d (nD (mixF d t))) π
theorem sc37 : FnScope ["digit", "times", "lap"] ["digit", "times"] (defScope (st 37)) := ⟨rfl, rfl, rfl, by decide +kernel, rfl, by decide +kernel, by decide +kernel⟩
theorem perm_at {d : Nat} (h : d < 10) : atI (perm.map nD) (d : Int) = some (nD (permF d)) := by
  match d, h with
  | 0, _ | 1, _ | 2, _ | 3, _ | 4, _ | 5, _ | 6, _ | 7, _ | 8, _ | 9, _ => rfl
theorem ok37 (F : Fun K "mixed" "mixed" (st 37) f fd) (B : Blt mg) : FnOk P w K mg base CX0 1 f fd ["digit", "times"] (SpD K Wmixed) := by
  refine ok_def F sc37 (fun ds π q h => ?_) (fun cdv A outer s H E ds π q C hr hK h => ?_)
  · obtain ⟨a, c, rfl, _⟩ := h; rfl
  · obtain ⟨d, t, rfl, hd, ht, h⟩ := h
    refine fs_cons (f1_forI [2] (t % 8) (fun i => .int (0 + (i : Nat))) (fun i z => ∃ s2, z = ⟨[si ((iterP i d : Nat) : Int), si (t : Int), s2], π⟩) PassesOwn.never rfl ?_ ⟨_, rfl⟩ (fun i hi z2 hz => ?_) fun z2 hz => ?_)
    · refine fip_is (fip_range1 B.range (fp_mod (fp_name 1 rfl) fp_int (by decide)) (by omega) (by omega)) ?_
      have : ((t : Int) % 8).toNat = t % 8 := by omega
      rw [this]; rfl
    · obtain ⟨s2, rfl⟩ := hz
      refine fg_name 2 sc37.nd rfl (.inl rfl) ?_ (by simp) (.inl rfl)
      refine fs_one (f1_setP 0 sc37.nd (fp_ixT hK (fp_is (fp_tuple (fpa_cons fp_int (fpa_cons fp_int (fpa_cons fp_int (fpa_cons fp_int (fpa_cons fp_int (fpa_cons fp_int (fpa_cons fp_int (fpa_cons fp_int (arg2 fp_int fp_int)))))))))) (show _ = PyData.tuple (perm.map nD) from rfl)) (fp_name 0 rfl) (perm_at (iterP_lt hd i))) ?_)
      exact ⟨_, rfl⟩
    · obtain ⟨s2, rfl⟩ := hz
      exact fs_one (f1_retP (fp_name 0 rfl) h)
end
end K08

set_option Elab.async false
set_option linter.all false
set_option maxRecDepth 100000
set_option maxHeartbeats 4000000
set_option autoImplicit false
namespace K08
open PySem PySem.Spec PyProof.Rows L2 DL
theorem placed_nats (ws : List Nat) : DL.placed (ws.map nD) = (List.range ws.length).map fun i => PyData.tuple [.int ((i : Nat) : Int), nD (ws.getD i 0)] := by
  unfold DL.placed
  refine List.ext_getElem? fun i => ?_
  rw [List.getElem?_map, List.getElem?_zipIdx, List.getElem?_map, List.getElem?_map]
  by_cases h : i < ws.length
  · have e : ws.getD i 0 = ws[i] := by rw [List.getD_eq_getElem?_getD, List.getElem?_eq_getElem h]; rfl
    rw [List.getElem?_range h, List.getElem?_eq_getElem h]
    simp only [Option.map_some, e, Nat.zero_add]
  · rw [List.getElem?_eq_none (by omega), List.getElem?_eq_none (by rw [List.length_range]; omega)]
    rfl
theorem getD_mem {α : Type} {xs : List α} {i : Nat} (h : i < xs.length) (d : α) : xs.getD i d ∈ xs := by
  rw [List.getD_eq_getElem?_getD, List.getElem?_eq_getElem h]
  exact List.getElem_mem h
theorem atI_head (x : PyData) (xs : List PyData) : atI (x :: xs) 0 = some x := by
  unfold atI ixN
  rw [if_pos (by decide), if_pos (by rw [List.length_cons]; omega)]
  rfl
section
variable {P : Program} {w : World} {K : PySem.W.Frag} {mg : Str → Option Value} {base : Heap} {f : Addr} {fd : FuncData}
def WckTen : WF := fun ds π q => ∃ (xs : List Nat), ds = [.d (encN xs)] ∧ TenOk xs ∧ q (.d .none) π
abbrev N39 : List Str := ["value", "one"]
theorem sc39 : FnScope N39 ["value"] (defScope (st 39)) := ⟨rfl, rfl, rfl, by decide +kernel, rfl, by decide +kernel, by decide +kernel⟩
theorem ok39 (F : Fun K "check_ten" "check_ten" (st 39) f fd) (B : Blt mg) (G : Cst mg) (D1 : DisTuple P w K mg base) (D3 : DisInteger P w K mg base) : FnOk P w K mg base CX0 3 f fd ["value"] (SpD K WckTen) := by
  refine ok_def F sc39 (fun ds π q h => ?_) (fun cdv A outer s H E ds π q C hr hK h => ?_)
  · obtain ⟨xs, rfl, _⟩ := h; rfl
  · obtain ⟨xs, rfl, ok, h⟩ := h
    obtain ⟨l1, l2, all⟩ := ok
    refine fs_if_no (ft_w (fw_or (q := false) (ft_not (p := true) (ft_val (fp_def D1 hr (by decide) hK (fpa_cons (fp_name 0 rfl) (arg2 fp_int (fp_gint G.mostDigits))) (w_isTuple (by simp; omega))))) fun _ => fw_or1 (ft_not (p := true) (ft_val ?_)))) rfl (fs_nil h)
    refine fp_is (fp_all (bs := xs.map fun _ => true) hK rfl B.all (fp_is (fp_of rfl sc39.nd (blkOk_by (own := [("one", 1)]) (N := N39) (sc := defScope (st 39)) (by decide +kernel))
        (lcp_mapN 1 xs nD (fun _ => .bool true) sc39.nd (fip_tup hK (fp_name 0 rfl)) (by omega) rfl fun x hx s H cc cl fp C' hk hp => ?_)) (by simp))) (by rw [all_true])
    have hl := all x hx
    exact fp_def D3 hr (by decide) (hk.trans hK) (fpa_cons (fp_name 1 rfl) (arg2 fp_int (fp_sub (fp_gint G.ten) fp_int))) (w_isInteger (by simp; omega))
def WisTen : WF := fun ds π q => ∃ (xs : List Nat), ds = [.d (encN xs)] ∧ TenOk xs ∧ q (.d (.bool (tenR xs))) π
abbrev N38 : List Str := ["digits", "found", "place", "digit"]
theorem sc38 : FnScope N38 ["digits"] (defScope (st 38)) := ⟨rfl, rfl, rfl, by decide +kernel, rfl, by decide +kernel, by decide +kernel⟩
theorem ok38 (F : Fun K "is_ten_right" "is_ten_right" (st 38) f fd) (B : Blt mg) (D39 : HasDef P w K mg base "check_ten" 3 ["value"] WckTen) (D36 : HasDef P w K mg base "joined" 3 ["one", "other"] Wjoined) (D37 : HasDef P w K mg base "mixed" 1 ["digit", "times"] Wmixed) :
    FnOk P w K mg base CX0 4 f fd ["digits"] (SpD K WisTen) := by
  refine ok_def F sc38 (fun ds π q h => ?_) (fun cdv A outer s H E ds π q C hr hK h => ?_)
  · obtain ⟨xs, rfl, _⟩ := h; rfl
  · obtain ⟨xs, rfl, ok, h⟩ := h
    refine fs_cons (f1_expr (fe_fp (fp_def D39 hr (by decide) hK (arg1 (fp_name 0 rfl)) fun π q k => ⟨xs, rfl, ok, k⟩) ?_))
    obtain ⟨l1, l2, all⟩ := ok
    refine fs_cons (f1_setP 1 sc38.nd fp_int ?_)
    refine fs_cons (f1_forI [2, 3] xs.length (fun i => .tuple [.int ((i : Nat) : Int), nD (xs.reverse.getD i 0)]) (fun i z => ∃ s2 s3, z = ⟨[sd (encN xs), si ((tenS xs.reverse i : Nat) : Int), s2, s3], π⟩) PassesOwn.never rfl ?_ ⟨_, _, rfl⟩ (fun i hi z2 hz => ?_) fun z2 hz => ?_)
    · refine fip_is (fip_enumT hK B.enumerate (fp_revT hK (fp_name 0 rfl))) ?_
      rw [← List.map_reverse, placed_nats, List.length_reverse]
    · obtain ⟨s2, s3, rfl⟩ := hz
      refine fg_tup rfl hK (fgs_cons (fg_name 2 sc38.nd rfl (.inl rfl) (fgs_cons (fg_name 3 sc38.nd rfl (.inl rfl) (fgs_nil ?_) (by simp) (.inl rfl))) (by simp) (.inl rfl))) rfl rfl
      have hd : xs.reverse.getD i 0 < 10 := all _ (List.mem_reverse.mp (getD_mem (by rw [List.length_reverse]; exact hi) 0))
      refine fs_one (f1_setP 1 sc38.nd (fp_def D36 hr (by decide) hK (arg2 (fp_name 1 rfl) (fp_def D37 hr (by decide) hK (arg2 (fp_name 3 rfl) (fp_name 2 rfl)) fun π q k => ⟨xs.reverse.getD i 0, i, rfl, hd, by omega, k⟩)) fun π q k => ⟨tenS xs.reverse i, mixF (xs.reverse.getD i 0) i, rfl, tenS_lt _ _, mixF_lt hd i, k⟩) ?_)
      exact ⟨_, _, rfl⟩
    · obtain ⟨s2, s3, rfl⟩ := hz
      refine fs_one (f1_retP (fp_is (fp_eqI (fp_name 1 rfl) fp_int) ?_) h)
      unfold tenR
      exact congrArg PyData.bool (decide_eq_decide.mpr (by omega))
def WtenDigit : WF := fun ds π q => ∃ (xs : List Nat) (d : Nat) (rest : List Nat), ds = [.d (encN xs)] ∧ TenOk xs ∧ xs.length ≤ 15 ∧ (List.range 10).filter (fun d => tenR (xs ++ [d])) = d :: rest ∧ q (.d (nD d)) π
abbrev N40 : List Str := ["digits", "digit"]
theorem sc40 : FnScope N40 ["digits"] (defScope (st 40)) := ⟨rfl, rfl, rfl, by decide +kernel, rfl, by decide +kernel, by decide +kernel⟩
theorem ok40 (F : Fun K "ten_digit" "ten_digit" (st 40) f fd) (B : Blt mg) (G : Cst mg) (D39 : HasDef P w K mg base "check_ten" 3 ["value"] WckTen) (D38 : HasDef P w K mg base "is_ten_right" 4 ["digits"] WisTen) :
    FnOk P w K mg base CX0 5 f fd ["digits"] (SpD K WtenDigit) := by
  refine ok_def F sc40 (fun ds π q h => ?_) (fun cdv A outer s H E ds π q C hr hK h => ?_)
  · obtain ⟨xs, d, rest, rfl, _⟩ := h; rfl
  · obtain ⟨xs, d, rest, rfl, ok, hl, hf, h⟩ := h
    refine fs_cons (f1_expr (fe_fp (fp_def D39 hr (by decide) hK (arg1 (fp_name 0 rfl)) fun π q k => ⟨xs, rfl, ok, k⟩) ?_))
    obtain ⟨l1, l2, all⟩ := ok
    refine fs_if_no (fpt_is (ft_eqI (fp_lenT hK B.len (fp_name 0 rfl)) (fp_gint G.mostDigits)) (by rw [List.length_map]; exact decide_eq_false (by omega))) rfl ?_
    refine fs_one (f1_retP (fp_ixL (ds := (d :: rest).map nD) hK (fp_is (fp_of rfl sc40.nd (blkOk_by (own := [("digit", 1)]) (N := N40) (sc := defScope (st 40)) (by decide +kernel))
        (lcp_ifN 1 (List.range 10) nD (fun d => tenR (xs ++ [d])) nD sc40.nd (fip_is (fip_range1 B.range (fp_gint G.ten) (by decide) (by decide)) (rng0 10)) (by decide) rfl fun x hx s H cc cl fp C' hk hp => ⟨?_, fun _ => fp_name 1 rfl⟩)) ?_) fp_int (atI_head _ _)) h)
    · have hx := List.mem_range.mp hx
      refine ft_val (fp_def D38 hr (by decide) (hk.trans hK) (arg1 (fp_is (fp_tuple (fpa_starT (hk.trans hK) (fp_name 0 rfl) (arg1 (fp_name 1 rfl))) ?_) ?_)) fun π q k => ⟨xs ++ [x], rfl, ⟨by simp, by simp; omega, fun y hy => ?_⟩, k⟩)
      · simp; omega
      · simp
      · rcases List.mem_append.mp hy with hy | hy
        · exact all y hy
        · rw [List.mem_singleton.mp hy]; exact hx
    · rw [hf]
end
end K08

set_option Elab.async false
set_option linter.all false
set_option maxRecDepth 100000
set_option maxHeartbeats 4000000
set_option autoImplicit false
namespace K08
open PySem PySem.Spec PyProof.Rows L2 DL
section
variable {P : Program} {w : World} {K : PySem.W.Frag} {mg : Str → Option Value} {base : Heap} {f : Addr} {fd : FuncData}
def Wsum : WF := fun ds π q => ∃ (b : Int) (ws ls : List Int), ds = [.d (.int b), .d (encW ws), .d (encW ls)] ∧ 0 < b ∧ ws.length ≤ 16 ∧ (∀ x ∈ ws, 0 ≤ x ∧ x ≤ 40) ∧ q (.d (.int (dotW ws ls % b))) π
abbrev N44 : List Str := ["base", "weights", "label", "weight", "digit"]
theorem sc44 : FnScope N44 ["base", "weights", "label"] (defScope (st 44)) := ⟨rfl, rfl, rfl, by decide +kernel, rfl, by decide +kernel, by decide +kernel⟩
theorem ok44 (F : Fun K "_law_sum" "_law_sum" (st 44) f fd) (B : Blt mg) : FnOk P w K mg base CX0 1 f fd ["base", "weights", "label"] (SpD K Wsum) := by
  refine ok_def F sc44 (fun ds π q h => ?_) (fun cdv A outer s H E ds π q C hr hK h => ?_)
  · obtain ⟨b, ws, ls, rfl, _⟩ := h; rfl
  · obtain ⟨b, ws, ls, rfl, b0, l2, all, h⟩ := h
    refine fs_one (f1_retP (fp_mod (fp_intI B.int (fp_sum (ns := (ws.zip ls).map fun q => q.1 * q.2) hK rfl B.sum (fp_is (fp_of rfl sc44.nd (blkOk_by (own := [("weight", 3), ("digit", 4)]) (N := N44) (sc := defScope (st 44)) (by decide +kernel))
        (lcp_mapT 3 4 (ws.zip ls) (fun q => .int q.1) (fun q => .int q.2) (fun q => .int (q.1 * q.2)) rfl hK sc44.nd (fip_is (fip_zipT hK B.zip (fp_name 1 rfl) (fp_name 2 rfl)) (zip_ints ws ls)) ?_ rfl fun x hx s H cc cl fp C' hk hp => ?_)) ?_))) (fp_name 0 rfl) b0) ?_)
    · rw [List.length_zip]; omega
    · have h1 := all x.1 (List.of_mem_zip hx).1
      exact fp_mul (fp_name 3 rfl) (fp_name 4 rfl) (.inl ⟨by omega, by omega⟩)
    · rw [List.map_map]; rfl
    · rw [dotW_zip]; exact h
def Wput : WF := fun ds π q => ∃ (ls : List Int) (p : Nat) (d : Int), ds = [.d (encW ls), .d (.int p), .d (.int d)] ∧ p < ls.length ∧ ls.length ≤ 16 ∧ q (.d (encW (put ls p d))) π
theorem sc45 : FnScope ["label", "place", "digit"] ["label", "place", "digit"] (defScope (st 45)) := ⟨rfl, rfl, rfl, by decide +kernel, rfl, by decide +kernel, by decide +kernel⟩
theorem ok45 (F : Fun K "_law_put" "_law_put" (st 45) f fd) : FnOk P w K mg base CX0 1 f fd ["label", "place", "digit"] (SpD K Wput) := by
  refine ok_def F sc45 (fun ds π q h => ?_) (fun cdv A outer s H E ds π q C hr hK h => ?_)
  · obtain ⟨ls, p, d, rfl, _⟩ := h; rfl
  · obtain ⟨ls, p, d, rfl, hp, hl, h⟩ := h
    have e := put_ints ls p d
    have e2 := congrArg List.length e
    rw [List.length_map, put_len hp, List.length_append, List.length_cons] at e2
    refine fs_one (f1_retP (fp_is (fp_catT hK (fp_catT hK (fp_slT hK (fp_name 0 rfl) fo_none (fo_some (fp_name 1 rfl))) (fp_tuple (arg1 (fp_name 2 rfl))) ?_) (fp_slT hK (fp_name 0 rfl) (fo_some (fp_add (fp_name 1 rfl) fp_int)) fo_none) ?_) ?_) h)
    · rw [List.length_singleton]; omega
    · rw [List.length_append, List.length_singleton]; omega
    · show PyData.tuple _ = PyData.tuple ((put ls p d).map PyData.int)
      rw [e, List.append_assoc]; rfl
end
end K08

set_option Elab.async false
set_option linter.all false
set_option maxRecDepth 100000
set_option maxHeartbeats 4000000
set_option autoImplicit false
namespace K08
open PySem PySem.Spec PyProof.Rows L2 DL
theorem dotW_zero : ∀ (ws : List Int) (n : Nat), dotW ws (List.replicate n 0) = 0
  | [], _ => by cases ‹Nat› <;> rfl
  | w :: ws, 0 => rfl
  | w :: ws, n + 1 => by
    rw [List.replicate_succ]
    show w * 0 + dotW ws (List.replicate n 0) = 0
    rw [dotW_zero ws n, Int.mul_zero]; rfl
theorem put_succ (l : Int) (ls : List Int) (p : Nat) (d : Int) : put (l :: ls) (p + 1) d = l :: put ls p d := rfl
theorem dotW_put : ∀ (ws : List Int) (p : Nat) (d : Int), p < ws.length → dotW ws (put (List.replicate ws.length 0) p d) = ws.getD p 0 * d
  | w :: ws, 0, d, _ => by
    rw [List.length_cons, List.replicate_succ]
    show w * d + dotW ws (List.replicate ws.length 0) = w * d
    rw [dotW_zero]; omega
  | w :: ws, p + 1, d, h => by
    rw [List.length_cons, List.replicate_succ, put_succ]
    show w * 0 + dotW ws (put (List.replicate ws.length 0) p d) = ws.getD p 0 * d
    rw [dotW_put ws p d (by simpa using h)]; omega
theorem noughts_is (n : Nat) : (List.replicate n [PyData.int 0]).flatten = (List.replicate n (0 : Int)).map PyData.int := by
  induction n with
  | zero => rfl
  | succ n ih => rw [List.replicate_succ, List.replicate_succ, List.flatten_cons, ih]; rfl
abbrev Tri := Nat × Nat × Nat
def enc3 (t : Tri) : PyData := .tuple [.int (t.1 : Int), .int (t.2.1 : Int), .int (t.2.2 : Int)]
def goodW (b : Int) (ws : List Int) (p a c : Nat) : Bool := !decide ((a : Int) = (c : Int)) && decide (ws.getD p 0 * (a : Int) % b = ws.getD p 0 * (c : Int) % b)
def turnW (b : Int) (ws : List Int) (p a c : Nat) : List Tri := if goodW b ws p a c = true then [(p, a, c)] else []
def wrongL (b : Nat) (ws : List Int) : List Tri := (List.range ws.length).flatMap fun p => (List.range b).flatMap fun a => (List.range b).flatMap fun c => turnW b ws p a c
theorem flat_succ {α : Type} (f : Nat → List α) (i : Nat) : (List.range (i + 1)).flatMap f = (List.range i).flatMap f ++ f i := by
  rw [List.range_succ, List.flatMap_append, List.flatMap_singleton]
theorem flat_len {α : Type} (f : Nat → List α) (m : Nat) (h : ∀ i, (f i).length ≤ m) : ∀ n, ((List.range n).flatMap f).length ≤ n * m
  | 0 => by simp
  | n + 1 => by
    rw [flat_succ, List.length_append, Nat.succ_mul]
    have := flat_len f m h n
    have := h n
    omega
theorem turnW_len (b : Int) (ws : List Int) (p a c : Nat) : (turnW b ws p a c).length ≤ 1 := by
  unfold turnW
  split <;> simp
section
variable {P : Program} {w : World} {K : PySem.W.Frag} {mg : Str → Option Value} {base : Heap} {f : Addr} {fd : FuncData}
structure WOk (b : Nat) (ws : List Int) : Prop where
  b0 : 2 ≤ b
  b1 : b ≤ 12
  l1 : 1 ≤ ws.length
  l2 : ws.length ≤ 6
  all : ∀ x ∈ ws, 0 ≤ x ∧ x ≤ (b : Int) - 1
def Wwrong : WF := fun ds π q => ∃ (b : Nat) (ws : List Int), ds = [.d (.int b), .d (encW ws)] ∧ WOk b ws ∧ q (.d (.list ((wrongL b ws).map enc3))) π
abbrev N46 : List Str := ["base", "weights", "found", "noughts", "place", "one", "other", "sums", "digit"]
theorem sc46 : FnScope N46 ["base", "weights"] (defScope (st 46)) := ⟨rfl, rfl, rfl, by decide +kernel, rfl, by decide +kernel, by decide +kernel⟩
abbrev nought (ws : List Int) : List Int := List.replicate ws.length 0
theorem ok46 (F : Fun K "_law_wrong" "_law_wrong" (st 46) f fd) (B : Blt mg) (D44 : HasDef P w K mg base "_law_sum" 1 ["base", "weights", "label"] Wsum) (D45 : HasDef P w K mg base "_law_put" 1 ["label", "place", "digit"] Wput) :
    FnOk P w K mg base CX0 2 f fd ["base", "weights"] (SpD K Wwrong) := by
  refine ok_def F sc46 (fun ds π q h => ?_) (fun cdv A outer s H E ds π q C hr hK h => ?_)
  · obtain ⟨b, ws, rfl, _⟩ := h; rfl
  · obtain ⟨b, ws, rfl, ok, h⟩ := h
    obtain ⟨b0, b1, l1, l2, all⟩ := ok
    have hnl : (nought ws).length = ws.length := List.length_replicate
    refine fs_cons (f1_asgNV (i := 2) (j := 3) rfl sc46.nd (by decide) (fn_fl (fl_mono (flp_list fpa_nil) fun xs z1 ⟨e1, e2⟩ C' c1 c2 => ?_)))
    subst e1 e2
    refine fe_fp (d := encW (nought ws)) (fp_is (fp_repT (c1.trans hK) (fp_tuple (arg1 fp_int)) (fp_lenT (c1.trans hK) B.len (fp_name 1 rfl)) (by simp) (by omega) (by rw [List.length_map]; omega) (by simp)) (by rw [List.length_map, Int.toNat_natCast, noughts_is])) ⟨rfl, ?_⟩
    refine fs_cons (f1_forI [4] ws.length (fun i => .int ((i : Nat) : Int)) (fun i z => ∃ s4 s5 s6 s7, z = ⟨[si (b : Int), sd (encW ws), .ow (((List.range i).flatMap fun p => (List.range b).flatMap fun a => (List.range b).flatMap fun c => turnW b ws p a c).map enc3), sd (encW (nought ws)), s4, s5, s6, s7, .un], π⟩) PassesOwn.never rfl ?_ ⟨_, _, _, _, rfl⟩ (fun p hp z2 hz => ?_) fun z2 hz => ?_)
    · refine fip_is (fip_range1 B.range (fp_lenT hK B.len (fp_name 1 rfl)) (by rw [List.length_map]; omega) (by omega)) ?_
      rw [List.length_map, Int.toNat_natCast, rng0]
    · obtain ⟨s4, s5, s6, s7, rfl⟩ := hz
      refine fg_name 4 sc46.nd rfl (.inr rfl) ?_ (by simp) (.inl rfl)
      have k1 := flat_len (fun p => (List.range b).flatMap fun a => (List.range b).flatMap fun c => turnW b ws p a c) (12 * 12) (fun p => Nat.le_trans (flat_len _ 12 (fun a => Nat.le_trans (flat_len _ 1 (fun c => turnW_len _ _ _ _ _) b) (by omega)) b) (Nat.mul_le_mul_right 12 b1)) p
      rw [flat_succ]
      generalize ((List.range p).flatMap fun p => (List.range b).flatMap fun a => (List.range b).flatMap fun c => turnW b ws p a c) = acc at *
      refine fs_one (f1_forI [5] b (fun i => .int ((i : Nat) : Int)) (fun i z => ∃ s5 s6 s7, z = ⟨[si (b : Int), sd (encW ws), .ow ((acc ++ (List.range i).flatMap fun a => (List.range b).flatMap fun c => turnW b ws p a c).map enc3), sd (encW (nought ws)), si (p : Int), s5, s6, s7, .un], π⟩) PassesOwn.never rfl ?_ ⟨s5, s6, s7, by simp [List.set]⟩ (fun a ha z3 hz => ?_) fun z3 hz => ?_)
      · refine fip_is (fip_range1 B.range (fp_name 0 rfl) (by omega) (by omega)) ?_
        rw [Int.toNat_natCast, rng0]
      · obtain ⟨s5, s6, s7, rfl⟩ := hz
        refine fg_name 5 sc46.nd rfl (.inl rfl) ?_ (by simp) (.inl rfl)
        have k2 := flat_len (fun a => (List.range b).flatMap fun c => turnW b ws p a c) 12 (fun a => Nat.le_trans (flat_len _ 1 (fun c => turnW_len _ _ _ _ _) b) (by omega)) a
        rw [flat_succ]
        generalize ((List.range a).flatMap fun a => (List.range b).flatMap fun c => turnW b ws p a c) = acc2 at *
        refine fs_one (f1_forI [6] b (fun i => .int ((i : Nat) : Int)) (fun i z => ∃ s6 s7, z = ⟨[si (b : Int), sd (encW ws), .ow ((acc ++ (acc2 ++ (List.range i).flatMap fun c => turnW b ws p a c)).map enc3), sd (encW (nought ws)), si (p : Int), si (a : Int), s6, s7, .un], π⟩) PassesOwn.never rfl ?_ ⟨s6, s7, by simp [List.set]⟩ (fun c hc z4 hz => ?_) fun z4 hz => ?_)
        · refine fip_is (fip_range1 B.range (fp_name 0 rfl) (by omega) (by omega)) ?_
          rw [Int.toNat_natCast, rng0]
        · obtain ⟨s6, s7, rfl⟩ := hz
          refine fg_name 6 sc46.nd rfl (.inl rfl) ?_ (by simp) (.inl rfl)
          have k3 := flat_len (fun c => turnW b ws p a c) 1 (fun c => turnW_len _ _ _ _ _) c
          rw [flat_succ]
          generalize ((List.range c).flatMap fun c => turnW b ws p a c) = acc3 at *
          refine fs_cons (f1_setLcP 7 rfl sc46.nd (blkOk_by (own := [("digit", 8)]) (N := N46) (sc := defScope (st 46)) (by decide +kernel))
            (lcp_mapN 8 [a, c] nD (fun d => .int (ws.getD p 0 * (d : Int) % b)) sc46.nd (fip_is (fip_tup hK (fp_tuple (arg2 (fp_name 5 rfl) (fp_name 6 rfl)))) rfl) (by simp) rfl fun x hx s H cc cl fp C' hk hp' => ?_) ?_)
          · refine fp_is (fp_def D44 hr (by decide) (hk.trans hK) (fpa_cons (fp_name 0 rfl) (arg2 (fp_name 1 rfl) (fp_def D45 hr (by decide) (hk.trans hK) (fpa_cons (fp_name 3 rfl) (arg2 (fp_name 4 rfl) (fp_name 8 rfl))) fun π q k => ⟨nought ws, p, (x : Int), rfl, by omega, by omega, k⟩)))
              fun π q k => ⟨b, ws, put (nought ws) p (x : Int), rfl, by omega, by omega, fun y hy => by have := all y hy; omega, k⟩) ?_
            rw [dotW_put ws p _ hp]
          · refine fs_one (f1_extend 2 hK ⟨_, rfl⟩ (fl_mono (flp_if (p := goodW b ws p a c) (xs := [enc3 (p, a, c)]) (ys := []) (ft_w (fw_and (ft_neI (fp_name 5 rfl) (fp_name 6 rfl)) fun _ => fw_and1 (ft_eqI (fp_ixL (d := .int (ws.getD p 0 * (a : Int) % b)) hK (fp_name 7 rfl) fp_int rfl) (fp_ixL (d := .int (ws.getD p 0 * (c : Int) % b)) hK (fp_name 7 rfl) fp_int rfl))))
              (fun _ => flp_list (arg1 (fp_tuple (xs := [.int p, .int a, .int c]) (fpa_cons (fp_name 4 rfl) (arg2 (fp_name 5 rfl) (fp_name 6 rfl)))))) fun _ => flp_list fpa_nil) fun es z1 ⟨e1, e2⟩ => ?_))
            subst e1 e2
            refine ⟨_, rfl, ?_, si (c : Int), sd (.list ([a, c].map fun (d : Nat) => PyData.int (ws.getD p 0 * (d : Int) % b))), ?_⟩
            · have e1 : (if goodW b ws p a c = true then [enc3 (p, a, c)] else []).length ≤ 1 := by split <;> simp
              rw [List.length_map, List.length_append, List.length_append]
              have : p * (12 * 12) ≤ 6 * 144 := by omega
              have : a * 12 ≤ 144 := by omega
              omega
            · have e : (acc ++ (acc2 ++ acc3)).map enc3 ++ (if goodW b ws p a c = true then [enc3 (p, a, c)] else []) = (acc ++ (acc2 ++ (acc3 ++ turnW b ws p a c))).map enc3 := by
                have e2 : (turnW b ws p a c).map enc3 = if goodW b ws p a c = true then [enc3 (p, a, c)] else [] := by
                  unfold turnW
                  split <;> rfl
                rw [← e2]
                simp only [List.map_append, List.append_assoc]
              rw [← e]; rfl
        · obtain ⟨s6, s7, rfl⟩ := hz
          exact ⟨_, _, _, rfl⟩
      · obtain ⟨s5, s6, s7, rfl⟩ := hz
        exact ⟨_, _, _, _, rfl⟩
    · obtain ⟨s4, s5, s6, s7, rfl⟩ := hz
      refine fs_freeze 2 rfl ?_
      exact fs_one (f1_retP (fp_name 2 rfl) h)
end
end K08

set_option Elab.async false
set_option linter.all false
set_option maxRecDepth 100000
set_option maxHeartbeats 4000000
set_option autoImplicit false
namespace K08
open PySem PySem.Spec PyProof.Rows L2 DL
theorem dotW_put2 : ∀ (ws : List Int) (p s : Nat) (a c : Int), p < s → s < ws.length → dotW ws (put (put (List.replicate ws.length 0) p a) s c) = ws.getD p 0 * a + ws.getD s 0 * c
  | [], _, _, _, _, _, h => absurd h (by simp)
  | w :: ws, _, 0, _, _, h, _ => absurd h (by omega)
  | w :: ws, 0, s + 1, a, c, _, h => by
    rw [List.length_cons, List.replicate_succ]
    show dotW (w :: ws) (put (a :: List.replicate ws.length 0) (s + 1) c) = w * a + ws.getD s 0 * c
    rw [put_succ]
    show w * a + dotW ws (put (List.replicate ws.length 0) s c) = _
    rw [dotW_put ws s c (by simpa using h)]
  | w :: ws, p + 1, s + 1, a, c, h1, h => by
    rw [List.length_cons, List.replicate_succ, put_succ, put_succ]
    show w * 0 + dotW ws (put (put (List.replicate ws.length 0) p a) s c) = ws.getD p 0 * a + ws.getD s 0 * c
    rw [dotW_put2 ws p s a c (by omega) (by simpa using h)]; omega
abbrev Qua := Nat × Nat × Nat × Nat
def enc4 (t : Qua) : PyData := .tuple [.int (t.1 : Int), .int (t.2.1 : Int), .int (t.2.2.1 : Int), .int (t.2.2.2 : Int)]
def goodX (b : Int) (ws : List Int) (p s a c : Nat) : Bool := !decide ((a : Int) = (c : Int)) && decide ((ws.getD p 0 * (a : Int) + ws.getD s 0 * (c : Int)) % b = (ws.getD p 0 * (c : Int) + ws.getD s 0 * (a : Int)) % b)
def turnX (b : Int) (ws : List Int) (p s a c : Nat) : List Qua := if goodX b ws p s a c = true then [(p, s, a, c)] else []
def swapL (b : Nat) (ws : List Int) (reach : Nat) : List Qua := (List.range ws.length).flatMap fun p => (List.range (min (p + reach + 1) ws.length - (p + 1))).flatMap fun k => (List.range b).flatMap fun a => (List.range b).flatMap fun c => turnX b ws p (p + 1 + k) a c
theorem turnX_len (b : Int) (ws : List Int) (p s a c : Nat) : (turnX b ws p s a c).length ≤ 1 := by
  unfold turnX
  split <;> simp
section
variable {P : Program} {w : World} {K : PySem.W.Frag} {mg : Str → Option Value} {base : Heap} {f : Addr} {fd : FuncData}
def Wswapped : WF := fun ds π q => ∃ (b : Nat) (ws : List Int) (reach : Nat), ds = [.d (.int b), .d (encW ws), .d (.int reach)] ∧ WOk b ws ∧ reach ≤ 6 ∧ q (.d (.list ((swapL b ws reach).map enc4))) π
abbrev N47 : List Str := ["base", "weights", "reach", "found", "noughts", "place", "spot", "one", "other", "label", "far"]
theorem sc47 : FnScope N47 ["base", "weights", "reach"] (defScope (st 47)) := ⟨rfl, rfl, rfl, by decide +kernel, rfl, by decide +kernel, by decide +kernel⟩
theorem ok47 (F : Fun K "_law_swapped" "_law_swapped" (st 47) f fd) (B : Blt mg) (D44 : HasDef P w K mg base "_law_sum" 1 ["base", "weights", "label"] Wsum) (D45 : HasDef P w K mg base "_law_put" 1 ["label", "place", "digit"] Wput) :
    FnOk P w K mg base CX0 2 f fd ["base", "weights", "reach"] (SpD K Wswapped) := by
  refine ok_def F sc47 (fun ds π q h => ?_) (fun cdv A outer s H E ds π q C hr hK h => ?_)
  · obtain ⟨b, ws, r, rfl, _⟩ := h; rfl
  · obtain ⟨b, ws, reach, rfl, ok, hreach, h⟩ := h
    obtain ⟨b0, b1, l1, l2, all⟩ := ok
    have hnl : (nought ws).length = ws.length := List.length_replicate
    refine fs_cons (f1_parOV (i := 3) (j := 4) rfl sc47.nd (by decide) (fl_mono (flp_list fpa_nil) fun xs z1 ⟨e1, e2⟩ C' c1 c2 => ?_))
    subst e1 e2
    refine fe_fp (d := encW (nought ws)) (fp_is (fp_repT (c1.trans hK) (fp_tuple (arg1 fp_int)) (fp_lenT (c1.trans hK) B.len (fp_name 1 rfl)) (by simp) (by omega) (by rw [List.length_map]; omega) (by simp)) (by rw [List.length_map, Int.toNat_natCast, noughts_is])) ⟨rfl, rfl, ?_⟩
    refine fs_cons (f1_forI [5] ws.length (fun i => .int ((i : Nat) : Int)) (fun i z => ∃ s5 s6 s7 s8 s9 s10, z = ⟨[si (b : Int), sd (encW ws), si (reach : Int), .ow (((List.range i).flatMap fun p => (List.range (min (p + reach + 1) ws.length - (p + 1))).flatMap fun k => (List.range b).flatMap fun a => (List.range b).flatMap fun c => turnX b ws p (p + 1 + k) a c).map enc4), sd (encW (nought ws)), s5, s6, s7, s8, s9, s10], π⟩) PassesOwn.never rfl ?_ ⟨_, _, _, _, _, _, rfl⟩ (fun p hp z2 hz => ?_) fun z2 hz => ?_)
    · refine fip_is (fip_range1 B.range (fp_lenT hK B.len (fp_name 1 rfl)) (by rw [List.length_map]; omega) (by omega)) ?_
      rw [List.length_map, Int.toNat_natCast, rng0]
    · obtain ⟨s5, s6, s7, s8, s9, s10, rfl⟩ := hz
      refine fg_name 5 sc47.nd rfl (.inl rfl) ?_ (by simp) (.inl rfl)
      have k1 := flat_len (fun p => (List.range (min (p + reach + 1) ws.length - (p + 1))).flatMap fun k => (List.range b).flatMap fun a => (List.range b).flatMap fun c => turnX b ws p (p + 1 + k) a c) (6 * 144) (fun p => Nat.le_trans (flat_len _ 144 (fun k => Nat.le_trans (flat_len _ 12 (fun a => Nat.le_trans (flat_len _ 1 (fun c => turnX_len _ _ _ _ _ _) b) (by omega)) b) (by omega)) _) (Nat.mul_le_mul_right 144 (by omega))) p
      rw [flat_succ]
      generalize ((List.range p).flatMap fun p => (List.range (min (p + reach + 1) ws.length - (p + 1))).flatMap fun k => (List.range b).flatMap fun a => (List.range b).flatMap fun c => turnX b ws p (p + 1 + k) a c) = acc at *
      refine fs_one (f1_forI [6] (min (p + reach + 1) ws.length - (p + 1)) (fun k => .int ((p : Int) + 1 + (k : Nat))) (fun i z => ∃ s6 s7 s8 s9 s10, z = ⟨[si (b : Int), sd (encW ws), si (reach : Int), .ow ((acc ++ (List.range i).flatMap fun k => (List.range b).flatMap fun a => (List.range b).flatMap fun c => turnX b ws p (p + 1 + k) a c).map enc4), sd (encW (nought ws)), si (p : Int), s6, s7, s8, s9, s10], π⟩) PassesOwn.never rfl ?_ ⟨s6, s7, s8, s9, s10, by simp [List.set]⟩ (fun k hk z3 hz => ?_) fun z3 hz => ?_)
      · refine fip_is (fip_range2 B.range (fp_add (fp_name 5 rfl) fp_int) (fp_min2 rfl B.min (fp_add (fp_add (fp_name 5 rfl) (fp_name 2 rfl)) fp_int) (fp_lenT hK B.len (fp_name 1 rfl))) ?_) ?_
        · rw [List.length_map]; omega
        · rw [List.length_map]
          have : (min ((p : Int) + reach + 1) (ws.length : Int) - ((p : Int) + 1)).toNat = min (p + reach + 1) ws.length - (p + 1) := by omega
          rw [this]; rfl
      · obtain ⟨s6, s7, s8, s9, s10, rfl⟩ := hz
        refine fg_name 6 sc47.nd rfl (.inl rfl) ?_ (by simp) (.inl rfl)
        have es : (p : Int) + 1 + (k : Nat) = ((p + 1 + k : Nat) : Int) := by omega
        rw [es]
        have k2 := flat_len (fun k => (List.range b).flatMap fun a => (List.range b).flatMap fun c => turnX b ws p (p + 1 + k) a c) 144 (fun k => Nat.le_trans (flat_len _ 12 (fun a => Nat.le_trans (flat_len _ 1 (fun c => turnX_len _ _ _ _ _ _) b) (by omega)) b) (by omega)) k
        rw [flat_succ]
        generalize ((List.range k).flatMap fun k => (List.range b).flatMap fun a => (List.range b).flatMap fun c => turnX b ws p (p + 1 + k) a c) = acc2 at *
        generalize hsv : p + 1 + k = sv at *
        refine fs_one (f1_forI [7] b (fun i => .int ((i : Nat) : Int)) (fun i z => ∃ s7 s8 s9 s10, z = ⟨[si (b : Int), sd (encW ws), si (reach : Int), .ow ((acc ++ (acc2 ++ (List.range i).flatMap fun a => (List.range b).flatMap fun c => turnX b ws p sv a c)).map enc4), sd (encW (nought ws)), si (p : Int), si (sv : Int), s7, s8, s9, s10], π⟩) PassesOwn.never rfl ?_ ⟨s7, s8, s9, s10, by simp [List.set]⟩ (fun a ha z4 hz => ?_) fun z4 hz => ?_)
        · refine fip_is (fip_range1 B.range (fp_name 0 rfl) (by omega) (by omega)) ?_
          rw [Int.toNat_natCast, rng0]
        · obtain ⟨s7, s8, s9, s10, rfl⟩ := hz
          refine fg_name 7 sc47.nd rfl (.inl rfl) ?_ (by simp) (.inl rfl)
          have k3 := flat_len (fun a => (List.range b).flatMap fun c => turnX b ws p sv a c) 12 (fun a => Nat.le_trans (flat_len _ 1 (fun c => turnX_len _ _ _ _ _ _) b) (by omega)) a
          rw [flat_succ]
          generalize ((List.range a).flatMap fun a => (List.range b).flatMap fun c => turnX b ws p sv a c) = acc3 at *
          refine fs_one (f1_forI [8] b (fun i => .int ((i : Nat) : Int)) (fun i z => ∃ s8 s9 s10, z = ⟨[si (b : Int), sd (encW ws), si (reach : Int), .ow ((acc ++ (acc2 ++ (acc3 ++ (List.range i).flatMap fun c => turnX b ws p sv a c))).map enc4), sd (encW (nought ws)), si (p : Int), si (sv : Int), si (a : Int), s8, s9, s10], π⟩) PassesOwn.never rfl ?_ ⟨s8, s9, s10, by simp [List.set]⟩ (fun c hc z5 hz => ?_) fun z5 hz => ?_)
          · refine fip_is (fip_range1 B.range (fp_name 0 rfl) (by omega) (by omega)) ?_
            rw [Int.toNat_natCast, rng0]
          · obtain ⟨s8, s9, s10, rfl⟩ := hz
            refine fg_name 8 sc47.nd rfl (.inl rfl) ?_ (by simp) (.inl rfl)
            have k4 := flat_len (fun c => turnX b ws p sv a c) 1 (fun c => turnX_len _ _ _ _ _ _) c
            rw [flat_succ]
            generalize ((List.range c).flatMap fun c => turnX b ws p sv a c) = acc4 at *
            have hps : p < sv := by omega
            have hsn : sv < ws.length := by omega
            have hl1 : ∀ d : Int, (put (nought ws) p d).length = ws.length := fun d => by rw [put_len (by omega)]; exact hnl
            refine fs_cons (f1_setP 9 sc47.nd (d := encW (put (put (nought ws) p (a : Int)) sv (c : Int))) (fp_def D45 hr (by decide) hK (fpa_cons (fp_def D45 hr (by decide) hK (fpa_cons (fp_name 4 rfl) (arg2 (fp_name 5 rfl) (fp_name 7 rfl))) fun π q k => ⟨nought ws, p, (a : Int), rfl, by omega, by omega, k⟩) (arg2 (fp_name 6 rfl) (fp_name 8 rfl))) fun π q k => ⟨_, sv, (c : Int), rfl, by rw [hl1]; omega, by rw [hl1]; omega, k⟩) ?_)
            refine fs_cons (f1_setP 10 sc47.nd (d := encW (put (put (nought ws) p (c : Int)) sv (a : Int))) (fp_def D45 hr (by decide) hK (fpa_cons (fp_def D45 hr (by decide) hK (fpa_cons (fp_name 4 rfl) (arg2 (fp_name 5 rfl) (fp_name 8 rfl))) fun π q k => ⟨nought ws, p, (c : Int), rfl, by omega, by omega, k⟩) (arg2 (fp_name 6 rfl) (fp_name 7 rfl))) fun π q k => ⟨_, sv, (a : Int), rfl, by rw [hl1]; omega, by rw [hl1]; omega, k⟩) ?_)
            have hall : ∀ x ∈ ws, 0 ≤ x ∧ x ≤ 40 := fun y hy => by have := all y hy; omega
            have eturn : (turnX b ws p sv a c).map enc4 = if goodX b ws p sv a c = true then [enc4 (p, sv, a, c)] else [] := by
              unfold turnX
              split <;> rfl
            refine fs_one (f1_ifP (k := goodX b ws p sv a c) (ft_w (fw_and (ft_neI (fp_name 7 rfl) (fp_name 8 rfl)) fun _ => fw_and1 (ft_eqI
              (fp_is (fp_def D44 hr (by decide) hK (fpa_cons (fp_name 0 rfl) (arg2 (fp_name 1 rfl) (fp_name 9 rfl))) fun π q k => ⟨b, ws, _, rfl, by omega, by omega, hall, k⟩) (by rw [dotW_put2 ws p sv _ _ hps hsn]))
              (fp_is (fp_def D44 hr (by decide) hK (fpa_cons (fp_name 0 rfl) (arg2 (fp_name 1 rfl) (fp_name 10 rfl))) fun π q k => ⟨b, ws, _, rfl, by omega, by omega, hall, k⟩) (by rw [dotW_put2 ws p sv _ _ hps hsn]))))) (fun hg => ?_) fun hg => ?_)
            · rw [if_pos hg] at eturn
              refine fs_one (f1_append 3 hK ⟨_, rfl⟩ (fe_fp (d := enc4 (p, sv, a, c)) (fp_tuple (xs := [.int p, .int sv, .int a, .int c]) (fpa_cons (fp_name 5 rfl) (fpa_cons (fp_name 6 rfl) (arg2 (fp_name 7 rfl) (fp_name 8 rfl))))) ⟨_, _, rfl, rfl, ?_, si (c : Int), sd (encW (put (put (nought ws) p (a : Int)) sv (c : Int))), sd (encW (put (put (nought ws) p (c : Int)) sv (a : Int))), ?_⟩))
              · simp only [List.length_map, List.length_append]; omega
              · have e : (acc ++ (acc2 ++ (acc3 ++ acc4))).map enc4 ++ [enc4 (p, sv, a, c)] = (acc ++ (acc2 ++ (acc3 ++ (acc4 ++ turnX b ws p sv a c)))).map enc4 := by
                  rw [← eturn]
                  simp only [List.map_append, List.append_assoc]
                rw [← e]; rfl
            · rw [if_neg (by rw [hg]; exact Bool.false_ne_true)] at eturn
              have e0 : turnX b ws p sv a c = [] := List.map_eq_nil_iff.mp eturn
              rw [e0, List.append_nil]
              exact fs_nil ⟨_, _, _, rfl⟩
          · obtain ⟨s8, s9, s10, rfl⟩ := hz
            exact ⟨_, _, _, _, rfl⟩
        · obtain ⟨s7, s8, s9, s10, rfl⟩ := hz
          exact ⟨_, _, _, _, _, rfl⟩
      · obtain ⟨s6, s7, s8, s9, s10, rfl⟩ := hz
        exact ⟨_, _, _, _, _, _, rfl⟩
    · obtain ⟨s5, s6, s7, s8, s9, s10, rfl⟩ := hz
      refine fs_freeze 3 rfl ?_
      exact fs_one (f1_retP (fp_name 3 rfl) h)
end
end K08

set_option Elab.async false
set_option linter.all false
set_option maxRecDepth 100000
set_option maxHeartbeats 4000000
set_option autoImplicit false
namespace K08
open PySem PySem.Spec PyProof.Rows L2 DL
/-! ### plain facts: wrong digits -/
theorem mem_wrongL {b : Nat} {ws : List Int} {t : Tri} : t ∈ wrongL b ws ↔ t.1 < ws.length ∧ t.2.1 < b ∧ t.2.2 < b ∧ goodW b ws t.1 t.2.1 t.2.2 = true := by
  obtain ⟨p, a, c⟩ := t
  unfold wrongL
  simp only [List.mem_flatMap, List.mem_range]
  constructor
  · rintro ⟨p', hp, a', ha, c', hc, h⟩
    unfold turnW at h
    by_cases hg : goodW b ws p' a' c' = true
    · rw [if_pos hg] at h
      have h := List.mem_singleton.mp h
      cases h
      exact ⟨hp, ha, hc, hg⟩
    · rw [if_neg hg] at h
      cases h
  · rintro ⟨hp, ha, hc, hg⟩
    refine ⟨p, hp, a, ha, c, hc, ?_⟩
    unfold turnW
    rw [if_pos hg]
    exact List.mem_singleton.mpr rfl
def ltT (s t : Tri) : Prop := s.1 < t.1 ∨ (s.1 = t.1 ∧ (s.2.1 < t.2.1 ∨ (s.2.1 = t.2.1 ∧ s.2.2 < t.2.2)))
theorem wrongL_asc (b : Nat) (ws : List Int) : (wrongL b ws).Pairwise ltT := by
  unfold wrongL
  rw [List.pairwise_flatMap]
  refine ⟨fun p hp => ?_, List.pairwise_lt_range.imp fun {p q} hpq x hx y hy => ?_⟩
  · rw [List.pairwise_flatMap]
    refine ⟨fun a ha => ?_, List.pairwise_lt_range.imp fun {a a'} haa x hx y hy => ?_⟩
    · rw [List.pairwise_flatMap]
      refine ⟨fun c hc => ?_, List.pairwise_lt_range.imp fun {c c'} hcc x hx y hy => ?_⟩
      · unfold turnW
        split <;> simp
      · unfold turnW at hx hy
        split at hx <;> split at hy <;> simp at hx hy
        subst hx hy
        exact .inr ⟨rfl, .inr ⟨rfl, hcc⟩⟩
    · simp only [List.mem_flatMap] at hx hy
      obtain ⟨c, _, hx⟩ := hx
      obtain ⟨c', _, hy⟩ := hy
      unfold turnW at hx hy
      split at hx <;> split at hy <;> simp at hx hy
      subst hx hy
      exact .inr ⟨rfl, .inl haa⟩
  · simp only [List.mem_flatMap] at hx hy
    obtain ⟨a, _, c, _, hx⟩ := hx
    obtain ⟨a', _, c', _, hy⟩ := hy
    unfold turnW at hx hy
    split at hx <;> split at hy <;> simp at hx hy
    subst hx hy
    exact .inl hpq
end K08

set_option Elab.async false
set_option linter.all false
set_option maxRecDepth 100000
set_option maxHeartbeats 4000000
set_option autoImplicit false
namespace K08
open PySem PySem.Spec PyProof.Rows L2 DL
theorem gcd_gt {m b o : Nat} (ho : 0 < o) (hb : o < b) (h : b ∣ m * o) : 1 < Nat.gcd m b := by
  have hp : 0 < Nat.gcd m b := Nat.gcd_pos_of_pos_right _ (by omega)
  rcases Nat.lt_or_ge 1 (Nat.gcd m b) with q | q
  · exact q
  · have e : Nat.gcd m b = 1 := by omega
    have hc : Nat.Coprime b m := by rw [Nat.Coprime, Nat.gcd_comm]; exact e
    have hd : b ∣ o := hc.dvd_of_dvd_mul_left h
    have := Nat.le_of_dvd ho hd
    omega
theorem gcd_div {m b : Nat} : b ∣ m * (b / Nat.gcd m b) := by
  obtain ⟨k, hk⟩ := Nat.gcd_dvd_left m b
  have h2 := Nat.mul_div_cancel' (Nat.gcd_dvd_right m b)
  refine ⟨k, ?_⟩
  generalize Nat.gcd m b = g at *
  calc m * (b / g) = g * k * (b / g) := by rw [← hk]
    _ = g * (b / g) * k := by rw [Nat.mul_assoc, Nat.mul_comm k, Nat.mul_assoc]
    _ = b * k := by rw [h2]
theorem gcd_least {m b o : Nat} (hb : 0 < b) (ho : 0 < o) (h : b ∣ m * o) : b / Nat.gcd m b ≤ o := by
  have hp : 0 < Nat.gcd m b := Nat.gcd_pos_of_pos_right _ hb
  have hco : Nat.Coprime (m / Nat.gcd m b) (b / Nat.gcd m b) := Nat.coprime_div_gcd_div_gcd hp
  have e1 := Nat.mul_div_cancel' (Nat.gcd_dvd_left m b)
  have e2 := Nat.mul_div_cancel' (Nat.gcd_dvd_right m b)
  generalize Nat.gcd m b = g at *
  have h2 : g * (b / g) ∣ g * ((m / g) * o) := by rw [e2, ← Nat.mul_assoc, e1]; exact h
  have h3 : b / g ∣ (m / g) * o := Nat.dvd_of_mul_dvd_mul_left hp h2
  exact Nat.le_of_dvd ho (hco.symm.dvd_of_dvd_mul_left h3)
theorem nat_dvd {b : Nat} {x : Int} {o : Nat} : (b : Int) ∣ x * (o : Int) ↔ b ∣ x.natAbs * o := by
  rw [← Int.natAbs_dvd_natAbs, Int.natAbs_mul, Int.natAbs_natCast, Int.natAbs_natCast]
theorem toNat_abs {x : Int} (h : 0 ≤ x) : x.toNat = x.natAbs := by omega
/-- b and the digits a and c at a weight x -/
theorem good_iff {b : Nat} {x : Int} {a c : Nat} (hb : 0 < b) : (x * (a : Int) % (b : Int) = x * (c : Int) % (b : Int)) ↔ (b : Int) ∣ x * ((a : Int) - (c : Int)) := by
  rw [Int.emod_eq_emod_iff_emod_sub_eq_zero, ← Int.mul_sub]
  exact Int.dvd_iff_emod_eq_zero.symm
theorem good0 {b : Nat} {x : Int} {c : Nat} (hb : 0 < b) : (x * ((0 : Nat) : Int) % (b : Int) = x * (c : Int) % (b : Int)) ↔ b ∣ x.natAbs * c := by
  rw [good_iff hb, ← nat_dvd]
  have e : x * (((0 : Nat) : Int) - (c : Int)) = -(x * (c : Int)) := by
    rw [Int.ofNat_zero, Int.zero_sub, Int.mul_neg]
  rw [e, Int.dvd_neg]
end K08

set_option Elab.async false
set_option linter.all false
set_option maxRecDepth 100000
set_option maxHeartbeats 4000000
set_option autoImplicit false
namespace K08
open PySem PySem.Spec PyProof.Rows L2 DL
def laidF (n : Nat) : List Nat := if n < 5 then (List.range 5).map fun c => (c + n) % 5 else (List.range 5).map fun c => (5 - (c + n) % 5) % 5
inductive W_law_laid : WF
  | mk {π : Pot} {q : DV → Pot → Prop} (n : Nat) (hn : n < 10) (k : q (.d (.list ((laidF n).map nD))) π) : W_law_laid [.d (nD n)] π q
abbrev N_law_laid : List Str := ["number", "turned", "corner"]
theorem sc_law_laid : FnScope N_law_laid ["number"] (defScope (st 51)) := ⟨rfl, rfl, rfl, by decide +kernel, rfl, by decide +kernel, by decide +kernel⟩
section
variable {P : Program} {w : World} {K : PySem.W.Frag} {mg : Str → Option Value} {base : Heap} {f : Addr} {fd : FuncData}
abbrev D_law_laid (P : Program) (w : World) (K : PySem.W.Frag) (mg : Str → Option Value) (base : Heap) : Prop := HasDef P w K mg base "_law_laid" 1 ["number"] W_law_laid
theorem ok_law_laid (F : Fun K "_law_laid" "_law_laid" (st 51) f fd) (B : Blt mg) (G : Cst mg)  : FnOk P w K mg base CX0 1 f fd ["number"] (SpD K W_law_laid) := by
  refine ok_def F sc_law_laid (fun ds π q h => by cases h; rfl) (fun cdv A outer s H E ds π q C hr hK h => ?_)
  obtain ⟨n, hn, k⟩ := h
  refine fs_cons (f1_setLcP 1 rfl sc_law_laid.nd (blkOk_by (own := [("corner", 2)]) (N := N_law_laid) (sc := defScope (st 51)) (by decide +kernel)) (lcp_mapN 2 _ _  _ sc_law_laid.nd (fip_rangeN B.range fp_int (by first | with_reducible assumption | omega | (simp; done) | (simp; omega) | (simp at *; omega)) (by first | with_reducible assumption | omega | (simp; done) | (simp; omega) | (simp at *; omega))) (by first | omega | (simp; done) | (simp; omega)) rfl (fun v_corner m_corner s1 H1 cc1 cl1 fp1 C1 hk1 hp1 => (fp_mod (fp_intC B.int (fp_addC (hk1.trans hK) (fp_name 2 rfl) (fp_name 0 rfl) (by first | with_reducible trivial | (simp; done) | (simp; omega) | omega))) fp_int (by first | with_reducible assumption | omega | (simp; done) | (simp; omega) | (simp at *; omega))))) ?_)
  refine fs_one (f1_retP (fp_is (fp_if (ft_lt (fp_name 0 rfl) fp_int) (fun hi1 => (fp_name 1 rfl)) (fun hi1 => (fp_fl (flp_of rfl sc_law_laid.nd (blkOk_by (own := [("corner", 2)]) (N := N_law_laid) (sc := defScope (st 51)) (by decide +kernel)) (lcp_mapN 2 _ _  _ sc_law_laid.nd (fip_seqC hK (fp_name 1 rfl)) (by first | omega | (simp; done) | (simp; omega)) rfl (fun v_corner m_corner s1 H1 cc1 cl1 fp1 C1 hk1 hp1 => (fp_mod (fp_intC B.int (fp_neg (fp_name 2 rfl))) fp_int (by first | with_reducible assumption | omega | (simp; done) | (simp; omega) | (simp at *; omega))))))))) (show _ = (.list ((laidF n).map nD)) from ?_)) ?_)
  · match n, hn with
    | 0, _ | 1, _ | 2, _ | 3, _ | 4, _ | 5, _ | 6, _ | 7, _ | 8, _ | 9, _ => rfl
  · exact k
end
end K08

set_option Elab.async false
set_option linter.all false
set_option maxRecDepth 100000
set_option maxHeartbeats 4000000
set_option autoImplicit false
namespace K08
open PySem PySem.Spec PyProof.Rows L2 DL
theorem laid_len (n : Nat) : (laidF n).length = 5 := by unfold laidF; split <;> simp
theorem laid_lt {n v : Nat} (h : v ∈ laidF n) : v < 5 := by
  unfold laidF at h
  split at h <;> simp only [List.mem_map] at h <;> obtain ⟨c, _, e⟩ := h <;> omega
theorem then_eq : ∀ a, a < 10 → ∀ c, c < 10 → (List.range 10).filter (fun n => decide (laidF n = (laidF a).map fun v => (laidF c).getD v 0)) = [joinF a c] := by decide +kernel
inductive W_law_then : WF
  | mk {π : Pot} {q : DV → Pot → Prop} (a c : Nat) (ha : a < 10) (hc : c < 10) (k : q (.d (nD (joinF a c))) π) : W_law_then [.d (nD a), .d (nD c)] π q
abbrev N_law_then : List Str := ["one", "other", "here", "there", "both", "corner", "number"]
theorem sc_law_then : FnScope N_law_then ["one", "other"] (defScope (st 52)) := ⟨rfl, rfl, rfl, by decide +kernel, rfl, by decide +kernel, by decide +kernel⟩
section
variable {P : Program} {w : World} {K : PySem.W.Frag} {mg : Str → Option Value} {base : Heap} {f : Addr} {fd : FuncData}
abbrev D_law_then (P : Program) (w : World) (K : PySem.W.Frag) (mg : Str → Option Value) (base : Heap) : Prop := HasDef P w K mg base "_law_then" 2 ["one", "other"] W_law_then
theorem ok_law_then (F : Fun K "_law_then" "_law_then" (st 52) f fd) (B : Blt mg) (G : Cst mg) (D_law_laid : D_law_laid P w K mg base) : FnOk P w K mg base CX0 2 f fd ["one", "other"] (SpD K W_law_then) := by
  refine ok_def F sc_law_then (fun ds π q h => by cases h; rfl) (fun cdv A outer s H E ds π q C hr hK h => ?_)
  obtain ⟨a, c, ha, hc, k⟩ := h
  have hl1 := laid_len a
  have hl := laid_len c
  refine fs_cons (f1_asg [2, 3] (fe_fp (fp_tupG (fpa_cons (fp_def D_law_laid hr (by decide) hK (fpa_cons (fp_name 0 rfl) fpa_nil) (fun _ _ k => W_law_laid.mk _ (by first | with_reducible assumption | omega | (simp; done) | (simp; omega) | (simp at *; omega)) k)) (fpa_cons (fp_def D_law_laid hr (by decide) hK (fpa_cons (fp_name 1 rfl) fpa_nil) (fun _ _ k => W_law_laid.mk _ (by first | with_reducible assumption | omega | (simp; done) | (simp; omega) | (simp at *; omega)) k)) fpa_nil)) (by first | decide | (simp; done) | (simp; omega))) ⟨_, rfl, (fg_tup rfl hK (fgs_cons (fg_name 2 sc_law_then.nd rfl (by first | exact .inl rfl | exact .inr rfl) (fgs_cons (fg_name 3 sc_law_then.nd rfl (by first | exact .inl rfl | exact .inr rfl) (fgs_nil ?_) (by simp) (.inl rfl))) (by simp) (.inl rfl))) rfl rfl)⟩))
  refine fs_cons (f1_setP 4 sc_law_then.nd (fp_fl (flp_of rfl sc_law_then.nd (blkOk_by (own := [("corner", 5)]) (N := N_law_then) (sc := defScope (st 52)) (by decide +kernel)) (lcp_mapN 5 _ _  _ sc_law_then.nd (fip_seqC hK (fp_name 2 rfl)) (by first | omega | (simp; done) | (simp; omega)) rfl (fun v_corner m_corner s1 H1 cc1 cl1 fp1 C1 hk1 hp1 => have hv := laid_lt m_corner; (fp_ixC (hk1.trans hK) (fp_name 3 rfl) (fp_name 5 rfl) (by first | with_reducible trivial | with_reducible assumption | omega | (simp; done) | (simp; omega) | (simp at *; omega))))))) ?_)
  refine fs_one (f1_retP (fp_is (fp_ixC hK (fp_fl (flp_of rfl sc_law_then.nd (blkOk_by (own := [("number", 6)]) (N := N_law_then) (sc := defScope (st 52)) (by decide +kernel)) (lcp_ifN 6 _ _  _ _ sc_law_then.nd (fip_rangeN B.range fp_int (by first | with_reducible assumption | omega | (simp; done) | (simp; omega) | (simp at *; omega)) (by first | with_reducible assumption | omega | (simp; done) | (simp; omega) | (simp at *; omega))) (by first | omega | (simp; done) | (simp; omega)) rfl (fun v_number m_number s1 H1 cc1 cl1 fp1 C1 hk1 hp1 => have hv := List.mem_range.mp m_number; ⟨(ft_eqC hr (hk1.trans hK) (fp_def D_law_laid hr (by decide) (hk1.trans hK) (fpa_cons (fp_name 6 rfl) fpa_nil) (fun _ _ k => W_law_laid.mk _ (by first | with_reducible assumption | omega | (simp; done) | (simp; omega) | (simp at *; omega)) k)) (fp_name 4 rfl) (by first | with_reducible trivial | with_reducible assumption | (constructor <;> first | rfl | assumption | omega | simp))), fun ht1 => (fp_name 6 rfl)⟩)))) fp_int ?_) (show _ = (nD (joinF a c)) from ?_)) ?_)
  · show 0 ≤ (0 : Int) ∧ (0 : Int) < ((List.filter (fun n => decide (laidF n = (laidF a).map fun v => (laidF c).getD v 0)) (List.range 10)).length : Int)
    rw [then_eq a ha c hc]; exact ⟨Int.le_refl _, by simp⟩
  · show nI ((List.filter (fun n => decide (laidF n = (laidF a).map fun v => (laidF c).getD v 0)) (List.range 10)).getD 0 0) = _
    rw [then_eq a ha c hc]; rfl
  · exact k
end
theorem perm_table {d : Nat} (h : d < 10) : getD [((Sum.inl 0 : Key), PyData.int 1), (.inl 1, .int 5), (.inl 2, .int 7), (.inl 3, .int 6), (.inl 4, .int 2), (.inl 5, .int 8), (.inl 6, .int 3), (.inl 7, .int 0), (.inl 8, .int 9), (.inl 9, .int 4)] (.inl (d : Int)) = some (nD (permF d)) := by
  match d, h with
  | 0, _ | 1, _ | 2, _ | 3, _ | 4, _ | 5, _ | 6, _ | 7, _ | 8, _ | 9, _ => rfl
theorem iter_mod (d : Nat) (h : d < 10) : ∀ n, iterP n d = iterP (n % 8) d := by
  have h8 : ∀ d, d < 10 → iterP 8 d = d := by decide +kernel
  have add : ∀ m n d, iterP (m + n) d = iterP m (iterP n d) := fun m => by
    induction m with
    | zero => intro n d; rw [Nat.zero_add]; rfl
    | succ m ih => intro n d; rw [Nat.succ_add]; show permF (iterP (m + n) d) = _; rw [ih]; rfl
  intro n
  induction n using Nat.strongRecOn with
  | ind n ih =>
    by_cases hn : n < 8
    · rw [Nat.mod_eq_of_lt hn]
    · have e : n = (n - 8) + 8 := by omega
      rw [e, add, h8 d h, ih (n - 8) (by omega), Nat.add_mod_right]
abbrev table10 : List (Key × PyData) := [((Sum.inl 0 : Key), PyData.int 1), (.inl 1, .int 5), (.inl 2, .int 7), (.inl 3, .int 6), (.inl 4, .int 2), (.inl 5, .int 8), (.inl 6, .int 3), (.inl 7, .int 0), (.inl 8, .int 9), (.inl 9, .int 4)]
theorem merge10 : mergeD [] table10 = table10 := rfl
inductive W_law_ten_sum : WF
  | mk {π : Pot} {q : DV → Pot → Prop} (xs : List Nat) (hl : xs.length ≤ 16) (ha : ∀ d ∈ xs, d < 10) (k : q (.d (nD (tenS xs.reverse xs.length))) π) : W_law_ten_sum [.d (encN xs)] π q
abbrev N_law_ten_sum : List Str := ["digits", "table", "found", "behind", "digit", "here", "lap"]
theorem sc_law_ten_sum : FnScope N_law_ten_sum ["digits"] (defScope (st 53)) := ⟨rfl, rfl, rfl, by decide +kernel, rfl, by decide +kernel, by decide +kernel⟩
section
variable {P : Program} {w : World} {K : PySem.W.Frag} {mg : Str → Option Value} {base : Heap} {f : Addr} {fd : FuncData}
abbrev D_law_ten_sum (P : Program) (w : World) (K : PySem.W.Frag) (mg : Str → Option Value) (base : Heap) : Prop := HasDef P w K mg base "_law_ten_sum" 3 ["digits"] W_law_ten_sum
theorem ok_law_ten_sum (F : Fun K "_law_ten_sum" "_law_ten_sum" (st 53) f fd) (B : Blt mg) (G : Cst mg) (D_law_then : D_law_then P w K mg base) : FnOk P w K mg base CX0 3 f fd ["digits"] (SpD K W_law_ten_sum) := by
  refine ok_def F sc_law_ten_sum (fun ds π q h => by cases h; rfl) (fun cdv A outer s H E ds π q C hr hK h => ?_)
  obtain ⟨xs, hl, ha, k⟩ := h
  refine fs_cons (f1_parNV (i := 1) (j := 2) rfl sc_law_ten_sum.nd (by decide) (fn_disp (kd := table10) (.cons (fun C' c1 c2 => fp_int) (fun C' c1 c2 => fp_int) (.cons (fun C' c1 c2 => fp_int) (fun C' c1 c2 => fp_int) (.cons (fun C' c1 c2 => fp_int) (fun C' c1 c2 => fp_int) (.cons (fun C' c1 c2 => fp_int) (fun C' c1 c2 => fp_int) (.cons (fun C' c1 c2 => fp_int) (fun C' c1 c2 => fp_int) (.cons (fun C' c1 c2 => fp_int) (fun C' c1 c2 => fp_int) (.cons (fun C' c1 c2 => fp_int) (fun C' c1 c2 => fp_int) (.cons (fun C' c1 c2 => fp_int) (fun C' c1 c2 => fp_int) (.cons (fun C' c1 c2 => fp_int) (fun C' c1 c2 => fp_int) (.cons (fun C' c1 c2 => fp_int) (fun C' c1 c2 => fp_int) .nil)))))))))) (by simp) (by decide) fun C' c1 c2 => fe_fp fp_int ⟨rfl, rfl, ?_⟩))
  rw [merge10]
  refine fs_cons (f1_forP [3, 4] (xs.reverse.zipIdx) (fun q => .tuple [.int ((q.2 : Nat) : Int), nD q.1]) (fun pre z => ∃ s_behind s_digit s_here s_lap, z = ⟨[sd (encN xs), .og (.k table10), sd (nD (tenS xs.reverse pre.length)), s_behind, s_digit, s_here, s_lap], π⟩) PassesOwn.never rfl (fip_enumC hK B.enumerate (fp_revC hK (fp_name 0 rfl))) ?_ (fun pre x post hpre z2 hz => ?_) fun z2 hz => ?_)
  · exact ⟨_, _, _, _, rfl⟩
  · obtain ⟨s_behind, s_digit, s_here, s_lap, rfl⟩ := hz
    obtain ⟨e1, e2, e3⟩ := zipIdx_split hpre
    have hx : x.1 < 10 := ha _ (List.mem_reverse.mp (List.mem_of_getElem? e2))
    rw [List.length_reverse] at e3
    refine (fg_tup rfl hK (fgs_cons (fg_name 3 sc_law_ten_sum.nd rfl (by first | exact .inl rfl | exact .inr rfl) (fgs_cons (fg_name 4 sc_law_ten_sum.nd rfl (by first | exact .inl rfl | exact .inr rfl) (fgs_nil ?_) (by simp) (.inl rfl))) (by simp) (.inl rfl))) rfl rfl)
    refine fs_cons (f1_setP 5 sc_law_ten_sum.nd (fp_name 4 rfl) ?_)
    refine fs_cons (f1_forI [6] (x.2) (fun i => .int ((i : Nat) : Int)) (fun j z => ∃ s_lap, z = ⟨[sd (encN xs), .og (.k table10), sd (nD (tenS xs.reverse pre.length)), si (x.2 : Int), sd (nD x.1), sd (nD (iterP j x.1)), s_lap], π⟩) PassesOwn.never rfl (fip_is (fip_rangeN B.range (fp_name 3 rfl) (by first | with_reducible assumption | omega | (simp; done) | (simp; omega) | (simp at *; omega)) (by first | with_reducible assumption | omega | (simp; done) | (simp; omega) | (simp at *; omega))) (by first | rfl | (simp; done) | (simp; rfl))) ?_ (fun i hi z2 hz => ?_) fun z2 hz => ?_)
    · exact ⟨_, rfl⟩
    · obtain ⟨s_lap, rfl⟩ := hz
      refine (fg_name 6 sc_law_ten_sum.nd rfl (by first | exact .inl rfl | exact .inr rfl) ?_ (by simp) (.inl rfl))
      refine fs_one (f1_setP 5 sc_law_ten_sum.nd (fp_dgetR (key := .inl ((iterP i x.1 : Nat) : Int)) 1 hr rfl (fp_name 5 rfl) (perm_table (iterP_lt hx i))) ?_)
      exact ⟨_, rfl⟩
    · obtain ⟨s_lap, rfl⟩ := hz
      have h1 : tenS xs.reverse pre.length < 10 := tenS_lt _ _
      have h2 : iterP x.2 x.1 < 10 := iterP_lt hx _
      refine fs_one (f1_setP 2 sc_law_ten_sum.nd (fp_def D_law_then hr (by decide) hK (fpa_cons (fp_name 2 rfl) (fpa_cons (fp_name 5 rfl) fpa_nil)) (fun _ _ k => W_law_then.mk _ _ (by first | with_reducible assumption | omega | (simp; done) | (simp; omega) | (simp at *; omega)) (by first | with_reducible assumption | omega | (simp; done) | (simp; omega) | (simp at *; omega)) k)) ?_)
      have e : tenS xs.reverse (pre ++ [x]).length = joinF (tenS xs.reverse pre.length) (iterP x.2 x.1) := by
        rw [List.length_append, List.length_singleton]
        show joinF _ (mixF (xs.reverse.getD pre.length 0) pre.length) = _
        rw [getD_of e2, ← e1]
        unfold mixF
        rw [← iter_mod _ hx]
      refine ⟨si x.2, sd (nD x.1), sd (nD (iterP x.2 x.1)), s_lap, ?_⟩
      rw [e]; rfl
  · obtain ⟨s_behind, s_digit, s_here, s_lap, rfl⟩ := hz
    refine fs_one (f1_retP (fp_name 2 rfl) ?_)
    rw [List.length_zipIdx, List.length_reverse]
    exact k
end
end K08

set_option Elab.async false
set_option linter.all false
set_option maxRecDepth 100000
set_option maxHeartbeats 4000000
set_option autoImplicit false
namespace K08
open PySem PySem.Spec PyProof.Rows L2 DL
abbrev D_law_take (P : Program) (w : World) (K : PySem.W.Frag) (mg : Str → Option Value) (base : Heap) : Prop := HasDef P w K mg base "_law_take" 1 ["pot", "upto"] Wtake
abbrev D_joined (P : Program) (w : World) (K : PySem.W.Frag) (mg : Str → Option Value) (base : Heap) : Prop := HasDef P w K mg base "joined" 3 ["one", "other"] Wjoined
abbrev D_is_ten_right (P : Program) (w : World) (K : PySem.W.Frag) (mg : Str → Option Value) (base : Heap) : Prop := HasDef P w K mg base "is_ten_right" 4 ["digits"] WisTen
abbrev D_ten_digit (P : Program) (w : World) (K : PySem.W.Frag) (mg : Str → Option Value) (base : Heap) : Prop := HasDef P w K mg base "ten_digit" 5 ["digits"] WtenDigit
theorem take_map {α β : Type} (f : α → β) (xs : List α) (n : Nat) : (xs.map f).take n = (xs.take n).map f := List.map_take.symm
inductive W_law_put : WF
  | mk {π : Pot} {q : DV → Pot → Prop} (α : Type) (f : α → PyData) (ls : List α) (p : Nat) (x : α) (hl : ls.length ≤ 1000) (k : q (.d (.tuple ((ls.take p ++ x :: ls.drop (p + 1)).map f))) π) : W_law_put [.d (.tuple (ls.map f)), .d (.int p), .d (f x)] π q
abbrev N_law_put : List Str := ["label", "place", "digit"]
theorem sc_law_put : FnScope N_law_put ["label", "place", "digit"] (defScope (st 45)) := ⟨rfl, rfl, rfl, by decide +kernel, rfl, by decide +kernel, by decide +kernel⟩
section
variable {P : Program} {w : World} {K : PySem.W.Frag} {mg : Str → Option Value} {base : Heap} {f : Addr} {fd : FuncData}
abbrev D_law_put (P : Program) (w : World) (K : PySem.W.Frag) (mg : Str → Option Value) (base : Heap) : Prop := HasDef P w K mg base "_law_put" 1 ["label", "place", "digit"] W_law_put
theorem ok_law_put (F : Fun K "_law_put" "_law_put" (st 45) f fd) (B : Blt mg) (G : Cst mg)  : FnOk P w K mg base CX0 1 f fd ["label", "place", "digit"] (SpD K W_law_put) := by
  refine ok_def F sc_law_put (fun ds π q h => by cases h; rfl) (fun cdv A outer s H E ds π q C hr hK h => ?_)
  obtain ⟨α, f, ls, p, x, hl, k⟩ := h
  have h1 := List.length_take_le' p ls
  have h2 : (ls.drop (p + 1)).length ≤ ls.length := by rw [List.length_drop]; omega
  have e : ((p : Int) + 1).toNat = p + 1 := by omega
  have h3 : (ls.drop ((p : Int) + 1).toNat).length ≤ ls.length := by rw [e]; exact h2
  refine fs_one (f1_retP (fp_is (fp_addC hK (fp_addC hK (fp_slC hK (fp_name 0 rfl) fo_none (fo_some (fp_name 1 rfl)) (by first | with_reducible trivial | omega | (simp; done) | (simp; omega))) (fp_tupG (fpa_cons (fp_name 2 rfl) fpa_nil) (by first | decide | (simp; done) | (simp; omega))) (by first | with_reducible trivial | (simp; done) | (simp; omega) | omega)) (fp_slC hK (fp_name 0 rfl) (fo_some (fp_addC hK (fp_name 1 rfl) fp_int (by first | with_reducible trivial | (simp; done) | (simp; omega) | omega))) fo_none (by first | with_reducible trivial | omega | (simp; done) | (simp; omega))) (by first | with_reducible trivial | (simp; done) | (simp; omega) | omega)) (show _ = (.tuple ((ls.take p ++ x :: ls.drop (p + 1)).map f)) from ?_)) ?_)
  · rw [e]; simp
  · exact k
end
theorem ten_put {xs : List Nat} (ok : TenOk xs) (p : Nat) {d : Nat} (hd : d < 10) (h : p < xs.length) : TenOk (xs.take p ++ d :: xs.drop (p + 1)) := by
  refine ⟨by simp; omega, ?_, fun y hy => ?_⟩
  · have := ok.l2
    simp; omega
  · rcases List.mem_append.mp hy with h | h
    · exact ok.all y (List.mem_of_mem_take h)
    · rcases List.mem_cons.mp h with h | h
      · rw [h]; exact hd
      · exact ok.all y (List.mem_of_mem_drop h)
theorem join_zero : ∀ a, a < 10 → ∃ c, c < 10 ∧ joinF a c = 0 := by decide +kernel
/-- a row is right: all that the law asks of the digits -/
structure TenLaw : Prop where
  sum : ∀ xs : List Nat, TenOk xs → (tenR xs = decide (tenS xs.reverse xs.length = 0))
  digit : ∀ xs : List Nat, TenOk xs → xs.length ≤ 15 → ∃ d, d < 10 ∧ (List.range 10).filter (fun d => tenR (xs ++ [d])) = [d]
  one : ∀ (xs : List Nat) (p d : Nat), TenOk xs → p < xs.length → d < 10 → tenR xs = true → d ≠ xs.getD p 0 → tenR (xs.take p ++ d :: xs.drop (p + 1)) = false
  two : ∀ (xs ys : List Nat) (a b : Nat), TenOk (xs ++ a :: b :: ys) → a ≠ b → tenR (xs ++ a :: b :: ys) = true → tenR (xs ++ b :: a :: ys) = false
inductive W_law_are_ten_right : WF
  | mk {π : Pot} {q : DV → Pot → Prop} (n : Nat) (hp : PB π n) (hn : n < 900000) (law : TenLaw) (k : ∀ π', PB π' (n + 27) → q (.d (.bool true)) π') : W_law_are_ten_right [.pot] π q
abbrev N_law_are_ten_right : List Str := ["pot", "one", "other", "number", "digits", "place", "row", "digit", "at", "swapped"]
theorem sc_law_are_ten_right : FnScope N_law_are_ten_right ["pot"] (defScope (st 54)) := ⟨rfl, rfl, rfl, by decide +kernel, rfl, by decide +kernel, by decide +kernel⟩
section
variable {P : Program} {w : World} {K : PySem.W.Frag} {mg : Str → Option Value} {base : Heap} {f : Addr} {fd : FuncData}
abbrev D_law_are_ten_right (P : Program) (w : World) (K : PySem.W.Frag) (mg : Str → Option Value) (base : Heap) : Prop := HasDef P w K mg base "_law_are_ten_right" 6 ["pot"] W_law_are_ten_right
theorem ok_law_are_ten_right (F : Fun K "_law_are_ten_right" "_law_are_ten_right" (st 54) f fd) (B : Blt mg) (G : Cst mg) (D_law_take : D_law_take P w K mg base) (D_is_ten_right : D_is_ten_right P w K mg base) (D_law_ten_sum : D_law_ten_sum P w K mg base) (D_ten_digit : D_ten_digit P w K mg base) (D_joined : D_joined P w K mg base) (D_law_then : D_law_then P w K mg base) (D_law_put : D_law_put P w K mg base) : FnOk P w K mg base CX0 6 f fd ["pot"] (SpD K W_law_are_ten_right) := by
  refine ok_def F sc_law_are_ten_right (fun ds π q h => by cases h; rfl) (fun cdv A outer s H E ds π q C hr hK h => ?_)
  obtain ⟨n, hp, hn, law, k⟩ := h
  refine fs_cons (f1_forI [1] (10) (fun i => .int ((i : Nat) : Int)) (fun i z => ∃ (s_one : Sl) (s_other : Sl) (ρ : Pot), z = ⟨[sp, s_one, s_other, .un, .un, .un, .un, .un, .un, .un], ρ⟩ ∧ PB ρ (n + i)) PassesOwn.never rfl (fip_is (fip_rangeN B.range fp_int (by first | with_reducible assumption | omega | (simp; done) | (simp; omega) | (simp at *; omega)) (by first | with_reducible assumption | omega | (simp; done) | (simp; omega) | (simp at *; omega))) (by first | rfl | (simp; done) | (simp; rfl))) ?_ (fun i hi z2 hz => ?_) fun z2 hz => ?_)
  · exact ⟨_, _, π, rfl, hp⟩
  · obtain ⟨s_one, s_other, ρ, rfl, hρ⟩ := hz
    refine (fg_name 1 sc_law_are_ten_right.nd rfl (by first | exact .inl rfl | exact .inr rfl) ?_ (by simp) (.inl rfl))
    refine fs_cons (f1_set 2 sc_law_are_ten_right.nd rfl (by first | exact .inl rfl | exact .inr rfl) (fe_take 0 D_law_take hr (by decide) hK rfl fp_int (by first | with_reducible assumption | omega | (simp; done) | (simp; omega) | (simp at *; omega)) (by first | with_reducible assumption | omega | (simp; done) | (simp; omega) | (simp at *; omega)) ‹_› (by first | omega | (simp at *; omega)) (fun d1 π1 d1_0 d1_1 pb1 => ?_)))
    obtain ⟨o, rfl⟩ := Int.eq_ofNat_of_zero_le d1_0
    have ho : o < 10 := by omega
    refine fs_if_no (ft_w (fw_or (ft_neC hr hK (fp_def D_joined hr (by decide) hK (fpa_cons (fp_name 1 rfl) (fpa_cons (fp_name 2 rfl) fpa_nil)) (fun _ _ k => ⟨_, _, rfl, (by first | with_reducible assumption | omega | (simp; done) | (simp; omega) | (simp at *; omega)), (by first | with_reducible assumption | omega | (simp; done) | (simp; omega) | (simp at *; omega)), k⟩)) (fp_def D_law_then hr (by decide) hK (fpa_cons (fp_name 1 rfl) (fpa_cons (fp_name 2 rfl) fpa_nil)) (fun _ _ k => W_law_then.mk _ _ (by first | with_reducible assumption | omega | (simp; done) | (simp; omega) | (simp at *; omega)) (by first | with_reducible assumption | omega | (simp; done) | (simp; omega) | (simp at *; omega)) k)) (by first | with_reducible trivial | with_reducible assumption | (constructor <;> first | rfl | assumption | omega | simp))) fun hb1 => (fw_or1 (ft_notinC (room_units hr) hK fp_int (fp_fl (flp_of rfl sc_law_are_ten_right.nd (blkOk_by (own := [("number", 3)]) (N := N_law_are_ten_right) (sc := defScope (st 54)) (by decide +kernel)) (lcp_mapN 3 _ _  _ sc_law_are_ten_right.nd (fip_rangeN B.range fp_int (by first | with_reducible assumption | omega | (simp; done) | (simp; omega) | (simp at *; omega)) (by first | with_reducible assumption | omega | (simp; done) | (simp; omega) | (simp at *; omega))) (by first | omega | (simp; done) | (simp; omega)) rfl (fun v_number m_number s1 H1 cc1 cl1 fp1 C1 hk1 hp1 => have hv := List.mem_range.mp m_number; (fp_def D_joined hr (by decide) (hk1.trans hK) (fpa_cons (fp_name 1 rfl) (fpa_cons (fp_name 3 rfl) fpa_nil)) (fun _ _ k => ⟨_, _, rfl, (by first | with_reducible assumption | omega | (simp; done) | (simp; omega) | (simp at *; omega)), (by first | with_reducible assumption | omega | (simp; done) | (simp; omega) | (simp at *; omega)), k⟩)))))) (by first | with_reducible trivial | with_reducible assumption | (constructor <;> first | rfl | assumption | omega | simp)))))) ?_ ?_
    · obtain ⟨c, hc, e⟩ := join_zero i hi
      simp only [decide_true, Bool.not_true, Bool.false_or, Bool.not_eq_false', decide_eq_true_eq, List.mem_map, List.mem_range]
      exact ⟨c, by omega, by omega⟩
    · exact fs_nil ⟨_, _, _, rfl, pb1.mono (by omega)⟩
  · obtain ⟨s_one, s_other, ρ, rfl, hρ⟩ := hz
    refine fs_cons (f1_set 4 sc_law_are_ten_right.nd rfl (by first | exact .inl rfl | exact .inr rfl) (fe_tupleOf hK B.tuple (fe_fl (fl_lc rfl sc_law_are_ten_right.nd (blkOk_by (own := [("place", 5)]) (N := N_law_are_ten_right) (sc := defScope (st 54)) (by decide +kernel)) (fi_draw 5 (PyData.int) (fun v : Int => 0 ≤ v ∧ v < 10) 1 _ sc_law_are_ten_right.nd (fi_rangeN B.range (fe_addI (fe_fp fp_int ⟨_, rfl, (fe_take 0 D_law_take hr (by decide) hK rfl fp_int (by first | with_reducible assumption | omega | (simp; done) | (simp; omega) | (simp at *; omega)) (by first | with_reducible assumption | omega | (simp; done) | (simp; omega) | (simp at *; omega)) ‹_› (by first | omega | (simp at *; omega)) (fun d1 π1 d1_0 d1_1 pb1 => ⟨_, rfl, ⟨_, rfl, (by first | with_reducible assumption | omega | (simp; done) | (simp; omega) | (simp at *; omega)), (by first | with_reducible assumption | omega | (simp; done) | (simp; omega) | (simp at *; omega)), ⟨(by first | omega | (simp; done) | (simp; omega)), rfl, pb1, (fun v_place m_place k1 ρ1 kl1 pbk1 s1 H1 cc1 cl1 fp1 C1 hk1 hp1 => (fe_take 0 D_law_take hr (by decide) (hk1.trans hK) rfl fp_int (by first | with_reducible assumption | omega | (simp; done) | (simp; omega) | (simp at *; omega)) (by first | with_reducible assumption | omega | (simp; done) | (simp; omega) | (simp at *; omega)) pbk1 (by first | omega | (simp at *; omega)) (fun d2 π2 d2_0 d2_1 pb2 => ⟨_, rfl, rfl, (by first | with_reducible trivial | exact ⟨by omega, by omega⟩ | omega | with_reducible assumption), (PB.mono pb2 (by omega))⟩))), fun vs1 π10 vl1 va1 pbv1 => ⟨_, .inl rfl, ?_⟩⟩⟩⟩))⟩))))))))
    obtain ⟨xs, ex, hx⟩ := nats_of va1
    subst ex
    rw [nI_map]
    simp only [List.length_map, List.length_range] at vl1 pbv1
    have ok : TenOk xs := ⟨by omega, by omega, fun d hd => by have := hx d hd; omega⟩
    have hall := ok.all
    have hl2 := ok.l2
    refine fs_if_no (ft_neC hr hK (fp_def D_is_ten_right hr (by decide) hK (fpa_cons (fp_name 4 rfl) fpa_nil) (fun _ _ k => ⟨_, rfl, (by first | with_reducible assumption | omega | (simp; done) | (simp; omega) | (simp at *; omega)), k⟩)) (fp_eqC hr hK (fp_def D_law_ten_sum hr (by decide) hK (fpa_cons (fp_name 4 rfl) fpa_nil) (fun _ _ k => W_law_ten_sum.mk _ (by first | with_reducible assumption | omega | (simp; done) | (simp; omega) | (simp at *; omega)) (by first | with_reducible assumption | omega | (simp; done) | (simp; omega) | (simp at *; omega)) k)) fp_int (by first | with_reducible trivial | with_reducible assumption | (constructor <;> first | rfl | assumption | omega | simp))) (by first | with_reducible trivial | with_reducible assumption | (constructor <;> first | rfl | assumption | omega | simp))) ?_ ?_
    · rw [law.sum xs ok]
      simp only [Bool.not_eq_false', beq_iff_eq]
      exact decide_eq_decide.mpr (by omega)
    obtain ⟨d, hd, hf⟩ := law.digit xs ok (by omega)
    refine fs_cons (f1_setP 6 sc_law_are_ten_right.nd (d := encN (xs ++ [d])) (fp_is (fp_addC hK (fp_name 4 rfl) (fp_tupG (fpa_cons (fp_def D_ten_digit hr (by decide) hK (fpa_cons (fp_name 4 rfl) fpa_nil) (fun _ _ k => ⟨_, _, _, rfl, (by first | with_reducible assumption | omega | (simp; done) | (simp; omega) | (simp at *; omega)), (by first | with_reducible assumption | omega | (simp; done) | (simp; omega) | (simp at *; omega)), (by first | with_reducible assumption | omega | (simp; done) | (simp; omega) | (simp at *; omega)), k⟩)) fpa_nil) (by first | decide | (simp; done) | (simp; omega))) (by first | with_reducible trivial | (simp; done) | (simp; omega) | omega)) ?_) ?_)
    · simp
    have okr : TenOk (xs ++ [d]) := ⟨by simp, by simp; omega, fun y hy => by rcases List.mem_append.mp hy with h | h; exact hall y h; rw [List.mem_singleton.mp h]; exact hd⟩
    have hr0 : tenR (xs ++ [d]) = true := by
      have := List.mem_filter.mp (show d ∈ (List.range 10).filter (fun d => tenR (xs ++ [d])) by rw [hf]; simp)
      exact this.2
    have hlr : (xs ++ [d]).length ≤ 16 := by simp; omega
    have hlr0 : 0 < (xs ++ [d]).length := by simp
    generalize xs ++ [d] = row at *
    have hallr := okr.all
    refine fs_if_no (ft_w (fw_or (ft_not (ft_val (fp_def D_is_ten_right hr (by decide) hK (fpa_cons (fp_name 6 rfl) fpa_nil) (fun _ _ k => ⟨_, rfl, (by first | with_reducible assumption | omega | (simp; done) | (simp; omega) | (simp at *; omega)), k⟩)))) fun hb1 => (fw_or1 (ft_neC hr hK (fp_def D_law_ten_sum hr (by decide) hK (fpa_cons (fp_name 6 rfl) fpa_nil) (fun _ _ k => W_law_ten_sum.mk _ (by first | with_reducible assumption | omega | (simp; done) | (simp; omega) | (simp at *; omega)) (by first | with_reducible assumption | omega | (simp; done) | (simp; omega) | (simp at *; omega)) k)) fp_int (by first | with_reducible trivial | with_reducible assumption | (constructor <;> first | rfl | assumption | omega | simp)))))) ?_ ?_
    · rw [hr0]
      have h0 := of_decide_eq_true ((law.sum row okr).symm.trans hr0)
      rw [h0]; rfl
    refine fs_cons (f1_set 5 sc_law_are_ten_right.nd rfl (by first | exact .inl rfl | exact .inr rfl) (fe_take 0 D_law_take hr (by decide) hK rfl (fp_lenC hK B.len (fp_name 6 rfl)) (by first | with_reducible assumption | omega | (simp; done) | (simp; omega) | (simp at *; omega)) (by first | with_reducible assumption | omega | (simp; done) | (simp; omega) | (simp at *; omega)) pbv1 (by first | omega | (simp at *; omega)) (fun d1 π1 d1_0 d1_1 pb1 => ?_)))
    obtain ⟨p, rfl⟩ := Int.eq_ofNat_of_zero_le d1_0
    have hpl : p < row.length := by omega
    refine fs_if_no (ft_val (fp_anyC hK rfl B.any (fp_fl (flp_of rfl sc_law_are_ten_right.nd (blkOk_by (own := [("digit", 7)]) (N := N_law_are_ten_right) (sc := defScope (st 54)) (by decide +kernel)) (lcp_ifN 7 _ _  _ _ sc_law_are_ten_right.nd (fip_rangeN B.range fp_int (by first | with_reducible assumption | omega | (simp; done) | (simp; omega) | (simp at *; omega)) (by first | with_reducible assumption | omega | (simp; done) | (simp; omega) | (simp at *; omega))) (by first | omega | (simp; done) | (simp; omega)) rfl (fun v_digit m_digit s1 H1 cc1 cl1 fp1 C1 hk1 hp1 => have hv := List.mem_range.mp m_digit; have hok := ten_put okr p hv hpl; ⟨(ft_neC hr (hk1.trans hK) (fp_name 7 rfl) (fp_ixC (hk1.trans hK) (fp_name 6 rfl) (fp_name 5 rfl) (by first | with_reducible trivial | with_reducible assumption | omega | (simp; done) | (simp; omega) | (simp at *; omega))) (by first | with_reducible trivial | with_reducible assumption | (constructor <;> first | rfl | assumption | omega | simp))), fun ht1 => (fp_def D_is_ten_right hr (by decide) (hk1.trans hK) (fpa_cons (fp_def D_law_put hr (by decide) (hk1.trans hK) (fpa_cons (fp_name 6 rfl) (fpa_cons (fp_name 5 rfl) (fpa_cons (fp_name 7 rfl) fpa_nil))) (fun _ _ k => W_law_put.mk _ _ _ _ _ (by first | with_reducible assumption | omega | (simp; done) | (simp; omega) | (simp at *; omega)) k)) fpa_nil) (fun _ _ k => ⟨_, rfl, (by first | with_reducible assumption | omega | (simp; done) | (simp; omega) | (simp at *; omega)), k⟩))⟩)))))) ?_ ?_
    · rw [List.any_eq_false]
      intro v hv
      have hv := List.mem_filter.mp hv
      have hv1 : v < 10 := List.mem_range.mp hv.1
      have hv2 := hv.2
      rw [Bool.not_eq_true, law.one row p v okr hpl hv1 hr0 (fun e => by rw [e] at hv2; simp at hv2)]
    refine fs_cons (f1_forI [8] (row.length - 1) (fun i => .int ((i : Nat) : Int)) (fun i z => ∃ (s_at : Sl) (s_swapped : Sl) (ρ : Pot), z = ⟨[sp, s_one, s_other, .un, sd (encN xs), si (p : Int), sd (encN row), .un, s_at, s_swapped], ρ⟩ ∧ PB ρ (n + 27)) PassesOwn.never rfl (fip_is (fip_rangeN B.range (fp_sub (fp_lenC hK B.len (fp_name 6 rfl)) fp_int) (by first | with_reducible assumption | omega | (simp; done) | (simp; omega) | (simp at *; omega)) (by first | with_reducible assumption | omega | (simp; done) | (simp; omega) | (simp at *; omega))) (by rw [show ((row.length : Int) - 1).toNat = row.length - 1 by omega])) ?_ (fun i hi z2 hz => ?_) fun z2 hz => ?_)
    · exact ⟨_, _, π1, rfl, pb1.mono (by omega)⟩
    · obtain ⟨s_at, s_swapped, ρ, rfl, hρ⟩ := hz
      refine (fg_name 8 sc_law_are_ten_right.nd rfl (by first | exact .inl rfl | exact .inr rfl) ?_ (by simp) (.inl rfl))
      have e2 : ((i : Int) + 2).toNat = i + 2 := by omega
      have e1 : ((i : Int) + 1).toNat = i + 1 := by omega
      refine fs_cons (f1_setP 9 sc_law_are_ten_right.nd (d := encN (row.take i ++ row.getD (i + 1) 0 :: row.getD i 0 :: row.drop (i + 2))) (fp_is (fp_addC hK (fp_addC hK (fp_slC hK (fp_name 6 rfl) fo_none (fo_some (fp_name 8 rfl)) (by first | with_reducible trivial | omega | (simp; done) | (simp; omega))) (fp_tupG (fpa_cons (fp_ixC hK (fp_name 6 rfl) (fp_addC hK (fp_name 8 rfl) fp_int (by first | with_reducible trivial | (simp; done) | (simp; omega) | omega)) (by first | with_reducible trivial | with_reducible assumption | omega | (simp; done) | (simp; omega) | (simp at *; omega))) (fpa_cons (fp_ixC hK (fp_name 6 rfl) (fp_name 8 rfl) (by first | with_reducible trivial | with_reducible assumption | omega | (simp; done) | (simp; omega) | (simp at *; omega))) fpa_nil)) (by first | decide | (simp; done) | (simp; omega))) (by first | with_reducible trivial | (simp; done) | (simp; omega) | omega)) (fp_slC hK (fp_name 6 rfl) (fo_some (fp_addC hK (fp_name 8 rfl) fp_int (by first | with_reducible trivial | (simp; done) | (simp; omega) | omega))) fo_none (by first | with_reducible trivial | omega | (simp; done) | (simp; omega))) (by first | with_reducible trivial | (simp; done) | (simp; omega) | omega)) ?_) ?_)
      · rw [e1, e2]; simp
      have hs : row = row.take i ++ row.getD i 0 :: row.getD (i + 1) 0 :: row.drop (i + 2) := by
        conv => lhs; rw [← List.take_append_drop i row]
        congr 1
        rw [List.drop_eq_getElem_cons (by omega), List.drop_eq_getElem_cons (i := i + 1) (by omega), List.getD_eq_getElem?_getD, List.getD_eq_getElem?_getD, List.getElem?_eq_getElem (by omega), List.getElem?_eq_getElem (by omega)]
        rfl
      have oks : TenOk (row.take i ++ row.getD (i + 1) 0 :: row.getD i 0 :: row.drop (i + 2)) := by
        refine ⟨by simp; omega, ?_, fun y hy => ?_⟩
        · have := congrArg List.length hs
          simp at this ⊢; omega
        · refine okr.all y ?_
          rw [hs]
          simp only [List.mem_append, List.mem_cons] at hy ⊢
          rcases hy with h | h | h | h <;> simp [h]
      have hok : TenOk (row.take i ++ row.getD i 0 :: row.getD (i + 1) 0 :: row.drop (i + 2)) := hs ▸ okr
      have hro : tenR (row.take i ++ row.getD i 0 :: row.getD (i + 1) 0 :: row.drop (i + 2)) = true := hs ▸ hr0
      have hw := law.two (row.take i) (row.drop (i + 2)) (row.getD i 0) (row.getD (i + 1) 0) hok
      refine fs_if_no (ft_w (fw_and (ft_neC hr hK (fp_ixC hK (fp_name 6 rfl) (fp_name 8 rfl) (by first | with_reducible trivial | with_reducible assumption | omega | (simp; done) | (simp; omega) | (simp at *; omega))) (fp_ixC hK (fp_name 6 rfl) (fp_addC hK (fp_name 8 rfl) fp_int (by first | with_reducible trivial | (simp; done) | (simp; omega) | omega)) (by first | with_reducible trivial | with_reducible assumption | omega | (simp; done) | (simp; omega) | (simp at *; omega))) (by first | with_reducible trivial | with_reducible assumption | (constructor <;> first | rfl | assumption | omega | simp))) fun hb1 => (fw_and1 (ft_val (fp_def D_is_ten_right hr (by decide) hK (fpa_cons (fp_name 9 rfl) fpa_nil) (fun _ _ k => ⟨_, rfl, (by first | with_reducible assumption | omega | (simp; done) | (simp; omega) | (simp at *; omega)), k⟩)))))) ?_ ?_
      · rw [e1]
        by_cases hne : row.getD i 0 = row.getD (i + 1) 0
        · rw [hne]; simp
        · rw [hw hne hro, Bool.and_false]
      · exact fs_nil ⟨_, _, _, rfl, hρ⟩
    · obtain ⟨s_at, s_swapped, ρ, rfl, hρ⟩ := hz
      refine fs_one (f1_retP fp_bool ?_)
      exact k _ hρ
end
end K08

set_option Elab.async false
set_option linter.all false
set_option maxRecDepth 100000
set_option maxHeartbeats 4000000
set_option autoImplicit false
namespace K08
open PySem PySem.Spec PyProof.Rows L2 DL
def shB (b m : Nat) : Bool := decide (1 < Nat.gcd m b)
theorem any_factor {b m : Nat} (hb : 2 ≤ b) : ((List.range ((b : Int) + 1 - 2).toNat).any fun k => decide ((b : Int) % (2 + (k : Nat)) = 0) && decide ((m : Int) % (2 + (k : Nat)) = 0)) = shB b m := by
  unfold shB
  rw [Bool.eq_iff_iff, List.any_eq_true, decide_eq_true_iff]
  constructor
  · rintro ⟨k, hk, h⟩
    rw [Bool.and_eq_true, decide_eq_true_iff, decide_eq_true_iff] at h
    have h1 : (2 + k) ∣ b := Nat.dvd_of_mod_eq_zero (by exact_mod_cast h.1)
    have h2 : (2 + k) ∣ m := Nat.dvd_of_mod_eq_zero (by exact_mod_cast h.2)
    have h3 := Nat.dvd_gcd h2 h1
    have h4 : 0 < Nat.gcd m b := Nat.gcd_pos_of_pos_right _ (by omega)
    have := Nat.le_of_dvd h4 h3
    omega
  · intro h
    have h1 := Nat.gcd_dvd_left m b
    have h2 := Nat.gcd_dvd_right m b
    have h3 := Nat.le_of_dvd (by omega) h2
    generalize Nat.gcd m b = g at *
    refine ⟨g - 2, List.mem_range.mpr (by omega), ?_⟩
    have e : (2 + ((g - 2 : Nat) : Int)) = (g : Int) := by omega
    rw [e, Bool.and_eq_true, decide_eq_true_iff, decide_eq_true_iff]
    exact ⟨by exact_mod_cast Nat.mod_eq_zero_of_dvd h2, by exact_mod_cast Nat.mod_eq_zero_of_dvd h1⟩
/-- the numbers that the law looks at, at a place -/
def numsAt (ws : List Int) (reach p : Nat) : List Nat := (ws.getD p 0).toNat :: ((ws.take (p + reach + 1)).drop (p + 1)).map fun v => (ws.getD p 0 - v).natAbs
def findsF (b : Nat) (ws : List Int) (reach : Nat) : Bool := (List.range ws.length).all fun p => (numsAt ws reach p).all fun m => !shB b m
inductive W_law_finds : WF
  | mk {π : Pot} {q : DV → Pot → Prop} (b : Nat) (ws : List Int) (reach : Nat) (b0 : 2 ≤ b) (b1 : b ≤ 40) (l2 : ws.length ≤ 16) (hr6 : reach ≤ 6) (hw : ∀ x ∈ ws, 0 ≤ x) (k : q (.d (.bool (findsF b ws reach))) π) : W_law_finds [.d (.int b), .d (encW ws), .d (.int reach)] π q
abbrev N_law_finds : List Str := ["base", "weights", "reach", "place", "weight", "others", "one", "number", "factor"]
theorem sc_law_finds : FnScope N_law_finds ["base", "weights", "reach"] (defScope (st 49)) := ⟨rfl, rfl, rfl, by decide +kernel, rfl, by decide +kernel, by decide +kernel⟩
section
variable {P : Program} {w : World} {K : PySem.W.Frag} {mg : Str → Option Value} {base : Heap} {f : Addr} {fd : FuncData}
abbrev D_law_finds (P : Program) (w : World) (K : PySem.W.Frag) (mg : Str → Option Value) (base : Heap) : Prop := HasDef P w K mg base "_law_finds" 1 ["base", "weights", "reach"] W_law_finds
theorem ok_law_finds (F : Fun K "_law_finds" "_law_finds" (st 49) f fd) (B : Blt mg) (G : Cst mg)  : FnOk P w K mg base CX0 1 f fd ["base", "weights", "reach"] (SpD K W_law_finds) := by
  refine ok_def F sc_law_finds (fun ds π q h => by cases h; rfl) (fun cdv A outer s H E ds π q C hr hK h => ?_)
  obtain ⟨b, ws, reach, b0, b1, l2, hr6, hw, k⟩ := h
  refine fs_cons (f1_forP [3, 4] (ws.zipIdx) (fun q => .tuple [.int ((q.2 : Nat) : Int), .int q.1]) (fun pre z => (∀ p, p < pre.length → ((numsAt ws reach p).all fun m => !shB b m) = true) ∧ ∃ s_place s_weight s_others s_number, z = ⟨[sd (.int b), sd (encW ws), sd (.int reach), s_place, s_weight, s_others, .un, s_number, .un], π⟩) PassesOwn.never rfl (fip_enumC hK B.enumerate (fp_name 1 rfl)) ?_ (fun pre x post hpre z2 hz => ?_) fun z2 hz => ?_)
  · exact ⟨by simp, _, _, _, _, rfl⟩
  · obtain ⟨hno, hz⟩ := hz
    obtain ⟨s_place, s_weight, s_others, s_number, rfl⟩ := hz
    obtain ⟨e1, e2, e3⟩ := zipIdx_split hpre
    have ew : ws.getD pre.length 0 = x.1 := getD_of e2
    have hx0 : 0 ≤ x.1 := hw _ (List.mem_of_getElem? e2)
    refine (fg_tup rfl hK (fgs_cons (fg_name 3 sc_law_finds.nd rfl (by first | exact .inl rfl | exact .inr rfl) (fgs_cons (fg_name 4 sc_law_finds.nd rfl (by first | exact .inl rfl | exact .inr rfl) (fgs_nil ?_) (by simp) (.inl rfl))) (by simp) (.inl rfl))) rfl rfl)
    refine fs_cons (f1_setLcP 5 rfl sc_law_finds.nd (blkOk_by (own := [("one", 6)]) (N := N_law_finds) (sc := defScope (st 49)) (by decide +kernel)) (lcp_mapN 6 _ _  _ sc_law_finds.nd (fip_seqC hK (fp_slC hK (fp_name 1 rfl) (fo_some (fp_addC hK (fp_name 3 rfl) fp_int (by first | with_reducible trivial | (simp; done) | (simp; omega) | omega))) (fo_some (fp_addC hK (fp_addC hK (fp_name 3 rfl) (fp_name 2 rfl) (by first | with_reducible trivial | (simp; done) | (simp; omega) | omega)) fp_int (by first | with_reducible trivial | (simp; done) | (simp; omega) | omega))) (by first | with_reducible trivial | omega | (simp; done) | (simp; omega)))) (by first | omega | (simp; done) | (simp; omega)) rfl (fun v_one m_one s1 H1 cc1 cl1 fp1 C1 hk1 hp1 => (fp_abs B.abs (fp_sub (fp_name 4 rfl) (fp_name 6 rfl))))) ?_)
    have eo : (PyData.list (List.map (fun v => PyData.int (if x.1 - v < 0 then -(x.1 - v) else x.1 - v)) (List.drop ((x.2 : Int) + 1).toNat (List.take ((x.2 : Int) + (reach : Int) + 1).toNat ws)))) = .list ((numsAt ws reach x.2).tail.map nI) := by
      rw [show ((x.2 : Int) + 1).toNat = x.2 + 1 by omega, show ((x.2 : Int) + (reach : Int) + 1).toNat = x.2 + reach + 1 by omega]
      unfold numsAt
      rw [List.tail_cons, List.map_map]
      refine congrArg PyData.list (List.map_congr_left fun v _ => ?_)
      show PyData.int _ = PyData.int (((ws.getD x.2 0 - v).natAbs : Nat) : Int)
      rw [e1, ew]
      congr 1
      split <;> omega
    have en : numsAt ws reach x.2 = x.1.toNat :: (numsAt ws reach x.2).tail := by
      unfold numsAt; rw [e1, ew]; rfl
    have eall : (PyData.int x.1 :: (numsAt ws reach x.2).tail.map nI) = (numsAt ws reach x.2).map nI := by
      conv => rhs; rw [en, List.map_cons]
      congr 1
      show _ = PyData.int ((x.1.toNat : Nat) : Int)
      rw [Int.toNat_of_nonneg hx0]
    have elen : (numsAt ws reach x.2).tail.length ≤ 16 := by
      unfold numsAt; simp; omega
    have elen2 : (numsAt ws reach x.2).length ≤ 17 := by rw [en, List.length_cons]; omega
    rw [eo]
    refine fs_one (f1_forP [7] (numsAt ws reach x.2) (nI) (fun pre z => (∀ m ∈ pre, shB b m = false) ∧ ∃ s_number, z = ⟨[sd (.int b), sd (encW ws), sd (.int reach), si ((x.2 : Nat) : Int), si x.1, sd (.list ((numsAt ws reach x.2).tail.map nI)), .un, s_number, .un], π⟩) PassesOwn.never rfl (fip_is (fip_seqC hK (fp_fl (flp_catD hK (fp_listG (fpa_cons (fp_name 4 rfl) fpa_nil) (by first | decide | (simp; done) | (simp; omega))) (fp_name 5 rfl) (by first | (simp; done) | (simp; omega) | omega)))) (by exact eall)) ?_ (fun pre_m m post_m hpre_m z2 hz => ?_) fun z2 hz => ?_)
    · exact ⟨by simp, _, rfl⟩
    · obtain ⟨hn2, hz⟩ := hz
      obtain ⟨s_number, rfl⟩ := hz
      refine (fg_name 7 sc_law_finds.nd rfl (by first | exact .inl rfl | exact .inr rfl) ?_ (by simp) (.inl rfl))
      refine fs_one (f1_ifP (k := shB b m) (fpt_is (ft_val (fp_anyC hK rfl B.any (fp_fl (flp_of rfl sc_law_finds.nd (blkOk_by (own := [("factor", 8)]) (N := N_law_finds) (sc := defScope (st 49)) (by decide +kernel)) (lcp_mapN 8 _ _  _ sc_law_finds.nd (fip_range2 B.range fp_int (fp_addC hK (fp_name 0 rfl) fp_int (by first | with_reducible trivial | (simp; done) | (simp; omega) | omega)) ⟨by omega, by omega, by omega, by omega⟩) (by first | omega | (simp; done) | (simp; omega)) rfl (fun v_factor m_factor s1 H1 cc1 cl1 fp1 C1 hk1 hp1 => (fp_and (fp_eqC hr (hk1.trans hK) (fp_mod (fp_name 0 rfl) (fp_name 8 rfl) (by first | with_reducible assumption | omega | (simp; done) | (simp; omega) | (simp at *; omega))) fp_int (by first | with_reducible trivial | with_reducible assumption | (constructor <;> first | rfl | assumption | omega | simp))) fun hb1 => (fp_one (fp_eqC hr (hk1.trans hK) (fp_mod (fp_intC B.int (fp_name 7 rfl)) (fp_name 8 rfl) (by first | with_reducible assumption | omega | (simp; done) | (simp; omega) | (simp at *; omega))) fp_int (by first | with_reducible trivial | with_reducible assumption | (constructor <;> first | rfl | assumption | omega | simp))))))))))) (by exact any_factor b0)) (fun hc => ?_) (fun hc => ?_))
      · skip
        refine fs_one (f1_retP fp_bool ?_)
        have : findsF b ws reach = false := by
          unfold findsF
          rw [Bool.eq_false_iff]
          intro h
          have h1 := List.all_eq_true.mp h x.2 (List.mem_range.mpr (by omega))
          have h2 := List.all_eq_true.mp h1 m (split_mem hpre_m)
          rw [hc] at h2; cases h2
        rw [← this]
        exact k
      · refine fs_nil ⟨fun y hy => ?_, _, rfl⟩
        rcases List.mem_append.mp hy with hy | hy
        · exact hn2 y hy
        · rw [List.mem_singleton.mp hy]; exact hc
    · obtain ⟨hn2, hz⟩ := hz
      obtain ⟨s_number, rfl⟩ := hz
      refine ⟨fun p hp => ?_, _, _, _, _, rfl⟩
      by_cases hpe : p < pre.length
      · exact hno p hpe
      · have : p = x.2 := by rw [List.length_append, List.length_singleton] at hp; omega
        rw [this, List.all_eq_true]
        intro m hm
        rw [hn2 m hm]; rfl
  · obtain ⟨hno, hz⟩ := hz
    obtain ⟨s_place, s_weight, s_others, s_number, rfl⟩ := hz
    refine fs_one (f1_retP (fp_is fp_bool (show _ = .bool (findsF b ws reach) from ?_)) ?_)
    · have : findsF b ws reach = true := by
        unfold findsF
        rw [List.all_eq_true]
        intro p hp
        exact hno p (by rw [List.length_zipIdx]; exact List.mem_range.mp hp)
      rw [this]
    · exact k
end
end K08

set_option Elab.async false
set_option linter.all false
set_option maxRecDepth 100000
set_option maxHeartbeats 4000000
set_option autoImplicit false
namespace K08
open PySem PySem.Spec PyProof.Rows L2 DL
/-! ### plain facts: factors, best weights -/
theorem leastF_spec {b : Nat} (hb : 2 ≤ b) : 2 ≤ leastF b ∧ leastF b ≤ b ∧ b % leastF b = 0 ∧ ∀ j, 2 ≤ j → j < leastF b → ¬ b % j = 0 := by
  unfold leastF
  cases h : (List.range (b + 1)).find? (fun d => decide (2 ≤ d) && decide (b % d = 0)) with
  | none =>
    have := List.find?_eq_none.mp h b (List.mem_range.mpr (by omega))
    simp [hb] at this
  | some d =>
    rw [List.find?_range_eq_some] at h
    obtain ⟨h1, h2, h3⟩ := h
    simp only [Bool.and_eq_true, decide_eq_true_eq] at h1
    have h2 := List.mem_range.mp h2
    refine ⟨h1.1, by show d ≤ b; omega, h1.2, fun j hj hjd => ?_⟩
    have := h3 j hjd
    simp [hj] at this
    exact this
theorem first_factor {b : Nat} (hb : 2 ≤ b) : ∃ rest, (List.range ((b : Int) + 1 - 2).toNat).filter (fun k => decide ((b : Int) % (2 + (k : Nat)) = 0)) = (leastF b - 2) :: rest := by
  obtain ⟨h1, h2, h3, h4⟩ := leastF_spec hb
  have e : ((b : Int) + 1 - 2).toNat = (leastF b - 2) + ((b + 1 - leastF b - 1) + 1) := by omega
  rw [e, List.range_add, List.filter_append]
  have e1 : (List.range (leastF b - 2)).filter (fun k => decide ((b : Int) % (2 + (k : Nat)) = 0)) = [] := by
    rw [List.filter_eq_nil_iff]
    intro k hk
    have hk := List.mem_range.mp hk
    have := h4 (2 + k) (by omega) (by omega)
    simp only [decide_eq_true_eq]
    intro hc
    exact this (by exact_mod_cast hc)
  rw [e1, List.nil_append, List.range_succ_eq_map, List.map_cons, List.filter_cons, Nat.add_zero]
  have e2 : (2 + ((leastF b - 2 : Nat) : Int)) = (leastF b : Int) := by omega
  rw [e2, if_pos (by rw [decide_eq_true_iff]; exact_mod_cast h3)]
  exact ⟨_, rfl⟩
theorem sh_small {b m : Nat} (hb : 2 ≤ b) (h1 : 1 ≤ m) (h2 : m < leastF b) : shB b m = false := by
  unfold shB
  refine decide_eq_false fun h => ?_
  have g1 := Nat.gcd_dvd_left m b
  have g2 := Nat.gcd_dvd_right m b
  have g3 := Nat.le_of_dvd (by omega) g1
  exact (leastF_spec hb).2.2.2 _ (by omega) (by omega) (Nat.mod_eq_zero_of_dvd g2)
theorem mem_slice {ws : List Int} {i j : Nat} {v : Int} : v ∈ (ws.take j).drop i ↔ ∃ s, i ≤ s ∧ s < j ∧ s < ws.length ∧ v = ws.getD s 0 := by
  rw [List.mem_iff_getElem?]
  constructor
  · rintro ⟨k, hk⟩
    rw [List.getElem?_drop, List.getElem?_take] at hk
    split at hk
    · refine ⟨i + k, by omega, by omega, (List.getElem?_eq_some_iff.mp hk).1, (getD_of hk).symm⟩
    · cases hk
  · rintro ⟨s, h1, h2, h3, e⟩
    refine ⟨s - i, ?_⟩
    rw [List.getElem?_drop, List.getElem?_take, if_pos (by omega), e, show i + (s - i) = s by omega, List.getElem?_eq_getElem h3, List.getD_eq_getElem?_getD, List.getElem?_eq_getElem h3]
    rfl
theorem finds_all {b : Nat} {ws : List Int} {reach : Nat} (hw : ∀ x ∈ ws, 0 ≤ x) : findsF b ws reach = (allW b ws && allX b ws reach) := by
  rw [Bool.eq_iff_iff, Bool.and_eq_true]
  unfold findsF allW allX
  simp only [List.all_eq_true, List.mem_range]
  constructor
  · intro h
    refine ⟨fun p hp => ?_, fun p hp s hs => ?_⟩
    · have := h p hp (ws.getD p 0).toNat (by unfold numsAt; exact List.mem_cons_self)
      unfold badW; unfold shB at this
      rw [Int.toNat_natCast]
      exact this
    · unfold badX
      by_cases hc : p < s ∧ s ≤ p + reach
      · have := h p hp (difX ws p s) (by
          unfold numsAt
          refine List.mem_cons_of_mem _ (List.mem_map.mpr ⟨ws.getD s 0, mem_slice.mpr ⟨s, by omega, by omega, hs, rfl⟩, rfl⟩))
        unfold shB at this
        rw [Int.toNat_natCast]
        simp only [decide_eq_true hc.1, decide_eq_true hc.2, decide_eq_true hs, Bool.true_and]
        exact this
      · by_cases h1 : p < s
        · rw [decide_eq_false (fun q => hc ⟨h1, q⟩), Bool.and_false, Bool.false_and, Bool.false_and]; rfl
        · rw [decide_eq_false h1]; simp
  · rintro ⟨h1, h2⟩ p hp m hm
    unfold numsAt at hm
    rcases List.mem_cons.mp hm with e | hm
    · have := h1 p hp
      unfold badW at this
      rw [Int.toNat_natCast] at this
      unfold shB; rw [e]; exact this
    · obtain ⟨v, hv, e⟩ := List.mem_map.mp hm
      obtain ⟨s, s1, s2, s3, ev⟩ := mem_slice.mp hv
      have := h2 p hp s s3
      unfold badX at this
      rw [Int.toNat_natCast] at this
      simp only [decide_eq_true (show p < s by omega), decide_eq_true (show s ≤ p + reach by omega), decide_eq_true s3, Bool.true_and] at this
      unfold shB
      rw [← e, ev]; exact this
theorem bestW_getD {need places i : Nat} (h : i < places) : (bestW need places).getD i 0 = ((i % need + 1 : Nat) : Int) := by
  unfold bestW
  rw [List.getD_eq_getElem?_getD, List.getElem?_map, List.getElem?_range h]
  rfl
theorem bestW_len (need places : Nat) : (bestW need places).length = places := by unfold bestW; simp
theorem best_finds {b places reach : Nat} (hb : 2 ≤ b) (hp : 1 ≤ places) (h : min (reach + 1) places < leastF b) : findsF b (bestW (min (reach + 1) places) places) reach = true := by
  generalize hn : min (reach + 1) places = need at *
  have hn0 : 1 ≤ need := by omega
  unfold findsF
  rw [List.all_eq_true, bestW_len]
  intro p hpp
  have hpp := List.mem_range.mp hpp
  rw [List.all_eq_true]
  intro m hm
  unfold numsAt at hm
  have hmod : p % need < need := Nat.mod_lt _ (by omega)
  rcases List.mem_cons.mp hm with e | hm
  · rw [e, bestW_getD hpp, Int.toNat_natCast, sh_small hb (by omega) (by omega)]; rfl
  · obtain ⟨v, hv, e⟩ := List.mem_map.mp hm
    obtain ⟨s, s1, s2, s3, ev⟩ := mem_slice.mp hv
    rw [bestW_len] at s3
    have hmod2 : s % need < need := Nat.mod_lt _ (by omega)
    have hne : p % need ≠ s % need := by
      intro hq
      have h1 := Nat.div_add_mod p need
      have h2 := Nat.div_add_mod s need
      have h3 : s - p < need := by omega
      have h4 : need * (s / need) - need * (p / need) = s - p := by omega
      have h5 : need * (s / need - p / need) = s - p := by rw [Nat.mul_sub]; exact h4
      cases hq2 : s / need - p / need with
      | zero => rw [hq2] at h5; omega
      | succ t =>
        rw [hq2, Nat.mul_succ] at h5
        omega
    rw [← e, ev, bestW_getD hpp, bestW_getD s3, sh_small hb (by omega) (by omega)]; rfl
theorem bestW_range {b places reach : Nat} (hb : 2 ≤ b) (hp : 1 ≤ places) (h : min (reach + 1) places < leastF b) : ∀ w ∈ bestW (min (reach + 1) places) places, 0 ≤ w ∧ w ≤ (b : Int) - 1 := by
  intro w hw
  unfold bestW at hw
  obtain ⟨i, hi, e⟩ := List.mem_map.mp hw
  have h1 := (leastF_spec hb).2.1
  have h2 : i % min (reach + 1) places < min (reach + 1) places := Nat.mod_lt _ (by omega)
  omega
end K08

set_option Elab.async false
set_option linter.all false
set_option maxRecDepth 100000
set_option maxHeartbeats 4000000
set_option autoImplicit false
namespace K08
open PySem PySem.Spec PyProof.Rows L2 DL
abbrev D_best_weights (P : Program) (w : World) (K : PySem.W.Frag) (mg : Str → Option Value) (base : Heap) : Prop := HasDef P w K mg base "best_weights" 3 ["base", "places", "reach"] WbestWeights
abbrev D_shows_best (P : Program) (w : World) (K : PySem.W.Frag) (mg : Str → Option Value) (base : Heap) : Prop := HasDef P w K mg base "shows_best" 6 ["base", "places", "reach", "value"] WshowsBest
instance {b places reach : Nat} : Nb (bestF b places reach) 2 := by unfold bestF; infer_instance
inductive W_law_is_best_right : WF
  | mk {π : Pot} {q : DV → Pot → Prop} (n : Nat) (hp : PB π n) (hn : n < 900000) (k : ∀ π', PB π' (n + 20) → q (.d (.bool true)) π') : W_law_is_best_right [.pot] π q
abbrev N_law_is_best_right : List Str := ["pot", "base", "places", "reach", "need", "factor", "one", "told", "at", "drawn", "place", "number", "so"]
theorem sc_law_is_best_right : FnScope N_law_is_best_right ["pot"] (defScope (st 50)) := ⟨rfl, rfl, rfl, by decide +kernel, rfl, by decide +kernel, by decide +kernel⟩
section
variable {P : Program} {w : World} {K : PySem.W.Frag} {mg : Str → Option Value} {base : Heap} {f : Addr} {fd : FuncData}
abbrev D_law_is_best_right (P : Program) (w : World) (K : PySem.W.Frag) (mg : Str → Option Value) (base : Heap) : Prop := HasDef P w K mg base "_law_is_best_right" 7 ["pot"] W_law_is_best_right
theorem ok_law_is_best_right (F : Fun K "_law_is_best_right" "_law_is_best_right" (st 50) f fd) (B : Blt mg) (G : Cst mg) (D_best_weights : D_best_weights P w K mg base) (D_shows_best : D_shows_best P w K mg base) (D_law_finds : D_law_finds P w K mg base) (D_law_take : D_law_take P w K mg base) : FnOk P w K mg base CX0 7 f fd ["pot"] (SpD K W_law_is_best_right) := by
  refine ok_def F sc_law_is_best_right (fun ds π q h => by cases h; rfl) (fun cdv A outer s H E ds π q C hr hK h => ?_)
  obtain ⟨n, hp, hn, k⟩ := h
  refine fs_cons (f1_asg [1, 2, 3] (fe_tuple (fa_consE (fe_addI (fe_fp fp_int ⟨_, rfl, (fe_take 0 D_law_take hr (by decide) hK rfl fp_int (by first | with_reducible assumption | omega | (simp; done) | (simp; omega) | (simp at *; omega)) (by first | with_reducible assumption | omega | (simp; done) | (simp; omega) | (simp at *; omega)) hp (by first | omega | (simp at *; omega)) (fun d1 π1 d1_0 d1_1 pb1 => ⟨_, rfl, (fa_consE (fe_addI (fe_fp fp_int ⟨_, rfl, (fe_take 0 D_law_take hr (by decide) hK rfl fp_int (by first | with_reducible assumption | omega | (simp; done) | (simp; omega) | (simp at *; omega)) (by first | with_reducible assumption | omega | (simp; done) | (simp; omega) | (simp at *; omega)) pb1 (by first | omega | (simp at *; omega)) (fun d2 π2 d2_0 d2_1 pb2 => ⟨_, rfl, (fa_consE (fe_addI (fe_fp fp_int ⟨_, rfl, (fe_take 0 D_law_take hr (by decide) hK rfl fp_int (by first | with_reducible assumption | omega | (simp; done) | (simp; omega) | (simp at *; omega)) (by first | with_reducible assumption | omega | (simp; done) | (simp; omega) | (simp at *; omega)) pb2 (by first | omega | (simp at *; omega)) (fun d3 π3 d3_0 d3_1 pb3 => ⟨_, rfl, (fa_nil ⟨[_, _, _], rfl, (by rw [sizeLine_eq]; simp), ⟨_, rfl, (fg_tup rfl hK (fgs_cons (fg_name 1 sc_law_is_best_right.nd rfl (by first | exact .inl rfl | exact .inr rfl) (fgs_cons (fg_name 2 sc_law_is_best_right.nd rfl (by first | exact .inl rfl | exact .inr rfl) (fgs_cons (fg_name 3 sc_law_is_best_right.nd rfl (by first | exact .inl rfl | exact .inr rfl) (fgs_nil ?_) (by simp) (.inl rfl))) (by simp) (.inl rfl))) (by simp) (.inl rfl))) rfl rfl)⟩⟩)⟩))⟩)))⟩))⟩)))⟩))⟩)))))
  obtain ⟨b, hb⟩ : ∃ b : Nat, 2 + d1 = (b : Int) := ⟨(2 + d1).toNat, by omega⟩
  obtain ⟨places, hpl⟩ : ∃ b : Nat, 1 + d2 = (b : Int) := ⟨(1 + d2).toNat, by omega⟩
  obtain ⟨reach, hre⟩ : ∃ b : Nat, 1 + d3 = (b : Int) := ⟨(1 + d3).toNat, by omega⟩
  rw [hb, hpl, hre]
  have b0 : 2 ≤ b := by omega
  have b1 : b ≤ 40 := by omega
  have p0 : 1 ≤ places := by omega
  have p1 : places ≤ 16 := by omega
  have r0 : 1 ≤ reach := by omega
  have r1 : reach ≤ 6 := by omega
  have asked : Asked b places reach := ⟨b0, b1, p0, p1, r0, r1⟩
  clear hb hpl hre
  obtain ⟨rest, hf⟩ := first_factor b0
  obtain ⟨f1, f2, f3, f4⟩ := leastF_spec b0
  refine fs_at (z' := ⟨[sp, si (b : Int), si (places : Int), si (reach : Int), .un, .un, .un, .un, .un, .un, .un, .un, .un], π3⟩) rfl ?_
  refine fs_cons (f1_asg [4, 5] (fe_fp (fp_tupG (fpa_cons (fp_min2 rfl B.min (fp_addC hK (fp_name 3 rfl) fp_int (by first | with_reducible trivial | (simp; done) | (simp; omega) | omega)) (fp_name 2 rfl)) (fpa_cons (fp_ixC hK (fp_fl (flp_of rfl sc_law_is_best_right.nd (blkOk_by (own := [("one", 6)]) (N := N_law_is_best_right) (sc := defScope (st 50)) (by decide +kernel)) (lcp_ifN 6 _ _  _ _ sc_law_is_best_right.nd (fip_range2 B.range fp_int (fp_addC hK (fp_name 1 rfl) fp_int (by first | with_reducible trivial | (simp; done) | (simp; omega) | omega)) ⟨by omega, by omega, by omega, by omega⟩) (by first | omega | (simp; done) | (simp; omega)) rfl (fun v_one m_one s1 H1 cc1 cl1 fp1 C1 hk1 hp1 => have hv := List.mem_range.mp m_one; ⟨(ft_eqC hr (hk1.trans hK) (fp_mod (fp_name 1 rfl) (fp_name 6 rfl) (by first | with_reducible assumption | omega | (simp; done) | (simp; omega) | (simp at *; omega))) fp_int (by first | with_reducible trivial | with_reducible assumption | (constructor <;> first | rfl | assumption | omega | simp))), fun ht1 => (fp_name 6 rfl)⟩)))) fp_int ?_) fpa_nil)) (by first | decide | (simp; done) | (simp; omega))) ⟨_, rfl, (fg_tup rfl hK (fgs_cons (fg_name 4 sc_law_is_best_right.nd rfl (by first | exact .inl rfl | exact .inr rfl) (fgs_cons (fg_name 5 sc_law_is_best_right.nd rfl (by first | exact .inl rfl | exact .inr rfl) (fgs_nil ?_) (by simp) (.inl rfl))) (by simp) (.inl rfl))) rfl rfl)⟩))
  · rw [hf]; exact ⟨Int.le_refl _, by simp⟩
  have ef : (2 : Int) + ((((leastF b - 2) :: rest).getD (Int.toNat 0) 0 : Nat) : Int) = (leastF b : Int) := by
    show 2 + ((leastF b - 2 : Nat) : Int) = _
    omega
  have en : min ((reach : Int) + 1) (places : Int) = ((min (reach + 1) places : Nat) : Int) := by omega
  rw [hf, ef, en]
  generalize hneed : min (reach + 1) places = need at *
  have hn0 : 1 ≤ need := by omega
  have hn1 : need ≤ 7 := by omega
  refine fs_at (z' := ⟨[sp, si (b : Int), si (places : Int), si (reach : Int), si (need : Int), si (leastF b : Int), .un, .un, .un, .un, .un, .un, .un], π3⟩) rfl ?_
  refine fs_cons (f1_setP 7 sc_law_is_best_right.nd (fp_def D_best_weights hr (by decide) hK (fpa_cons (fp_name 1 rfl) (fpa_cons (fp_name 2 rfl) (fpa_cons (fp_name 3 rfl) fpa_nil))) (fun _ _ k => ⟨_, _, _, rfl, (by first | with_reducible assumption | omega | (simp; done) | (simp; omega) | (simp at *; omega)), k⟩)) ?_)
  refine fs_if_no (ft_neC hr hK (fp_name 7 rfl) (fp_if (ft_le (fp_name 5 rfl) (fp_name 4 rfl)) (fun hi1 => (fp_tupG (fpa_cons fp_str (fpa_cons (fp_name 5 rfl) fpa_nil)) (by first | decide | (simp; done) | (simp; omega)))) (fun hi1 => (fp_tupG (fpa_cons fp_str (fpa_cons (fp_tupleC hK B.tuple (fp_fl (flp_of rfl sc_law_is_best_right.nd (blkOk_by (own := [("at", 8)]) (N := N_law_is_best_right) (sc := defScope (st 50)) (by decide +kernel)) (lcp_mapN 8 _ _  _ sc_law_is_best_right.nd (fip_rangeN B.range (fp_name 2 rfl) (by first | with_reducible assumption | omega | (simp; done) | (simp; omega) | (simp at *; omega)) (by first | with_reducible assumption | omega | (simp; done) | (simp; omega) | (simp at *; omega))) (by first | omega | (simp; done) | (simp; omega)) rfl (fun v_at m_at s1 H1 cc1 cl1 fp1 C1 hk1 hp1 => (fp_addC (hk1.trans hK) (fp_mod (fp_name 8 rfl) (fp_name 4 rfl) (by first | with_reducible assumption | omega | (simp; done) | (simp; omega) | (simp at *; omega))) fp_int (by first | with_reducible trivial | (simp; done) | (simp; omega) | omega))))))) fpa_nil)) (by first | decide | (simp; done) | (simp; omega))))) (by first | with_reducible trivial | with_reducible assumption | (constructor <;> first | rfl | assumption | omega | simp))) ?_ ?_
  · have e : bestF b places reach = (if decide ((leastF b : Int) ≤ (need : Int)) = true then .tuple [.str "never", .int (leastF b : Int)] else .tuple [.str "weights", .tuple (List.map (fun v : Nat => PyData.int ((v : Int) % (need : Int) + 1)) (List.range (places : Int).toNat))]) := by
      unfold bestF
      rw [hneed]
      by_cases hle : leastF b ≤ need
      · rw [if_pos hle, if_pos (by rw [decide_eq_true_iff]; omega)]
      · rw [if_neg hle, if_neg (by rw [decide_eq_true_iff]; omega)]
        unfold bestW
        rw [Int.toNat_natCast, encW, List.map_map]
        rfl
    rw [e]; simp
  have hneed2 := hneed.symm
  refine fs_if_no (k := false) ?_ rfl ?_
  · by_cases hle : leastF b ≤ need
    · have eb : bestF b places reach = .tuple [.str "never", .int (leastF b : Int)] := by unfold bestF; rw [hneed, if_pos hle]
      rw [eb]
      refine fpt_is (ft_w (fw_or (ft_w (fw_and_no (ft_eqC hr hK (fp_ixC hK (fp_name 7 rfl) fp_int (by first | with_reducible trivial | with_reducible assumption | omega | (simp; done) | (simp; omega) | (simp at *; omega))) fp_str (by first | with_reducible trivial | with_reducible assumption | (constructor <;> first | rfl | assumption | omega | simp))) (by decide))) fun hb2 => (fw_or1 (ft_not (ft_val (fp_def D_shows_best hr (by decide) hK (fpa_cons (fp_name 1 rfl) (fpa_cons (fp_name 2 rfl) (fpa_cons (fp_name 3 rfl) (fpa_cons (fp_name 7 rfl) fpa_nil)))) (fun _ _ k => ⟨_, _, _, _, rfl, (by first | with_reducible assumption | omega | (simp; done) | (simp; omega) | (simp at *; omega)), .inl ⟨leastF b, rfl, (by first | with_reducible assumption | omega | (simp; done) | (simp; omega) | (simp at *; omega)), (by first | with_reducible assumption | omega | (simp; done) | (simp; omega) | (simp at *; omega)), k⟩⟩))))))) ?_
      unfold showsN
      rw [hneed, decide_eq_true hle, decide_eq_true (by omega), decide_eq_true f3]; rfl
    · have eb : bestF b places reach = .tuple [.str "weights", encW (bestW need places)] := by unfold bestF; rw [hneed, if_neg hle]
      have hbr := bestW_range (places := places) (reach := reach) b0 p0 (by omega)
      have hbf := best_finds (places := places) (reach := reach) b0 p0 (by omega)
      rw [hneed] at hbr hbf
      have hbl := bestW_len need places
      have hb0 : ∀ x ∈ bestW need places, 0 ≤ x := fun x hx => (hbr x hx).1
      rw [eb]
      refine fpt_is (ft_w (fw_or (ft_w (fw_and (ft_eqC hr hK (fp_ixC hK (fp_name 7 rfl) fp_int (by first | with_reducible trivial | with_reducible assumption | omega | (simp; done) | (simp; omega) | (simp at *; omega))) fp_str (by first | with_reducible trivial | with_reducible assumption | (constructor <;> first | rfl | assumption | omega | simp))) fun hb1 => (fw_and1 (ft_not (ft_val (fp_def D_law_finds hr (by decide) hK (fpa_cons (fp_name 1 rfl) (fpa_cons (fp_ixC hK (fp_name 7 rfl) fp_int (by first | with_reducible trivial | with_reducible assumption | omega | (simp; done) | (simp; omega) | (simp at *; omega))) (fpa_cons (fp_name 3 rfl) fpa_nil))) (fun _ _ k => W_law_finds.mk _ _ _ (by first | with_reducible assumption | omega | (simp; done) | (simp; omega) | (simp at *; omega)) (by first | with_reducible assumption | omega | (simp; done) | (simp; omega) | (simp at *; omega)) (by first | with_reducible assumption | omega | (simp; done) | (simp; omega) | (simp at *; omega)) (by first | with_reducible assumption | omega | (simp; done) | (simp; omega) | (simp at *; omega)) (by first | with_reducible assumption | omega | (simp; done) | (simp; omega) | (simp at *; omega)) k))))))) fun hb2 => (fw_or1 (ft_not (ft_val (fp_def D_shows_best hr (by decide) hK (fpa_cons (fp_name 1 rfl) (fpa_cons (fp_name 2 rfl) (fpa_cons (fp_name 3 rfl) (fpa_cons (fp_name 7 rfl) fpa_nil)))) (fun _ _ k => ⟨_, _, _, _, rfl, (by first | with_reducible assumption | omega | (simp; done) | (simp; omega) | (simp at *; omega)), .inr ⟨_, rfl, (by first | with_reducible assumption | omega | (simp; done) | (simp; omega) | (simp at *; omega)), (by first | with_reducible assumption | omega | (simp; done) | (simp; omega) | (simp at *; omega)), k⟩⟩))))))) ?_
      rw [← finds_all hb0, hbf]; rfl
  refine fs_at (z' := ⟨[sp, si (b : Int), si (places : Int), si (reach : Int), si (need : Int), si (leastF b : Int), .un, sd (bestF b places reach), .un, .un, .un, .un, .un], π3⟩) rfl ?_
  refine fs_cons (f1_set 9 sc_law_is_best_right.nd rfl (by first | exact .inl rfl | exact .inr rfl) (fe_tupleOf hK B.tuple (fe_fl (fl_lc rfl sc_law_is_best_right.nd (blkOk_by (own := [("place", 10)]) (N := N_law_is_best_right) (sc := defScope (st 50)) (by decide +kernel)) (fi_draw 10 (PyData.int) (fun v : Int => 0 ≤ v ∧ v ≤ (b : Int) - 1) 1 _ sc_law_is_best_right.nd (fi_fip (fip_rangeN B.range (fp_name 2 rfl) (by first | with_reducible assumption | omega | (simp; done) | (simp; omega) | (simp at *; omega)) (by first | with_reducible assumption | omega | (simp; done) | (simp; omega) | (simp at *; omega))) ⟨(by first | omega | (simp; done) | (simp; omega)), rfl, pb3, (fun v_place m_place k1 ρ1 kl1 pbk1 s1 H1 cc1 cl1 fp1 C1 hk1 hp1 => (fe_addI (fe_fp fp_int ⟨_, rfl, (fe_take 0 D_law_take hr (by decide) (hk1.trans hK) rfl (fp_sub (fp_name 1 rfl) fp_int) (by first | with_reducible assumption | omega | (simp; done) | (simp; omega) | (simp at *; omega)) (by first | with_reducible assumption | omega | (simp; done) | (simp; omega) | (simp at *; omega)) pbk1 (by first | omega | (simp at *; omega)) (fun d1 π1 d1_0 d1_1 pb1 => ⟨_, rfl, ⟨_, rfl, rfl, (by first | with_reducible trivial | exact ⟨by omega, by omega⟩ | omega | with_reducible assumption), (PB.mono pb1 (by omega))⟩⟩))⟩))), fun vs1 π10 vl1 va1 pbv1 => ⟨_, .inl rfl, ?_⟩⟩))))))
  have hvl : vs1.length = places := by simp at vl1; omega
  refine fs_at (z' := ⟨[sp, si (b : Int), si (places : Int), si (reach : Int), si (need : Int), si (leastF b : Int), .un, sd (bestF b places reach), .un, sd (encW vs1), .un, .un, .un], π10⟩) rfl ?_
  have hv0 : ∀ x ∈ vs1, 0 ≤ x := fun x hx => (va1 x hx).1
  refine fs_if_no (ft_neC hr hK (fp_def D_shows_best hr (by decide) hK (fpa_cons (fp_name 1 rfl) (fpa_cons (fp_name 2 rfl) (fpa_cons (fp_name 3 rfl) (fpa_cons (fp_tupG (fpa_cons fp_str (fpa_cons (fp_name 9 rfl) fpa_nil)) (by first | decide | (simp; done) | (simp; omega))) fpa_nil)))) (fun _ _ k => ⟨_, _, _, _, rfl, (by first | with_reducible assumption | omega | (simp; done) | (simp; omega) | (simp at *; omega)), .inr ⟨_, rfl, (by first | with_reducible assumption | omega | (simp; done) | (simp; omega) | (simp at *; omega)), (by first | with_reducible assumption | omega | (simp; done) | (simp; omega) | (simp at *; omega)), k⟩⟩)) (fp_def D_law_finds hr (by decide) hK (fpa_cons (fp_name 1 rfl) (fpa_cons (fp_name 9 rfl) (fpa_cons (fp_name 3 rfl) fpa_nil))) (fun _ _ k => W_law_finds.mk _ _ _ (by first | with_reducible assumption | omega | (simp; done) | (simp; omega) | (simp at *; omega)) (by first | with_reducible assumption | omega | (simp; done) | (simp; omega) | (simp at *; omega)) (by first | with_reducible assumption | omega | (simp; done) | (simp; omega) | (simp at *; omega)) (by first | with_reducible assumption | omega | (simp; done) | (simp; omega) | (simp at *; omega)) (by first | with_reducible assumption | omega | (simp; done) | (simp; omega) | (simp at *; omega)) k)) (by first | with_reducible trivial | with_reducible assumption | (constructor <;> first | rfl | assumption | omega | simp))) ?_ ?_
  · rw [← finds_all hv0]; simp
  refine fs_cons (f1_forP [11] ([2, 3, 5, 7, need + 1]) (nI) (fun pre z => ∃ s_number s_so, z = ⟨[sp, si (b : Int), si (places : Int), si (reach : Int), si (need : Int), si (leastF b : Int), .un, sd (bestF b places reach), .un, sd (encW vs1), .un, s_number, s_so], π10⟩) PassesOwn.never rfl (fip_is (fip_seqC hK (fp_tupG (fpa_cons fp_int (fpa_cons fp_int (fpa_cons fp_int (fpa_cons fp_int (fpa_cons (fp_addC hK (fp_name 4 rfl) fp_int (by first | with_reducible trivial | (simp; done) | (simp; omega) | omega)) fpa_nil))))) (by first | decide | (simp; done) | (simp; omega)))) (by simp)) ?_ (fun pre_m m post_m hpre_m z2 hz => ?_) fun z2 hz => ?_)
  · exact ⟨_, _, rfl⟩
  · obtain ⟨s_number, s_so, rfl⟩ := hz
    have hm := split_mem hpre_m
    have hm1 : 1 ≤ m ∧ m ≤ 8 := by
      simp only [List.mem_cons, List.not_mem_nil, or_false] at hm
      omega
    obtain ⟨hm1, hm2⟩ := hm1
    refine (fg_name 11 sc_law_is_best_right.nd rfl (by first | exact .inl rfl | exact .inr rfl) ?_ (by simp) (.inl rfl))
    refine fs_cons (f1_setP 12 sc_law_is_best_right.nd (fp_and (fp_le (fp_name 5 rfl) (fp_name 4 rfl)) fun hb1 => (fp_and (fp_leLe fp_int (fp_name 11 rfl) (fp_name 4 rfl)) fun hb2 => (fp_one (fp_eqC hr hK (fp_mod (fp_name 1 rfl) (fp_name 11 rfl) (by first | with_reducible assumption | omega | (simp; done) | (simp; omega) | (simp at *; omega))) fp_int (by first | with_reducible trivial | with_reducible assumption | (constructor <;> first | rfl | assumption | omega | simp)))))) ?_)
    refine fs_if_no (ft_neC hr hK (fp_def D_shows_best hr (by decide) hK (fpa_cons (fp_name 1 rfl) (fpa_cons (fp_name 2 rfl) (fpa_cons (fp_name 3 rfl) (fpa_cons (fp_tupG (fpa_cons fp_str (fpa_cons (fp_name 11 rfl) fpa_nil)) (by first | decide | (simp; done) | (simp; omega))) fpa_nil)))) (fun _ _ k => ⟨_, _, _, _, rfl, (by first | with_reducible assumption | omega | (simp; done) | (simp; omega) | (simp at *; omega)), .inl ⟨_, rfl, (by first | with_reducible assumption | omega | (simp; done) | (simp; omega) | (simp at *; omega)), (by first | with_reducible assumption | omega | (simp; done) | (simp; omega) | (simp at *; omega)), k⟩⟩)) (fp_name 12 rfl) (by first | with_reducible trivial | with_reducible assumption | (constructor <;> first | rfl | assumption | omega | simp))) ?_ ?_
    · rw [hneed]
      unfold showsN
      rw [dec_iff (show (leastF b : Int) ≤ (need : Int) ↔ leastF b ≤ need by omega), dec_iff (show (2 : Int) ≤ (m : Int) ↔ 2 ≤ m by omega), dec_iff (show (m : Int) ≤ (need : Int) ↔ m ≤ need by omega), dec_iff (show (b : Int) % (m : Int) = 0 ↔ b % m = 0 by constructor <;> intro h <;> exact_mod_cast h)]
      simp
    · exact fs_nil ⟨_, _, rfl⟩
  · obtain ⟨s_number, s_so, rfl⟩ := hz
    refine fs_one (f1_retP fp_bool ?_)
    exact k _ (pbv1.mono (by simp at vl1 ⊢; omega))
end
end K08

set_option Elab.async false
set_option linter.all false
set_option maxRecDepth 100000
set_option maxHeartbeats 4000000
set_option autoImplicit false
namespace K08
open PySem PySem.Spec PyProof.Rows L2 DL
theorem minD_first {x : PyData} : ∀ {xs : List PyData}, (∀ y ∈ xs, PySem.W.dataLt y x = false) → PySem.W.minD x xs = x
  | [], _ => rfl
  | y :: ys, h => by
    have ih := minD_first (x := x) (xs := ys) fun z hz => h z (List.mem_cons_of_mem _ hz)
    unfold PySem.W.minD at ih ⊢
    rw [List.foldl_cons, h y List.mem_cons_self, if_neg Bool.false_ne_true]
    exact ih
theorem lt_enc3 {s t : Tri} (h : ltT s t) : PySem.W.dataLt (enc3 t) (enc3 s) = false := by
  unfold enc3
  rw [PySem.W.dataLt_tuple]
  show PySem.W.rowLt ([(t.1 : Int), (t.2.1 : Int), (t.2.2 : Int)].map PyData.int) ([(s.1 : Int), (s.2.1 : Int), (s.2.2 : Int)].map PyData.int) = false
  rw [PySem.W.dataLt_ints]
  refine decide_eq_false fun q => ?_
  unfold ltT at h
  simp only [List.cons_lt_cons_iff] at q
  have q3 : ¬ (([] : List Int) < []) := List.lt_irrefl _
  simp only [q3, and_false, or_false] at q
  omega
def ltQ (s t : Qua) : Prop := s.1 < t.1 ∨ (s.1 = t.1 ∧ (s.2.1 < t.2.1 ∨ (s.2.1 = t.2.1 ∧ (s.2.2.1 < t.2.2.1 ∨ (s.2.2.1 = t.2.2.1 ∧ s.2.2.2 < t.2.2.2)))))
theorem lt_enc4 {s t : Qua} (h : ltQ s t) : PySem.W.dataLt (enc4 t) (enc4 s) = false := by
  unfold enc4
  rw [PySem.W.dataLt_tuple]
  show PySem.W.rowLt ([(t.1 : Int), (t.2.1 : Int), (t.2.2.1 : Int), (t.2.2.2 : Int)].map PyData.int) ([(s.1 : Int), (s.2.1 : Int), (s.2.2.1 : Int), (s.2.2.2 : Int)].map PyData.int) = false
  rw [PySem.W.dataLt_ints]
  refine decide_eq_false fun q => ?_
  unfold ltQ at h
  simp only [List.cons_lt_cons_iff] at q
  have q3 : ¬ (([] : List Int) < []) := List.lt_irrefl _
  simp only [q3, and_false, or_false] at q
  omega
theorem alike3 (ts : List Tri) : PySem.W.AlikeAll (ts.map enc3) := by
  refine ⟨fun x hx y hy => ?_, fun x hx => ?_⟩
  · obtain ⟨s, _, e1⟩ := List.mem_map.mp hx
    obtain ⟨t, _, e2⟩ := List.mem_map.mp hy
    subst e1 e2
    simp [enc3, PySem.W.alike, PySem.W.alikeAll]
  · obtain ⟨s, _, e1⟩ := List.mem_map.mp hx
    subst e1
    unfold enc3; simp
theorem alike4 (ts : List Qua) : PySem.W.AlikeAll (ts.map enc4) := by
  refine ⟨fun x hx y hy => ?_, fun x hx => ?_⟩
  · obtain ⟨s, _, e1⟩ := List.mem_map.mp hx
    obtain ⟨t, _, e2⟩ := List.mem_map.mp hy
    subst e1 e2
    simp [enc4, PySem.W.alike, PySem.W.alikeAll]
  · obtain ⟨s, _, e1⟩ := List.mem_map.mp hx
    subst e1
    unfold enc4; simp
theorem mem_swapL {b : Nat} {ws : List Int} {reach : Nat} {t : Qua} : t ∈ swapL b ws reach ↔ t.1 < t.2.1 ∧ t.2.1 ≤ t.1 + reach ∧ t.2.1 < ws.length ∧ t.2.2.1 < b ∧ t.2.2.2 < b ∧ goodX b ws t.1 t.2.1 t.2.2.1 t.2.2.2 = true := by
  obtain ⟨p, s, a, c⟩ := t
  unfold swapL
  simp only [List.mem_flatMap, List.mem_range]
  constructor
  · rintro ⟨p', hp, k, hk, a', ha, c', hc, h⟩
    unfold turnX at h
    by_cases hg : goodX b ws p' (p' + 1 + k) a' c' = true
    · rw [if_pos hg] at h
      have h := List.mem_singleton.mp h
      cases h
      exact ⟨by omega, by omega, by omega, ha, hc, hg⟩
    · rw [if_neg hg] at h
      cases h
  · rintro ⟨h1, h2, h3, ha, hc, hg⟩
    refine ⟨p, by omega, s - (p + 1), by omega, a, ha, c, hc, ?_⟩
    have e : p + 1 + (s - (p + 1)) = s := by omega
    unfold turnX
    rw [e, if_pos hg]
    exact List.mem_singleton.mpr rfl
theorem swapL_asc (b : Nat) (ws : List Int) (reach : Nat) : (swapL b ws reach).Pairwise ltQ := by
  unfold swapL
  rw [List.pairwise_flatMap]
  refine ⟨fun p hp => ?_, List.pairwise_lt_range.imp fun {p q} hpq x hx y hy => ?_⟩
  · rw [List.pairwise_flatMap]
    refine ⟨fun k hk => ?_, List.pairwise_lt_range.imp fun {k k'} hkk x hx y hy => ?_⟩
    · rw [List.pairwise_flatMap]
      refine ⟨fun a ha => ?_, List.pairwise_lt_range.imp fun {a a'} haa x hx y hy => ?_⟩
      · rw [List.pairwise_flatMap]
        refine ⟨fun c hc => ?_, List.pairwise_lt_range.imp fun {c c'} hcc x hx y hy => ?_⟩
        · unfold turnX
          split <;> simp
        · unfold turnX at hx hy
          split at hx <;> split at hy <;> simp at hx hy
          subst hx hy
          exact .inr ⟨rfl, .inr ⟨rfl, .inr ⟨rfl, hcc⟩⟩⟩
      · simp only [List.mem_flatMap] at hx hy
        obtain ⟨c, _, hx⟩ := hx
        obtain ⟨c', _, hy⟩ := hy
        unfold turnX at hx hy
        split at hx <;> split at hy <;> simp at hx hy
        subst hx hy
        exact .inr ⟨rfl, .inr ⟨rfl, .inl haa⟩⟩
    · simp only [List.mem_flatMap] at hx hy
      obtain ⟨a, _, c, _, hx⟩ := hx
      obtain ⟨a', _, c', _, hy⟩ := hy
      unfold turnX at hx hy
      split at hx <;> split at hy <;> simp at hx hy
      subst hx hy
      exact .inr ⟨rfl, .inl (by show p + 1 + k < p + 1 + k'; omega)⟩
  · simp only [List.mem_flatMap] at hx hy
    obtain ⟨k, _, a, _, c, _, hx⟩ := hx
    obtain ⟨k', _, a', _, c', _, hy⟩ := hy
    unfold turnX at hx hy
    split at hx <;> split at hy <;> simp at hx hy
    subst hx hy
    exact .inl hpq
/-- the digit 0 and the digit c at a weight -/
theorem good0' {b : Nat} {x : Int} {a c : Nat} (hb : 0 < b) (hac : a ≠ c) (h : (b : Int) ∣ x * ((a : Int) - (c : Int))) : b ∣ x.natAbs * (if a < c then c - a else a - c) := by
  rw [← nat_dvd]
  split
  · rename_i hlt
    have e : x * ((c - a : Nat) : Int) = -(x * ((a : Int) - (c : Int))) := by rw [← Int.mul_neg]; congr 1; omega
    rw [e, Int.dvd_neg]; exact h
  · rename_i hlt
    have e : ((a - c : Nat) : Int) = (a : Int) - (c : Int) := by omega
    rw [e]; exact h
/-- for a weight that shares a factor with b: what the first of its mistakes is -/
theorem first_at {b m : Nat} (hb : 2 ≤ b) (hg : 1 < Nat.gcd m b) : 0 < b / Nat.gcd m b ∧ b / Nat.gcd m b < b ∧ b ∣ m * (b / Nat.gcd m b) := by
  have h2 := Nat.gcd_dvd_right m b
  have h3 := Nat.le_of_dvd (by omega) h2
  refine ⟨Nat.div_pos h3 (by omega), Nat.div_lt_self (by omega) hg, gcd_div⟩
end K08

set_option Elab.async false
set_option linter.all false
set_option maxRecDepth 100000
set_option maxHeartbeats 4000000
set_option autoImplicit false
namespace K08
open PySem PySem.Spec PyProof.Rows L2 DL
/-! ### wrong digits -/
def someW (b : Nat) (ws : List Int) : List Tri := (wrongL b ws).filter fun t => decide ((t.2.1 : Int) = 0)
def dueW : List Tri → PyData
  | [] => allD
  | t :: _ => .tuple [.str "missed", .int (t.1 : Int), .int (t.2.1 : Int), .int (t.2.2 : Int)]
theorem head_least {α : Type} {lt : α → α → Prop} {xs : List α} (hp : xs.Pairwise lt) {t : α} (ht : t ∈ xs) (hl : ∀ s ∈ xs, ¬ lt s t) : ∃ rest, xs = t :: rest := by
  cases xs with
  | nil => cases ht
  | cons h rest =>
    rcases List.mem_cons.mp ht with e | e
    · exact ⟨rest, by rw [e]⟩
    · exact absurd ((List.pairwise_cons.mp hp).1 t e) (hl h List.mem_cons_self)
theorem getD_ok {b : Nat} {ws : List Int} (ok : WOk b ws) (p : Nat) (hp : p < ws.length) : 0 ≤ ws.getD p 0 ∧ ws.getD p 0 ≤ (b : Int) - 1 := by
  refine ok.all _ ?_
  rw [List.getD_eq_getElem?_getD, List.getElem?_eq_getElem hp]
  exact List.getElem_mem hp
theorem mem_someW {b : Nat} {ws : List Int} (hb : 2 ≤ b) {t : Tri} : t ∈ someW b ws ↔ t.1 < ws.length ∧ t.2.1 = 0 ∧ 0 < t.2.2 ∧ t.2.2 < b ∧ b ∣ (ws.getD t.1 0).natAbs * t.2.2 := by
  unfold someW
  rw [List.mem_filter, mem_wrongL, decide_eq_true_iff]
  unfold goodW
  constructor
  · rintro ⟨⟨h1, h2, h3, h4⟩, h5⟩
    have h5 : t.2.1 = 0 := by omega
    rw [h5, Bool.and_eq_true, Bool.not_eq_true', decide_eq_false_iff_not, decide_eq_true_iff, good0 (by omega)] at h4
    exact ⟨h1, h5, by have := h4.1; omega, h3, h4.2⟩
  · rintro ⟨h1, h2, h3, h4, h5⟩
    refine ⟨⟨h1, by omega, h4, ?_⟩, by omega⟩
    rw [h2, Bool.and_eq_true, Bool.not_eq_true', decide_eq_false_iff_not, decide_eq_true_iff, good0 (by omega)]
    exact ⟨by omega, h5⟩
theorem bad_of {b : Nat} {ws : List Int} (ok : WOk b ws) {t : Tri} (h : t ∈ someW b ws) : badW b ws t.1 = true ∧ b / Nat.gcd (ws.getD t.1 0).natAbs b ≤ t.2.2 := by
  obtain ⟨h1, h2, h3, h4, h5⟩ := (mem_someW ok.b0).mp h
  unfold badW
  rw [Int.toNat_natCast, toNat_abs (getD_ok ok _ h1).1]
  exact ⟨decide_eq_true (gcd_gt h3 h4 h5), gcd_least (by have := ok.b0; omega) h3 h5⟩
theorem wrong_due {b : Nat} {ws : List Int} (ok : WOk b ws) : wrongF b ws = dueW (someW b ws) := by
  have hb := ok.b0
  unfold wrongF
  cases h : (List.range ws.length).find? (badW b ws) with
  | none =>
    have hn : someW b ws = [] := by
      rw [List.eq_nil_iff_forall_not_mem]
      intro t ht
      have := List.find?_eq_none.mp h t.1 (List.mem_range.mpr ((mem_someW hb).mp ht).1)
      exact this (bad_of ok ht).1
    rw [hn]; rfl
  | some p =>
    rw [List.find?_range_eq_some] at h
    obtain ⟨h1, h2, h3⟩ := h
    have h2 := List.mem_range.mp h2
    have e0 := toNat_abs (getD_ok ok p h2).1
    unfold badW at h1
    rw [Int.toNat_natCast, e0, decide_eq_true_iff] at h1
    obtain ⟨f1, f2, f3⟩ := first_at hb h1
    have ht : ((p, 0, b / Nat.gcd (ws.getD p 0).natAbs b) : Tri) ∈ someW b ws := (mem_someW hb).mpr ⟨h2, rfl, f1, f2, f3⟩
    obtain ⟨rest, e⟩ := head_least ((wrongL_asc b ws).sublist List.filter_sublist) ht fun s hs hlt => by
      obtain ⟨q1, q2⟩ := bad_of ok hs
      have hz := ((mem_someW hb).mp hs).2.1
      unfold ltT at hlt
      simp only at hlt
      rcases hlt with hlt | ⟨e1, hlt⟩
      · have := h3 s.1 hlt
        rw [q1] at this; cases this
      · rw [e1] at q2; omega
    show PyData.tuple _ = dueW (someW b ws)
    unfold someW
    rw [e]
    show PyData.tuple [_, _, _, _] = PyData.tuple [_, _, _, _]
    rw [Int.toNat_natCast, e0]
    rfl
theorem someW_nil {b : Nat} {ws : List Int} (ok : WOk b ws) : someW b ws = [] ↔ wrongL b ws = [] := by
  have hb := ok.b0
  constructor
  · intro h
    rw [List.eq_nil_iff_forall_not_mem]
    intro t ht
    obtain ⟨h1, h2, h3, h4⟩ := mem_wrongL.mp ht
    unfold goodW at h4
    rw [Bool.and_eq_true, Bool.not_eq_true', decide_eq_false_iff_not, decide_eq_true_iff, good_iff (by omega)] at h4
    have hne : t.2.1 ≠ t.2.2 := fun e => h4.1 (by rw [e])
    have h5 := good0' (by omega) hne h4.2
    have : ((t.1, 0, if t.2.1 < t.2.2 then t.2.2 - t.2.1 else t.2.1 - t.2.2) : Tri) ∈ someW b ws := (mem_someW hb).mpr ⟨h1, rfl, by dsimp only; split <;> omega, by dsimp only; split <;> omega, h5⟩
    rw [h] at this; cases this
  · intro h
    unfold someW
    rw [h]; rfl
/-! ### two exchanged -/
def someX (b : Nat) (ws : List Int) (reach : Nat) : List Qua := (swapL b ws reach).filter fun t => decide ((t.2.2.1 : Int) = 0)
def dueX : List Qua → PyData
  | [] => allD
  | t :: _ => .tuple [.str "missed", .int (t.1 : Int), .int (t.2.1 : Int), .int (t.2.2.1 : Int), .int (t.2.2.2 : Int)]
theorem goodX_iff {b : Nat} {ws : List Int} {p s a c : Nat} (hb : 0 < b) : goodX b ws p s a c = true ↔ a ≠ c ∧ (b : Int) ∣ (ws.getD p 0 - ws.getD s 0) * ((a : Int) - (c : Int)) := by
  unfold goodX
  rw [Bool.and_eq_true, Bool.not_eq_true', decide_eq_false_iff_not, decide_eq_true_iff, Int.emod_eq_emod_iff_emod_sub_eq_zero, ← Int.dvd_iff_emod_eq_zero]
  have e : ws.getD p 0 * (a : Int) + ws.getD s 0 * (c : Int) - (ws.getD p 0 * (c : Int) + ws.getD s 0 * (a : Int)) = (ws.getD p 0 - ws.getD s 0) * ((a : Int) - (c : Int)) := by
    rw [Int.sub_mul, Int.mul_sub, Int.mul_sub]; omega
  rw [e]
  exact ⟨fun ⟨h1, h2⟩ => ⟨by omega, h2⟩, fun ⟨h1, h2⟩ => ⟨by omega, h2⟩⟩
theorem mem_someX {b : Nat} {ws : List Int} {reach : Nat} (hb : 2 ≤ b) {t : Qua} : t ∈ someX b ws reach ↔ t.1 < t.2.1 ∧ t.2.1 ≤ t.1 + reach ∧ t.2.1 < ws.length ∧ t.2.2.1 = 0 ∧ 0 < t.2.2.2 ∧ t.2.2.2 < b ∧ b ∣ difX ws t.1 t.2.1 * t.2.2.2 := by
  unfold someX
  rw [List.mem_filter, mem_swapL, decide_eq_true_iff, goodX_iff (by omega)]
  unfold difX
  constructor
  · rintro ⟨⟨h1, h2, h3, h4, h5, h6, h7⟩, h8⟩
    have h8 : t.2.2.1 = 0 := by omega
    have := good0' (by omega) h6 h7
    rw [h8, if_pos (by omega)] at this
    exact ⟨h1, h2, h3, h8, by omega, h5, this⟩
  · rintro ⟨h1, h2, h3, h4, h5, h6, h7⟩
    refine ⟨⟨h1, h2, h3, by omega, h6, by omega, ?_⟩, by omega⟩
    rw [h4]
    have e : (ws.getD t.1 0 - ws.getD t.2.1 0) * (((0 : Nat) : Int) - (t.2.2.2 : Int)) = -((ws.getD t.1 0 - ws.getD t.2.1 0) * (t.2.2.2 : Int)) := by rw [← Int.mul_neg]; congr 1; omega
    rw [e, Int.dvd_neg, nat_dvd]; exact h7
theorem badX_of {b : Nat} {ws : List Int} {reach : Nat} (hb : 2 ≤ b) {t : Qua} (h : t ∈ someX b ws reach) : badX b ws reach t.1 t.2.1 = true ∧ b / Nat.gcd (difX ws t.1 t.2.1) b ≤ t.2.2.2 := by
  obtain ⟨h1, h2, h3, h4, h5, h6, h7⟩ := (mem_someX hb).mp h
  unfold badX
  rw [Int.toNat_natCast, decide_eq_true h1, decide_eq_true h2, decide_eq_true h3]
  exact ⟨decide_eq_true (gcd_gt h5 h6 h7), gcd_least (by omega) h5 h7⟩
theorem exch_due {b : Nat} {ws : List Int} {reach : Nat} (hb : 2 ≤ b) : exchF b ws reach = dueX (someX b ws reach) := by
  unfold exchF
  cases h : (List.range ws.length).find? (fun p => (List.range ws.length).any (badX b ws reach p)) with
  | none =>
    have hn : someX b ws reach = [] := by
      rw [List.eq_nil_iff_forall_not_mem]
      intro t ht
      obtain ⟨h1, h2, h3, _⟩ := (mem_someX hb).mp ht
      have := List.find?_eq_none.mp h t.1 (List.mem_range.mpr (by omega))
      exact this (List.any_eq_true.mpr ⟨t.2.1, List.mem_range.mpr h3, (badX_of hb ht).1⟩)
    rw [hn]; rfl
  | some p =>
    rw [List.find?_range_eq_some] at h
    obtain ⟨h1, h2, h3⟩ := h
    simp only
    cases h' : (List.range ws.length).find? (badX b ws reach p) with
    | none =>
      obtain ⟨s, hs, hbad⟩ := List.any_eq_true.mp h1
      exact absurd hbad (List.find?_eq_none.mp h' s hs)
    | some s =>
      rw [List.find?_range_eq_some] at h'
      obtain ⟨g1, g2, g3⟩ := h'
      have g1' := g1
      unfold badX at g1
      simp only [Bool.and_eq_true, decide_eq_true_eq, Int.toNat_natCast] at g1
      obtain ⟨⟨⟨k1, k2⟩, k3⟩, k4⟩ := g1
      obtain ⟨f1, f2, f3⟩ := first_at hb k4
      have ht : ((p, s, 0, b / Nat.gcd (difX ws p s) b) : Qua) ∈ someX b ws reach := (mem_someX hb).mpr ⟨k1, k2, k3, rfl, f1, f2, f3⟩
      obtain ⟨rest, e⟩ := head_least ((swapL_asc b ws reach).sublist List.filter_sublist) ht fun t hs hlt => by
        obtain ⟨q1, q2⟩ := badX_of hb hs
        obtain ⟨m1, m2, m3, hz, _⟩ := (mem_someX hb).mp hs
        unfold ltQ at hlt
        simp only at hlt
        rcases hlt with hlt | ⟨e1, hlt⟩
        · have := h3 t.1 hlt
          rw [Bool.not_eq_true', List.any_eq_false] at this
          exact this t.2.1 (List.mem_range.mpr m3) q1
        · rw [e1] at q1 q2
          rcases hlt with hlt | ⟨e2, hlt⟩
          · have := g3 t.2.1 hlt
            rw [q1] at this; cases this
          · rw [e2] at q2; omega
      show PyData.tuple _ = dueX (someX b ws reach)
      unfold someX
      rw [e]
      show PyData.tuple [_, _, _, _, _] = PyData.tuple [_, _, _, _, _]
      rw [Int.toNat_natCast]
      rfl
end K08

set_option Elab.async false
set_option linter.all false
set_option maxRecDepth 100000
set_option maxHeartbeats 4000000
set_option autoImplicit false
namespace K08
open PySem PySem.Spec PyProof.Rows L2 DL
theorem wrong_all {b : Nat} {ws : List Int} (ok : WOk b ws) : allW b ws = decide (wrongL b ws = []) := by
  rw [← wrongF_all, wrong_due ok]
  by_cases h : wrongL b ws = []
  · rw [decide_eq_true h, (someW_nil ok).mpr h]; rfl
  · rw [decide_eq_false h]
    cases e : someW b ws with
    | nil => exact absurd ((someW_nil ok).mp e) h
    | cons t ts => rfl
theorem someX_nil {b : Nat} {ws : List Int} {reach : Nat} (hb : 2 ≤ b) : someX b ws reach = [] ↔ swapL b ws reach = [] := by
  constructor
  · intro h
    rw [List.eq_nil_iff_forall_not_mem]
    intro t ht
    obtain ⟨h1, h2, h3, h4, h5, h6⟩ := mem_swapL.mp ht
    obtain ⟨hne, hd⟩ := (goodX_iff (by omega)).mp h6
    have h7 := good0' (by omega) hne hd
    have : ((t.1, t.2.1, 0, if t.2.2.1 < t.2.2.2 then t.2.2.2 - t.2.2.1 else t.2.2.1 - t.2.2.2) : Qua) ∈ someX b ws reach := (mem_someX hb).mpr ⟨h1, h2, h3, rfl, by dsimp only; split <;> omega, by dsimp only; split <;> omega, h7⟩
    rw [h] at this; cases this
  · intro h
    unfold someX
    rw [h]; rfl
theorem swap_all {b : Nat} {ws : List Int} {reach : Nat} (hb : 2 ≤ b) : allX b ws reach = decide (swapL b ws reach = []) := by
  rw [← exchF_all, exch_due hb]
  by_cases h : swapL b ws reach = []
  · rw [decide_eq_true h, (someX_nil hb).mpr h]; rfl
  · rw [decide_eq_false h]
    cases e : someX b ws reach with
    | nil => exact absurd ((someX_nil hb).mp e) h
    | cons t ts => rfl
theorem showsW_mem {b : Nat} {ws : List Int} (hb : 2 ≤ b) (t : Tri) (h1 : t.1 < ws.length) (h2 : t.2.1 < b) (h3 : t.2.2 < b) : showsW b ws t.1 t.2.1 t.2.2 = decide (t ∈ wrongL b ws) := by
  rw [Bool.eq_iff_iff, decide_eq_true_iff, mem_wrongL]
  unfold showsW goodW
  rw [Bool.and_eq_true, Bool.and_eq_true, decide_eq_true_iff, decide_eq_true_iff, good_iff (by omega), Int.dvd_iff_emod_eq_zero]
  exact ⟨fun h => ⟨h1, h2, h3, h⟩, fun h => h.2.2.2⟩
theorem showsX_mem {b : Nat} {ws : List Int} {reach : Nat} (hb : 2 ≤ b) (t : Qua) (h1 : t.2.1 < ws.length) (h2 : t.2.2.1 < b) (h3 : t.2.2.2 < b) : showsX b ws reach t.1 t.2.1 t.2.2.1 t.2.2.2 = decide (t ∈ swapL b ws reach) := by
  rw [Bool.eq_iff_iff, decide_eq_true_iff, mem_swapL, goodX_iff (by omega), Int.dvd_iff_emod_eq_zero]
  unfold showsX
  rw [Bool.and_eq_true, Bool.and_eq_true, Bool.and_eq_true, decide_eq_true_iff, decide_eq_true_iff, decide_eq_true_iff, Bool.not_eq_true', decide_eq_false_iff_not]
  exact ⟨fun h => ⟨h.1.1, h.1.2, h1, h2, h3, by have := h.2.1; omega, h.2.2⟩, fun h => ⟨⟨h.1, h.2.1⟩, by have := h.2.2.2.2.2.1; omega, h.2.2.2.2.2.2⟩⟩
instance nb3 {t : Tri} : Nb (enc3 t) 1 := by unfold enc3; infer_instance
instance nb4 {t : Qua} : Nb (enc4 t) 1 := by unfold enc4; infer_instance
instance ix3 {t : Tri} : IxC (enc3 t) 1 (.int (t.2.1 : Int)) True := ⟨fun _ => rfl⟩
instance ix4 {t : Qua} : IxC (enc4 t) 2 (.int (t.2.2.1 : Int)) True := ⟨fun _ => rfl⟩
def encV3 : Option Tri → PyData
  | none => allD
  | some t => .tuple [.str "missed", .int (t.1 : Int), .int (t.2.1 : Int), .int (t.2.2 : Int)]
def encV4 : Option Qua → PyData
  | none => allD
  | some t => .tuple [.str "missed", .int (t.1 : Int), .int (t.2.1 : Int), .int (t.2.2.1 : Int), .int (t.2.2.2 : Int)]
instance add3 {t : Tri} : AddC (.tuple [.str "missed"]) (enc3 t) (encV3 (some t)) True := ⟨fun _ => .inr (.inl ⟨_, _, rfl, rfl, by simp, rfl⟩)⟩
instance add4 {t : Qua} : AddC (.tuple [.str "missed"]) (enc4 t) (encV4 (some t)) True := ⟨fun _ => .inr (.inl ⟨_, _, rfl, rfl, by simp, rfl⟩)⟩
theorem dueW_v (ts : List Tri) : dueW ts = encV3 ts.head? := by cases ts <;> rfl
theorem dueX_v (ts : List Qua) : dueX ts = encV4 ts.head? := by cases ts <;> rfl
theorem min3 {b : Nat} {ws : List Int} {t : Tri} {ts : List Tri} (h : someW b ws = t :: ts) : PySem.W.minD (enc3 t) (ts.map enc3) = enc3 t := by
  refine minD_first fun y hy => ?_
  obtain ⟨s, hs, e⟩ := List.mem_map.mp hy
  rw [← e]
  have hp := (wrongL_asc b ws).sublist (List.filter_sublist (p := fun t => decide ((t.2.1 : Int) = 0)))
  have hp : (someW b ws).Pairwise ltT := hp
  rw [h] at hp
  exact lt_enc3 ((List.pairwise_cons.mp hp).1 s hs)
theorem min4 {b : Nat} {ws : List Int} {reach : Nat} {t : Qua} {ts : List Qua} (h : someX b ws reach = t :: ts) : PySem.W.minD (enc4 t) (ts.map enc4) = enc4 t := by
  refine minD_first fun y hy => ?_
  obtain ⟨s, hs, e⟩ := List.mem_map.mp hy
  rw [← e]
  have hp := (swapL_asc b ws reach).sublist (List.filter_sublist (p := fun t => decide ((t.2.2.1 : Int) = 0)))
  have hp : (someX b ws reach).Pairwise ltQ := hp
  rw [h] at hp
  exact lt_enc4 ((List.pairwise_cons.mp hp).1 s hs)
theorem depth3 (ts : List Tri) : PyData.depthAll (ts.map enc3) ≤ 1 := DL.depthAll_map fun t _ => (nb3 (t := t)).d
theorem depth4 (ts : List Qua) : PyData.depthAll (ts.map enc4) ≤ 1 := DL.depthAll_map fun t _ => (nb4 (t := t)).d
instance nbDue3 {ts : List Tri} : Nb (dueW ts) 1 := by cases ts <;> (show Nb (PyData.tuple _) 1; infer_instance)
instance nbDue4 {ts : List Qua} : Nb (dueX ts) 1 := by cases ts <;> (show Nb (PyData.tuple _) 1; infer_instance)
instance nbWrong {b : Int} {ws : List Int} : Nb (wrongF b ws) 1 := by
  unfold wrongF
  split <;> infer_instance
instance nbExch {b : Int} {ws : List Int} {reach : Nat} : Nb (exchF b ws reach) 1 := by
  unfold exchF
  split
  · infer_instance
  · split <;> infer_instance
theorem nil_iff3 {ts us : List Tri} (h : ts = [] ↔ us = []) : (decide (PyData.list (ts.map enc3) = PyData.list []) == decide (PyData.list (us.map enc3) = PyData.list [])) = true := by
  rw [beq_iff_eq]
  refine decide_eq_decide.mpr ?_
  simp only [PyData.list.injEq, List.map_eq_nil_iff]
  exact h
theorem enc3_inj (s t : Tri) (h : enc3 s = enc3 t) : s = t := by
  obtain ⟨p, a, c⟩ := s
  obtain ⟨p', a', c'⟩ := t
  simp [enc3] at h ⊢
  omega
theorem enc4_inj (s t : Qua) (h : enc4 s = enc4 t) : s = t := by
  obtain ⟨p, q, a, c⟩ := s
  obtain ⟨p', q', a', c'⟩ := t
  simp [enc4] at h ⊢
  omega
theorem mem_enc {α : Type} {f : α → PyData} (inj : ∀ x y, f x = f y → x = y) {x : α} {xs : List α} [d1 : Decidable (f x ∈ xs.map f)] [d2 : Decidable (x ∈ xs)] : decide (f x ∈ xs.map f) = decide (x ∈ xs) :=
  decide_eq_decide.mpr ⟨fun h => by obtain ⟨y, hy, e⟩ := List.mem_map.mp h; rw [← inj _ _ e]; exact hy, fun h => List.mem_map.mpr ⟨x, h, rfl⟩⟩
theorem two_of {vs : List Int} (h : vs.length = 2) {k : Int} (hv : ∀ v ∈ vs, 0 ≤ v ∧ v < k) : ∃ p q : Nat, vs = [(p : Int), (q : Int)] ∧ (p : Int) < k ∧ (q : Int) < k := by
  match vs, h with
  | [x, y], _ =>
    have h1 := hv x (by simp)
    have h2 := hv y (by simp)
    exact ⟨x.toNat, y.toNat, by rw [Int.toNat_of_nonneg h1.1, Int.toNat_of_nonneg h2.1], by omega, by omega⟩
theorem nil_enc {α : Type} {f : α → PyData} {xs : List α} [Decidable (xs = [])] : decide (PyData.list (xs.map f) = PyData.list []) = decide (xs = []) := by
  refine decide_eq_decide.mpr ?_
  simp only [PyData.list.injEq, List.map_eq_nil_iff]
instance ixS {b : Int} {ws : List Int} {r : Int} : IxC (encS b ws r) 2 (.int r) True := ⟨fun _ => rfl⟩
abbrev D_finds_wrong (P : Program) (w : World) (K : PySem.W.Frag) (mg : Str → Option Value) (base : Heap) : Prop := HasDef P w K mg base "finds_wrong" 5 ["scheme"] WfindsWrong
abbrev D_finds_exchanged (P : Program) (w : World) (K : PySem.W.Frag) (mg : Str → Option Value) (base : Heap) : Prop := HasDef P w K mg base "finds_exchanged" 5 ["scheme", "reach"] WfindsExch
abbrev D_shows_wrong (P : Program) (w : World) (K : PySem.W.Frag) (mg : Str → Option Value) (base : Heap) : Prop := HasDef P w K mg base "shows_wrong" 6 ["scheme", "value"] WshowsWrong
abbrev D_shows_exchanged (P : Program) (w : World) (K : PySem.W.Frag) (mg : Str → Option Value) (base : Heap) : Prop := HasDef P w K mg base "shows_exchanged" 6 ["scheme", "reach", "value"] WshowsExch
abbrev D_digits_for (P : Program) (w : World) (K : PySem.W.Frag) (mg : Str → Option Value) (base : Heap) : Prop := HasDef P w K mg base "digits_for" 5 ["scheme", "label", "place"] WdigitsFor
abbrev D_is_right (P : Program) (w : World) (K : PySem.W.Frag) (mg : Str → Option Value) (base : Heap) : Prop := HasDef P w K mg base "is_right" 5 ["scheme", "label"] WisRight
abbrev D_law_sum (P : Program) (w : World) (K : PySem.W.Frag) (mg : Str → Option Value) (base : Heap) : Prop := HasDef P w K mg base "_law_sum" 1 ["base", "weights", "label"] Wsum
abbrev D_law_wrong (P : Program) (w : World) (K : PySem.W.Frag) (mg : Str → Option Value) (base : Heap) : Prop := HasDef P w K mg base "_law_wrong" 2 ["base", "weights"] Wwrong
abbrev D_law_swapped (P : Program) (w : World) (K : PySem.W.Frag) (mg : Str → Option Value) (base : Heap) : Prop := HasDef P w K mg base "_law_swapped" 2 ["base", "weights", "reach"] Wswapped
inductive W_law_is_scheme_right : WF
  | mk {π : Pot} {q : DV → Pot → Prop} (n b : Nat) (ws : List Int) (hp : PB π n) (hn : n < 900000) (ok : WOk b ws) (k : ∀ π', PB π' (n + 20) → q (.d (.bool true)) π') : W_law_is_scheme_right [.pot, .d (.int b), .d (encW ws)] π q
abbrev N_law_is_scheme_right : List Str := ["pot", "base", "weights", "scheme", "reach", "wrong", "swapped", "some", "one", "due", "far_due", "values", "value", "so", "spots", "lap", "label", "place", "weight", "fine", "digit"]
theorem sc_law_is_scheme_right : FnScope N_law_is_scheme_right ["pot", "base", "weights"] (defScope (st 48)) := ⟨rfl, rfl, rfl, by decide +kernel, rfl, by decide +kernel, by decide +kernel⟩
section
variable {P : Program} {w : World} {K : PySem.W.Frag} {mg : Str → Option Value} {base : Heap} {f : Addr} {fd : FuncData}
abbrev D_law_is_scheme_right (P : Program) (w : World) (K : PySem.W.Frag) (mg : Str → Option Value) (base : Heap) : Prop := HasDef P w K mg base "_law_is_scheme_right" 7 ["pot", "base", "weights"] W_law_is_scheme_right
theorem ok_law_is_scheme_right (F : Fun K "_law_is_scheme_right" "_law_is_scheme_right" (st 48) f fd) (B : Blt mg) (G : Cst mg) (D_law_wrong : D_law_wrong P w K mg base) (D_law_swapped : D_law_swapped P w K mg base) (D_finds_exchanged : D_finds_exchanged P w K mg base) (D_law_take : D_law_take P w K mg base) (D_digits_for : D_digits_for P w K mg base) (D_is_right : D_is_right P w K mg base) (D_finds_wrong : D_finds_wrong P w K mg base) (D_shows_wrong : D_shows_wrong P w K mg base) (D_shows_exchanged : D_shows_exchanged P w K mg base) (D_law_sum : D_law_sum P w K mg base) (D_law_put : D_law_put P w K mg base) : FnOk P w K mg base CX0 7 f fd ["pot", "base", "weights"] (SpD K W_law_is_scheme_right) := by
  refine ok_def F sc_law_is_scheme_right (fun ds π q h => by cases h; rfl) (fun cdv A outer s H E ds π q C hr hK h => ?_)
  obtain ⟨n, b, ws, hp, hn, ok, k⟩ := h
  obtain ⟨b0, b1, l1, l2, all⟩ := id ok
  refine fs_cons (f1_asg [3, 4] (fe_tuple (fa_consE (fe_tuple (fa_consE (fe_fp (fp_name 1 rfl) (fa_consE (fe_fp (fp_name 2 rfl) (fa_consE (fe_take 0 D_law_take hr (by decide) hK rfl (fp_name 1 rfl) (by first | with_reducible assumption | omega | (simp; done) | (simp; omega) | (simp at *; omega)) (by first | with_reducible assumption | omega | (simp; done) | (simp; omega) | (simp at *; omega)) hp (by first | omega | (simp at *; omega)) (fun d1 π1 d1_0 d1_1 pb1 => (fa_nil ⟨[_, _, _], rfl, (by rw [sizeLine_eq]; simp), (fa_consE (fe_addI (fe_fp fp_int ⟨_, rfl, (fe_take 0 D_law_take hr (by decide) hK rfl fp_int (by first | with_reducible assumption | omega | (simp; done) | (simp; omega) | (simp at *; omega)) (by first | with_reducible assumption | omega | (simp; done) | (simp; omega) | (simp at *; omega)) pb1 (by first | omega | (simp at *; omega)) (fun d2 π2 d2_0 d2_1 pb2 => ⟨_, rfl, (fa_nil ⟨[_, _], rfl, (by rw [sizeLine_eq]; simp), ⟨_, rfl, (fg_tup rfl hK (fgs_cons (fg_name 3 sc_law_is_scheme_right.nd rfl (by first | exact .inl rfl | exact .inr rfl) (fgs_cons (fg_name 4 sc_law_is_scheme_right.nd rfl (by first | exact .inl rfl | exact .inr rfl) (fgs_nil ?_) (by simp) (.inl rfl))) (by simp) (.inl rfl))) rfl rfl)⟩⟩)⟩))⟩)))⟩))))))))))))
  obtain ⟨reach, hre⟩ : ∃ r : Nat, 1 + d2 = (r : Int) := ⟨(1 + d2).toNat, by omega⟩
  rw [hre]
  have hr1 : 1 ≤ reach := by omega
  have hr6 : reach ≤ 6 := by omega
  clear hre
  have sok : SchOk b ws d1 := ⟨by omega, by omega, l1, by omega, all, by omega, by omega⟩
  refine fs_at (z' := ⟨[sp, sd (.int b), sd (encW ws), sd (encS b ws d1), si (reach : Int), .un, .un, .un, .un, .un, .un, .un, .un, .un, .un, .un, .un, .un, .un, .un, .un], π2⟩) rfl ?_
  refine fs_cons (f1_parP (i := 5) (j := 6) rfl sc_law_is_scheme_right.nd (by decide) (fp_def D_law_wrong hr (by decide) hK (fpa_cons (fp_name 1 rfl) (fpa_cons (fp_name 2 rfl) fpa_nil)) (fun _ _ k => ⟨_, _, rfl, (by first | with_reducible assumption | omega | (simp; done) | (simp; omega) | (simp at *; omega)), k⟩)) (fp_def D_law_swapped hr (by decide) hK (fpa_cons (fp_name 1 rfl) (fpa_cons (fp_name 2 rfl) (fpa_cons (fp_name 4 rfl) fpa_nil))) (fun _ _ k => ⟨_, _, _, rfl, (by first | with_reducible assumption | omega | (simp; done) | (simp; omega) | (simp at *; omega)), (by first | with_reducible assumption | omega | (simp; done) | (simp; omega) | (simp at *; omega)), k⟩)) ?_)
  have hlen3 : (wrongL b ws).length ≤ 1000 := by
    unfold wrongL
    exact Nat.le_trans (flat_len _ 144 (fun p => Nat.le_trans (flat_len _ 12 (fun a => Nat.le_trans (flat_len _ 1 (fun c => turnW_len _ _ _ _ _) b) (by omega)) b) (by omega)) _) (by omega)
  have hlen4 : (swapL b ws reach).length ≤ 10000 := by
    unfold swapL
    exact Nat.le_trans (flat_len _ 864 (fun p => Nat.le_trans (flat_len _ 144 (fun k => Nat.le_trans (flat_len _ 12 (fun a => Nat.le_trans (flat_len _ 1 (fun c => turnX_len _ _ _ _ _ _) b) (by omega)) b) (by omega)) _) (by omega)) _) (by omega)
  refine fs_at (z' := ⟨[sp, sd (.int b), sd (encW ws), sd (encS b ws d1), si (reach : Int), sd (.list ((wrongL b ws).map enc3)), sd (.list ((swapL b ws reach).map enc4)), .un, .un, .un, .un, .un, .un, .un, .un, .un, .un, .un, .un, .un, .un], π2⟩) rfl ?_
  refine fs_cons (f1_setLcP 7 rfl sc_law_is_scheme_right.nd (blkOk_by (own := [("one", 8)]) (N := N_law_is_scheme_right) (sc := defScope (st 48)) (by decide +kernel)) (lcp_ifN 8 _ _  _ _ sc_law_is_scheme_right.nd (fip_seqC hK (fp_name 5 rfl)) (by first | omega | (simp; done) | (simp; omega)) rfl (fun v_one m_one s1 H1 cc1 cl1 fp1 C1 hk1 hp1 => ⟨(ft_eqC hr (hk1.trans hK) (fp_ixC (hk1.trans hK) (fp_name 8 rfl) fp_int (by first | with_reducible trivial | with_reducible assumption | omega | (simp; done) | (simp; omega) | (simp at *; omega))) fp_int (by first | with_reducible trivial | with_reducible assumption | (constructor <;> first | rfl | assumption | omega | simp))), fun ht1 => (fp_name 8 rfl)⟩)) ?_)
  refine fs_at (z' := ⟨[sp, sd (.int b), sd (encW ws), sd (encS b ws d1), si (reach : Int), sd (.list ((wrongL b ws).map enc3)), sd (.list ((swapL b ws reach).map enc4)), sd (.list ((someW b ws).map enc3)), .un, .un, .un, .un, .un, .un, .un, .un, .un, .un, .un, .un, .un], π2⟩) rfl ?_
  refine fs_cons (f1_setP 9 sc_law_is_scheme_right.nd (d := dueW (someW b ws)) ?_ ?_)
  · cases hsw : someW b ws with
    | nil => exact fp_is (fp_if (p := false) (x := .none) (fpt_is (ft_neC hr hK (fp_name 7 rfl) (fp_listG fpa_nil (by simp)) ⟨by decide, by decide⟩) (by simp)) (fun h => nomatch h) (fun _ => fp_tupG (fpa_cons (fp_str) fpa_nil) (by simp))) rfl
    | cons t ts => exact fp_is (fp_if (p := true) (y := .none) (fpt_is (ft_neC hr hK (fp_name 7 rfl) (fp_listG fpa_nil (by simp)) ⟨by decide, by decide⟩) (by simp)) (fun _ => fp_addC hK (fp_tupG (fpa_cons fp_str fpa_nil) (by simp)) (fp_is (fp_minD (n := 1) hr hK rfl B.min (fp_name 7 rfl) (alike3 (t :: ts)) (depth3 (t :: ts)) (by decide)) (min3 hsw)) trivial) (fun h => nomatch h)) rfl
  have hww := wrong_due ok
  refine fs_at (z' := ⟨[sp, sd (.int b), sd (encW ws), sd (encS b ws d1), si (reach : Int), sd (.list ((wrongL b ws).map enc3)), sd (.list ((swapL b ws reach).map enc4)), sd (.list ((someW b ws).map enc3)), .un, sd (dueW (someW b ws)), .un, .un, .un, .un, .un, .un, .un, .un, .un, .un, .un], π2⟩) rfl ?_
  refine fs_if_no (ft_w (fw_or (ft_neC hr hK (fp_def D_finds_wrong hr (by decide) hK (fpa_cons (fp_name 3 rfl) fpa_nil) (fun _ _ k => ⟨_, _, _, rfl, (by first | with_reducible assumption | omega | (simp; done) | (simp; omega) | (simp at *; omega)), k⟩)) (fp_name 9 rfl) (by first | with_reducible trivial | with_reducible assumption | (constructor <;> first | rfl | assumption | omega | simp))) fun hb1 => (fw_or1 (ft_neC hr hK (fp_eqC hr hK (fp_name 7 rfl) (fp_listG fpa_nil (by first | decide | (simp; done) | (simp; omega))) (by first | with_reducible trivial | with_reducible assumption | (constructor <;> first | rfl | assumption | omega | simp))) (fp_eqC hr hK (fp_name 5 rfl) (fp_listG fpa_nil (by first | decide | (simp; done) | (simp; omega))) (by first | with_reducible trivial | with_reducible assumption | (constructor <;> first | rfl | assumption | omega | simp))) (by first | with_reducible trivial | with_reducible assumption | (constructor <;> first | rfl | assumption | omega | simp)))))) ?_ ?_
  · rw [hww, nil_iff3 (someW_nil ok)]; simp
  refine fs_cons (f1_setLcP 7 rfl sc_law_is_scheme_right.nd (blkOk_by (own := [("one", 8)]) (N := N_law_is_scheme_right) (sc := defScope (st 48)) (by decide +kernel)) (lcp_ifN 8 _ _  _ _ sc_law_is_scheme_right.nd (fip_seqC hK (fp_name 6 rfl)) (by first | omega | (simp; done) | (simp; omega)) rfl (fun v_one m_one s1 H1 cc1 cl1 fp1 C1 hk1 hp1 => ⟨(ft_eqC hr (hk1.trans hK) (fp_ixC (hk1.trans hK) (fp_name 8 rfl) fp_int (by first | with_reducible trivial | with_reducible assumption | omega | (simp; done) | (simp; omega) | (simp at *; omega))) fp_int (by first | with_reducible trivial | with_reducible assumption | (constructor <;> first | rfl | assumption | omega | simp))), fun ht1 => (fp_name 8 rfl)⟩)) ?_)
  refine fs_at (z' := ⟨[sp, sd (.int b), sd (encW ws), sd (encS b ws d1), si (reach : Int), sd (.list ((wrongL b ws).map enc3)), sd (.list ((swapL b ws reach).map enc4)), sd (.list ((someX b ws reach).map enc4)), .un, sd (dueW (someW b ws)), .un, .un, .un, .un, .un, .un, .un, .un, .un, .un, .un], π2⟩) rfl ?_
  refine fs_cons (f1_setP 10 sc_law_is_scheme_right.nd (d := dueX (someX b ws reach)) ?_ ?_)
  · cases hsw : someX b ws reach with
    | nil => exact fp_is (fp_if (p := false) (x := .none) (fpt_is (ft_neC hr hK (fp_name 7 rfl) (fp_listG fpa_nil (by simp)) ⟨by decide, by decide⟩) (by simp)) (fun h => nomatch h) (fun _ => fp_tupG (fpa_cons (fp_str) fpa_nil) (by simp))) rfl
    | cons t ts => exact fp_is (fp_if (p := true) (y := .none) (fpt_is (ft_neC hr hK (fp_name 7 rfl) (fp_listG fpa_nil (by simp)) ⟨by decide, by decide⟩) (by simp)) (fun _ => fp_addC hK (fp_tupG (fpa_cons fp_str fpa_nil) (by simp)) (fp_is (fp_minD (n := 1) hr hK rfl B.min (fp_name 7 rfl) (alike4 (t :: ts)) (depth4 (t :: ts)) (by decide)) (min4 hsw)) trivial) (fun h => nomatch h)) rfl
  refine fs_at (z' := ⟨[sp, sd (.int b), sd (encW ws), sd (encS b ws d1), si (reach : Int), sd (.list ((wrongL b ws).map enc3)), sd (.list ((swapL b ws reach).map enc4)), sd (.list ((someX b ws reach).map enc4)), .un, sd (dueW (someW b ws)), sd (dueX (someX b ws reach)), .un, .un, .un, .un, .un, .un, .un, .un, .un, .un], π2⟩) rfl ?_
  refine fs_if_no (ft_neC hr hK (fp_def D_finds_exchanged hr (by decide) hK (fpa_cons (fp_name 3 rfl) (fpa_cons (fp_name 4 rfl) fpa_nil)) (fun _ _ k => ⟨_, _, _, _, rfl, (by first | with_reducible assumption | omega | (simp; done) | (simp; omega) | (simp at *; omega)), (by first | with_reducible assumption | omega | (simp; done) | (simp; omega) | (simp at *; omega)), (by first | with_reducible assumption | omega | (simp; done) | (simp; omega) | (simp at *; omega)), k⟩)) (fp_name 10 rfl) (by first | with_reducible trivial | with_reducible assumption | (constructor <;> first | rfl | assumption | omega | simp))) ?_ ?_
  · rw [exch_due b0]; simp
  have hs3 := subL_len (wrongL b ws) (some (-2)) none
  refine fs_cons (f1_setO 11 sc_law_is_scheme_right.nd (fl_flp (flp_cat (flp_listG (fpa_cons (fp_tupG (fpa_cons fp_str fpa_nil) (by first | decide | (simp; done) | (simp; omega))) fpa_nil) (by first | decide | (simp; done) | (simp; omega))) (fun C1 c1 e1 => (flp_of rfl sc_law_is_scheme_right.nd (blkOk_by (own := [("one", 8)]) (N := N_law_is_scheme_right) (sc := defScope (st 48)) (by decide +kernel)) (lcp_mapN 8 _ _  _ sc_law_is_scheme_right.nd (fip_seqC (c1.trans hK) (fp_slC (c1.trans hK) (fp_name 5 rfl) (fo_some (fp_neg fp_int)) fo_none (by first | with_reducible trivial | omega | (simp; done) | (simp; omega)))) (by first | omega | (simp; done) | (simp; omega)) rfl (fun v_one m_one s1 H1 cc1 cl1 fp1 C1 hk1 hp1 => (fp_addC (hk1.trans (c1.trans hK)) (fp_tupG (fpa_cons fp_str fpa_nil) (by first | decide | (simp; done) | (simp; omega))) (fp_name 8 rfl) (by first | with_reducible trivial | (simp; done) | (simp; omega) | omega)))))) (by first | (simp; done) | (simp; omega) | omega)) ?_))
  refine fs_cons (f1_append 11 hK ⟨_, rfl⟩ (fe_tuple (fa_consE (fe_fp fp_str (fa_consE (fe_take 0 D_law_take hr (by decide) hK rfl (fp_lenC hK B.len (fp_name 2 rfl)) (by first | with_reducible assumption | omega | (simp; done) | (simp; omega) | (simp at *; omega)) (by first | with_reducible assumption | omega | (simp; done) | (simp; omega) | (simp at *; omega)) pb2 (by first | omega | (simp at *; omega)) (fun p0 π1 p0_0 p0_1 pb1 => (fa_consE (fe_take 0 D_law_take hr (by decide) hK rfl (fp_name 1 rfl) (by first | with_reducible assumption | omega | (simp; done) | (simp; omega) | (simp at *; omega)) (by first | with_reducible assumption | omega | (simp; done) | (simp; omega) | (simp at *; omega)) pb1 (by first | omega | (simp at *; omega)) (fun a0 π2 a0_0 a0_1 pb2 => (fa_consE (fe_take 0 D_law_take hr (by decide) hK rfl (fp_name 1 rfl) (by first | with_reducible assumption | omega | (simp; done) | (simp; omega) | (simp at *; omega)) (by first | with_reducible assumption | omega | (simp; done) | (simp; omega) | (simp at *; omega)) pb2 (by first | omega | (simp at *; omega)) (fun c0 π3 c0_0 c0_1 pb3 => (fa_nil ⟨[_, _, _, _], rfl, (by rw [sizeLine_eq]; simp), ⟨_, _, rfl, rfl, (by simp; omega), ?_⟩⟩))))))))))))))
  obtain ⟨p, rfl⟩ := Int.eq_ofNat_of_zero_le p0_0
  obtain ⟨a, rfl⟩ := Int.eq_ofNat_of_zero_le a0_0
  obtain ⟨c, rfl⟩ := Int.eq_ofNat_of_zero_le c0_0
  have ev : ([PyData.tuple [PyData.str (Str.ofString "all")]] ++ (subL (wrongL b ws) (some (-2)) none).map (fun v => encV3 (some v)) ++ [PyData.tuple [PyData.str (Str.ofString "missed"), .int (p : Int), .int (a : Int), .int (c : Int)]]) = ((none :: ((subL (wrongL b ws) (some (-2)) none).map some ++ [some (p, a, c)])) : List (Option Tri)).map encV3 := by
    rw [List.map_cons, List.map_append, List.map_map]; rfl
  rw [ev]
  have hvals : ∀ t : Tri, some t ∈ ((none :: ((subL (wrongL b ws) (some (-2)) none).map some ++ [some (p, a, c)])) : List (Option Tri)) → t.1 < ws.length ∧ t.2.1 < b ∧ t.2.2 < b := by
    intro t ht
    simp only [List.mem_cons, List.mem_append, List.mem_map, reduceCtorEq, Option.some.injEq, List.not_mem_nil, or_false, false_or] at ht
    rcases ht with ⟨u, hu, e⟩ | e
    · have := mem_wrongL.mp (subL_mem hu)
      rw [← e]; exact ⟨this.1, this.2.1, this.2.2.1⟩
    · rw [e]; exact ⟨by dsimp only; omega, by dsimp only; omega, by dsimp only; omega⟩
  generalize ((none :: ((subL (wrongL b ws) (some (-2)) none).map some ++ [some (p, a, c)])) : List (Option Tri)) = vals at *
  refine fs_freeze 11 rfl ?_
  refine fs_at (z' := ⟨[sp, sd (.int b), sd (encW ws), sd (encS b ws d1), si (reach : Int), sd (.list ((wrongL b ws).map enc3)), sd (.list ((swapL b ws reach).map enc4)), sd (.list ((someX b ws reach).map enc4)), .un, sd (dueW (someW b ws)), sd (dueX (someX b ws reach)), sd (.list (vals.map encV3)), .un, .un, .un, .un, .un, .un, .un, .un, .un], π3⟩) rfl ?_
  have hwa := wrong_all ok
  refine fs_cons (f1_forP [12] (vals) (encV3) (fun pre z => ∃ s_value s_so, z = ⟨[sp, sd (.int b), sd (encW ws), sd (encS b ws d1), si (reach : Int), sd (.list ((wrongL b ws).map enc3)), sd (.list ((swapL b ws reach).map enc4)), sd (.list ((someX b ws reach).map enc4)), .un, sd (dueW (someW b ws)), sd (dueX (someX b ws reach)), sd (.list (vals.map encV3)), s_value, s_so, .un, .un, .un, .un, .un, .un, .un], π3⟩) PassesOwn.never rfl (fip_seqC hK (fp_name 11 rfl)) ?_ (fun pre_vv vv post_vv hpre_vv z2 hz => ?_) fun z2 hz => ?_)
  · exact ⟨_, _, rfl⟩
  · obtain ⟨s_value, s_so, rfl⟩ := hz
    have hvv := split_mem hpre_vv
    refine (fg_name 12 sc_law_is_scheme_right.nd rfl (by first | exact .inl rfl | exact .inr rfl) ?_ (by simp) (.inl rfl))
    cases vv with
    | none =>
      refine fs_at (z' := ⟨[sp, sd (.int b), sd (encW ws), sd (encS b ws d1), si (reach : Int), sd (.list ((wrongL b ws).map enc3)), sd (.list ((swapL b ws reach).map enc4)), sd (.list ((someX b ws reach).map enc4)), .un, sd (dueW (someW b ws)), sd (dueX (someX b ws reach)), sd (.list (vals.map encV3)), sd allD, s_so, .un, .un, .un, .un, .un, .un, .un], π3⟩) rfl ?_
      refine fs_cons (f1_setP 13 sc_law_is_scheme_right.nd (d := .bool (decide (wrongL b ws = []))) (fp_is (fp_if (ft_eqC hr hK (fp_name 12 rfl) (fp_tupG (fpa_cons fp_str fpa_nil) (by first | decide | (simp; done) | (simp; omega))) (by first | with_reducible trivial | with_reducible assumption | (constructor <;> first | rfl | assumption | omega | simp))) (fun hi1 => (fp_eqC hr hK (fp_name 5 rfl) (fp_listG fpa_nil (by first | decide | (simp; done) | (simp; omega))) (by first | with_reducible trivial | with_reducible assumption | (constructor <;> first | rfl | assumption | omega | simp)))) (fun hi1 => (fp_inC (room_units hr) hK (fp_slC hK (fp_name 12 rfl) (fo_some fp_int) fo_none (by first | with_reducible trivial | omega | (simp; done) | (simp; omega))) (fp_name 5 rfl) (by first | with_reducible trivial | with_reducible assumption | (constructor <;> first | rfl | assumption | omega | simp))))) ?_) ?_)
      · rw [if_pos (by simp), nil_enc]
      refine fs_at (z' := ⟨[sp, sd (.int b), sd (encW ws), sd (encS b ws d1), si (reach : Int), sd (.list ((wrongL b ws).map enc3)), sd (.list ((swapL b ws reach).map enc4)), sd (.list ((someX b ws reach).map enc4)), .un, sd (dueW (someW b ws)), sd (dueX (someX b ws reach)), sd (.list (vals.map encV3)), sd allD, sd (.bool (decide (wrongL b ws = []))), .un, .un, .un, .un, .un, .un, .un], π3⟩) rfl ?_
      refine fs_if_no (ft_neC hr hK (fp_def D_shows_wrong hr (by decide) hK (fpa_cons (fp_name 3 rfl) (fpa_cons (fp_name 12 rfl) fpa_nil)) (fun _ _ k => ⟨_, _, _, _, rfl, (by first | with_reducible assumption | omega | (simp; done) | (simp; omega) | (simp at *; omega)), .inl ⟨rfl, k⟩⟩)) (fp_name 13 rfl) (by first | with_reducible trivial | with_reducible assumption | (constructor <;> first | rfl | assumption | omega | simp))) ?_ ?_
      · rw [hwa]; simp
      · exact fs_nil ⟨_, _, rfl⟩
    | some t =>
      obtain ⟨t1, t2, t3⟩ := hvals t hvv
      refine fs_at (z' := ⟨[sp, sd (.int b), sd (encW ws), sd (encS b ws d1), si (reach : Int), sd (.list ((wrongL b ws).map enc3)), sd (.list ((swapL b ws reach).map enc4)), sd (.list ((someX b ws reach).map enc4)), .un, sd (dueW (someW b ws)), sd (dueX (someX b ws reach)), sd (.list (vals.map encV3)), sd (.tuple [.str "missed", .int (t.1 : Int), .int (t.2.1 : Int), .int (t.2.2 : Int)]), s_so, .un, .un, .un, .un, .un, .un, .un], π3⟩) rfl ?_
      refine fs_cons (f1_setP 13 sc_law_is_scheme_right.nd (d := .bool (decide (t ∈ wrongL b ws))) (fp_is (fp_if (ft_eqC hr hK (fp_name 12 rfl) (fp_tupG (fpa_cons fp_str fpa_nil) (by first | decide | (simp; done) | (simp; omega))) (by first | with_reducible trivial | with_reducible assumption | (constructor <;> first | rfl | assumption | omega | simp))) (fun hi1 => (fp_eqC hr hK (fp_name 5 rfl) (fp_listG fpa_nil (by first | decide | (simp; done) | (simp; omega))) (by first | with_reducible trivial | with_reducible assumption | (constructor <;> first | rfl | assumption | omega | simp)))) (fun hi1 => (fp_inC (room_units hr) hK (fp_slC hK (fp_name 12 rfl) (fo_some fp_int) fo_none (by first | with_reducible trivial | omega | (simp; done) | (simp; omega))) (fp_name 5 rfl) (by first | with_reducible trivial | with_reducible assumption | (constructor <;> first | rfl | assumption | omega | simp))))) ?_) ?_)
      · rw [if_neg (by simp), show DL.cutD [PyData.str (Str.ofString "missed"), .int (t.1 : Int), .int (t.2.1 : Int), .int (t.2.2 : Int)] (some 1) none = [.int (t.1 : Int), .int (t.2.1 : Int), .int (t.2.2 : Int)] from rfl]
        exact congrArg PyData.bool (mem_enc enc3_inj (x := t) (xs := wrongL b ws))
      refine fs_at (z' := ⟨[sp, sd (.int b), sd (encW ws), sd (encS b ws d1), si (reach : Int), sd (.list ((wrongL b ws).map enc3)), sd (.list ((swapL b ws reach).map enc4)), sd (.list ((someX b ws reach).map enc4)), .un, sd (dueW (someW b ws)), sd (dueX (someX b ws reach)), sd (.list (vals.map encV3)), sd (.tuple [.str "missed", .int (t.1 : Int), .int (t.2.1 : Int), .int (t.2.2 : Int)]), sd (.bool (decide (t ∈ wrongL b ws))), .un, .un, .un, .un, .un, .un, .un], π3⟩) rfl ?_
      have hsw := showsW_mem b0 t t1 t2 t3
      refine fs_if_no (ft_neC hr hK (fp_def D_shows_wrong hr (by decide) hK (fpa_cons (fp_name 3 rfl) (fpa_cons (fp_name 12 rfl) fpa_nil)) (fun _ _ k => ⟨_, _, _, _, rfl, (by first | with_reducible assumption | omega | (simp; done) | (simp; omega) | (simp at *; omega)), .inr ⟨t.1, (t.2.1 : Int), (t.2.2 : Int), rfl, by omega, by omega, by omega, by omega, by omega, k⟩⟩)) (fp_name 13 rfl) (by first | with_reducible trivial | with_reducible assumption | (constructor <;> first | rfl | assumption | omega | simp))) ?_ ?_
      · rw [hsw]; simp
      · exact fs_nil ⟨_, _, rfl⟩
  · obtain ⟨s_value, s_so, rfl⟩ := hz
    refine fs_cons (f1_set 14 sc_law_is_scheme_right.nd rfl (by first | exact .inl rfl | exact .inr rfl) (fe_fl (fl_cat (fl_lc rfl sc_law_is_scheme_right.nd (blkOk_by (own := [("lap", 15)]) (N := N_law_is_scheme_right) (sc := defScope (st 48)) (by decide +kernel)) (fi_draw 15 (PyData.int) (fun v : Int => 0 ≤ v ∧ v < (ws.length : Int)) 1 _ sc_law_is_scheme_right.nd (fi_fip (fip_rangeN B.range fp_int (by first | with_reducible assumption | omega | (simp; done) | (simp; omega) | (simp at *; omega)) (by first | with_reducible assumption | omega | (simp; done) | (simp; omega) | (simp at *; omega))) ⟨(by first | omega | (simp; done) | (simp; omega)), rfl, pb3, (fun v_lap m_lap k1 ρ1 kl1 pbk1 s1 H1 cc1 cl1 fp1 C1 hk1 hp1 => (fe_take 0 D_law_take hr (by decide) (hk1.trans hK) rfl (fp_lenC (hk1.trans hK) B.len (fp_name 2 rfl)) (by first | with_reducible assumption | omega | (simp; done) | (simp; omega) | (simp at *; omega)) (by first | with_reducible assumption | omega | (simp; done) | (simp; omega) | (simp at *; omega)) pbk1 (by first | omega | (simp at *; omega)) (fun d1 π1 d1_0 d1_1 pb1 => ⟨_, rfl, rfl, (by first | with_reducible trivial | exact ⟨by omega, by omega⟩ | omega | with_reducible assumption), (PB.mono pb1 (by omega))⟩))), fun vs1 π10 vl1 va1 pbv1 => (fun C1 cK1 cP1 => (fl_lc rfl sc_law_is_scheme_right.nd (blkOk_by (own := [("lap", 15)]) (N := N_law_is_scheme_right) (sc := defScope (st 48)) (by decide +kernel)) (fi_draw 15 (PyData.int) (fun v : Int => 0 ≤ v ∧ v < (b : Int)) 1 _ sc_law_is_scheme_right.nd (fi_fip (fip_rangeN B.range fp_int (by first | with_reducible assumption | omega | (simp; done) | (simp; omega) | (simp at *; omega)) (by first | with_reducible assumption | omega | (simp; done) | (simp; omega) | (simp at *; omega))) ⟨(by first | omega | (simp; done) | (simp; omega)), rfl, pbv1, (fun v_lap m_lap k2 ρ2 kl2 pbk2 s2 H2 cc2 cl2 fp2 C2 hk2 hp2 => (fe_take 0 D_law_take hr (by decide) (hk2.trans (cK1.trans hK)) rfl (fp_name 1 rfl) (by first | with_reducible assumption | omega | (simp; done) | (simp; omega) | (simp at *; omega)) (by first | with_reducible assumption | omega | (simp; done) | (simp; omega) | (simp at *; omega)) pbk2 (by first | omega | (simp at *; omega)) (fun d2 π2 d2_0 d2_1 pb2 => ⟨_, rfl, rfl, (by first | with_reducible trivial | exact ⟨by omega, by omega⟩ | omega | with_reducible assumption), (PB.mono pb2 (by omega))⟩))), fun vs2 π20 vl2 va2 pbv2 => ⟨rfl, (by first | (simp; done) | (simp; omega) | (simp at *; omega)), ?_⟩⟩))))⟩))))))
    simp only [List.length_map, List.length_range] at vl1 vl2 pbv2
    have vl1 : vs1.length = 2 := vl1
    have vl2 : vs2.length = 2 := vl2
    have pbv2 : PB π20 (n + 9) := pbv2.mono (by omega)
    obtain ⟨p4, q4, rfl, hp4, hq4⟩ := two_of vl1 va1
    obtain ⟨a4, c4, rfl, ha4, hc4⟩ := two_of vl2 va2
    refine fs_at (z' := ⟨[sp, sd (.int b), sd (encW ws), sd (encS b ws d1), si (reach : Int), sd (.list ((wrongL b ws).map enc3)), sd (.list ((swapL b ws reach).map enc4)), sd (.list ((someX b ws reach).map enc4)), .un, sd (dueW (someW b ws)), sd (dueX (someX b ws reach)), sd (.list (vals.map encV3)), s_value, s_so, sd (.list [.int (p4 : Int), .int (q4 : Int), .int (a4 : Int), .int (c4 : Int)]), .un, .un, .un, .un, .un, .un], π20⟩) rfl ?_
    have hs4 := subL_len (swapL b ws reach) (some (-2)) none
    refine fs_cons (f1_forP [12] (((none :: some (p4, q4, a4, c4) :: (subL (swapL b ws reach) (some (-2)) none).map some) : List (Option Qua))) (encV4) (fun pre z => ∃ s_value s_so, z = ⟨[sp, sd (.int b), sd (encW ws), sd (encS b ws d1), si (reach : Int), sd (.list ((wrongL b ws).map enc3)), sd (.list ((swapL b ws reach).map enc4)), sd (.list ((someX b ws reach).map enc4)), .un, sd (dueW (someW b ws)), sd (dueX (someX b ws reach)), sd (.list (vals.map encV3)), s_value, s_so, sd (.list [.int (p4 : Int), .int (q4 : Int), .int (a4 : Int), .int (c4 : Int)]), .un, .un, .un, .un, .un, .un], π20⟩) PassesOwn.never rfl (fip_is (fip_seqC hK (fp_fl (flp_cat (flp_listG (fpa_cons (fp_tupG (fpa_cons fp_str fpa_nil) (by first | decide | (simp; done) | (simp; omega))) (fpa_cons (fp_addC hK (fp_tupG (fpa_cons fp_str fpa_nil) (by first | decide | (simp; done) | (simp; omega))) (fp_tupleC hK B.tuple (fp_name 14 rfl)) (by first | with_reducible trivial | (simp; done) | (simp; omega) | omega)) fpa_nil)) (by first | decide | (simp; done) | (simp; omega))) (fun C1 c1 e1 => (flp_of rfl sc_law_is_scheme_right.nd (blkOk_by (own := [("one", 8)]) (N := N_law_is_scheme_right) (sc := defScope (st 48)) (by decide +kernel)) (lcp_mapN 8 _ _  _ sc_law_is_scheme_right.nd (fip_seqC (c1.trans hK) (fp_slC (c1.trans hK) (fp_name 6 rfl) (fo_some (fp_neg fp_int)) fo_none (by first | with_reducible trivial | omega | (simp; done) | (simp; omega)))) (by first | omega | (simp; done) | (simp; omega)) rfl (fun v_one m_one s1 H1 cc1 cl1 fp1 C1 hk1 hp1 => (fp_addC (hk1.trans (c1.trans hK)) (fp_tupG (fpa_cons fp_str fpa_nil) (by first | decide | (simp; done) | (simp; omega))) (fp_name 8 rfl) (by first | with_reducible trivial | (simp; done) | (simp; omega) | omega)))))) (by first | (simp; done) | (simp; omega) | omega)))) ?_) ?_ (fun pre_vx vx post_vx hpre_vx z2 hz => ?_) fun z2 hz => ?_)
    · rw [List.map_cons, List.map_cons, List.map_map]; rfl
    · exact ⟨_, _, rfl⟩
    · obtain ⟨s_value, s_so, rfl⟩ := hz
      have hvx := split_mem hpre_vx
      have hxs : ∀ t : Qua, vx = some t → t.1 < ws.length ∧ t.2.1 < ws.length ∧ t.2.2.1 < b ∧ t.2.2.2 < b := by
        intro t ht
        rw [ht] at hvx
        simp only [List.mem_cons, List.mem_map, reduceCtorEq, Option.some.injEq, false_or] at hvx
        rcases hvx with e | ⟨u, hu, e⟩
        · rw [e]; exact ⟨by dsimp only; omega, by dsimp only; omega, by dsimp only; omega, by dsimp only; omega⟩
        · have := mem_swapL.mp (subL_mem hu)
          rw [← e]; exact ⟨by omega, this.2.2.1, this.2.2.2.1, this.2.2.2.2.1⟩
      have hxa := swap_all (ws := ws) (reach := reach) b0
      refine (fg_name 12 sc_law_is_scheme_right.nd rfl (by first | exact .inl rfl | exact .inr rfl) ?_ (by simp) (.inl rfl))
      cases vx with
      | none =>
        refine fs_at (z' := ⟨[sp, sd (.int b), sd (encW ws), sd (encS b ws d1), si (reach : Int), sd (.list ((wrongL b ws).map enc3)), sd (.list ((swapL b ws reach).map enc4)), sd (.list ((someX b ws reach).map enc4)), .un, sd (dueW (someW b ws)), sd (dueX (someX b ws reach)), sd (.list (vals.map encV3)), sd allD, s_so, sd (.list [.int (p4 : Int), .int (q4 : Int), .int (a4 : Int), .int (c4 : Int)]), .un, .un, .un, .un, .un, .un], π20⟩) rfl ?_
        refine fs_cons (f1_setP 13 sc_law_is_scheme_right.nd (d := .bool (decide (swapL b ws reach = []))) (fp_is (fp_if (ft_eqC hr hK (fp_name 12 rfl) (fp_tupG (fpa_cons fp_str fpa_nil) (by first | decide | (simp; done) | (simp; omega))) (by first | with_reducible trivial | with_reducible assumption | (constructor <;> first | rfl | assumption | omega | simp))) (fun hi1 => (fp_eqC hr hK (fp_name 6 rfl) (fp_listG fpa_nil (by first | decide | (simp; done) | (simp; omega))) (by first | with_reducible trivial | with_reducible assumption | (constructor <;> first | rfl | assumption | omega | simp)))) (fun hi1 => (fp_inC (room_units hr) hK (fp_slC hK (fp_name 12 rfl) (fo_some fp_int) fo_none (by first | with_reducible trivial | omega | (simp; done) | (simp; omega))) (fp_name 6 rfl) (by first | with_reducible trivial | with_reducible assumption | (constructor <;> first | rfl | assumption | omega | simp))))) ?_) ?_)
        · rw [if_pos (by simp), nil_enc]
        refine fs_at (z' := ⟨[sp, sd (.int b), sd (encW ws), sd (encS b ws d1), si (reach : Int), sd (.list ((wrongL b ws).map enc3)), sd (.list ((swapL b ws reach).map enc4)), sd (.list ((someX b ws reach).map enc4)), .un, sd (dueW (someW b ws)), sd (dueX (someX b ws reach)), sd (.list (vals.map encV3)), sd allD, sd (.bool (decide (swapL b ws reach = []))), sd (.list [.int (p4 : Int), .int (q4 : Int), .int (a4 : Int), .int (c4 : Int)]), .un, .un, .un, .un, .un, .un], π20⟩) rfl ?_
        refine fs_if_no (ft_neC hr hK (fp_def D_shows_exchanged hr (by decide) hK (fpa_cons (fp_name 3 rfl) (fpa_cons (fp_name 4 rfl) (fpa_cons (fp_name 12 rfl) fpa_nil))) (fun _ _ k => ⟨_, _, _, _, _, rfl, (by first | with_reducible assumption | omega | (simp; done) | (simp; omega) | (simp at *; omega)), (by first | with_reducible assumption | omega | (simp; done) | (simp; omega) | (simp at *; omega)), (by first | with_reducible assumption | omega | (simp; done) | (simp; omega) | (simp at *; omega)), .inl ⟨rfl, k⟩⟩)) (fp_name 13 rfl) (by first | with_reducible trivial | with_reducible assumption | (constructor <;> first | rfl | assumption | omega | simp))) ?_ ?_
        · rw [hxa]; simp
        · exact fs_nil ⟨_, _, rfl⟩
      | some t =>
        obtain ⟨t1, t2, t3, t4⟩ := hxs t rfl
        refine fs_at (z' := ⟨[sp, sd (.int b), sd (encW ws), sd (encS b ws d1), si (reach : Int), sd (.list ((wrongL b ws).map enc3)), sd (.list ((swapL b ws reach).map enc4)), sd (.list ((someX b ws reach).map enc4)), .un, sd (dueW (someW b ws)), sd (dueX (someX b ws reach)), sd (.list (vals.map encV3)), sd (.tuple [.str "missed", .int (t.1 : Int), .int (t.2.1 : Int), .int (t.2.2.1 : Int), .int (t.2.2.2 : Int)]), s_so, sd (.list [.int (p4 : Int), .int (q4 : Int), .int (a4 : Int), .int (c4 : Int)]), .un, .un, .un, .un, .un, .un], π20⟩) rfl ?_
        refine fs_cons (f1_setP 13 sc_law_is_scheme_right.nd (d := .bool (decide (t ∈ swapL b ws reach))) (fp_is (fp_if (ft_eqC hr hK (fp_name 12 rfl) (fp_tupG (fpa_cons fp_str fpa_nil) (by first | decide | (simp; done) | (simp; omega))) (by first | with_reducible trivial | with_reducible assumption | (constructor <;> first | rfl | assumption | omega | simp))) (fun hi1 => (fp_eqC hr hK (fp_name 6 rfl) (fp_listG fpa_nil (by first | decide | (simp; done) | (simp; omega))) (by first | with_reducible trivial | with_reducible assumption | (constructor <;> first | rfl | assumption | omega | simp)))) (fun hi1 => (fp_inC (room_units hr) hK (fp_slC hK (fp_name 12 rfl) (fo_some fp_int) fo_none (by first | with_reducible trivial | omega | (simp; done) | (simp; omega))) (fp_name 6 rfl) (by first | with_reducible trivial | with_reducible assumption | (constructor <;> first | rfl | assumption | omega | simp))))) ?_) ?_)
        · rw [if_neg (by simp), show DL.cutD [PyData.str (Str.ofString "missed"), .int (t.1 : Int), .int (t.2.1 : Int), .int (t.2.2.1 : Int), .int (t.2.2.2 : Int)] (some 1) none = [.int (t.1 : Int), .int (t.2.1 : Int), .int (t.2.2.1 : Int), .int (t.2.2.2 : Int)] from rfl]
          exact congrArg PyData.bool (mem_enc enc4_inj (x := t) (xs := swapL b ws reach))
        refine fs_at (z' := ⟨[sp, sd (.int b), sd (encW ws), sd (encS b ws d1), si (reach : Int), sd (.list ((wrongL b ws).map enc3)), sd (.list ((swapL b ws reach).map enc4)), sd (.list ((someX b ws reach).map enc4)), .un, sd (dueW (someW b ws)), sd (dueX (someX b ws reach)), sd (.list (vals.map encV3)), sd (.tuple [.str "missed", .int (t.1 : Int), .int (t.2.1 : Int), .int (t.2.2.1 : Int), .int (t.2.2.2 : Int)]), sd (.bool (decide (t ∈ swapL b ws reach))), sd (.list [.int (p4 : Int), .int (q4 : Int), .int (a4 : Int), .int (c4 : Int)]), .un, .un, .un, .un, .un, .un], π20⟩) rfl ?_
        have hsw := showsX_mem (reach := reach) b0 t t2 t3 t4
        refine fs_if_no (ft_neC hr hK (fp_def D_shows_exchanged hr (by decide) hK (fpa_cons (fp_name 3 rfl) (fpa_cons (fp_name 4 rfl) (fpa_cons (fp_name 12 rfl) fpa_nil))) (fun _ _ k => ⟨_, _, _, _, _, rfl, (by first | with_reducible assumption | omega | (simp; done) | (simp; omega) | (simp at *; omega)), (by first | with_reducible assumption | omega | (simp; done) | (simp; omega) | (simp at *; omega)), (by first | with_reducible assumption | omega | (simp; done) | (simp; omega) | (simp at *; omega)), .inr ⟨t.1, t.2.1, (t.2.2.1 : Int), (t.2.2.2 : Int), rfl, by omega, by omega, by omega, by omega, by omega, by omega, k⟩⟩)) (fp_name 13 rfl) (by first | with_reducible trivial | with_reducible assumption | (constructor <;> first | rfl | assumption | omega | simp))) ?_ ?_
        · rw [hsw]; simp
        · exact fs_nil ⟨_, _, rfl⟩
    · obtain ⟨s_value, s_so, rfl⟩ := hz
      refine fs_cons (f1_asg [16, 17] (fe_tuple (fa_consE (fe_tupleOf hK B.tuple (fe_fl (fl_lc rfl sc_law_is_scheme_right.nd (blkOk_by (own := [("weight", 18)]) (N := N_law_is_scheme_right) (sc := defScope (st 48)) (by decide +kernel)) (fi_draw 18 (PyData.int) (fun v : Int => 0 ≤ v ∧ v < (b : Int)) 1 _ sc_law_is_scheme_right.nd (fi_fip (fip_seqC hK (fp_name 2 rfl)) ⟨(by first | omega | (simp; done) | (simp; omega)), rfl, pbv2, (fun v_weight m_weight k1 ρ1 kl1 pbk1 s1 H1 cc1 cl1 fp1 C1 hk1 hp1 => (fe_take 0 D_law_take hr (by decide) (hk1.trans hK) rfl (fp_name 1 rfl) (by first | with_reducible assumption | omega | (simp; done) | (simp; omega) | (simp at *; omega)) (by first | with_reducible assumption | omega | (simp; done) | (simp; omega) | (simp at *; omega)) pbk1 (by first | omega | (simp at *; omega)) (fun d1 π1 d1_0 d1_1 pb1 => ⟨_, rfl, rfl, (by first | with_reducible trivial | exact ⟨by omega, by omega⟩ | omega | with_reducible assumption), (PB.mono pb1 (by omega))⟩))), fun vs1 π10 vl1 va1 pbv1 => ⟨_, .inl rfl, (fa_consE (fe_take 0 D_law_take hr (by decide) hK rfl (fp_lenC hK B.len (fp_name 2 rfl)) (by first | with_reducible assumption | omega | (simp; done) | (simp; omega) | (simp at *; omega)) (by first | with_reducible assumption | omega | (simp; done) | (simp; omega) | (simp at *; omega)) pbv1 (by first | omega | (simp at *; omega)) (fun d2 π2 d2_0 d2_1 pb2 => (fa_nil ⟨[_, _], rfl, (by rw [sizeLine_eq]; simp), ⟨_, rfl, (fg_tup rfl hK (fgs_cons (fg_name 16 sc_law_is_scheme_right.nd rfl (by first | exact .inl rfl | exact .inr rfl) (fgs_cons (fg_name 17 sc_law_is_scheme_right.nd rfl (by first | exact .inl rfl | exact .inr rfl) (fgs_nil ?_) (by simp) (.inl rfl))) (by simp) (.inl rfl))) rfl rfl)⟩⟩))))⟩⟩))))))))
      simp only [List.length_map] at vl1 pbv1 pb2
      obtain ⟨pl, rfl⟩ := Int.eq_ofNat_of_zero_le d2_0
      have hpl : pl < ws.length := by omega
      have lab : LabOk b ws vs1 := ⟨vl1, fun w hw => by have := va1 w hw; omega⟩
      have h40 : ∀ x ∈ ws, 0 ≤ x ∧ x ≤ 40 := fun x hx => by have := all x hx; omega
      refine fs_at (z' := ⟨[sp, sd (.int b), sd (encW ws), sd (encS b ws d1), si (reach : Int), sd (.list ((wrongL b ws).map enc3)), sd (.list ((swapL b ws reach).map enc4)), sd (.list ((someX b ws reach).map enc4)), .un, sd (dueW (someW b ws)), sd (dueX (someX b ws reach)), sd (.list (vals.map encV3)), s_value, s_so, sd (.list [.int (p4 : Int), .int (q4 : Int), .int (a4 : Int), .int (c4 : Int)]), .un, sd (encW vs1), si (pl : Int), .un, .un, .un], π2⟩) rfl ?_
      refine fs_cons (f1_setLcP 19 rfl sc_law_is_scheme_right.nd (blkOk_by (own := [("digit", 20)]) (N := N_law_is_scheme_right) (sc := defScope (st 48)) (by decide +kernel)) (lcp_ifN 20 _ _  _ _ sc_law_is_scheme_right.nd (fip_rangeN B.range (fp_name 1 rfl) (by first | with_reducible assumption | omega | (simp; done) | (simp; omega) | (simp at *; omega)) (by first | with_reducible assumption | omega | (simp; done) | (simp; omega) | (simp at *; omega))) (by first | omega | (simp; done) | (simp; omega)) rfl (fun v_digit m_digit s1 H1 cc1 cl1 fp1 C1 hk1 hp1 => ⟨(ft_eqC hr (hk1.trans hK) (fp_def D_law_sum hr (by decide) (hk1.trans hK) (fpa_cons (fp_name 1 rfl) (fpa_cons (fp_name 2 rfl) (fpa_cons (fp_def D_law_put hr (by decide) (hk1.trans hK) (fpa_cons (fp_name 16 rfl) (fpa_cons (fp_name 17 rfl) (fpa_cons (fp_name 20 rfl) fpa_nil))) (fun _ _ k => W_law_put.mk _ _ _ _ _ (by first | with_reducible assumption | omega | (simp; done) | (simp; omega) | (simp at *; omega)) k)) fpa_nil))) (fun _ _ k => ⟨_, _, _, rfl, (by first | with_reducible assumption | omega | (simp; done) | (simp; omega) | (simp at *; omega)), (by first | with_reducible assumption | omega | (simp; done) | (simp; omega) | (simp at *; omega)), (by first | with_reducible assumption | omega | (simp; done) | (simp; omega) | (simp at *; omega)), k⟩)) (fp_ixC (hk1.trans hK) (fp_name 3 rfl) fp_int (by first | with_reducible trivial | with_reducible assumption | omega | (simp; done) | (simp; omega) | (simp at *; omega))) (by first | with_reducible trivial | with_reducible assumption | (constructor <;> first | rfl | assumption | omega | simp))), fun ht1 => (fp_name 20 rfl)⟩)) ?_)
      refine fs_if_no (ft_neC hr hK (fp_def D_digits_for hr (by decide) hK (fpa_cons (fp_name 3 rfl) (fpa_cons (fp_name 16 rfl) (fpa_cons (fp_name 17 rfl) fpa_nil))) (fun _ _ k => ⟨_, _, _, _, _, rfl, (by first | with_reducible assumption | omega | (simp; done) | (simp; omega) | (simp at *; omega)), (by first | with_reducible assumption | omega | (simp; done) | (simp; omega) | (simp at *; omega)), (by first | with_reducible assumption | omega | (simp; done) | (simp; omega) | (simp at *; omega)), k⟩)) (fp_tupleC hK B.tuple (fp_name 19 rfl)) (by first | with_reducible trivial | with_reducible assumption | (constructor <;> first | rfl | assumption | omega | simp))) ?_ ?_
      · rw [Bool.not_eq_false', decide_eq_true_iff]; rfl
      refine fs_one (f1_retP (fp_is (fp_eqC hr hK (fp_def D_is_right hr (by decide) hK (fpa_cons (fp_name 3 rfl) (fpa_cons (fp_name 16 rfl) fpa_nil)) (fun _ _ k => ⟨_, _, _, _, rfl, (by first | with_reducible assumption | omega | (simp; done) | (simp; omega) | (simp at *; omega)), (by first | with_reducible assumption | omega | (simp; done) | (simp; omega) | (simp at *; omega)), k⟩)) (fp_eqC hr hK (fp_def D_law_sum hr (by decide) hK (fpa_cons (fp_name 1 rfl) (fpa_cons (fp_name 2 rfl) (fpa_cons (fp_name 16 rfl) fpa_nil))) (fun _ _ k => ⟨_, _, _, rfl, (by first | with_reducible assumption | omega | (simp; done) | (simp; omega) | (simp at *; omega)), (by first | with_reducible assumption | omega | (simp; done) | (simp; omega) | (simp at *; omega)), (by first | with_reducible assumption | omega | (simp; done) | (simp; omega) | (simp at *; omega)), k⟩)) (fp_ixC hK (fp_name 3 rfl) fp_int (by first | with_reducible trivial | with_reducible assumption | omega | (simp; done) | (simp; omega) | (simp at *; omega))) (by first | with_reducible trivial | with_reducible assumption | (constructor <;> first | rfl | assumption | omega | simp))) (by first | with_reducible trivial | with_reducible assumption | (constructor <;> first | rfl | assumption | omega | simp))) (show _ = .bool true from ?_)) ?_)
      · unfold isR; simp
      · exact k _ (pb2.mono (by omega))
end
inductive W_law_right : WF
  | mk {π : Pot} {q : DV → Pot → Prop} (n : Nat) (hp : PB π n) (hn : n < 800000) (law : TenLaw) (k : ∀ π', PB π' (n + 80) → q (.d (.bool true)) π') : W_law_right [.pot] π q
abbrev N_law_right : List Str := ["pot", "base", "weights", "place", "weight"]
theorem sc_law_right : FnScope N_law_right ["pot"] (defScope (st 55)) := ⟨rfl, rfl, rfl, by decide +kernel, rfl, by decide +kernel, by decide +kernel⟩
section
variable {P : Program} {w : World} {K : PySem.W.Frag} {mg : Str → Option Value} {base : Heap} {f : Addr} {fd : FuncData}
abbrev D_law_right (P : Program) (w : World) (K : PySem.W.Frag) (mg : Str → Option Value) (base : Heap) : Prop := HasDef P w K mg base "_law_right" 8 ["pot"] W_law_right
theorem ok_law_right (F : Fun K "_law_right" "_law_right" (st 55) f fd) (B : Blt mg) (G : Cst mg) (D_law_take : D_law_take P w K mg base) (D_law_is_scheme_right : D_law_is_scheme_right P w K mg base) (D_law_is_best_right : D_law_is_best_right P w K mg base) (D_law_are_ten_right : D_law_are_ten_right P w K mg base) : FnOk P w K mg base CX0 8 f fd ["pot"] (SpD K W_law_right) := by
  refine ok_def F sc_law_right (fun ds π q h => by cases h; rfl) (fun cdv A outer s H E ds π q C hr hK h => ?_)
  obtain ⟨n, hp, hn, law, k⟩ := h
  refine fs_cons (f1_set 1 sc_law_right.nd rfl (by first | exact .inl rfl | exact .inr rfl) (fe_addI (fe_fp fp_int ⟨_, rfl, (fe_take 0 D_law_take hr (by decide) hK rfl fp_int (by first | with_reducible assumption | omega | (simp; done) | (simp; omega) | (simp at *; omega)) (by first | with_reducible assumption | omega | (simp; done) | (simp; omega) | (simp at *; omega)) hp (by first | omega | (simp at *; omega)) (fun d1 π1 d1_0 d1_1 pb1 => ⟨_, rfl, ?_⟩))⟩)))
  obtain ⟨b, hb⟩ : ∃ b : Nat, 2 + d1 = (b : Int) := ⟨(2 + d1).toNat, by omega⟩
  rw [hb]
  have b0 : 2 ≤ b := by omega
  have b1 : b ≤ 12 := by omega
  clear hb
  refine fs_at (z' := ⟨[sp, si (b : Int), .un, .un, .un], π1⟩) rfl ?_
  refine fs_cons (f1_set 2 sc_law_right.nd rfl (by first | exact .inl rfl | exact .inr rfl) (fe_tupleOf hK B.tuple (fe_fl (fl_lc rfl sc_law_right.nd (blkOk_by (own := [("place", 3)]) (N := N_law_right) (sc := defScope (st 55)) (by decide +kernel)) (fi_draw 3 (PyData.int) (fun v : Int => 0 ≤ v ∧ v ≤ (b : Int) - 1) 1 _ sc_law_right.nd (fi_rangeN B.range (fe_addI (fe_fp fp_int ⟨_, rfl, (fe_take 0 D_law_take hr (by decide) hK rfl fp_int (by first | with_reducible assumption | omega | (simp; done) | (simp; omega) | (simp at *; omega)) (by first | with_reducible assumption | omega | (simp; done) | (simp; omega) | (simp at *; omega)) pb1 (by first | omega | (simp at *; omega)) (fun d1 π1 d1_0 d1_1 pb1 => ⟨_, rfl, ⟨_, rfl, (by first | with_reducible assumption | omega | (simp; done) | (simp; omega) | (simp at *; omega)), (by first | with_reducible assumption | omega | (simp; done) | (simp; omega) | (simp at *; omega)), ⟨(by first | omega | (simp; done) | (simp; omega)), rfl, pb1, (fun v_place m_place k1 ρ1 kl1 pbk1 s1 H1 cc1 cl1 fp1 C1 hk1 hp1 => (fe_take 0 D_law_take hr (by decide) (hk1.trans hK) rfl (fp_name 1 rfl) (by first | with_reducible assumption | omega | (simp; done) | (simp; omega) | (simp at *; omega)) (by first | with_reducible assumption | omega | (simp; done) | (simp; omega) | (simp at *; omega)) pbk1 (by first | omega | (simp at *; omega)) (fun d2 π2 d2_0 d2_1 pb2 => ⟨_, rfl, rfl, (by first | with_reducible trivial | exact ⟨by omega, by omega⟩ | omega | with_reducible assumption), (PB.mono pb2 (by omega))⟩))), fun vs1 π10 vl1 va1 pbv1 => ⟨_, .inl rfl, ?_⟩⟩⟩⟩))⟩))))))))
  simp only [List.length_map, List.length_range] at vl1 pbv1
  have ok0 : WOk b vs1 := ⟨b0, b1, by omega, by omega, va1⟩
  have pb2 : PB π10 (n + 8) := pbv1.mono (by omega)
  refine fs_at (z' := ⟨[sp, si (b : Int), sd (encW vs1), .un, .un], π10⟩) rfl ?_
  refine fs_consI (fun z => ∃ ws : List Int, WOk b ws ∧ ∃ (ρ : Pot), z = ⟨[sp, si (b : Int), sd (encW ws), .un, .un], ρ⟩ ∧ PB ρ (n + 9)) (f1_if (ft_eqE (fe_take 0 D_law_take hr (by decide) hK rfl fp_int (by first | with_reducible assumption | omega | (simp; done) | (simp; omega) | (simp at *; omega)) (by first | with_reducible assumption | omega | (simp; done) | (simp; omega) | (simp at *; omega)) pb2 (by first | omega | (simp at *; omega)) (fun d1 π1 d1_0 d1_1 pb1 => ⟨_, rfl, (fe_fp fp_int ⟨_, rfl, ⟨fun hc => ?_, fun hc => ?_⟩⟩)⟩)))) (fun z1 hz => ?_)
  · skip
    have hl2 := ok0.l2
    refine fs_one (f1_setP 2 sc_law_right.nd (d := encW (vs1.map fun v => max 1 v)) (fp_is (fp_tupleC hK B.tuple (fp_fl (flp_of rfl sc_law_right.nd (blkOk_by (own := [("weight", 4)]) (N := N_law_right) (sc := defScope (st 55)) (by decide +kernel)) (lcp_mapN 4 _ _  _ sc_law_right.nd (fip_seqC hK (fp_name 2 rfl)) (by first | omega | (simp; done) | (simp; omega)) rfl (fun v_weight m_weight s1 H1 cc1 cl1 fp1 C1 hk1 hp1 => (fp_max2 rfl B.max fp_int (fp_name 4 rfl))))))) ?_) ?_)
    · rw [encW, List.map_map]; rfl
    refine ⟨vs1.map fun v => max 1 v, ⟨b0, b1, by simp; omega, by simp; omega, fun x hx => ?_⟩, π1, rfl, pb1⟩
    obtain ⟨v, hv, e⟩ := List.mem_map.mp hx
    have := va1 v hv
    omega
  · exact fs_nil ⟨vs1, ok0, π1, rfl, pb1⟩
  · obtain ⟨ws, ok, ρ, rfl, hρ⟩ := hz
    refine fs_cons (f1_if (ft_notE (ft_valE (fe_def D_law_is_scheme_right hr (by decide) hK (fa_potE 0 rfl (fa_fpa (fpa_cons (fp_name 1 rfl) (fpa_cons (fp_name 2 rfl) fpa_nil)) (W_law_is_scheme_right.mk _ _ _ hρ (by first | with_reducible assumption | omega | (simp; done) | (simp; omega) | (simp at *; omega)) (by first | with_reducible assumption | omega | (simp; done) | (simp; omega) | (simp at *; omega)) (fun π1 pb1 => ⟨_, rfl, ⟨fun hc => ?_, fun hc => ?_⟩⟩))))))))
    · cases hc
    · refine fs_nil ?_
      refine fs_one (f1_ret (fe_andE (fe_potCall 0 D_law_is_best_right hr (by decide) hK rfl (W_law_is_best_right.mk _ pb1 (by first | with_reducible assumption | omega | (simp; done) | (simp; omega) | (simp at *; omega)) (fun π1 pb1 => ⟨_, rfl, (fun hq1 => (nomatch hq1)), fun hp1 => (fe_oneE (fe_potCall 0 D_law_are_ten_right hr (by decide) hK rfl (W_law_are_ten_right.mk _ pb1 (by first | with_reducible assumption | omega | (simp; done) | (simp; omega) | (simp at *; omega)) (by first | with_reducible assumption | omega | (simp; done) | (simp; omega) | (simp at *; omega)) (fun π2 pb2 => ?_))))⟩)))))
      exact k _ (pb2.mono (by omega))
end
abbrev D_law_pot (P : Program) (w : World) (K : PySem.W.Frag) (mg : Str → Option Value) (base : Heap) : Prop := HasDefL P w K mg base "_law_pot" 1 ["script", "place"] Wpot
inductive W_law : WF
  | mk {π : Pot} {q : DV → Pot → Prop} (ns : List Int) (hl : ns.length ≤ 63) (law : TenLaw) (k : q (.d (.bool true)) π) : W_law [.d (.list (ns.map .int))] π q
abbrev N_law : List Str := ["script", "place"]
theorem sc_law : FnScope N_law ["script"] (defScope (st 56)) := ⟨rfl, rfl, rfl, by decide +kernel, rfl, by decide +kernel, by decide +kernel⟩
section
variable {P : Program} {w : World} {K : PySem.W.Frag} {mg : Str → Option Value} {base : Heap} {f : Addr} {fd : FuncData}
abbrev D_law (P : Program) (w : World) (K : PySem.W.Frag) (mg : Str → Option Value) (base : Heap) : Prop := HasDef P w K mg base "law" 9 ["script"] W_law
theorem ok_law (F : Fun K "law" "law" (st 56) f fd) (B : Blt mg) (G : Cst mg) (D_law_right : D_law_right P w K mg base) (D_law_pot : D_law_pot P w K mg base) : FnOk P w K mg base CX0 9 f fd ["script"] (SpD K W_law) := by
  refine ok_def F sc_law (fun ds π q h => by cases h; rfl) (fun cdv A outer s H E ds π q C hr hK h => ?_)
  obtain ⟨ns, hl, law, k⟩ := h
  refine fs_one (f1_retP (fp_is (fp_allC hK rfl B.all (fp_fl (flp_of rfl sc_law.nd (blkOk_by (own := [("place", 1)]) (N := N_law) (sc := defScope (st 56)) (by decide +kernel)) (lcp_mapN 1 _ _  _ sc_law.nd (fip_rangeN B.range (fp_max2 rfl B.max fp_int (fp_min2 rfl B.min fp_int (fp_lenC hK B.len (fp_name 0 rfl)))) (by first | with_reducible assumption | omega | (simp; done) | (simp; omega) | (simp at *; omega)) (by first | with_reducible assumption | omega | (simp; done) | (simp; omega) | (simp at *; omega))) (by first | omega | (simp; done) | (simp; omega)) rfl (fun v_place m_place s1 H1 cc1 cl1 fp1 C1 hk1 hp1 => have hv := List.mem_range.mp m_place; (fp_freshPot D_law_pot D_law_right hr (by decide) (by decide) (hk1.trans hK) (fpa_cons (fp_name 0 rfl) (fpa_cons (fp_name 1 rfl) fpa_nil)) ⟨_, _, rfl, (by first | with_reducible assumption | omega | (simp; done) | (simp; omega) | (simp at *; omega)), (by first | with_reducible assumption | omega | (simp; done) | (simp; omega) | (simp at *; omega)), fun pa_ pb_ pc_ ppb => ⟨pa_, pb_, pc_, rfl, W_law_right.mk _ ppb (by first | with_reducible assumption | omega | (simp; done) | (simp; omega) | (simp at *; omega)) (by first | with_reducible assumption | omega | (simp; done) | (simp; omega) | (simp at *; omega)) (fun _ _ => rfl)⟩⟩)))))) (show _ = .bool true from ?_)) ?_)
  · simp
  · exact k
end
end K08

set_option Elab.async false
set_option linter.all false
set_option maxRecDepth 100000
set_option maxHeartbeats 4000000
set_option autoImplicit false
namespace K08
open PySem PySem.Spec PyProof.Rows L2 DL
/-! ### ten digits -/
def foldT : Nat → Nat → List Nat → Nat
  | _, acc, [] => acc
  | i, acc, d :: ds => foldT (i + 1) (joinF acc (mixF d i)) ds
theorem tenS_fold (ds : List Nat) : ∀ (suf pre : List Nat), ds = pre ++ suf → tenS ds ds.length = foldT pre.length (tenS ds pre.length) suf
  | [], pre, h => by
    rw [List.append_nil] at h
    rw [h]; rfl
  | d :: suf, pre, h => by
    have e := tenS_fold ds suf (pre ++ [d]) (by rw [h]; simp)
    rw [e, List.length_append, List.length_singleton]
    show foldT (pre.length + 1) (joinF (tenS ds pre.length) (mixF (ds.getD pre.length 0) pre.length)) suf = foldT (pre.length + 1) (joinF (tenS ds pre.length) (mixF d pre.length)) suf
    have : ds.getD pre.length 0 = d := by
      rw [h, List.getD_eq_getElem?_getD, List.getElem?_append_right (Nat.le_refl _), Nat.sub_self]; rfl
    rw [this]
theorem tenR_fold (xs : List Nat) : tenR xs = decide (foldT 0 0 xs.reverse = 0) := by
  unfold tenR
  rw [show xs.length = xs.reverse.length from (List.length_reverse).symm, tenS_fold xs.reverse xs.reverse [] rfl]
  rfl
theorem foldT_app : ∀ (xs ys : List Nat) (i acc : Nat), foldT i acc (xs ++ ys) = foldT (i + xs.length) (foldT i acc xs) ys
  | [], ys, i, acc => rfl
  | x :: xs, ys, i, acc => by
    rw [List.cons_append]
    show foldT (i + 1) _ (xs ++ ys) = _
    rw [foldT_app xs ys, List.length_cons, Nat.add_assoc, Nat.add_comm 1]
    rfl
theorem foldT_lt : ∀ (xs : List Nat) (i acc : Nat), acc < 10 → foldT i acc xs < 10
  | [], _, _, h => h
  | x :: xs, i, acc, _ => foldT_lt xs (i + 1) _ (joinF_lt _ _)
theorem cancel_r : ∀ a, a < 10 → ∀ b, b < 10 → ∀ m, m < 10 → joinF a m = joinF b m → a = b := by decide +kernel
theorem reach_r : ∀ t, t < 10 → ∀ m, m < 10 → ∃ a, a < 10 ∧ joinF a m = t := by decide +kernel
theorem join0 : ∀ d, d < 10 → joinF 0 d = d := by decide +kernel
theorem cancel_l : ∀ i, i < 8 → ∀ g, g < 10 → ∀ a, a < 10 → ∀ b, b < 10 → joinF g (iterP i a) = joinF g (iterP i b) → a = b := by decide +kernel
theorem cancel_2 : ∀ i, i < 8 → ∀ g, g < 10 → ∀ a, a < 10 → ∀ b, b < 10 → joinF (joinF g (iterP i a)) (iterP ((i + 1) % 8) b) = joinF (joinF g (iterP i b)) (iterP ((i + 1) % 8) a) → a = b := by decide +kernel
theorem foldT_inj : ∀ (xs : List Nat) (i a b : Nat), (∀ d ∈ xs, d < 10) → a < 10 → b < 10 → foldT i a xs = foldT i b xs → a = b
  | [], _, _, _, _, _, _, h => h
  | x :: xs, i, a, b, hx, ha, hb, h => by
    have := foldT_inj xs (i + 1) _ _ (fun d hd => hx d (List.mem_cons_of_mem _ hd)) (joinF_lt _ _) (joinF_lt _ _) h
    exact cancel_r a ha b hb _ (mixF_lt (hx x List.mem_cons_self) i) this
theorem foldT_onto : ∀ (xs : List Nat) (i t : Nat), (∀ d ∈ xs, d < 10) → t < 10 → ∃ a, a < 10 ∧ foldT i a xs = t
  | [], _, t, _, ht => ⟨t, ht, rfl⟩
  | x :: xs, i, t, hx, ht => by
    obtain ⟨a', ha', e⟩ := foldT_onto xs (i + 1) t (fun d hd => hx d (List.mem_cons_of_mem _ hd)) ht
    obtain ⟨a, ha, e2⟩ := reach_r a' ha' _ (mixF_lt (hx x List.mem_cons_self) i)
    refine ⟨a, ha, ?_⟩
    show foldT (i + 1) (joinF a (mixF x i)) xs = t
    rw [e2, e]
theorem mix0 (d : Nat) : mixF d 0 = d := rfl
theorem filter_one {n : Nat} {P : Nat → Bool} {d : Nat} (hd : d < n) (hP : P d = true) (hu : ∀ e, e < n → P e = true → e = d) : (List.range n).filter P = [d] := by
  have hmem : ∀ x, x ∈ (List.range n).filter P ↔ x = d := fun x => by
    rw [List.mem_filter, List.mem_range]
    exact ⟨fun h => hu x h.1 h.2, fun h => by rw [h]; exact ⟨hd, hP⟩⟩
  have hnd : ((List.range n).filter P).Nodup := List.nodup_range.sublist List.filter_sublist
  generalize (List.range n).filter P = l at *
  match l, hnd, hmem with
  | [], _, hm => exact absurd ((hm d).mpr rfl) (by simp)
  | [x], _, hm => rw [(hm x).mp (by simp)]
  | x :: y :: r, hnd, hm =>
    have h1 := (hm x).mp (by simp)
    have h2 := (hm y).mp (by simp)
    rw [h1, h2] at hnd
    simp at hnd
theorem ten_law : TenLaw where
  sum := fun xs _ => rfl
  digit := fun xs ok hl => by
    have hx : ∀ d ∈ xs.reverse, d < 10 := fun d hd => ok.all d (List.mem_reverse.mp hd)
    obtain ⟨a, ha, e⟩ := foldT_onto xs.reverse 1 0 hx (by decide)
    have key : ∀ d, d < 10 → tenR (xs ++ [d]) = decide (foldT 1 d xs.reverse = 0) := fun d hd => by
      rw [tenR_fold, List.reverse_append]
      show decide (foldT 1 (joinF 0 (mixF d 0)) xs.reverse = 0) = _
      rw [mix0, join0 d hd]
    refine ⟨a, ha, filter_one ha (by rw [key a ha, e]; rfl) fun c hc h => ?_⟩
    rw [key c hc] at h
    exact foldT_inj xs.reverse 1 c a hx hc ha ((of_decide_eq_true h).trans e.symm)
  one := fun xs p d ok hp hd hr hne => by
    have e1 : xs = xs.take p ++ xs.getD p 0 :: xs.drop (p + 1) := by
      conv => lhs; rw [← List.take_append_drop p xs]
      rw [List.drop_eq_getElem_cons hp, List.getD_eq_getElem?_getD, List.getElem?_eq_getElem hp]; rfl
    have hg : xs.getD p 0 < 10 := ok.all _ (by rw [List.getD_eq_getElem?_getD, List.getElem?_eq_getElem hp]; exact List.getElem_mem hp)
    have h1 : ∀ x ∈ xs.take p, x < 10 := fun x hx => ok.all x (List.mem_of_mem_take hx)
    have h2 : ∀ x ∈ xs.drop (p + 1), x < 10 := fun x hx => ok.all x (List.mem_of_mem_drop hx)
    generalize xs.getD p 0 = x at *
    generalize xs.take p = A at *
    generalize xs.drop (p + 1) = B at *
    rw [e1] at hr
    rw [tenR_fold, List.reverse_append, List.reverse_cons, List.append_assoc, foldT_app] at hr ⊢
    have hr := of_decide_eq_true hr
    refine decide_eq_false fun hq => ?_
    have hq2 := hq.trans hr.symm
    have hA : ∀ y ∈ A.reverse, y < 10 := fun y hy => h1 y (List.mem_reverse.mp hy)
    have := foldT_inj A.reverse _ _ _ hA (joinF_lt _ _) (joinF_lt _ _) hq2
    exact hne (cancel_l _ (Nat.mod_lt _ (by decide)) _ (foldT_lt _ _ _ (by decide)) d hd x hg this)
  two := fun xs ys a b ok hab hr => by
    have ha : a < 10 := ok.all a (by simp)
    have hb : b < 10 := ok.all b (by simp)
    have hA : ∀ y ∈ xs.reverse, y < 10 := fun y hy => ok.all y (by rw [List.mem_append]; exact .inl (List.mem_reverse.mp hy))
    rw [tenR_fold, List.reverse_append, List.reverse_cons, List.reverse_cons, List.append_assoc, List.append_assoc, foldT_app] at hr ⊢
    have hr := of_decide_eq_true hr
    refine decide_eq_false fun hq => ?_
    have hq2 := hq.trans hr.symm
    have := foldT_inj xs.reverse _ _ _ hA (joinF_lt _ _) (joinF_lt _ _) hq2
    have hmod : ∀ i : Nat, (i + 1) % 8 = (i % 8 + 1) % 8 := fun i => by omega
    refine hab (cancel_2 ((0 + ys.reverse.length) % 8) (Nat.mod_lt _ (by decide)) _ (foldT_lt ys.reverse 0 0 (by decide)) a ha b hb ?_)
    rw [← hmod]
    exact this
end K08

set_option Elab.async false
set_option linter.all false
set_option maxRecDepth 100000
set_option maxHeartbeats 4000000
set_option autoImplicit false
namespace K08
open PySem PySem.Spec PyProof.Rows L2 DL
section
variable {P : Program} {w : World} {K : PySem.W.Frag} {mg : Str → Option Value} {base : Heap} {f : Addr} {fd : FuncData}
structure Defs (K : PySem.W.Frag) : Prop where
  d1 : IsDef K "is_tuple" (st 1)
  d2 : IsDef K "is_whole" (st 2)
  d3 : IsDef K "is_integer" (st 3)
  d21 : IsDef K "is_scheme" (st 21)
  d22 : IsDef K "check_scheme" (st 22)
  d23 : IsDef K "check_label" (st 23)
  d24 : IsDef K "is_right" (st 24)
  d25 : IsDef K "is_right_of" (st 25)
  d26 : IsDef K "check_place" (st 26)
  d27 : IsDef K "digits_for" (st 27)
  d28 : IsDef K "common" (st 28)
  d29 : IsDef K "finds_wrong" (st 29)
  d30 : IsDef K "finds_exchanged" (st 30)
  d31 : IsDef K "shows_wrong" (st 31)
  d32 : IsDef K "shows_exchanged" (st 32)
  d33 : IsDef K "least_factor" (st 33)
  d34 : IsDef K "best_weights" (st 34)
  d35 : IsDef K "shows_best" (st 35)
  d36 : IsDef K "joined" (st 36)
  d37 : IsDef K "mixed" (st 37)
  d38 : IsDef K "is_ten_right" (st 38)
  d39 : IsDef K "check_ten" (st 39)
  d40 : IsDef K "ten_digit" (st 40)
  d42 : IsDef K "_law_pot" (st 42)
  d43 : IsDef K "_law_take" (st 43)
  d44 : IsDef K "_law_sum" (st 44)
  d45 : IsDef K "_law_put" (st 45)
  d46 : IsDef K "_law_wrong" (st 46)
  d47 : IsDef K "_law_swapped" (st 47)
  d48 : IsDef K "_law_is_scheme_right" (st 48)
  d49 : IsDef K "_law_finds" (st 49)
  d50 : IsDef K "_law_is_best_right" (st 50)
  d51 : IsDef K "_law_laid" (st 51)
  d52 : IsDef K "_law_then" (st 52)
  d53 : IsDef K "_law_ten_sum" (st 53)
  d54 : IsDef K "_law_are_ten_right" (st 54)
  d55 : IsDef K "_law_right" (st 55)
  d56 : IsDef K "law" (st 56)
theorem the_law {h : Heap} (X : K.In h) (G : h.Ns mainGlobals mg) (D : Defs K) (B : Blt mg) (C : Cst mg) (F : Fun K "law" "law" (st 56) f fd) :
    FnOk P w K mg base CX0 9 f fd ["script"] (SpD K W_law) := by
  have h__law_take_Wtake : HasDef P w K mg base "_law_take" 1 ["pot", "upto"] Wtake := has_def X G D.d43 (fun f fd F => ok42 F B) fun _ _ _ _ _ _ us hl => match us, hl with | [_, _], _ => rfl
  have h__law_sum_Wsum : HasDef P w K mg base "_law_sum" 1 ["base", "weights", "label"] Wsum := has_def X G D.d44 (fun f fd F => ok44 F B) fun _ _ _ _ _ _ us hl => match us, hl with | [_, _, _], _ => rfl
  have h__law_put_Wput : HasDef P w K mg base "_law_put" 1 ["label", "place", "digit"] Wput := has_def X G D.d45 (fun f fd F => ok45 F ) fun _ _ _ _ _ _ us hl => match us, hl with | [_, _, _], _ => rfl
  have h__law_wrong_Wwrong : HasDef P w K mg base "_law_wrong" 2 ["base", "weights"] Wwrong := has_def X G D.d46 (fun f fd F => ok46 F B h__law_sum_Wsum h__law_put_Wput) fun _ _ _ _ _ _ us hl => match us, hl with | [_, _], _ => rfl
  have h__law_swapped_Wswapped : HasDef P w K mg base "_law_swapped" 2 ["base", "weights", "reach"] Wswapped := has_def X G D.d47 (fun f fd F => ok47 F B h__law_sum_Wsum h__law_put_Wput) fun _ _ _ _ _ _ us hl => match us, hl with | [_, _, _], _ => rfl
  have h_is_whole_WisWhole : HasDef P w K mg base "is_whole" 1 ["value"] WisWhole := has_def X G D.d2 (fun f fd F => ok2 F B) fun _ _ _ _ _ _ us hl => match us, hl with | [_], _ => rfl
  have h_is_integer_WisInteger : HasDef P w K mg base "is_integer" 2 ["value", "low", "high"] WisInteger := has_def X G D.d3 (fun f fd F => ok3 F h_is_whole_WisWhole) fun _ _ _ _ _ _ us hl => match us, hl with | [_, _, _], _ => rfl
  have h_is_tuple_WisTuple : HasDef P w K mg base "is_tuple" 1 ["value", "least", "most"] WisTuple := has_def X G D.d1 (fun f fd F => ok1 F B) fun _ _ _ _ _ _ us hl => match us, hl with | [_, _, _], _ => rfl
  have h_is_scheme_WisScheme : HasDef P w K mg base "is_scheme" 3 ["value"] WisScheme := has_def X G D.d21 (fun f fd F => ok21 F B C h_is_tuple_WisTuple h_is_integer_WisInteger) fun _ _ _ _ _ _ us hl => match us, hl with | [_], _ => rfl
  have h_check_scheme_WckScheme : HasDef P w K mg base "check_scheme" 4 ["value"] WckScheme := has_def X G D.d22 (fun f fd F => ok22 F h_is_scheme_WisScheme) fun _ _ _ _ _ _ us hl => match us, hl with | [_], _ => rfl
  have h_common_Wcommon : HasDef P w K mg base "common" 1 ["one", "other"] Wcommon := has_def X G D.d28 (fun f fd F => ok28 F ) fun _ _ _ _ _ _ us hl => match us, hl with | [_, _], _ => rfl
  have h_finds_exchanged_WfindsExch : HasDef P w K mg base "finds_exchanged" 5 ["scheme", "reach"] WfindsExch := has_def X G D.d30 (fun f fd F => ok30 F B C h_is_integer_WisInteger h_check_scheme_WckScheme h_common_Wcommon) fun _ _ _ _ _ _ us hl => match us, hl with | [_, _], _ => rfl
  have h_check_label_WckLabel : HasDef P w K mg base "check_label" 3 ["scheme", "value"] WckLabel := has_def X G D.d23 (fun f fd F => ok23 F B C h_is_tuple_WisTuple h_is_integer_WisInteger) fun _ _ _ _ _ _ us hl => match us, hl with | [_, _], _ => rfl
  have h_check_place_WckPlace : HasDef P w K mg base "check_place" 3 ["scheme", "value"] WckPlace := has_def X G D.d26 (fun f fd F => ok26 F B h_is_integer_WisInteger) fun _ _ _ _ _ _ us hl => match us, hl with | [_, _], _ => rfl
  have h_is_right_of_WisRightOf : HasDef P w K mg base "is_right_of" 1 ["scheme", "label"] WisRightOf := has_def X G D.d25 (fun f fd F => ok25 F B) fun _ _ _ _ _ _ us hl => match us, hl with | [_, _], _ => rfl
  have h_digits_for_WdigitsFor : HasDef P w K mg base "digits_for" 5 ["scheme", "label", "place"] WdigitsFor := has_def X G D.d27 (fun f fd F => ok27 F B h_check_scheme_WckScheme h_check_label_WckLabel h_check_place_WckPlace h_is_right_of_WisRightOf) fun _ _ _ _ _ _ us hl => match us, hl with | [_, _, _], _ => rfl
  have h_is_right_WisRight : HasDef P w K mg base "is_right" 5 ["scheme", "label"] WisRight := has_def X G D.d24 (fun f fd F => ok24 F h_check_scheme_WckScheme h_check_label_WckLabel h_is_right_of_WisRightOf) fun _ _ _ _ _ _ us hl => match us, hl with | [_, _], _ => rfl
  have h_finds_wrong_WfindsWrong : HasDef P w K mg base "finds_wrong" 5 ["scheme"] WfindsWrong := has_def X G D.d29 (fun f fd F => ok29 F B C h_check_scheme_WckScheme h_common_Wcommon) fun _ _ _ _ _ _ us hl => match us, hl with | [_], _ => rfl
  have h_shows_wrong_WshowsWrong : HasDef P w K mg base "shows_wrong" 6 ["scheme", "value"] WshowsWrong := has_def X G D.d31 (fun f fd F => ok31 F B C h_is_tuple_WisTuple h_is_integer_WisInteger h_check_scheme_WckScheme h_finds_wrong_WfindsWrong) fun _ _ _ _ _ _ us hl => match us, hl with | [_, _], _ => rfl
  have h_shows_exchanged_WshowsExch : HasDef P w K mg base "shows_exchanged" 6 ["scheme", "reach", "value"] WshowsExch := has_def X G D.d32 (fun f fd F => ok32 F B C h_is_tuple_WisTuple h_is_integer_WisInteger h_finds_exchanged_WfindsExch) fun _ _ _ _ _ _ us hl => match us, hl with | [_, _, _], _ => rfl
  have h__law_put_W_law_put : HasDef P w K mg base "_law_put" 1 ["label", "place", "digit"] W_law_put := has_def X G D.d45 (fun f fd F => ok_law_put F B C) fun _ _ _ _ _ _ us hl => match us, hl with | [_, _, _], _ => rfl
  have h__law_is_scheme_right_W_law_is_scheme_right : HasDef P w K mg base "_law_is_scheme_right" 7 ["pot", "base", "weights"] W_law_is_scheme_right := has_def X G D.d48 (fun f fd F => ok_law_is_scheme_right F B C h__law_wrong_Wwrong h__law_swapped_Wswapped h_finds_exchanged_WfindsExch h__law_take_Wtake h_digits_for_WdigitsFor h_is_right_WisRight h_finds_wrong_WfindsWrong h_shows_wrong_WshowsWrong h_shows_exchanged_WshowsExch h__law_sum_Wsum h__law_put_W_law_put) fun _ _ _ _ _ _ us hl => match us, hl with | [_, _, _], _ => rfl
  have h_least_factor_WleastFactor : HasDef P w K mg base "least_factor" 1 ["number"] WleastFactor := has_def X G D.d33 (fun f fd F => ok33 F C) fun _ _ _ _ _ _ us hl => match us, hl with | [_], _ => rfl
  have h_best_weights_WbestWeights : HasDef P w K mg base "best_weights" 3 ["base", "places", "reach"] WbestWeights := has_def X G D.d34 (fun f fd F => ok34 F B C h_is_integer_WisInteger h_least_factor_WleastFactor) fun _ _ _ _ _ _ us hl => match us, hl with | [_, _, _], _ => rfl
  have h_shows_best_WshowsBest : HasDef P w K mg base "shows_best" 6 ["base", "places", "reach", "value"] WshowsBest := has_def X G D.d35 (fun f fd F => ok35 F B C h_is_tuple_WisTuple h_is_integer_WisInteger h_is_scheme_WisScheme h_finds_wrong_WfindsWrong h_finds_exchanged_WfindsExch h_best_weights_WbestWeights) fun _ _ _ _ _ _ us hl => match us, hl with | [_, _, _, _], _ => rfl
  have h__law_finds_W_law_finds : HasDef P w K mg base "_law_finds" 1 ["base", "weights", "reach"] W_law_finds := has_def X G D.d49 (fun f fd F => ok_law_finds F B C) fun _ _ _ _ _ _ us hl => match us, hl with | [_, _, _], _ => rfl
  have h__law_is_best_right_W_law_is_best_right : HasDef P w K mg base "_law_is_best_right" 7 ["pot"] W_law_is_best_right := has_def X G D.d50 (fun f fd F => ok_law_is_best_right F B C h_best_weights_WbestWeights h_shows_best_WshowsBest h__law_finds_W_law_finds h__law_take_Wtake) fun _ _ _ _ _ _ us hl => match us, hl with | [_], _ => rfl
  have h_check_ten_WckTen : HasDef P w K mg base "check_ten" 3 ["value"] WckTen := has_def X G D.d39 (fun f fd F => ok39 F B C h_is_tuple_WisTuple h_is_integer_WisInteger) fun _ _ _ _ _ _ us hl => match us, hl with | [_], _ => rfl
  have h_joined_Wjoined : HasDef P w K mg base "joined" 3 ["one", "other"] Wjoined := has_def X G D.d36 (fun f fd F => ok36 F B C h_is_integer_WisInteger) fun _ _ _ _ _ _ us hl => match us, hl with | [_, _], _ => rfl
  have h_mixed_Wmixed : HasDef P w K mg base "mixed" 1 ["digit", "times"] Wmixed := has_def X G D.d37 (fun f fd F => ok37 F B) fun _ _ _ _ _ _ us hl => match us, hl with | [_, _], _ => rfl
  have h_is_ten_right_WisTen : HasDef P w K mg base "is_ten_right" 4 ["digits"] WisTen := has_def X G D.d38 (fun f fd F => ok38 F B h_check_ten_WckTen h_joined_Wjoined h_mixed_Wmixed) fun _ _ _ _ _ _ us hl => match us, hl with | [_], _ => rfl
  have h__law_laid_W_law_laid : HasDef P w K mg base "_law_laid" 1 ["number"] W_law_laid := has_def X G D.d51 (fun f fd F => ok_law_laid F B C) fun _ _ _ _ _ _ us hl => match us, hl with | [_], _ => rfl
  have h__law_then_W_law_then : HasDef P w K mg base "_law_then" 2 ["one", "other"] W_law_then := has_def X G D.d52 (fun f fd F => ok_law_then F B C h__law_laid_W_law_laid) fun _ _ _ _ _ _ us hl => match us, hl with | [_, _], _ => rfl
  have h__law_ten_sum_W_law_ten_sum : HasDef P w K mg base "_law_ten_sum" 3 ["digits"] W_law_ten_sum := has_def X G D.d53 (fun f fd F => ok_law_ten_sum F B C h__law_then_W_law_then) fun _ _ _ _ _ _ us hl => match us, hl with | [_], _ => rfl
  have h_ten_digit_WtenDigit : HasDef P w K mg base "ten_digit" 5 ["digits"] WtenDigit := has_def X G D.d40 (fun f fd F => ok40 F B C h_check_ten_WckTen h_is_ten_right_WisTen) fun _ _ _ _ _ _ us hl => match us, hl with | [_], _ => rfl
  have h__law_are_ten_right_W_law_are_ten_right : HasDef P w K mg base "_law_are_ten_right" 6 ["pot"] W_law_are_ten_right := has_def X G D.d54 (fun f fd F => ok_law_are_ten_right F B C h__law_take_Wtake h_is_ten_right_WisTen h__law_ten_sum_W_law_ten_sum h_ten_digit_WtenDigit h_joined_Wjoined h__law_then_W_law_then h__law_put_W_law_put) fun _ _ _ _ _ _ us hl => match us, hl with | [_], _ => rfl
  have h__law_right_W_law_right : HasDef P w K mg base "_law_right" 8 ["pot"] W_law_right := has_def X G D.d55 (fun f fd F => ok_law_right F B C h__law_take_Wtake h__law_is_scheme_right_W_law_is_scheme_right h__law_is_best_right_W_law_is_best_right h__law_are_ten_right_W_law_are_ten_right) fun _ _ _ _ _ _ us hl => match us, hl with | [_], _ => rfl
  have h__law_pot_Wpot : HasDefL P w K mg base "_law_pot" 1 ["script", "place"] Wpot := has_defL X G D.d42 (fun f fd F => ok41 F B) fun _ _ _ _ _ _ us hl => match us, hl with | [_, _], _ => rfl
  exact ok_law F B C h__law_right_W_law_right h__law_pot_Wpot
/-- the law's promise, from a heap in which the script and the empty tables stand -/
theorem law_sp {H : Hp} {a : Addr} {ns : List Int} (hl : ns.length ≤ 63) (hT : ∀ p ∈ tabs, H p.1 = some (.tbl #[])) (hs : SqL K H a (ns.map V.int)) : SpD K W_law [.ref a] H (fun v _ => v = .bl true) fun _ _ _ => False := by
  have main : ∀ F : Hp, Sub F H → SqL K F a (ns.map V.int) → (∀ p ∈ tabs, F p.1 = none) → (∀ b ps, F b ≠ some (.tbl ps)) → SpD K W_law [.ref a] H (fun v _ => v = .bl true) fun _ _ _ => False := fun F sF sq nT nt =>
    ⟨none, F, ⟨0, 0, 0⟩, [.d (.list (ns.map .int))], fun d _ => d = .d (.bool true), .mk ns hl ten_law rfl, sF, .cons (.lst sq (of_ints ns)) .nil, fun p e => (by cases e), ⟨fun p hp => ⟨LamX.TabS.nil (hT p hp), nT p hp⟩, nt⟩, fun v d π' H' F' e _ _ _ _ _ _ rv => by
      subst e
      exact dp_bool rv⟩
  rcases hs with hs | hs
  · refine main (fun b => if b = a then H a else none) (fun b o e => ?_) (.inl ?_) (fun p hp => ?_) (fun b ps e => ?_)
    · have e : (if b = a then H a else none) = some o := e
      split at e
      · rename_i q; rw [q]; exact e
      · cases e
    · rcases hs with hs | ⟨o, hs⟩
      · exact .inl ((if_pos rfl).trans hs)
      · exact .inr ⟨o, (if_pos rfl).trans hs⟩
    · refine if_neg fun q => ?_
      have h1 := hT p hp
      rw [q] at h1
      rcases hs with hs | ⟨o, hs⟩ <;> rw [h1] at hs <;> cases hs
    · have e : (if b = a then H a else none) = some (.tbl ps) := e
      split at e
      · rcases hs with hs | ⟨o, hs⟩ <;> rw [e] at hs <;> cases hs
      · cases e
  · exact main (fun _ => none) (fun b o e => by cases e) (.inr hs) (fun p hp => rfl) fun b ps e => by cases e
theorem law_at {l : PySem.W.OpenLaw} {w : World} {K : PySem.W.Frag} {mg : Str → Option Value} {fa : Addr} {h : Heap} (X : K.In h) (G : h.Ns mainGlobals mg) (hfa : mg "law" = some (.ref fa)) (D : Defs K) (B : BltK K) (C : Cst mg) (tb : tabs = []) : LamX.LawAtS l w K L2.CX0 9 63 "script" mg fa h := by
  obtain ⟨f, fd, F, a⟩ := D.d56
  have e := hfa.symm.trans (PySem.W.mg_of X G a)
  cases e
  have hB : Blt mg := BltK.mg X G B
  refine ⟨fd, [], SpD K W_law, fun p hp => (by cases hp), fun p hp => (by cases hp), fun p hp => (by cases hp), fun s u => ?_, fun H b ns hl _ hH hS => ?_, fun base _ _ hTB => ?_⟩
  · obtain ⟨oc, od, kV, doc, pm, an, cdv, ct, osl, e, _, _⟩ := F.ex
    subst e
    exact .of_eq rfl
  · refine law_sp hl (fun p hp => ?_) hS
    rw [tb] at hp
    cases hp
  · exact the_law X G D hB C F
end
end K08

set_option Elab.async false
set_option linter.all false
set_option maxRecDepth 100000
set_option autoImplicit false
open PySem PySem.W PyProof.Rows
set_option maxHeartbeats 0 in
theorem PySem.Challenge.cw_mountedintime_k08_whole_labels_and_penta_holds : PySem.Challenge.rw_mountedintime_k08_whole_labels_and_penta.Holds := by
  w_on; o_law; k_head; (case hw => w_witness2)
  k_fill
  refine LamX.walk_ofTs (l := PySem.Challenge.rw_mountedintime_k08_whole_labels_and_penta) (n := 63) (k := 9) (x := "script") (CX := fun _ => L2.CX0) rfl (by decide) rfl ⟨rfl, by decide, by decide⟩ (fun w h Y => PySem.W.kIn_of Y) ?F (fun _ _ _ _ _ h => h)
  case F =>
    intro w mg fa h Y KX G hmg
    refine' K08.law_at KX G hmg ?D ?B ?C rfl
    case D =>
      refine' ⟨?d1, ?d2, ?d3, ?d21, ?d22, ?d23, ?d24, ?d25, ?d26, ?d27, ?d28, ?d29, ?d30, ?d31, ?d32, ?d33, ?d34, ?d35, ?d36, ?d37, ?d38, ?d39, ?d40, ?d42, ?d43, ?d44, ?d45, ?d46, ?d47, ?d48, ?d49, ?d50, ?d51, ?d52, ?d53, ?d54, ?d55, ?d56⟩
      case d1 => (refine' K08.mk_def ?a ?l ?c ?k; (case a => k_is); (case l => k_is); (case c => k_is); (case k => k_is))
      case d2 => (refine' K08.mk_def ?a ?l ?c ?k; (case a => k_is); (case l => k_is); (case c => k_is); (case k => k_is))
      case d3 => (refine' K08.mk_def ?a ?l ?c ?k; (case a => k_is); (case l => k_is); (case c => k_is); (case k => k_is))
      case d21 => (refine' K08.mk_def ?a ?l ?c ?k; (case a => k_is); (case l => k_is); (case c => k_is); (case k => k_is))
      case d22 => (refine' K08.mk_def ?a ?l ?c ?k; (case a => k_is); (case l => k_is); (case c => k_is); (case k => k_is))
      case d23 => (refine' K08.mk_def ?a ?l ?c ?k; (case a => k_is); (case l => k_is); (case c => k_is); (case k => k_is))
      case d24 => (refine' K08.mk_def ?a ?l ?c ?k; (case a => k_is); (case l => k_is); (case c => k_is); (case k => k_is))
      case d25 => (refine' K08.mk_def ?a ?l ?c ?k; (case a => k_is); (case l => k_is); (case c => k_is); (case k => k_is))
      case d26 => (refine' K08.mk_def ?a ?l ?c ?k; (case a => k_is); (case l => k_is); (case c => k_is); (case k => k_is))
      case d27 => (refine' K08.mk_def ?a ?l ?c ?k; (case a => k_is); (case l => k_is); (case c => k_is); (case k => k_is))
      case d28 => (refine' K08.mk_def ?a ?l ?c ?k; (case a => k_is); (case l => k_is); (case c => k_is); (case k => k_is))
      case d29 => (refine' K08.mk_def ?a ?l ?c ?k; (case a => k_is); (case l => k_is); (case c => k_is); (case k => k_is))
      case d30 => (refine' K08.mk_def ?a ?l ?c ?k; (case a => k_is); (case l => k_is); (case c => k_is); (case k => k_is))
      case d31 => (refine' K08.mk_def ?a ?l ?c ?k; (case a => k_is); (case l => k_is); (case c => k_is); (case k => k_is))
      case d32 => (refine' K08.mk_def ?a ?l ?c ?k; (case a => k_is); (case l => k_is); (case c => k_is); (case k => k_is))
      case d33 => (refine' K08.mk_def ?a ?l ?c ?k; (case a => k_is); (case l => k_is); (case c => k_is); (case k => k_is))
      case d34 => (refine' K08.mk_def ?a ?l ?c ?k; (case a => k_is); (case l => k_is); (case c => k_is); (case k => k_is))
      case d35 => (refine' K08.mk_def ?a ?l ?c ?k; (case a => k_is); (case l => k_is); (case c => k_is); (case k => k_is))
      case d36 => (refine' K08.mk_def ?a ?l ?c ?k; (case a => k_is); (case l => k_is); (case c => k_is); (case k => k_is))
      case d37 => (refine' K08.mk_def ?a ?l ?c ?k; (case a => k_is); (case l => k_is); (case c => k_is); (case k => k_is))
      case d38 => (refine' K08.mk_def ?a ?l ?c ?k; (case a => k_is); (case l => k_is); (case c => k_is); (case k => k_is))
      case d39 => (refine' K08.mk_def ?a ?l ?c ?k; (case a => k_is); (case l => k_is); (case c => k_is); (case k => k_is))
      case d40 => (refine' K08.mk_def ?a ?l ?c ?k; (case a => k_is); (case l => k_is); (case c => k_is); (case k => k_is))
      case d42 => (refine' K08.mk_def ?a ?l ?c ?k; (case a => k_is); (case l => k_is); (case c => k_is); (case k => k_is))
      case d43 => (refine' K08.mk_def ?a ?l ?c ?k; (case a => k_is); (case l => k_is); (case c => k_is); (case k => k_is))
      case d44 => (refine' K08.mk_def ?a ?l ?c ?k; (case a => k_is); (case l => k_is); (case c => k_is); (case k => k_is))
      case d45 => (refine' K08.mk_def ?a ?l ?c ?k; (case a => k_is); (case l => k_is); (case c => k_is); (case k => k_is))
      case d46 => (refine' K08.mk_def ?a ?l ?c ?k; (case a => k_is); (case l => k_is); (case c => k_is); (case k => k_is))
      case d47 => (refine' K08.mk_def ?a ?l ?c ?k; (case a => k_is); (case l => k_is); (case c => k_is); (case k => k_is))
      case d48 => (refine' K08.mk_def ?a ?l ?c ?k; (case a => k_is); (case l => k_is); (case c => k_is); (case k => k_is))
      case d49 => (refine' K08.mk_def ?a ?l ?c ?k; (case a => k_is); (case l => k_is); (case c => k_is); (case k => k_is))
      case d50 => (refine' K08.mk_def ?a ?l ?c ?k; (case a => k_is); (case l => k_is); (case c => k_is); (case k => k_is))
      case d51 => (refine' K08.mk_def ?a ?l ?c ?k; (case a => k_is); (case l => k_is); (case c => k_is); (case k => k_is))
      case d52 => (refine' K08.mk_def ?a ?l ?c ?k; (case a => k_is); (case l => k_is); (case c => k_is); (case k => k_is))
      case d53 => (refine' K08.mk_def ?a ?l ?c ?k; (case a => k_is); (case l => k_is); (case c => k_is); (case k => k_is))
      case d54 => (refine' K08.mk_def ?a ?l ?c ?k; (case a => k_is); (case l => k_is); (case c => k_is); (case k => k_is))
      case d55 => (refine' K08.mk_def ?a ?l ?c ?k; (case a => k_is); (case l => k_is); (case c => k_is); (case k => k_is))
      case d56 => (refine' K08.mk_def ?a ?l ?c ?k; (case a => k_is); (case l => k_is); (case c => k_is); (case k => k_is))
    case B => (constructor <;> k_is)
    case C =>
      have z0 := PySem.W.mg_of (n := "MOST_BASE") KX G (by k_is)
      have z1 := PySem.W.mg_of (n := "MOST_DIGITS") KX G (by k_is)
      have z2 := PySem.W.mg_of (n := "MOST_REACH") KX G (by k_is)
      have z3 := PySem.W.mg_of (n := "TEN") KX G (by k_is)
      have z4 := PySem.W.mg_of (n := "FIVE") KX G (by k_is)
      have z5 := PySem.W.mg_of (n := "PAIR") KX G (by k_is)
      have z6 := PySem.W.mg_of (n := "TRIPLE") KX G (by k_is)
      have z7 := PySem.W.mg_of (n := "ALL") KX G (by k_is)
      have z8 := PySem.W.mg_of (n := "MISSED") KX G (by k_is)
      have z9 := PySem.W.mg_of (n := "WEIGHTS") KX G (by k_is)
      have z10 := PySem.W.mg_of (n := "NEVER") KX G (by k_is)
      exact ⟨⟨_, z0⟩, ⟨_, z1⟩, ⟨_, z2⟩, ⟨_, z3⟩, ⟨_, z4⟩, ⟨_, z5⟩, ⟨_, z6⟩, ⟨_, z7⟩, ⟨_, z8⟩, ⟨_, z9⟩, ⟨_, z10⟩⟩

