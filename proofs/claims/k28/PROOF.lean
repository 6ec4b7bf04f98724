import PyProof.Rows.All
import HandS.Lambda
import Wide.All
import OpenK.AllK
import Wide.FinOn
import HandS.ForMost
import HandS.Star
import HandS.TupAny
import HandS.Deep
import HandS.IsInst
import HandS.Wide
import HandS.SortInts
import KE.DataMinMax
import HandS.TupMul
import HandS.Zip
import HandS.SetFor
import HandS.Strs
import KE.SortKeyHeap
import KE.KLam
import HandS.SortKw
import KE.KTupSum
import PySem.Challenge.RW_mountedintime_k28_whole_bounds_added_and
import HandS.EndTab
import HandS.HeadWalk
import KE.KNestM
namespace DL
open PySem PySem.Spec
/-- the tables of code objects of the defs that make lambdas, with the lambda's full name: set for each law -/
def tabs : List (Addr × Str) := [(134, Str.ofString "least_lines.<locals>.<lambda>")]
end DL

set_option Elab.async false
set_option linter.all false
set_option maxRecDepth 100000
set_option maxHeartbeats 4000000
set_option autoImplicit false
namespace DL
open PySem PySem.Spec PyProof.Rows L2

/-! ### heaps within heaps; data stay -/
def Sub (F H : Hp) : Prop := ∀ a o, F a = some o → H a = some o
theorem Sub.refl (F : Hp) : Sub F F := fun _ _ h => h
theorem Sub.trans {F G H : Hp} (a : Sub F G) (b : Sub G H) : Sub F H := fun x o h => b x o (a x o h)
theorem Sub.rd {F H : Hp} (e : Sub F H) {a : Addr} {u : HO} (h : Rd F a u) : Rd H a u := by
  rcases h with h | ⟨o, h⟩
  · exact Or.inl (e a _ h)
  · exact Or.inr ⟨o, e a _ h⟩
theorem Sub.sl {K : PySem.W.Frag} {F H : Hp} (e : Sub F H) {a : Addr} {xs : List V} (h : SqL K F a xs) : SqL K H a xs := by
  rcases h with h | h
  · exact Or.inl (e.rd h)
  · exact Or.inr h
theorem Sub.st {K : PySem.W.Frag} {F H : Hp} (e : Sub F H) {a : Addr} {xs : List V} (h : SqT K F a xs) : SqT K H a xs := by
  rcases h with h | h
  · exact Or.inl (e.rd h)
  · exact Or.inr h
mutual
theorem dp_mono {K : PySem.W.Frag} {F G : Hp} (e : Sub F G) : ∀ (d : PyData) (v : V), Dp K F v d → Dp K G v d
  | .none, _, h => by cases h; exact .non
  | .bool b, _, h => by cases h; exact .bl b
  | .int i, _, h => by cases h; exact .int i
  | .str x, _, h => by cases h; exact .str x
  | .list ds, _, h => by
    cases h with
    | lst hs ha => exact .lst (e.sl hs) (dpAll_mono e ds _ ha)
  | .tuple ds, _, h => by
    cases h with
    | tup hs ha => exact .tup (e.st hs) (dpAll_mono e ds _ ha)
  | .dict _, _, h => by cases h
theorem dpAll_mono {K : PySem.W.Frag} {F G : Hp} (e : Sub F G) : ∀ (ds : List PyData) (vs : List V), DpAll K F vs ds → DpAll K G vs ds
  | [], _, h => by cases h; exact .nil
  | d :: ds, _, h => by
    cases h with
    | cons h1 h2 => exact .cons (dp_mono e d _ h1) (dpAll_mono e ds _ h2)
end
theorem dpAll_len {K : PySem.W.Frag} {F : Hp} : ∀ {vs : List V} {ds : List PyData}, DpAll K F vs ds → vs.length = ds.length
  | [], _, h => by cases h; rfl
  | _ :: _, _, h => by
    cases h with
    | cons _ h2 => simp [dpAll_len h2]
theorem dpAll_get {K : PySem.W.Frag} {F : Hp} : ∀ {vs : List V} {ds : List PyData}, DpAll K F vs ds → ∀ {i : Nat} {d : PyData}, ds[i]? = some d → ∃ v, vs[i]? = some v ∧ Dp K F v d
  | _, _, .nil, i, d, h => by simp at h
  | _, _, .cons h1 _, 0, d, h => by simp at h; subst h; exact ⟨_, rfl, h1⟩
  | _, _, .cons _ h2, i + 1, d, h => by
    obtain ⟨v, e, r⟩ := dpAll_get h2 (i := i) (d := d) (by simpa using h)
    exact ⟨v, by simpa using e, r⟩
theorem dpAll_at {K : PySem.W.Frag} {F : Hp} {vs : List V} {ds : List PyData} (h : DpAll K F vs ds) {i : Nat} {v : V} (e : vs[i]? = some v) : ∃ d, ds[i]? = some d ∧ Dp K F v d := by
  have hl := dpAll_len h
  have hi : i < ds.length := by
    rw [← hl]; exact (List.getElem?_eq_some_iff.mp e).1
  obtain ⟨v', e', r⟩ := dpAll_get h (List.getElem?_eq_getElem hi)
  rw [e] at e'
  cases e'
  exact ⟨_, List.getElem?_eq_getElem hi, r⟩
theorem dpAll_append {K : PySem.W.Frag} {F : Hp} : ∀ {vs : List V} {ds : List PyData} {ws : List V} {es : List PyData}, DpAll K F vs ds → DpAll K F ws es → DpAll K F (vs ++ ws) (ds ++ es)
  | _, _, _, _, .nil, h => h
  | _, _, _, _, .cons h1 h2, h => .cons h1 (dpAll_append h2 h)
theorem dpAll_set {K : PySem.W.Frag} {F : Hp} {v : V} {d : PyData} (hv : Dp K F v d) : ∀ {vs : List V} {ds : List PyData} (i : Nat), DpAll K F vs ds → DpAll K F (vs.set i v) (ds.set i d)
  | _, _, _, .nil => .nil
  | _, _, 0, .cons _ h2 => .cons hv h2
  | _, _, i + 1, .cons h1 h2 => .cons h1 (dpAll_set hv i h2)
theorem dpAll_erase {K : PySem.W.Frag} {F : Hp} : ∀ {vs : List V} {ds : List PyData} (i : Nat), DpAll K F vs ds → DpAll K F (vs.eraseIdx i) (ds.eraseIdx i)
  | _, _, _, .nil => .nil
  | _, _, 0, .cons _ h2 => h2
  | _, _, i + 1, .cons h1 h2 => .cons h1 (dpAll_erase i h2)
theorem dpAll_take {K : PySem.W.Frag} {F : Hp} : ∀ {vs : List V} {ds : List PyData} (n : Nat), DpAll K F vs ds → DpAll K F (vs.take n) (ds.take n)
  | _, _, 0, _ => .nil
  | _, _, _ + 1, .nil => .nil
  | _, _, n + 1, .cons h1 h2 => .cons h1 (dpAll_take n h2)
theorem dpAll_drop {K : PySem.W.Frag} {F : Hp} : ∀ {vs : List V} {ds : List PyData} (n : Nat), DpAll K F vs ds → DpAll K F (vs.drop n) (ds.drop n)
  | _, _, 0, h => h
  | _, _, _ + 1, .nil => .nil
  | _, _, n + 1, .cons _ h2 => dpAll_drop n h2
theorem dpAll_rep {K : PySem.W.Frag} {F : Hp} {vs : List V} {ds : List PyData} (h : DpAll K F vs ds) : ∀ n : Nat, DpAll K F (List.replicate n vs).flatten (List.replicate n ds).flatten
  | 0 => .nil
  | n + 1 => by
    rw [List.replicate_succ, List.replicate_succ, List.flatten_cons, List.flatten_cons]
    exact dpAll_append h (dpAll_rep h n)
theorem dpAll_dropLast {K : PySem.W.Frag} {F : Hp} {vs : List V} {ds : List PyData} (h : DpAll K F vs ds) : DpAll K F vs.dropLast ds.dropLast := by
  rw [List.dropLast_eq_take, List.dropLast_eq_take, dpAll_len h]
  exact dpAll_take _ h
/-- ints, bools of a list of data -/
theorem dp_int {K : PySem.W.Frag} {F : Hp} {v : V} {i : Int} (h : Dp K F v (.int i)) : v = .int i := by cases h; rfl
theorem dp_bool {K : PySem.W.Frag} {F : Hp} {v : V} {i : Bool} (h : Dp K F v (.bool i)) : v = .bl i := by cases h; rfl
theorem dp_str {K : PySem.W.Frag} {F : Hp} {v : V} {i : Str} (h : Dp K F v (.str i)) : v = .str i := by cases h; rfl
theorem dp_none {K : PySem.W.Frag} {F : Hp} {v : V} (h : Dp K F v .none) : v = .non := by cases h; rfl
theorem dp_list {K : PySem.W.Frag} {F : Hp} {v : V} {ds : List PyData} (h : Dp K F v (.list ds)) : ∃ a vs, v = .ref a ∧ SqL K F a vs ∧ DpAll K F vs ds := by
  cases h with
  | lst hs ha => exact ⟨_, _, rfl, hs, ha⟩
theorem dp_tuple {K : PySem.W.Frag} {F : Hp} {v : V} {ds : List PyData} (h : Dp K F v (.tuple ds)) : ∃ a vs, v = .ref a ∧ SqT K F a vs ∧ DpAll K F vs ds := by
  cases h with
  | tup hs ha => exact ⟨_, _, rfl, hs, ha⟩
theorem dp_ints {K : PySem.W.Frag} {F : Hp} : ∀ {ns : List Int} {vs : List V}, DpAll K F vs (ns.map PyData.int) → vs = ns.map V.int
  | [], _, h => by cases h; rfl
  | n :: ns, _, h => by
    cases h with
    | cons h1 h2 => rw [dp_int h1, dp_ints h2]; rfl
theorem dp_bools {K : PySem.W.Frag} {F : Hp} : ∀ {ns : List Bool} {vs : List V}, DpAll K F vs (ns.map PyData.bool) → vs = ns.map V.bl
  | [], _, h => by cases h; rfl
  | n :: ns, _, h => by
    cases h with
    | cons h1 h2 => rw [dp_bool h1, dp_bools h2]; rfl
theorem of_ints {K : PySem.W.Frag} {F : Hp} : ∀ (ns : List Int), DpAll K F (ns.map V.int) (ns.map PyData.int)
  | [] => .nil
  | n :: ns => .cons (.int n) (of_ints ns)

/-! ### states -/
structure Pot where
  a : Int
  b : Int
  c : Int
/-- a value: plain data, or the pot of draws -/
inductive DV where
  | d (x : PyData)
  | pot
/-- a slot: nothing is known; a value; a list of its own -/
inductive Sl where
  | un
  | v (x : DV)
  | ow (xs : List PyData)
abbrev sd (x : PyData) : Sl := .v (.d x)
abbrev si (i : Int) : Sl := .v (.d (.int i))
abbrev sp : Sl := .v .pot
structure Zs where
  r : List Sl
  p : Pot
structure Ct where
  K : PySem.W.Frag
  P : Option Addr
  hold : Hp
  F0 : Hp
def RV (K : PySem.W.Frag) (P : Option Addr) (F : Hp) (v : V) : DV → Prop
  | .d x => Dp K F v x
  | .pot => ∃ p, P = some p ∧ v = .ref p
theorem RV.mono {K : PySem.W.Frag} {P : Option Addr} {F G : Hp} {v : V} {x : DV} (e : Sub F G) (h : RV K P F v x) : RV K P G v x := by
  cases x with
  | d x => exact dp_mono e x v h
  | pot => exact h
def SlOk (C : Ct) (H F : Hp) (x : Option (Option V)) : Sl → Prop
  | .un => True
  | .v d => ∃ v, x = some (some v) ∧ RV C.K C.P F v d
  | .ow ds => ∃ a vs, x = some (some (.ref a)) ∧ H a = some (.lst vs) ∧ F a = none ∧ C.hold a = none ∧ C.P ≠ some a ∧ DpAll C.K F vs ds
theorem TabS.set {H : Hp} {P : Addr} {q : Str} (t : LamX.TabS H P q) {a : Addr} {vs us : List V} (h : H a = some (.lst vs)) : LamX.TabS (upd H a (.lst us)) P q := by
  obtain ⟨ps, h1, h2, h3⟩ := t
  refine ⟨ps, ?_, h2, fun pos cv hc => ?_⟩
  · rw [upd_ne (fun z => by rw [z, h] at h1; cases h1)]
    exact h1
  · obtain ⟨c, e1, e2⟩ := h3 pos cv hc
    exact ⟨c, e1, by rw [upd_ne (fun z => by rw [z, h] at e2; cases e2)]; exact e2⟩
structure Sim (C : Ct) (z : Zs) (σ : L2.St) (H F : Hp) : Prop where
  sub : Sub F H
  ext : Sub C.F0 F
  keep : Sub C.hold H
  fresh : ∀ a o, F a = some o → C.F0 a = some o ∨ C.hold a = none
  slots : ∀ (i : Nat) (s : Sl), z.r[i]? = some s → SlOk C H F σ[i]? s
  sep : ∀ (i j : Nat) (xs ys : List PyData) (a : Addr), i ≠ j → z.r[i]? = some (.ow xs) → z.r[j]? = some (.ow ys) → σ[i]? = some (some (.ref a)) → σ[j]? ≠ some (some (.ref a))
  pot : ∀ p, C.P = some p → H p = some (.lst [.int z.p.a, .int z.p.b, .int z.p.c]) ∧ F p = none ∧ C.hold p = none
  len : z.r.length = σ.length
  tab : ∀ p ∈ tabs, LamX.TabS H p.1 p.2 ∧ F p.1 = none ∧ C.hold p.1 = none
  ft : ∀ a ps, F a ≠ some (.tbl ps)
  ht : ∀ a ps, C.hold a ≠ some (.tbl ps)
/-- new frozen things -/
structure Grow (H F H' F' : Hp) : Prop where
  f : Sub F F'
  h : Sub H H'
  s : Sub F' H'
  n : ∀ a o, F' a = some o → F a = some o ∨ H a = none
  t : ∀ a ps, F' a = some (.tbl ps) → F a = some (.tbl ps)
theorem Grow.refl {H F : Hp} (s : Sub F H) : Grow H F H F := ⟨Sub.refl _, Sub.refl _, s, fun _ _ h => .inl h, fun _ _ h => h⟩
theorem sub_new {H : Hp} {p : Addr} {o : HO} (h : H p = none) : Sub H (upd H p o) := fun a u e => by
  rw [upd_ne (ne_of_none e h)]
  exact e
theorem none_of_sub {F H : Hp} (s : Sub F H) {p : Addr} (h : H p = none) : F p = none := by
  cases e : F p with
  | none => rfl
  | some o => rw [s p o e] at h; cases h
theorem sub_upd {F H : Hp} (s : Sub F H) (p : Addr) (o : HO) : Sub (upd F p o) (upd H p o) := fun a u e => by
  by_cases q : a = p
  · subst q; rw [upd_same] at e ⊢; exact e
  · rw [upd_ne q] at e ⊢; exact s a u e
theorem Grow.new {H F : Hp} (s : Sub F H) {p : Addr} {o : HO} (h : H p = none) (ho : ∀ ps, o ≠ .tbl ps := by intro _ q; cases q) : Grow H F (upd H p o) (upd F p o) where
  f := sub_new (none_of_sub s h)
  h := sub_new h
  s := sub_upd s p o
  n := fun a u e => by
    by_cases q : a = p
    · subst q; exact .inr h
    · rw [upd_ne q] at e; exact .inl e
  t := fun a ps e => by
    by_cases q : a = p
    · subst q; rw [upd_same] at e; exact absurd (Option.some.inj e) (ho ps)
    · rw [upd_ne q] at e; exact e
theorem Grow.trans {H F H1 F1 H2 F2 : Hp} (a : Grow H F H1 F1) (b : Grow H1 F1 H2 F2) : Grow H F H2 F2 where
  f := a.f.trans b.f
  h := a.h.trans b.h
  s := b.s
  n := fun x o e => by
    rcases b.n x o e with q | q
    · exact a.n x o q
    · exact .inr (none_of_sub a.h q)
  t := fun x ps e => a.t x ps (b.t x ps e)
theorem none_or {H : Hp} {a : Addr} : H a = none ∨ ∃ o, H a = some o := by
  cases e : H a with
  | none => exact .inl rfl
  | some o => exact .inr ⟨o, rfl⟩
theorem Sim.grow {C : Ct} {z : Zs} {σ : L2.St} {H F H' F' : Hp} (S : Sim C z σ H F) (g : Grow H F H' F') : Sim C z σ H' F' where
  sub := g.s
  ext := S.ext.trans g.f
  keep := S.keep.trans g.h
  fresh := fun a o e => by
    rcases g.n a o e with q | q
    · exact S.fresh a o q
    · exact .inr (none_of_sub S.keep q)
  slots := fun i s e => by
    have q := S.slots i s e
    cases s with
    | un => trivial
    | v d =>
      obtain ⟨v, e1, r⟩ := q
      exact ⟨v, e1, r.mono g.f⟩
    | ow ds =>
      obtain ⟨a, vs, e1, h1, f1, h2, p1, r⟩ := q
      refine ⟨a, vs, e1, g.h _ _ h1, ?_, h2, p1, dpAll_mono g.f _ _ r⟩
      rcases none_or (H := F') (a := a) with q | ⟨o, q⟩
      · exact q
      · rcases g.n a o q with q | q
        · rw [f1] at q; cases q
        · rw [h1] at q; cases q
  sep := S.sep
  pot := fun p e => by
    obtain ⟨h1, f1, h2⟩ := S.pot p e
    refine ⟨g.h _ _ h1, ?_, h2⟩
    rcases none_or (H := F') (a := p) with q | ⟨o, q⟩
    · exact q
    · rcases g.n p o q with q | q
      · rw [f1] at q; cases q
      · rw [h1] at q; cases q
  len := S.len
  tab := fun p e => by
    obtain ⟨h1, f1, h2⟩ := S.tab p e
    obtain ⟨ps, t1, _⟩ := id h1
    refine ⟨h1.ext g.h, ?_, h2⟩
    rcases none_or (H := F') (a := p.1) with q | ⟨o, q⟩
    · exact q
    · rcases g.n p.1 o q with q | q
      · rw [f1] at q; cases q
      · rw [t1] at q; cases q
  ft := fun a ps e => S.ft a ps (g.t a ps e)
  ht := S.ht

/-! ### judgements -/
def tW (C : Ct) (z : Zs) (Q : DV → Zs → Prop) : TE := fun σ H Q' => ∃ F, Sim C z σ H F ∧ ∀ v d z' H' F', Q d z' → Sim C z' σ H' F' → Sub F F' → RV C.K C.P F' v d → Q' v H'
def tWT (C : Ct) (z : Zs) (Q : Bool → Zs → Prop) : TT := fun σ H Q' => ∃ F, Sim C z σ H F ∧ ∀ b z' H' F', Q b z' → Sim C z' σ H' F' → Sub F F' → Q' b H'
def tWA (C : Ct) (z : Zs) (Q : List DV → Zs → Prop) : TA := fun σ H Q' => ∃ F, Sim C z σ H F ∧ ∀ vs ds z' H' F', Q ds z' → Sim C z' σ H' F' → Sub F F' → Paired (RV C.K C.P F') vs ds → Q' vs H'
/-- e gives a value with Q -/
def FE (X : Cx) (C : Ct) (z : Zs) (e : Expr) (Q : DV → Zs → Prop) : Prop := PE X e (tW C z Q)
def FT (X : Cx) (C : Ct) (z : Zs) (e : Expr) (Q : Bool → Zs → Prop) : Prop := PT X e (tWT C z Q)
def FW (X : Cx) (C : Ct) (z : Zs) (e : Expr) (Q : Bool → Zs → Prop) : Prop := PW X e (tWT C z Q)
def FA (X : Cx) (C : Ct) (z : Zs) (es : List Expr) (Q : List DV → Zs → Prop) : Prop := PA X es (tWA C z Q)
/-- e gives d and changes nothing -/
def FP (X : Cx) (C : Ct) (z : Zs) (e : Expr) (d : PyData) : Prop := FE X C z e fun d' z' => d' = .d d ∧ z' = z
def FPT (X : Cx) (C : Ct) (z : Zs) (e : Expr) (b : Bool) : Prop := FT X C z e fun b' z' => b' = b ∧ z' = z
def FPW (X : Cx) (C : Ct) (z : Zs) (e : Expr) (b : Bool) : Prop := FW X C z e fun b' z' => b' = b ∧ z' = z
def FPA (X : Cx) (C : Ct) (z : Zs) (es : List Expr) (ds : List PyData) : Prop := FA X C z es fun ds' z' => ds' = ds.map .d ∧ z' = z

section
variable {X : Cx} {C : Ct} {z : Zs} {e a b : Expr} {es : List Expr} {pos : Pos}
theorem pe_con {t t' : TE} (h : PE X e t) (k : ∀ σ H Q, t' σ H Q → t σ H Q) : PE X e t' := ⟨fun pins s σ H Q I hq => h.run pins s σ H Q I (k σ H Q hq)⟩
theorem pt_con {t t' : TT} (h : PT X e t) (k : ∀ σ H Q, t' σ H Q → t σ H Q) : PT X e t' := ⟨fun pins s σ H Q I hq => h.run pins s σ H Q I (k σ H Q hq)⟩
theorem pw_con {t t' : TT} (h : PW X e t) (k : ∀ σ H Q, t' σ H Q → t σ H Q) : PW X e t' := ⟨fun wh pins s σ H Q I hq => h.run wh pins s σ H Q I (k σ H Q hq)⟩
theorem pa_con {t t' : TA} (h : PA X es t) (k : ∀ σ H Q, t' σ H Q → t σ H Q) : PA X es t' := ⟨fun p pins s σ H Q I hq => h.run p pins s σ H Q I (k σ H Q hq)⟩
theorem fe_mono {Q Q' : DV → Zs → Prop} (h : FE X C z e Q) (k : ∀ d z', Q d z' → Q' d z') : FE X C z e Q' :=
  pe_con h fun σ H R ⟨F, S, q⟩ => ⟨F, S, fun v d z' H' F' x => q v d z' H' F' (k d z' x)⟩
theorem ft_mono {Q Q' : Bool → Zs → Prop} (h : FT X C z e Q) (k : ∀ d z', Q d z' → Q' d z') : FT X C z e Q' :=
  pt_con h fun σ H R ⟨F, S, q⟩ => ⟨F, S, fun d z' H' F' x => q d z' H' F' (k d z' x)⟩
theorem fw_mono {Q Q' : Bool → Zs → Prop} (h : FW X C z e Q) (k : ∀ d z', Q d z' → Q' d z') : FW X C z e Q' :=
  pw_con h fun σ H R ⟨F, S, q⟩ => ⟨F, S, fun d z' H' F' x => q d z' H' F' (k d z' x)⟩
theorem fa_mono {Q Q' : List DV → Zs → Prop} (h : FA X C z es Q) (k : ∀ d z', Q d z' → Q' d z') : FA X C z es Q' :=
  pa_con h fun σ H R ⟨F, S, q⟩ => ⟨F, S, fun v d z' H' F' x => q v d z' H' F' (k d z' x)⟩
theorem fe_fp {Q : DV → Zs → Prop} {d : PyData} (h : FP X C z e d) (k : Q (.d d) z) : FE X C z e Q := fe_mono h fun _ _ ⟨a, b⟩ => a ▸ b ▸ k
theorem ft_fp {Q : Bool → Zs → Prop} {d : Bool} (h : FPT X C z e d) (k : Q d z) : FT X C z e Q := ft_mono h fun _ _ ⟨a, b⟩ => a ▸ b ▸ k
theorem fp_is {d d' : PyData} (h : FP X C z e d) (k : d = d') : FP X C z e d' := k ▸ h
theorem fpt_is {d d' : Bool} (h : FPT X C z e d) (k : d = d') : FPT X C z e d' := k ▸ h

/-! names and constants -/
theorem fe_name {Q : DV → Zs → Prop} {x : Str} {d : DV} (i : Nat) (hN : X.N[i]? = some x) (hv : Vis X.env.scope x) (hz : z.r[i]? = some (.v d)) (k : Q d z)
    (hd : (x == ("__debug__" : Str)) = false := by decide) (hcd : (x == ("__classdict__" : Str)) = false := by decide) : FE X C z (.Name x pos) Q := by
  refine pe_con (pe_var hN hv hd hcd) ?_
  rintro σ H R ⟨F, S, q⟩
  obtain ⟨v, e, r⟩ := S.slots i _ hz
  exact ⟨v, e, q v d z H F k S (Sub.refl _) r⟩
theorem fp_name {x : Str} {d : PyData} (i : Nat) (hz : z.r[i]? = some (sd d)) (hN : X.N[i]? = some x := by rfl)
    (hv : Vis X.env.scope x := by first | exact Or.inl rfl | exact Or.inr (Or.inl rfl) | exact Or.inr (Or.inr rfl))
    (hd : (x == ("__debug__" : Str)) = false := by decide) (hcd : (x == ("__classdict__" : Str)) = false := by decide) : FP X C z (.Name x pos) d := fe_name i hN hv hz ⟨rfl, rfl⟩ hd hcd
theorem fe_c {Q : DV → Zs → Prop} {v : V} {d : PyData} (h : PE X e (tC v)) (r : ∀ F, Dp C.K F v d) (k : Q (.d d) z) : FE X C z e Q :=
  pe_con h fun σ H R ⟨F, S, q⟩ => q v (.d d) z H F k S (Sub.refl _) (r F)
theorem fp_int {i : Int} {j : Nat} : FP X C z (.Constant (.int i) j pos) (.int i) := fe_c pe_int (fun _ => .int i) ⟨rfl, rfl⟩
theorem fp_bool {i : Bool} {j : Nat} : FP X C z (.Constant (.bool i) j pos) (.bool i) := fe_c pe_bl (fun _ => .bl i) ⟨rfl, rfl⟩
theorem fp_none {j : Nat} : FP X C z (.Constant .none j pos) .none := fe_c pe_non (fun _ => .non) ⟨rfl, rfl⟩
theorem fp_str {i : Str} {j : Nat} : FP X C z (.Constant (.str i) j pos) (.str i) := fe_c pe_str (fun _ => .str i) ⟨rfl, rfl⟩
/-- a constant of the module -/
theorem fp_gint {x : Str} {i : Int} (hm : ∃ t, X.mg x = some (.int i t)) (hg : Gl X x := by rfl) (hd : (x == ("__debug__" : Str)) = false := by decide) : FP X C z (.Name x pos) (.int i) := by
  obtain ⟨t, hm⟩ := hm
  exact fe_c (pe_glob (v := .int i) hg hm ⟨t, rfl⟩ hd) (fun _ => .int i) ⟨rfl, rfl⟩
theorem fp_gstr {x : Str} {i : Str} (hm : ∃ t, X.mg x = some (.str i t)) (hg : Gl X x := by rfl) (hd : (x == ("__debug__" : Str)) = false := by decide) : FP X C z (.Name x pos) (.str i) := by
  obtain ⟨t, hm⟩ := hm
  exact fe_c (pe_glob (v := .str i) hg hm ⟨t, rfl⟩ hd) (fun _ => .str i) ⟨rfl, rfl⟩

/-! two operands -/
def G2 (C : Ct) (r : R2) (x y : DV) (k : DV → Prop) : Prop := ∀ (F H : Hp) (v u : V) (Q' : VK), Sub F H → RV C.K C.P F v x → RV C.K C.P F u y →
  (∀ w d H' F', k d → Grow H F H' F' → RV C.K C.P F' w d → Q' w H') → r v u H Q'
theorem fe_bin {r : R2} {Qa : DV → Zs → Prop} {Q : DV → Zs → Prop} (rule : ∀ ta tb, PE X a ta → PE X b tb → PE X e (tOp r ta tb)) (ha : FE X C z a Qa)
    (hb : ∀ x z1, Qa x z1 → FE X C z1 b fun y z2 => G2 C r x y fun d => Q d z2) : FE X C z e Q := by
  have pb : PE X b (fun σ H Q' => ∃ x z1, Qa x z1 ∧ tW C z1 (fun y z2 => G2 C r x y fun d => Q d z2) σ H Q') := ⟨fun pins s σ H Q' I ⟨x, z1, q, h⟩ => (hb x z1 q).run pins s σ H Q' I h⟩
  refine pe_con (rule _ _ ha pb) ?_
  rintro σ H Q' ⟨F, S, k⟩
  refine ⟨F, S, fun v x z1 H1 F1 q S1 e1 r1 => ?_⟩
  refine ⟨x, z1, q, F1, S1, fun u y z2 H2 F2 g S2 e2 r2 => ?_⟩
  exact g F2 H2 v u Q' S2.sub (r1.mono e2) r2 fun w d H3 F3 qd gr r3 => k w d z2 H3 F3 qd (S2.grow gr) ((e1.trans e2).trans gr.f) r3
theorem fp_bin {r : R2} {x y d : PyData} (rule : ∀ ta tb, PE X a ta → PE X b tb → PE X e (tOp r ta tb)) (ha : FP X C z a x) (hb : FP X C z b y)
    (g : ∀ k : DV → Prop, k (.d d) → G2 C r (.d x) (.d y) k) : FP X C z e d :=
  fe_bin rule ha fun _ _ ⟨e1, e2⟩ => by
    subst e1 e2
    exact fe_mono hb fun _ _ ⟨e1, e2⟩ => by
      subst e1 e2
      exact g _ ⟨rfl, rfl⟩
theorem g2_I0 {gg : Int → Int → Int} {i j : Int} {k : DV → Prop} (h : k (.d (.int (gg i j)))) : G2 C (rI0 fun i j => .int (gg i j)) (.d (.int i)) (.d (.int j)) k := fun F H v u Q' s r1 r2 q =>
  ⟨i, j, dp_int r1, dp_int r2, q _ _ H F h (Grow.refl s) (.int _)⟩
theorem g2_I {gg : Int → Int → Int} {CC : Int → Int → Prop} {i j : Int} {k : DV → Prop} (hc : CC i j) (h : k (.d (.int (gg i j)))) : G2 C (rI CC fun i j => .int (gg i j)) (.d (.int i)) (.d (.int j)) k := fun F H v u Q' s r1 r2 q =>
  ⟨i, j, dp_int r1, dp_int r2, hc, q _ _ H F h (Grow.refl s) (.int _)⟩
theorem g2_B0 {gg : Int → Int → Bool} {i j : Int} {k : DV → Prop} (h : k (.d (.bool (gg i j)))) : G2 C (rI0 fun i j => .bl (gg i j)) (.d (.int i)) (.d (.int j)) k := fun F H v u Q' s r1 r2 q =>
  ⟨i, j, dp_int r1, dp_int r2, q _ _ H F h (Grow.refl s) (.bl _)⟩
theorem fp_add {i j : Int} (ha : FP X C z a (.int i)) (hb : FP X C z b (.int j)) : FP X C z (.BinOp a .Add b pos) (.int (i + j)) := fp_bin (fun _ _ => pe_op op_add) ha hb fun _ h => g2_I0 (gg := fun i j => i + j) h
theorem fp_sub {i j : Int} (ha : FP X C z a (.int i)) (hb : FP X C z b (.int j)) : FP X C z (.BinOp a .Sub b pos) (.int (i - j)) := fp_bin (fun _ _ => pe_op op_sub) ha hb fun _ h => g2_I0 (gg := fun i j => i - j) h
theorem fp_mul {i j : Int} (ha : FP X C z a (.int i)) (hb : FP X C z b (.int j)) (hc : CMul i j) : FP X C z (.BinOp a .Mult b pos) (.int (i * j)) := fp_bin (fun _ _ => pe_op op_mul) ha hb fun _ h => g2_I (gg := fun i j => i * j) hc h
theorem fp_fdiv {i j : Int} (ha : FP X C z a (.int i)) (hb : FP X C z b (.int j)) (hc : CDiv i j) : FP X C z (.BinOp a .FloorDiv b pos) (.int (i / j)) := fp_bin (fun _ _ => pe_op op_fdiv) ha hb fun _ h => g2_I (gg := fun i j => i / j) hc h
theorem fp_mod {i j : Int} (ha : FP X C z a (.int i)) (hb : FP X C z b (.int j)) (hc : 0 < j) : FP X C z (.BinOp a .Mod b pos) (.int (i % j)) := fp_bin (fun _ _ => pe_op op_mod) ha hb fun _ h => g2_I (gg := fun i j => i % j) (CC := fun _ j => 0 < j) hc h
theorem fp_pow {i j : Int} (ha : FP X C z a (.int i)) (hb : FP X C z b (.int j)) (hc : CPow i j) : FP X C z (.BinOp a .Pow b pos) (.int (i ^ j.toNat)) := fp_bin (fun _ _ => pe_op op_pow) ha hb fun _ h => g2_I (gg := fun i j => i ^ j.toNat) hc h
theorem fp_cmp {op : CmpOp} {r : R2} {x y d : PyData} (ho : OpR X (compareOp op) r) (ha : FP X C z a x) (hb : FP X C z b y) (g : ∀ k : DV → Prop, k (.d d) → G2 C r (.d x) (.d y) k)
    (hm : behindInMarks op b = false) : FP X C z (.Compare a [op] [b] pos) d := fp_bin (fun _ _ ha hb => pe_cmpR ho ha hb hm) ha hb g
theorem fp_lt {i j : Int} (ha : FP X C z a (.int i)) (hb : FP X C z b (.int j)) : FP X C z (.Compare a [.Lt] [b] pos) (.bool (decide (i < j))) := fp_cmp op_lt ha hb (fun _ h => g2_B0 (gg := fun i j => decide (i < j)) h) (nomark _)
theorem fp_le {i j : Int} (ha : FP X C z a (.int i)) (hb : FP X C z b (.int j)) : FP X C z (.Compare a [.LtE] [b] pos) (.bool (decide (i ≤ j))) := fp_cmp op_le ha hb (fun _ h => g2_B0 (gg := fun i j => decide (i ≤ j)) h) (nomark _)
theorem fp_gt {i j : Int} (ha : FP X C z a (.int i)) (hb : FP X C z b (.int j)) : FP X C z (.Compare a [.Gt] [b] pos) (.bool (decide (j < i))) := fp_cmp op_gt ha hb (fun _ h => g2_B0 (gg := fun i j => decide (j < i)) h) (nomark _)
theorem fp_ge {i j : Int} (ha : FP X C z a (.int i)) (hb : FP X C z b (.int j)) : FP X C z (.Compare a [.GtE] [b] pos) (.bool (decide (j ≤ i))) := fp_cmp op_ge ha hb (fun _ h => g2_B0 (gg := fun i j => decide (j ≤ i)) h) (nomark _)
end
end DL

set_option Elab.async false
set_option linter.all false
set_option maxRecDepth 100000
set_option maxHeartbeats 4000000
set_option autoImplicit false
namespace DL
open PySem PySem.Spec PyProof.Rows L2
section
variable {X : Cx} {C : Ct} {z : Zs} {e a b : Expr} {es : List Expr} {pos : Pos}

/-! ### scalars compared; data compared -/
theorem scal_str (x y : Str) : scal (.str x) (.str y) = true := rfl
theorem g2_eqS {x y : Str} {k : DV → Prop} (h : k (.d (.bool (decide (x = y))))) : G2 C rEq (.d (.str x)) (.d (.str y)) k := fun F H v u Q' s r1 r2 q => by
  rw [dp_str r1, dp_str r2]
  refine ⟨rfl, ?_⟩
  have := q (.bl (decide (x = y))) _ H F h (Grow.refl s) (.bl _)
  simpa using this
theorem g2_neS {x y : Str} {k : DV → Prop} (h : k (.d (.bool (!decide (x = y))))) : G2 C rNe (.d (.str x)) (.d (.str y)) k := fun F H v u Q' s r1 r2 q => by
  rw [dp_str r1, dp_str r2]
  refine ⟨rfl, ?_⟩
  have := q (.bl (!decide (x = y))) _ H F h (Grow.refl s) (.bl _)
  simpa using this
theorem g2_eqI {x y : Int} {k : DV → Prop} (h : k (.d (.bool (decide (x = y))))) : G2 C rEq (.d (.int x)) (.d (.int y)) k := fun F H v u Q' s r1 r2 q => by
  rw [dp_int r1, dp_int r2]
  refine ⟨rfl, ?_⟩
  have := q (.bl (decide (x = y))) _ H F h (Grow.refl s) (.bl _)
  simpa using this
theorem g2_neI {x y : Int} {k : DV → Prop} (h : k (.d (.bool (!decide (x = y))))) : G2 C rNe (.d (.int x)) (.d (.int y)) k := fun F H v u Q' s r1 r2 q => by
  rw [dp_int r1, dp_int r2]
  refine ⟨rfl, ?_⟩
  have := q (.bl (!decide (x = y))) _ H F h (Grow.refl s) (.bl _)
  simpa using this
theorem fp_eqS {x y : Str} (ha : FP X C z a (.str x)) (hb : FP X C z b (.str y)) : FP X C z (.Compare a [.Eq] [b] pos) (.bool (decide (x = y))) := fp_cmp op_eq ha hb (fun _ h => g2_eqS h) (nomark _)
theorem fp_neS {x y : Str} (ha : FP X C z a (.str x)) (hb : FP X C z b (.str y)) : FP X C z (.Compare a [.NotEq] [b] pos) (.bool (!decide (x = y))) := fp_cmp op_ne ha hb (fun _ h => g2_neS h) (nomark _)
theorem fp_eqI {x y : Int} (ha : FP X C z a (.int x)) (hb : FP X C z b (.int y)) : FP X C z (.Compare a [.Eq] [b] pos) (.bool (decide (x = y))) := fp_cmp op_eq ha hb (fun _ h => g2_eqI h) (nomark _)
theorem fp_neI {x y : Int} (ha : FP X C z a (.int x)) (hb : FP X C z b (.int y)) : FP X C z (.Compare a [.NotEq] [b] pos) (.bool (!decide (x = y))) := fp_cmp op_ne ha hb (fun _ h => g2_neI h) (nomark _)
/-- any data -/
theorem g2_eqD {x y : PyData} {k : DV → Prop} (hx : SeqAt.shaped x = true) (hy : SeqAt.shaped y = true) (h : k (.d (.bool (PyData.eqv x y)))) : G2 C (rEqD C.K) (.d x) (.d y) k := fun F H v u Q' s r1 r2 q =>
  ⟨x, y, dp_mono s x v r1, dp_mono s y u r2, hx, hy, q _ _ H F h (Grow.refl s) (.bl _)⟩
theorem g2_neD {x y : PyData} {k : DV → Prop} (hx : SeqAt.shaped x = true) (hy : SeqAt.shaped y = true) (h : k (.d (.bool (!PyData.eqv x y)))) : G2 C (rNeD C.K) (.d x) (.d y) k := fun F H v u Q' s r1 r2 q =>
  ⟨x, y, dp_mono s x v r1, dp_mono s y u r2, hx, hy, q _ _ H F h (Grow.refl s) (.bl _)⟩
theorem fp_eqD {x y : PyData} {n : Nat} (hr : Room n X.A) (hK : C.K = X.K) (ha : FP X C z a x) (hb : FP X C z b y) (hx : SeqAt.shaped x = true) (hy : SeqAt.shaped y = true) : FP X C z (.Compare a [.Eq] [b] pos) (.bool (PyData.eqv x y)) :=
  fp_cmp (op_eqD hr.units) ha hb (fun _ h => by rw [← hK]; exact g2_eqD hx hy h) (nomark _)
theorem fp_neD {x y : PyData} {n : Nat} (hr : Room n X.A) (hK : C.K = X.K) (ha : FP X C z a x) (hb : FP X C z b y) (hx : SeqAt.shaped x = true) (hy : SeqAt.shaped y = true) : FP X C z (.Compare a [.NotEq] [b] pos) (.bool (!PyData.eqv x y)) :=
  fp_cmp (op_neD hr.units) ha hb (fun _ h => by rw [← hK]; exact g2_neD hx hy h) (nomark _)
def isNo : PyData → Bool
  | .none => true
  | _ => false
theorem isNo_of {K : PySem.W.Frag} {F : Hp} {v : V} {x : PyData} (r : Dp K F v x) : decide (v = V.non) = isNo x := by cases r <;> rfl
/-- is None -/
theorem fp_isN {x : PyData} {j : Nat} {p2 : Pos} (ha : FP X C z a x) : FP X C z (.Compare a [.Is] [.Constant .none j p2] pos) (.bool (isNo x)) := by
  refine pe_con (pe_cmp (pc_isN ha)) ?_
  rintro σ H R ⟨F, S, q⟩
  refine ⟨F, S, fun v d z' H' F' ⟨e1, e2⟩ S' e r => ?_⟩
  subst e1 e2
  refine q _ _ _ H' F' ⟨rfl, rfl⟩ S' e ?_
  rw [isNo_of (x := x) r]
  exact .bl _
theorem fp_notN {x : PyData} {j : Nat} {p2 : Pos} (ha : FP X C z a x) : FP X C z (.Compare a [.IsNot] [.Constant .none j p2] pos) (.bool (!isNo x)) := by
  refine pe_con (pe_cmp (pc_notN ha)) ?_
  rintro σ H R ⟨F, S, q⟩
  refine ⟨F, S, fun v d z' H' F' ⟨e1, e2⟩ S' e r => ?_⟩
  subst e1 e2
  refine q _ _ _ H' F' ⟨rfl, rfl⟩ S' e ?_
  rw [isNo_of (x := x) r]
  exact .bl _

/-! ### in -/
theorem g2_in {x : PyData} {ys : List PyData} {k : DV → Prop} (hx : SeqAt.shaped x = true) (hy : SeqAt.shaped (.list ys) = true) (h : k (.d (.bool (ys.any fun y => PyData.eqv y x)))) : G2 C (rInD C.K) (.d x) (.d (.list ys)) k := fun F H v u Q' s r1 r2 q =>
  ⟨x, ys, dp_mono s x v r1, dp_mono s _ u r2, hx, hy, q _ _ H F h (Grow.refl s) (.bl _)⟩
theorem g2_notin {x : PyData} {ys : List PyData} {k : DV → Prop} (hx : SeqAt.shaped x = true) (hy : SeqAt.shaped (.list ys) = true) (h : k (.d (.bool (!ys.any fun y => PyData.eqv y x)))) : G2 C (rNotInD C.K) (.d x) (.d (.list ys)) k := fun F H v u Q' s r1 r2 q =>
  ⟨x, ys, dp_mono s x v r1, dp_mono s _ u r2, hx, hy, q _ _ H F h (Grow.refl s) (.bl _)⟩

/-! ### and, or, not, if -/
theorem fw_and1 {p : Bool} (ha : FPT X C z a p) : FPW X C z (.BoolOp .And [a] pos) p := pw_and1 ha
theorem fw_or1 {p : Bool} (ha : FPT X C z a p) : FPW X C z (.BoolOp .Or [a] pos) p := pw_or1 ha
theorem fw_and {p q : Bool} (ha : FPT X C z a p) (hb : p = true → FPW X C z (.BoolOp .And (b :: es) pos) q) : FPW X C z (.BoolOp .And (a :: b :: es) pos) (p && q) := by
  cases p with
  | true =>
    refine pw_con (pw_and ha (hb rfl)) ?_
    rintro σ H R ⟨F, S, k⟩
    refine ⟨F, S, fun b' z' H' F' ⟨e1, e2⟩ S' e => ?_⟩
    subst e1 e2
    rw [if_pos rfl]
    exact ⟨F', S', fun b' z' H'' F'' x S'' e' => k b' z' H'' F'' x S'' (e.trans e')⟩
  | false =>
    have pb : PW X (.BoolOp .And (b :: es) pos) (fun _ _ _ => False) := ⟨fun _ _ _ _ _ _ _ h => h.elim⟩
    refine pw_con (pw_and ha pb) ?_
    rintro σ H R ⟨F, S, k⟩
    refine ⟨F, S, fun b' z' H' F' ⟨e1, e2⟩ S' e => ?_⟩
    subst e1 e2
    rw [if_neg Bool.false_ne_true]
    exact k _ _ _ _ ⟨rfl, rfl⟩ S' e
theorem fw_or {p q : Bool} (ha : FPT X C z a p) (hb : p = false → FPW X C z (.BoolOp .Or (b :: es) pos) q) : FPW X C z (.BoolOp .Or (a :: b :: es) pos) (p || q) := by
  cases p with
  | false =>
    refine pw_con (pw_or ha (hb rfl)) ?_
    rintro σ H R ⟨F, S, k⟩
    refine ⟨F, S, fun b' z' H' F' ⟨e1, e2⟩ S' e => ?_⟩
    subst e1 e2
    rw [if_neg Bool.false_ne_true]
    exact ⟨F', S', fun b' z' H'' F'' x S'' e' => k b' z' H'' F'' x S'' (e.trans e')⟩
  | true =>
    have pb : PW X (.BoolOp .Or (b :: es) pos) (fun _ _ _ => False) := ⟨fun _ _ _ _ _ _ _ h => h.elim⟩
    refine pw_con (pw_or ha pb) ?_
    rintro σ H R ⟨F, S, k⟩
    refine ⟨F, S, fun b' z' H' F' ⟨e1, e2⟩ S' e => ?_⟩
    subst e1 e2
    rw [if_pos rfl]
    exact k _ _ _ _ ⟨rfl, rfl⟩ S' e
theorem ft_w {p : Bool} (h : FPW X C z e p) : FPT X C z e p := PW.pt h
theorem ft_not {p : Bool} (h : FPT X C z a p) : FPT X C z (.UnaryOp .Not a pos) (!p) := by
  refine pt_con (pt_not h) ?_
  rintro σ H R ⟨F, S, k⟩
  refine ⟨F, S, fun b' z' H' F' ⟨e1, e2⟩ S' e => ?_⟩
  subst e1 e2
  exact k _ _ _ _ ⟨rfl, rfl⟩ S' e
/-- a value that is a bool, as a test (a name, a call, a subscript) -/
theorem ft_val {p : Bool} (h : FP X C z e (.bool p)) (he : ∀ whole, isTrue e X.env whole = (do let v ← whole; standAt e.pos; holding [v] (truthy v)) := by intro _; rfl) : FPT X C z e p := by
  refine pt_con (pt_val h he) ?_
  rintro σ H R ⟨F, S, k⟩
  refine ⟨F, S, fun v d z' H' F' ⟨e1, e2⟩ S' e r => ?_⟩
  subst e1 e2
  exact ⟨p, dp_bool r, k _ _ _ _ ⟨rfl, rfl⟩ S' e⟩
/-- a comparison as a test -/
theorem ft_cmp {op : CmpOp} {r : R2} {x y : PyData} {p : Bool} (ho : OpR X (compareOp op) r) (ha : FP X C z a x) (hb : FP X C z b y) (g : ∀ k : DV → Prop, k (.d (.bool p)) → G2 C r (.d x) (.d y) k)
    (hm : behindInMarks op b = false) : FPT X C z (.Compare a [op] [b] pos) p := by
  refine pt_con (pt_cmpR ho ha hb hm) ?_
  rintro σ H R ⟨F, S, k⟩
  refine ⟨F, S, fun v d z' H' F' ⟨e1, e2⟩ S' e r1 => ?_⟩
  subst e1 e2
  refine ⟨F', S', fun u d2 z' H2 F2 ⟨e1, e2⟩ S2 e2' r2 => ?_⟩
  subst e1 e2
  refine g (fun d => d = .d (.bool p)) rfl F2 H2 v u _ S2.sub (r1.mono e2') r2 fun w d H3 F3 ek gr r3 => ?_
  subst ek
  exact ⟨p, dp_bool r3, k _ _ _ _ ⟨rfl, rfl⟩ (S2.grow gr) ((e.trans e2').trans gr.f)⟩
theorem ft_lt {i j : Int} (ha : FP X C z a (.int i)) (hb : FP X C z b (.int j)) : FPT X C z (.Compare a [.Lt] [b] pos) (decide (i < j)) := ft_cmp op_lt ha hb (fun _ h => g2_B0 (gg := fun i j => decide (i < j)) h) (nomark _)
theorem ft_le {i j : Int} (ha : FP X C z a (.int i)) (hb : FP X C z b (.int j)) : FPT X C z (.Compare a [.LtE] [b] pos) (decide (i ≤ j)) := ft_cmp op_le ha hb (fun _ h => g2_B0 (gg := fun i j => decide (i ≤ j)) h) (nomark _)
theorem ft_gt {i j : Int} (ha : FP X C z a (.int i)) (hb : FP X C z b (.int j)) : FPT X C z (.Compare a [.Gt] [b] pos) (decide (j < i)) := ft_cmp op_gt ha hb (fun _ h => g2_B0 (gg := fun i j => decide (j < i)) h) (nomark _)
theorem ft_ge {i j : Int} (ha : FP X C z a (.int i)) (hb : FP X C z b (.int j)) : FPT X C z (.Compare a [.GtE] [b] pos) (decide (j ≤ i)) := ft_cmp op_ge ha hb (fun _ h => g2_B0 (gg := fun i j => decide (j ≤ i)) h) (nomark _)
theorem ft_eqS {x y : Str} (ha : FP X C z a (.str x)) (hb : FP X C z b (.str y)) : FPT X C z (.Compare a [.Eq] [b] pos) (decide (x = y)) := ft_cmp op_eq ha hb (fun _ h => g2_eqS h) (nomark _)
theorem ft_neS {x y : Str} (ha : FP X C z a (.str x)) (hb : FP X C z b (.str y)) : FPT X C z (.Compare a [.NotEq] [b] pos) (!decide (x = y)) := ft_cmp op_ne ha hb (fun _ h => g2_neS h) (nomark _)
theorem ft_eqI {x y : Int} (ha : FP X C z a (.int x)) (hb : FP X C z b (.int y)) : FPT X C z (.Compare a [.Eq] [b] pos) (decide (x = y)) := ft_cmp op_eq ha hb (fun _ h => g2_eqI h) (nomark _)
theorem ft_neI {x y : Int} (ha : FP X C z a (.int x)) (hb : FP X C z b (.int y)) : FPT X C z (.Compare a [.NotEq] [b] pos) (!decide (x = y)) := ft_cmp op_ne ha hb (fun _ h => g2_neI h) (nomark _)
theorem ft_eqD {x y : PyData} {n : Nat} (hr : Room n X.A) (hK : C.K = X.K) (ha : FP X C z a x) (hb : FP X C z b y) (hx : SeqAt.shaped x = true) (hy : SeqAt.shaped y = true) : FPT X C z (.Compare a [.Eq] [b] pos) (PyData.eqv x y) :=
  ft_cmp (op_eqD hr.units) ha hb (fun _ h => by rw [← hK]; exact g2_eqD hx hy h) (nomark _)
theorem ft_neD {x y : PyData} {n : Nat} (hr : Room n X.A) (hK : C.K = X.K) (ha : FP X C z a x) (hb : FP X C z b y) (hx : SeqAt.shaped x = true) (hy : SeqAt.shaped y = true) : FPT X C z (.Compare a [.NotEq] [b] pos) (!PyData.eqv x y) :=
  ft_cmp (op_neD hr.units) ha hb (fun _ h => by rw [← hK]; exact g2_neD hx hy h) (nomark _)
theorem ft_isN {x : PyData} {j : Nat} {p2 : Pos} (ha : FP X C z a x) : FPT X C z (.Compare a [.Is] [.Constant .none j p2] pos) (isNo x) := by
  refine pt_con (pt_cmp (pc_isN ha)) ?_
  rintro σ H R ⟨F, S, q⟩
  refine ⟨F, S, fun v d z' H' F' ⟨e1, e2⟩ S' e r => ?_⟩
  subst e1 e2
  refine ⟨_, rfl, ?_⟩
  rw [isNo_of (x := x) r]
  exact q _ _ H' F' ⟨rfl, rfl⟩ S' e
theorem ft_notN {x : PyData} {j : Nat} {p2 : Pos} (ha : FP X C z a x) : FPT X C z (.Compare a [.IsNot] [.Constant .none j p2] pos) (!isNo x) := by
  refine pt_con (pt_cmp (pc_notN ha)) ?_
  rintro σ H R ⟨F, S, q⟩
  refine ⟨F, S, fun v d z' H' F' ⟨e1, e2⟩ S' e r => ?_⟩
  subst e1 e2
  refine ⟨_, rfl, ?_⟩
  rw [isNo_of (x := x) r]
  exact q _ _ H' F' ⟨rfl, rfl⟩ S' e
theorem ft_in {x : PyData} {ys : List PyData} (hu : X.A.units + 65 < cLine) (hK : C.K = X.K) (ha : FP X C z a x) (hb : FP X C z b (.list ys)) (hx : SeqAt.shaped x = true) (hy : SeqAt.shaped (.list ys) = true) (hm : behindInMarks .In b = false := by rfl) :
    FPT X C z (.Compare a [.In] [b] pos) (ys.any fun y => PyData.eqv y x) := ft_cmp (op_inD hu) ha hb (fun _ h => by rw [← hK]; exact g2_in hx hy h) hm
theorem ft_notin {x : PyData} {ys : List PyData} (hu : X.A.units + 65 < cLine) (hK : C.K = X.K) (ha : FP X C z a x) (hb : FP X C z b (.list ys)) (hx : SeqAt.shaped x = true) (hy : SeqAt.shaped (.list ys) = true) (hm : behindInMarks .NotIn b = false := by rfl) :
    FPT X C z (.Compare a [.NotIn] [b] pos) (!ys.any fun y => PyData.eqv y x) := ft_cmp (op_notInD hu) ha hb (fun _ h => by rw [← hK]; exact g2_notin hx hy h) hm

/-- as values -/
theorem fp_one {op : BoolOp} {d : PyData} (h : FP X C z a d) : FP X C z (.BoolOp op [a] pos) d := pe_one h
theorem fp_and {p : Bool} {q : Bool} (ha : FP X C z a (.bool p)) (hb : p = true → FP X C z (.BoolOp .And (b :: es) pos) (.bool q)) : FP X C z (.BoolOp .And (a :: b :: es) pos) (.bool (p && q)) := by
  have pb : PE X (.BoolOp .And (b :: es) pos) (fun σ H R => p = true ∧ tW C z (fun d' z' => d' = .d (.bool q) ∧ z' = z) σ H R) := ⟨fun pins s σ H R I ⟨hp, h⟩ => (hb hp).run pins s σ H R I h⟩
  refine pe_con (pe_and ha pb) ?_
  rintro σ H R ⟨F, S, k⟩
  refine ⟨F, S, fun v d z' H' F' ⟨e1, e2⟩ S' e r => ?_⟩
  subst e1 e2
  refine ⟨p, dp_bool r, ?_⟩
  cases p with
  | true =>
    rw [if_pos rfl]
    exact ⟨rfl, F', S', fun v d z' H'' F'' x S'' e' => k v d z' H'' F'' x S'' (e.trans e')⟩
  | false =>
    rw [if_neg Bool.false_ne_true]
    exact k _ _ _ _ _ ⟨rfl, rfl⟩ S' e (.bl _)
theorem fp_or {p : Bool} {q : Bool} (ha : FP X C z a (.bool p)) (hb : p = false → FP X C z (.BoolOp .Or (b :: es) pos) (.bool q)) : FP X C z (.BoolOp .Or (a :: b :: es) pos) (.bool (p || q)) := by
  have pb : PE X (.BoolOp .Or (b :: es) pos) (fun σ H R => p = false ∧ tW C z (fun d' z' => d' = .d (.bool q) ∧ z' = z) σ H R) := ⟨fun pins s σ H R I ⟨hp, h⟩ => (hb hp).run pins s σ H R I h⟩
  refine pe_con (pe_or ha pb) ?_
  rintro σ H R ⟨F, S, k⟩
  refine ⟨F, S, fun v d z' H' F' ⟨e1, e2⟩ S' e r => ?_⟩
  subst e1 e2
  refine ⟨p, dp_bool r, ?_⟩
  cases p with
  | false =>
    rw [if_neg Bool.false_ne_true]
    exact ⟨rfl, F', S', fun v d z' H'' F'' x S'' e' => k v d z' H'' F'' x S'' (e.trans e')⟩
  | true =>
    rw [if_pos rfl]
    exact k _ _ _ _ _ ⟨rfl, rfl⟩ S' e (.bl _)
theorem fp_not {p : Bool} (ha : FP X C z a (.bool p)) : FP X C z (.UnaryOp .Not a pos) (.bool (!p)) := by
  refine pe_con (pe_not ha) ?_
  rintro σ H R ⟨F, S, k⟩
  refine ⟨F, S, fun v d z' H' F' ⟨e1, e2⟩ S' e r => ?_⟩
  subst e1 e2
  exact ⟨p, dp_bool r, k _ _ _ _ _ ⟨rfl, rfl⟩ S' e (.bl _)⟩
theorem fp_neg {i : Int} (ha : FP X C z a (.int i)) : FP X C z (.UnaryOp .USub a pos) (.int (-i)) := by
  refine pe_con (pe_un un_neg ha) ?_
  rintro σ H R ⟨F, S, k⟩
  refine ⟨F, S, fun v d z' H' F' ⟨e1, e2⟩ S' e r => ?_⟩
  subst e1 e2
  exact ⟨i, dp_int r, k _ _ _ _ _ ⟨rfl, rfl⟩ S' e (.int _)⟩
/-- a if t else b, with any ends -/
theorem fe_if {c : Expr} {p : Bool} {Q : DV → Zs → Prop} (hc : FPT X C z c p) (ha : p = true → FE X C z a Q) (hb : p = false → FE X C z b Q) : FE X C z (.IfExp c a b pos) Q := by
  have pa : PE X a (fun σ H R => p = true ∧ tW C z Q σ H R) := ⟨fun pins s σ H R I ⟨hp, h⟩ => (ha hp).run pins s σ H R I h⟩
  have pb : PE X b (fun σ H R => p = false ∧ tW C z Q σ H R) := ⟨fun pins s σ H R I ⟨hp, h⟩ => (hb hp).run pins s σ H R I h⟩
  refine pe_con (pe_ifExp hc pa pb) ?_
  rintro σ H R ⟨F, S, k⟩
  refine ⟨F, S, fun b' z' H' F' ⟨e1, e2⟩ S' e => ?_⟩
  subst e1 e2
  cases b' with
  | true =>
    rw [if_pos rfl]
    exact ⟨rfl, F', S', fun v d z' H'' F'' x S'' e' => k v d z' H'' F'' x S'' (e.trans e')⟩
  | false =>
    rw [if_neg Bool.false_ne_true]
    exact ⟨rfl, F', S', fun v d z' H'' F'' x S'' e' => k v d z' H'' F'' x S'' (e.trans e')⟩
theorem fp_if {c : Expr} {p : Bool} {x y : PyData} (hc : FPT X C z c p) (ha : p = true → FP X C z a x) (hb : p = false → FP X C z b y) : FP X C z (.IfExp c a b pos) (if p = true then x else y) := by
  refine fe_if hc (fun h => ?_) (fun h => ?_)
  · rw [if_pos h]; exact ha h
  · rw [if_neg (by rw [h]; exact Bool.false_ne_true)]; exact hb h

/-! ### arguments and displays -/
theorem fa_nil {Q : List DV → Zs → Prop} (k : Q [] z) : FA X C z [] Q := pa_con pa_nil fun σ H R ⟨F, S, q⟩ => q [] [] z H F k S (Sub.refl _) .nil
theorem paired_mono {K : PySem.W.Frag} {P : Option Addr} {F G : Hp} (e : Sub F G) : ∀ {vs : List V} {ds : List DV}, Paired (RV K P F) vs ds → Paired (RV K P G) vs ds
  | _, _, .nil => .nil
  | _, _, .cons h t => .cons (h.mono e) (paired_mono e t)
theorem fa_cons {Qe : DV → Zs → Prop} {Q : List DV → Zs → Prop} (h : FE X C z e Qe) (hr : ∀ d z1, Qe d z1 → FA X C z1 es fun ds z2 => Q (d :: ds) z2)
    (hs : starEach (e :: es) X.env = (false, eval e X.env) :: starEach es X.env := by rfl) : FA X C z (e :: es) Q := by
  have pr : PA X es (fun σ H R => ∃ d z1, Qe d z1 ∧ tWA C z1 (fun ds z2 => Q (d :: ds) z2) σ H R) := ⟨fun p pins s σ H R I ⟨d, z1, q, h⟩ => (hr d z1 q).run p pins s σ H R I h⟩
  refine pa_con (pa_cons h pr hs) ?_
  rintro σ H R ⟨F, S, k⟩
  refine ⟨F, S, fun v d z1 H1 F1 q S1 e1 r1 => ⟨d, z1, q, F1, S1, fun vs ds z2 H2 F2 q2 S2 e2 r2 => ?_⟩⟩
  exact k _ _ z2 H2 F2 q2 S2 (e1.trans e2) (.cons (r1.mono e2) r2)
theorem fpa_nil : FPA X C z [] [] := fa_nil ⟨rfl, rfl⟩
theorem fpa_cons {d : PyData} {ds : List PyData} (h : FP X C z e d) (hr : FPA X C z es ds) (hs : starEach (e :: es) X.env = (false, eval e X.env) :: starEach es X.env := by rfl) : FPA X C z (e :: es) (d :: ds) :=
  fa_cons h (fun _ _ ⟨e1, e2⟩ => by
    subst e1 e2
    exact fa_mono hr fun _ _ ⟨e1, e2⟩ => by
      subst e1 e2
      exact ⟨rfl, rfl⟩) hs
theorem paired_dp {K : PySem.W.Frag} {P : Option Addr} {F : Hp} : ∀ {vs : List V} {ds : List PyData}, Paired (RV K P F) vs (ds.map .d) → DpAll K F vs ds
  | _, [], h => by cases h; exact .nil
  | _, d :: ds, h => by
    cases h with
    | cons h t => exact .cons h (paired_dp t)
theorem dp_paired {K : PySem.W.Frag} {P : Option Addr} {F : Hp} : ∀ {vs : List V} {ds : List PyData}, DpAll K F vs ds → Paired (RV K P F) vs (ds.map .d)
  | _, _, .nil => .nil
  | _, _, .cons h t => .cons h (dp_paired t)
theorem paired_app {α β : Type} {R : α → β → Prop} : ∀ {a1 a2 : List α} {b1 b2 : List β}, Paired R a1 b1 → Paired R a2 b2 → Paired R (a1 ++ a2) (b1 ++ b2)
  | _, _, _, _, .nil, h => h
  | _, _, _, _, .cons r t, h => .cons r (paired_app t h)
/-- *e -/
theorem fa_star {Qe : List PyData → Zs → Prop} {Q : List DV → Zs → Prop} {p : Pos} (hK : C.K = X.K) (h : FE X C z e fun d z1 => ∃ xs, (d = .d (.tuple xs) ∨ d = .d (.list xs)) ∧ Qe xs z1) (hr : ∀ xs z1, Qe xs z1 → FA X C z1 es fun ds z2 => Q (xs.map .d ++ ds) z2)
    (hs : starEach (.Starred e p :: es) X.env = (true, eval e X.env) :: starEach es X.env := by rfl) : FA X C z (.Starred e p :: es) Q := by
  have pr : PA X es (fun σ H R => ∃ xs z1, Qe xs z1 ∧ tWA C z1 (fun ds z2 => Q (xs.map .d ++ ds) z2) σ H R) := ⟨fun p pins s σ H R I ⟨d, z1, q, h⟩ => (hr d z1 q).run p pins s σ H R I h⟩
  refine pa_con (StX.pa_star h pr hs) ?_
  rintro σ H R ⟨F, S, k⟩
  refine ⟨F, S, fun v d z1 H1 F1 q S1 e1 r1 => ?_⟩
  obtain ⟨xs, hd, q⟩ := q
  rw [← hK]
  rcases hd with hd | hd
  · subst hd
    obtain ⟨a, vs, ev, hq, hp⟩ := dp_tuple r1
    exact ⟨a, vs, ev, .inl (S1.sub.st hq), xs, z1, q, F1, S1, fun ws ds z2 H2 F2 q2 S2 e2 r2 => k _ _ z2 H2 F2 q2 S2 (e1.trans e2) (paired_app (dp_paired (dpAll_mono e2 _ _ hp)) r2)⟩
  · subst hd
    obtain ⟨a, vs, ev, hq, hp⟩ := dp_list r1
    exact ⟨a, vs, ev, .inr (S1.sub.sl hq), xs, z1, q, F1, S1, fun ws ds z2 H2 F2 q2 S2 e2 r2 => k _ _ z2 H2 F2 q2 S2 (e1.trans e2) (paired_app (dp_paired (dpAll_mono e2 _ _ hp)) r2)⟩
theorem fpa_starT {xs ds : List PyData} {p : Pos} (hK : C.K = X.K) (h : FP X C z e (.tuple xs)) (hr : FPA X C z es ds)
    (hs : starEach (.Starred e p :: es) X.env = (true, eval e X.env) :: starEach es X.env := by rfl) : FPA X C z (.Starred e p :: es) (xs ++ ds) :=
  fa_star (Qe := fun ys z1 => ys = xs ∧ z1 = z) hK (fe_mono h fun _ _ ⟨e1, e2⟩ => ⟨xs, .inl e1, rfl, e2⟩) (fun _ _ ⟨e1, e2⟩ => by
    subst e1 e2
    exact fa_mono hr fun _ _ ⟨e1, e2⟩ => by
      subst e1 e2
      exact ⟨by rw [List.map_append], rfl⟩) hs
theorem fpa_starL {xs ds : List PyData} {p : Pos} (hK : C.K = X.K) (h : FP X C z e (.list xs)) (hr : FPA X C z es ds)
    (hs : starEach (.Starred e p :: es) X.env = (true, eval e X.env) :: starEach es X.env := by rfl) : FPA X C z (.Starred e p :: es) (xs ++ ds) :=
  fa_star (Qe := fun ys z1 => ys = xs ∧ z1 = z) hK (fe_mono h fun _ _ ⟨e1, e2⟩ => ⟨xs, .inr e1, rfl, e2⟩) (fun _ _ ⟨e1, e2⟩ => by
    subst e1 e2
    exact fa_mono hr fun _ _ ⟨e1, e2⟩ => by
      subst e1 e2
      exact ⟨by rw [List.map_append], rfl⟩) hs
theorem map_d_inj : ∀ {xs ys : List PyData}, xs.map DV.d = ys.map DV.d → xs = ys
  | [], [], _ => rfl
  | [], _ :: _, h => by cases h
  | _ :: _, [], h => by cases h
  | x :: xs, y :: ys, h => by
    injection h with h1 h2
    injection h1 with h1
    rw [h1, map_d_inj h2]
/-- a tuple is made -/
theorem fe_tuple {k : Nat} {Q : DV → Zs → Prop} (h : FA X C z es fun ds z1 => ∃ xs, ds = xs.map .d ∧ xs.length ≤ sizeLine ∧ Q (.d (.tuple xs)) z1) : FE X C z (.Tuple es k pos) Q := by
  refine pe_con (pe_tup h) ?_
  rintro σ H R ⟨F, S, k⟩
  refine ⟨F, S, fun vs ds z1 H1 F1 ⟨xs, e0, hz, q⟩ S1 e1 r1 => ?_⟩
  subst e0
  have r1 := paired_dp r1
  refine ⟨by rw [dpAll_len r1]; exact hz, fun p hp => ?_⟩
  have g : Grow H1 F1 (upd H1 p (.tup vs)) (upd F1 p (.tup vs)) := Grow.new S1.sub hp
  exact k _ _ z1 _ _ q (S1.grow g) (e1.trans g.f) (.tup (SqT.of upd_same) (dpAll_mono g.f _ _ r1))
theorem fp_tuple {k : Nat} {xs : List PyData} (h : FPA X C z es xs) (hz : xs.length ≤ 100000 := by first | decide | (simp only [List.length_cons, List.length_nil]; decide)) : FP X C z (.Tuple es k pos) (.tuple xs) :=
  fe_tuple (fa_mono h fun _ _ ⟨e1, e2⟩ => ⟨xs, e1, by rw [sizeLine_eq]; omega, rfl, e2⟩)
end
end DL

set_option Elab.async false
set_option linter.all false
set_option maxRecDepth 100000
set_option maxHeartbeats 4000000
set_option autoImplicit false
namespace DL
open PySem PySem.Spec PyProof.Rows L2

/-! ### lists of one's own -/
structure Own (C : Ct) (z : Zs) (σ : L2.St) (H F : Hp) (a : Addr) (vs : List V) : Prop where
  at_ : H a = some (.lst vs)
  nf : F a = none
  nh : C.hold a = none
  np : C.P ≠ some a
  sep : ∀ (i : Nat) (xs : List PyData), z.r[i]? = some (.ow xs) → σ[i]? ≠ some (some (.ref a))
theorem Sim.cell {C : Ct} {z : Zs} {σ : L2.St} {H F : Hp} (S : Sim C z σ H F) {p : Addr} (hp : H p = none) (o : HO) : Sim C z σ (upd H p o) F where
  sub := S.sub.trans (sub_new hp)
  ext := S.ext
  keep := S.keep.trans (sub_new hp)
  fresh := S.fresh
  slots := fun i s e => by
    have q := S.slots i s e
    cases s with
    | un => trivial
    | v d => exact q
    | ow ds =>
      obtain ⟨a, vs, e1, h1, f1, h2, p1, r⟩ := q
      exact ⟨a, vs, e1, sub_new hp _ _ h1, f1, h2, p1, r⟩
  sep := S.sep
  pot := fun p e => by
    obtain ⟨h1, f1, h2⟩ := S.pot p e
    exact ⟨sub_new hp _ _ h1, f1, h2⟩
  len := S.len
  tab := fun q e => by
    obtain ⟨h1, f1, h2⟩ := S.tab q e
    exact ⟨h1.ext (sub_new hp), f1, h2⟩
  ft := S.ft
  ht := S.ht
theorem Sim.own_new {C : Ct} {z : Zs} {σ : L2.St} {H F : Hp} (S : Sim C z σ H F) {p : Addr} (hp : H p = none) (vs : List V) : Own C z σ (upd H p (.lst vs)) F p vs where
  at_ := upd_same
  nf := none_of_sub S.sub hp
  nh := none_of_sub S.keep hp
  np := fun e => by
    have q := (S.pot p e).1
    rw [hp] at q
    cases q
  sep := fun i xs e q => by
    obtain ⟨a, ws, e1, h1, _⟩ := S.slots i _ e
    rw [q] at e1
    cases e1
    rw [hp] at h1
    cases h1
theorem Sim.freeze {C : Ct} {z : Zs} {σ : L2.St} {H F : Hp} {a : Addr} {vs : List V} (S : Sim C z σ H F) (o : Own C z σ H F a vs) : Sim C z σ H (upd F a (.lst vs)) where
  sub := fun b u e => by
    by_cases q : b = a
    · subst q; rw [upd_same] at e; cases e; exact o.at_
    · rw [upd_ne q] at e; exact S.sub b u e
  ext := S.ext.trans (sub_new o.nf)
  keep := S.keep
  fresh := fun b u e => by
    by_cases q : b = a
    · subst q; exact .inr o.nh
    · rw [upd_ne q] at e; exact S.fresh b u e
  slots := fun i s e => by
    have q := S.slots i s e
    cases s with
    | un => trivial
    | v d =>
      obtain ⟨v, e1, r⟩ := q
      exact ⟨v, e1, r.mono (sub_new o.nf)⟩
    | ow ds =>
      obtain ⟨b, ws, e1, h1, f1, h2, p1, r⟩ := q
      refine ⟨b, ws, e1, h1, ?_, h2, p1, dpAll_mono (sub_new o.nf) _ _ r⟩
      have hb : b ≠ a := fun z => by subst z; exact o.sep i ds e e1
      rw [upd_ne hb]; exact f1
  sep := S.sep
  pot := fun p e => by
    obtain ⟨h1, f1, h2⟩ := S.pot p e
    refine ⟨h1, ?_, h2⟩
    have hb : p ≠ a := fun z => by subst z; exact o.np e
    rw [upd_ne hb]; exact f1
  len := S.len
  tab := fun p e => by
    obtain ⟨h1, f1, h2⟩ := S.tab p e
    refine ⟨h1, ?_, h2⟩
    obtain ⟨ps, t1, _⟩ := h1
    have hb : p.1 ≠ a := fun z => by rw [z, o.at_] at t1; cases t1
    rw [upd_ne hb]; exact f1
  ft := fun b ps e => by
    by_cases q : b = a
    · subst q; rw [upd_same] at e; cases e
    · rw [upd_ne q] at e; exact S.ft b ps e
  ht := S.ht
def tWL (C : Ct) (z : Zs) (Q : List PyData → Zs → Prop) : TE := fun σ H Q' => ∃ F, Sim C z σ H F ∧ ∀ a vs ds z' H' F', Q ds z' → Sim C z' σ H' F' → Sub F F' → Own C z' σ H' F' a vs → DpAll C.K F' vs ds → Q' (.ref a) H'
/-- e gives a new list -/
def FL (X : Cx) (C : Ct) (z : Zs) (e : Expr) (Q : List PyData → Zs → Prop) : Prop := PE X e (tWL C z Q)
def FLP (X : Cx) (C : Ct) (z : Zs) (e : Expr) (ds : List PyData) : Prop := FL X C z e fun ds' z' => ds' = ds ∧ z' = z

section
variable {X : Cx} {C : Ct} {z : Zs} {e a b : Expr} {es : List Expr} {pos : Pos}
theorem fe_fl {Q : DV → Zs → Prop} (h : FL X C z e fun ds z' => Q (.d (.list ds)) z') : FE X C z e Q := by
  refine pe_con h ?_
  rintro σ H R ⟨F, S, k⟩
  refine ⟨F, S, fun a vs ds z' H' F' q S' e o r => ?_⟩
  exact k _ _ z' H' _ q (S'.freeze o) (e.trans (sub_new o.nf)) (.lst (SqL.of upd_same) (dpAll_mono (sub_new o.nf) _ _ r))
theorem fp_fl {ds : List PyData} (h : FLP X C z e ds) : FP X C z e (.list ds) := fe_fl (pe_con h fun σ H R ⟨F, S, k⟩ => ⟨F, S, fun a vs ds z' H' F' ⟨e1, e2⟩ => k a vs ds z' H' F' ⟨by rw [e1], e2⟩⟩)
theorem fl_mono {Q Q' : List PyData → Zs → Prop} (h : FL X C z e Q) (k : ∀ d z', Q d z' → Q' d z') : FL X C z e Q' :=
  pe_con h fun σ H R ⟨F, S, q⟩ => ⟨F, S, fun a vs d z' H' F' x => q a vs d z' H' F' (k d z' x)⟩
theorem flp_is {d d' : List PyData} (h : FLP X C z e d) (k : d = d') : FLP X C z e d' := k ▸ h
/-- a list is made -/
theorem fl_list {Q : List PyData → Zs → Prop} (h : FA X C z es fun ds z1 => ∃ xs, ds = xs.map .d ∧ xs.length ≤ sizeLine ∧ Q xs z1) : FL X C z (.List es pos) Q := by
  refine pe_con (pe_lst h) ?_
  rintro σ H R ⟨F, S, k⟩
  refine ⟨F, S, fun vs ds z1 H1 F1 ⟨xs, e0, hz, q⟩ S1 e1 r1 => ?_⟩
  subst e0
  have r1 := paired_dp r1
  refine ⟨by rw [dpAll_len r1]; exact hz, fun p hp => ?_⟩
  exact k p vs xs z1 _ F1 q (S1.cell hp _) e1 (S1.own_new hp vs) r1
theorem flp_list {xs : List PyData} (h : FPA X C z es xs) (hz : xs.length ≤ 100000 := by first | decide | (simp only [List.length_cons, List.length_nil]; decide)) : FLP X C z (.List es pos) xs :=
  fl_list (fa_mono h fun _ _ ⟨e1, e2⟩ => ⟨xs, e1, by rw [sizeLine_eq]; omega, rfl, e2⟩)

/-! ### an item -/
theorem ix_dp {K : PySem.W.Frag} {F : Hp} {vs : List V} {ds : List PyData} (h : DpAll K F vs ds) {i : Int} {d : PyData} (e : atI ds i = some d) : ∃ v, atI vs i = some v ∧ Dp K F v d := by
  unfold atI at e ⊢
  rw [dpAll_len h]
  cases q : ixN ds.length i with
  | none => rw [q] at e; cases e
  | some j =>
    rw [q] at e
    obtain ⟨v, e1, r⟩ := dpAll_get h (i := j) (d := d) e
    exact ⟨v, e1, r⟩
theorem g2_ixT {ds : List PyData} {i : Int} {d : PyData} {k : DV → Prop} (hd : atI ds i = some d) (h : k (.d d)) : G2 C (rIxT C.K) (.d (.tuple ds)) (.d (.int i)) k := fun F H v u Q' s r1 r2 q => by
  obtain ⟨a, vs, ev, hq, hp⟩ := dp_tuple r1
  obtain ⟨w, e1, r⟩ := ix_dp hp hd
  exact ⟨a, vs, i, w, ev, dp_int r2, s.st hq, e1, q w (.d d) H F h (Grow.refl s) r⟩
theorem g2_ixL {ds : List PyData} {i : Int} {d : PyData} {k : DV → Prop} (hd : atI ds i = some d) (h : k (.d d)) : G2 C (rIxL C.K) (.d (.list ds)) (.d (.int i)) k := fun F H v u Q' s r1 r2 q => by
  obtain ⟨a, vs, ev, hq, hp⟩ := dp_list r1
  obtain ⟨w, e1, r⟩ := ix_dp hp hd
  exact ⟨a, vs, i, w, ev, dp_int r2, s.sl hq, e1, q w (.d d) H F h (Grow.refl s) r⟩
theorem fp_ixT {ds : List PyData} {i : Int} {d : PyData} (hK : C.K = X.K) (ha : FP X C z a (.tuple ds)) (hb : FP X C z b (.int i)) (hd : atI ds i = some d) (hs : PlainIx b := by exact fun _ _ => rfl) : FP X C z (.Subscript a b pos) d :=
  fp_bin (fun _ _ ha hb => pe_ix ix_tup ha hb hs) ha hb fun _ h => by rw [← hK]; exact g2_ixT hd h
theorem fp_ixL {ds : List PyData} {i : Int} {d : PyData} (hK : C.K = X.K) (ha : FP X C z a (.list ds)) (hb : FP X C z b (.int i)) (hd : atI ds i = some d) (hs : PlainIx b := by exact fun _ _ => rfl) : FP X C z (.Subscript a b pos) d :=
  fp_bin (fun _ _ ha hb => pe_ix ix_list ha hb hs) ha hb fun _ h => by rw [← hK]; exact g2_ixL hd h
theorem fe_ixL {ds : List PyData} {Q : DV → Zs → Prop} (hK : C.K = X.K) (ha : FP X C z a (.list ds)) (hb : FE X C z b fun y z1 => ∃ i d, y = .d (.int i) ∧ atI ds i = some d ∧ Q (.d d) z1) (hs : PlainIx b := by exact fun _ _ => rfl) : FE X C z (.Subscript a b pos) Q :=
  fe_bin (fun _ _ ha hb => pe_ix ix_list ha hb hs) ha fun _ _ ⟨e1, e2⟩ => by
    subst e1 e2
    exact fe_mono hb fun y z1 ⟨i, d, ey, hd, q⟩ => by
      subst ey
      rw [← hK]; exact g2_ixL hd q
theorem fe_ixT {ds : List PyData} {Q : DV → Zs → Prop} (hK : C.K = X.K) (ha : FP X C z a (.tuple ds)) (hb : FE X C z b fun y z1 => ∃ i d, y = .d (.int i) ∧ atI ds i = some d ∧ Q (.d d) z1) (hs : PlainIx b := by exact fun _ _ => rfl) : FE X C z (.Subscript a b pos) Q :=
  fe_bin (fun _ _ ha hb => pe_ix ix_tup ha hb hs) ha fun _ _ ⟨e1, e2⟩ => by
    subst e1 e2
    exact fe_mono hb fun y z1 ⟨i, d, ey, hd, q⟩ => by
      subst ey
      rw [← hK]; exact g2_ixT hd q
/-- a name that holds a list of its own, read in place -/
theorem fp_onO {r : R2} {x : Str} {ds : List PyData} {y d : PyData} (i : Nat) (rule : ∀ ta tb, PE X (.Name x pos) ta → PE X b tb → PE X e (tOp r ta tb)) (hz : z.r[i]? = some (.ow ds)) (hb : FP X C z b y)
    (g : ∀ (F H : Hp) (p : Addr) (vs : List V) (u : V) (Q' : VK), Sub F H → H p = some (.lst vs) → DpAll C.K F vs ds → Dp C.K F u y → (∀ w H' F', Grow H F H' F' → Dp C.K F' w d → Q' w H') → r (.ref p) u H Q')
    (hN : X.N[i]? = some x := by rfl)
    (hv : Vis X.env.scope x := by first | exact Or.inl rfl | exact Or.inr (Or.inl rfl) | exact Or.inr (Or.inr rfl))
    (hd : (x == ("__debug__" : Str)) = false := by decide) (hcd : (x == ("__classdict__" : Str)) = false := by decide) : FP X C z e d := by
  refine pe_con (rule _ _ (pe_var hN hv hd hcd) hb) ?_
  rintro σ H R ⟨F, S, k⟩
  obtain ⟨p, vs, e1, h1, f1, _, _, r⟩ := S.slots i _ hz
  refine ⟨.ref p, e1, F, S, fun u d' z' H' F' ⟨q1, q2⟩ S' e2 r2 => ?_⟩
  subst q1 q2
  obtain ⟨p', vs', e1', h1', _, _, _, r'⟩ := S'.slots i _ hz
  rw [e1] at e1'
  cases e1'
  exact g F' H' p vs' u R S'.sub h1' r' r2 fun w H2 F2 gr r3 => k w (.d d) z' H2 F2 ⟨rfl, rfl⟩ (S'.grow gr) (e2.trans gr.f) r3
theorem fp_ixO {x : Str} {ds : List PyData} {j : Int} {d : PyData} {pn : Pos} (i : Nat) (hK : C.K = X.K) (hz : z.r[i]? = some (.ow ds)) (hb : FP X C z b (.int j)) (hj : atI ds j = some d) (hs : PlainIx b := by exact fun _ _ => rfl)
    (hN : X.N[i]? = some x := by rfl)
    (hv : Vis X.env.scope x := by first | exact Or.inl rfl | exact Or.inr (Or.inl rfl) | exact Or.inr (Or.inr rfl))
    (hd : (x == ("__debug__" : Str)) = false := by decide) (hcd : (x == ("__classdict__" : Str)) = false := by decide) : FP X C z (.Subscript (.Name x pn) b pos) d :=
  fp_onO i (fun _ _ ha hb => pe_ix ix_list ha hb hs) hz hb (fun F H p vs u Q' s h1 r r2 q => by
    obtain ⟨w, e1, r3⟩ := ix_dp r hj
    exact ⟨p, vs, j, w, rfl, dp_int r2, SqL.of h1, e1, q w H F (Grow.refl s) r3⟩) hN hv hd hcd

/-! ### slices -/
def cutD (xs : List PyData) (lo hi : Option Int) : List PyData := (xs.drop (HT.sIx xs.length 0 lo)).take (HT.sIx xs.length xs.length hi - HT.sIx xs.length 0 lo)
theorem cut_dp {K : PySem.W.Frag} {F : Hp} {vs : List V} {ds : List PyData} (h : DpAll K F vs ds) (lo hi : Option Int) : DpAll K F (cutV vs lo hi) (cutD ds lo hi) := by
  unfold cutV cutD
  rw [dpAll_len h]
  exact dpAll_take _ (dpAll_drop _ h)
def tWO (C : Ct) (z : Zs) (o : Option Int) : TO := fun σ H Q' => ∃ F, Sim C z σ H F ∧ ∀ H' F', Sim C z σ H' F' → Sub F F' → Q' o H'
/-- a part of a slice -/
def FO (X : Cx) (C : Ct) (z : Zs) (e : Option Expr) (o : Option Int) : Prop := PO X e (tWO C z o)
theorem po_con {e : Option Expr} {t t' : TO} (h : PO X e t) (k : ∀ σ H Q, t' σ H Q → t σ H Q) : PO X e t' := ⟨fun pins s σ H Q I hq => h.run pins s σ H Q I (k σ H Q hq)⟩
theorem fo_none : FO X C z none none := po_con po_none fun σ H R ⟨F, S, k⟩ => k H F S (Sub.refl _)
theorem fo_some {i : Int} (h : FP X C z e (.int i)) : FO X C z (some e) (some i) := by
  refine po_con (po_some h) ?_
  rintro σ H R ⟨F, S, k⟩
  refine ⟨F, S, fun v d z' H' F' ⟨e1, e2⟩ S' e r => ?_⟩
  subst e1 e2
  exact ⟨i, dp_int r, k H' F' S' e⟩
theorem sIx_whole {α : Type} (xs : List α) (lo hi : Option Int) (h : HT.sIx xs.length 0 lo = 0 ∧ HT.sIx xs.length xs.length hi = xs.length) : (xs.drop (HT.sIx xs.length 0 lo)).take (HT.sIx xs.length xs.length hi - HT.sIx xs.length 0 lo) = xs := by
  rw [h.1, h.2, List.drop_zero, Nat.sub_zero]
  exact List.take_length
theorem fp_slT {ds : List PyData} {lo hi : Option Expr} {l u : Option Int} {p2 : Pos} (hK : C.K = X.K) (ha : FP X C z a (.tuple ds)) (hl : FO X C z lo l) (hu : FO X C z hi u) : FP X C z (.Subscript a (.Slice lo hi none p2) pos) (.tuple (cutD ds l u)) := by
  refine pe_con (pe_slice sl_tupA ha hl hu) ?_
  rintro σ H R ⟨F, S, k⟩
  refine ⟨F, S, fun v d z' H1 F1 ⟨e1, e2⟩ S1 s1 r => ?_⟩
  subst e1 e2
  refine ⟨F1, S1, fun H2 F2 S2 s2 => ⟨F2, S2, fun H3 F3 S3 s3 => ?_⟩⟩
  obtain ⟨p, vs, ev, hq, hp⟩ := dp_tuple r
  have hq3 : SqT X.K H3 p vs := by rw [← hK]; exact S3.sub.st ((s2.trans s3).st hq)
  have hp3 := dpAll_mono (s2.trans s3) _ _ hp
  refine ⟨p, vs, ev, hq3, fun hw => ?_, fun hw q hn => ?_⟩
  · refine k _ _ z' H3 F3 ⟨rfl, rfl⟩ S3 ((s1.trans s2).trans s3) ?_
    have ec : cutD ds l u = ds := by
      unfold cutD
      rw [dpAll_len hp] at hw
      exact sIx_whole ds l u hw
    rw [ec]
    exact .tup ((s2.trans s3).st hq) hp3
  · have g : Grow H3 F3 (upd H3 q (.tup (cutV vs l u))) (upd F3 q (.tup (cutV vs l u))) := Grow.new S3.sub hn
    exact k _ _ z' _ _ ⟨rfl, rfl⟩ (S3.grow g) (((s1.trans s2).trans s3).trans g.f) (.tup (SqT.of upd_same) (dpAll_mono g.f _ _ (cut_dp hp3 l u)))
theorem flp_slL {ds : List PyData} {lo hi : Option Expr} {l u : Option Int} {p2 : Pos} (hK : C.K = X.K) (ha : FP X C z a (.list ds)) (hl : FO X C z lo l) (hu : FO X C z hi u) : FLP X C z (.Subscript a (.Slice lo hi none p2) pos) (cutD ds l u) := by
  refine pe_con (pe_slice sl_list ha hl hu) ?_
  rintro σ H R ⟨F, S, k⟩
  refine ⟨F, S, fun v d z' H1 F1 ⟨e1, e2⟩ S1 s1 r => ?_⟩
  subst e1 e2
  refine ⟨F1, S1, fun H2 F2 S2 s2 => ⟨F2, S2, fun H3 F3 S3 s3 => ?_⟩⟩
  obtain ⟨p, vs, ev, hq, hp⟩ := dp_list r
  have hq3 : SqL X.K H3 p vs := by rw [← hK]; exact S3.sub.sl ((s2.trans s3).sl hq)
  refine ⟨p, vs, ev, hq3, fun q hn => ?_⟩
  exact k q _ _ z' _ F3 ⟨rfl, rfl⟩ (S3.cell hn _) ((s1.trans s2).trans s3) (S3.own_new hn _) (cut_dp (dpAll_mono (s2.trans s3) _ _ hp) l u)
theorem cutD_from (xs : List PyData) (k : Nat) : cutD xs (some (k : Int)) none = xs.drop k := by
  unfold cutD
  rw [HT.sIx_nat, HT.sIx_none]
  by_cases h : k ≤ xs.length
  · rw [Nat.min_eq_left h]
    exact List.take_of_length_le (by rw [List.length_drop]; exact Nat.le_refl _)
  · rw [Nat.min_eq_right (by omega), List.drop_length, List.drop_of_length_le (by omega), List.take_nil]
theorem cutD_to (xs : List PyData) (k : Nat) : cutD xs none (some (k : Int)) = xs.take k := by
  unfold cutD
  rw [HT.sIx_nat, HT.sIx_none, List.drop_zero, Nat.sub_zero]
  by_cases h : k ≤ xs.length
  · rw [Nat.min_eq_left h]
  · rw [Nat.min_eq_right (by omega), List.take_length, List.take_of_length_le (by omega)]
theorem cutD_in (xs : List PyData) (i j : Nat) (h : j ≤ xs.length) : cutD xs (some (i : Int)) (some (j : Int)) = (xs.drop i).take (j - i) := by
  unfold cutD
  rw [HT.sIx_nat, HT.sIx_nat, Nat.min_eq_left h]
  by_cases hi : i ≤ xs.length
  · rw [Nat.min_eq_left hi]
  · rw [Nat.min_eq_right (by omega), List.drop_length, List.drop_of_length_le (by omega), List.take_nil, List.take_nil]

/-! ### sums of tuples -/
theorem g2_catT {xs ys : List PyData} {k : DV → Prop} (hz : xs.length + ys.length ≤ sizeLine) (h : k (.d (.tuple (xs ++ ys)))) : G2 C (rCatA C.K) (.d (.tuple xs)) (.d (.tuple ys)) k := fun F H v u Q' s r1 r2 q => by
  obtain ⟨a, vs, ev, hq, hp⟩ := dp_tuple r1
  obtain ⟨b, ws, eu, hq2, hp2⟩ := dp_tuple r2
  refine ⟨a, b, vs, ws, ev, eu, s.st hq, s.st hq2, by rw [dpAll_len hp, dpAll_len hp2]; exact hz, fun e => ?_, fun _ e => ?_, fun _ _ p hn => ?_⟩
  · subst e
    cases hp
    exact q _ _ H F h (Grow.refl s) (.tup hq2 hp2)
  · subst e
    cases hp2
    rw [List.append_nil] at h
    exact q _ _ H F h (Grow.refl s) (.tup hq hp)
  · have g : Grow H F (upd H p (.tup (vs ++ ws))) (upd F p (.tup (vs ++ ws))) := Grow.new s hn
    exact q _ _ _ _ h g (.tup (SqT.of upd_same) (dpAll_mono g.f _ _ (dpAll_append hp hp2)))
theorem fp_catT {xs ys : List PyData} (hK : C.K = X.K) (ha : FP X C z a (.tuple xs)) (hb : FP X C z b (.tuple ys)) (hz : xs.length + ys.length ≤ 100000) : FP X C z (.BinOp a .Add b pos) (.tuple (xs ++ ys)) :=
  fp_bin (fun _ _ => pe_op op_catA) ha hb fun _ h => by rw [← hK]; exact g2_catT (by rw [sizeLine_eq]; omega) h

/-! ### calls of what is built in -/
def GC (C : Ct) (r : List V → Hp → VK → Prop) (ds : List DV) (k : DV → Prop) : Prop := ∀ (F H : Hp) (vs : List V) (Q' : VK), Sub F H → Paired (RV C.K C.P F) vs ds →
  (∀ w d H' F', k d → Grow H F H' F' → RV C.K C.P F' w d → Q' w H') → r vs H Q'
/-- .. where a new list is given -/
def GN (C : Ct) (r : List V → Hp → VK → Prop) (ds : List DV) (k : List PyData → Prop) : Prop := ∀ (F H : Hp) (vs : List V) (Q' : VK), Sub F H → Paired (RV C.K C.P F) vs ds →
  (∀ p ws xs, k xs → H p = none → DpAll C.K F ws xs → Q' (.ref p) (upd H p (.lst ws))) → r vs H Q'
section
variable {x : Str} {p : Pos} {id T : String} {r : List V → Hp → VK → Prop}
theorem fe_cb (pe : ∀ t, PA X es t → PE X e (tCB r t)) {Q : DV → Zs → Prop} (ha : FA X C z es fun ds z1 => GC C r ds fun d => Q d z1) : FE X C z e Q := by
  refine pe_con (pe _ ha) ?_
  rintro σ H R ⟨F, S, k⟩
  refine ⟨F, S, fun vs ds z1 H1 F1 q S1 s1 r1 => ?_⟩
  exact q F1 H1 vs R S1.sub r1 fun w d H2 F2 qd g r2 => k w d z1 H2 F2 qd (S1.grow g) (s1.trans g.f) r2
theorem fl_cb (pe : ∀ t, PA X es t → PE X e (tCB r t)) {Q : List PyData → Zs → Prop} (ha : FA X C z es fun ds z1 => GN C r ds fun d => Q d z1) : FL X C z e Q := by
  refine pe_con (pe _ ha) ?_
  rintro σ H R ⟨F, S, k⟩
  refine ⟨F, S, fun vs ds z1 H1 F1 q S1 s1 r1 => ?_⟩
  exact q F1 H1 vs R S1.sub r1 fun p ws xs qx hn hd => k p ws xs z1 _ F1 qx (S1.cell hn _) s1 (S1.own_new hn _) hd
theorem fp_cb (pe : ∀ t, PA X es t → PE X e (tCB r t)) {xs : List PyData} {d : PyData} (ha : FPA X C z es xs) (g : ∀ k : DV → Prop, k (.d d) → GC C r (xs.map .d) k) : FP X C z e d :=
  fe_cb pe (fa_mono ha fun _ _ ⟨e1, e2⟩ => by
    subst e1 e2
    exact g _ ⟨rfl, rfl⟩)
theorem flp_cb (pe : ∀ t, PA X es t → PE X e (tCB r t)) {xs : List PyData} {d : List PyData} (ha : FPA X C z es xs) (g : ∀ k : List PyData → Prop, k d → GN C r (xs.map .d) k) : FLP X C z e d :=
  fl_cb pe (fa_mono ha fun _ _ ⟨e1, e2⟩ => by
    subst e1 e2
    exact g _ ⟨rfl, rfl⟩)
/-- a call with a name's own list -/
theorem fp_cbO {ds : List PyData} {d : PyData} {pn : Pos} {y : Str} (i : Nat) (pe : ∀ t, PA X [.Name y pn] t → PE X e (tCB r t)) (hz : z.r[i]? = some (.ow ds))
    (g : ∀ (F H : Hp) (q : Addr) (vs : List V) (Q' : VK), Sub F H → H q = some (.lst vs) → DpAll C.K F vs ds → (∀ w H' F', Grow H F H' F' → Dp C.K F' w d → Q' w H') → r [.ref q] H Q')
    (hN : X.N[i]? = some y := by rfl)
    (hv : Vis X.env.scope y := by first | exact Or.inl rfl | exact Or.inr (Or.inl rfl) | exact Or.inr (Or.inr rfl))
    (hd : (y == ("__debug__" : Str)) = false := by decide) (hcd : (y == ("__classdict__" : Str)) = false := by decide)
    (hs : starEach [.Name y pn] X.env = (false, eval (.Name y pn) X.env) :: starEach [] X.env := by rfl) : FP X C z e d := by
  refine pe_con (pe _ (pa_cons (pe_var hN hv hd hcd) pa_nil hs)) ?_
  rintro σ H R ⟨F, S, k⟩
  obtain ⟨q, vs, e1, h1, f1, _, _, r1⟩ := S.slots i _ hz
  exact ⟨.ref q, e1, g F H q vs R S.sub h1 r1 fun w H2 F2 gr r3 => k w (.d d) z H2 F2 ⟨rfl, rfl⟩ (S.grow gr) gr.f r3⟩
theorem flp_cbO {ds xs : List PyData} {pn : Pos} {y : Str} (i : Nat) (pe : ∀ t, PA X [.Name y pn] t → PE X e (tCB r t)) (hz : z.r[i]? = some (.ow ds))
    (g : ∀ (F H : Hp) (q : Addr) (vs : List V) (Q' : VK), Sub F H → H q = some (.lst vs) → DpAll C.K F vs ds → (∀ p ws, H p = none → DpAll C.K F ws xs → Q' (.ref p) (upd H p (.lst ws))) → r [.ref q] H Q')
    (hN : X.N[i]? = some y := by rfl)
    (hv : Vis X.env.scope y := by first | exact Or.inl rfl | exact Or.inr (Or.inl rfl) | exact Or.inr (Or.inr rfl))
    (hd : (y == ("__debug__" : Str)) = false := by decide) (hcd : (y == ("__classdict__" : Str)) = false := by decide)
    (hs : starEach [.Name y pn] X.env = (false, eval (.Name y pn) X.env) :: starEach [] X.env := by rfl) : FLP X C z e xs := by
  refine pe_con (pe _ (pa_cons (pe_var hN hv hd hcd) pa_nil hs)) ?_
  rintro σ H R ⟨F, S, k⟩
  obtain ⟨q, vs, e1, h1, f1, _, _, r1⟩ := S.slots i _ hz
  exact ⟨.ref q, e1, g F H q vs R S.sub h1 r1 fun p ws hn hd => k p ws xs z _ F ⟨rfl, rfl⟩ (S.cell hn _) (Sub.refl _) (S.own_new hn _) hd⟩
end
theorem paired1 {α β : Type} {R : α → β → Prop} {vs : List α} {y : β} (h : Paired R vs [y]) : ∃ v, vs = [v] ∧ R v y := by
  cases h with
  | cons r t => cases t; exact ⟨_, rfl, r⟩
theorem paired2 {α β : Type} {R : α → β → Prop} {vs : List α} {y w : β} (h : Paired R vs [y, w]) : ∃ v u, vs = [v, u] ∧ R v y ∧ R u w := by
  cases h with
  | cons r t => obtain ⟨u, e, r2⟩ := paired1 t; subst e; exact ⟨_, _, rfl, r, r2⟩
theorem paired3 {α β : Type} {R : α → β → Prop} {vs : List α} {y w o : β} (h : Paired R vs [y, w, o]) : ∃ v u t, vs = [v, u, t] ∧ R v y ∧ R u w ∧ R t o := by
  cases h with
  | cons r t => obtain ⟨u, t, e, r2, r3⟩ := paired2 t; subst e; exact ⟨_, _, _, rfl, r, r2, r3⟩
end
end DL

set_option Elab.async false
set_option linter.all false
set_option maxRecDepth 100000
set_option maxHeartbeats 4000000
set_option autoImplicit false
namespace DL
open PySem PySem.Spec PyProof.Rows L2
section
variable {X : Cx} {C : Ct} {z : Zs} {e a b c : Expr} {es : List Expr} {pos p : Pos}
theorem arg1 {d : PyData} (ha : FP X C z a d) (hs : starEach [a] X.env = (false, eval a X.env) :: starEach [] X.env := by rfl) : FPA X C z [a] [d] := fpa_cons ha fpa_nil hs
theorem arg2 {d d2 : PyData} (ha : FP X C z a d) (hb : FP X C z b d2) (hs : starEach [a, b] X.env = (false, eval a X.env) :: starEach [b] X.env := by rfl) (hs2 : starEach [b] X.env = (false, eval b X.env) :: starEach [] X.env := by rfl) : FPA X C z [a, b] [d, d2] := fpa_cons ha (arg1 hb hs2) hs
/-! len -/
abbrev rLen (K : PySem.W.Frag) : List V → Hp → VK → Prop := fun xs H Q => ∃ p ys, xs = [.ref p] ∧ (SqL K H p ys ∨ SqT K H p ys) ∧ Q (.int ys.length) H
theorem gc_len {d : PyData} {ds : List PyData} {k : DV → Prop} (hd : d = .list ds ∨ d = .tuple ds) (h : k (.d (.int ds.length))) : GC C (rLen C.K) [.d d] k := fun F H vs Q' s r q => by
  obtain ⟨v, e1, r1⟩ := paired1 r
  subst e1
  rcases hd with hd | hd
  · subst hd
    obtain ⟨a, ws, ev, hq, hp⟩ := dp_list r1
    subst ev
    exact ⟨a, ws, rfl, .inl (s.sl hq), by rw [dpAll_len hp]; exact q _ _ H F h (Grow.refl s) (.int _)⟩
  · subst hd
    obtain ⟨a, ws, ev, hq, hp⟩ := dp_tuple r1
    subst ev
    exact ⟨a, ws, rfl, .inr (s.st hq), by rw [dpAll_len hp]; exact q _ _ H F h (Grow.refl s) (.int _)⟩
theorem fp_lenT {ds : List PyData} (hK : C.K = X.K) (hm : X.mg "len" = none) (ha : FP X C z a (.tuple ds)) (hg : Gl X "len" := by rfl) (hs : starEach [a] X.env = (false, eval a X.env) :: starEach [] X.env := by rfl) : FP X C z (.Call (.Name "len" p) [a] [] pos) (.int ds.length) :=
  fp_cb (fun _ ha => pe_callB call_len_seq hg hm PySem.boot_len ha (he := hs)) (arg1 ha hs) fun _ h => by rw [← hK]; exact gc_len (.inr rfl) h
theorem fp_lenL {ds : List PyData} (hK : C.K = X.K) (hm : X.mg "len" = none) (ha : FP X C z a (.list ds)) (hg : Gl X "len" := by rfl) (hs : starEach [a] X.env = (false, eval a X.env) :: starEach [] X.env := by rfl) : FP X C z (.Call (.Name "len" p) [a] [] pos) (.int ds.length) :=
  fp_cb (fun _ ha => pe_callB call_len_seq hg hm PySem.boot_len ha (he := hs)) (arg1 ha hs) fun _ h => by rw [← hK]; exact gc_len (.inl rfl) h
theorem fp_lenO {ds : List PyData} {y : Str} {pn : Pos} (i : Nat) (hK : C.K = X.K) (hm : X.mg "len" = none) (hz : z.r[i]? = some (.ow ds)) (hg : Gl X "len" := by rfl)
    (hN : X.N[i]? = some y := by rfl)
    (hv : Vis X.env.scope y := by first | exact Or.inl rfl | exact Or.inr (Or.inl rfl) | exact Or.inr (Or.inr rfl))
    (hd : (y == ("__debug__" : Str)) = false := by decide) (hcd : (y == ("__classdict__" : Str)) = false := by decide)
    (hs : starEach [.Name y pn] X.env = (false, eval (.Name y pn) X.env) :: starEach [] X.env := by rfl) : FP X C z (.Call (.Name "len" p) [.Name y pn] [] pos) (.int ds.length) :=
  fp_cbO i (fun _ ha => pe_callB call_len_seq hg hm PySem.boot_len ha (he := hs)) hz (fun F H q vs Q' s h1 r k => ⟨q, vs, rfl, .inl (SqL.of h1), by rw [dpAll_len r]; exact k _ H F (Grow.refl s) (.int _)⟩) hN hv hd hcd hs
/-! sum, max, min, all, any -/
theorem gc_sum {ns : List Int} {k : DV → Prop} (h : k (.d (.int ns.sum))) : GC C (rSum C.K) [.d (.list (ns.map .int))] k := fun F H vs Q' s r q => by
  obtain ⟨v, e1, r1⟩ := paired1 r
  subst e1
  obtain ⟨a, ws, ev, hq, hp⟩ := dp_list r1
  subst ev
  have e := dp_ints hp
  subst e
  exact ⟨a, ns, rfl, s.sl hq, q _ _ H F h (Grow.refl s) (.int _)⟩
theorem fp_sum {ns : List Int} (hK : C.K = X.K) (hc : X.calm = true) (hm : X.mg "sum" = none) (ha : FP X C z a (.list (ns.map .int))) (hg : Gl X "sum" := by rfl) (hs : starEach [a] X.env = (false, eval a X.env) :: starEach [] X.env := by rfl) : FP X C z (.Call (.Name "sum" p) [a] [] pos) (.int ns.sum) :=
  fp_cb (fun _ ha => pe_callB (cr_sum hc) hg hm (by decide +kernel) ha (he := hs)) (arg1 ha hs) fun _ h => by rw [← hK]; exact gc_sum h
def maxI : List Int → Int
  | [] => 0
  | n :: ns => ns.foldl max n
def minI : List Int → Int
  | [] => 0
  | n :: ns => ns.foldl min n
theorem foldl_max_spec : ∀ (ns : List Int) (n : Int), (ns.foldl max n = n ∨ ns.foldl max n ∈ ns) ∧ n ≤ ns.foldl max n ∧ ∀ y ∈ ns, y ≤ ns.foldl max n
  | [], n => ⟨.inl rfl, Int.le_refl _, by simp⟩
  | m :: ns, n => by
    obtain ⟨h1, h2, h3⟩ := foldl_max_spec ns (max n m)
    rw [List.foldl_cons]
    refine ⟨?_, by omega, fun y hy => ?_⟩
    · rcases h1 with h1 | h1
      · rcases (show max n m = n ∨ max n m = m by omega) with h | h
        · left; omega
        · right; rw [h1, h]; exact List.mem_cons_self
      · right; exact List.mem_cons_of_mem _ h1
    · rcases List.mem_cons.mp hy with rfl | hy
      · omega
      · exact h3 y hy
theorem foldl_min_spec : ∀ (ns : List Int) (n : Int), (ns.foldl min n = n ∨ ns.foldl min n ∈ ns) ∧ ns.foldl min n ≤ n ∧ ∀ y ∈ ns, ns.foldl min n ≤ y
  | [], n => ⟨.inl rfl, Int.le_refl _, by simp⟩
  | m :: ns, n => by
    obtain ⟨h1, h2, h3⟩ := foldl_min_spec ns (min n m)
    rw [List.foldl_cons]
    refine ⟨?_, by omega, fun y hy => ?_⟩
    · rcases h1 with h1 | h1
      · rcases (show min n m = n ∨ min n m = m by omega) with h | h
        · left; omega
        · right; rw [h1, h]; exact List.mem_cons_self
      · right; exact List.mem_cons_of_mem _ h1
    · rcases List.mem_cons.mp hy with rfl | hy
      · omega
      · exact h3 y hy
theorem maxI_spec {ns : List Int} (h : ns ≠ []) : maxI ns ∈ ns ∧ ∀ y ∈ ns, y ≤ maxI ns := by
  cases ns with
  | nil => exact absurd rfl h
  | cons n ns =>
    obtain ⟨h1, h2, h3⟩ := foldl_max_spec ns n
    refine ⟨?_, fun y hy => ?_⟩
    · show ns.foldl max n ∈ _
      rcases h1 with h1 | h1
      · rw [h1]; exact List.mem_cons_self
      · exact List.mem_cons_of_mem _ h1
    · show y ≤ ns.foldl max n
      rcases List.mem_cons.mp hy with rfl | hy
      · exact h2
      · exact h3 y hy
theorem minI_spec {ns : List Int} (h : ns ≠ []) : minI ns ∈ ns ∧ ∀ y ∈ ns, minI ns ≤ y := by
  cases ns with
  | nil => exact absurd rfl h
  | cons n ns =>
    obtain ⟨h1, h2, h3⟩ := foldl_min_spec ns n
    refine ⟨?_, fun y hy => ?_⟩
    · show ns.foldl min n ∈ _
      rcases h1 with h1 | h1
      · rw [h1]; exact List.mem_cons_self
      · exact List.mem_cons_of_mem _ h1
    · show ns.foldl min n ≤ y
      rcases List.mem_cons.mp hy with rfl | hy
      · exact h2
      · exact h3 y hy
theorem maxI_eq {ns : List Int} {m : Int} (h1 : m ∈ ns) (h2 : ∀ y ∈ ns, y ≤ m) : m = maxI ns := by
  have h : ns ≠ [] := fun e => by rw [e] at h1; cases h1
  obtain ⟨a, b⟩ := maxI_spec h
  have := h2 _ a
  have := b _ h1
  omega
theorem minI_eq {ns : List Int} {m : Int} (h1 : m ∈ ns) (h2 : ∀ y ∈ ns, m ≤ y) : m = minI ns := by
  have h : ns ≠ [] := fun e => by rw [e] at h1; cases h1
  obtain ⟨a, b⟩ := minI_spec h
  have := h2 _ a
  have := b _ h1
  omega
theorem gc_max {ns : List Int} {k : DV → Prop} (hn : ns ≠ []) (h : k (.d (.int (maxI ns)))) : GC C (rMax C.K) [.d (.list (ns.map .int))] k := fun F H vs Q' s r q => by
  obtain ⟨v, e1, r1⟩ := paired1 r
  subst e1
  obtain ⟨a, ws, ev, hq, hp⟩ := dp_list r1
  subst ev
  have e := dp_ints hp
  subst e
  refine ⟨a, ns, rfl, s.sl hq, List.length_pos_iff.mpr hn, fun m h1 h2 => ?_⟩
  rw [maxI_eq h1 h2]
  exact q _ _ H F h (Grow.refl s) (.int _)
theorem gc_min {ns : List Int} {k : DV → Prop} (hn : ns ≠ []) (h : k (.d (.int (minI ns)))) : GC C (rMin C.K) [.d (.list (ns.map .int))] k := fun F H vs Q' s r q => by
  obtain ⟨v, e1, r1⟩ := paired1 r
  subst e1
  obtain ⟨a, ws, ev, hq, hp⟩ := dp_list r1
  subst ev
  have e := dp_ints hp
  subst e
  refine ⟨a, ns, rfl, s.sl hq, List.length_pos_iff.mpr hn, fun m h1 h2 => ?_⟩
  rw [minI_eq h1 h2]
  exact q _ _ H F h (Grow.refl s) (.int _)
theorem fp_maxL {ns : List Int} (hK : C.K = X.K) (hc : X.calm = true) (hm : X.mg "max" = none) (ha : FP X C z a (.list (ns.map .int))) (hn : ns ≠ []) (hg : Gl X "max" := by rfl) (hs : starEach [a] X.env = (false, eval a X.env) :: starEach [] X.env := by rfl) : FP X C z (.Call (.Name "max" p) [a] [] pos) (.int (maxI ns)) :=
  fp_cb (fun _ ha => pe_callB (cr_max hc) hg hm (by decide +kernel) ha (he := hs)) (arg1 ha hs) fun _ h => by rw [← hK]; exact gc_max hn h
theorem fp_minL {ns : List Int} (hK : C.K = X.K) (hc : X.calm = true) (hm : X.mg "min" = none) (ha : FP X C z a (.list (ns.map .int))) (hn : ns ≠ []) (hg : Gl X "min" := by rfl) (hs : starEach [a] X.env = (false, eval a X.env) :: starEach [] X.env := by rfl) : FP X C z (.Call (.Name "min" p) [a] [] pos) (.int (minI ns)) :=
  fp_cb (fun _ ha => pe_callB (cr_min hc) hg hm (by decide +kernel) ha (he := hs)) (arg1 ha hs) fun _ h => by rw [← hK]; exact gc_min hn h
theorem gc_all {bs : List Bool} {k : DV → Prop} (h : k (.d (.bool (bs.all id)))) : GC C (rAll C.K) [.d (.list (bs.map .bool))] k := fun F H vs Q' s r q => by
  obtain ⟨v, e1, r1⟩ := paired1 r
  subst e1
  obtain ⟨a, ws, ev, hq, hp⟩ := dp_list r1
  subst ev
  have e := dp_bools hp
  subst e
  exact ⟨a, bs, rfl, s.sl hq, q _ _ H F h (Grow.refl s) (.bl _)⟩
theorem gc_any {bs : List Bool} {k : DV → Prop} (h : k (.d (.bool (bs.any id)))) : GC C (rAny C.K) [.d (.list (bs.map .bool))] k := fun F H vs Q' s r q => by
  obtain ⟨v, e1, r1⟩ := paired1 r
  subst e1
  obtain ⟨a, ws, ev, hq, hp⟩ := dp_list r1
  subst ev
  have e := dp_bools hp
  subst e
  exact ⟨a, bs, rfl, s.sl hq, q _ _ H F h (Grow.refl s) (.bl _)⟩
theorem fp_all {bs : List Bool} (hK : C.K = X.K) (hc : X.calm = true) (hm : X.mg "all" = none) (ha : FP X C z a (.list (bs.map .bool))) (hg : Gl X "all" := by rfl) (hs : starEach [a] X.env = (false, eval a X.env) :: starEach [] X.env := by rfl) : FP X C z (.Call (.Name "all" p) [a] [] pos) (.bool (bs.all id)) :=
  fp_cb (fun _ ha => pe_callB (cr_all hc) hg hm (by decide +kernel) ha (he := hs)) (arg1 ha hs) fun _ h => by rw [← hK]; exact gc_all h
theorem fp_any {bs : List Bool} (hK : C.K = X.K) (hc : X.calm = true) (hm : X.mg "any" = none) (ha : FP X C z a (.list (bs.map .bool))) (hg : Gl X "any" := by rfl) (hs : starEach [a] X.env = (false, eval a X.env) :: starEach [] X.env := by rfl) : FP X C z (.Call (.Name "any" p) [a] [] pos) (.bool (bs.any id)) :=
  fp_cb (fun _ ha => pe_callB (cr_any hc) hg hm (by decide +kernel) ha (he := hs)) (arg1 ha hs) fun _ h => by rw [← hK]; exact gc_any h
/-- with draws within: some bools -/
theorem fe_all {Q : DV → Zs → Prop} (hK : C.K = X.K) (hc : X.calm = true) (hm : X.mg "all" = none) (ha : FE X C z a fun d z1 => ∃ bs : List Bool, d = .d (.list (bs.map .bool)) ∧ Q (.d (.bool (bs.all id))) z1) (hg : Gl X "all" := by rfl) (hs : starEach [a] X.env = (false, eval a X.env) :: starEach [] X.env := by rfl) :
    FE X C z (.Call (.Name "all" p) [a] [] pos) Q :=
  fe_cb (fun _ ha => pe_callB (cr_all hc) hg hm (by decide +kernel) ha (he := hs)) (fa_cons ha (fun d z1 ⟨bs, e1, q⟩ => fa_nil (by
    subst e1
    rw [← hK]
    exact gc_all q)) hs)
/-! tuple, list, sorted -/
theorem gc_tuple {d : PyData} {ds : List PyData} {k : DV → Prop} (hd : d = .list ds ∨ d = .tuple ds) (h : k (.d (.tuple ds))) : GC C (fun xs H Q => ∃ p ys, xs = [.ref p] ∧ ((SqL C.K H p ys ∧ ∀ l, H l = none → Q (.ref l) (upd H l (.tup ys))) ∨ (SqT C.K H p ys ∧ Q (.ref p) H))) [.d d] k := fun F H vs Q' s r q => by
  obtain ⟨v, e1, r1⟩ := paired1 r
  subst e1
  rcases hd with hd | hd
  · subst hd
    obtain ⟨a, ws, ev, hq, hp⟩ := dp_list r1
    subst ev
    refine ⟨a, ws, rfl, .inl ⟨s.sl hq, fun l hn => ?_⟩⟩
    have g : Grow H F (upd H l (.tup ws)) (upd F l (.tup ws)) := Grow.new s hn
    exact q _ _ _ _ h g (.tup (SqT.of upd_same) (dpAll_mono g.f _ _ hp))
  · subst hd
    obtain ⟨a, ws, ev, hq, hp⟩ := dp_tuple r1
    subst ev
    exact ⟨a, ws, rfl, .inr ⟨s.st hq, q _ _ H F h (Grow.refl s) (.tup hq hp)⟩⟩
theorem fe_tupleOf {Q : DV → Zs → Prop} (hK : C.K = X.K) (hm : X.mg "tuple" = none) (ha : FE X C z a fun d z1 => ∃ ds, (d = .d (.list ds) ∨ d = .d (.tuple ds)) ∧ Q (.d (.tuple ds)) z1) (hg : Gl X "tuple" := by rfl) (hs : starEach [a] X.env = (false, eval a X.env) :: starEach [] X.env := by rfl) :
    FE X C z (.Call (.Name "tuple" p) [a] [] pos) Q :=
  fe_cb (fun _ ha => pe_callTy call_tuple_of hg hm (by decide +kernel) ha (he := hs)) (fa_cons ha (fun d z1 ⟨ds, e1, q⟩ => fa_nil (by
    rw [← hK]
    rcases e1 with e1 | e1
    · subst e1; exact gc_tuple (.inl rfl) q
    · subst e1; exact gc_tuple (.inr rfl) q)) hs)
theorem fp_tupleL {ds : List PyData} (hK : C.K = X.K) (hm : X.mg "tuple" = none) (ha : FP X C z a (.list ds)) (hg : Gl X "tuple" := by rfl) (hs : starEach [a] X.env = (false, eval a X.env) :: starEach [] X.env := by rfl) : FP X C z (.Call (.Name "tuple" p) [a] [] pos) (.tuple ds) :=
  fp_cb (fun _ ha => pe_callTy call_tuple_of hg hm (by decide +kernel) ha (he := hs)) (arg1 ha hs) fun _ h => by rw [← hK]; exact gc_tuple (.inl rfl) h
theorem fp_tupleT {ds : List PyData} (hK : C.K = X.K) (hm : X.mg "tuple" = none) (ha : FP X C z a (.tuple ds)) (hg : Gl X "tuple" := by rfl) (hs : starEach [a] X.env = (false, eval a X.env) :: starEach [] X.env := by rfl) : FP X C z (.Call (.Name "tuple" p) [a] [] pos) (.tuple ds) :=
  fp_cb (fun _ ha => pe_callTy call_tuple_of hg hm (by decide +kernel) ha (he := hs)) (arg1 ha hs) fun _ h => by rw [← hK]; exact gc_tuple (.inr rfl) h
theorem fp_tupleO {ds : List PyData} {y : Str} {pn : Pos} (i : Nat) (hK : C.K = X.K) (hm : X.mg "tuple" = none) (hz : z.r[i]? = some (.ow ds)) (hg : Gl X "tuple" := by rfl)
    (hN : X.N[i]? = some y := by rfl)
    (hv : Vis X.env.scope y := by first | exact Or.inl rfl | exact Or.inr (Or.inl rfl) | exact Or.inr (Or.inr rfl))
    (hd : (y == ("__debug__" : Str)) = false := by decide) (hcd : (y == ("__classdict__" : Str)) = false := by decide)
    (hs : starEach [.Name y pn] X.env = (false, eval (.Name y pn) X.env) :: starEach [] X.env := by rfl) : FP X C z (.Call (.Name "tuple" p) [.Name y pn] [] pos) (.tuple ds) :=
  fp_cbO i (fun _ ha => pe_callTy call_tuple_of hg hm (by decide +kernel) ha (he := hs)) hz (fun F H q vs Q' s h1 r k => by
    refine ⟨q, vs, rfl, .inl ⟨SqL.of h1, fun l hn => ?_⟩⟩
    have g : Grow H F (upd H l (.tup vs)) (upd F l (.tup vs)) := Grow.new s hn
    exact k _ _ _ g (.tup (SqT.of upd_same) (dpAll_mono g.f _ _ r))) hN hv hd hcd hs
theorem gn_list {d : PyData} {ds : List PyData} {k : List PyData → Prop} (hd : d = .list ds ∨ d = .tuple ds) (h : k ds) : GN C (fun xs H Q => ∃ p ys, xs = [.ref p] ∧ (SqL C.K H p ys ∨ SqT C.K H p ys) ∧ ∀ l, H l = none → Q (.ref l) (upd H l (.lst ys))) [.d d] k := fun F H vs Q' s r q => by
  obtain ⟨v, e1, r1⟩ := paired1 r
  subst e1
  rcases hd with hd | hd
  · subst hd
    obtain ⟨a, ws, ev, hq, hp⟩ := dp_list r1
    subst ev
    exact ⟨a, ws, rfl, .inl (s.sl hq), fun l hn => q l ws ds h hn hp⟩
  · subst hd
    obtain ⟨a, ws, ev, hq, hp⟩ := dp_tuple r1
    subst ev
    exact ⟨a, ws, rfl, .inr (s.st hq), fun l hn => q l ws ds h hn hp⟩
theorem flp_listL {ds : List PyData} (hK : C.K = X.K) (hm : X.mg "list" = none) (ha : FP X C z a (.list ds)) (hg : Gl X "list" := by rfl) (hs : starEach [a] X.env = (false, eval a X.env) :: starEach [] X.env := by rfl) : FLP X C z (.Call (.Name "list" p) [a] [] pos) ds :=
  flp_cb (fun _ ha => pe_callTy call_list_of hg hm (by decide +kernel) ha (he := hs)) (arg1 ha hs) fun _ h => by rw [← hK]; exact gn_list (.inl rfl) h
theorem flp_listT {ds : List PyData} (hK : C.K = X.K) (hm : X.mg "list" = none) (ha : FP X C z a (.tuple ds)) (hg : Gl X "list" := by rfl) (hs : starEach [a] X.env = (false, eval a X.env) :: starEach [] X.env := by rfl) : FLP X C z (.Call (.Name "list" p) [a] [] pos) ds :=
  flp_cb (fun _ ha => pe_callTy call_list_of hg hm (by decide +kernel) ha (he := hs)) (arg1 ha hs) fun _ h => by rw [← hK]; exact gn_list (.inr rfl) h
/-! scalars -/
theorem gc_abs {i : Int} {k : DV → Prop} (h : k (.d (.int (if i < 0 then -i else i)))) : GC C (fun xs H Q => ∃ i, xs = [.int i] ∧ Q (.int (if i < 0 then -i else i)) H) [.d (.int i)] k := fun F H vs Q' s r q => by
  obtain ⟨v, e1, r1⟩ := paired1 r
  subst e1
  exact ⟨i, by rw [dp_int r1], q _ _ H F h (Grow.refl s) (.int _)⟩
theorem fp_abs {i : Int} (hm : X.mg "abs" = none) (ha : FP X C z a (.int i)) (hg : Gl X "abs" := by rfl) (hs : starEach [a] X.env = (false, eval a X.env) :: starEach [] X.env := by rfl) : FP X C z (.Call (.Name "abs" p) [a] [] pos) (.int (if i < 0 then -i else i)) :=
  fp_cb (fun _ ha => pe_callB call_abs hg hm (by decide +kernel) ha (he := hs)) (arg1 ha hs) fun _ h => gc_abs h
theorem fp_intI {i : Int} (hm : X.mg "int" = none) (ha : FP X C z a (.int i)) (hg : Gl X "int" := by rfl) (hs : starEach [a] X.env = (false, eval a X.env) :: starEach [] X.env := by rfl) : FP X C z (.Call (.Name "int" p) [a] [] pos) (.int i) :=
  fp_cb (fun _ ha => pe_callTy call_int1 hg hm (by decide +kernel) ha (he := hs)) (arg1 ha hs) fun _ h => fun F H vs Q' s r q => by
    obtain ⟨v, e1, r1⟩ := paired1 r
    subst e1
    exact .inl ⟨i, by rw [dp_int r1], q _ _ H F h (Grow.refl s) (.int _)⟩
theorem fp_intB {i : Bool} (hm : X.mg "int" = none) (ha : FP X C z a (.bool i)) (hg : Gl X "int" := by rfl) (hs : starEach [a] X.env = (false, eval a X.env) :: starEach [] X.env := by rfl) : FP X C z (.Call (.Name "int" p) [a] [] pos) (.int (if i then 1 else 0)) :=
  fp_cb (fun _ ha => pe_callTy call_int1 hg hm (by decide +kernel) ha (he := hs)) (arg1 ha hs) fun _ h => fun F H vs Q' s r q => by
    obtain ⟨v, e1, r1⟩ := paired1 r
    subst e1
    exact .inr ⟨i, by rw [dp_bool r1], q _ _ H F h (Grow.refl s) (.int _)⟩
theorem fp_max2 {i j : Int} (hc : X.calm = true) (hm : X.mg "max" = none) (ha : FP X C z a (.int i)) (hb : FP X C z b (.int j)) (hg : Gl X "max" := by rfl) (hs : starEach [a, b] X.env = (false, eval a X.env) :: starEach [b] X.env := by rfl) (hs2 : starEach [b] X.env = (false, eval b X.env) :: starEach [] X.env := by rfl)
    (hpl : (backTo pos (starEach [b] X.env)).any (·.1) = false := by rfl) : FP X C z (.Call (.Name "max" p) [a, b] [] pos) (.int (max i j)) :=
  fp_cb (fun _ ha => pe_callB (call_max2 hc) hg hm (by decide +kernel) ha (he := hs) (hpl := hpl)) (arg2 ha hb hs hs2) fun _ h => fun F H vs Q' s r q => by
    obtain ⟨v, u, e1, r1, r2⟩ := paired2 r
    subst e1
    refine ⟨i, j, by rw [dp_int r1, dp_int r2], ?_⟩
    have e : (if j > i then j else i) = max i j := by
      by_cases hh : j > i
      · rw [if_pos hh]; omega
      · rw [if_neg hh]; omega
    rw [e]
    exact q _ _ H F h (Grow.refl s) (.int _)
theorem fp_min2 {i j : Int} (hc : X.calm = true) (hm : X.mg "min" = none) (ha : FP X C z a (.int i)) (hb : FP X C z b (.int j)) (hg : Gl X "min" := by rfl) (hs : starEach [a, b] X.env = (false, eval a X.env) :: starEach [b] X.env := by rfl) (hs2 : starEach [b] X.env = (false, eval b X.env) :: starEach [] X.env := by rfl)
    (hpl : (backTo pos (starEach [b] X.env)).any (·.1) = false := by rfl) : FP X C z (.Call (.Name "min" p) [a, b] [] pos) (.int (min i j)) :=
  fp_cb (fun _ ha => pe_callB (call_min2 hc) hg hm (by decide +kernel) ha (he := hs) (hpl := hpl)) (arg2 ha hb hs hs2) fun _ h => fun F H vs Q' s r q => by
    obtain ⟨v, u, e1, r1, r2⟩ := paired2 r
    subst e1
    refine ⟨i, j, by rw [dp_int r1, dp_int r2], ?_⟩
    have e : (if j < i then j else i) = min i j := by
      by_cases hh : j < i
      · rw [if_pos hh]; omega
      · rw [if_neg hh]; omega
    rw [e]
    exact q _ _ H F h (Grow.refl s) (.int _)
/-! isinstance -/
def tyD : PyData → Option Value
  | .none => some (.type "NoneType")
  | .bool _ => some (.type "bool")
  | .int _ => some (.type "int")
  | .str _ => some (.type "str")
  | .list _ => some (.type "list")
  | .tuple _ => some (.type "tuple")
  | .dict _ => none
theorem ty_of {K : PySem.W.Frag} {F H : Hp} (s : Sub F H) {d : PyData} {v : V} {t : Value} (h : Dp K F v d) (ht : tyD d = some t) (hl : ∀ ds, d = .list ds → False) : TyX K H v t := by
  cases h with
  | non => cases ht; exact .base .non
  | bl b => cases ht; exact .base (.bl b)
  | int i => cases ht; exact .base (.int i)
  | str x => cases ht; exact .base (.str x)
  | lst _ _ => exact (hl _ rfl).elim
  | tup hq _ =>
    cases ht
    rcases hq with (hq | ⟨o, hq⟩) | ⟨o, its, n, hk, hc, _⟩
    · exact .base (.tup (s _ _ hq))
    · exact .fTuple (s _ _ hq)
    · exact .kTuple hk hc
theorem fp_isi {d : PyData} {T : String} {t : Value} {k : Bool} {y : Str} {py : Pos} (hK : C.K = X.K) (hm : X.mg "isinstance" = none) (hmy : X.mg y = none) (hvy : bootBuiltins y = some (.type T)) (ha : FP X C z a d) (ht : tyD d = some t) (hl : ∀ ds, d = .list ds → False)
    (hk : PySem.W.kitOne X.K t (.type T) = some k) (hny : y ≠ "__name__" := by decide) (hdy : (y == ("__debug__" : Str)) = false := by decide)
    (hg : Gl X "isinstance" := by rfl) (hgy : Gl X y := by rfl) (hs : starEach [a, .Name y py] X.env = (false, eval a X.env) :: starEach [.Name y py] X.env := by rfl) (hs2 : starEach [.Name y py] X.env = (false, eval (.Name y py) X.env) :: starEach [] X.env := by rfl)
    (hpl : (backTo pos (starEach [.Name y py] X.env)).any (·.1) = false := by rfl) : FP X C z (.Call (.Name "isinstance" p) [a, .Name y py] [] pos) (.bool k) := by
  have pc : PE X (.Name y py) (tC (.ty T)) := pe_bltn hgy hmy hvy rfl hny hdy
  refine pe_con (pe_callB call_isi hg hm (by decide +kernel) (pa_cons ha (pa_cons pc pa_nil hs2) hs) (he := hs) (hpl := hpl)) ?_
  rintro σ H R ⟨F, S, q⟩
  refine ⟨F, S, fun v d' z' H1 F1 ⟨e1, e2⟩ S1 s1 r => ?_⟩
  subst e1 e2
  exact ⟨v, .ty T, t, .type T, k, rfl, .ty T, by rw [← hK]; exact ty_of S1.sub r ht hl, hk, q _ _ z' H1 F1 ⟨rfl, rfl⟩ S1 s1 (.bl _)⟩
end
theorem kit_self (K : PySem.W.Frag) (n : String) : PySem.W.kitOne K (.type n) (.type n) = some true := by
  unfold PySem.W.kitOne
  rw [if_pos (by simp)]
theorem kit_int_bool (K : PySem.W.Frag) : PySem.W.kitOne K (.type "int") (.type "bool") = some false := by rfl
theorem kit_int_tuple (K : PySem.W.Frag) : PySem.W.kitOne K (.type "int") (.type "tuple") = some false := by rfl
end DL

set_option Elab.async false
set_option linter.all false
set_option maxRecDepth 100000
set_option maxHeartbeats 4000000
set_option autoImplicit false
namespace DL
open PySem PySem.Spec PyProof.Rows L2

/-! ### slots stored, forgotten -/
theorem Sim.set {C : Ct} {z : Zs} {σ : L2.St} {H F : Hp} (S : Sim C z σ H F) (i : Nat) {v : V} {d : DV} (r : RV C.K C.P F v d) : Sim C ⟨z.r.set i (.v d), z.p⟩ (σ.set i (some v)) H F where
  sub := S.sub
  ext := S.ext
  keep := S.keep
  fresh := S.fresh
  slots := fun j s e => by
    have e : (z.r.set i (.v d))[j]? = some s := e
    by_cases h : i = j
    · subst h
      have hl : i < z.r.length := by
        have := (List.getElem?_eq_some_iff.mp e).1
        rwa [List.length_set] at this
      rw [List.getElem?_set_self hl] at e
      cases e
      exact ⟨v, by rw [List.getElem?_set_self (by rw [← S.len]; exact hl)], r⟩
    · rw [List.getElem?_set_ne h] at e
      rw [List.getElem?_set_ne h]
      exact S.slots j s e
  sep := fun j k xs ys a n e1 e2 h1 => by
    have e1 : (z.r.set i (.v d))[j]? = some (.ow xs) := e1
    have e2 : (z.r.set i (.v d))[k]? = some (.ow ys) := e2
    have hj : i ≠ j := fun q => by
      subst q
      have hl : i < z.r.length := by
        have := (List.getElem?_eq_some_iff.mp e1).1
        rwa [List.length_set] at this
      rw [List.getElem?_set_self hl] at e1
      cases e1
    have hk : i ≠ k := fun q => by
      subst q
      have hl : i < z.r.length := by
        have := (List.getElem?_eq_some_iff.mp e2).1
        rwa [List.length_set] at this
      rw [List.getElem?_set_self hl] at e2
      cases e2
    rw [List.getElem?_set_ne hj] at e1 h1
    rw [List.getElem?_set_ne hk] at e2 ⊢
    exact S.sep j k xs ys a n e1 e2 h1
  pot := S.pot
  len := by rw [List.length_set, List.length_set]; exact S.len
  tab := S.tab
  ft := S.ft
  ht := S.ht
theorem Sim.setOwn {C : Ct} {z : Zs} {σ : L2.St} {H F : Hp} (S : Sim C z σ H F) (i : Nat) {a : Addr} {vs : List V} {ds : List PyData} (o : Own C z σ H F a vs) (r : DpAll C.K F vs ds) : Sim C ⟨z.r.set i (.ow ds), z.p⟩ (σ.set i (some (.ref a))) H F where
  sub := S.sub
  ext := S.ext
  keep := S.keep
  fresh := S.fresh
  slots := fun j s e => by
    have e : (z.r.set i (.ow ds))[j]? = some s := e
    by_cases h : i = j
    · subst h
      have hl : i < z.r.length := by
        have := (List.getElem?_eq_some_iff.mp e).1
        rwa [List.length_set] at this
      rw [List.getElem?_set_self hl] at e
      cases e
      exact ⟨a, vs, by rw [List.getElem?_set_self (by rw [← S.len]; exact hl)], o.at_, o.nf, o.nh, o.np, r⟩
    · rw [List.getElem?_set_ne h] at e
      rw [List.getElem?_set_ne h]
      exact S.slots j s e
  sep := fun j k xs ys b n e1 e2 h1 => by
    have e1 : (z.r.set i (.ow ds))[j]? = some (.ow xs) := e1
    have e2 : (z.r.set i (.ow ds))[k]? = some (.ow ys) := e2
    by_cases hj : i = j
    · subst hj
      have hl : i < σ.length := by
        have := (List.getElem?_eq_some_iff.mp e1).1
        rw [List.length_set, S.len] at this
        exact this
      rw [List.getElem?_set_self hl] at h1
      cases h1
      rw [List.getElem?_set_ne n] at e2 ⊢
      exact o.sep k ys e2
    · rw [List.getElem?_set_ne hj] at e1 h1
      by_cases hk : i = k
      · subst hk
        have hl : i < σ.length := by
          have := (List.getElem?_eq_some_iff.mp e2).1
          rw [List.length_set, S.len] at this
          exact this
        rw [List.getElem?_set_self hl]
        intro q
        cases q
        exact o.sep j xs e1 h1
      · rw [List.getElem?_set_ne hk] at e2 ⊢
        exact S.sep j k xs ys b n e1 e2 h1
  pot := S.pot
  len := by rw [List.length_set, List.length_set]; exact S.len
  tab := S.tab
  ft := S.ft
  ht := S.ht
theorem Sim.unset {C : Ct} {z : Zs} {σ : L2.St} {H F : Hp} (S : Sim C z σ H F) (i : Nat) : Sim C ⟨z.r.set i .un, z.p⟩ (σ.set i none) H F where
  sub := S.sub
  ext := S.ext
  keep := S.keep
  fresh := S.fresh
  slots := fun j s e => by
    have e : (z.r.set i .un)[j]? = some s := e
    by_cases h : i = j
    · subst h
      have hl : i < z.r.length := by
        have := (List.getElem?_eq_some_iff.mp e).1
        rwa [List.length_set] at this
      rw [List.getElem?_set_self hl] at e
      cases e
      trivial
    · rw [List.getElem?_set_ne h] at e
      rw [List.getElem?_set_ne h]
      exact S.slots j s e
  sep := fun j k xs ys a n e1 e2 h1 => by
    have e1 : (z.r.set i .un)[j]? = some (.ow xs) := e1
    have e2 : (z.r.set i .un)[k]? = some (.ow ys) := e2
    have hj : i ≠ j := fun q => by
      subst q
      have hl : i < z.r.length := by
        have := (List.getElem?_eq_some_iff.mp e1).1
        rwa [List.length_set] at this
      rw [List.getElem?_set_self hl] at e1
      cases e1
    have hk : i ≠ k := fun q => by
      subst q
      have hl : i < z.r.length := by
        have := (List.getElem?_eq_some_iff.mp e2).1
        rwa [List.length_set] at this
      rw [List.getElem?_set_self hl] at e2
      cases e2
    rw [List.getElem?_set_ne hj] at e1 h1
    rw [List.getElem?_set_ne hk] at e2 ⊢
    exact S.sep j k xs ys a n e1 e2 h1
  pot := S.pot
  len := by rw [List.length_set, List.length_set]; exact S.len
  tab := S.tab
  ft := S.ft
  ht := S.ht
def wipeR (r : List Sl) : List Nat → List Sl
  | [] => r
  | v :: vs => (wipeR r vs).set v .un
theorem Sim.wipe {C : Ct} {z : Zs} {σ : L2.St} {H F : Hp} (S : Sim C z σ H F) : ∀ vs : List Nat, Sim C ⟨wipeR z.r vs, z.p⟩ (L2.wipe σ vs) H F
  | [] => S
  | v :: vs => (S.wipe vs).unset v
theorem wipe_out (σ : L2.St) : ∀ (vs : List Nat) (i : Nat), i ∉ vs → (L2.wipe σ vs)[i]? = σ[i]?
  | [], _, _ => rfl
  | v :: vs, i, h => by
    unfold L2.wipe
    rw [List.getElem?_set_ne (fun e => h (by rw [e]; exact List.mem_cons_self))]
    exact wipe_out σ vs i fun q => h (List.mem_cons_of_mem _ q)
theorem wipe_in (σ : L2.St) : ∀ (vs : List Nat) (i : Nat), i ∈ vs → i < σ.length → (L2.wipe σ vs)[i]? = some none
  | [], _, h, _ => by cases h
  | v :: vs, i, h, hl => by
    unfold L2.wipe
    by_cases e : v = i
    · subst e
      rw [List.getElem?_set_self (by rw [wipe_length]; exact hl)]
    · rw [List.getElem?_set_ne e]
      exact wipe_in σ vs i ((List.mem_cons.mp h).resolve_left fun q => e q.symm) hl
theorem wipeR_out (r : List Sl) : ∀ (vs : List Nat) (i : Nat), i ∉ vs → (wipeR r vs)[i]? = r[i]?
  | [], _, _ => rfl
  | v :: vs, i, h => by
    unfold wipeR
    rw [List.getElem?_set_ne (fun e => h (by rw [e]; exact List.mem_cons_self))]
    exact wipeR_out r vs i fun q => h (List.mem_cons_of_mem _ q)
def Agree (vs : List Nat) (σ σ' : L2.St) : Prop := σ'.length = σ.length ∧ ∀ i, i ∉ vs → σ'[i]? = σ[i]?
theorem Agree.refl (vs : List Nat) (σ : L2.St) : Agree vs σ σ := ⟨rfl, fun _ _ => rfl⟩
theorem Agree.trans {vs : List Nat} {a b c : L2.St} (h : Agree vs a b) (k : Agree vs b c) : Agree vs a c := ⟨k.1.trans h.1, fun i hi => (k.2 i hi).trans (h.2 i hi)⟩
theorem Agree.set {vs : List Nat} {σ : L2.St} {i : Nat} (h : i ∈ vs) (v : Option V) : Agree vs σ (σ.set i v) := ⟨List.length_set, fun j hj => List.getElem?_set_ne fun e => hj (by rw [← e]; exact h)⟩
theorem agree_wipe {vs : List Nat} {σ σ' : L2.St} (h : Agree vs σ σ') : L2.wipe σ' vs = L2.wipe σ vs := by
  refine List.ext_getElem? fun i => ?_
  by_cases hi : i ∈ vs
  · by_cases hl : i < σ.length
    · rw [wipe_in σ' vs i hi (by rw [h.1]; exact hl), wipe_in σ vs i hi hl]
    · rw [List.getElem?_eq_none (l := L2.wipe σ' vs) (by rw [wipe_length, h.1]; omega), List.getElem?_eq_none (l := L2.wipe σ vs) (by rw [wipe_length]; omega)]
  · rw [wipe_out σ vs i hi, wipe_out σ' vs i hi]
    exact h.2 i hi
theorem wipe_agree (vs : List Nat) (σ : L2.St) : Agree vs σ (L2.wipe σ vs) := ⟨wipe_length σ vs, fun i hi => wipe_out σ vs i hi⟩

/-! ### targets -/
def tWG (C : Ct) (vs : List Nat) (z : Zs) (d : PyData) (Q : Zs → Prop) : TG := fun v σ H R => ∃ F, Sim C z σ H F ∧ Dp C.K F v d ∧ ∀ z' σ', Q z' → Sim C z' σ' H F → Agree vs σ σ' → R σ' H
/-- d is stored at the target; vs: the slots that may be written -/
def FG (X : Cx) (C : Ct) (vs : List Nat) (z : Zs) (tg : Expr) (d : PyData) (Q : Zs → Prop) : Prop := PG X tg (tWG C vs z d Q)
def tWGs (C : Ct) (vs : List Nat) (z : Zs) (ds : List PyData) (Q : Zs → Prop) : TGs := fun ws σ H R => ∃ F, Sim C z σ H F ∧ DpAll C.K F ws ds ∧ ∀ z' σ', Q z' → Sim C z' σ' H F → Agree vs σ σ' → R σ' H
def FGs (X : Cx) (C : Ct) (vs : List Nat) (z : Zs) (tgs : List Expr) (ds : List PyData) (Q : Zs → Prop) : Prop := PGs X tgs (tWGs C vs z ds Q)
section
variable {X : Cx} {C : Ct} {vs : List Nat} {z : Zs} {pos : Pos}
theorem pg_con {tg : Expr} {t t' : TG} (h : PG X tg t) (k : ∀ v σ H R, t' v σ H R → t v σ H R) : PG X tg t' := ⟨fun pins s σ H v u Q I r hw => h.run pins s σ H v u Q I r (k v σ H Q hw)⟩
theorem pgs_con {tg : List Expr} {t t' : TGs} (h : PGs X tg t) (k : ∀ v σ H R, t' v σ H R → t v σ H R) : PGs X tg t' := ⟨fun pins s σ H v u Q I r hw => h.run pins s σ H v u Q I r (k v σ H Q hw)⟩
theorem fg_mono {tg : Expr} {d : PyData} {Q Q' : Zs → Prop} (h : FG X C vs z tg d Q) (k : ∀ z', Q z' → Q' z') : FG X C vs z tg d Q' := pg_con h fun v σ H R ⟨F, S, r, q⟩ => ⟨F, S, r, fun z' σ' x => q z' σ' (k z' x)⟩
theorem fg_name {x : Str} {d : PyData} {Q : Zs → Prop} (i : Nat) (hN : X.N.Nodup) (hi : X.N[i]? = some x) (hx : Loc X.env.scope x) (k : Q ⟨z.r.set i (sd d), z.p⟩) (hv : i ∈ vs)
    (hf : X.fn x = true ∨ X.env.scope.names.lookup x = some .local) : FG X C vs z (.Name x pos) d Q :=
  pg_con (pg_name hN hi hx hf) fun v σ H R ⟨F, S, r, q⟩ => q _ _ k (S.set i (d := .d d) r) (Agree.set hv _)
theorem fgs_nil {Q : Zs → Prop} (k : Q z) : FGs X C vs z [] [] Q := pgs_con pgs_nil fun v σ H R ⟨F, S, r, q⟩ => by
  cases r
  exact ⟨rfl, q z σ k S (Agree.refl vs σ)⟩
theorem fgs_cons {e : Expr} {es : List Expr} {d : PyData} {ds : List PyData} {Q : Zs → Prop} (h : FG X C vs z e d fun z1 => FGs X C vs z1 es ds Q)
    (hs : (assignEach (e :: es) X.env).map (·.2) = assign e X.env :: (assignEach es X.env).map (·.2) := by rfl) : FGs X C vs z (e :: es) (d :: ds) Q := by
  have pr : PGs X es (fun ws σ H R => ∃ z1, FGs X C vs z1 es ds Q ∧ tWGs C vs z1 ds Q ws σ H R) := ⟨fun pins s σ H v u R I r ⟨z1, f, hw⟩ => f.run pins s σ H v u R I r hw⟩
  refine pgs_con (pgs_cons h pr hs) ?_
  rintro ws σ H R ⟨F, S, r, q⟩
  cases r with
  | cons r1 r2 =>
    refine ⟨_, _, rfl, F, S, r1, fun z1 σ1 f S1 a1 => ⟨z1, f, F, S1, r2, fun z2 σ2 q2 S2 a2 => q z2 σ2 q2 S2 (a1.trans a2)⟩⟩
theorem fg_tup {es : List Expr} {k : Nat} {ds : List PyData} {Q : Zs → Prop} (hc : X.calm = true) (hK : C.K = X.K) (h : FGs X C vs z es ds Q)
    (hn : (assignEach es X.env).length = ds.length := by rfl) (hst : (assignEach es X.env).findIdx? (·.1) = none := by rfl) : FG X C vs z (.Tuple es k pos) (.tuple ds) Q := by
  refine pg_con (pg_tup hc h hn hst) ?_
  rintro v σ H R ⟨F, S, r, q⟩
  obtain ⟨a, ws, ev, hq, hp⟩ := dp_tuple r
  exact ⟨a, ws, ev, by rw [← hK]; exact S.sub.st hq, dpAll_len hp, F, S, hp, q⟩
end

/-! ### what is walked -/
structure ItOk (C : Ct) (J : It) (F : Hp) (ds : List PyData) : Prop where
  go : ∀ i H, Sub F H → i < ds.length → J.go i H
  stop : ∀ H, Sub F H → J.stop ds.length H
  yld : ∀ i H F' x H', Sub F F' → Sub F' H → J.yld i H x H' → i < ds.length → ∃ d F'', ds[i]? = some d ∧ Grow H F' H' F'' ∧ Dp C.K F'' x d
def tWI (C : Ct) (z : Zs) (Q : List PyData → Zs → Prop) : TI := fun σ H R => ∃ F, Sim C z σ H F ∧ ∀ J ds z' H' F', Q ds z' → Sim C z' σ H' F' → Sub F F' → ItOk C J F' ds → R J H'
def FI (X : Cx) (C : Ct) (z : Zs) (tg iter : Expr) (Q : List PyData → Zs → Prop) : Prop := PI X tg iter (tWI C z Q)
def FIP (X : Cx) (C : Ct) (z : Zs) (tg iter : Expr) (ds : List PyData) : Prop := FI X C z tg iter fun ds' z' => ds' = ds ∧ z' = z
section
variable {X : Cx} {C : Ct} {z : Zs} {tg e a b : Expr} {p pos : Pos}
theorem pi_con {t t' : TI} (h : PI X tg e t) (k : ∀ σ H R, t' σ H R → t σ H R) : PI X tg e t' := ⟨fun pins s σ H R I hw => h.run pins s σ H R I (k σ H R hw)⟩
theorem fi_mono {Q Q' : List PyData → Zs → Prop} (h : FI X C z tg e Q) (k : ∀ ds z', Q ds z' → Q' ds z') : FI X C z tg e Q' := pi_con h fun σ H R ⟨F, S, q⟩ => ⟨F, S, fun J ds z' H' F' x => q J ds z' H' F' (k ds z' x)⟩
theorem itl_ok {F : Hp} {q : Addr} {vs : List V} {ds : List PyData} (h : SqL C.K F q vs) (r : DpAll C.K F vs ds) : ItOk C (Itl C.K q) F ds where
  go := fun i H s hi => by
    have hl := dpAll_len r
    exact ⟨vs, vs[i]'(by omega), s.sl h, List.getElem?_eq_getElem (by omega)⟩
  stop := fun H s => ⟨vs, s.sl h, by rw [dpAll_len r]; exact Nat.le_refl _⟩
  yld := fun i H F' x H' s1 s2 y hi => by
    obtain ⟨e, y⟩ := y
    subst e
    obtain ⟨d, ed, rd⟩ := dpAll_at r (y vs ((s1.trans s2).sl h))
    exact ⟨d, F', ed, Grow.refl s2, dp_mono s1 _ _ rd⟩
theorem itt_ok {F : Hp} {q : Addr} {vs : List V} {ds : List PyData} (h : SqT C.K F q vs) (r : DpAll C.K F vs ds) : ItOk C (Itt C.K q) F ds where
  go := fun i H s hi => by
    have hl := dpAll_len r
    exact ⟨vs, vs[i]'(by omega), s.st h, List.getElem?_eq_getElem (by omega)⟩
  stop := fun H s => ⟨vs, s.st h, by rw [dpAll_len r]; exact Nat.le_refl _⟩
  yld := fun i H F' x H' s1 s2 y hi => by
    obtain ⟨e, y⟩ := y
    subst e
    obtain ⟨d, ed, rd⟩ := dpAll_at r (y vs ((s1.trans s2).st h))
    exact ⟨d, F', ed, Grow.refl s2, dp_mono s1 _ _ rd⟩
theorem fi_list {Q : List PyData → Zs → Prop} (hK : C.K = X.K) (h : FE X C z e fun d z1 => ∃ ds, d = .d (.list ds) ∧ Q ds z1) : FI X C z tg e Q := by
  refine pi_con (pi_list h) ?_
  rintro σ H R ⟨F, S, q⟩
  refine ⟨F, S, fun v d z1 H1 F1 ⟨ds, ed, qd⟩ S1 s1 r => ?_⟩
  subst ed
  obtain ⟨a, vs, ev, hq, hp⟩ := dp_list r
  rw [← hK]
  exact ⟨a, ev, ⟨vs, S1.sub.sl hq⟩, q _ ds z1 H1 F1 qd S1 s1 (itl_ok hq hp)⟩
theorem fi_tup {Q : List PyData → Zs → Prop} (hK : C.K = X.K) (h : FE X C z e fun d z1 => ∃ ds, d = .d (.tuple ds) ∧ Q ds z1) : FI X C z tg e Q := by
  refine pi_con (pi_tup h) ?_
  rintro σ H R ⟨F, S, q⟩
  refine ⟨F, S, fun v d z1 H1 F1 ⟨ds, ed, qd⟩ S1 s1 r => ?_⟩
  subst ed
  obtain ⟨a, vs, ev, hq, hp⟩ := dp_tuple r
  rw [← hK]
  exact ⟨a, ev, ⟨vs, S1.sub.st hq⟩, q _ ds z1 H1 F1 qd S1 s1 (itt_ok hq hp)⟩
theorem fip_list {ds : List PyData} (hK : C.K = X.K) (h : FP X C z e (.list ds)) : FIP X C z tg e ds := fi_list hK (fe_fp h ⟨ds, rfl, rfl, rfl⟩)
theorem fip_tup {ds : List PyData} (hK : C.K = X.K) (h : FP X C z e (.tuple ds)) : FIP X C z tg e ds := fi_tup hK (fe_fp h ⟨ds, rfl, rfl, rfl⟩)
/-- range -/
def rng (lo : Int) (n : Nat) : List PyData := (List.range n).map fun i => .int (lo + (i : Nat))
theorem itr_ok {F : Hp} {lo : Int} {n : Nat} : ItOk C (Itr lo n) F (rng lo n) where
  go := fun i H s hi => by unfold rng at hi; rw [List.length_map, List.length_range] at hi; exact hi
  stop := fun H s => by
    show n ≤ (rng lo n).length
    unfold rng; rw [List.length_map, List.length_range]; exact Nat.le_refl _
  yld := fun i H F' x H' s1 s2 y hi => by
    obtain ⟨e, y⟩ := y
    subst e
    unfold rng at hi ⊢
    rw [List.length_map, List.length_range] at hi
    refine ⟨.int (lo + (i : Nat)), F', ?_, Grow.refl s2, by rw [y]; exact .int _⟩
    rw [List.getElem?_map, List.getElem?_range hi]
    rfl
theorem fi_range1 {Q : List PyData → Zs → Prop} (hm : X.mg "range" = none) (h : FE X C z a fun d z1 => ∃ j : Int, d = .d (.int j) ∧ j < 2 ^ 62 ∧ -(2 ^ 62) ≤ j ∧ Q (rng 0 j.toNat) z1) (hg : Gl X "range" := by rfl) (hs : starEach [a] X.env = [(false, eval a X.env)] := by rfl) :
    FI X C z tg (.Call (.Name "range" p) [a] [] pos) Q := by
  have pa : PA X [a] (tCons (tW C z fun d z1 => ∃ j : Int, d = .d (.int j) ∧ j < 2 ^ 62 ∧ -(2 ^ 62) ≤ j ∧ Q (rng 0 j.toNat) z1) tNil) := pa_cons h pa_nil hs
  refine pi_con (pi_range1 hg hm pa hs) ?_
  rintro σ H R ⟨F, S, q⟩
  refine ⟨F, S, fun v d z1 H1 F1 ⟨j, ed, h1, h2, qd⟩ S1 s1 r => ?_⟩
  subst ed
  exact ⟨j, by rw [dp_int r], h2, h1, q _ _ z1 H1 F1 qd S1 s1 itr_ok⟩
theorem fip_range1 {j : Int} (hm : X.mg "range" = none) (h : FP X C z a (.int j)) (h1 : j < 2 ^ 62) (h2 : -(2 ^ 62) ≤ j) (hg : Gl X "range" := by rfl) (hs : starEach [a] X.env = [(false, eval a X.env)] := by rfl) : FIP X C z tg (.Call (.Name "range" p) [a] [] pos) (rng 0 j.toNat) :=
  fi_range1 hm (fe_fp h ⟨j, rfl, h1, h2, rfl, rfl⟩) hg hs
theorem fip_range2 {i j : Int} (hm : X.mg "range" = none) (ha : FP X C z a (.int i)) (hb : FP X C z b (.int j)) (h1 : -(2 ^ 62) ≤ i ∧ i < 2 ^ 62 ∧ -(2 ^ 62) ≤ j ∧ j < 2 ^ 62) (hg : Gl X "range" := by rfl) (hs : starEach [a, b] X.env = [(false, eval a X.env), (false, eval b X.env)] := by rfl) (hs2 : starEach [b] X.env = [(false, eval b X.env)] := by rfl) :
    FIP X C z tg (.Call (.Name "range" p) [a, b] [] pos) (rng i (j - i).toNat) := by
  have pa := pa_cons ha (pa_cons hb pa_nil hs2) (by rw [hs, hs2])
  refine pi_con (pi_range2 hg hm pa hs hs2) ?_
  rintro σ H R ⟨F, S, q⟩
  refine ⟨F, S, fun v d z1 H1 F1 ⟨e1, e2⟩ S1 s1 r => ?_⟩
  subst e1 e2
  refine ⟨F1, S1, fun v2 d2 z2 H2 F2 ⟨e1, e2⟩ S2 s2 r2 => ?_⟩
  subst e1 e2
  exact ⟨i, j, by rw [dp_int r, dp_int r2], h1, q _ _ z2 H2 F2 ⟨rfl, rfl⟩ S2 (s1.trans s2) itr_ok⟩
end
end DL

set_option Elab.async false
set_option linter.all false
set_option maxRecDepth 100000
set_option maxHeartbeats 4000000
set_option autoImplicit false
namespace DL
open PySem PySem.Spec PyProof.Rows L2

/-! ### comprehensions -/
abbrev blkX (X : Cx) (scope : Scope) (s : Shared) (H : Hp) (cc : Addr) (cl : List (Str × Addr)) (fp : List Addr) : Cx := X.blk s H scope (compEnvC scope cl cc X.env) fp
/-- the tests of a clause -/
def FTs (X : Cx) (C : Ct) (z : Zs) (ifs : List Expr) (Q : Bool → Zs → Prop) : Prop := PTs X ifs (tWT C z Q)
theorem pts_con {X : Cx} {ifs : List Expr} {t t' : TT} (h : PTs X ifs t) (k : ∀ σ H Q, t' σ H Q → t σ H Q) : PTs X ifs t' := ⟨fun pins s σ H Q I hq => h.run pins s σ H Q I (k σ H Q hq)⟩
theorem fts_nil {X : Cx} {C : Ct} {z : Zs} {Q : Bool → Zs → Prop} (k : Q true z) : FTs X C z [] Q := pts_con pts_nil fun σ H R ⟨F, S, q⟩ => q true z H F k S (Sub.refl _)
theorem fts_one {X : Cx} {C : Ct} {z : Zs} {e : Expr} {Q : Bool → Zs → Prop} (h : FT X C z e Q) : FTs X C z [e] Q := pts_one h
def noOwnAt (r : List Sl) (vs : List Nat) : Bool := vs.all fun i => match r[i]? with
  | some (.ow _) => false
  | _ => true
theorem noOwn_of {r : List Sl} {vs : List Nat} (h : noOwnAt r vs = true) {i : Nat} (hi : i ∈ vs) (ds : List PyData) : r[i]? ≠ some (.ow ds) := fun e => by
  unfold noOwnAt at h
  rw [List.all_eq_true] at h
  have := h i hi
  rw [e] at this
  cases this
def Ct.with (C : Ct) (D : Addr) (vs : List V) : Ct := ⟨C.K, C.P, upd C.hold D (.lst vs), C.F0⟩
theorem Sim.into {C : Ct} {z : Zs} {σ : L2.St} {H F : Hp} {D : Addr} {vs : List V} (S : Sim C z σ H F) (o : Own C z σ H F D vs) : Sim (C.with D vs) z σ H F where
  sub := S.sub
  ext := S.ext
  keep := fun a u e => by
    have e : upd C.hold D (.lst vs) a = some u := e
    by_cases q : a = D
    · subst q; rw [upd_same] at e; cases e; exact o.at_
    · rw [upd_ne q] at e; exact S.keep a u e
  fresh := fun a u e => by
    rcases S.fresh a u e with q | q
    · exact .inl q
    · refine .inr ?_
      have hD : a ≠ D := fun z => by subst z; rw [o.nf] at e; cases e
      show upd C.hold D (.lst vs) a = none
      rw [upd_ne hD]; exact q
  slots := fun i s e => by
    have q := S.slots i s e
    cases s with
    | un => trivial
    | v d => exact q
    | ow ds =>
      obtain ⟨a, ws, e1, h1, f1, h2, p1, r⟩ := q
      have hD : a ≠ D := fun z => by subst z; exact o.sep i ds e e1
      exact ⟨a, ws, e1, h1, f1, (by show upd C.hold D (.lst vs) a = none; rw [upd_ne hD]; exact h2), p1, r⟩
  sep := S.sep
  pot := fun p e => by
    obtain ⟨h1, f1, h2⟩ := S.pot p e
    have hD : p ≠ D := fun z => by subst z; exact o.np e
    exact ⟨h1, f1, by show upd C.hold D (.lst vs) p = none; rw [upd_ne hD]; exact h2⟩
  len := S.len
  tab := fun p e => by
    obtain ⟨h1, f1, h2⟩ := S.tab p e
    obtain ⟨ps, t1, _⟩ := id h1
    have hD : p.1 ≠ D := fun z => by rw [z, o.at_] at t1; cases t1
    exact ⟨h1, f1, by show upd C.hold D (.lst vs) p.1 = none; rw [upd_ne hD]; exact h2⟩
  ft := S.ft
  ht := fun b ps e => by
    have e : upd C.hold D (.lst vs) b = some (.tbl ps) := e
    by_cases q : b = D
    · subst q; rw [upd_same] at e; cases e
    · rw [upd_ne q] at e; exact S.ht b ps e
theorem Sim.back {C : Ct} {r r4 : List Sl} {p0 p4 : Pot} {σ σ4 : L2.St} {H F H4 F4 : Hp} {D : Addr} {ws : List V} {vs : List Nat} (S : Sim C ⟨r, p0⟩ σ H F) (o : Own C ⟨r, p0⟩ σ H F D ws) (S4 : Sim (C.with D ws) ⟨r4, p4⟩ σ4 H4 F4)
    (hr : ∀ i, i ∉ vs → r4[i]? = r[i]?) (hσ : ∀ i, i ∉ vs → σ4[i]? = σ[i]?) (hn : noOwnAt r vs = true) (hs : Sub F F4) : Sim C ⟨r, p4⟩ σ H4 F4 ∧ Own C ⟨r, p4⟩ σ H4 F4 D ws := by
  have hD : H4 D = some (.lst ws) := S4.keep D _ (by show upd C.hold D (.lst ws) D = _; rw [upd_same])
  have fD : F4 D = none := by
    rcases none_or (H := F4) (a := D) with q | ⟨u, q⟩
    · exact q
    · rcases S4.fresh D u q with q2 | q2
      · have := S.ext D u q2
        rw [o.nf] at this; cases this
      · have q2 : upd C.hold D (.lst ws) D = none := q2
        rw [upd_same] at q2; cases q2
  refine ⟨⟨S4.sub, S4.ext, fun a u e => ?_, fun a u e => ?_, fun i s e => ?_, S.sep, fun p e => ?_, S.len, fun p e => ?_, S4.ft, S.ht⟩, ⟨hD, fD, o.nh, o.np, o.sep⟩⟩
  · refine S4.keep a u ?_
    show upd C.hold D (.lst ws) a = some u
    have : a ≠ D := fun z => by subst z; rw [o.nh] at e; cases e
    rw [upd_ne this]; exact e
  · rcases S4.fresh a u e with q | q
    · exact .inl q
    · refine .inr ?_
      have : a ≠ D := fun z => by subst z; rw [fD] at e; cases e
      have q : upd C.hold D (.lst ws) a = none := q
      rw [upd_ne this] at q; exact q
  · have q := S.slots i s e
    cases s with
    | un => trivial
    | v d =>
      obtain ⟨v, e1, r1⟩ := q
      exact ⟨v, e1, r1.mono hs⟩
    | ow ds =>
      have e : r[i]? = some (.ow ds) := e
      have hi : i ∉ vs := fun hi => noOwn_of hn hi ds e
      obtain ⟨a, us, e1, h1, f1, h2, p1, r1⟩ := S4.slots i (.ow ds) (by show r4[i]? = _; rw [hr i hi]; exact e)
      rw [hσ i hi] at e1
      refine ⟨a, us, e1, h1, f1, ?_, p1, r1⟩
      have : a ≠ D := fun z => by subst z; exact o.sep i ds e e1
      have h2 : upd C.hold D (.lst ws) a = none := h2
      rw [upd_ne this] at h2; exact h2
  · obtain ⟨h1, f1, h2⟩ := S4.pot p e
    refine ⟨h1, f1, ?_⟩
    have : p ≠ D := fun z => by subst z; exact o.np e
    have h2 : upd C.hold D (.lst ws) p = none := h2
    rw [upd_ne this] at h2; exact h2
  · obtain ⟨h1, f1, h2⟩ := S4.tab p e
    exact ⟨h1, f1, (S.tab p e).2.2⟩
theorem Sim.mutD {C : Ct} {z : Zs} {σ : L2.St} {H F : Hp} {D : Addr} {ws us : List V} (S : Sim C z σ H F) (o : Own C z σ H F D ws) : Sim C z σ (upd H D (.lst us)) F ∧ Own C z σ (upd H D (.lst us)) F D us := by
  refine ⟨⟨fun a u e => ?_, S.ext, fun a u e => ?_, S.fresh, fun i s e => ?_, S.sep, fun p e => ?_, S.len, fun p e => ?_, S.ft, S.ht⟩, ⟨upd_same, o.nf, o.nh, o.np, o.sep⟩⟩
  · have : a ≠ D := fun z => by subst z; rw [o.nf] at e; cases e
    rw [upd_ne this]; exact S.sub a u e
  · have : a ≠ D := fun z => by subst z; rw [o.nh] at e; cases e
    rw [upd_ne this]; exact S.keep a u e
  · have q := S.slots i s e
    cases s with
    | un => trivial
    | v d => exact q
    | ow ds =>
      obtain ⟨a, vs, e1, h1, f1, h2, p1, r1⟩ := q
      have : a ≠ D := fun z => by subst z; exact o.sep i ds e e1
      exact ⟨a, vs, e1, by rw [upd_ne this]; exact h1, f1, h2, p1, r1⟩
  · obtain ⟨h1, f1, h2⟩ := S.pot p e
    have : p ≠ D := fun z => by subst z; exact o.np e
    exact ⟨by rw [upd_ne this]; exact h1, f1, h2⟩
  · obtain ⟨h1, f1, h2⟩ := S.tab p e
    exact ⟨TabS.set h1 o.at_, f1, h2⟩
theorem Own.grow {C : Ct} {z : Zs} {σ : L2.St} {H F H' F' : Hp} {D : Addr} {ws : List V} (o : Own C z σ H F D ws) (g : Grow H F H' F') : Own C z σ H' F' D ws := by
  refine ⟨g.h _ _ o.at_, ?_, o.nh, o.np, o.sep⟩
  rcases none_or (H := F') (a := D) with q | ⟨u, q⟩
  · exact q
  · rcases g.n D u q with q2 | q2
    · rw [o.nf] at q2; cases q2
    · rw [o.at_] at q2; cases q2

/-- one turn of a comprehension, from the state ⟨r, p⟩: the item d; what comes of it: kept with a value, or not -/
def Turn1 (X : Cx) (C : Ct) (scope : Scope) (vs : List Nat) (tg elt : Expr) (ifs : List Expr) (r : List Sl) (p : Pot) (d : PyData) (keep : PyData → Pot → Prop) (skip : Pot → Prop) : Prop :=
  ∀ (s : Shared) (H : Hp) (cc : Addr) (cl : List (Str × Addr)) (fp : List Addr) (C' : Ct), C'.K = C.K → C'.P = C.P →
    FG (blkX X scope s H cc cl fp) C' vs ⟨wipeR r vs, p⟩ tg d fun z3 => (∀ i, i ∉ vs → z3.r[i]? = r[i]?) ∧
      ∀ (s : Shared) (H : Hp) (cc : Addr) (cl : List (Str × Addr)) (fp : List Addr), FTs (blkX X scope s H cc cl fp) C' z3 ifs fun b z4 => z4.r = z3.r ∧
        if b = true then ∀ (s : Shared) (H : Hp) (cc : Addr) (cl : List (Str × Addr)) (fp : List Addr), FE (blkX X scope s H cc cl fp) C' z4 elt fun y z5 => ∃ yd, y = .d yd ∧ z5.r = z4.r ∧ keep yd z5.p
        else skip z4.p
/-- what a comprehension asks of what it walks: J by the turn, what is made so far, the pot -/
def LcQ (X : Cx) (C : Ct) (scope : Scope) (vs : List Nat) (tg elt : Expr) (ifs : List Expr) (Q : List PyData → Zs → Prop) : List PyData → Zs → Prop := fun ds z1 => noOwnAt z1.r vs = true ∧ ∃ J : Nat → List PyData → Pot → Prop, J 0 [] z1.p ∧
  (∀ i d acc p, ds[i]? = some d → J i acc p → acc.length < sizeLine ∧ Turn1 X C scope vs tg elt ifs z1.r p d (fun yd p' => J (i + 1) (acc ++ [yd]) p') (fun p' => J (i + 1) acc p')) ∧
  ∀ acc p, J ds.length acc p → Q acc ⟨z1.r, p⟩
def lcG (X : Cx) (scope : Scope) (vs : List Nat) (tg : Expr) : TG := fun v σ H R => ∃ (C' : Ct) (z : Zs) (d : PyData) (Qg : Zs → Prop), (∀ (s : Shared) (H : Hp) (cc : Addr) (cl : List (Str × Addr)) (fp : List Addr), FG (blkX X scope s H cc cl fp) C' vs z tg d Qg) ∧ tWG C' vs z d Qg v σ H R
def lcT (X : Cx) (scope : Scope) (ifs : List Expr) : TT := fun σ H R => ∃ (C' : Ct) (z : Zs) (Qt : Bool → Zs → Prop), (∀ (s : Shared) (H : Hp) (cc : Addr) (cl : List (Str × Addr)) (fp : List Addr), FTs (blkX X scope s H cc cl fp) C' z ifs Qt) ∧ tWT C' z Qt σ H R
def lcE (X : Cx) (scope : Scope) (elt : Expr) : TE := fun σ H R => ∃ (C' : Ct) (z : Zs) (Qe : DV → Zs → Prop), (∀ (s : Shared) (H : Hp) (cc : Addr) (cl : List (Str × Addr)) (fp : List Addr), FE (blkX X scope s H cc cl fp) C' z elt Qe) ∧ tW C' z Qe σ H R
section
variable {X : Cx} {C : Ct} {z : Zs} {elt tg iter : Expr} {ifs : List Expr} {scope : Scope} {pos : Pos}
theorem lcG_pg (vs : List Nat) (s : Shared) (H : Hp) (cc : Addr) (cl : List (Str × Addr)) (fp : List Addr) : PG (X.blk s H scope (compEnvC scope cl cc X.env) fp) tg (lcG X scope vs tg) := ⟨fun pins s' σ H' v u R I r ⟨C', z, d, Qg, f, w⟩ => (f s H cc cl fp).run pins s' σ H' v u R I r w⟩
theorem lcT_pt (s : Shared) (H : Hp) (cc : Addr) (cl : List (Str × Addr)) (fp : List Addr) : PTs (X.blk s H scope (compEnvC scope cl cc X.env) fp) ifs (lcT X scope ifs) := ⟨fun pins s' σ H' R I ⟨C', z, Qt, f, w⟩ => (f s H cc cl fp).run pins s' σ H' R I w⟩
theorem lcE_pe (s : Shared) (H : Hp) (cc : Addr) (cl : List (Str × Addr)) (fp : List Addr) : PE (X.blk s H scope (compEnvC scope cl cc X.env) fp) elt (lcE X scope elt) := ⟨fun pins s' σ H' R I ⟨C', z, Qe, f, w⟩ => (f s H cc cl fp).run pins s' σ H' R I w⟩
theorem lc_reads {vs : List Nat} {Q : List PyData → Zs → Prop} (σ : L2.St) (H : Hp) (R : VK) (h : tWL C z Q σ H R) : tLc (tWI C z (LcQ X C scope vs tg elt ifs Q)) (lcG X scope vs tg) (lcT X scope ifs) (lcE X scope elt) vs σ H R := by
  obtain ⟨F, S, k⟩ := h
  refine ⟨F, S, fun J ds z1 H1 F1 ⟨hno, Jn, J0, turn, fin⟩ S1 s1 itok D hD => ?_⟩
  refine ⟨fun i m H2 => m = ds.length - i ∧ i ≤ ds.length ∧ ∃ acc p F2 ws, Jn i acc p ∧ Sim C ⟨z1.r, p⟩ σ H2 F2 ∧ Sub F1 F2 ∧ Own C ⟨z1.r, p⟩ σ H2 F2 D ws ∧ DpAll C.K F2 ws acc, ⟨ds.length, by simp, Nat.zero_le _, [], z1.p, F1, [], J0, S1.cell hD _, Sub.refl _, S1.own_new hD _, .nil⟩, ?_⟩
  rintro i m H2 ⟨rfl, hi2, acc, p, F2, ws, hJ, S2, s2, o2, r2⟩
  by_cases hlt : i < ds.length
  · refine .inr ⟨itok.go i H2 (s2.trans S2.sub) hlt, fun H3 => i + 1 ≤ ds.length ∧ ∃ acc p F2 ws, Jn (i + 1) acc p ∧ Sim C ⟨z1.r, p⟩ σ H3 F2 ∧ Sub F1 F2 ∧ Own C ⟨z1.r, p⟩ σ H3 F2 D ws ∧ DpAll C.K F2 ws acc, fun H3 ⟨h1, h2⟩ => ⟨ds.length - (i + 1), by omega, rfl, h1, h2⟩, fun x H3 y => ?_⟩
    obtain ⟨d, F3, ed, gr, rd⟩ := itok.yld i H2 F2 x H3 s2 S2.sub y hlt
    have S3 := S2.grow gr
    have o3 := o2.grow gr
    obtain ⟨hz, tn⟩ := turn i d acc p ed hJ
    have Si := (S3.into o3).wipe vs
    refine ⟨C.with D ws, _, d, _, fun s H cc cl fp => tn s H cc cl fp (C.with D ws) rfl rfl, F3, Si, rd, fun z3 σ3 ⟨hz3, tn3⟩ S4 ag => ?_⟩
    have ag' : Agree vs σ σ3 := (wipe_agree vs σ).trans ag
    refine ⟨(agree_wipe ag').trans ?_, C.with D ws, z3, _, tn3, F3, S4, fun b z4 H4 F4 ⟨hz4, tn4⟩ S5 s5 => ?_⟩
    · rfl
    obtain ⟨r4, p4⟩ := z4
    cases b with
    | false =>
      rw [if_neg Bool.false_ne_true] at tn4 ⊢
      obtain ⟨S6, o6⟩ := S3.back (vs := vs) o3 S5 (fun i hi => by have e : r4 = z3.r := hz4; rw [e]; exact hz3 i hi) (fun i hi => ag'.2 i hi) hno s5
      exact ⟨by omega, acc, p4, F4, ws, tn4, S6, (s2.trans gr.f).trans s5, o6, dpAll_mono (gr.f.trans s5) _ _ r2⟩
    | true =>
      rw [if_pos rfl] at tn4 ⊢
      refine ⟨C.with D ws, _, _, tn4, F4, S5, fun v y z5 H5 F5 ⟨yd, ey, hz5, jn⟩ S6 s6 r6 => ?_⟩
      subst ey
      obtain ⟨r5, p5⟩ := z5
      have hr5 : ∀ i, i ∉ vs → r5[i]? = z1.r[i]? := fun i hi => by
        have e : r5 = r4 := hz5
        have e2 : r4 = z3.r := hz4
        rw [e, e2]; exact hz3 i hi
      obtain ⟨S7, o7⟩ := S3.back (vs := vs) o3 S6 hr5 (fun i hi => ag'.2 i hi) hno (s5.trans s6)
      obtain ⟨S8, o8⟩ := S7.mutD (us := ws ++ [v]) o7
      have hl : ws.length < sizeLine := by rw [dpAll_len r2]; exact hz
      refine ⟨ws, o7.at_, hl, by omega, acc ++ [yd], p5, F5, ws ++ [v], jn, S8, ((s2.trans gr.f).trans s5).trans s6, o8, ?_⟩
      exact dpAll_append (dpAll_mono ((gr.f.trans s5).trans s6) _ _ r2) (.cons r6 .nil)
  · have e : i = ds.length := by omega
    subst e
    refine .inl ⟨itok.stop H2 (s2.trans S2.sub), ?_⟩
    exact k D ws acc _ H2 F2 (fin acc p hJ) S2 (s1.trans s2) o2 r2

theorem fl_lc {own : List (Str × Nat)} {Q : List PyData → Zs → Prop} (hc : X.calm = true) (hN : X.N.Nodup) (ok : BlkOk X.N X.env.scope scope own)
    (hi : FI X C z tg iter (LcQ X C scope (own.map (·.2)) tg elt ifs Q))
    (hs : ∀ x, foldedSetIterable iter X.env x = pure x := by intro _; rfl) : FL X C z (.ListComp elt [⟨tg, iter, ifs, 0⟩] scope pos) Q :=
  pe_con (pe_lc (pos := pos) hc hN hi ok (lcG_pg _) lcT_pt lcE_pe hs) fun σ H R h => lc_reads σ H R h

/-- pure: a filter and a map -/
theorem lcp_lc {α : Type} {vs : List Nat} (xs : List α) (enc : α → PyData) (pf : α → Bool) (gf : α → PyData)
    (hi : FIP X C z tg iter (xs.map enc)) (hlen : xs.length ≤ 100000) (hno : noOwnAt z.r vs = true)
    (turn : ∀ x, x ∈ xs → Turn1 X C scope vs tg elt ifs z.r z.p (enc x) (fun yd p' => pf x = true ∧ yd = gf x ∧ p' = z.p) (fun p' => pf x = false ∧ p' = z.p)) :
    FI X C z tg iter (LcQ X C scope vs tg elt ifs fun ds' z' => ds' = (xs.filter pf).map gf ∧ z' = z) := by
  refine fi_mono hi fun ds z1 ⟨e1, e2⟩ => ?_
  subst e1 e2
  refine ⟨hno, fun i acc p => acc = ((xs.take i).filter pf).map gf ∧ p = z1.p, ⟨rfl, rfl⟩, ?_, ?_⟩
  · rintro i d acc p ed ⟨rfl, rfl⟩
    rw [List.getElem?_map] at ed
    cases hx : xs[i]? with
    | none => rw [hx] at ed; cases ed
    | some x =>
      rw [hx] at ed
      cases ed
      have hmem : x ∈ xs := List.mem_of_getElem? hx
      have htk : xs.take (i + 1) = xs.take i ++ [x] := by rw [List.take_add_one, hx]; rfl
      refine ⟨?_, ?_⟩
      · rw [List.length_map, sizeLine_eq]
        have h1 := List.length_filter_le pf (xs.take i)
        have h2 := List.length_take_le i xs
        have h3 : (xs.take i).length ≤ xs.length := List.length_take_le' i xs
        omega
      · intro s H cc cl fp C' hk hp
        refine fg_mono (turn x hmem s H cc cl fp C' hk hp) fun z3 ⟨h3, f3⟩ => ⟨h3, fun s H cc cl fp => pts_con (f3 s H cc cl fp) fun σ H R ⟨F, S, q⟩ => ⟨F, S, fun b z4 H' F' ⟨h4, f4⟩ => q b z4 H' F' ⟨h4, ?_⟩⟩⟩
        cases b with
        | true =>
          rw [if_pos rfl] at f4 ⊢
          intro s H cc cl fp
          refine fe_mono (f4 s H cc cl fp) fun y z5 ⟨yd, ey, h5, hpf, eyd, ep⟩ => ⟨yd, ey, h5, ?_, ep⟩
          rw [htk, List.filter_append, List.map_append, eyd]
          simp [hpf]
        | false =>
          rw [if_neg Bool.false_ne_true] at f4 ⊢
          obtain ⟨hpf, ep⟩ := f4
          refine ⟨?_, ep⟩
          rw [htk, List.filter_append, List.map_append]
          simp [hpf]
  · rintro acc p ⟨rfl, rfl⟩
    refine ⟨?_, rfl⟩
    rw [List.length_map, List.take_length]
/-- pure: a map -/
theorem lcp_map {α : Type} {vs : List Nat} (xs : List α) (enc : α → PyData) (gf : α → PyData)
    (hi : FIP X C z tg iter (xs.map enc)) (hlen : xs.length ≤ 100000) (hno : noOwnAt z.r vs = true)
    (turn : ∀ x, x ∈ xs → ∀ (s : Shared) (H : Hp) (cc : Addr) (cl : List (Str × Addr)) (fp : List Addr) (C' : Ct), C'.K = C.K → C'.P = C.P →
      FG (blkX X scope s H cc cl fp) C' vs ⟨wipeR z.r vs, z.p⟩ tg (enc x) fun z3 => (∀ i, i ∉ vs → z3.r[i]? = z.r[i]?) ∧ z3.p = z.p ∧
        ∀ (s : Shared) (H : Hp) (cc : Addr) (cl : List (Str × Addr)) (fp : List Addr), FP (blkX X scope s H cc cl fp) C' z3 elt (gf x)) :
    FI X C z tg iter (LcQ X C scope vs tg elt [] fun ds' z' => ds' = xs.map gf ∧ z' = z) := by
  have h := lcp_lc (z := z) (elt := elt) (ifs := []) (scope := scope) (vs := vs) xs enc (fun _ => true) gf hi hlen hno (fun x hx s H cc cl fp C' hk hp => by
    refine fg_mono (turn x hx s H cc cl fp C' hk hp) fun z3 ⟨h3, hp3, f3⟩ => ⟨h3, fun s H cc cl fp => fts_nil ⟨rfl, ?_⟩⟩
    rw [if_pos rfl]
    intro s H cc cl fp
    refine fe_mono (f3 s H cc cl fp) fun y z5 ⟨ey, e5⟩ => ⟨gf x, ey, by rw [e5], rfl, rfl, by rw [e5]; exact hp3⟩)
  rw [List.filter_eq_self.mpr (fun _ _ => rfl)] at h
  exact h
/-- pure: a filter and a map, the test and the element apart -/
theorem lcp_if {α : Type} {vs : List Nat} {test : Expr} (xs : List α) (enc : α → PyData) (pf : α → Bool) (gf : α → PyData)
    (hi : FIP X C z tg iter (xs.map enc)) (hlen : xs.length ≤ 100000) (hno : noOwnAt z.r vs = true)
    (turn : ∀ x, x ∈ xs → ∀ (s : Shared) (H : Hp) (cc : Addr) (cl : List (Str × Addr)) (fp : List Addr) (C' : Ct), C'.K = C.K → C'.P = C.P →
      FG (blkX X scope s H cc cl fp) C' vs ⟨wipeR z.r vs, z.p⟩ tg (enc x) fun z3 => (∀ i, i ∉ vs → z3.r[i]? = z.r[i]?) ∧ z3.p = z.p ∧
        ∀ (s : Shared) (H : Hp) (cc : Addr) (cl : List (Str × Addr)) (fp : List Addr), FPT (blkX X scope s H cc cl fp) C' z3 test (pf x) ∧ (pf x = true → FP (blkX X scope s H cc cl fp) C' z3 elt (gf x))) :
    FI X C z tg iter (LcQ X C scope vs tg elt [test] fun ds' z' => ds' = (xs.filter pf).map gf ∧ z' = z) := by
  refine lcp_lc (z := z) (elt := elt) (ifs := [test]) (scope := scope) (vs := vs) xs enc pf gf hi hlen hno (fun x hx s H cc cl fp C' hk hp => ?_)
  refine fg_mono (turn x hx s H cc cl fp C' hk hp) fun z3 ⟨h3, hp3, f3⟩ => ⟨h3, fun s H cc cl fp => fts_one (ft_mono (f3 s H cc cl fp).1 fun b z4 ⟨eb, e4⟩ => ?_)⟩
  subst eb e4
  refine ⟨rfl, ?_⟩
  by_cases hb : pf x = true
  · rw [if_pos hb]
    intro s H cc cl fp
    exact fe_mono ((f3 s H cc cl fp).2 hb) fun y z5 ⟨ey, e5⟩ => ⟨gf x, ey, by rw [e5], hb, rfl, by rw [e5]; exact hp3⟩
  · rw [if_neg hb]
    exact ⟨by simpa using hb, hp3⟩
end
end DL

set_option Elab.async false
set_option linter.all false
set_option maxRecDepth 100000
set_option maxHeartbeats 4000000
set_option autoImplicit false
namespace DL
open PySem PySem.Spec PyProof.Rows L2

/-! ### what a def promises -/
/-- from the arguments and the pot: the wish about value and pot -/
abbrev WF := List DV → Pot → (DV → Pot → Prop) → Prop
def PotOk (P : Option Addr) (π : Pot) (H F : Hp) : Prop := ∀ p, P = some p → H p = some (.lst [.int π.a, .int π.b, .int π.c]) ∧ F p = none
structure TabOk (H F : Hp) : Prop where
  t : ∀ p ∈ tabs, LamX.TabS H p.1 p.2 ∧ F p.1 = none
  f : ∀ a ps, F a ≠ some (.tbl ps)
def SpD (K : PySem.W.Frag) (W : WF) : Sp := fun vs H Q _ => ∃ (P : Option Addr) (F : Hp) (π : Pot) (ds : List DV) (k : DV → Pot → Prop), W ds π k ∧ Sub F H ∧ Paired (RV K P F) vs ds ∧ PotOk P π H F ∧ TabOk H F ∧
  ∀ v d π' H' F', k d π' → Sub F F' → Sub F' H' → (∀ a o, H a = some o → P ≠ some a → (∀ ps, o ≠ .tbl ps) → H' a = some o) → (∀ a o, F' a = some o → F a = some o ∨ H a = none ∨ ∃ ps, H a = some (.tbl ps)) → PotOk P π' H' F' → TabOk H' F' → RV K P F' v d → Q v H'

section
variable {X : Cx} {C : Ct} {z : Zs} {e a : Expr} {es : List Expr} {pos p : Pos} {x : Str} {k : Nat} {f : Addr} {fd : FuncData} {ps : List Str} {W : WF}
theorem Sim.after {σ : L2.St} {H F H' F' : Hp} {π' : Pot} (S : Sim C z σ H F) (sF : Sub F F') (sH : Sub F' H') (kp : ∀ a o, H a = some o → C.P ≠ some a → (∀ ps, o ≠ .tbl ps) → H' a = some o) (fr : ∀ a o, F' a = some o → F a = some o ∨ H a = none ∨ ∃ ps, H a = some (.tbl ps)) (po : PotOk C.P π' H' F') (tb : TabOk H' F') : Sim C ⟨z.r, π'⟩ σ H' F' where
  sub := sH
  ext := S.ext.trans sF
  keep := fun a o e => kp a o (S.keep a o e) (fun q => by
    have := (S.pot a q).2.2
    rw [e] at this; cases this) fun ps q => S.ht a ps (by rw [← q]; exact e)
  fresh := fun a o e => by
    rcases fr a o e with q | q | ⟨ps, q⟩
    · exact S.fresh a o q
    · exact .inr (none_of_sub S.keep q)
    · refine .inr ?_
      rcases none_or (H := C.hold) (a := a) with w | ⟨u, w⟩
      · exact w
      · have := S.keep a u w
        rw [q] at this; cases this
        exact absurd w (S.ht a ps)
  slots := fun i s e => by
    have q := S.slots i s e
    cases s with
    | un => trivial
    | v d =>
      obtain ⟨v, e1, r⟩ := q
      exact ⟨v, e1, r.mono sF⟩
    | ow ds =>
      obtain ⟨a, vs, e1, h1, f1, h2, p1, r⟩ := q
      refine ⟨a, vs, e1, kp a _ h1 p1 (fun ps q => by cases q), ?_, h2, p1, dpAll_mono sF _ _ r⟩
      rcases none_or (H := F') (a := a) with q | ⟨o, q⟩
      · exact q
      · rcases fr a o q with q | q | ⟨ps, q⟩
        · rw [f1] at q; cases q
        · rw [h1] at q; cases q
        · rw [h1] at q; cases q
  sep := S.sep
  pot := fun p e => ⟨(po p e).1, (po p e).2, (S.pot p e).2.2⟩
  len := S.len
  tab := fun p e => ⟨(tb.t p e).1, (tb.t p e).2, (S.tab p e).2.2⟩
  ft := tb.f
  ht := S.ht
theorem fe_call {Q : DV → Zs → Prop} (G : FnOk X.prog X.w X.K X.mg X.base CX0 k f fd ps (SpD X.K W)) (hr : Room k X.A) (hK : C.K = X.K) (hm : X.mg x = some (.ref f)) (hk : PySem.W.keepIn X.K (.ref f) = true) (hb : Binds X.K fd ps [])
    (ha : FA X C z (a :: es) fun ds z1 => W ds z1.p fun d π' => Q d ⟨z1.r, π'⟩) (hg : Gl X x := by rfl) (hdb : (x == ("__debug__" : Str)) = false := by decide)
    (he : starEach (a :: es) X.env = (false, eval a X.env) :: starEach es X.env := by rfl) (hpl : (backTo pos (starEach es X.env)).any (·.1) = false := by rfl) : FE X C z (.Call (.Name x p) (a :: es) [] pos) Q := by
  refine pe_con (pe_call G hr hg hm hk hb .nil pass0 ha hdb he hpl) ?_
  rintro σ H R ⟨F, S, q⟩
  refine ⟨F, S, fun vs ds z1 H1 F1 w S1 s1 r1 => ?_⟩
  show SpD X.K W (vs ++ []) H1 R E0
  rw [List.append_nil]
  refine ⟨C.P, F1, z1.p, ds, _, w, S1.sub, by rw [← hK]; exact r1, fun p e => ⟨(S1.pot p e).1, (S1.pot p e).2.1⟩, ⟨fun p e => ⟨(S1.tab p e).1, (S1.tab p e).2.1⟩, S1.ft⟩, fun v d π' H' F' qd sF sH kp fr po tb rv => ?_⟩
  rw [← hK] at rv
  exact q v d _ H' F' qd (S1.after sF sH kp fr po tb) (s1.trans sF) rv
/-- a call of a def that is a function of plain data -/
theorem fp_call {ds : List PyData} {d : PyData} (G : FnOk X.prog X.w X.K X.mg X.base CX0 k f fd ps (SpD X.K W)) (hr : Room k X.A) (hK : C.K = X.K) (hm : X.mg x = some (.ref f)) (hk : PySem.W.keepIn X.K (.ref f) = true) (hb : Binds X.K fd ps [])
    (ha : FPA X C z (a :: es) ds) (hw : ∀ (π : Pot) (q : DV → Pot → Prop), q (.d d) π → W (ds.map .d) π q) (hg : Gl X x := by rfl) (hdb : (x == ("__debug__" : Str)) = false := by decide)
    (he : starEach (a :: es) X.env = (false, eval a X.env) :: starEach es X.env := by rfl) (hpl : (backTo pos (starEach es X.env)).any (·.1) = false := by rfl) : FP X C z (.Call (.Name x p) (a :: es) [] pos) d :=
  fe_call G hr hK hm hk hb (fa_mono ha fun _ _ ⟨e1, e2⟩ => by
    subst e1 e2
    exact hw _ _ ⟨rfl, rfl⟩) hg hdb he hpl
end

/-! ### statements -/
inductive Out where
  | nx
  | rt (d : DV)
  | bk
  | ct
def Fin (C : Ct) (D : Ends) (σ : L2.St) (H F : Hp) : Out → Prop
  | .nx => D.nx σ H
  | .bk => D.bk σ H
  | .ct => D.ct σ H
  | .rt d => ∀ v, RV C.K C.P F v d → D.rt v H
def tWS (C : Ct) (z : Zs) (Q : Out → Zs → Prop) : TS := fun D σ H => ∃ F, Sim C z σ H F ∧ ∀ o z' σ' H' F', Q o z' → Sim C z' σ' H' F' → Sub F F' → Fin C D σ' H' F' o
/-- a statement; a block -/
def F1 (X : Cx) (C : Ct) (z : Zs) (st : Stmt) (Q : Out → Zs → Prop) : Prop := PS X st (tWS C z Q)
def FS (X : Cx) (C : Ct) (z : Zs) (st : List Stmt) (Q : Out → Zs → Prop) : Prop := PSs X st (tWS C z Q)
/-- behind a statement: on, or out -/
def Then (Q : Out → Zs → Prop) (N : Zs → Prop) : Out → Zs → Prop := fun o z => match o with
  | .nx => N z
  | .rt d => Q (.rt d) z
  | .bk => Q .bk z
  | .ct => Q .ct z
section
variable {X : Cx} {C : Ct} {z : Zs} {e : Expr} {st : Stmt} {sts rest : List Stmt} {pos : Pos} {Q : Out → Zs → Prop}
theorem ps_con {t t' : TS} (h : PS X st t) (k : ∀ D σ H, t' D σ H → t D σ H) : PS X st t' := ⟨fun pins s σ H D I hq => h.run pins s σ H D I (k D σ H hq)⟩
theorem pss_con {t t' : TS} (h : PSs X sts t) (k : ∀ D σ H, t' D σ H → t D σ H) : PSs X sts t' := ⟨fun pins s σ H D I hq => h.run pins s σ H D I (k D σ H hq)⟩
theorem f1_mono {Q' : Out → Zs → Prop} (h : F1 X C z st Q) (k : ∀ o z', Q o z' → Q' o z') : F1 X C z st Q' := ps_con h fun D σ H ⟨F, S, q⟩ => ⟨F, S, fun o z' σ' H' F' x => q o z' σ' H' F' (k o z' x)⟩
theorem fs_mono {Q' : Out → Zs → Prop} (h : FS X C z sts Q) (k : ∀ o z', Q o z' → Q' o z') : FS X C z sts Q' := pss_con h fun D σ H ⟨F, S, q⟩ => ⟨F, S, fun o z' σ' H' F' x => q o z' σ' H' F' (k o z' x)⟩
theorem fs_nil (k : Q .nx z) : FS X C z [] Q := pss_con pss_nil fun D σ H ⟨F, S, q⟩ => q .nx z σ H F k S (Sub.refl _)
theorem fs_cons (h : F1 X C z st (Then Q fun z1 => FS X C z1 rest Q)) : FS X C z (st :: rest) Q := by
  have pr : PSs X rest (fun D σ H => ∃ z1, FS X C z1 rest Q ∧ tWS C z1 Q D σ H) := ⟨fun pins s σ H D I ⟨z1, f, w⟩ => f.run pins s σ H D I w⟩
  refine pss_con (pss_cons h pr) ?_
  rintro D σ H ⟨F, S, q⟩
  refine ⟨F, S, fun o z1 σ1 H1 F1 q1 S1 s1 => ?_⟩
  cases o with
  | nx => exact ⟨z1, q1, F1, S1, fun o z2 σ2 H2 F2 q2 S2 s2 => q o z2 σ2 H2 F2 q2 S2 (s1.trans s2)⟩
  | rt d => exact q (.rt d) z1 σ1 H1 F1 q1 S1 s1
  | bk => exact q .bk z1 σ1 H1 F1 q1 S1 s1
  | ct => exact q .ct z1 σ1 H1 F1 q1 S1 s1
theorem fs_one (h : F1 X C z st Q) : FS X C z [st] Q := pss_one h
theorem f1_pass (k : Q .nx z) : F1 X C z (.Pass pos) Q := ps_con ps_pass fun D σ H ⟨F, S, q⟩ => q .nx z σ H F k S (Sub.refl _)
theorem f1_break (k : Q .bk z) : F1 X C z (.Break pos) Q := ps_con ps_break fun D σ H ⟨F, S, q⟩ => q .bk z σ H F k S (Sub.refl _)
theorem f1_cont (k : Q .ct z) : F1 X C z (.Continue pos) Q := ps_con ps_continue fun D σ H ⟨F, S, q⟩ => q .ct z σ H F k S (Sub.refl _)
theorem f1_ret (h : FE X C z e fun d z1 => Q (.rt d) z1) : F1 X C z (.Return (some e) pos) Q := by
  refine ps_con (ps_ret h) ?_
  rintro D σ H ⟨F, S, q⟩
  exact ⟨F, S, fun v d z1 H1 F1 q1 S1 s1 r => q (.rt d) z1 σ H1 F1 q1 S1 s1 v r⟩
theorem f1_retP {d : PyData} (h : FP X C z e d) (k : Q (.rt (.d d)) z) : F1 X C z (.Return (some e) pos) Q := f1_ret (fe_fp h k)
theorem f1_expr (h : FE X C z e fun _ z1 => Q .nx z1) (hs : swapsWith e none pos.line X.env = pure false := by rfl) : F1 X C z (.Expr e pos) Q := by
  refine ps_con (ps_expr h hs) ?_
  rintro D σ H ⟨F, S, q⟩
  exact ⟨F, S, fun v d z1 H1 F1 q1 S1 s1 r => q .nx z1 σ H1 F1 q1 S1 s1⟩
theorem f1_if {c : Expr} {a b : List Stmt} (hc : FT X C z c fun k z1 => (k = true → FS X C z1 a Q) ∧ (k = false → FS X C z1 b Q)) : F1 X C z (.If c a b pos) Q := by
  have pa : PSs X a (fun D σ H => ∃ z1, FS X C z1 a Q ∧ tWS C z1 Q D σ H) := ⟨fun pins s σ H D I ⟨z1, f, w⟩ => f.run pins s σ H D I w⟩
  have pb : PSs X b (fun D σ H => ∃ z1, FS X C z1 b Q ∧ tWS C z1 Q D σ H) := ⟨fun pins s σ H D I ⟨z1, f, w⟩ => f.run pins s σ H D I w⟩
  refine ps_con (ps_if hc pa pb) ?_
  rintro D σ H ⟨F, S, q⟩
  refine ⟨F, S, fun k z1 H1 F1 ⟨q1, q2⟩ S1 s1 => ?_⟩
  cases k with
  | true =>
    rw [if_pos rfl]
    exact ⟨z1, q1 rfl, F1, S1, fun o z2 σ2 H2 F2 q2 S2 s2 => q o z2 σ2 H2 F2 q2 S2 (s1.trans s2)⟩
  | false =>
    rw [if_neg Bool.false_ne_true]
    exact ⟨z1, q2 rfl, F1, S1, fun o z2 σ2 H2 F2 q2 S2 s2 => q o z2 σ2 H2 F2 q2 S2 (s1.trans s2)⟩
theorem f1_ifP {c : Expr} {a b : List Stmt} {k : Bool} (hc : FPT X C z c k) (ha : k = true → FS X C z a Q) (hb : k = false → FS X C z b Q) : F1 X C z (.If c a b pos) Q :=
  f1_if (ft_fp hc ⟨ha, hb⟩)
/-- a branch that isn't taken -/
theorem fs_if_no {c : Expr} {a : List Stmt} {k : Bool} (hc : FPT X C z c k) (hk : k = false) (h : FS X C z rest Q) : FS X C z (.If c a [] pos :: rest) Q :=
  fs_cons (f1_ifP hc (fun h => by rw [hk] at h; cases h) fun _ => fs_nil h)
end
end DL

set_option Elab.async false
set_option linter.all false
set_option maxRecDepth 100000
set_option maxHeartbeats 4000000
set_option autoImplicit false
namespace DL
open PySem PySem.Spec PyProof.Rows L2

theorem Sim.mutO {C : Ct} {z : Zs} {σ : L2.St} {H F : Hp} {i : Nat} {ds ds' : List PyData} {a : Addr} {us : List V} (S : Sim C z σ H F) (hz : z.r[i]? = some (.ow ds)) (ha : σ[i]? = some (some (.ref a))) (r : DpAll C.K F us ds') :
    Sim C ⟨z.r.set i (.ow ds'), z.p⟩ σ (upd H a (.lst us)) F := by
  obtain ⟨a', vs, e1, h1, f1, h2, p1, r1⟩ := S.slots i _ hz
  rw [ha] at e1
  cases e1
  have hl : i < z.r.length := (List.getElem?_eq_some_iff.mp hz).1
  have own : ∀ (j : Nat) (xs : List PyData), (z.r.set i (.ow ds'))[j]? = some (.ow xs) → ∃ ys, z.r[j]? = some (.ow ys) := fun j xs e => by
    by_cases q : i = j
    · subst q; exact ⟨ds, hz⟩
    · rw [List.getElem?_set_ne q] at e; exact ⟨xs, e⟩
  refine ⟨fun b u e => ?_, S.ext, fun b u e => ?_, S.fresh, fun j s e => ?_, fun j k xs ys b n e1 e2 h => ?_, fun p e => ?_, by rw [List.length_set]; exact S.len, fun p e => ?_, S.ft, S.ht⟩
  · have : b ≠ a := fun q => by subst q; rw [f1] at e; cases e
    rw [upd_ne this]; exact S.sub b u e
  · have : b ≠ a := fun q => by subst q; rw [h2] at e; cases e
    rw [upd_ne this]; exact S.keep b u e
  · have e : (z.r.set i (.ow ds'))[j]? = some s := e
    by_cases q : i = j
    · subst q
      rw [List.getElem?_set_self hl] at e
      cases e
      exact ⟨a, us, ha, upd_same, f1, h2, p1, r⟩
    · rw [List.getElem?_set_ne q] at e
      have w := S.slots j s e
      cases s with
      | un => trivial
      | v d => exact w
      | ow es =>
        obtain ⟨b, ws, e1, g1, f2, g2, p2, r2⟩ := w
        have : b ≠ a := fun w => by
          subst w
          exact S.sep i j ds es b q hz e ha e1
        exact ⟨b, ws, e1, by rw [upd_ne this]; exact g1, f2, g2, p2, r2⟩
  · obtain ⟨xs', e1'⟩ := own j xs e1
    obtain ⟨ys', e2'⟩ := own k ys e2
    exact S.sep j k xs' ys' b n e1' e2' h
  · obtain ⟨g1, f2, g2⟩ := S.pot p e
    have : p ≠ a := fun q => by subst q; exact p1 e
    exact ⟨by rw [upd_ne this]; exact g1, f2, g2⟩
  · obtain ⟨g1, f2, g2⟩ := S.tab p e
    exact ⟨TabS.set g1 h1, f2, g2⟩

section
variable {X : Cx} {C : Ct} {z : Zs} {e a b c : Expr} {body sts rest : List Stmt} {pos p px py pt : Pos} {Q : Out → Zs → Prop} {x y : Str}

/-! ### names assigned -/
theorem f1_set {x : Str} (i : Nat) (hN : X.N.Nodup) (hi : X.N[i]? = some x) (hx : Loc X.env.scope x) (h : FE X C z e fun d z1 => Q .nx ⟨z1.r.set i (.v d), z1.p⟩)
    (hs : swapsWith e (some (.Name x px)) pos.line X.env = pure false := by rfl) (hf : X.fn x = true ∨ X.env.scope.names.lookup x = some .local := by first | exact .inl rfl | exact .inr rfl | assumption) : F1 X C z (.Assign [.Name x px] e pos) Q := by
  refine ps_con (ps_set hN hi hx h hs hf) ?_
  rintro D σ H ⟨F, S, q⟩
  exact ⟨F, S, fun v d z1 H1 F1 q1 S1 s1 r => q .nx _ _ H1 F1 q1 (S1.set i r) s1⟩
theorem f1_setP {x : Str} {d : PyData} (i : Nat) (hN : X.N.Nodup) (h : FP X C z e d) (k : Q .nx ⟨z.r.set i (sd d), z.p⟩) (hi : X.N[i]? = some x := by rfl) (hx : Loc X.env.scope x := by first | exact .inl rfl | exact .inr rfl)
    (hs : swapsWith e (some (.Name x px)) pos.line X.env = pure false := by rfl) (hf : X.fn x = true ∨ X.env.scope.names.lookup x = some .local := by first | exact .inl rfl | exact .inr rfl | assumption) : F1 X C z (.Assign [.Name x px] e pos) Q :=
  f1_set i hN hi hx (fe_fp h k) hs hf
/-- a new list, kept as one's own -/
theorem f1_setO {x : Str} (i : Nat) (hN : X.N.Nodup) (h : FL X C z e fun ds z1 => Q .nx ⟨z1.r.set i (.ow ds), z1.p⟩) (hi : X.N[i]? = some x := by rfl) (hx : Loc X.env.scope x := by first | exact .inl rfl | exact .inr rfl)
    (hs : swapsWith e (some (.Name x px)) pos.line X.env = pure false := by rfl) (hf : X.fn x = true ∨ X.env.scope.names.lookup x = some .local := by first | exact .inl rfl | exact .inr rfl | assumption) : F1 X C z (.Assign [.Name x px] e pos) Q := by
  refine ps_con (ps_set hN hi hx h hs hf) ?_
  rintro D σ H ⟨F, S, q⟩
  exact ⟨F, S, fun a vs ds z1 H1 F1 q1 S1 s1 o r => q .nx _ _ H1 F1 q1 (S1.setOwn i o r) s1⟩
/-- name = [comprehension], the name a local -/
theorem f1_setLc {x : Str} {own : List (Str × Nat)} {elt tg iter : Expr} {ifs : List Expr} {scope : Scope} {lp : Pos} (i : Nat) (hc : X.calm = true) (hN : X.N.Nodup) (ok : BlkOk X.N X.env.scope scope own)
    (hi : FI X C z tg iter (LcQ X C scope (own.map (·.2)) tg elt ifs fun ds z1 => Q .nx ⟨z1.r.set i (.v (.d (.list ds))), z1.p⟩))
    (hx : X.N[i]? = some x := by rfl) (hy : X.env.scope.names.lookup x = some .local := by rfl)
    (hsw : swapsWith (.ListComp elt [⟨tg, iter, ifs, 0⟩] scope lp) (some (.Name x px)) pos.line X.env = pure true := by exact sw_true rfl rfl rfl (by decide +kernel))
    (hs : ∀ x, foldedSetIterable iter X.env x = pure x := by intro _; rfl) : F1 X C z (.Assign [.Name x px] (.ListComp elt [⟨tg, iter, ifs, 0⟩] scope lp) pos) Q := by
  refine ps_con (ps_setLc hc hN hx hy hsw hi ok (lcG_pg (own.map (·.2))) lcT_pt lcE_pe hs) ?_
  rintro D σ H ⟨F, S, q⟩
  refine lc_reads σ H _ ⟨F, S, fun a vs ds z1 H1 F1 q1 S1 s1 o r => ?_⟩
  exact q .nx _ _ H1 _ q1 ((S1.freeze o).set i (d := .d (.list ds)) (.lst (SqL.of upd_same) (dpAll_mono (sub_new o.nf) _ _ r))) (s1.trans (sub_new o.nf))
theorem f1_setLcO {x : Str} {own : List (Str × Nat)} {elt tg iter : Expr} {ifs : List Expr} {scope : Scope} {lp : Pos} (i : Nat) (hc : X.calm = true) (hN : X.N.Nodup) (ok : BlkOk X.N X.env.scope scope own)
    (hi : FI X C z tg iter (LcQ X C scope (own.map (·.2)) tg elt ifs fun ds z1 => Q .nx ⟨z1.r.set i (.ow ds), z1.p⟩))
    (hx : X.N[i]? = some x := by rfl) (hy : X.env.scope.names.lookup x = some .local := by rfl)
    (hsw : swapsWith (.ListComp elt [⟨tg, iter, ifs, 0⟩] scope lp) (some (.Name x px)) pos.line X.env = pure true := by exact sw_true rfl rfl rfl (by decide +kernel))
    (hs : ∀ x, foldedSetIterable iter X.env x = pure x := by intro _; rfl) : F1 X C z (.Assign [.Name x px] (.ListComp elt [⟨tg, iter, ifs, 0⟩] scope lp) pos) Q := by
  refine ps_con (ps_setLc hc hN hx hy hsw hi ok (lcG_pg (own.map (·.2))) lcT_pt lcE_pe hs) ?_
  rintro D σ H ⟨F, S, q⟩
  refine lc_reads σ H _ ⟨F, S, fun a vs ds z1 H1 F1 q1 S1 s1 o r => ?_⟩
  exact q .nx _ _ H1 _ q1 (S1.setOwn i o r) s1
/-- any target -/
theorem f1_asg {tg : Expr} (vs : List Nat) (h : FE X C z e fun d z1 => ∃ x, d = .d x ∧ FG X C vs z1 tg x (Q .nx)) (hs : swapsWithSole [tg] e pos.line X.env = pure false := by rfl) (hw : swappedStores [tg] e X.env = pure none := by rfl)
    (h1 : (assignEach [tg] X.env).map (·.2) = [assign tg X.env] := by rfl) : F1 X C z (.Assign [tg] e pos) Q := by
  have pg : PG X tg (fun v σ H R => ∃ z1 x, FG X C vs z1 tg x (Q .nx) ∧ tWG C vs z1 x (Q .nx) v σ H R) := ⟨fun pins s σ H v u R I r ⟨z1, x, f, w⟩ => f.run pins s σ H v u R I r w⟩
  refine ps_con (ps_asg h pg hs hw h1) ?_
  rintro D σ H ⟨F, S, q⟩
  refine ⟨F, S, fun v d z1 H1 F1 ⟨x, ed, f⟩ S1 s1 r => ?_⟩
  subst ed
  exact ⟨z1, x, f, F1, S1, r, fun z2 σ2 q2 S2 _ => q .nx z2 σ2 H1 F1 q2 S2 s1⟩
/-- a, b = e1, e2: both values -/
theorem f1_par {i j : Nat} {k k2 : Nat} {pt2 : Pos} (hc : X.calm = true) (hN : X.N.Nodup) (hij : i ≠ j) (ha : FA X C z [a, b] fun ds z1 => ∃ d1 d2, ds = [d1, d2] ∧ Q .nx ⟨(z1.r.set i (.v d1)).set j (.v d2), z1.p⟩)
    (hi : X.N[i]? = some x := by rfl) (hj : X.N[j]? = some y := by rfl) (hx : X.env.scope.names.lookup x = some .local := by rfl) (hy : X.env.scope.names.lookup y = some .local := by rfl)
    (hw : swappedStores [.Tuple [.Name x px, .Name y py] k pt] (.Tuple [a, b] k2 pt2) X.env = pure (some [x, y]) := by rfl)
    (hs : swapsWithSole [.Tuple [.Name x px, .Name y py] k pt] (.Tuple [a, b] k2 pt2) pos.line X.env = pure false := by rfl) :
    F1 X C z (.Assign [.Tuple [.Name x px, .Name y py] k pt] (.Tuple [a, b] k2 pt2) pos) Q := by
  refine ps_con (ps_par hc hN hi hj hij hx hy ha hw hs) ?_
  rintro D σ H ⟨F, S, q⟩
  refine ⟨F, S, fun vs ds z1 H1 F1 ⟨d1, d2, ed, q1⟩ S1 s1 r => ?_⟩
  subst ed
  obtain ⟨v, u, ev, r1, r2⟩ := paired2 r
  subst ev
  exact ⟨v, u, rfl, q .nx _ _ H1 F1 q1 ((S1.set i r1).set j r2) s1⟩
theorem f1_parP {i j : Nat} {k k2 : Nat} {pt2 : Pos} {d1 d2 : PyData} (hc : X.calm = true) (hN : X.N.Nodup) (hij : i ≠ j) (ha : FP X C z a d1) (hb : FP X C z b d2) (q : Q .nx ⟨(z.r.set i (sd d1)).set j (sd d2), z.p⟩)
    (hi : X.N[i]? = some x := by rfl) (hj : X.N[j]? = some y := by rfl) (hx : X.env.scope.names.lookup x = some .local := by rfl) (hy : X.env.scope.names.lookup y = some .local := by rfl)
    (hw : swappedStores [.Tuple [.Name x px, .Name y py] k pt] (.Tuple [a, b] k2 pt2) X.env = pure (some [x, y]) := by rfl)
    (hs : swapsWithSole [.Tuple [.Name x px, .Name y py] k pt] (.Tuple [a, b] k2 pt2) pos.line X.env = pure false := by rfl)
    (h1 : starEach [a, b] X.env = (false, eval a X.env) :: starEach [b] X.env := by rfl) (h2 : starEach [b] X.env = (false, eval b X.env) :: starEach [] X.env := by rfl) :
    F1 X C z (.Assign [.Tuple [.Name x px, .Name y py] k pt] (.Tuple [a, b] k2 pt2) pos) Q :=
  f1_par hc hN hij (fa_mono (arg2 ha hb h1 h2) fun _ _ ⟨e1, e2⟩ => by
    subst e1 e2
    exact ⟨_, _, rfl, q⟩) hi hj hx hy hw hs
/-- .. the first a new list of its own -/
theorem f1_parOV {i j : Nat} {k k2 : Nat} {pt2 : Pos} (hc : X.calm = true) (hN : X.N.Nodup) (hij : i ≠ j) (ha : FL X C z a fun ds z1 => ∀ C', C'.K = C.K → C'.P = C.P → FE X C' z1 b fun d z2 => z2.r = z1.r ∧ noOwnAt z1.r [i, j] = true ∧ Q .nx ⟨(z2.r.set i (.ow ds)).set j (.v d), z2.p⟩)
    (hi : X.N[i]? = some x := by rfl) (hj : X.N[j]? = some y := by rfl) (hx : X.env.scope.names.lookup x = some .local := by rfl) (hy : X.env.scope.names.lookup y = some .local := by rfl)
    (hw : swappedStores [.Tuple [.Name x px, .Name y py] k pt] (.Tuple [a, b] k2 pt2) X.env = pure (some [x, y]) := by rfl)
    (hs : swapsWithSole [.Tuple [.Name x px, .Name y py] k pt] (.Tuple [a, b] k2 pt2) pos.line X.env = pure false := by rfl)
    (h1 : starEach [a, b] X.env = (false, eval a X.env) :: starEach [b] X.env := by rfl) (h2 : starEach [b] X.env = (false, eval b X.env) :: starEach [] X.env := by rfl) :
    F1 X C z (.Assign [.Tuple [.Name x px, .Name y py] k pt] (.Tuple [a, b] k2 pt2) pos) Q := by
  have pb : PE X b (fun σ H R => ∃ C' z1 Qb, FE X C' z1 b Qb ∧ tW C' z1 Qb σ H R) := ⟨fun pins s σ H R I ⟨C', z1, Qb, f, w⟩ => f.run pins s σ H R I w⟩
  refine ps_con (ps_par hc hN hi hj hij hx hy (pa_cons ha (pa_cons pb pa_nil h2) h1) hw hs) ?_
  rintro D σ H ⟨F, S, q⟩
  refine ⟨F, S, fun p vs ds z1 H1 F1 f S1 s1 o r => ?_⟩
  refine ⟨C.with p vs, z1, _, f _ rfl rfl, F1, S1.into o, fun v d z2 H2 F2 ⟨er, hno, q2⟩ S2 s2 rv => ?_⟩
  obtain ⟨r2, p2⟩ := z2
  have er : r2 = z1.r := er
  subst er
  obtain ⟨S3, o3⟩ := S1.back (vs := []) o S2 (fun _ _ => rfl) (fun _ _ => rfl) (by rfl) s2
  exact ⟨.ref p, v, rfl, q .nx _ _ H2 F2 q2 ((S3.setOwn i o3 (dpAll_mono s2 _ _ r)).set j rv) (s1.trans s2)⟩
/-- .. both new lists -/
theorem f1_parOO {i j : Nat} {k k2 : Nat} {pt2 : Pos} (hc : X.calm = true) (hN : X.N.Nodup) (hij : i ≠ j) (ha : FL X C z a fun ds z1 => ∀ C', C'.K = C.K → C'.P = C.P → FL X C' z1 b fun es z2 => z2.r = z1.r ∧ Q .nx ⟨(z2.r.set i (.ow ds)).set j (.ow es), z2.p⟩)
    (hi : X.N[i]? = some x := by rfl) (hj : X.N[j]? = some y := by rfl) (hx : X.env.scope.names.lookup x = some .local := by rfl) (hy : X.env.scope.names.lookup y = some .local := by rfl)
    (hw : swappedStores [.Tuple [.Name x px, .Name y py] k pt] (.Tuple [a, b] k2 pt2) X.env = pure (some [x, y]) := by rfl)
    (hs : swapsWithSole [.Tuple [.Name x px, .Name y py] k pt] (.Tuple [a, b] k2 pt2) pos.line X.env = pure false := by rfl)
    (h1 : starEach [a, b] X.env = (false, eval a X.env) :: starEach [b] X.env := by rfl) (h2 : starEach [b] X.env = (false, eval b X.env) :: starEach [] X.env := by rfl) :
    F1 X C z (.Assign [.Tuple [.Name x px, .Name y py] k pt] (.Tuple [a, b] k2 pt2) pos) Q := by
  have pb : PE X b (fun σ H R => ∃ C' z1 Qb, FL X C' z1 b Qb ∧ tWL C' z1 Qb σ H R) := ⟨fun pins s σ H R I ⟨C', z1, Qb, f, w⟩ => f.run pins s σ H R I w⟩
  refine ps_con (ps_par hc hN hi hj hij hx hy (pa_cons ha (pa_cons pb pa_nil h2) h1) hw hs) ?_
  rintro D σ H ⟨F, S, q⟩
  refine ⟨F, S, fun p vs ds z1 H1 F1 f S1 s1 o r => ?_⟩
  refine ⟨C.with p vs, z1, _, f _ rfl rfl, F1, S1.into o, fun p2 ws es z2 H2 F2 ⟨er, q2⟩ S2 s2 o2 rw2 => ?_⟩
  obtain ⟨r2, pp2⟩ := z2
  have er : r2 = z1.r := er
  subst er
  obtain ⟨S3, o3⟩ := S1.back (vs := []) o S2 (fun _ _ => rfl) (fun _ _ => rfl) (by rfl) s2
  have ne : p2 ≠ p := fun w => by
    subst w
    have h := o2.nh
    have h : upd C.hold p2 (.lst vs) p2 = none := h
    rw [upd_same] at h; cases h
  have o4 : Own C ⟨z1.r, pp2⟩ σ H2 F2 p2 ws := ⟨o2.at_, o2.nf, by
    have h : upd C.hold p (.lst vs) p2 = none := o2.nh
    rw [upd_ne ne] at h; exact h, o2.np, o2.sep⟩
  have S5 := S3.setOwn i o3 (dpAll_mono s2 _ _ r)
  have o5 : Own C ⟨z1.r.set i (.ow ds), pp2⟩ (σ.set i (some (.ref p))) H2 F2 p2 ws := ⟨o4.at_, o4.nf, o4.nh, o4.np, fun l xs e => by
    have e : (z1.r.set i (.ow ds))[l]? = some (.ow xs) := e
    by_cases hl : i = l
    · subst hl
      have hlt : i < σ.length := by
        have := (List.getElem?_eq_some_iff.mp e).1
        rw [List.length_set] at this
        rw [← S3.len]; exact this
      rw [List.getElem?_set_self hlt]
      intro w
      cases w
      exact ne rfl
    · rw [List.getElem?_set_ne hl] at e ⊢
      exact o4.sep l xs e⟩
  exact ⟨.ref p, .ref p2, rfl, q .nx _ _ H2 F2 q2 (S5.setOwn j o5 rw2) (s1.trans s2)⟩

/-! ### one's own list changed -/
theorem f1_append {ap pn : Pos} (i : Nat) (hK : C.K = X.K) (hz : ∃ ds, z.r[i]? = some (.ow ds)) (h : FE X C z e fun v z1 => ∃ d ds, v = .d d ∧ z1.r[i]? = some (.ow ds) ∧ ds.length < 100000 ∧ Q .nx ⟨z1.r.set i (.ow (ds ++ [d])), z1.p⟩)
    (hN : X.N[i]? = some x := by rfl)
    (hv : Vis X.env.scope x := by first | exact Or.inl rfl | exact Or.inr (Or.inl rfl) | exact Or.inr (Or.inr rfl))
    (hd : (x == ("__debug__" : Str)) = false := by decide) (hcd : (x == ("__classdict__" : Str)) = false := by decide)
    (hs : starEach [e] X.env = (false, eval e X.env) :: starEach [] X.env := by rfl)
    (hbase : attributeBase (.Name x pn) ("append" : Str) X.env (eval (.Name x pn) X.env) = eval (.Name x pn) X.env := by rfl)
    (hfew : ((backTo p (starEach [e] X.env)).all (fun x => !x.1) && (backToKw p (keywordEach [] X.env)).all (fun x => x.1.isSome)
      && decide ([e].length + ([] : List Keyword).length + (if ([] : List Keyword).isEmpty then 0 else 1) < 30)) = true := by rfl)
    (hline : (ap.endLine == p.line) = true := by rfl) (hplain : (backTo p (starEach [] X.env)).any (·.1) = false := by rfl)
    (hsw : swapsWith (.Call (.Attribute (.Name x pn) ("append" : Str) ap) [e] [] p) none pos.line X.env = pure false := by rfl) : F1 X C z (.Expr (.Call (.Attribute (.Name x pn) ("append" : Str) ap) [e] [] p) pos) Q := by
  refine ps_con (ps_expr (pe_bm PySem.F.plainAttrs_list PySem.F.slot_list_append PySem.F.type_list_append mt_append (pe_var hN hv hd hcd) (pa_cons h pa_nil hs) hbase hfew hline hs hplain) hsw) ?_
  rintro D σ H ⟨F, S, q⟩
  obtain ⟨ds0, hz⟩ := hz
  obtain ⟨a0, vs0, e0, h0, _⟩ := S.slots i _ hz
  refine ⟨.ref a0, e0, Or.inl ⟨rfl, vs0, SqL.of h0⟩, F, S, fun v d z1 H1 F1 ⟨x', ds, ed, hz1, hlen, q1⟩ S1 s1 r => ?_⟩
  subst ed
  obtain ⟨a1, vs, e1, h1, f1, _, _, r1⟩ := S1.slots i _ hz1
  rw [e0] at e1
  cases e1
  refine ⟨a0, vs, v, rfl, rfl, h1, by rw [dpAll_len r1, sizeLine_eq]; omega, ?_⟩
  exact q .nx _ σ _ F1 q1 (S1.mutO hz1 e0 (dpAll_append r1 (.cons r .nil))) s1
/-- extended by a new list -/
theorem f1_extend {ap pn : Pos} (i : Nat) (hK : C.K = X.K) (hz : ∃ ds, z.r[i]? = some (.ow ds)) (h : FL X C z e fun es z1 => ∃ ds, z1.r[i]? = some (.ow ds) ∧ ds.length + es.length ≤ 100000 ∧ Q .nx ⟨z1.r.set i (.ow (ds ++ es)), z1.p⟩)
    (hN : X.N[i]? = some x := by rfl)
    (hv : Vis X.env.scope x := by first | exact Or.inl rfl | exact Or.inr (Or.inl rfl) | exact Or.inr (Or.inr rfl))
    (hd : (x == ("__debug__" : Str)) = false := by decide) (hcd : (x == ("__classdict__" : Str)) = false := by decide)
    (hs : starEach [e] X.env = (false, eval e X.env) :: starEach [] X.env := by rfl)
    (hbase : attributeBase (.Name x pn) ("extend" : Str) X.env (eval (.Name x pn) X.env) = eval (.Name x pn) X.env := by rfl)
    (hfew : ((backTo p (starEach [e] X.env)).all (fun x => !x.1) && (backToKw p (keywordEach [] X.env)).all (fun x => x.1.isSome)
      && decide ([e].length + ([] : List Keyword).length + (if ([] : List Keyword).isEmpty then 0 else 1) < 30)) = true := by rfl)
    (hline : (ap.endLine == p.line) = true := by rfl) (hplain : (backTo p (starEach [] X.env)).any (·.1) = false := by rfl)
    (hsw : swapsWith (.Call (.Attribute (.Name x pn) ("extend" : Str) ap) [e] [] p) none pos.line X.env = pure false := by rfl) : F1 X C z (.Expr (.Call (.Attribute (.Name x pn) ("extend" : Str) ap) [e] [] p) pos) Q := by
  refine ps_con (ps_expr (pe_bm PySem.F.plainAttrs_list PySem.F.slot_list_extend PySem.F.type_list_extend mt_extend (pe_var hN hv hd hcd) (pa_cons h pa_nil hs) hbase hfew hline hs hplain) hsw) ?_
  rintro D σ H ⟨F, S, q⟩
  obtain ⟨ds0, hz⟩ := hz
  obtain ⟨a0, vs0, e0, h0, _⟩ := S.slots i _ hz
  refine ⟨.ref a0, e0, Or.inl ⟨rfl, vs0, SqL.of h0⟩, F, S, fun b ws es z1 H1 F1 ⟨ds, hz1, hlen, q1⟩ S1 s1 o r => ?_⟩
  obtain ⟨a1, vs, e1, h1, f1, _, _, r1⟩ := S1.slots i _ hz1
  rw [e0] at e1
  cases e1
  refine ⟨a0, b, vs, ws, rfl, rfl, h1, o.at_, by rw [dpAll_len r1, dpAll_len r, sizeLine_eq]; omega, ?_⟩
  exact q .nx _ σ _ F1 q1 (S1.mutO hz1 e0 (dpAll_append r1 r)) s1
/-- x.pop(e) -/
theorem fe_pop {ap pn : Pos} {Q : DV → Zs → Prop} (i : Nat) (hK : C.K = X.K) (hz : ∃ ds, z.r[i]? = some (.ow ds))
    (h : FE X C z e fun v z1 => ∃ (j : Int) (n : Nat) (ds : List PyData) (d : PyData), v = .d (.int j) ∧ z1.r[i]? = some (.ow ds) ∧ -(2 ^ 63) ≤ j ∧ j < 2 ^ 63 ∧ seqIndex? j ds.length = some n ∧ ds[n]? = some d ∧ Q (.d d) ⟨z1.r.set i (.ow (ds.eraseIdx n)), z1.p⟩)
    (hN : X.N[i]? = some x := by rfl)
    (hv : Vis X.env.scope x := by first | exact Or.inl rfl | exact Or.inr (Or.inl rfl) | exact Or.inr (Or.inr rfl))
    (hd : (x == ("__debug__" : Str)) = false := by decide) (hcd : (x == ("__classdict__" : Str)) = false := by decide)
    (hs : starEach [e] X.env = (false, eval e X.env) :: starEach [] X.env := by rfl)
    (hbase : attributeBase (.Name x pn) ("pop" : Str) X.env (eval (.Name x pn) X.env) = eval (.Name x pn) X.env := by rfl)
    (hfew : ((backTo p (starEach [e] X.env)).all (fun x => !x.1) && (backToKw p (keywordEach [] X.env)).all (fun x => x.1.isSome)
      && decide ([e].length + ([] : List Keyword).length + (if ([] : List Keyword).isEmpty then 0 else 1) < 30)) = true := by rfl)
    (hline : (ap.endLine == p.line) = true := by rfl) (hplain : (backTo p (starEach [] X.env)).any (·.1) = false := by rfl) : FE X C z (.Call (.Attribute (.Name x pn) ("pop" : Str) ap) [e] [] p) Q := by
  refine pe_con (pe_bm PySem.F.plainAttrs_list PySem.F.slot_list_pop PySem.F.type_list_pop mt_popAt (pe_var hN hv hd hcd) (pa_cons h pa_nil hs) hbase hfew hline hs hplain) ?_
  rintro σ H R ⟨F, S, q⟩
  obtain ⟨ds0, hz⟩ := hz
  obtain ⟨a0, vs0, e0, h0, _⟩ := S.slots i _ hz
  refine ⟨.ref a0, e0, Or.inl ⟨rfl, vs0, SqL.of h0⟩, F, S, fun v d z1 H1 F1 ⟨j, n, ds, d', ed, hz1, g1, g2, hsq, hdn, q1⟩ S1 s1 r => ?_⟩
  subst ed
  obtain ⟨a1, vs, e1, h1, f1, _, _, r1⟩ := S1.slots i _ hz1
  rw [e0] at e1
  cases e1
  obtain ⟨w, ew, rw2⟩ := dpAll_get r1 hdn
  refine ⟨a0, vs, j, n, w, rfl, by rw [dp_int r], h1, g1, g2, by rw [dpAll_len r1]; exact hsq, ew, ?_⟩
  exact q w _ _ _ F1 q1 (S1.mutO hz1 e0 (dpAll_erase n r1)) s1 rw2
/-- x[j] = e -/
theorem f1_setItem {j : Expr} {pn tp : Pos} {d : PyData} {n : Int} {k : Nat} {ds : List PyData} (i : Nat) (hK : C.K = X.K) (hz : z.r[i]? = some (.ow ds)) (h : FP X C z e d) (hj : FP X C z j (.int n)) (hn : ixN ds.length n = some k) (q0 : Q .nx ⟨z.r.set i (.ow (ds.set k d)), z.p⟩)
    (hN : X.N[i]? = some x := by rfl)
    (hv : Vis X.env.scope x := by first | exact Or.inl rfl | exact Or.inr (Or.inl rfl) | exact Or.inr (Or.inr rfl))
    (hd : (x == ("__debug__" : Str)) = false := by decide) (hcd : (x == ("__classdict__" : Str)) = false := by decide)
    (ha : ∀ v, assign (.Subscript (.Name x pn) j tp) X.env v = (do
      let ov ← holding [v] (eval (.Name x pn) X.env)
      let iv ← holding [v, ov] (eval j X.env)
      standAt tp
      holding [v, ov, iv] (setItem ov iv v)
      release [v, ov, iv] []) := by intro _; rfl)
    (hs : swapsWithSole [.Subscript (.Name x pn) j tp] e pos.line X.env = pure false := by rfl) (hw : swappedStores [.Subscript (.Name x pn) j tp] e X.env = pure none := by rfl)
    (h1 : (assignEach [.Subscript (.Name x pn) j tp] X.env).map (·.2) = [assign (.Subscript (.Name x pn) j tp) X.env] := by rfl) : F1 X C z (.Assign [.Subscript (.Name x pn) j tp] e pos) Q := by
  refine ps_con (ps_asg h (pg_sub (pe_var hN hv hd hcd) hj set_list ha) hs hw h1) ?_
  rintro D σ H ⟨F, S, q⟩
  refine ⟨F, S, fun v d' z1 H1 F1 ⟨e1, e2⟩ S1 s1 r => ?_⟩
  subst e1 e2
  obtain ⟨a0, vs0, e0, h0, _⟩ := S1.slots i _ hz
  refine ⟨.ref a0, e0, F1, S1, fun u d2 z2 H2 F2 ⟨e1, e2⟩ S2 s2 r2 => ?_⟩
  subst e1 e2
  obtain ⟨a1, vs, e1, g1, f1, _, _, r1⟩ := S2.slots i _ hz
  rw [e0] at e1
  cases e1
  refine ⟨a0, vs, n, k, rfl, dp_int r2, g1, by rw [dpAll_len r1]; exact hn, ?_⟩
  exact q .nx _ σ _ F2 q0 (S2.mutO hz e0 (dpAll_set (dp_mono s2 _ _ r) k r1)) (s1.trans s2)

/-! ### loops -/
theorem f1_for {tg iter : Expr} (vs : List Nat) (hp : PassesOwn (model X.prog X.w) X.A X.env X.xe) (hc : X.calm = true)
    (hi : FI X C z tg iter fun ds z1 => ∃ I : Nat → Zs → Prop, I 0 z1 ∧
      (∀ i d z2, ds[i]? = some d → I i z2 → FG X C vs z2 tg d fun z3 => FS X C z3 body fun o z4 => match o with
        | .nx => I (i + 1) z4
        | .ct => I (i + 1) z4
        | .bk => Q .nx z4
        | .rt d => Q (.rt d) z4) ∧
      ∀ z2, I ds.length z2 → Q .nx z2)
    (hs : ∀ x, foldedSetIterable iter X.env x = pure x := by intro _; rfl) : F1 X C z (.For tg iter body [] pos) Q := by
  have pg : PG X tg (fun v σ H R => ∃ z1 d Qg, FG X C vs z1 tg d Qg ∧ tWG C vs z1 d Qg v σ H R) := ⟨fun pins s σ H v u R I r ⟨z1, d, Qg, f, w⟩ => f.run pins s σ H v u R I r w⟩
  have pb : PSs X body (fun D σ H => ∃ z1 Qb, FS X C z1 body Qb ∧ tWS C z1 Qb D σ H) := ⟨fun pins s σ H D I ⟨z1, Qb, f, w⟩ => f.run pins s σ H D I w⟩
  refine ps_con (ps_for hp hc hi pg pb hs) ?_
  rintro D σ H ⟨F, S, q⟩
  refine ⟨F, S, fun J ds z1 H1 F1 ⟨I, I0, turn, fin⟩ S1 s1 itok => ?_⟩
  refine ⟨fun i m σ2 H2 => m = ds.length - i ∧ i ≤ ds.length ∧ ∃ z2 F2, I i z2 ∧ Sim C z2 σ2 H2 F2 ∧ Sub F1 F2, ⟨ds.length, by simp, Nat.zero_le _, z1, F1, I0, S1, Sub.refl _⟩, ?_⟩
  rintro i m σ2 H2 ⟨rfl, hi2, z2, F2, hI, S2, s2⟩
  by_cases hlt : i < ds.length
  · refine .inr ⟨itok.go i H2 (s2.trans S2.sub) hlt, fun σ3 H3 => i + 1 ≤ ds.length ∧ ∃ z2 F2, I (i + 1) z2 ∧ Sim C z2 σ3 H3 F2 ∧ Sub F1 F2, fun σ3 H3 ⟨h1, h2⟩ => ⟨ds.length - (i + 1), by omega, rfl, h1, h2⟩, fun x H3 y => ?_⟩
    obtain ⟨d, F3, ed, gr, rd⟩ := itok.yld i H2 F2 x H3 s2 S2.sub y hlt
    refine ⟨z2, d, _, turn i d z2 ed hI, F3, S2.grow gr, rd, fun z3 σ3 f3 S3 _ => ?_⟩
    refine ⟨z3, _, f3, F3, S3, fun o z4 σ4 H4 F4 q4 S4 s4 => ?_⟩
    cases o with
    | nx => exact ⟨hlt, z4, F4, q4, S4, (s2.trans gr.f).trans s4⟩
    | ct => exact ⟨hlt, z4, F4, q4, S4, (s2.trans gr.f).trans s4⟩
    | bk => exact q .nx z4 σ4 H4 F4 q4 S4 (((s1.trans s2).trans gr.f).trans s4)
    | rt d => exact q (.rt d) z4 σ4 H4 F4 q4 S4 (((s1.trans s2).trans gr.f).trans s4)
  · have e : i = ds.length := by omega
    subst e
    exact .inl ⟨itok.stop H2 (s2.trans S2.sub), q .nx z2 σ2 H2 F2 (fin z2 hI) S2 (s1.trans s2)⟩
theorem f1_while (I : Nat → Zs → Prop) (hp : PassesOwn (model X.prog X.w) X.A X.env X.xe) (n0 : Nat) (h0 : I n0 z)
    (turn : ∀ n z2, I n z2 → FT X C z2 c fun k z3 => (k = true → FS X C z3 body fun o z4 => match o with
        | .nx => ∃ m, m < n ∧ I m z4
        | .ct => ∃ m, m < n ∧ I m z4
        | .bk => Q .nx z4
        | .rt d => Q (.rt d) z4) ∧ (k = false → Q .nx z3)) : F1 X C z (.While c body [] pos) Q := by
  have pc : PT X c (fun σ H R => ∃ z1 Qc, FT X C z1 c Qc ∧ tWT C z1 Qc σ H R) := ⟨fun pins s σ H R I ⟨z1, Qc, f, w⟩ => f.run pins s σ H R I w⟩
  have pb : PSs X body (fun D σ H => ∃ z1 Qb, FS X C z1 body Qb ∧ tWS C z1 Qb D σ H) := ⟨fun pins s σ H D I ⟨z1, Qb, f, w⟩ => f.run pins s σ H D I w⟩
  refine ps_con (ps_while hp pc pb) ?_
  rintro D σ H ⟨F, S, q⟩
  refine ⟨fun m σ2 H2 => ∃ z2 F2, I m z2 ∧ Sim C z2 σ2 H2 F2 ∧ Sub F F2, ⟨n0, z, F, h0, S, Sub.refl _⟩, ?_⟩
  rintro m σ2 H2 ⟨z2, F2, hI, S2, s2⟩
  refine ⟨z2, _, turn m z2 hI, F2, S2, fun k z3 H3 F3 ⟨q1, q2⟩ S3 s3 => ?_⟩
  cases k with
  | true =>
    rw [if_pos rfl]
    refine ⟨fun σ3 H3 => ∃ m', m' < m ∧ ∃ z2 F2, I m' z2 ∧ Sim C z2 σ3 H3 F2 ∧ Sub F F2, fun σ3 H3 h => h, z3, _, q1 rfl, F3, S3, fun o z4 σ4 H4 F4 q4 S4 s4 => ?_⟩
    cases o with
    | nx =>
      obtain ⟨m', hm, hI'⟩ := q4
      exact ⟨m', hm, z4, F4, hI', S4, (s2.trans s3).trans s4⟩
    | ct =>
      obtain ⟨m', hm, hI'⟩ := q4
      exact ⟨m', hm, z4, F4, hI', S4, (s2.trans s3).trans s4⟩
    | bk => exact q .nx z4 σ4 H4 F4 q4 S4 ((s2.trans s3).trans s4)
    | rt d => exact q (.rt d) z4 σ4 H4 F4 q4 S4 ((s2.trans s3).trans s4)
  | false =>
    rw [if_neg Bool.false_ne_true]
    exact q .nx z3 σ2 H3 F3 (q2 rfl) S3 (s2.trans s3)
end

/-! ### a def keeps its promise -/
theorem ok_defC {P : Program} {w : World} {K : PySem.W.Frag} {mg : Str → Option Value} {base : Heap} {x qual : Str} {st : Stmt} {f : Addr} {fd : FuncData} {N ps : List Str} {k : Nat} {W : WF} (F : Fun K x qual st f fd) (S : FnScope N ps (defScope st))
    (len : ∀ ds π q, W ds π q → ds.length = ps.length)
    (hbody : ∀ (cdv : Value) (A : Around) (outer : List Env) (s : Shared) (H : Hp) (E : XK) (ds : List DV) (π : Pot) (q : DV → Pot → Prop) (C : Ct), fd.code = cdv → Room k (A.deeper (envOfC qual (defScope st) s.heap.objs.size f cdv)) → C.K = K → W ds π q →
      FS (cxOf CX0 P w K mg base N qual (defScope st) f cdv A outer s H E).nox C ⟨ds.map Sl.v ++ List.replicate (N.length - ds.length) .un, π⟩ (defBody st) fun o z' => match o with
        | .rt d => q d z'.p
        | .nx => q (.d .none) z'.p
        | _ => False) : FnOk P w K mg base CX0 (k + 1) f fd ps (SpD K W) := by
  have plen : ∀ {K : PySem.W.Frag} {P : Option Addr} {F : Hp} {vs : List V} {ds : List DV}, Paired (RV K P F) vs ds → vs.length = ds.length := fun h => Paired.length h
  obtain ⟨coc, cod, ckV, cdoc, cpm, can, cdv, cct, cosl, ecode, clk, chd⟩ := F.ex
  have ecd : fd.code = cdv := by rw [ecode]
  subst ecode
  refine fn_of clk chd S (fun vs H Q E h => ?_) fun A outer s H vs Q E hr h => ?_
  · obtain ⟨P, F, π, ds, q, hw, _, hp, _⟩ := h
    rw [plen hp]; exact len ds π q hw
  · obtain ⟨Pt, F0, π, ds, q, hw, sF, hp, po, tb, fin⟩ := h
    have hold : ∃ hold : Hp, (∀ a o, hold a = some o → H a = some o) ∧ (∀ a, Pt = some a → hold a = none) ∧ (∀ a o, H a = some o → Pt ≠ some a → (∀ ps, o ≠ .tbl ps) → hold a = some o) ∧ (∀ a ps, hold a ≠ some (.tbl ps)) ∧ (∀ a ps, H a = some (.tbl ps) → hold a = none) := by
      classical
      refine ⟨fun a => if Pt = some a ∨ ∃ ps, H a = some (.tbl ps) then none else H a, fun a o e => ?_, fun a e => ?_, fun a o e ne nt => ?_, fun a ps e => ?_, fun a ps e => if_pos (.inr ⟨ps, e⟩)⟩
      · dsimp only at e
        split at e
        · cases e
        · exact e
      · dsimp only; rw [if_pos (.inl e)]
      · dsimp only; rw [if_neg (fun q => Or.elim q ne fun ⟨ps, z⟩ => nt ps (by rw [e] at z; exact Option.some.inj z))]; exact e
      · dsimp only at e
        split at e
        · cases e
        · rename_i n; exact n (.inr ⟨ps, e⟩)
    obtain ⟨hold, hh1, hh2, hh3, hh4, hh6⟩ := hold
    have hh5 : ∀ p ∈ tabs, hold p.1 = none := fun p hp => by
      obtain ⟨ps, t1, _⟩ := (tb.t p hp).1
      exact hh6 p.1 ps t1
    have hb := hbody cdv A outer s H E ds π q ⟨K, Pt, hold, F0⟩ ecd hr rfl hw
    refine ⟨_, hb.nox, F0, ?_, ?_⟩
    · refine ⟨sF, Sub.refl _, hh1, fun a o e => .inl e, fun i sl e => ?_, fun i j xs ys a _ e1 => ?_, fun p e => ⟨(po p e).1, (po p e).2, hh2 p e⟩, ?_, fun p e => ⟨(tb.t p e).1, (tb.t p e).2, hh5 p e⟩, tb.f, hh4⟩
      · have e : (ds.map Sl.v ++ List.replicate (N.length - ds.length) Sl.un)[i]? = some sl := e
        by_cases hi : i < ds.length
        · rw [List.getElem?_append_left (by rw [List.length_map]; exact hi), List.getElem?_map, List.getElem?_eq_getElem hi] at e
          cases e
          have hvi : i < vs.length := by rw [plen hp]; exact hi
          have r : RV K Pt F0 vs[i] ds[i] := by
            have all : ∀ {vs : List V} {ds : List DV}, Paired (RV K Pt F0) vs ds → ∀ (i : Nat) (h1 : i < vs.length) (h2 : i < ds.length), RV K Pt F0 vs[i] ds[i] := by
              intro vs ds h
              induction h with
              | nil => intro i h1; simp at h1
              | cons r t ih =>
                intro i h1 h2
                cases i with
                | zero => exact r
                | succ i => exact ih i (by simpa using h1) (by simpa using h2)
            exact all hp i hvi hi
          refine ⟨vs[i], ?_, r⟩
          unfold L2.start
          rw [List.getElem?_append_left (by rw [List.length_map]; exact hvi), List.getElem?_map, List.getElem?_eq_getElem hvi]
          rfl
        · rw [List.getElem?_append_right (by rw [List.length_map]; omega), List.getElem?_replicate] at e
          split at e
          · cases e; trivial
          · cases e
      · have e1 : (ds.map Sl.v ++ List.replicate (N.length - ds.length) Sl.un)[i]? = some (.ow xs) := e1
        have := List.mem_of_getElem? e1
        rcases List.mem_append.mp this with m | m
        · obtain ⟨y, _, ey⟩ := List.mem_map.mp m
          cases ey
        · have := List.eq_of_mem_replicate m
          cases this
      · show (ds.map Sl.v ++ List.replicate (N.length - ds.length) Sl.un).length = (L2.start N vs).length
        unfold L2.start
        simp only [List.length_append, List.length_map, List.length_replicate, plen hp]
    · intro o z' σ' H' F' qo S' s'
      have keep : ∀ a o, H a = some o → Pt ≠ some a → (∀ ps, o ≠ .tbl ps) → H' a = some o := fun a o e ne nt => S'.keep a o (hh3 a o e ne nt)
      have fresh : ∀ a o, F' a = some o → F0 a = some o ∨ H a = none ∨ ∃ ps, H a = some (.tbl ps) := fun a o e => by
        rcases S'.fresh a o e with g | g
        · exact .inl g
        · rcases none_or (H := H) (a := a) with g2 | ⟨u, g2⟩
          · exact .inr (.inl g2)
          · by_cases ne : Pt = some a
            · have := (S'.pot a ne).2.1
              rw [e] at this; cases this
            · by_cases nt : ∃ ps, u = .tbl ps
              · obtain ⟨ps, ep⟩ := nt
                exact .inr (.inr ⟨ps, by rw [← ep]; exact g2⟩)
              have := hh3 a u g2 ne (fun ps q => nt ⟨ps, q⟩)
              have g : hold a = none := g
              rw [this] at g; cases g
      have pot : PotOk Pt z'.p H' F' := fun p e => ⟨(S'.pot p e).1, (S'.pot p e).2.1⟩
      have tb' : TabOk H' F' := ⟨fun p e => ⟨(S'.tab p e).1, (S'.tab p e).2.1⟩, S'.ft⟩
      cases o with
      | nx => exact fin .non (.d .none) z'.p H' F' qo s' S'.sub keep fresh pot tb' .non
      | rt d => exact fun v r => fin v d z'.p H' F' qo s' S'.sub keep fresh pot tb' r
      | bk => exact qo.elim
      | ct => exact qo.elim
theorem ok_def {P : Program} {w : World} {K : PySem.W.Frag} {mg : Str → Option Value} {base : Heap} {x qual : Str} {st : Stmt} {f : Addr} {fd : FuncData} {N ps : List Str} {k : Nat} {W : WF} (F : Fun K x qual st f fd) (S : FnScope N ps (defScope st))
    (len : ∀ ds π q, W ds π q → ds.length = ps.length)
    (hbody : ∀ (cdv : Value) (A : Around) (outer : List Env) (s : Shared) (H : Hp) (E : XK) (ds : List DV) (π : Pot) (q : DV → Pot → Prop) (C : Ct), Room k (A.deeper (envOfC qual (defScope st) s.heap.objs.size f cdv)) → C.K = K → W ds π q →
      FS (cxOf CX0 P w K mg base N qual (defScope st) f cdv A outer s H E).nox C ⟨ds.map Sl.v ++ List.replicate (N.length - ds.length) .un, π⟩ (defBody st) fun o z' => match o with
        | .rt d => q d z'.p
        | .nx => q (.d .none) z'.p
        | _ => False) : FnOk P w K mg base CX0 (k + 1) f fd ps (SpD K W) := ok_defC F S len fun cdv A outer s H E ds π q C _ hr hK h => hbody cdv A outer s H E ds π q C hr hK h
end DL

set_option Elab.async false
set_option linter.all false
set_option maxRecDepth 100000
set_option maxHeartbeats 4000000
set_option autoImplicit false
namespace DL
open PySem PySem.Spec PyProof.Rows L2
section
variable {X : Cx} {C : Ct} {z : Zs} {e a b c : Expr} {es : List Expr} {pos p : Pos}
theorem fp_chain {op op' : CmpOp} {r r' : R2} {x y w : PyData} {k1 k2 : Bool} (ho : OpR X (compareOp op) r) (ho' : OpR X (compareOp op') r') (ha : FP X C z a x) (hb : FP X C z b y) (hc : k1 = true → FP X C z c w)
    (g : ∀ k : DV → Prop, k (.d (.bool k1)) → G2 C r (.d x) (.d y) k) (g' : k1 = true → ∀ k : DV → Prop, k (.d (.bool k2)) → G2 C r' (.d y) (.d w) k) (hm : lastMarks [op, op'] [b, c] = false) :
    FP X C z (.Compare a [op, op'] [b, c] pos) (.bool (k1 && k2)) := by
  have pc : PE X c (fun σ H R => k1 = true ∧ tW C z (fun d' z' => d' = .d w ∧ z' = z) σ H R) := ⟨fun pins s σ H R I ⟨h, q⟩ => (hc h).run pins s σ H R I q⟩
  refine pe_con (pe_chain ho ho' ha hb pc hm) ?_
  rintro σ H R ⟨F, S, k⟩
  refine ⟨F, S, fun v d z' H1 F1 ⟨e1, e2⟩ S1 s1 r1 => ?_⟩
  subst e1 e2
  refine ⟨F1, S1, fun u d2 z2 H2 F2 ⟨e1, e2⟩ S2 s2 r2 => ?_⟩
  subst e1 e2
  refine g (fun d => d = .d (.bool k1)) rfl F2 H2 v u _ S2.sub (r1.mono s2) r2 fun t d H3 F3 ek gr r3 => ?_
  subst ek
  refine ⟨k1, dp_bool r3, ?_⟩
  cases k1 with
  | false =>
    rw [if_neg Bool.false_ne_true]
    exact k _ _ _ H3 F3 ⟨rfl, rfl⟩ (S2.grow gr) ((s1.trans s2).trans gr.f) (.bl _)
  | true =>
    rw [if_pos rfl]
    refine ⟨rfl, F3, S2.grow gr, fun w' d3 z3 H4 F4 ⟨e1, e2⟩ S4 s4 r4 => ?_⟩
    subst e1 e2
    refine g' rfl (fun d => d = .d (.bool k2)) rfl F4 H4 u w' _ S4.sub ((r2.mono gr.f).mono s4) r4 fun t2 d4 H5 F5 ek gr2 r5 => ?_
    subst ek
    exact k t2 _ _ H5 F5 ⟨rfl, rfl⟩ (S4.grow gr2) ((((s1.trans s2).trans gr.f).trans s4).trans gr2.f) r5
theorem fp_leLe {i j k : Int} (ha : FP X C z a (.int i)) (hb : FP X C z b (.int j)) (hc : FP X C z c (.int k)) (hm : lastMarks [.LtE, .LtE] [b, c] = false := by with_unfolding_all rfl) : FP X C z (.Compare a [.LtE, .LtE] [b, c] pos) (.bool (decide (i ≤ j) && decide (j ≤ k))) :=
  fp_chain op_le op_le ha hb (fun _ => hc) (fun _ h => g2_B0 (gg := fun i j => decide (i ≤ j)) h) (fun _ _ h => g2_B0 (gg := fun i j => decide (i ≤ j)) h) hm
theorem fp_eqEq {i j k : Int} (ha : FP X C z a (.int i)) (hb : FP X C z b (.int j)) (hc : FP X C z c (.int k)) (hm : lastMarks [.Eq, .Eq] [b, c] = false := by with_unfolding_all rfl) : FP X C z (.Compare a [.Eq, .Eq] [b, c] pos) (.bool (decide (i = j) && decide (j = k))) :=
  fp_chain op_eq op_eq ha hb (fun _ => hc) (fun _ h => g2_eqI h) (fun _ _ h => g2_eqI h) hm
/-- a def of the module, with what it promises -/
def HasDef (P : Program) (w : World) (K : PySem.W.Frag) (mg : Str → Option Value) (base : Heap) (x : Str) (k : Nat) (ps : List Str) (W : WF) : Prop :=
  ∃ (f : Addr) (fd : FuncData), FnOk P w K mg base CX0 k f fd ps (SpD K W) ∧ mg x = some (.ref f) ∧ PySem.W.keepIn K (.ref f) = true ∧ Binds K fd ps []
theorem fe_def {k n : Nat} {ps : List Str} {x : Str} {W : WF} {Q : DV → Zs → Prop} (D : HasDef X.prog X.w X.K X.mg X.base x k ps W) (hr : Room n X.A) (hn : k ≤ n) (hK : C.K = X.K)
    (ha : FA X C z (a :: es) fun ds z1 => W ds z1.p fun d π' => Q d ⟨z1.r, π'⟩) (hg : Gl X x := by rfl) (hdb : (x == ("__debug__" : Str)) = false := by decide)
    (he : starEach (a :: es) X.env = (false, eval a X.env) :: starEach es X.env := by rfl) (hpl : (backTo pos (starEach es X.env)).any (·.1) = false := by rfl) : FE X C z (.Call (.Name x p) (a :: es) [] pos) Q := by
  obtain ⟨f, fd, ok, hm, hk, hb⟩ := D
  exact fe_call ok (hr.mono hn) hK hm hk hb ha hg hdb he hpl
theorem fp_def {k n : Nat} {ps : List Str} {x : Str} {W : WF} {ds : List PyData} {d : PyData} (D : HasDef X.prog X.w X.K X.mg X.base x k ps W) (hr : Room n X.A) (hn : k ≤ n) (hK : C.K = X.K)
    (ha : FPA X C z (a :: es) ds) (hw : ∀ (π : Pot) (q : DV → Pot → Prop), q (.d d) π → W (ds.map .d) π q) (hg : Gl X x := by rfl) (hdb : (x == ("__debug__" : Str)) = false := by decide)
    (he : starEach (a :: es) X.env = (false, eval a X.env) :: starEach es X.env := by rfl) (hpl : (backTo pos (starEach es X.env)).any (·.1) = false := by rfl) : FP X C z (.Call (.Name x p) (a :: es) [] pos) d := by
  obtain ⟨f, fd, ok, hm, hk, hb⟩ := D
  exact fp_call ok (hr.mono hn) hK hm hk hb ha hw hg hdb he hpl
end
/-- the statement at a place of a text's top -/
def topOf (P : Program) (i : Nat) : Stmt := P.main.body.getD i (.Pass ⟨0, 0, 0, 0⟩)
end DL

set_option Elab.async false
set_option linter.all false
set_option maxRecDepth 100000
set_option maxHeartbeats 4000000
set_option autoImplicit false
namespace DL
open PySem PySem.Spec PyProof.Rows L2

def Outside (vs : List Nat) (r r' : List Sl) : Prop := ∀ i, i ∉ vs → r'[i]? = r[i]?
theorem Outside.wipe (r : List Sl) (vs : List Nat) : Outside vs r (wipeR r vs) := fun i hi => wipeR_out r vs i hi
theorem Outside.set {vs : List Nat} {r r' : List Sl} (h : Outside vs r r') {i : Nat} (hi : i ∈ vs) (s : Sl) : Outside vs r (r'.set i s) := fun j hj => by
  rw [List.getElem?_set_ne (fun e => hj (by rw [← e]; exact hi))]
  exact h j hj
theorem wipeR_len (r : List Sl) : ∀ vs : List Nat, (wipeR r vs).length = r.length
  | [] => rfl
  | v :: vs => by
    unfold wipeR
    rw [List.length_set]
    exact wipeR_len r vs

section
variable {X : Cx} {C : Ct} {z : Zs} {elt iter : Expr} {scope : Scope} {pos pp p1 p2 p : Pos} {nm n1 n2 : Str} {kk : Nat}
theorem lcq_mono {vs : List Nat} {tg : Expr} {ifs : List Expr} {Q Q' : List PyData → Zs → Prop} (h : FI X C z tg iter (LcQ X C scope vs tg elt ifs Q)) (k : ∀ ds z', Q ds z' → Q' ds z') : FI X C z tg iter (LcQ X C scope vs tg elt ifs Q') :=
  fi_mono h fun ds z1 ⟨h1, J, h2, h3, h4⟩ => ⟨h1, J, h2, h3, fun acc p hJ => k _ _ (h4 acc p hJ)⟩
/-- [elt for nm in iter] -/
theorem lcp_mapN {α : Type} (i : Nat) (xs : List α) (enc : α → PyData) (gf : α → PyData) (hN : X.N.Nodup) (hi : FIP X C z (.Name nm pp) iter (xs.map enc)) (hlen : xs.length ≤ 100000) (hno : noOwnAt z.r [i] = true)
    (turn : ∀ x, x ∈ xs → ∀ (s : Shared) (H : Hp) (cc : Addr) (cl : List (Str × Addr)) (fp : List Addr) (C' : Ct), C'.K = C.K → C'.P = C.P → FP (blkX X scope s H cc cl fp) C' ⟨(wipeR z.r [i]).set i (sd (enc x)), z.p⟩ elt (gf x))
    (hx : X.N[i]? = some nm := by rfl) (hl : Loc (relS scope X.env.scope) nm := by first | exact .inl rfl | exact .inr rfl)
    (hf : (scope.names.lookup nm == some .cell) = true ∨ (relS scope X.env.scope).names.lookup nm = some .local := by first | exact .inr rfl | exact .inl rfl) :
    FI X C z (.Name nm pp) iter (LcQ X C scope [i] (.Name nm pp) elt [] fun ds' z' => ds' = xs.map gf ∧ z' = z) :=
  lcp_map xs enc gf hi hlen hno fun x hmem s H cc cl fp C' hk hp => fg_name i hN hx hl ⟨(Outside.wipe z.r [i]).set (by simp) _, rfl, fun s H cc cl fp => turn x hmem s H cc cl fp C' hk hp⟩ (by simp) hf
/-- [elt for nm in iter if test] -/
theorem lcp_ifN {α : Type} {test : Expr} (i : Nat) (xs : List α) (enc : α → PyData) (pf : α → Bool) (gf : α → PyData) (hN : X.N.Nodup) (hi : FIP X C z (.Name nm pp) iter (xs.map enc)) (hlen : xs.length ≤ 100000) (hno : noOwnAt z.r [i] = true)
    (turn : ∀ x, x ∈ xs → ∀ (s : Shared) (H : Hp) (cc : Addr) (cl : List (Str × Addr)) (fp : List Addr) (C' : Ct), C'.K = C.K → C'.P = C.P →
      FPT (blkX X scope s H cc cl fp) C' ⟨(wipeR z.r [i]).set i (sd (enc x)), z.p⟩ test (pf x) ∧ (pf x = true → FP (blkX X scope s H cc cl fp) C' ⟨(wipeR z.r [i]).set i (sd (enc x)), z.p⟩ elt (gf x)))
    (hx : X.N[i]? = some nm := by rfl) (hl : Loc (relS scope X.env.scope) nm := by first | exact .inl rfl | exact .inr rfl)
    (hf : (scope.names.lookup nm == some .cell) = true ∨ (relS scope X.env.scope).names.lookup nm = some .local := by first | exact .inr rfl | exact .inl rfl) :
    FI X C z (.Name nm pp) iter (LcQ X C scope [i] (.Name nm pp) elt [test] fun ds' z' => ds' = (xs.filter pf).map gf ∧ z' = z) :=
  lcp_if xs enc pf gf hi hlen hno fun x hmem s H cc cl fp C' hk hp => fg_name i hN hx hl ⟨(Outside.wipe z.r [i]).set (by simp) _, rfl, fun s H cc cl fp => turn x hmem s H cc cl fp C' hk hp⟩ (by simp) hf
/-- [elt for n1, n2 in iter] -/
theorem lcp_mapT {α : Type} (i j : Nat) (xs : List α) (e1 e2 : α → PyData) (gf : α → PyData) (hc : X.calm = true) (hK : C.K = X.K) (hN : X.N.Nodup) (hi : FIP X C z (.Tuple [.Name n1 p1, .Name n2 p2] kk pp) iter (xs.map fun x => .tuple [e1 x, e2 x])) (hlen : xs.length ≤ 100000) (hno : noOwnAt z.r [i, j] = true)
    (turn : ∀ x, x ∈ xs → ∀ (s : Shared) (H : Hp) (cc : Addr) (cl : List (Str × Addr)) (fp : List Addr) (C' : Ct), C'.K = C.K → C'.P = C.P → FP (blkX X scope s H cc cl fp) C' ⟨((wipeR z.r [i, j]).set i (sd (e1 x))).set j (sd (e2 x)), z.p⟩ elt (gf x))
    (hx : X.N[i]? = some n1 := by rfl) (hl : Loc (relS scope X.env.scope) n1 := by first | exact .inl rfl | exact .inr rfl)
    (hf : (scope.names.lookup n1 == some .cell) = true ∨ (relS scope X.env.scope).names.lookup n1 = some .local := by first | exact .inr rfl | exact .inl rfl)
    (hx2 : X.N[j]? = some n2 := by rfl) (hl2 : Loc (relS scope X.env.scope) n2 := by first | exact .inl rfl | exact .inr rfl)
    (hf2 : (scope.names.lookup n2 == some .cell) = true ∨ (relS scope X.env.scope).names.lookup n2 = some .local := by first | exact .inr rfl | exact .inl rfl) :
    FI X C z (.Tuple [.Name n1 p1, .Name n2 p2] kk pp) iter (LcQ X C scope [i, j] (.Tuple [.Name n1 p1, .Name n2 p2] kk pp) elt [] fun ds' z' => ds' = xs.map gf ∧ z' = z) :=
  lcp_map xs (fun x => .tuple [e1 x, e2 x]) gf hi hlen hno fun x hmem s H cc cl fp C' hk hp => fg_tup hc (hk.trans hK) (fgs_cons (fg_name i hN hx hl (fgs_cons (fg_name j hN hx2 hl2 (fgs_nil ⟨((Outside.wipe z.r [i, j]).set (by simp) _).set (by simp) _, rfl, fun s H cc cl fp => turn x hmem s H cc cl fp C' hk hp⟩) (by simp) hf2)) (by simp) hf)) rfl rfl
theorem lcp_ifT {α : Type} {test : Expr} (i j : Nat) (xs : List α) (e1 e2 : α → PyData) (pf : α → Bool) (gf : α → PyData) (hc : X.calm = true) (hK : C.K = X.K) (hN : X.N.Nodup) (hi : FIP X C z (.Tuple [.Name n1 p1, .Name n2 p2] kk pp) iter (xs.map fun x => .tuple [e1 x, e2 x])) (hlen : xs.length ≤ 100000) (hno : noOwnAt z.r [i, j] = true)
    (turn : ∀ x, x ∈ xs → ∀ (s : Shared) (H : Hp) (cc : Addr) (cl : List (Str × Addr)) (fp : List Addr) (C' : Ct), C'.K = C.K → C'.P = C.P →
      FPT (blkX X scope s H cc cl fp) C' ⟨((wipeR z.r [i, j]).set i (sd (e1 x))).set j (sd (e2 x)), z.p⟩ test (pf x) ∧ (pf x = true → FP (blkX X scope s H cc cl fp) C' ⟨((wipeR z.r [i, j]).set i (sd (e1 x))).set j (sd (e2 x)), z.p⟩ elt (gf x)))
    (hx : X.N[i]? = some n1 := by rfl) (hl : Loc (relS scope X.env.scope) n1 := by first | exact .inl rfl | exact .inr rfl)
    (hf : (scope.names.lookup n1 == some .cell) = true ∨ (relS scope X.env.scope).names.lookup n1 = some .local := by first | exact .inr rfl | exact .inl rfl)
    (hx2 : X.N[j]? = some n2 := by rfl) (hl2 : Loc (relS scope X.env.scope) n2 := by first | exact .inl rfl | exact .inr rfl)
    (hf2 : (scope.names.lookup n2 == some .cell) = true ∨ (relS scope X.env.scope).names.lookup n2 = some .local := by first | exact .inr rfl | exact .inl rfl) :
    FI X C z (.Tuple [.Name n1 p1, .Name n2 p2] kk pp) iter (LcQ X C scope [i, j] (.Tuple [.Name n1 p1, .Name n2 p2] kk pp) elt [test] fun ds' z' => ds' = (xs.filter pf).map gf ∧ z' = z) :=
  lcp_if xs (fun x => .tuple [e1 x, e2 x]) pf gf hi hlen hno fun x hmem s H cc cl fp C' hk hp => fg_tup hc (hk.trans hK) (fgs_cons (fg_name i hN hx hl (fgs_cons (fg_name j hN hx2 hl2 (fgs_nil ⟨((Outside.wipe z.r [i, j]).set (by simp) _).set (by simp) _, rfl, fun s H cc cl fp => turn x hmem s H cc cl fp C' hk hp⟩) (by simp) hf2)) (by simp) hf)) rfl rfl
/-- a comprehension as a value, a new list, or kept at a name -/
theorem flp_of {own : List (Str × Nat)} {tg : Expr} {ifs : List Expr} {ds : List PyData} (hc : X.calm = true) (hN : X.N.Nodup) (ok : BlkOk X.N X.env.scope scope own)
    (hi : FI X C z tg iter (LcQ X C scope (own.map (·.2)) tg elt ifs fun ds' z' => ds' = ds ∧ z' = z)) (hs : ∀ x, foldedSetIterable iter X.env x = pure x := by intro _; rfl) : FLP X C z (.ListComp elt [⟨tg, iter, ifs, 0⟩] scope pos) ds := fl_lc hc hN ok hi hs
theorem fp_of {own : List (Str × Nat)} {tg : Expr} {ifs : List Expr} {ds : List PyData} (hc : X.calm = true) (hN : X.N.Nodup) (ok : BlkOk X.N X.env.scope scope own)
    (hi : FI X C z tg iter (LcQ X C scope (own.map (·.2)) tg elt ifs fun ds' z' => ds' = ds ∧ z' = z)) (hs : ∀ x, foldedSetIterable iter X.env x = pure x := by intro _; rfl) : FP X C z (.ListComp elt [⟨tg, iter, ifs, 0⟩] scope pos) (.list ds) := fp_fl (flp_of hc hN ok hi hs)
theorem f1_setLcP {x : Str} {own : List (Str × Nat)} {tg : Expr} {ifs : List Expr} {lp px : Pos} {ds : List PyData} {Q : Out → Zs → Prop} (i : Nat) (hc : X.calm = true) (hN : X.N.Nodup) (ok : BlkOk X.N X.env.scope scope own)
    (hi : FI X C z tg iter (LcQ X C scope (own.map (·.2)) tg elt ifs fun ds' z' => ds' = ds ∧ z' = z)) (k : Q .nx ⟨z.r.set i (sd (.list ds)), z.p⟩)
    (hx : X.N[i]? = some x := by rfl) (hy : X.env.scope.names.lookup x = some .local := by rfl)
    (hsw : swapsWith (.ListComp elt [⟨tg, iter, ifs, 0⟩] scope lp) (some (.Name x px)) pos.line X.env = pure true := by exact sw_true rfl rfl rfl (by decide +kernel))
    (hs : ∀ x, foldedSetIterable iter X.env x = pure x := by intro _; rfl) : F1 X C z (.Assign [.Name x px] (.ListComp elt [⟨tg, iter, ifs, 0⟩] scope lp) pos) Q :=
  f1_setLc i hc hN ok (lcq_mono hi fun ds' z' ⟨e1, e2⟩ => by
    subst e1 e2
    exact k) hx hy hsw hs
end

/-! ### zip -/
theorem itzT_ok {C : Ct} {F : Hp} {a b : Addr} {vs ws : List V} {ds es : List PyData} (h1 : SqT C.K F a vs) (h2 : SqT C.K F b ws) (r1 : DpAll C.K F vs ds) (r2 : DpAll C.K F ws es) : ItOk C (RZ.ItzT C.K a b) F ((ds.zip es).map fun q => .tuple [q.1, q.2]) where
  go := fun i H s hi => by
    rw [List.length_map, List.length_zip] at hi
    have l1 := dpAll_len r1
    have l2 := dpAll_len r2
    exact ⟨vs, ws, vs[i]'(by omega), ws[i]'(by omega), s.st h1, s.st h2, List.getElem?_eq_getElem _, List.getElem?_eq_getElem _⟩
  stop := fun H s => by
    refine ⟨vs, ws, s.st h1, s.st h2, ?_⟩
    rw [List.length_map, List.length_zip, dpAll_len r1, dpAll_len r2]
    omega
  yld := fun i H F' x H' s1 s2 y hi => by
    obtain ⟨T, v, u, ex, hT, eH, f1, f2⟩ := y
    subst ex eH
    obtain ⟨d, ed, rd⟩ := dpAll_at r1 (f1 vs ((s1.trans s2).st h1))
    obtain ⟨d2, ed2, rd2⟩ := dpAll_at r2 (f2 ws ((s1.trans s2).st h2))
    have g : Grow H F' (upd H T (.tup [v, u])) (upd F' T (.tup [v, u])) := Grow.new s2 hT
    refine ⟨.tuple [d, d2], _, ?_, g, .tup (SqT.of upd_same) (.cons (dp_mono (s1.trans g.f) _ _ rd) (.cons (dp_mono (s1.trans g.f) _ _ rd2) .nil))⟩
    rw [List.getElem?_map]
    have : (ds.zip es)[i]? = some (d, d2) := by rw [List.getElem?_zip_eq_some]; exact ⟨ed, ed2⟩
    rw [this]; rfl
theorem itzL_ok {C : Ct} {F : Hp} {a b : Addr} {vs ws : List V} {ds es : List PyData} (h1 : SqL C.K F a vs) (h2 : SqL C.K F b ws) (r1 : DpAll C.K F vs ds) (r2 : DpAll C.K F ws es) : ItOk C (Itz C.K a b) F ((ds.zip es).map fun q => .tuple [q.1, q.2]) where
  go := fun i H s hi => by
    rw [List.length_map, List.length_zip] at hi
    have l1 := dpAll_len r1
    have l2 := dpAll_len r2
    exact ⟨vs, ws, vs[i]'(by omega), ws[i]'(by omega), s.sl h1, s.sl h2, List.getElem?_eq_getElem _, List.getElem?_eq_getElem _⟩
  stop := fun H s => by
    refine ⟨vs, ws, s.sl h1, s.sl h2, ?_⟩
    rw [List.length_map, List.length_zip, dpAll_len r1, dpAll_len r2]
    omega
  yld := fun i H F' x H' s1 s2 y hi => by
    obtain ⟨T, v, u, ex, hT, eH, f1, f2⟩ := y
    subst ex eH
    obtain ⟨d, ed, rd⟩ := dpAll_at r1 (f1 vs ((s1.trans s2).sl h1))
    obtain ⟨d2, ed2, rd2⟩ := dpAll_at r2 (f2 ws ((s1.trans s2).sl h2))
    have g : Grow H F' (upd H T (.tup [v, u])) (upd F' T (.tup [v, u])) := Grow.new s2 hT
    refine ⟨.tuple [d, d2], _, ?_, g, .tup (SqT.of upd_same) (.cons (dp_mono (s1.trans g.f) _ _ rd) (.cons (dp_mono (s1.trans g.f) _ _ rd2) .nil))⟩
    rw [List.getElem?_map]
    have : (ds.zip es)[i]? = some (d, d2) := by rw [List.getElem?_zip_eq_some]; exact ⟨ed, ed2⟩
    rw [this]; rfl
section
variable {X : Cx} {C : Ct} {z : Zs} {a b : Expr} {pos p tpos : Pos} {kk : Nat} {elts : List Expr}
theorem fip_zipT {ds es : List PyData} (hK : C.K = X.K) (hm : X.mg "zip" = none) (ha : FP X C z a (.tuple ds)) (hb : FP X C z b (.tuple es)) (hg : Gl X "zip" := by rfl) (hs : starEach [a, b] X.env = (false, eval a X.env) :: starEach [b] X.env := by rfl) (hs2 : starEach [b] X.env = (false, eval b X.env) :: starEach [] X.env := by rfl)
    (hpl : (backTo pos (starEach [b] X.env)).any (·.1) = false := by rfl) : FIP X C z (.Tuple elts kk tpos) (.Call (.Name "zip" p) [a, b] [] pos) ((ds.zip es).map fun q => .tuple [q.1, q.2]) := by
  refine pi_con (RZ.pi_zipA hg hm (arg2 ha hb hs hs2) hs hpl) ?_
  rintro σ H R ⟨F, S, k⟩
  refine ⟨F, S, fun vs ds' z1 H1 F1 ⟨e1, e2⟩ S1 s1 r => ?_⟩
  subst e1 e2
  obtain ⟨v, u, ev, r1, r2⟩ := paired2 r
  obtain ⟨q, ws, e1, h1, d1⟩ := dp_tuple r1
  obtain ⟨q2, ws2, e2, h2, d2⟩ := dp_tuple r2
  subst ev e1 e2
  rw [← hK]
  exact ⟨q, q2, ws, ws2, rfl, .inr ⟨S1.sub.st h1, S1.sub.st h2, k _ _ z1 H1 F1 ⟨rfl, rfl⟩ S1 s1 (itzT_ok h1 h2 d1 d2)⟩⟩
theorem fip_zipL {ds es : List PyData} (hK : C.K = X.K) (hm : X.mg "zip" = none) (ha : FP X C z a (.list ds)) (hb : FP X C z b (.list es)) (hg : Gl X "zip" := by rfl) (hs : starEach [a, b] X.env = (false, eval a X.env) :: starEach [b] X.env := by rfl) (hs2 : starEach [b] X.env = (false, eval b X.env) :: starEach [] X.env := by rfl)
    (hpl : (backTo pos (starEach [b] X.env)).any (·.1) = false := by rfl) : FIP X C z (.Tuple elts kk tpos) (.Call (.Name "zip" p) [a, b] [] pos) ((ds.zip es).map fun q => .tuple [q.1, q.2]) := by
  refine pi_con (RZ.pi_zipA hg hm (arg2 ha hb hs hs2) hs hpl) ?_
  rintro σ H R ⟨F, S, k⟩
  refine ⟨F, S, fun vs ds' z1 H1 F1 ⟨e1, e2⟩ S1 s1 r => ?_⟩
  subst e1 e2
  obtain ⟨v, u, ev, r1, r2⟩ := paired2 r
  obtain ⟨q, ws, e1, h1, d1⟩ := dp_list r1
  obtain ⟨q2, ws2, e2, h2, d2⟩ := dp_list r2
  subst ev e1 e2
  rw [← hK]
  exact ⟨q, q2, ws, ws2, rfl, .inl ⟨S1.sub.sl h1, S1.sub.sl h2, k _ _ z1 H1 F1 ⟨rfl, rfl⟩ S1 s1 (itzL_ok h1 h2 d1 d2)⟩⟩
end
end DL

set_option Elab.async false
set_option linter.all false
set_option maxRecDepth 100000
set_option maxHeartbeats 4000000
set_option autoImplicit false
namespace DL
open PySem PySem.Spec PyProof.Rows L2

/-! ### a set of a list of ints -/
abbrev freshSet (w : World) : Obj := { cls := .type "set", dict := none, data := .set #[] 0 (.fresh 0 0 (!w.params.followText "set-order")) }
set_option maxHeartbeats 8000000 in
theorem set_of_list {P : Program} {w : World} {A : Around} {E : Value → Shared → Prop} {s : Shared} {l : Addr} {items : Array Value} (ns : List Int) {Q : Value → Shared → Prop} (hh : A.handled = none) (hl : s.heap.IsList l items)
    (hit : IntsAre items.toList ns) (hb : ns.length + 1 < scanBound)
    (fin : ∀ (h' : Heap) (tk c : Nat), SetR w h' s.heap.objs.size (fun j => decide (j ∈ ns)) c → c ≤ ns.length → (∀ b o, s.heap.get? b = some o → h'.get? b = some o) → Q (.ref s.heap.objs.size) { s with heap := h', toks := tk }) :
    wpAny (model P w) A (call (.type "set") [.ref l]) Q E s := by
  have many : items.size = ns.length := by rw [← Array.length_toList]; exact IntsAre.length hit
  obtain ⟨cMro, tlMro, isMro⟩ := F.called_set.mro
  have isMade := F.called_set.made
  have isSub := F.called_set.sub
  refine wpAny_call (codeAny_of_tree ?_)
  show wpAny _ _ (callAny (.type "set") _) _ _ _
  refine wpAny_pure ⟨Code.quiet_builtin _ (by decide +kernel), codeAny_builtin F.entry_type_call ?_⟩
  rw [Around.under_plain (weight_type_call_type "set" [.ref l] []) rfl]
  have notTy := F.called_set.notType
  have canMk := F.called_set.canCreate
  have tyCall := F.typeCall_set_1 (.ref l)
  repeat (any_goals (first | assumption | wp_step))
  generalize hs1 : ({ s with heap := s.heap.push (freshSet w) } : Shared) = s1
  refine codeAny_mono (code_set_led1 (.ref l) (E := E) (Q₁ := fun obj sx => obj = .ref s.heap.objs.size ∧ sx = s1) ⟨rfl, hs1⟩) fun r sx hr => ?_
  cases r with
  | error e => exact hr
  | ok fl =>
    cases fl with
    | next => exact hr.elim
    | brk => exact hr.elim
    | cont => exact hr.elim
    | ret obj =>
      obtain ⟨rfl, rfl⟩ := hr
      subst hs1
      have atS : (s.heap.push (freshSet w)).get? s.heap.objs.size = some (freshSet w) := Heap.get?_push_size _ rfl
      have tyS : Shared.TypeIs { s with heap := s.heap.push (freshSet w) } (.ref s.heap.objs.size) "set" := ⟨_, atS, rfl⟩
      have lkInit := F.called_set.init.lookup
      have bdInit := F.called_set.init.bind (.ref s.heap.objs.size)
      repeat (any_goals (first | assumption | wp_step))
      let goal : Value → Shared → Prop := fun r t => r = .none ∧ ∃ h' tk c, t = { s with heap := h', toks := tk } ∧ SetR w h' s.heap.objs.size (fun j => decide (j ∈ ns)) c ∧ c ≤ ns.length ∧ ∀ b o, s.heap.get? b = some o → h'.get? b = some o
      refine codeAny_mono (codeAny_call_builtin (R := wants goal E) F.called_set.init.plain F.entry_set_init (check_set_init_1 tyS ?_)) fun r2 s2 hr2 => ?_
      · obtain ⟨ol, hol, hcl, nl, hdl⟩ := hl
        obtain ⟨oc, od, odt, osl⟩ := ol
        simp only at hcl hdl
        subst hcl hdl
        have atL : (s.heap.push (freshSet w)).get? l = some ⟨.type "list", od, .seq items nl, osl⟩ := Heap.get?_push_of_some _ hol
        have sub1 := F.sub_list_set
        have sub2 := F.sub_list_frozenset
        have noDict : (Value.type "list" == Value.type "dict") = false := by decide
        have isL : (s.heap.push (freshSet w)).IsList l items := ⟨_, atL, rfl, nl, rfl⟩
        unfold Builtin.«set.__init__» noKeywords Builtin.Frozenset.updateFrom
        generalize hPI : pyIter = PI
        wp_walk
        subst hPI
        refine wpAny_pyIter_list isL (wpAny_bind (wpAny_runValue ?_))
        have ltL : l < s.heap.objs.size := Heap.lt_size hol
        have quiet : A.in1.in1.in1.handled = none := by simp [hh]
        have neI : l ≠ (s.heap.push (freshSet w)).objs.size := by
          rw [Heap.size_push]; exact Nat.ne_of_lt (Nat.lt_succ_of_lt ltL)
        have outS : s.heap.objs.size ∉ [(s.heap.push (freshSet w)).objs.size, l] := by
          rw [Heap.size_push]
          intro z
          rcases List.mem_cons.mp z with z | z
          · exact absurd z (Nat.ne_of_lt (Nat.lt_succ_self _))
          · exact absurd (List.mem_singleton.mp z) (Nat.ne_of_gt ltL)
        have vals : ∀ (i : Nat) (v : Value), items[i]? = some v → ∃ k t, ns[i]? = some k ∧ v = .int k t := fun i v hv => by
          have hi : i < ns.length := by rw [← many]; exact (Array.getElem?_eq_some_iff.mp hv).1
          obtain ⟨t, e⟩ := PyProof.Rows.IntsAre.int_at hit i v (by rw [Array.getElem?_toList]; exact hv)
          refine ⟨ns[i], t, List.getElem?_eq_getElem hi, ?_⟩
          rw [e, List.getD_eq_getElem?_getD, List.getElem?_eq_getElem hi] <;> rfl
        have W := (Walks.list (prog := P) (w := w) quiet (s.heap.push (freshSet w)).objs.size l neI items).toS
        refine set_update_ints W s.heap.objs.size outS ns many hb vals (items.size - 0) 0 _ (by omega) (Nat.zero_le _) ⟨⟨_, Heap.get?_push_size _ rfl, rfl, rfl⟩, isL.push _⟩ ⟨0, Nat.le_refl 0, setR_new_at (Heap.get?_push_of_some _ atS)⟩ ?_
        intro t c mv hc R
        obtain ⟨h2, g2, d2, tk2, os2⟩ := t
        have eg : g2 = s.gens := mv.gens
        have ed : d2 = s.drawn := mv.drawn
        have eo : os2 = s.os := mv.os
        subst eg ed eo
        show wpAny _ _ _ _ _ _
        refine wpAny_pure ?_
        show wpAny _ _ (ret Value.none) _ _ _
        rw [many] at hc
        refine wpAny_pure ⟨rfl, h2, tk2, c, rfl, R, hc, fun b o e => ?_⟩
        have lt0 : b < s.heap.objs.size := Heap.lt_size e
        refine mv.heap b o (fun z => ?_) (Heap.get?_push_of_some _ (Heap.get?_push_of_some _ e))
        rcases List.mem_cons.mp z with z | z
        · exact absurd z (Nat.ne_of_lt lt0)
        · refine absurd (List.mem_singleton.mp z) ?_
          rw [Heap.size_push]; exact Nat.ne_of_lt (Nat.lt_succ_of_lt lt0)
      · cases r2 with
        | error e => exact hr2
        | ok fl2 =>
          cases fl2 with
          | next => exact hr2.elim
          | brk => exact hr2.elim
          | cont => exact hr2.elim
          | ret r =>
            obtain ⟨rfl, h', tk, c, rfl, R, hc, hk⟩ := hr2
            repeat (any_goals (first | assumption | wp_step))
            exact fin _ _ _ R hc hk
end DL

set_option Elab.async false
set_option linter.all false
set_option maxRecDepth 100000
set_option maxHeartbeats 4000000
set_option autoImplicit false
namespace DL
open PySem PySem.Spec PyProof.Rows L2

/-! ### ascending, without duplicates -/
def insU (x : Int) : List Int → List Int
  | [] => [x]
  | y :: ys => if x < y then x :: y :: ys else if x = y then y :: ys else y :: insU x ys
def sortU : List Int → List Int
  | [] => []
  | x :: xs => insU x (sortU xs)
theorem mem_insU {x k : Int} : ∀ {ys : List Int}, k ∈ insU x ys ↔ k = x ∨ k ∈ ys
  | [] => by simp [insU]
  | y :: ys => by
    unfold insU
    split
    · simp
    · split
      · rename_i _ h; subst h; simp
      · simp only [List.mem_cons, mem_insU (ys := ys)]
        constructor
        · rintro (h | h | h)
          · exact .inr (.inl h)
          · exact .inl h
          · exact .inr (.inr h)
        · rintro (h | h | h)
          · exact .inr (.inl h)
          · exact .inl h
          · exact .inr (.inr h)
theorem mem_sortU {k : Int} : ∀ {xs : List Int}, k ∈ sortU xs ↔ k ∈ xs
  | [] => by simp [sortU]
  | x :: xs => by
    unfold sortU
    rw [mem_insU, mem_sortU (xs := xs), List.mem_cons]
theorem insU_asc {x : Int} : ∀ {ys : List Int}, ys.Pairwise (· < ·) → (insU x ys).Pairwise (· < ·)
  | [], _ => by simp [insU]
  | y :: ys, h => by
    obtain ⟨h1, h2⟩ := List.pairwise_cons.mp h
    unfold insU
    split
    · rename_i hxy
      refine List.pairwise_cons.mpr ⟨fun k hk => ?_, h⟩
      rcases List.mem_cons.mp hk with rfl | hk
      · exact hxy
      · have := h1 k hk; omega
    · split
      · exact h
      · refine List.pairwise_cons.mpr ⟨fun k hk => ?_, insU_asc h2⟩
        rcases mem_insU.mp hk with rfl | hk
        · omega
        · exact h1 k hk
theorem sortU_asc : ∀ xs : List Int, (sortU xs).Pairwise (· < ·)
  | [] => List.Pairwise.nil
  | x :: xs => insU_asc (sortU_asc xs)
theorem asc_unique : ∀ {xs ys : List Int}, xs.Pairwise (· < ·) → ys.Pairwise (· < ·) → (∀ k, k ∈ xs ↔ k ∈ ys) → xs = ys
  | [], [], _, _, _ => rfl
  | [], y :: ys, _, _, h => by have := (h y).mpr List.mem_cons_self; cases this
  | x :: xs, [], _, _, h => by have := (h x).mp List.mem_cons_self; cases this
  | x :: xs, y :: ys, h1, h2, h => by
    obtain ⟨a1, a2⟩ := List.pairwise_cons.mp h1
    obtain ⟨b1, b2⟩ := List.pairwise_cons.mp h2
    have e : x = y := by
      rcases List.mem_cons.mp ((h x).mp List.mem_cons_self) with q | q
      · exact q
      · rcases List.mem_cons.mp ((h y).mpr List.mem_cons_self) with r | r
        · exact r.symm
        · have := b1 x q
          have := a1 y r
          omega
    subst e
    rw [asc_unique a2 b2 fun k => ?_]
    constructor
    · intro hk
      rcases List.mem_cons.mp ((h k).mp (List.mem_cons_of_mem _ hk)) with q | q
      · subst q; exact absurd (a1 k hk) (Int.lt_irrefl _)
      · exact q
    · intro hk
      rcases List.mem_cons.mp ((h k).mpr (List.mem_cons_of_mem _ hk)) with q | q
      · subst q; exact absurd (b1 k hk) (Int.lt_irrefl _)
      · exact q

/-- set(xs), a list of ints -/
def rSetI (K : PySem.W.Frag) (w : World) : List V → Hp → VK → Prop := fun vs H Q => ∃ (a : Addr) (ns : List Int), vs = [.ref a] ∧ SqL K H a (ns.map V.int) ∧ ns.length + 1 < scanBound ∧
  ∀ p c, H p = none → c ≤ ns.length → Q (.ref p) (upd H p (SetO w p (fun j => decide (j ∈ ns)) c))
theorem cr_setI {X : Cx} (hc : X.calm = true) : CallR X (.type "set") (rSetI X.K X.w) := by
  intro pins s σ H vs us Q I r h
  obtain ⟨a, ns, rfl, hs, hb, q⟩ := h
  obtain ⟨its, rv, hl, hz⟩ := I.list hs
  rw [Vals.ref1 r]
  refine set_of_list ns (I.ok.hd hc) hl.isList (by rw [List.toList_toArray]; exact rv.ints) hb fun h' tk c R hcn hk => ?_
  have hn : H s.heap.objs.size = none := I.hok.fresh (Nat.le_refl _)
  exact ⟨.ref s.heap.objs.size, _, I.laid (t' := tk) hk (Nat.le_refl _) (setO_new R), rfl, q _ c hn hcn⟩
section
variable {X : Cx} {C : Ct} {z : Zs} {a : Expr} {pos p p2 pos2 : Pos}
theorem flp_sortedSet {ns : List Int} (hK : C.K = X.K) (hc : X.calm = true) (hm : X.mg "sorted" = none) (hm2 : X.mg "set" = none) (ha : FP X C z a (.list (ns.map .int))) (hlen : ns.length < 64) (hg : Gl X "sorted" := by rfl) (hg2 : Gl X "set" := by rfl)
    (hs : starEach [a] X.env = (false, eval a X.env) :: starEach [] X.env := by rfl) : FLP X C z (.Call (.Name "sorted" p) [.Call (.Name "set" p2) [a] [] pos2] [] pos) ((sortU ns).map .int) := by
  have ps := pe_callTy (pos := pos2) (p := p2) (cr_setI hc) hg2 hm2 (by decide +kernel) (pa_cons ha pa_nil hs) (he := hs)
  refine pe_con (pe_callB (cr_sortedSet hc) hg hm (by decide +kernel) (pa_cons ps pa_nil (by rfl)) (he := by rfl)) ?_
  rintro σ H R ⟨F, S, k⟩
  refine ⟨F, S, fun v d z1 H1 F1 ⟨e1, e2⟩ S1 s1 r => ?_⟩
  subst e1 e2
  obtain ⟨b, vs, ev, hq, hp⟩ := dp_list r
  have e := dp_ints hp
  subst e ev
  refine ⟨b, ns, rfl, by rw [← hK]; exact S1.sub.sl hq, Nat.lt_of_lt_of_le (show ns.length + 1 < 65 by omega) (by decide), fun q c hn hcn => ?_⟩
  refine ⟨q, _, c, rfl, upd_same, by omega, fun ms t hasc hmem hl hnt => ?_⟩
  have em : ms = sortU ns := asc_unique hasc (sortU_asc ns) fun k => by rw [hmem k, mem_sortU]; simp
  subst em
  have S2 := S1.cell hn (SetO X.w q (fun j => decide (j ∈ ns)) c)
  exact k t _ _ z1 _ F1 ⟨rfl, rfl⟩ (S2.cell hnt _) s1 (S2.own_new hnt _) (of_ints _)

/-! ### the least and the greatest of a list of data -/
theorem reads_item {h : Heap} {vs : Array Value} {xs : List PyData} {as : List Addr} (hr : ReadsAll h vs.toList xs as) {i : Nat} {v : Value} {x : PyData} (hv : vs[i]? = some v) (hx : xs[i]? = some x) : ∃ bs, Reads h v x bs := by
  obtain ⟨bs, r, hi, _⟩ := PySem.W.readsAll_atA hr i v hv
  rw [List.getD_eq_getElem?_getD, hx] at r
  exact ⟨bs, r⟩
def rMinD (K : PySem.W.Frag) (n : Nat) : List V → Hp → VK → Prop := fun vs H Q => ∃ (a : Addr) (ws : List V) (x : PyData) (xs : List PyData), vs = [.ref a] ∧ SqL K H a ws ∧ DpAll K H ws (x :: xs) ∧ PySem.W.AlikeAll (x :: xs) ∧ PyData.depthAll (x :: xs) ≤ n ∧
  ∀ (i : Nat) (v : V), ws[i]? = some v → (x :: xs)[i]? = some (PySem.W.minD x xs) → Q v H
theorem minD_mem (x : PyData) (xs : List PyData) : PySem.W.minD x xs ∈ x :: xs := by
  unfold PySem.W.minD
  have all : ∀ (xs : List PyData) (x : PyData), xs.foldl (fun a y => if PySem.W.dataLt y a then y else a) x = x ∨ xs.foldl (fun a y => if PySem.W.dataLt y a then y else a) x ∈ xs := by
    intro xs
    induction xs with
    | nil => intro x; exact .inl rfl
    | cons y ys ih =>
      intro x
      rw [List.foldl_cons]
      rcases ih (if PySem.W.dataLt y x then y else x) with h | h
      · by_cases c : PySem.W.dataLt y x = true
        · rw [if_pos c] at h ⊢; exact .inr (by rw [h]; exact List.mem_cons_self)
        · rw [if_neg c] at h ⊢; exact .inl h
      · exact .inr (List.mem_cons_of_mem _ h)
  rcases all xs x with h | h
  · rw [h]; exact List.mem_cons_self
  · exact List.mem_cons_of_mem _ h
theorem cr_minD {X : Cx} {n : Nat} (hc : X.calm = true) (hu : X.A.units + 1 + n < cLine) : CallR X (.builtin "min") (rMinD X.K n) := by
  intro pins s σ H vs us Q I r h
  obtain ⟨a, ws, x, xs, rfl, hs, hd, hal, hdp, q⟩ := h
  obtain ⟨its, rv, hl, hz⟩ := I.list hs
  rw [Vals.ref1 r]
  obtain ⟨as, hr⟩ := Dp.readsAll I _ _ its hd rv
  have hr' : ReadsAll s.heap its.toArray.toList (x :: xs) as := by rw [List.toList_toArray]; exact hr
  refine PySem.W.min_list_data (I.ok.hd hc) hl.isList hr' hal (by omega) fun i v h' tk bs hv hm hk => ?_
  have hi : i < its.length := by
    have := (Array.getElem?_eq_some_iff.mp hv).1
    rw [List.size_toArray] at this; exact this
  have hlen : ws.length = (x :: xs).length := dpAll_len hd
  have hi2 : i < (x :: xs).length := by rw [← hlen, rv.length]; exact hi
  have e2 : (x :: xs)[i]? = some (x :: xs)[i] := List.getElem?_eq_getElem hi2
  obtain ⟨cs, r2⟩ := reads_item hr' hv e2
  have r3 := PySem.W.reads_keeps hk r2
  have hmem : (x :: xs)[i] ∈ x :: xs := List.getElem_mem hi2
  have eq : (x :: xs)[i] = PySem.W.minD x xs := PySem.W.alike_unique _ _ v _ _ (hal.1 _ hmem _ (minD_mem x xs)) r3 hm
  obtain ⟨u, eu, ru⟩ := rv.get (i := i) (x := ws[i]'(by rw [hlen]; exact hi2)) (List.getElem?_eq_getElem _)
  have ev : its[i]? = some v := by
    rw [← hv, List.getElem?_toArray]
  rw [ev] at eu
  cases eu
  exact ⟨_, H, I.kept (t' := tk) hk, ru, q i _ (List.getElem?_eq_getElem _) (by rw [e2, eq])⟩
theorem fp_minD {x : PyData} {xs : List PyData} {n k : Nat} (hr : Room k X.A) (hK : C.K = X.K) (hc : X.calm = true) (hm : X.mg "min" = none) (ha : FP X C z a (.list (x :: xs))) (hal : PySem.W.AlikeAll (x :: xs)) (hd : PyData.depthAll (x :: xs) ≤ n) (hn : n ≤ 40) (hg : Gl X "min" := by rfl) (hs : starEach [a] X.env = (false, eval a X.env) :: starEach [] X.env := by rfl) :
    FP X C z (.Call (.Name "min" p) [a] [] pos) (PySem.W.minD x xs) := by
  have hu : X.A.units + 1 + n < cLine := by have := hr.units; omega
  refine pe_con (pe_callB (cr_minD (n := n) hc hu) hg hm (by decide +kernel) (arg1 ha hs) (he := hs)) ?_
  rintro σ H R ⟨F, S, kk⟩
  refine ⟨F, S, fun vs ds z1 H1 F1 ⟨e1, e2⟩ S1 s1 r => ?_⟩
  subst e1 e2
  obtain ⟨v, ev, r1⟩ := paired1 r
  subst ev
  obtain ⟨b, ws, ev, hq, hp⟩ := dp_list r1
  subst ev
  rw [← hK]
  refine ⟨b, ws, x, xs, rfl, S1.sub.sl hq, dpAll_mono S1.sub _ _ hp, hal, hd, fun i v hv hx => ?_⟩
  obtain ⟨v', ev', rv'⟩ := dpAll_get hp hx
  rw [hv] at ev'
  cases ev'
  exact kk v _ z1 H1 F1 ⟨rfl, rfl⟩ S1 s1 rv'
end
end DL

set_option Elab.async false
set_option linter.all false
set_option maxRecDepth 100000
set_option maxHeartbeats 4000000
set_option autoImplicit false
namespace DL
open PySem PySem.Spec PyProof.Rows L2

/-! ### lambdas as keys -/
theorem Sim.extN {C : Ct} {z : Zs} {σ : L2.St} {H F H' : Hp} (S : Sim C z σ H F) (e : LamX.ExtN H H') (t : LamX.Tabs tabs H') : Sim C z σ H' F where
  sub := fun a o h => e a o (S.sub a o h) fun ps q => S.ft a ps (by rw [← q]; exact h)
  ext := S.ext
  keep := fun a o h => e a o (S.keep a o h) fun ps q => S.ht a ps (by rw [← q]; exact h)
  fresh := S.fresh
  slots := fun i s h => by
    have q := S.slots i s h
    cases s with
    | un => trivial
    | v d => exact q
    | ow ds =>
      obtain ⟨a, vs, e1, h1, f1, h2, p1, r⟩ := q
      exact ⟨a, vs, e1, e a _ h1 (fun ps q => by cases q), f1, h2, p1, r⟩
  sep := S.sep
  pot := fun p h => by
    obtain ⟨h1, f1, h2⟩ := S.pot p h
    exact ⟨e p _ h1 (fun ps q => by cases q), f1, h2⟩
  len := S.len
  tab := fun p h => ⟨t p h, (S.tab p h).2⟩
  ft := S.ft
  ht := S.ht
theorem Sim.tabs {C : Ct} {z : Zs} {σ : L2.St} {H F : Hp} (S : Sim C z σ H F) : LamX.Tabs tabs H := fun p h => (S.tab p h).1
mutual
/-- data without lists -/
def flatD : PyData → Bool
  | .list _ => false
  | .dict _ => false
  | .tuple ds => flatAll ds
  | _ => true
def flatAll : List PyData → Bool
  | [] => true
  | d :: ds => flatD d && flatAll ds
end
mutual
theorem reads_flat {h : Heap} : ∀ (d : PyData) (v : Value) (as : List Addr), flatD d = true → Reads h v d as → as = []
  | .none, _, _, _, r => by cases r; rfl
  | .bool _, _, _, _, r => by cases r; rfl
  | .int _, _, _, _, r => by cases r; rfl
  | .str _, _, _, _, r => by cases r; rfl
  | .list _, _, _, f, _ => by simp [flatD] at f
  | .dict _, _, _, f, _ => by simp [flatD] at f
  | .tuple ds, _, _, f, r => by
    cases r with
    | tuple _ _ _ ha => exact readsAll_flat ds _ _ (by simpa [flatD] using f) ha
theorem readsAll_flat {h : Heap} : ∀ (ds : List PyData) (vs : List Value) (as : List Addr), flatAll ds = true → ReadsAll h vs ds as → as = []
  | [], _, _, _, r => by cases r; rfl
  | d :: ds, _, _, f, r => by
    have f : (flatD d && flatAll ds) = true := by simpa [flatAll] using f
    rw [Bool.and_eq_true] at f
    cases r with
    | cons r1 r2 => rw [reads_flat d _ _ f.1 r1, readsAll_flat ds _ _ f.2 r2]; rfl
end
/-- an expression of a lambda's body: it gives d and keeps all that was there -/
def LE (P : Program) (w : World) (A : Around) (env : Env) (s : Shared) (e : Expr) (d : PyData) : Prop :=
  ∀ h tk, (∀ b o, s.heap.get? b = some o → h.get? b = some o) →
    wpAny (model P w) A (eval e env) (fun v s' => ∃ h' tk' as, s' = { s with heap := h', toks := tk' } ∧ (∀ b o, h.get? b = some o → h'.get? b = some o) ∧ Reads h' v d as) (fun _ _ => False) { s with heap := h, toks := tk }
/-- the lambda's one parameter -/
structure LV (pn : Str) (d : PyData) (env : Env) (s : Shared) : Prop where
  kind : env.scope.kind = .function
  loc : env.kindOf pn = some .local
  look : ∃ v as m, s.heap.Ns env.locals m ∧ m pn = some v ∧ Reads s.heap v d as
section
variable {P : Program} {w : World} {A : Around} {env : Env} {s : Shared} {a b : Expr} {pos : Pos}
theorem le_name {pn : Str} {d : PyData} (V : LV pn d env s) (hd : (pn == ("__debug__" : Str)) = false := by decide) : LE P w A env s (.Name pn pos) d := by
  intro h tk kp
  obtain ⟨v, as, m, hn, hm, r⟩ := V.look
  exact wpAny_Name (wpAny_loadName_local V.kind V.loc (hn.keeps kp) hm ⟨h, tk, as, rfl, fun _ _ e => e, PyProof.Rows.Reads.keeps kp r⟩) hd
theorem le_int {i : Int} {j : Nat} : LE P w A env s (.Constant (.int i) j pos) (.int i) := fun h tk _ =>
  wpAny_Constant_int ⟨h, tk + 1, [], rfl, fun _ _ e => e, .int i _⟩
theorem le_neg {i : Int} (ha : LE P w A env s a (.int i)) : LE P w A env s (.UnaryOp .USub a pos) (.int (-i)) := by
  intro h tk kp
  refine UnaryOp_ (thn (ha h tk kp) fun v s' ⟨h', tk', as, e, k', r⟩ => ?_)
  subst e
  cases r with
  | int _ t => exact neg_int ⟨h', tk' + 1, [], rfl, k', .int _ _⟩
theorem le_ix {xs : List PyData} {i : Int} {x : PyData} (ha : LE P w A env s a (.tuple xs)) (hb : LE P w A env s b (.int i)) (h0 : 0 ≤ i) (h1 : i < 2 ^ 63) (hx : xs[i.toNat]? = some x) (hs : PlainIx b := by exact fun _ _ => rfl) : LE P w A env s (.Subscript a b pos) x := by
  intro h tk kp
  refine Subscript_ (thn (ha h tk kp) fun v s1 ⟨h1', tk1, as, e, k1, r1⟩ => ?_)
  subst e
  refine thn (hb h1' tk1 fun b o q => k1 b o (kp b o q)) fun u s2 ⟨h2, tk2, bs, e, k2, r2⟩ => ?_
  subst e
  cases r2 with
  | int _ t =>
    obtain ⟨ad, l, rfl, hT, hR⟩ := reads_tuple_items r1
    have hT2 : IsTup h2 ad l.toArray := by
      obtain ⟨o, e1, e2, e3⟩ := hT
      exact ⟨o, k2 _ _ e1, e2, e3⟩
    have hl : l.length = xs.length := by
      have all : ∀ {l : List Value} {xs : List PyData} {as : List Addr}, ReadsAll h1' l xs as → l.length = xs.length := by
        intro l
        induction l with
        | nil => intro xs as r; cases r; rfl
        | cons v l ih =>
          intro xs as r
          cases r with
          | cons _ r2 => simp [ih r2]
      exact all hR
    have hi : i.toNat < xs.length := (List.getElem?_eq_some_iff.mp hx).1
    have hv : l.toArray[i.toNat]? = some (l[i.toNat]'(by omega)) := by
      rw [List.getElem?_toArray]; exact List.getElem?_eq_getElem _
    obtain ⟨cs, r3⟩ := reads_item (vs := l.toArray) (by rw [List.toList_toArray]; exact hR) hv hx
    exact subscriptTail_builtinR (x := l[i.toNat]'(by omega)) hT2.typeIs slot_tuple_getitem.lookup
      (getItem_tuple (j := i.toNat) (Q := fun r s' => r = l[i.toNat]'(by omega) ∧ ∃ h' tk' as, s' = { s with heap := h', toks := tk' } ∧ (∀ b o, h.get? b = some o → h'.get? b = some o) ∧ Reads h' r x as) hT2 (by omega) h1
        (by rw [seqIndex_of h0 (by rw [List.size_toArray]; omega)]) hv ⟨rfl, h2, tk2, cs, rfl, fun b o q => k2 b o (k1 b o q), PyProof.Rows.Reads.keeps k2 r3⟩) (hs _ _)
theorem le_tup2 {x y : PyData} {k : Nat} (ha : LE P w A env s a x) (hb : LE P w A env s b y) (h1 : starEach [a, b] env = (false, eval a env) :: starEach [b] env := by rfl) (h2 : starEach [b] env = (false, eval b env) :: starEach [] env := by rfl) : LE P w A env s (.Tuple [a, b] k pos) (.tuple [x, y]) := by
  intro h tk kp
  refine wpAny_Tuple ?_
  rw [h1, h2]
  show wpAny _ _ (spliced ((false, eval a env) :: (false, eval b env) :: [])) _ _ _
  refine Calls.spliced_cons (thn (ha h tk kp) fun v s1 ⟨h1', tk1, as, e, k1, r1⟩ => ?_)
  subst e
  refine Calls.spliced_cons (thn (hb h1' tk1 fun b o q => k1 b o (kp b o q)) fun u s2 ⟨h2', tk2, bs, e, k2, r2⟩ => ?_)
  subst e
  refine Calls.spliced_nil ⟨by simp; decide, ?_⟩
  have kk : ∀ b o, h2'.get? b = some o → (h2'.push { cls := .type "tuple", data := .seq [v, u].toArray }).get? b = some o := fun b o e => Heap.get?_push_of_some _ e
  exact ⟨_, _, as ++ (bs ++ []), rfl, fun b o q => kk b o (k2 b o (k1 b o q)), .tuple (Heap.get?_push_size _ rfl) rfl rfl (.cons (PyProof.Rows.Reads.keeps kk (PyProof.Rows.Reads.keeps k2 r1)) (.cons (PyProof.Rows.Reads.keeps kk r2) .nil))⟩
end

/-- a lambda with one parameter, without names from around -/
structure LamOk (scope : Scope) (pn : Str) : Prop where
  kind : scope.kind = .function
  co : scope.isCoroutine = false
  gen : scope.isGenerator = false
  own : ∀ y ∈ scope.names, y.2 ≠ .cell ∧ y.2 ≠ .free
  par : scope.names.lookup pn = some .local
theorem depthAll_le {n : Nat} {x : PyData} {xs : List PyData} (h : PyData.depthAll xs ≤ n) (hx : x ∈ xs) : x.depth ≤ n := by
  induction xs with
  | nil => cases hx
  | cons y ys ih =>
    have h : max y.depth (PyData.depthAll ys) ≤ n := by simpa [PyData.depthAll] using h
    rcases List.mem_cons.mp hx with rfl | hx
    · omega
    · exact ih (by omega) hx
section
variable {X : Cx} {C : Ct} {z : Zs} {a : Expr} {pos p lpos kpos : Pos}
/-- sorted(a, key=lambda pn: body) -/
theorem flp_sortedKey {β : Type} {k : Nat} {params : Arguments} {body : Expr} {scope : Scope} {pn : Str} {c T : Addr} {xs : List β} (enc key : β → PyData) (hr : Room (k + 3) X.A) (hK : C.K = X.K) (hm : X.mg "sorted" = none)
    (TB : LamX.TabB X.base X.mg c T) (hcode : X.env.code = .ref c) (hmT : (T, X.env.qual ++ "<lambda>") ∈ tabs) (hu : ∀ p ∈ tabs, p.1 = T → p.2 = X.env.qual ++ "<lambda>") (L : LamOk scope pn) (hdef : defaultsOf params X.env = ([], []))
    (hbind : ∀ (q : Str) (cl : List (Str × Addr)) (pm cv ctv v : Value), bindArgs (PySem.W.kla_fn "<lambda>" q params body scope cl pm cv ctv) ⟨[v], []⟩ = pure [(pn, v)])
    (ha : FP X C z a (.list (xs.map enc))) (hal : PySem.W.AllAlike (xs.map key)) (hsk : PySem.W.Sortable (xs.map key)) (hlen : xs.length ≤ sizeLine) (hd : ∀ x ∈ xs, (key x).depth ≤ 16) (hfl : ∀ x ∈ xs, flatD (key x) = true)
    (hbody : ∀ x ∈ xs, ∀ (A : Around) (env : Env) (s : Shared), LV pn (enc x) env s → LE X.prog X.w A env s body (key x))
    (hg : Gl X "sorted" := by rfl) (hs : starEach [a] X.env = (false, eval a X.env) :: starEach [] X.env := by rfl) (hpl : (backTo pos (starEach [a] X.env)).any (·.1) = false := by rfl)
    (hpn : (pn == ("__debug__" : Str)) = false := by decide) :
    FLP X C z (.Call (.Name "sorted" p) [a] [⟨some "key", .Lambda params body scope lpos, kpos⟩] pos) ((xs.mergeSort (PySem.W.dataLe false key)).map enc) := by
  refine ⟨fun pins s σ H Q I h => ?_⟩
  obtain ⟨F, S, kk⟩ := h
  refine wpAny_Call_Name_kw (ld_blt (u := .builtin "sorted") I hg hm (by decide +kernel) ?_)
  refine PyProof.Rows.callWith_kw (thn ((arg1 ha hs).run pos pins s σ H (fun vs H1 => ∃ F1, Sim C z σ H1 F1 ∧ Sub F F1 ∧ Paired (RV C.K C.P F1) vs [.d (.list (xs.map enc))]) I ⟨F, S, fun vs ds z' H' F' e S' s' r => ?_⟩) fun us s1 ⟨vs, H1, I1, r1, q1⟩ => ?_) (by rw [hs]; rfl) hpl
  · obtain ⟨e1, e2⟩ := e
    subst e1 e2
    exact ⟨F', S', s', r⟩
  obtain ⟨F1, S1, sF, rp⟩ := q1
  show wpAny _ _ (evalAll ((do let v ← eval (.Lambda params body scope lpos) X.env; standAt pos; pure v) :: [])) _ _ s1
  refine wpAny_evalAll_cons (wpAny_bind (LamX.lam_make2 I1 TB hcode hmT hu S1.tabs hdef (fun y hy e => absurd e (L.own y hy).2) fun f c' pm ctv H2 s2 I2 eN T2 hf hfn hfr hco => wpAny_bind (wpAny_standAt (wpAny_pure (wpAny_evalAll_nil ?_)))))
  have S2 := S1.extN eN T2
  obtain ⟨v, ev, rv⟩ := paired1 rp
  subst ev
  obtain ⟨b, ws, eb, hq, hp⟩ := dp_list rv
  subst eb
  rw [hK] at hq hp
  rw [Vals.ref1 r1]
  obtain ⟨its, rvs, hl, hz⟩ := I2.list (S2.sub.sl hq)
  obtain ⟨⟨oc, ovs, ot, hoc, hdc, hvc⟩, _, _⟩ := I2.hok c' _ hco
  have hEach : ∀ (ws : List V) (its : List Value) (xs : List β), Vals ws its → DpAll X.K F1 ws (xs.map enc) → PySem.W.EachIs (fun v x => (∃ y, RelV y v ∧ Dp X.K F1 y (enc x)) ∧ ∃ as, Reads s2.heap v (enc x) as) its xs := by
    intro ws
    induction ws with
    | nil =>
      intro its xs h1 h2
      cases h1
      cases xs with
      | nil => exact .nil
      | cons x xs => cases h2
    | cons y ys ih =>
      intro its xs h1 h2
      cases h1 with
      | cons a1 a2 =>
        cases xs with
        | nil => cases h2
        | cons x xs =>
          cases h2 with
          | cons b1 b2 => exact .cons ⟨⟨y, a1, b1⟩, Dp.reads I2 _ _ _ (dp_mono S2.sub _ _ b1) a1⟩ (ih _ _ a2 b2)
  have hback : ∀ (out : List Value) (ys : List β), PySem.W.EachIs (fun v x => (∃ y, RelV y v ∧ Dp X.K F1 y (enc x)) ∧ ∃ as, Reads s2.heap v (enc x) as) out ys → ∃ vs, Vals vs out ∧ DpAll X.K F1 vs (ys.map enc) := by
    intro out ys h
    induction h with
    | nil => exact ⟨[], .nil, .nil⟩
    | cons r _ ih =>
      obtain ⟨⟨y, a1, b1⟩, _⟩ := r
      obtain ⟨vs, a2, b2⟩ := ih
      exact ⟨y :: vs, .cons a1 a2, .cons b1 b2⟩
  have hlx : ws.length = xs.length := by rw [dpAll_len hp, List.length_map]
  refine PySem.W.sorted_key_data (b := false) key hl.isList (hEach ws its xs rvs hp) hal hsk hlen (fun x hx => ?_) (PyProof.Rows.ksk_s1 _ _) (fun _ => PyProof.Rows.ksk_l1 _ _) (fun _ => PyProof.Rows.ksk_t1 _ _) (fun v x hR hx h tk kp => ?_) (fun out cc h' tk kp hfresh hD hol eo => ?_)
  · have := hr.units
    have := hd x hx
    omega
  · obtain ⟨_, as, hrd⟩ := hR
    have hok2 := (hr.in1.in1).depth
    refine wpAny_call (PySem.W.kla_callFunE hok2 (kp _ _ hf) rfl L.co L.gen rfl ⟨c', oc, ovs, ot, rfl, kp _ _ hoc, hdc, hvc⟩ ?_)
    rw [hbind]
    refine wpAny_pure (wpAny_newFunctionEnv (fun y hy => (L.own y hy).1) (fun y hy => ?_) (fun h₁ hns hsb => ⟨(I2.nolimit.keeps kp).fresh _ hsb, ?_⟩) L.kind)
    · rcases List.mem_cons.mp hy with e | e
      · subst e; exact L.par
      · cases e
    · have kp2 : ∀ b o, h.get? b = some o → h₁.get? b = some o := fun b o e => hsb.extBut b o (Nat.ne_of_lt (Heap.lt_size e)) (Heap.get?_push_of_some _ e)
      show codeAny _ _ (.expr body (LamX.lamEnv X scope h.objs.size f c')) _ _
      refine PySem.W.kla_codeExpr (wpAny_mono (hbody x hx _ (LamX.lamEnv X scope h.objs.size f c') { s2 with heap := h₁, toks := tk } ⟨L.kind, L.par, v, as, _, hns, ?_, PyProof.Rows.Reads.keeps (fun b o e => kp2 b o (kp b o e)) hrd⟩ h₁ _ fun _ _ e => e) (fun v' s' hq => ?_) fun _ _ q => q.elim)
      · show List.lookup pn [(pn, v)] = some v
        simp
      · obtain ⟨h', tk', as', e, k', r'⟩ := hq
        subst e
        have := reads_flat _ _ _ (hfl x hx) r'
        subst this
        exact ⟨h', tk', rfl, fun b o e => k' b o (kp2 b o e), r'⟩
  · obtain ⟨vs, hv, hdp⟩ := hback _ _ eo
    have hn : H2 (s2.heap.objs.size + 1) = none := I2.hok.fresh (Nat.le_succ _)
    have hvl : vs.length ≤ sizeLine := by rw [hv.length, hol]; exact hlen
    have J := I2.laid (t' := tk) kp (Nat.le_succ _) (o := .lst vs) ⟨hvl, out, cc, hv, hD⟩
    have S3 := S2.cell hn (.lst vs)
    exact ⟨.ref _, _, J, rfl, kk _ vs _ z _ F1 ⟨rfl, rfl⟩ S3 sF (S2.own_new hn vs) (by rw [hK]; exact hdp)⟩
end
end DL

set_option Elab.async false
set_option linter.all false
set_option maxRecDepth 100000
set_option maxHeartbeats 4000000
set_option autoImplicit false
namespace DL
open PySem PySem.Spec PyProof.Rows L2

/-! ### sum of a tuple -/
def rSumT (K : PySem.W.Frag) : List V → Hp → VK → Prop := fun vs H Q => ∃ (a : Addr) (ns : List Int), vs = [V.ref a] ∧ SqT K H a (ns.map V.int) ∧ Q (.int ns.sum) H
theorem cr_sumT {X : Cx} (hc : X.calm = true) : CallR X (.builtin "sum") (rSumT X.K) := by
  intro pins s σ H vs us Q I r h
  obtain ⟨a, ns, rfl, hs, q⟩ := h
  obtain ⟨its, rv, pl, _⟩ := I.tuple hs
  rw [Vals.ref1 r]
  have hi := rv.ints
  obtain ⟨xs, e⟩ := hi.allInts.items
  have hn : numsOf (intItems xs).toList = ns := by rw [← e]; exact hi.numsOf
  rw [nums_intItems] at hn
  rw [e] at pl
  refine PySem.W.ktm_sumG (I.ok.hd hc) pl fun h' tk t' hk => ?_
  have e2 : preSum (numAt xs) xs.size = ns.sum := by
    rw [preSum_eq, List.take_of_length_le (by simp), hn]
  rw [e2]
  exact ⟨.int ns.sum, H, I.kept (t' := tk) hk, ⟨t', rfl⟩, q⟩
section
variable {X : Cx} {C : Ct} {z : Zs} {a b c e : Expr} {pos p pn p2 : Pos} {tg : Expr}
theorem fp_sumT {ns : List Int} (hK : C.K = X.K) (hc : X.calm = true) (hm : X.mg "sum" = none) (ha : FP X C z a (.tuple (ns.map .int))) (hg : Gl X "sum" := by rfl) (hs : starEach [a] X.env = (false, eval a X.env) :: starEach [] X.env := by rfl) : FP X C z (.Call (.Name "sum" p) [a] [] pos) (.int ns.sum) :=
  fp_cb (fun _ ha => pe_callB (cr_sumT hc) hg hm (by decide +kernel) ha (he := hs)) (arg1 ha hs) fun _ h => by
    rw [← hK]
    intro F H vs Q' s r q
    obtain ⟨v, e1, r1⟩ := paired1 r
    subst e1
    obtain ⟨t, ws, ev, hq, hp⟩ := dp_tuple r1
    subst ev
    have e := dp_ints hp
    subst e
    exact ⟨t, ns, rfl, s.st hq, q _ _ H F h (Grow.refl s) (.int _)⟩

/-! ### range downwards -/
def rngD (hi : Int) (n : Nat) : List PyData := (List.range n).map fun i => .int (hi - (i : Nat))
theorem fip_rangeDown {i j : Int} (hm : X.mg "range" = none) (ha : FP X C z a (.int i)) (hb : FP X C z b (.int j)) (hcc : FP X C z c (.int (-1))) (h1 : -(2 ^ 62) ≤ i ∧ i < 2 ^ 62 ∧ -(2 ^ 62) ≤ j ∧ j < 2 ^ 62) (hg : Gl X "range" := by rfl)
    (hs : starEach [a, b, c] X.env = (false, eval a X.env) :: starEach [b, c] X.env := by rfl) (hs2 : starEach [b, c] X.env = (false, eval b X.env) :: starEach [c] X.env := by rfl) (hs3 : starEach [c] X.env = (false, eval c X.env) :: starEach [] X.env := by rfl)
    (hpl : (backTo pos (starEach [b, c] X.env)).any (·.1) = false := by rfl) : FIP X C z tg (.Call (.Name "range" p) [a, b, c] [] pos) (rngD i (i - j).toNat) := by
  refine pi_con (pi_range3 hg hm (fpa_cons ha (fpa_cons hb (arg1 hcc hs3) hs2) hs) hs hpl) ?_
  rintro σ H R ⟨F, S, k⟩
  refine ⟨F, S, fun vs ds z1 H1 F1 ⟨e1, e2⟩ S1 s1 r => ?_⟩
  subst e1 e2
  cases r with
  | cons r1 rr =>
    cases rr with
    | cons r2 rr =>
      cases rr with
      | cons r3 rr =>
        cases rr
        have e1 := dp_int r1
        have e2 := dp_int r2
        have e3 := dp_int r3
        subst e1 e2 e3
        refine ⟨i, j, -1, (i - j).toNat, rfl, RgC.neg h1.1 h1.2.1 h1.2.2.1 h1.2.2.2, k _ _ _ H1 F1 ⟨rfl, rfl⟩ S1 s1 ?_⟩
        have hl : (rngD i (i - j).toNat).length = (i - j).toNat := by simp [rngD]
        exact ⟨fun k H' s' hk => (show k < (i - j).toNat from by rw [← hl]; exact hk), fun H' s' => (show (i - j).toNat ≤ (rngD i (i - j).toNat).length from by rw [hl]; exact Nat.le_refl _), fun k H' F' x H'' s' s2 hy hk => by
          rw [hl] at hk
          obtain ⟨eH, ex⟩ := hy
          subst ex eH
          refine ⟨.int (i - (k : Nat)), F', ?_, Grow.refl s2, ?_⟩
          · unfold rngD
            rw [List.getElem?_map, List.getElem?_range hk]
            rfl
          · have e : i + (k : Nat) * (-1) = i - (k : Nat) := by omega
            rw [e]
            exact .int _⟩

/-! ### great ints -/
theorem fp_mulW {i j : Int} (ha : FP X C z a (.int i)) (hb : FP X C z b (.int j)) (hc : CMulW i j) : FP X C z (.BinOp a .Mult b pos) (.int (i * j)) := fp_bin (fun _ _ => pe_op op_mulW) ha hb fun _ h => g2_I (gg := fun i j => i * j) hc h
theorem fp_fdivW {i j : Int} (ha : FP X C z a (.int i)) (hb : FP X C z b (.int j)) (hc : CDivW i j) : FP X C z (.BinOp a .FloorDiv b pos) (.int (i / j)) := fp_bin (fun _ _ => pe_op op_fdivW) ha hb fun _ h => g2_I (gg := fun i j => i / j) hc h

/-! ### the pot -/
theorem fp_potIx {x : Str} {k : Int} {v : Int} (i : Nat) (hK : C.K = X.K) (hz : z.r[i]? = some sp) (hb : FP X C z b (.int k)) (hk : atI [z.p.a, z.p.b, z.p.c] k = some v) (hs : PlainIx b := by exact fun _ _ => rfl)
    (hN : X.N[i]? = some x := by rfl)
    (hv : Vis X.env.scope x := by first | exact Or.inl rfl | exact Or.inr (Or.inl rfl) | exact Or.inr (Or.inr rfl))
    (hd : (x == ("__debug__" : Str)) = false := by decide) (hcd : (x == ("__classdict__" : Str)) = false := by decide) : FP X C z (.Subscript (.Name x pn) b pos) (.int v) := by
  refine pe_con (pe_ix ix_list (pe_var hN hv hd hcd) hb hs) ?_
  rintro σ H R ⟨F, S, q⟩
  obtain ⟨w, e, p, hp, ew⟩ := S.slots i _ hz
  subst ew
  refine ⟨.ref p, e, F, S, fun u d z1 H1 F1 ⟨e1, e2⟩ S1 s1 r => ?_⟩
  subst e1 e2
  have hl := (S1.pot p hp).1
  have eu := dp_int r
  subst eu
  refine ⟨p, _, k, .int v, rfl, rfl, SqL.of hl, ?_, q (.int v) _ _ H1 F1 ⟨rfl, rfl⟩ S1 s1 (.int v)⟩
  have e3 : ([V.int z1.p.a, V.int z1.p.b, V.int z1.p.c] : List V) = [z1.p.a, z1.p.b, z1.p.c].map V.int := rfl
  rw [e3]
  unfold atI at hk ⊢
  rw [List.length_map]
  cases h : ixN [z1.p.a, z1.p.b, z1.p.c].length k with
  | none => rw [h] at hk; cases hk
  | some j =>
    rw [h] at hk
    have hk : ([z1.p.a, z1.p.b, z1.p.c] : List Int)[j]? = some v := hk
    show (([z1.p.a, z1.p.b, z1.p.c] : List Int).map V.int)[j]? = _
    rw [List.getElem?_map, hk]; rfl
theorem Sim.potSet {σ : L2.St} {H F : Hp} {p : Addr} (S : Sim C z σ H F) (hp : C.P = some p) (π : Pot) : Sim C ⟨z.r, π⟩ σ (upd H p (.lst [.int π.a, .int π.b, .int π.c])) F := by
  obtain ⟨h1, f1, h2⟩ := S.pot p hp
  refine ⟨fun b u e => ?_, S.ext, fun b u e => ?_, S.fresh, fun j s e => ?_, S.sep, fun p' e => ?_, S.len, fun q e => ?_, S.ft, S.ht⟩
  · have : b ≠ p := fun q => by subst q; rw [f1] at e; cases e
    rw [upd_ne this]; exact S.sub b u e
  · have : b ≠ p := fun q => by subst q; rw [h2] at e; cases e
    rw [upd_ne this]; exact S.keep b u e
  · have w := S.slots j s e
    cases s with
    | un => trivial
    | v d => exact w
    | ow es =>
      obtain ⟨b, ws, e1, g1, f2, g2, p2, r2⟩ := w
      have : b ≠ p := fun w => by subst w; exact p2 hp
      exact ⟨b, ws, e1, by rw [upd_ne this]; exact g1, f2, g2, p2, r2⟩
  · rw [hp] at e
    cases e
    exact ⟨upd_same, f1, h2⟩
  · obtain ⟨g1, f2, g2⟩ := S.tab q e
    exact ⟨TabS.set g1 h1, f2, g2⟩
/-- pot[k] = e -/
theorem f1_potSet {x : Str} {j : Expr} {tp : Pos} {v : Int} {n : Int} {k : Nat} {π : Pot} {Q : Out → Zs → Prop} (i : Nat) (hz : z.r[i]? = some sp) (h : FP X C z e (.int v)) (hj : FP X C z j (.int n)) (hn : ixN 3 n = some k)
    (hπ : ([z.p.a, z.p.b, z.p.c] : List Int).set k v = [π.a, π.b, π.c]) (q0 : Q .nx ⟨z.r, π⟩)
    (hN : X.N[i]? = some x := by rfl)
    (hv : Vis X.env.scope x := by first | exact Or.inl rfl | exact Or.inr (Or.inl rfl) | exact Or.inr (Or.inr rfl))
    (hd : (x == ("__debug__" : Str)) = false := by decide) (hcd : (x == ("__classdict__" : Str)) = false := by decide)
    (ha : ∀ v, assign (.Subscript (.Name x pn) j tp) X.env v = (do let ov ← holding [v] (eval (.Name x pn) X.env); let iv ← holding [v, ov] (eval j X.env); standAt tp; holding [v, ov, iv] (setItem ov iv v); release [v, ov, iv] []) := by intro _; rfl)
    (hs : swapsWithSole [.Subscript (.Name x pn) j tp] e pos.line X.env = pure false := by rfl) (hw : swappedStores [.Subscript (.Name x pn) j tp] e X.env = pure none := by rfl)
    (h1 : (assignEach [.Subscript (.Name x pn) j tp] X.env).map (·.2) = [assign (.Subscript (.Name x pn) j tp) X.env] := by rfl) : F1 X C z (.Assign [.Subscript (.Name x pn) j tp] e pos) Q := by
  refine ps_con (ps_asg h (pg_sub (pe_var hN hv hd hcd) hj set_list ha) hs hw h1) ?_
  rintro D σ H ⟨F, S, q⟩
  refine ⟨F, S, fun u d' z1 H1 F1 ⟨e1, e2⟩ S1 s1 r => ?_⟩
  subst e1 e2
  obtain ⟨w, e0, p, hp, ew⟩ := S1.slots i _ hz
  subst ew
  refine ⟨.ref p, e0, F1, S1, fun u2 d2 z2 H2 F2 ⟨e1, e2⟩ S2 s2 r2 => ?_⟩
  subst e1 e2
  have hl := (S2.pot p hp).1
  have eu := dp_int r
  subst eu
  refine ⟨p, _, n, k, rfl, dp_int r2, hl, hn, ?_⟩
  have e3 : ([V.int z2.p.a, V.int z2.p.b, V.int z2.p.c] : List V).set k (.int v) = [V.int π.a, V.int π.b, V.int π.c] := by
    have e4 : ([V.int z2.p.a, V.int z2.p.b, V.int z2.p.c] : List V) = [z2.p.a, z2.p.b, z2.p.c].map V.int := rfl
    rw [e4, ← List.map_set, hπ]; rfl
  rw [e3]
  exact q .nx _ σ _ F2 q0 (S2.potSet hp π) (s1.trans s2)
/-- a loop that goes over data, told by a fold: st b z: the state z stands for b -/
theorem f1_forA {α β : Type} {iter : Expr} {body : List Stmt} {Q : Out → Zs → Prop} (vs : List Nat) (xs : List α) (enc : α → PyData) (st : β → Zs → Prop) (step : β → α → β) (b0 : β) (hp : PassesOwn (model X.prog X.w) X.A X.env X.xe) (hc : X.calm = true)
    (hi : FIP X C z tg iter (xs.map enc)) (h0 : st b0 z)
    (turn : ∀ (pre : List α) (x : α) (post : List α), xs = pre ++ x :: post → ∀ z2, st (pre.foldl step b0) z2 → FG X C vs z2 tg (enc x) fun z3 => FS X C z3 body fun o z4 => match o with
      | .nx => st (step (pre.foldl step b0) x) z4
      | .ct => st (step (pre.foldl step b0) x) z4
      | .bk => Q .nx z4
      | .rt d => Q (.rt d) z4)
    (fin : ∀ z2, st (xs.foldl step b0) z2 → Q .nx z2)
    (hs : ∀ x, foldedSetIterable iter X.env x = pure x := by intro _; rfl) : F1 X C z (.For tg iter body [] pos) Q := by
  refine f1_for vs hp hc (fi_mono hi fun ds z1 ⟨e1, e2⟩ => ?_) hs
  subst e1 e2
  refine ⟨fun i z2 => st ((xs.take i).foldl step b0) z2, h0, fun i d z2 hd hst => ?_, fun z2 h => fin z2 ?_⟩
  · rw [List.getElem?_map] at hd
    cases hx : xs[i]? with
    | none => rw [hx] at hd; cases hd
    | some x =>
      rw [hx] at hd
      cases hd
      have hlt := (List.getElem?_eq_some_iff.mp hx).1
      have hxe := (List.getElem?_eq_some_iff.mp hx).2
      have e : xs = xs.take i ++ x :: xs.drop (i + 1) := by
        rw [← hxe, List.getElem_cons_drop, List.take_append_drop]
      have e2 : (xs.take (i + 1)).foldl step b0 = step ((xs.take i).foldl step b0) x := by
        rw [List.take_succ, hx, List.foldl_append]; rfl
      have := turn (xs.take i) x (xs.drop (i + 1)) e z2 hst
      rw [← e2] at this
      exact this
  · rw [List.length_map, List.take_length] at h
    exact h
end
end DL

set_option Elab.async false
set_option linter.all false
set_option maxRecDepth 100000
set_option maxHeartbeats 4000000
set_option autoImplicit false
namespace DL
open PySem PySem.Spec PyProof.Rows L2

/-! ### a tuple so many times -/
theorem mulT1 (l : Addr) (items : Array Value) (n : Nat) (dd : Option Addr) (sl : Array (Option Value)) (u : Tok) :
    Meets (Builtin.«tuple.__mul__» ⟨[.ref l, .int 1 u], []⟩) (fun _ R s => s.heap.get? l = some { cls := .type "tuple", dict := dd, data := .seq items n, slots := sl } ∧ R (.ok (.ret (Value.ref l))) s) :=
  .of_wp fun prog w A R s h => by
    obtain ⟨hp, gn, dr, tk, os⟩ := s
    obtain ⟨hl, hr⟩ := h
    have fi := AutoSeq1.idx_int
    have c1 : (items.isEmpty || (1 : Int) == 1) = true := by simp
    wp_walk using wpAny_loadPart' hl
    exact ⟨_, rfl, hr⟩
theorem mulT0 (l : Addr) (items : Array Value) (n : Nat) (dd : Option Addr) (sl : Array (Option Value)) (u : Tok) (hne : items.isEmpty = false) :
    Meets (Builtin.«tuple.__mul__» ⟨[.ref l, .int 0 u], []⟩) (fun _ R s => s.heap.get? l = some { cls := .type "tuple", dict := dd, data := .seq items n, slots := sl } ∧ R (.ok (.ret (Value.ref s.heap.objs.size))) { s with heap := s.heap.push { cls := Value.type "tuple", data := Data.seq #[] } }) :=
  .of_wp fun prog w A R s h => by
    obtain ⟨hp, gn, dr, tk, os⟩ := s
    obtain ⟨hl, hr⟩ := h
    have fi := AutoSeq1.idx_int
    have c1 : (items.isEmpty || (0 : Int) == 1) = false := by rw [hne]; rfl
    have c2 : (decide ((0 : Int) ≤ 0) || items.isEmpty) = true := rfl
    wp_walk using wpAny_loadPart' hl
    exact ⟨_, rfl, hr⟩
def rRepT01 (K : PySem.W.Frag) : R2 := fun x y H Q => ∃ l k xs, x = .ref l ∧ y = .int k ∧ SqT K H l xs ∧ xs ≠ [] ∧ ((k = 1 ∧ Q (.ref l) H) ∨ (k = 0 ∧ ∀ p, H p = none → Q (.ref p) (upd H p (.tup []))))
theorem op_repT01 {X : Cx} : OpR X (binaryOp .Mult) (rRepT01 X.K) := by
  intro pins s σ H x y v u Q I rx ry h
  obtain ⟨l, k, xs, rfl, rfl, hT, hne, q⟩ := h
  cases rx
  obtain ⟨t, rfl⟩ := ry
  obtain ⟨its, r, ⟨⟨cls, dd, data, sl⟩, ho, hcls, n, hdat⟩, hs⟩ := I.tuple hT
  simp only at hcls hdat
  subst hcls hdat
  have hi : its.toArray.isEmpty = false := by
    cases its with
    | nil =>
      cases r
      exact absurd rfl hne
    | cons a b => rfl
  refine wpAny_binaryOp_repeat_ref (T := "tuple") (U := "int") (by decide) ⟨_, ho, rfl⟩ (fun s' => typeIs_int s' k t) noFill_tuple_mul F.fills_int_mul F.slot_int_rmul repeat_tuple F.slot_int_index.lookup ?_
  refine call_meets F.slot_int_rmul (typeIs_int s k t) F.entry_int_rmul (F.args_int_rmul_2 _ _) (int_rmul_tuple k t l its.toArray n dd sl) ⟨ho, rfl, ⟨_, ho, rfl⟩, ?_⟩
  rcases q with ⟨rfl, q⟩ | ⟨rfl, q⟩
  · exact call_meets F.slot_tuple_mul ⟨_, ho, rfl⟩ F.entry_tuple_mul (F.args_tuple_mul_2 _ _) (mulT1 l its.toArray n dd sl t) ⟨ho, .ref l, H, I, rfl, q⟩
  · refine call_meets F.slot_tuple_mul ⟨_, ho, rfl⟩ F.entry_tuple_mul (F.args_tuple_mul_2 _ _) (mulT0 l its.toArray n dd sl t hi) ⟨ho, ?_⟩
    exact ⟨.ref s.heap.objs.size, _, I.laid (t' := s.toks) (o := .tup []) (fun b ob e => Heap.get?_push_of_some _ e) (Nat.le_refl _) ⟨Nat.zero_le _, [], .nil, IsTup.new _ _⟩, rfl, q _ (I.hok.fresh (Nat.le_refl _))⟩
section
variable {X : Cx} {C : Ct} {z : Zs} {a b c e : Expr} {pos p pn p2 : Pos} {tg : Expr}
theorem fp_repT {ds : List PyData} {k : Int} (hK : C.K = X.K) (ha : FP X C z a (.tuple ds)) (hb : FP X C z b (.int k)) (hne : ds ≠ []) (h0 : 0 ≤ k) (h1 : k ≤ 1000) (hl : ds.length ≤ 1000) : FP X C z (.BinOp a .Mult b pos) (.tuple (List.replicate k.toNat ds).flatten) := by
  have conv : ∀ {F H : Hp} {v u : V}, Sub F H → RV C.K C.P F v (.d (.tuple ds)) → RV C.K C.P F u (.d (.int k)) → ∃ q ws, v = .ref q ∧ u = .int k ∧ SqT X.K H q ws ∧ ws ≠ [] ∧ ws.length = ds.length ∧ DpAll C.K F ws ds := by
    intro F H v u s r1 r2
    obtain ⟨q, ws, ev, hq, hp⟩ := dp_tuple r1
    refine ⟨q, ws, ev, dp_int r2, by rw [← hK]; exact s.st hq, fun e => ?_, dpAll_len hp, hp⟩
    subst e
    cases hp
    exact hne rfl
  by_cases h2 : 2 ≤ k
  · refine fp_bin (fun _ _ ha hb => pe_op op_repT ha hb) ha hb fun kk h => ?_
    intro F H v u Q' s r1 r2 q
    obtain ⟨t, ws, rfl, rfl, hq, hn, hln, hp⟩ := conv s r1 r2
    refine ⟨t, k, ws, rfl, rfl, hq, hn, h2, h1, by omega, fun p hpn => ?_⟩
    exact q _ _ _ (upd F p (.tup (List.replicate k.toNat ws).flatten)) h (Grow.new s hpn) (.tup (SqT.of upd_same) (dpAll_mono (sub_new (none_of_sub s hpn)) _ _ (dpAll_rep hp k.toNat)))
  · refine fp_bin (fun _ _ ha hb => pe_op op_repT01 ha hb) ha hb fun kk h => ?_
    intro F H v u Q' s r1 r2 q
    obtain ⟨t, ws, rfl, rfl, hq, hn, hln, hp⟩ := conv s r1 r2
    refine ⟨t, k, ws, rfl, rfl, hq, hn, ?_⟩
    rcases (show k = 1 ∨ k = 0 by omega) with e | e
    · subst e
      refine .inl ⟨rfl, q _ _ H F h (Grow.refl s) ?_⟩
      have e2 : (List.replicate (1 : Int).toNat ds).flatten = ds := by simp
      rw [e2]; exact r1
    · subst e
      refine .inr ⟨rfl, fun p hpn => q _ _ _ (upd F p (.tup [])) h (Grow.new s hpn) ?_⟩
      have e2 : (List.replicate (0 : Int).toNat ds).flatten = [] := by simp
      rw [e2]
      exact .tup (SqT.of upd_same) .nil

/-! ### a def that gives a new list -/
def SpL (K : PySem.W.Frag) (W : List DV → (List PyData → Prop) → Prop) : Sp := fun vs H Q _ => ∃ (F : Hp) (ds : List DV) (k : List PyData → Prop), W ds k ∧ Sub F H ∧ Paired (RV K none F) vs ds ∧ TabOk H F ∧
  ∀ a us es H' F', k es → Sub F F' → Sub F' H' → (∀ b o, H b = some o → (∀ ps, o ≠ .tbl ps) → H' b = some o) → (∀ b o, F' b = some o → F b = some o ∨ H b = none ∨ ∃ ps, H b = some (.tbl ps)) → TabOk H' F' →
    H' a = some (.lst us) → F' a = none → (H a = none ∨ ∃ ps, H a = some (.tbl ps)) → DpAll K F' us es → Q (.ref a) H'
def tWSL (C : Ct) (z : Zs) (Q : List PyData → Prop) : TS := fun D σ H => ∃ F, Sim C z σ H F ∧ ∀ a vs ds z' σ' H' F', Q ds → Sim C z' σ' H' F' → Sub F F' → Own C z' σ' H' F' a vs → DpAll C.K F' vs ds → D.rt (.ref a) H'
theorem psl_cons {X : Cx} {C : Ct} {z : Zs} {st : Stmt} {rest : List Stmt} {Q : List PyData → Prop} {N : Zs → Prop} (h : F1 X C z st (Then (fun _ _ => False) N)) (hr : ∀ z1, N z1 → PSs X rest (tWSL C z1 Q)) : PSs X (st :: rest) (tWSL C z Q) := by
  have pr : PSs X rest (fun D σ H => ∃ z1, N z1 ∧ tWSL C z1 Q D σ H) := ⟨fun pins s σ H D I ⟨z1, n, w⟩ => (hr z1 n).run pins s σ H D I w⟩
  refine pss_con (pss_cons h pr) ?_
  rintro D σ H ⟨F, S, q⟩
  refine ⟨F, S, fun o z1 σ1 H1 F1 q1 S1 s1 => ?_⟩
  cases o with
  | nx => exact ⟨z1, q1, F1, S1, fun a vs ds z2 σ2 H2 F2 q2 S2 s2 => q a vs ds z2 σ2 H2 F2 q2 S2 (s1.trans s2)⟩
  | rt d => exact q1.elim
  | bk => exact q1.elim
  | ct => exact q1.elim
theorem psl_ret {X : Cx} {C : Ct} {z : Zs} {e : Expr} {pos : Pos} {Q : List PyData → Prop} (h : FL X C z e fun ds _ => Q ds) : PSs X [.Return (some e) pos] (tWSL C z Q) := by
  refine pss_con (pss_one (ps_ret h)) ?_
  rintro D σ H ⟨F, S, q⟩
  exact ⟨F, S, fun a vs ds z' H' F' q1 S1 s1 o r => q a vs ds z' σ H' F' q1 S1 s1 o r⟩
end
theorem paired_len {K : PySem.W.Frag} {P : Option Addr} {F : Hp} {vs : List V} {ds : List DV} (h : Paired (RV K P F) vs ds) : vs.length = ds.length := Paired.length h
theorem paired_at {K : PySem.W.Frag} {Pt : Option Addr} {F0 : Hp} : ∀ {vs : List V} {ds : List DV}, Paired (RV K Pt F0) vs ds → ∀ (i : Nat) (h1 : i < vs.length) (h2 : i < ds.length), RV K Pt F0 vs[i] ds[i] := by
  intro vs ds h
  induction h with
  | nil => intro i h1; simp at h1
  | cons r t ih =>
    intro i h1 h2
    cases i with
    | zero => exact r
    | succ i => exact ih i (by simpa using h1) (by simpa using h2)
theorem sim_enter {K : PySem.W.Frag} {F0 H : Hp} {ds : List DV} {vs : List V} {N : List Str} (sF : Sub F0 H) (hp : Paired (RV K none F0) vs ds) (tb : TabOk H F0) :
    ∃ hold : Hp, (∀ a o, H a = some o → (∀ ps, o ≠ .tbl ps) → hold a = some o) ∧ Sim ⟨K, none, hold, F0⟩ ⟨ds.map Sl.v ++ List.replicate (N.length - ds.length) .un, ⟨0, 0, 0⟩⟩ (L2.start N vs) H F0 := by
  classical
  refine ⟨fun a => if ∃ ps, H a = some (.tbl ps) then none else H a, fun a o e nt => ?_, ?_⟩
  · dsimp only
    rw [if_neg (fun ⟨ps, z⟩ => nt ps (by rw [e] at z; exact Option.some.inj z))]; exact e
  · refine ⟨sF, Sub.refl _, fun a o e => ?_, fun a o e => .inl e, fun i sl e => ?_, fun i j xs ys a _ e1 => ?_, fun p e => (by cases e), ?_, fun p e => ⟨(tb.t p e).1, (tb.t p e).2, ?_⟩, tb.f, fun a ps e => ?_⟩
    · dsimp only at e
      split at e
      · cases e
      · exact e
    · have e : (ds.map Sl.v ++ List.replicate (N.length - ds.length) Sl.un)[i]? = some sl := e
      by_cases hi : i < ds.length
      · rw [List.getElem?_append_left (by rw [List.length_map]; exact hi), List.getElem?_map, List.getElem?_eq_getElem hi] at e
        cases e
        have hvi : i < vs.length := by rw [paired_len hp]; exact hi
        refine ⟨vs[i], ?_, paired_at hp i hvi hi⟩
        unfold L2.start
        rw [List.getElem?_append_left (by rw [List.length_map]; exact hvi), List.getElem?_map, List.getElem?_eq_getElem hvi]
        rfl
      · rw [List.getElem?_append_right (by rw [List.length_map]; omega), List.getElem?_replicate] at e
        split at e
        · cases e; trivial
        · cases e
    · have e1 : (ds.map Sl.v ++ List.replicate (N.length - ds.length) Sl.un)[i]? = some (.ow xs) := e1
      have := List.mem_of_getElem? e1
      rcases List.mem_append.mp this with m | m
      · obtain ⟨y, _, ey⟩ := List.mem_map.mp m
        cases ey
      · have := List.eq_of_mem_replicate m
        cases this
    · show (ds.map Sl.v ++ List.replicate (N.length - ds.length) Sl.un).length = (L2.start N vs).length
      unfold L2.start
      simp only [List.length_append, List.length_map, List.length_replicate, paired_len hp]
    · obtain ⟨ps, t1, _⟩ := (tb.t p e).1
      exact if_pos ⟨ps, t1⟩
    · dsimp only at e
      split at e
      · cases e
      · rename_i n; exact n ⟨ps, e⟩
theorem ok_defL {P : Program} {w : World} {K : PySem.W.Frag} {mg : Str → Option Value} {base : Heap} {x qual : Str} {st : Stmt} {f : Addr} {fd : FuncData} {N ps : List Str} {k : Nat} {W : List DV → (List PyData → Prop) → Prop} (F : Fun K x qual st f fd) (S : FnScope N ps (defScope st))
    (len : ∀ ds q, W ds q → ds.length = ps.length)
    (hbody : ∀ (cdv : Value) (A : Around) (outer : List Env) (s : Shared) (H : Hp) (E : XK) (ds : List DV) (q : List PyData → Prop) (C : Ct), Room k (A.deeper (envOfC qual (defScope st) s.heap.objs.size f cdv)) → C.K = K → W ds q →
      PSs (cxOf CX0 P w K mg base N qual (defScope st) f cdv A outer s H E).nox (defBody st) (tWSL C ⟨ds.map Sl.v ++ List.replicate (N.length - ds.length) .un, ⟨0, 0, 0⟩⟩ q)) : FnOk P w K mg base CX0 (k + 1) f fd ps (SpL K W) := by
  refine F.ok S (fun vs H Q E h => ?_) (fun cdv A outer s H vs Q E hr h => ?_)
  · obtain ⟨F, ds, q, hw, _, hp, _⟩ := h
    rw [paired_len hp]; exact len ds q hw
  · obtain ⟨F0, ds, q, hw, sF, hp, tb, fin⟩ := h
    obtain ⟨hold, hh, S0⟩ := sim_enter (N := N) sF hp tb
    refine ⟨_, hbody cdv A outer s H E ds q ⟨K, none, hold, F0⟩ hr rfl hw, F0, S0, fun a us es z' σ' H' F' qo S' s' o r => ?_⟩
    refine fin a us es H' F' qo s' S'.sub (fun b u e nt => S'.keep b u (hh b u e nt)) (fun b u e => ?_) ⟨fun p e => ⟨(S'.tab p e).1, (S'.tab p e).2.1⟩, S'.ft⟩ o.at_ o.nf ?_ r
    · rcases S'.fresh b u e with g | g
      · exact .inl g
      · rcases none_or (H := H) (a := b) with g2 | ⟨u2, g2⟩
        · exact .inr (.inl g2)
        · by_cases nt : ∃ ps, u2 = .tbl ps
          · obtain ⟨ps, ep⟩ := nt
            exact .inr (.inr ⟨ps, by rw [← ep]; exact g2⟩)
          · have h3 := hh b u2 g2 (fun ps q => nt ⟨ps, q⟩)
            have g : hold b = none := g
            rw [h3] at g; cases g
    · have g : hold a = none := o.nh
      rcases none_or (H := H) (a := a) with g2 | ⟨u2, g2⟩
      · exact .inl g2
      · by_cases nt : ∃ ps, u2 = .tbl ps
        · obtain ⟨ps, ep⟩ := nt
          exact .inr ⟨ps, by rw [← ep]; exact g2⟩
        · have h3 := hh a u2 g2 (fun ps q => nt ⟨ps, q⟩)
          rw [h3] at g; cases g
def HasDefL (P : Program) (w : World) (K : PySem.W.Frag) (mg : Str → Option Value) (base : Heap) (x : Str) (k : Nat) (ps : List Str) (W : List DV → (List PyData → Prop) → Prop) : Prop :=
  ∃ (f : Addr) (fd : FuncData), FnOk P w K mg base CX0 k f fd ps (SpL K W) ∧ mg x = some (.ref f) ∧ PySem.W.keepIn K (.ref f) = true ∧ Binds K fd ps []
section
variable {X : Cx} {C : Ct} {z : Zs} {a : Expr} {es : List Expr} {pos pos2 p p2 : Pos}
theorem paired_plain {K : PySem.W.Frag} {P : Option Addr} {F : Hp} : ∀ {vs : List V} {ds : List PyData}, Paired (RV K P F) vs (ds.map .d) → Paired (RV K none F) vs (ds.map .d)
  | _, [], h => by cases h; exact .nil
  | _, d :: ds, h => by
    cases h with
    | cons r t => exact .cons r (paired_plain t)
/-- y(x(..)): the new list that x gives is y's pot -/
theorem fp_freshPot {k k2 n : Nat} {ps ps2 : List Str} {x y : Str} {W1 : List DV → (List PyData → Prop) → Prop} {W2 : WF} {ds : List PyData} {d : PyData} (D1 : HasDefL X.prog X.w X.K X.mg X.base x k ps W1) (D2 : HasDef X.prog X.w X.K X.mg X.base y k2 ps2 W2)
    (hr : Room n X.A) (hn : k ≤ n) (hn2 : k2 ≤ n) (hK : C.K = X.K)
    (ha : FPA X C z (a :: es) ds) (hw : W1 (ds.map .d) fun us => ∃ i j l : Int, us = [.int i, .int j, .int l] ∧ W2 [.pot] ⟨i, j, l⟩ fun d' _ => d' = .d d) (hg : Gl X x := by rfl) (hg2 : Gl X y := by rfl)
    (hdb : (x == ("__debug__" : Str)) = false := by decide) (hdb2 : (y == ("__debug__" : Str)) = false := by decide)
    (he : starEach (a :: es) X.env = (false, eval a X.env) :: starEach es X.env := by rfl) (hpl : (backTo pos (starEach es X.env)).any (·.1) = false := by rfl)
    (he2 : starEach [.Call (.Name x p) (a :: es) [] pos] X.env = (false, eval (.Call (.Name x p) (a :: es) [] pos) X.env) :: starEach [] X.env := by rfl) (hpl2 : (backTo pos2 (starEach [] X.env)).any (·.1) = false := by rfl) :
    FP X C z (.Call (.Name y p2) [.Call (.Name x p) (a :: es) [] pos] [] pos2) d := by
  obtain ⟨f, fd, ok, hm, hk, hb⟩ := D1
  obtain ⟨f2, fd2, ok2, hm2, hk2, hb2⟩ := D2
  refine pe_con (pe_call ok2 (hr.mono hn2) hg2 hm2 hk2 hb2 .nil pass0 (pa_cons (pe_call ok (hr.mono hn) hg hm hk hb .nil pass0 ha hdb he hpl) pa_nil he2) hdb2 he2 hpl2) ?_
  rintro σ H R ⟨F, S, kk⟩
  refine ⟨F, S, fun vs ds' z1 H1 F1 ⟨e1, e2⟩ S1 s1 r1 => ?_⟩
  subst e1 e2
  show SpL X.K W1 (vs ++ []) H1 _ E0
  rw [List.append_nil]
  rw [hK] at r1
  have r1 := paired_plain r1
  refine ⟨F1, _, _, hw, S1.sub, r1, ⟨fun p e => ⟨(S1.tab p e).1, (S1.tab p e).2.1⟩, S1.ft⟩, fun q us xs H2 F2 k2 sF sH kp fr tb hq fq nq dp => ?_⟩
  obtain ⟨i, j, l, rfl, w2⟩ := k2
  have eu : us = [V.int i, V.int j, V.int l] := dp_ints (ns := [i, j, l]) dp
  subst eu
  show SpD X.K W2 [.ref q] H2 R E0
  refine ⟨some q, F2, ⟨i, j, l⟩, [.pot], _, w2, sH, .cons ⟨q, rfl, rfl⟩ .nil, fun p e => ?_, tb, fun v d' π' H3 F3 e sF3 sH3 kp3 fr3 po3 tb3 rv => ?_⟩
  · cases e
    exact ⟨hq, fq⟩
  · subst e
    have ne : ∀ b o, H1 b = some o → (∀ ps, o ≠ .tbl ps) → b ≠ q := fun b o e nt w => by
      subst w
      rcases nq with w | ⟨ps, w⟩
      · rw [w] at e; cases e
      · rw [w] at e; cases e; exact nt ps rfl
    have S3 := S1.after (π' := z1.p) (sF.trans sF3) sH3 (fun b o e _ nt => kp3 b o (kp b o e nt) (fun w => ne b o e nt (Option.some.inj w).symm) nt) (fun b o e => by
      rcases fr3 b o e with w | w | w
      · exact fr b o w
      · rcases none_or (H := H1) (a := b) with g | ⟨u, g⟩
        · exact .inr (.inl g)
        · by_cases nt : ∃ ps, u = .tbl ps
          · obtain ⟨ps, ep⟩ := nt
            exact .inr (.inr ⟨ps, by rw [← ep]; exact g⟩)
          · have := kp b u g (fun ps q => nt ⟨ps, q⟩)
            rw [w] at this; cases this
      · obtain ⟨ps, w⟩ := w
        rcases none_or (H := H1) (a := b) with g | ⟨u, g⟩
        · exact .inr (.inl g)
        · by_cases nt : ∃ ps, u = .tbl ps
          · obtain ⟨ps, ep⟩ := nt
            exact .inr (.inr ⟨ps, by rw [← ep]; exact g⟩)
          · have := kp b u g (fun ps q => nt ⟨ps, q⟩)
            rw [w] at this; cases this
            exact (nt ⟨ps, rfl⟩).elim) (fun p e => by
      obtain ⟨g1, g2, g3⟩ := S1.pot p e
      have n1 : p ≠ q := ne p _ g1 (fun ps w => by cases w)
      refine ⟨kp3 p _ (kp p _ g1 fun ps w => by cases w) (fun w => n1 (Option.some.inj w).symm) (fun ps w => by cases w), ?_⟩
      rcases none_or (H := F3) (a := p) with w | ⟨o, w⟩
      · exact w
      · rcases fr3 p o w with w | w | ⟨ps, w⟩
        · rcases fr p o w with w | w | ⟨ps, w⟩
          · rw [g2] at w; cases w
          · rw [g1] at w; cases w
          · rw [g1] at w; cases w
        · have := kp p _ g1 fun ps w => by cases w
          rw [w] at this; cases this
        · have := kp p _ g1 fun ps w => by cases w
          rw [w] at this; cases this) tb3
    refine kk v _ _ H3 F3 ⟨rfl, rfl⟩ S3 (s1.trans (sF.trans sF3)) ?_
    show Dp C.K F3 v d
    rw [hK]
    exact rv
end
end DL

set_option Elab.async false
set_option linter.all false
set_option maxRecDepth 100000
set_option maxHeartbeats 4000000
set_option autoImplicit false
namespace DL
open PySem PySem.Spec PyProof.Rows L2
/-! ### a list of one's own becomes plain data -/
theorem Sim.forget {C : Ct} {z : Zs} {σ : L2.St} {H F : Hp} (S : Sim C z σ H F) (i : Nat) : Sim C ⟨z.r.set i .un, z.p⟩ σ H F where
  sub := S.sub
  ext := S.ext
  keep := S.keep
  fresh := S.fresh
  slots := fun j s e => by
    have e : (z.r.set i .un)[j]? = some s := e
    by_cases h : i = j
    · subst h
      have hl : i < z.r.length := by
        have := (List.getElem?_eq_some_iff.mp e).1
        rwa [List.length_set] at this
      rw [List.getElem?_set_self hl] at e
      cases e
      trivial
    · rw [List.getElem?_set_ne h] at e
      exact S.slots j s e
  sep := fun j k xs ys a n e1 e2 h1 => by
    have ne : ∀ (l : Nat) (ws : List PyData), (z.r.set i .un)[l]? = some (.ow ws) → z.r[l]? = some (.ow ws) := fun l ws e => by
      by_cases q : i = l
      · subst q
        have hl : i < z.r.length := by
          have := (List.getElem?_eq_some_iff.mp e).1
          rwa [List.length_set] at this
        rw [List.getElem?_set_self hl] at e
        cases e
      · rw [List.getElem?_set_ne q] at e; exact e
    exact S.sep j k xs ys a n (ne j xs e1) (ne k ys e2) h1
  pot := S.pot
  len := by rw [List.length_set]; exact S.len
  tab := S.tab
  ft := S.ft
  ht := S.ht
theorem Sim.learn {C : Ct} {r : List Sl} {p : Pot} {σ : L2.St} {H F : Hp} {i : Nat} {v : V} {d : DV} (S : Sim C ⟨r.set i .un, p⟩ σ H F) (hv : σ[i]? = some (some v)) (rv : RV C.K C.P F v d) : Sim C ⟨r.set i (.v d), p⟩ σ H F where
  sub := S.sub
  ext := S.ext
  keep := S.keep
  fresh := S.fresh
  slots := fun j s e => by
    have e : (r.set i (.v d))[j]? = some s := e
    by_cases h : i = j
    · subst h
      have hl : i < r.length := by
        have := (List.getElem?_eq_some_iff.mp e).1
        rwa [List.length_set] at this
      rw [List.getElem?_set_self hl] at e
      cases e
      exact ⟨v, hv, rv⟩
    · rw [List.getElem?_set_ne h] at e
      exact S.slots j s (by show (r.set i .un)[j]? = _; rw [List.getElem?_set_ne h]; exact e)
  sep := fun j k xs ys a n e1 e2 h1 => by
    have ne : ∀ (l : Nat) (ws : List PyData), (r.set i (.v d))[l]? = some (.ow ws) → (r.set i .un)[l]? = some (.ow ws) := fun l ws e => by
      by_cases q : i = l
      · subst q
        have hl : i < r.length := by
          have := (List.getElem?_eq_some_iff.mp e).1
          rwa [List.length_set] at this
        rw [List.getElem?_set_self hl] at e
        cases e
      · rw [List.getElem?_set_ne q] at e ⊢; exact e
    exact S.sep j k xs ys a n (ne j xs e1) (ne k ys e2) h1
  pot := S.pot
  len := by
    have := S.len
    rw [List.length_set]
    rw [List.length_set] at this
    exact this
  tab := S.tab
  ft := S.ft
  ht := S.ht
theorem Sim.frozen {C : Ct} {z : Zs} {σ : L2.St} {H F : Hp} {i : Nat} {ds : List PyData} (S : Sim C z σ H F) (hz : z.r[i]? = some (.ow ds)) : ∃ F', Sub F F' ∧ Sim C ⟨z.r.set i (sd (.list ds)), z.p⟩ σ H F' := by
  obtain ⟨a, vs, e1, h1, f1, h2, p1, r1⟩ := S.slots i _ hz
  have hl : i < z.r.length := (List.getElem?_eq_some_iff.mp hz).1
  have o : Own C ⟨z.r.set i .un, z.p⟩ σ H F a vs := ⟨h1, f1, h2, p1, fun j xs e q => by
    have e : (z.r.set i .un)[j]? = some (.ow xs) := e
    by_cases w : i = j
    · subst w
      rw [List.getElem?_set_self hl] at e
      cases e
    · rw [List.getElem?_set_ne w] at e
      exact S.sep i j ds xs a w hz e e1 q⟩
  refine ⟨upd F a (.lst vs), sub_new f1, ((S.forget i).freeze o).learn e1 ?_⟩
  exact .lst (SqL.of upd_same) (dpAll_mono (sub_new f1) _ _ r1)
section
variable {X : Cx} {C : Ct} {z : Zs} {e a b : Expr} {st : Stmt} {sts : List Stmt} {pos p pn : Pos} {Q : Out → Zs → Prop}
theorem fs_freeze {ds : List PyData} (i : Nat) (hz : z.r[i]? = some (.ow ds)) (h : FS X C ⟨z.r.set i (sd (.list ds)), z.p⟩ sts Q) : FS X C z sts Q :=
  pss_con h fun D σ H ⟨F, S, q⟩ => by
    obtain ⟨F', s, S'⟩ := S.frozen hz
    exact ⟨F', S', fun o z' σ' H' F'' q1 S1 s1 => q o z' σ' H' F'' q1 S1 (s.trans s1)⟩
theorem fip_is {tg it : Expr} {ds ds' : List PyData} (h : FIP X C z tg it ds) (k : ds = ds') : FIP X C z tg it ds' := k ▸ h
/-- a loop over so many places -/
theorem f1_forI {iter tg : Expr} {body : List Stmt} (vs : List Nat) (n : Nat) (enc : Nat → PyData) (I : Nat → Zs → Prop) (hp : PassesOwn (model X.prog X.w) X.A X.env X.xe) (hc : X.calm = true)
    (hi : FIP X C z tg iter ((List.range n).map enc)) (h0 : I 0 z)
    (turn : ∀ i, i < n → ∀ z2, I i z2 → FG X C vs z2 tg (enc i) fun z3 => FS X C z3 body fun o z4 => match o with
      | .nx => I (i + 1) z4
      | .ct => I (i + 1) z4
      | .bk => Q .nx z4
      | .rt d => Q (.rt d) z4)
    (fin : ∀ z2, I n z2 → Q .nx z2)
    (hs : ∀ x, foldedSetIterable iter X.env x = pure x := by intro _; rfl) : F1 X C z (.For tg iter body [] pos) Q := by
  refine f1_for vs hp hc (fi_mono hi fun ds z1 ⟨e1, e2⟩ => ?_) hs
  subst e1 e2
  refine ⟨I, h0, fun i d z2 hd hst => ?_, fun z2 h => fin z2 (by rw [List.length_map, List.length_range] at h; exact h)⟩
  rw [List.getElem?_map] at hd
  by_cases hi : i < n
  · rw [List.getElem?_range hi] at hd
    cases hd
    exact turn i hi z2 hst
  · rw [List.getElem?_eq_none (by rw [List.length_range]; omega)] at hd
    cases hd
/-- x not in l, l a list of one's own -/
theorem ft_notinO {x : PyData} {ys : List PyData} {y : Str} (i : Nat) (hu : X.A.units + 65 < cLine) (hK : C.K = X.K) (ha : FP X C z a x) (hz : z.r[i]? = some (.ow ys)) (hx : SeqAt.shaped x = true) (hy : SeqAt.shaped (.list ys) = true)
    (hN : X.N[i]? = some y := by rfl) (hv : Vis X.env.scope y := by first | exact Or.inl rfl | exact Or.inr (Or.inl rfl) | exact Or.inr (Or.inr rfl))
    (hd : (y == ("__debug__" : Str)) = false := by decide) (hcd : (y == ("__classdict__" : Str)) = false := by decide) (hm : behindInMarks .NotIn (.Name y pn) = false := by rfl) :
    FPT X C z (.Compare a [.NotIn] [.Name y pn] pos) (!ys.any fun y => PyData.eqv y x) := by
  refine pt_con (pt_cmpR (op_notInD hu) ha (pe_var hN hv hd hcd) hm) ?_
  rintro σ H R ⟨F, S, k⟩
  refine ⟨F, S, fun v d z' H' F' ⟨e1, e2⟩ S' e r1 => ?_⟩
  subst e1 e2
  obtain ⟨q, vs, e1, h1, f1, _, _, rr⟩ := S'.slots i _ hz
  refine ⟨.ref q, e1, ?_⟩
  have sub' : Sub (upd F' q (.lst vs)) H' := fun b u e => by
    by_cases w : b = q
    · subst w; rw [upd_same] at e; cases e; exact h1
    · rw [upd_ne w] at e; exact S'.sub b u e
  have g := g2_notin (C := C) hx hy (k := fun d => d = .d (.bool (!ys.any fun y => PyData.eqv y x))) rfl
  rw [hK] at g
  refine g (upd F' q (.lst vs)) H' v (.ref q) _ sub' (r1.mono (sub_new f1)) (.lst (SqL.of upd_same) (dpAll_mono (sub_new f1) _ _ rr)) fun w d H3 F3 ek gr r3 => ?_
  subst ek
  exact ⟨_, dp_bool r3, k _ _ _ _ ⟨rfl, rfl⟩ (S'.grow ⟨Sub.refl _, gr.h, S'.sub.trans gr.h, fun _ _ h => .inl h, fun _ _ h => h⟩) e⟩
end
end DL

set_option Elab.async false
set_option linter.all false
set_option maxRecDepth 100000
set_option maxHeartbeats 4000000
set_option autoImplicit false
namespace DL
open PySem PySem.Spec PyProof.Rows L2
/-! ### powers of great ints -/
def CPowW (i j : Int) : Prop := 0 ≤ j ∧ (Builtin.Int.intBits i : Int) * j ≤ 2 ^ 27
theorem op_powW {X : Cx} : OpR X (binaryOp .Pow) (rI CPowW fun i j => .int (i ^ j.toNat)) := opI fun _ _ _ _ _ _ _ hc q => pow_int hc.1 hc.2 q
section
variable {X : Cx} {C : Ct} {z : Zs} {a b c e elt iter : Expr} {pos p pn pp : Pos} {x nm : Str} {Q : DV → Zs → Prop}
theorem fp_powW {i j : Int} (ha : FP X C z a (.int i)) (hb : FP X C z b (.int j)) (hc : CPowW i j) : FP X C z (.BinOp a .Pow b pos) (.int (i ^ j.toNat)) := fp_bin (fun _ _ => pe_op op_powW) ha hb fun _ h => g2_I (gg := fun i j => i ^ j.toNat) hc h

/-! ### draws -/
theorem fe_addD {i : Int} (ha : FP X C z a (.int i)) (hb : FE X C z b fun y z1 => ∃ j : Int, y = .d (.int j) ∧ Q (.d (.int (i + j))) z1) : FE X C z (.BinOp a .Add b pos) Q :=
  fe_bin (fun _ _ => pe_op op_add) ha fun _ _ ⟨e1, e2⟩ => by
    subst e1 e2
    exact fe_mono hb fun y z1 ⟨j, ey, q⟩ => by
      subst ey
      exact g2_I0 (gg := fun i j => i + j) q
/-- a sum whose first part is drawn too -/
theorem fe_addDD (ha : FE X C z a fun x z1 => ∃ i : Int, x = .d (.int i) ∧ FE X C z1 b fun y z2 => ∃ j : Int, y = .d (.int j) ∧ Q (.d (.int (i + j))) z2) : FE X C z (.BinOp a .Add b pos) Q :=
  fe_bin (fun _ _ => pe_op op_add) ha fun _ _ ⟨i, e1, hb⟩ => by
    subst e1
    exact fe_mono hb fun y z1 ⟨j, ey, q⟩ => by
      subst ey
      exact g2_I0 (gg := fun i j => i + j) q
/-- the pot's bounds: n draws at most behind it -/
structure PB (π : Pot) (n : Nat) : Prop where
  a : 0 ≤ π.a
  b0 : 0 ≤ π.b
  b1 : π.b < 2305843009213693952
  c0 : 0 ≤ π.c
  c1 : π.c ≤ n
theorem PB.mono {π : Pot} {n m : Nat} (h : PB π n) (k : n ≤ m) : PB π m := ⟨h.a, h.b0, h.b1, h.c0, by have := h.c1; omega⟩
def Wtake : WF := fun ds π q => ∃ (u : Int) (n : Nat), ds = [.pot, .d (.int u)] ∧ 1 ≤ u ∧ u < 1073741824 ∧ PB π n ∧ n < 1000000 ∧ ∀ (d : Int) (π' : Pot), 0 ≤ d → d < u → PB π' (n + 1) → q (.d (.int d)) π'
def Wof : WF := fun ds π q => ∃ (xs : List PyData) (n : Nat), ds = [.pot, .d (.list xs)] ∧ xs ≠ [] ∧ xs.length ≤ 100000 ∧ PB π n ∧ n < 1000000 ∧ ∀ x ∈ xs, ∀ π', PB π' (n + 1) → q (.d x) π'
theorem fa_consP {es : List Expr} {d : PyData} {Q : List DV → Zs → Prop} (h : FP X C z e d) (hr : FA X C z es fun ds z2 => Q (.d d :: ds) z2) (hs : starEach (e :: es) X.env = (false, eval e X.env) :: starEach es X.env := by rfl) : FA X C z (e :: es) Q :=
  fa_cons h (fun _ _ ⟨e1, e2⟩ => by
    subst e1 e2
    exact hr) hs
/-- [pot, e] -/
theorem fa_potP {d : PyData} {Q : List DV → Zs → Prop} (i : Nat) (hz : z.r[i]? = some sp) (he : FE X C z e fun y z1 => Q [.pot, y] z1)
    (hN : X.N[i]? = some x := by rfl) (hv : Vis X.env.scope x := by first | exact Or.inl rfl | exact Or.inr (Or.inl rfl) | exact Or.inr (Or.inr rfl))
    (hd : (x == ("__debug__" : Str)) = false := by decide) (hcd : (x == ("__classdict__" : Str)) = false := by decide)
    (hs : starEach [.Name x pn, e] X.env = (false, eval (.Name x pn) X.env) :: starEach [e] X.env := by rfl) (hs2 : starEach [e] X.env = (false, eval e X.env) :: starEach [] X.env := by rfl) : FA X C z [.Name x pn, e] Q :=
  fa_cons (fe_name (Q := fun d z1 => d = .pot ∧ z1 = z) i hN hv hz ⟨rfl, rfl⟩ hd hcd) (fun _ _ ⟨e1, e2⟩ => by
    subst e1 e2
    exact fa_cons he (fun y z1 q => fa_nil q) hs2) hs
theorem fe_take {k n m : Nat} {u : Int} (i : Nat) (D : HasDef X.prog X.w X.K X.mg X.base "_law_take" k ["pot", "upto"] Wtake) (hr : Room n X.A) (hn : k ≤ n) (hK : C.K = X.K) (hz : z.r[i]? = some sp) (he : FP X C z e (.int u)) (h1 : 1 ≤ u) (h2 : u < 1073741824) (hp : PB z.p m) (hm : m < 1000000)
    (q : ∀ (d : Int) (π' : Pot), 0 ≤ d → d < u → PB π' (m + 1) → Q (.d (.int d)) ⟨z.r, π'⟩)
    (hN : X.N[i]? = some x := by rfl) (hv : Vis X.env.scope x := by first | exact Or.inl rfl | exact Or.inr (Or.inl rfl) | exact Or.inr (Or.inr rfl))
    (hd : (x == ("__debug__" : Str)) = false := by decide) (hcd : (x == ("__classdict__" : Str)) = false := by decide)
    (hs : starEach [.Name x pn, e] X.env = (false, eval (.Name x pn) X.env) :: starEach [e] X.env := by rfl) (hs2 : starEach [e] X.env = (false, eval e X.env) :: starEach [] X.env := by rfl)
    (hg : Gl X "_law_take" := by rfl) (hpl : (backTo pos (starEach [e] X.env)).any (·.1) = false := by rfl) : FE X C z (.Call (.Name "_law_take" p) [.Name x pn, e] [] pos) Q :=
  fe_def D hr hn hK (fa_potP (d := .none) i hz (fe_mono he fun y z1 ⟨e1, e2⟩ => by
    subst e1 e2
    exact ⟨u, m, rfl, h1, h2, hp, hm, q⟩) hN hv hd hcd hs hs2) hg (by decide) hs hpl
theorem fe_of {k n : Nat} (i : Nat) (D : HasDef X.prog X.w X.K X.mg X.base "_law_of" k ["pot", "some"] Wof) (hr : Room n X.A) (hn : k ≤ n) (hK : C.K = X.K) (hz : z.r[i]? = some sp)
    (he : FE X C z e fun y z1 => ∃ (xs : List PyData) (m : Nat), y = .d (.list xs) ∧ xs ≠ [] ∧ xs.length ≤ 100000 ∧ PB z1.p m ∧ m < 1000000 ∧ ∀ x ∈ xs, ∀ π', PB π' (m + 1) → Q (.d x) ⟨z1.r, π'⟩)
    (hN : X.N[i]? = some x := by rfl) (hv : Vis X.env.scope x := by first | exact Or.inl rfl | exact Or.inr (Or.inl rfl) | exact Or.inr (Or.inr rfl))
    (hd : (x == ("__debug__" : Str)) = false := by decide) (hcd : (x == ("__classdict__" : Str)) = false := by decide)
    (hs : starEach [.Name x pn, e] X.env = (false, eval (.Name x pn) X.env) :: starEach [e] X.env := by rfl) (hs2 : starEach [e] X.env = (false, eval e X.env) :: starEach [] X.env := by rfl)
    (hg : Gl X "_law_of" := by rfl) (hpl : (backTo pos (starEach [e] X.env)).any (·.1) = false := by rfl) : FE X C z (.Call (.Name "_law_of" p) [.Name x pn, e] [] pos) Q :=
  fe_def D hr hn hK (fa_potP (d := .none) i hz (fe_mono he fun y z1 ⟨xs, m, ey, h1, h2, h3, h4, h5⟩ => by
    subst ey
    exact ⟨xs, m, rfl, h1, h2, h3, h4, h5⟩) hN hv hd hcd hs hs2) hg (by decide) hs hpl
/-- f(pot) -/
theorem fe_potCall {k n : Nat} {y : Str} {ps : List Str} {W : WF} (i : Nat) (D : HasDef X.prog X.w X.K X.mg X.base y k ps W) (hr : Room n X.A) (hn : k ≤ n) (hK : C.K = X.K) (hz : z.r[i]? = some sp) (w : W [.pot] z.p fun d π' => Q d ⟨z.r, π'⟩)
    (hN : X.N[i]? = some x := by rfl) (hv : Vis X.env.scope x := by first | exact Or.inl rfl | exact Or.inr (Or.inl rfl) | exact Or.inr (Or.inr rfl))
    (hd : (x == ("__debug__" : Str)) = false := by decide) (hcd : (x == ("__classdict__" : Str)) = false := by decide)
    (hs : starEach [.Name x pn] X.env = (false, eval (.Name x pn) X.env) :: starEach [] X.env := by rfl)
    (hg : Gl X y := by rfl) (hdb : (y == ("__debug__" : Str)) = false := by decide) (hpl : (backTo pos (starEach [] X.env)).any (·.1) = false := by rfl) : FE X C z (.Call (.Name y p) [.Name x pn] [] pos) Q :=
  fe_def D hr hn hK (fa_cons (fe_name (Q := fun d z1 => d = .pot ∧ z1 = z) i hN hv hz ⟨rfl, rfl⟩ hd hcd) (fun _ _ ⟨e1, e2⟩ => by
    subst e1 e2
    exact fa_nil w) hs) hg hdb hs hpl
/-- a comprehension whose element draws -/
theorem lcd_mapN {scope : Scope} {Q : List PyData → Zs → Prop} (i : Nat) (J : Nat → List PyData → Pot → Prop) (hN : X.N.Nodup)
    (hi : FI X C z (.Name nm pp) iter fun ds z1 => noOwnAt z1.r [i] = true ∧ J 0 [] z1.p ∧
      (∀ k d acc p, ds[k]? = some d → J k acc p → acc.length < 100000 ∧ ∀ (s : Shared) (H : Hp) (cc : Addr) (cl : List (Str × Addr)) (fp : List Addr) (C' : Ct), C'.K = C.K → C'.P = C.P →
        FE (blkX X scope s H cc cl fp) C' ⟨(wipeR z1.r [i]).set i (sd d), p⟩ elt fun y z5 => ∃ yd, y = .d yd ∧ z5.r = (wipeR z1.r [i]).set i (sd d) ∧ J (k + 1) (acc ++ [yd]) z5.p) ∧
      ∀ acc p, J ds.length acc p → Q acc ⟨z1.r, p⟩)
    (hx : X.N[i]? = some nm := by rfl) (hl : Loc (relS scope X.env.scope) nm := by first | exact .inl rfl | exact .inr rfl)
    (hf : (scope.names.lookup nm == some .cell) = true ∨ (relS scope X.env.scope).names.lookup nm = some .local := by first | exact .inr rfl | exact .inl rfl) :
    FI X C z (.Name nm pp) iter (LcQ X C scope [i] (.Name nm pp) elt [] Q) := by
  refine fi_mono hi fun ds z1 ⟨h1, h2, h3, h4⟩ => ⟨h1, J, h2, fun k d acc p hd hJ => ?_, h4⟩
  obtain ⟨g1, g2⟩ := h3 k d acc p hd hJ
  refine ⟨by rw [sizeLine_eq]; omega, fun s H cc cl fp C' hk hp => ?_⟩
  refine fg_name i hN hx hl ⟨(Outside.wipe z1.r [i]).set (by simp) _, fun s H cc cl fp => fts_nil ⟨rfl, ?_⟩⟩ (by simp) hf
  rw [if_pos rfl]
  intro s H cc cl fp
  exact fe_mono (g2 s H cc cl fp C' hk hp) fun y z5 ⟨yd, e1, e2, e3⟩ => ⟨yd, e1, e2, e3⟩
end
end DL

set_option Elab.async false
set_option linter.all false
set_option maxRecDepth 100000
set_option maxHeartbeats 4000000
set_option autoImplicit false
namespace DL
open PySem PySem.Spec PyProof.Rows L2
section
variable {X : Cx} {C : Ct} {z : Zs} {a b c e elt iter : Expr} {es : List Expr} {pos p pn pp : Pos} {x nm : Str}
/-! ### tests that draw -/
theorem fw_or1E {Q : Bool → Zs → Prop} (ha : FT X C z a Q) : FW X C z (.BoolOp .Or [a] pos) Q := pw_or1 ha
theorem fw_orE {Q : Bool → Zs → Prop} (ha : FT X C z a fun k z1 => (k = true → Q true z1) ∧ (k = false → FW X C z1 (.BoolOp .Or (b :: es) pos) Q)) : FW X C z (.BoolOp .Or (a :: b :: es) pos) Q := by
  have pb : PW X (.BoolOp .Or (b :: es) pos) (fun σ H R => ∃ z1, FW X C z1 (.BoolOp .Or (b :: es) pos) Q ∧ tWT C z1 Q σ H R) := ⟨fun wh pins s σ H R I ⟨z1, f, w⟩ => f.run wh pins s σ H R I w⟩
  refine pw_con (pw_or ha pb) ?_
  rintro σ H R ⟨F, S, k⟩
  refine ⟨F, S, fun b' z1 H1 F1 ⟨h1, h2⟩ S1 s1 => ?_⟩
  cases b' with
  | true =>
    rw [if_pos rfl]
    exact k true z1 H1 F1 (h1 rfl) S1 s1
  | false =>
    rw [if_neg Bool.false_ne_true]
    exact ⟨z1, h2 rfl, F1, S1, fun b2 z2 H2 F2 q S2 s2 => k b2 z2 H2 F2 q S2 (s1.trans s2)⟩
theorem ft_wE {Q : Bool → Zs → Prop} (h : FW X C z e Q) : FT X C z e Q := PW.pt h
theorem ft_notE {Q : Bool → Zs → Prop} (h : FT X C z a fun k z1 => Q (!k) z1) : FT X C z (.UnaryOp .Not a pos) Q := by
  refine pt_con (pt_not h) ?_
  rintro σ H R ⟨F, S, k⟩
  exact ⟨F, S, fun b' z' H' F' q S' e => k _ _ _ _ q S' e⟩
theorem ft_valE {Q : Bool → Zs → Prop} (h : FE X C z e fun d z1 => ∃ k, d = .d (.bool k) ∧ Q k z1) (he : ∀ whole, isTrue e X.env whole = (do let v ← whole; standAt e.pos; holding [v] (truthy v)) := by intro _; rfl) : FT X C z e Q := by
  refine pt_con (pt_val h he) ?_
  rintro σ H R ⟨F, S, k⟩
  refine ⟨F, S, fun v d z' H' F' ⟨q, e1, h1⟩ S' e r => ?_⟩
  subst e1
  exact ⟨q, dp_bool r, k _ _ _ _ h1 S' e⟩
theorem fa_consE {Q : List DV → Zs → Prop} (h : FE X C z e fun d z1 => FA X C z1 es fun ds z2 => Q (d :: ds) z2) (hs : starEach (e :: es) X.env = (false, eval e X.env) :: starEach es X.env := by rfl) : FA X C z (e :: es) Q :=
  fa_cons h (fun _ _ q => q) hs
/-- one of a list that is written, the last of them drawn -/
theorem fe_list {Q' : DV → Zs → Prop} (h : FA X C z es fun ds z1 => ∃ xs, ds = xs.map .d ∧ xs.length ≤ sizeLine ∧ Q' (.d (.list xs)) z1) : FE X C z (.List es pos) Q' := fe_fl (fl_list (Q := fun xs z1 => Q' (.d (.list xs)) z1) h)
end
end DL
namespace DL
open PySem PySem.Spec PyProof.Rows L2
theorem fa_fpa {X : Cx} {C : Ct} {z : Zs} {es : List Expr} {ds : List PyData} {Q : List DV → Zs → Prop} (h : FPA X C z es ds) (k : Q (ds.map .d) z) : FA X C z es Q :=
  fa_mono h fun _ _ ⟨e1, e2⟩ => by
    subst e1 e2
    exact k
end DL

namespace DL
open PySem PySem.Spec PyProof.Rows L2
theorem fa_potE {X : Cx} {C : Ct} {z : Zs} {es : List Expr} {pn : PySem.Pos} {x : Str} {Q : List DV → Zs → Prop} (i : Nat) (hz : z.r[i]? = some sp) (hr : FA X C z es fun ds z2 => Q (.pot :: ds) z2)
    (hN : X.N[i]? = some x := by rfl) (hv : Vis X.env.scope x := by first | exact Or.inl rfl | exact Or.inr (Or.inl rfl) | exact Or.inr (Or.inr rfl))
    (hd : (x == ("__debug__" : Str)) = false := by decide) (hcd : (x == ("__classdict__" : Str)) = false := by decide)
    (hs : starEach (.Name x pn :: es) X.env = (false, eval (.Name x pn) X.env) :: starEach es X.env := by rfl) : FA X C z (.Name x pn :: es) Q :=
  fa_cons (fe_name (Q := fun d z1 => d = .pot ∧ z1 = z) i hN hv hz ⟨rfl, rfl⟩ hd hcd) (fun _ _ ⟨e1, e2⟩ => by
    subst e1 e2
    exact hr) hs
end DL

set_option Elab.async false
set_option linter.all false
set_option maxRecDepth 100000
set_option maxHeartbeats 4000000
set_option autoImplicit false
namespace K28
open PySem PySem.Spec PyProof.Rows L2 DL
abbrev Pg : Program := PySem.Challenge.pw_mountedintime_k28_whole_bounds_added_and
abbrev st (i : Nat) : Stmt := topOf Pg i
/-- what is built in and not covered -/
structure Blt (mg : Str → Option Value) : Prop where
  isinstance : mg "isinstance" = none
  tuple : mg "tuple" = none
  int : mg "int" = none
  bool : mg "bool" = none
  len : mg "len" = none
  all : mg "all" = none
  min : mg "min" = none
  max : mg "max" = none
  sum : mg "sum" = none
  range : mg "range" = none
  sorted : mg "sorted" = none
  set : mg "set" = none
  abs : mg "abs" = none
  zip : mg "zip" = none
  list : mg "list" = none
section
variable {P : Program} {w : World} {K : PySem.W.Frag} {mg : Str → Option Value} {base : Heap} {f : Addr} {fd : FuncData}

def WisTuple : WF := fun ds π q => ∃ (xs : List PyData) (a b : Int), ds = [.d (.tuple xs), .d (.int a), .d (.int b)] ∧ q (.d (.bool (decide (a ≤ xs.length) && decide ((xs.length : Int) ≤ b)))) π
theorem sc1 : FnScope ["value", "least", "most"] ["value", "least", "most"] (defScope (st 1)) := ⟨rfl, rfl, rfl, by decide +kernel, rfl, by decide +kernel, by decide +kernel⟩
theorem ok1 (F : Fun K "is_tuple" "is_tuple" (st 1) f fd) (B : Blt mg) : FnOk P w K mg base CX0 1 f fd ["value", "least", "most"] (SpD K WisTuple) := by
  refine ok_def F sc1 (fun ds π q h => ?_) (fun cdv A outer s H E ds π q C hr hK h => ?_)
  · obtain ⟨xs, a, b, rfl, _⟩ := h; rfl
  · obtain ⟨xs, a, b, rfl, h⟩ := h
    refine fs_one (f1_retP (fp_and (fp_isi hK B.isinstance B.tuple (by decide +kernel) (fp_name 0 rfl) rfl (by simp) (kit_self _ _)) fun _ => fp_one (fp_leLe (fp_name 1 rfl) (fp_lenT hK B.len (fp_name 0 rfl)) (fp_name 2 rfl))) ?_)
    exact h
def WisWhole : WF := fun ds π q => ∃ (a : Int), ds = [.d (.int a)] ∧ q (.d (.bool true)) π
theorem sc2 : FnScope ["value"] ["value"] (defScope (st 2)) := ⟨rfl, rfl, rfl, by decide +kernel, rfl, by decide +kernel, by decide +kernel⟩
theorem ok2 (F : Fun K "is_whole" "is_whole" (st 2) f fd) (B : Blt mg) : FnOk P w K mg base CX0 1 f fd ["value"] (SpD K WisWhole) := by
  refine ok_def F sc2 (fun ds π q h => ?_) (fun cdv A outer s H E ds π q C hr hK h => ?_)
  · obtain ⟨a, rfl, _⟩ := h; rfl
  · obtain ⟨a, rfl, h⟩ := h
    refine fs_one (f1_retP (fp_and (fp_isi hK B.isinstance B.int (by decide +kernel) (fp_name 0 rfl) rfl (by simp) (kit_self _ _)) fun _ => fp_one (fp_not (fp_isi hK B.isinstance B.bool (by decide +kernel) (fp_name 0 rfl) rfl (by simp) (kit_int_bool _)))) ?_)
    exact h
def WisInteger : WF := fun ds π q => ∃ (a l h : Int), ds = [.d (.int a), .d (.int l), .d (.int h)] ∧ q (.d (.bool (decide (l ≤ a) && decide (a ≤ h)))) π
theorem sc3 : FnScope ["value", "low", "high"] ["value", "low", "high"] (defScope (st 3)) := ⟨rfl, rfl, rfl, by decide +kernel, rfl, by decide +kernel, by decide +kernel⟩
theorem ok3 (F : Fun K "is_integer" "is_integer" (st 3) f fd) (D2 : HasDef P w K mg base "is_whole" 1 ["value"] WisWhole) : FnOk P w K mg base CX0 2 f fd ["value", "low", "high"] (SpD K WisInteger) := by
  refine ok_def F sc3 (fun ds π q h => ?_) (fun cdv A outer s H E ds π q C hr hK h => ?_)
  · obtain ⟨a, l, h, rfl, _⟩ := h; rfl
  · obtain ⟨a, lo, hi, rfl, h⟩ := h
    refine fs_one (f1_retP (fp_and (fp_def D2 hr (Nat.le_refl _) hK (arg1 (fp_name 0 rfl)) fun π q h => ⟨a, rfl, h⟩) fun _ => fp_one (fp_leLe (fp_name 1 rfl) (fp_name 0 rfl) (fp_name 2 rfl))) ?_)
    exact h
end
end K28

set_option Elab.async false
set_option linter.all false
set_option maxRecDepth 100000
set_option maxHeartbeats 4000000
set_option autoImplicit false
namespace K28
open PySem PySem.Spec PyProof.Rows L2 DL
/-! ### data -/
abbrev Ln := Int × Int
def encL (l : Ln) : PyData := .tuple [.int l.1, .int l.2]
def encC (c : List Ln) : PyData := .tuple (c.map encL)
def encCs (cs : List (List Ln)) : PyData := .tuple (cs.map encC)
def LnOk (l : Ln) : Prop := 0 ≤ l.1 ∧ l.1 ≤ 1000000 ∧ 0 ≤ l.2 ∧ l.2 ≤ 1000
structure CurveOk (c : List Ln) : Prop where
  l1 : 1 ≤ c.length
  l2 : c.length ≤ 6
  all : ∀ l ∈ c, LnOk l
structure CurvesOk (cs : List (List Ln)) : Prop where
  l1 : 1 ≤ cs.length
  l2 : cs.length ≤ 6
  all : ∀ c ∈ cs, CurveOk c
/-- the module's constants -/
structure Cst (mg : Str → Option Value) : Prop where
  mostLines : ∃ t, mg "MOST_LINES" = some (.int 6 t)
  mostCurves : ∃ t, mg "MOST_CURVES" = some (.int 6 t)
  mostBurst : ∃ t, mg "MOST_BURST" = some (.int 1000000 t)
  mostRate : ∃ t, mg "MOST_RATE" = some (.int 1000 t)
  mostLate : ∃ t, mg "MOST_LATE" = some (.int 1000000 t)
  mostBeats : ∃ t, mg "MOST_BEATS" = some (.int 10000000000 t)
  mostComing : ∃ t, mg "MOST_COMING" = some (.int 200 t)
  mostMuch : ∃ t, mg "MOST_MUCH" = some (.int 2000000 t)
  pair : ∃ t, mg "PAIR" = some (.int 2 t)
  most : ∃ t, mg "MOST" = some (.str "most" t)
  ever : ∃ t, mg "EVER" = some (.str "ever" t)
section
variable {P : Program} {w : World} {K : PySem.W.Frag} {mg : Str → Option Value} {base : Heap} {f : Addr} {fd : FuncData}
abbrev HD (P : Program) (w : World) (K : PySem.W.Frag) (mg : Str → Option Value) (base : Heap) := HasDef P w K mg base
abbrev DisTuple (P : Program) (w : World) (K : PySem.W.Frag) (mg : Str → Option Value) (base : Heap) : Prop := HasDef P w K mg base "is_tuple" 1 ["value", "least", "most"] WisTuple
abbrev DisInteger (P : Program) (w : World) (K : PySem.W.Frag) (mg : Str → Option Value) (base : Heap) : Prop := HasDef P w K mg base "is_integer" 2 ["value", "low", "high"] WisInteger
theorem w_isTuple {xs : List PyData} {a b : Int} {v : Bool} (h : (decide (a ≤ xs.length) && decide ((xs.length : Int) ≤ b)) = v) (π : Pot) (q : DV → Pot → Prop) (k : q (.d (.bool v)) π) : WisTuple ([.tuple xs, .int a, .int b].map .d) π q := ⟨xs, a, b, rfl, by rw [h]; exact k⟩
theorem w_isInteger {a b c : Int} {v : Bool} (h : (decide (b ≤ a) && decide (a ≤ c)) = v) (π : Pot) (q : DV → Pot → Prop) (k : q (.d (.bool v)) π) : WisInteger ([.int a, .int b, .int c].map .d) π q := ⟨a, b, c, rfl, by rw [h]; exact k⟩

def WisCurve : WF := fun ds π q => ∃ c : List Ln, ds = [.d (encC c)] ∧ CurveOk c ∧ q (.d (.bool true)) π
abbrev N22 : List Str := ["value", "line", "burst", "rate"]
theorem sc22 : FnScope N22 ["value"] (defScope (st 22)) := ⟨rfl, rfl, rfl, by decide +kernel, rfl, by decide +kernel, by decide +kernel⟩
theorem all_true {α : Type} (xs : List α) : (xs.map fun _ => true).all id = true := by simp
theorem ok22 (F : Fun K "is_curve" "is_curve" (st 22) f fd) (B : Blt mg) (G : Cst mg) (D1 : DisTuple P w K mg base) (D3 : DisInteger P w K mg base) : FnOk P w K mg base CX0 3 f fd ["value"] (SpD K WisCurve) := by
  refine ok_def F sc22 (fun ds π q h => ?_) (fun cdv A outer s H E ds π q C hr hK h => ?_)
  · obtain ⟨c, rfl, _⟩ := h; rfl
  · obtain ⟨c, rfl, ok, h⟩ := h
    have l1 := ok.l1
    have l2 := ok.l2
    refine fs_if_no (ft_w (fw_or (q := false) (ft_not (p := true) (ft_val (fp_def D1 hr (by decide) hK (fpa_cons (fp_name 0 rfl) (arg2 fp_int (fp_gint G.mostLines))) (w_isTuple (by simp; omega))))) fun _ => fw_or1 (ft_not (p := true) (ft_val ?_)))) rfl ?_
    · refine fp_is (fp_all (bs := c.map fun _ => true) hK rfl B.all (fp_is (fp_of rfl sc22.nd (blkOk_by (own := [("line", 1)]) (N := N22) (sc := defScope (st 22)) (by decide +kernel))
        (lcp_mapN 1 c encL (fun _ => .bool true) sc22.nd (fip_tup hK (fp_name 0 rfl)) (by omega) rfl fun x hx s H cc cl fp C' hk hp => ?_)) (by simp))) (by rw [all_true])
      exact fp_def D1 hr (by decide) (hk.trans hK) (fpa_cons (fp_name 1 rfl) (arg2 (fp_gint G.pair) (fp_gint G.pair))) (w_isTuple (by simp))
    · refine fs_one (f1_retP (fp_is (fp_all (bs := c.map fun _ => true) hK rfl B.all (fp_is (fp_of rfl sc22.nd (blkOk_by (own := [("burst", 2), ("rate", 3)]) (N := N22) (sc := defScope (st 22)) (by decide +kernel))
        (lcp_mapT 2 3 c (fun l => .int l.1) (fun l => .int l.2) (fun _ => .bool true) rfl hK sc22.nd (fip_tup hK (fp_name 0 rfl)) (by omega) rfl fun x hx s H cc cl fp C' hk hp => ?_)) (by simp))) (by rw [all_true])) h)
      have hl := ok.all x hx
      unfold LnOk at hl
      refine fp_is (fp_and (p := true) (q := true) (fp_def D3 hr (by decide) (hk.trans hK) (fpa_cons (fp_name 2 rfl) (arg2 fp_int (fp_gint G.mostBurst))) (w_isInteger (by simp; omega))) fun _ => fp_one (fp_def D3 hr (by decide) (hk.trans hK) (fpa_cons (fp_name 3 rfl) (arg2 fp_int (fp_gint G.mostRate))) (w_isInteger (by simp; omega)))) rfl
end
end K28

set_option Elab.async false
set_option linter.all false
set_option maxRecDepth 100000
set_option maxHeartbeats 4000000
set_option autoImplicit false
namespace K28
open PySem PySem.Spec PyProof.Rows L2 DL
def amt (c : List Ln) (t : Int) : Int := if 0 < t then minI (c.map fun l => l.1 + l.2 * t) else 0
def turnAt (a b : Ln) : Int := -((b.1 - a.1) / (b.2 - a.2))
def turn1 (a b : Ln) : List Int := if a.2 < b.2 then [turnAt a b - 1, turnAt a b, turnAt a b + 1] else []
def rawC (c : List Ln) : List Int := c.flatMap fun a => c.flatMap fun b => turn1 a b
def raw (cs : List (List Ln)) : List Int := 1 :: cs.flatMap rawC
def turns (cs : List (List Ln)) : List Int := sortU (1 :: (raw cs).filter fun t => decide (0 < t))
structure TurnsOk (cs : List (List Ln)) : Prop where
  ok : CurvesOk cs
  few : (cs.flatMap rawC).length ≤ 42
theorem foldl_ext {α β : Type} (f : α → List β) : ∀ (xs : List α) (b : List β), xs.foldl (fun b x => b ++ f x) b = b ++ xs.flatMap f
  | [], b => by simp
  | x :: xs, b => by
    rw [List.foldl_cons, foldl_ext f xs, List.flatMap_cons, List.append_assoc]
theorem insU_len (x : Int) : ∀ ys : List Int, (insU x ys).length ≤ ys.length + 1
  | [] => by simp [insU]
  | y :: ys => by
    unfold insU
    split
    · simp
    · split
      · simp
      · have := insU_len x ys
        simp only [List.length_cons]; omega
theorem sortU_len : ∀ xs : List Int, (sortU xs).length ≤ xs.length
  | [] => by simp [sortU]
  | x :: xs => by
    have := insU_len x (sortU xs)
    have := sortU_len xs
    unfold sortU
    simp only [List.length_cons]; omega
section
variable {P : Program} {w : World} {K : PySem.W.Frag} {mg : Str → Option Value} {base : Heap} {f : Addr} {fd : FuncData}
def WckCurve : WF := fun ds π q => ∃ c : List Ln, ds = [.d (encC c)] ∧ CurveOk c ∧ q (.d .none) π
theorem sc23 : FnScope ["value"] ["value"] (defScope (st 23)) := ⟨rfl, rfl, rfl, by decide +kernel, rfl, by decide +kernel, by decide +kernel⟩
theorem ok23 (F : Fun K "check_curve" "check_curve" (st 23) f fd) (D22 : HasDef P w K mg base "is_curve" 3 ["value"] WisCurve) : FnOk P w K mg base CX0 4 f fd ["value"] (SpD K WckCurve) := by
  refine ok_def F sc23 (fun ds π q h => ?_) (fun cdv A outer s H E ds π q C hr hK h => ?_)
  · obtain ⟨c, rfl, _⟩ := h; rfl
  · obtain ⟨c, rfl, ok, h⟩ := h
    exact fs_if_no (ft_not (ft_val (fp_def D22 hr (by decide) hK (arg1 (fp_name 0 rfl)) fun π q k => ⟨c, rfl, ok, k⟩))) rfl (fs_nil h)
def WckCurves : WF := fun ds π q => ∃ cs : List (List Ln), ds = [.d (encCs cs)] ∧ CurvesOk cs ∧ q (.d .none) π
abbrev N24 : List Str := ["value", "curve"]
theorem sc24 : FnScope N24 ["value"] (defScope (st 24)) := ⟨rfl, rfl, rfl, by decide +kernel, rfl, by decide +kernel, by decide +kernel⟩
theorem ok24 (F : Fun K "check_curves" "check_curves" (st 24) f fd) (B : Blt mg) (G : Cst mg) (D1 : DisTuple P w K mg base) (D22 : HasDef P w K mg base "is_curve" 3 ["value"] WisCurve) : FnOk P w K mg base CX0 4 f fd ["value"] (SpD K WckCurves) := by
  refine ok_def F sc24 (fun ds π q h => ?_) (fun cdv A outer s H E ds π q C hr hK h => ?_)
  · obtain ⟨c, rfl, _⟩ := h; rfl
  · obtain ⟨cs, rfl, ok, h⟩ := h
    have l1 := ok.l1
    have l2 := ok.l2
    refine fs_if_no (ft_w (fw_or (q := false) (ft_not (p := true) (ft_val (fp_def D1 hr (by decide) hK (fpa_cons (fp_name 0 rfl) (arg2 fp_int (fp_gint G.mostCurves))) (w_isTuple (by simp; omega))))) fun _ => fw_or1 (ft_not (p := true) (ft_val ?_)))) rfl (fs_nil h)
    refine fp_is (fp_all (bs := cs.map fun _ => true) hK rfl B.all (fp_is (fp_of rfl sc24.nd (blkOk_by (own := [("curve", 1)]) (N := N24) (sc := defScope (st 24)) (by decide +kernel))
        (lcp_mapN 1 cs encC (fun _ => .bool true) sc24.nd (fip_tup hK (fp_name 0 rfl)) (by omega) rfl fun x hx s H cc cl fp C' hk hp => ?_)) (by simp))) (by rw [all_true])
    exact fp_def D22 hr (by decide) (hk.trans hK) (arg1 (fp_name 1 rfl)) fun π q k => ⟨x, rfl, ok.all x hx, k⟩
def WamtOf : WF := fun ds π q => ∃ (c : List Ln) (t : Int), ds = [.d (encC c), .d (.int t)] ∧ CurveOk c ∧ q (.d (.int (amt c t))) π
abbrev N25 : List Str := ["curve", "beats", "burst", "rate"]
theorem sc25 : FnScope N25 ["curve", "beats"] (defScope (st 25)) := ⟨rfl, rfl, rfl, by decide +kernel, rfl, by decide +kernel, by decide +kernel⟩
theorem ok25 (F : Fun K "amount_of" "amount_of" (st 25) f fd) (B : Blt mg) : FnOk P w K mg base CX0 1 f fd ["curve", "beats"] (SpD K WamtOf) := by
  refine ok_def F sc25 (fun ds π q h => ?_) (fun cdv A outer s H E ds π q C hr hK h => ?_)
  · obtain ⟨c, t, rfl, _⟩ := h; rfl
  · obtain ⟨c, t, rfl, ok, h⟩ := h
    have l1 := ok.l1
    have l2 := ok.l2
    refine fs_one (f1_retP (fp_is (fp_if (ft_gt (fp_name 1 rfl) fp_int) (fun _ => fp_minL (ns := c.map fun l => l.1 + l.2 * t) hK rfl B.min (fp_is (fp_of rfl sc25.nd (blkOk_by (own := [("burst", 2), ("rate", 3)]) (N := N25) (sc := defScope (st 25)) (by decide +kernel))
        (lcp_mapT 2 3 c (fun l => .int l.1) (fun l => .int l.2) (fun l => .int (l.1 + l.2 * t)) rfl hK sc25.nd (fip_tup hK (fp_name 0 rfl)) (by omega) rfl fun x hx s H cc cl fp C' hk hp => ?_)) (by simp)) (by intro e; have := List.map_eq_nil_iff.mp e; subst this; simp at l1)) fun _ => fp_int) ?_) h)
    · have hl := ok.all x hx
      unfold LnOk at hl
      exact fp_add (fp_name 2 rfl) (fp_mul (fp_name 3 rfl) (fp_name 1 rfl) (.inl ⟨by omega, by omega⟩))
    · unfold amt
      by_cases h0 : 0 < t
      · rw [if_pos h0, if_pos (decide_eq_true h0)]
      · rw [if_neg h0, if_neg (by rw [decide_eq_false h0]; exact Bool.false_ne_true)]
def Wamount : WF := fun ds π q => ∃ (c : List Ln) (t : Int), ds = [.d (encC c), .d (.int t)] ∧ CurveOk c ∧ 0 ≤ t ∧ t ≤ 10000000000 ∧ q (.d (.int (amt c t))) π
theorem sc26 : FnScope ["curve", "beats"] ["curve", "beats"] (defScope (st 26)) := ⟨rfl, rfl, rfl, by decide +kernel, rfl, by decide +kernel, by decide +kernel⟩
theorem ok26 (F : Fun K "amount" "amount" (st 26) f fd) (B : Blt mg) (G : Cst mg) (D3 : DisInteger P w K mg base) (D23 : HasDef P w K mg base "check_curve" 4 ["value"] WckCurve) (D25 : HasDef P w K mg base "amount_of" 1 ["curve", "beats"] WamtOf) : FnOk P w K mg base CX0 5 f fd ["curve", "beats"] (SpD K Wamount) := by
  refine ok_def F sc26 (fun ds π q h => ?_) (fun cdv A outer s H E ds π q C hr hK h => ?_)
  · obtain ⟨c, t, rfl, _⟩ := h; rfl
  · obtain ⟨c, t, rfl, ok, t0, t1, h⟩ := h
    refine fs_cons (f1_expr (fe_fp (fp_def D23 hr (by decide) hK (arg1 (fp_name 0 rfl)) fun π q k => ⟨c, rfl, ok, k⟩) ?_))
    refine fs_if_no (ft_not (p := true) (ft_val (fp_def D3 hr (by decide) hK (fpa_cons (fp_name 1 rfl) (arg2 fp_int (fp_gint G.mostBeats))) (w_isInteger (by simp; omega))))) rfl ?_
    exact fs_one (f1_retP (fp_def D25 hr (by decide) hK (arg2 (fp_name 0 rfl) (fp_name 1 rfl)) fun π q k => ⟨c, t, rfl, ok, k⟩) h)
end
end K28

set_option Elab.async false
set_option linter.all false
set_option maxRecDepth 100000
set_option maxHeartbeats 4000000
set_option autoImplicit false
namespace K28
open PySem PySem.Spec PyProof.Rows L2 DL
section
variable {P : Program} {w : World} {K : PySem.W.Frag} {mg : Str → Option Value} {base : Heap} {f : Addr} {fd : FuncData}
def WturnsOf : WF := fun ds π q => ∃ (cs : List (List Ln)) (d : PyData), ds = [.d d] ∧ (d = encCs cs ∨ d = .list (cs.map encC)) ∧ TurnsOk cs ∧ q (.d (.list ((turns cs).map .int))) π
abbrev N29 : List Str := ["curves", "found", "curve", "first", "slow", "last", "fast", "at", "beats"]
theorem sc29 : FnScope N29 ["curves"] (defScope (st 29)) := ⟨rfl, rfl, rfl, by decide +kernel, rfl, by decide +kernel, by decide +kernel⟩
theorem ints1 (b : List Int) (x : List Int) : b.map PyData.int ++ x.map PyData.int = (b ++ x).map PyData.int := by simp
theorem ok29 (F : Fun K "turns_of" "turns_of" (st 29) f fd) (B : Blt mg) : FnOk P w K mg base CX0 1 f fd ["curves"] (SpD K WturnsOf) := by
  refine ok_def F sc29 (fun ds π q h => ?_) (fun cdv A outer s H E ds π q C hr hK h => ?_)
  · obtain ⟨c, d, rfl, _⟩ := h; rfl
  · obtain ⟨cs, d, rfl, hd, ok, h⟩ := h
    have few := ok.few
    refine fs_cons (f1_setO 1 sc29.nd (fl_mono (flp_list (xs := [.int 1]) (arg1 fp_int)) fun ds' z' ⟨e1, e2⟩ => ?_))
    subst e1 e2
    refine fs_cons (f1_forA [2] cs encC (fun b z => ∃ s2 s3 s4 s5 s6 s7, z = ⟨[sd d, .ow (b.map .int), s2, s3, s4, s5, s6, s7, .un], π⟩) (fun b c => b ++ rawC c) [1] PassesOwn.never rfl ?_ ⟨_, _, _, _, _, _, rfl⟩ (fun pre c post e1 z2 hz => ?_) fun z2 hz => ?_)
    · rcases hd with e | e
      · subst e; exact fip_tup hK (fp_name 0 rfl)
      · subst e; exact fip_list hK (fp_name 0 rfl)
    · obtain ⟨s2, s3, s4, s5, s6, s7, rfl⟩ := hz
      rw [foldl_ext]
      refine fg_name 2 sc29.nd rfl (.inl rfl) ?_ (by simp) (.inl rfl)
      refine fs_one (f1_forA [3, 4] c encL (fun b z => ∃ s3 s4 s5 s6 s7, z = ⟨[sd d, .ow (b.map .int), sd (encC c), s3, s4, s5, s6, s7, .un], π⟩) (fun b a => b ++ c.flatMap fun k => turn1 a k) ([1] ++ pre.flatMap rawC) PassesOwn.never rfl (fip_tup hK (fp_name 2 rfl)) ⟨_, _, _, _, _, rfl⟩ (fun pre2 a post2 e2 z3 hz => ?_) fun z3 hz => ?_)
      · obtain ⟨s3, s4, s5, s6, s7, rfl⟩ := hz
        rw [foldl_ext]
        refine fg_tup rfl hK (fgs_cons (fg_name 3 sc29.nd rfl (.inl rfl) (fgs_cons (fg_name 4 sc29.nd rfl (.inl rfl) (fgs_nil ?_) (by simp) (.inl rfl))) (by simp) (.inl rfl))) rfl rfl
        refine fs_one (f1_forA [5, 6] c encL (fun b z => ∃ s5 s6 s7, z = ⟨[sd d, .ow (b.map .int), sd (encC c), si a.1, si a.2, s5, s6, s7, .un], π⟩) (fun b k => b ++ turn1 a k) (([1] ++ pre.flatMap rawC) ++ pre2.flatMap fun a => c.flatMap fun k => turn1 a k) PassesOwn.never rfl (fip_tup hK (fp_name 2 rfl)) ⟨_, _, _, rfl⟩ (fun pre3 k post3 e3 z4 hz => ?_) fun z4 hz => ?_)
        · obtain ⟨s5, s6, s7, rfl⟩ := hz
          rw [foldl_ext]
          refine fg_tup rfl hK (fgs_cons (fg_name 5 sc29.nd rfl (.inl rfl) (fgs_cons (fg_name 6 sc29.nd rfl (.inl rfl) (fgs_nil ?_) (by simp) (.inl rfl))) (by simp) (.inl rfl))) rfl rfl
          have hc : c ∈ cs := by rw [e1]; simp
          have ha : LnOk a := (ok.ok.all c hc).all a (by rw [e2]; simp)
          have hk : LnOk k := (ok.ok.all c hc).all k (by rw [e3]; simp)
          unfold LnOk at ha hk
          refine fs_one (f1_ifP (ft_gt (fp_name 6 rfl) (fp_name 4 rfl)) (fun hlt => ?_) fun hlt => fs_nil ?_)
          · have hlt : a.2 < k.2 := of_decide_eq_true hlt
            refine fs_cons (f1_setP 7 sc29.nd (fp_neg (fp_fdiv (fp_sub (fp_name 5 rfl) (fp_name 3 rfl)) (fp_sub (fp_name 6 rfl) (fp_name 4 rfl)) ⟨by omega, by omega⟩)) ?_)
            refine fs_one (f1_extend 1 hK ⟨_, rfl⟩ (fl_mono (flp_list (xs := [.int (turnAt a k - 1), .int (turnAt a k), .int (turnAt a k + 1)]) (fpa_cons (fp_sub (fp_name 7 rfl) fp_int) (arg2 (fp_name 7 rfl) (fp_add (fp_name 7 rfl) fp_int)))) fun ds' z' ⟨q1, q2⟩ => ?_))
            subst q1 q2
            refine ⟨_, rfl, ?_, si k.1, si k.2, si (turnAt a k), ?_⟩
            · have e4 : (cs.flatMap rawC).length = (pre.flatMap rawC).length + ((rawC c).length + (post.flatMap rawC).length) := by rw [e1]; simp
              have e5 : (rawC c).length = (pre2.flatMap fun a => c.flatMap fun k => turn1 a k).length + ((c.flatMap fun k => turn1 a k).length + (post2.flatMap fun a => c.flatMap fun k => turn1 a k).length) := by
                have : ∀ l : List Ln, c = l → (l.flatMap fun a => c.flatMap fun k => turn1 a k).length = (rawC c).length := fun l e => by rw [← e]; rfl
                rw [← this _ e2]; simp
              have e6 : (c.flatMap fun k => turn1 a k).length = (pre3.flatMap fun k => turn1 a k).length + ((turn1 a k).length + (post3.flatMap fun k => turn1 a k).length) := by
                conv => lhs; rw [e3]
                simp
              have e7 : (pre3.flatMap (turn1 a)).length = (pre3.flatMap fun k => turn1 a k).length := rfl
              have e8 : (turn1 a k).length = 3 := by unfold turn1; rw [if_pos hlt]; rfl
              simp only [List.length_append, List.length_map, List.length_cons, List.length_nil]
              omega
            · rw [show turn1 a k = [turnAt a k - 1, turnAt a k, turnAt a k + 1] from if_pos hlt]
              exact congrArg (fun l => (⟨[sd d, .ow l, sd (encC c), si a.1, si a.2, si k.1, si k.2, si (turnAt a k), .un], π⟩ : Zs)) (ints1 _ [turnAt a k - 1, turnAt a k, turnAt a k + 1])
          · have hlt : ¬ a.2 < k.2 := of_decide_eq_false hlt
            rw [show turn1 a k = [] from if_neg hlt, List.append_nil]
            exact ⟨si k.1, si k.2, s7, rfl⟩
        · obtain ⟨s5, s6, s7, rfl⟩ := hz
          rw [foldl_ext]
          exact ⟨_, _, _, _, _, rfl⟩
      · obtain ⟨s3, s4, s5, s6, s7, rfl⟩ := hz
        rw [foldl_ext]
        exact ⟨_, _, _, _, _, _, rfl⟩
    · obtain ⟨s2, s3, s4, s5, s6, s7, rfl⟩ := hz
      rw [foldl_ext]
      refine fs_freeze 1 rfl ?_
      refine fs_one (f1_retP (fp_fl (flp_sortedSet (ns := 1 :: (raw cs).filter fun t => decide (0 < t)) hK rfl B.sorted B.set ?_ ?_)) h)
      · refine fp_is (fp_fl (flp_list (fpa_cons fp_int (fpa_starL hK (fp_of rfl sc29.nd (blkOk_by (own := [("beats", 8)]) (N := N29) (sc := defScope (st 29)) (by decide +kernel))
          (lcp_ifN 8 (raw cs) .int (fun t => decide (0 < t)) .int sc29.nd (fip_list hK (fp_name 1 rfl)) (by have e : (raw cs).length = (cs.flatMap rawC).length + 1 := rfl; omega) rfl fun x hx s H cc cl fp C' hk hp => ⟨ft_gt (fp_name 8 rfl) fp_int, fun _ => fp_name 8 rfl⟩)) fpa_nil)) ?_)) ?_
        · have := List.length_filter_le (fun t => decide (0 < t)) (raw cs)
          have e : (raw cs).length = (cs.flatMap rawC).length + 1 := rfl
          simp only [List.length_cons, List.length_append, List.length_map, List.length_nil]
          omega
        · simp
      · have := List.length_filter_le (fun t => decide (0 < t)) (raw cs)
        have e : (raw cs).length = (cs.flatMap rawC).length + 1 := rfl
        simp only [List.length_cons]
        omega
end
end K28

set_option Elab.async false
set_option linter.all false
set_option maxRecDepth 100000
set_option maxHeartbeats 4000000
set_option autoImplicit false
namespace K28
open PySem PySem.Spec PyProof.Rows L2 DL
def tri (t : Int) (l : Ln) : PyData := .tuple [.int (l.1 + l.2 * t), .int l.2, .int l.1]
def less3 (t : Int) (a b : Ln) : Bool := decide (a.1 + a.2 * t < b.1 + b.2 * t ∨ (a.1 + a.2 * t = b.1 + b.2 * t ∧ (a.2 < b.2 ∨ (a.2 = b.2 ∧ a.1 < b.1))))
def pick (t : Int) : List Ln → Ln
  | [] => (0, 0)
  | l :: ls => ls.foldl (fun a y => if less3 t y a then y else a) l
def addL (t : Int) (c b : List Ln) : List Ln := if pick t c ∈ b then b else b ++ [pick t c]
def leastL (c : List Ln) : List Ln := (turns [c]).foldl (fun b t => addL t c b) []
def keyL (l : Ln) : PyData := .tuple [.int (-l.2), .int l.1]
def shortL (c : List Ln) : List Ln := (leastL c).mergeSort (PySem.W.dataLe false keyL)
theorem dataLt_tri (t : Int) (a b : Ln) : PySem.W.dataLt (tri t a) (tri t b) = less3 t a b := by
  unfold tri less3
  rw [PySem.W.dataLt_tuple, PySem.W.dataLt_cons (by simp [PySem.W.alike]), PySem.W.dataLt_cons (by simp [PySem.W.alike]), PySem.W.dataLt_cons (by simp [PySem.W.alike])]
  have e : PyProof.Rows.lexLt PyProof.Rows.itemOrd (PySem.W.keyToksAll []) (PySem.W.keyToksAll []) = false := PyProof.Rows.lex_irrefl _
  rw [e]
  simp only [PySem.W.dataLt_int, PyData.eqv, beq_iff_eq]
  by_cases h1 : a.1 + a.2 * t = b.1 + b.2 * t
  · by_cases h2 : a.2 = b.2
    · by_cases h3 : a.1 = b.1
      · simp [h1, h2, h3]
      · simp [h1, h2, h3]
    · simp [h1, h2]
  · simp [h1]
theorem minD_tri (t : Int) (l : Ln) (ls : List Ln) : PySem.W.minD (tri t l) (ls.map (tri t)) = tri t (pick t (l :: ls)) := by
  unfold PySem.W.minD
  show _ = tri t (ls.foldl (fun a y => if less3 t y a then y else a) l)
  induction ls generalizing l with
  | nil => rfl
  | cons y ys ih =>
    rw [List.map_cons, List.foldl_cons, List.foldl_cons, dataLt_tri]
    cases e : less3 t y l with
    | true => rw [if_pos rfl]; exact ih y
    | false => rw [if_neg Bool.false_ne_true]; exact ih l
theorem eqv_encL (a b : Ln) : PyData.eqv (encL a) (encL b) = decide (a = b) := by
  unfold encL
  obtain ⟨a1, a2⟩ := a
  obtain ⟨b1, b2⟩ := b
  simp [PyData.eqv, PyData.eqvAll]
  by_cases h1 : a1 = b1 <;> by_cases h2 : a2 = b2 <;> simp [h1, h2]
theorem any_encL (l : Ln) (b : List Ln) : ((b.map encL).any fun y => PyData.eqv y (encL l)) = decide (l ∈ b) := by
  induction b with
  | nil => simp
  | cons y ys ih =>
    rw [List.map_cons, List.any_cons, ih, eqv_encL]
    by_cases h : y = l
    · subst h; simp
    · have : ¬ l = y := fun e => h e.symm
      simp [h, this]
theorem pick_mem (t : Int) : ∀ {c : List Ln}, c ≠ [] → pick t c ∈ c := by
  intro c hc
  cases c with
  | nil => exact absurd rfl hc
  | cons l ls =>
    show ls.foldl (fun a y => if less3 t y a then y else a) l ∈ l :: ls
    have all : ∀ (ls : List Ln) (l : Ln), ls.foldl (fun a y => if less3 t y a then y else a) l = l ∨ ls.foldl (fun a y => if less3 t y a then y else a) l ∈ ls := by
      intro ls
      induction ls with
      | nil => intro l; exact .inl rfl
      | cons y ys ih =>
        intro l
        rw [List.foldl_cons]
        cases e : less3 t y l with
        | true =>
          rw [if_pos rfl]
          rcases ih y with h | h
          · right; rw [h]; exact List.mem_cons_self
          · right; exact List.mem_cons_of_mem _ h
        | false =>
          rw [if_neg Bool.false_ne_true]
          rcases ih l with h | h
          · left; exact h
          · right; exact List.mem_cons_of_mem _ h
    rcases all ls l with h | h
    · rw [h]; exact List.mem_cons_self
    · exact List.mem_cons_of_mem _ h
theorem addL_len (t : Int) (c b : List Ln) : (addL t c b).length ≤ b.length + 1 := by
  unfold addL
  split
  · omega
  · simp
theorem foldl_len (c : List Ln) : ∀ (ts : List Int) (b : List Ln), (ts.foldl (fun b t => addL t c b) b).length ≤ b.length + ts.length
  | [], b => by simp
  | t :: ts, b => by
    have h1 := foldl_len c ts (addL t c b)
    have h2 := addL_len t c b
    rw [List.foldl_cons, List.length_cons]
    omega
theorem shaped_encL (l : Ln) : SeqAt.shaped (encL l) = true := rfl
theorem shaped_encs (b : List Ln) : SeqAt.shaped (.list (b.map encL)) = true := by
  have h1 : ∀ b : List Ln, PyData.canLayAll0 (b.map encL) = true := by
    intro b
    induction b with
    | nil => rfl
    | cons l ls ih =>
      rw [List.map_cons]
      show (PyData.canLay0 (encL l) && PyData.canLayAll0 (ls.map encL)) = true
      rw [ih]; rfl
  have h2 : ∀ b : List Ln, PyData.depthAll (b.map encL) ≤ 1 := by
    intro b
    induction b with
    | nil => simp [PyData.depthAll]
    | cons y ys ih =>
      have e : (encL y).depth = 1 := by simp [encL, PyData.depth, PyData.depthAll]
      simp only [List.map_cons, PyData.depthAll, e]
      omega
  have h3 := h2 b
  have h4 : (PyData.list (b.map encL)).depth ≤ 64 := by
    simp only [PyData.depth]
    omega
  unfold SeqAt.shaped
  rw [decide_eq_true h4, Bool.and_true]
  exact h1 b
section
variable {P : Program} {w : World} {K : PySem.W.Frag} {mg : Str → Option Value} {base : Heap} {f : Addr} {fd : FuncData}
def WleastLines : WF := fun ds π q => ∃ c : List Ln, ds = [.d (encC c)] ∧ CurveOk c ∧ (rawC c).length ≤ 42 ∧ q (.d (.list ((shortL c).map encL))) π
abbrev N27 : List Str := ["curve", "found", "beats", "line", "burst", "rate"]
theorem sc27 : FnScope N27 ["curve"] (defScope (st 27)) := ⟨rfl, rfl, rfl, by decide +kernel, rfl, by decide +kernel, by decide +kernel⟩
theorem turns_len (c : List Ln) (h : (rawC c).length ≤ 42) : (turns [c]).length ≤ 44 := by
  unfold turns
  have h1 := sortU_len (1 :: (raw [c]).filter fun t => decide (0 < t))
  have h2 := List.length_filter_le (fun t => decide (0 < t)) (raw [c])
  have e : (raw [c]).length = (rawC c ++ []).length + 1 := rfl
  rw [List.append_nil] at e
  rw [List.length_cons] at h1
  omega
theorem ok27 {ca T : Addr} (F : Fun K "least_lines" "least_lines" (st 27) f fd) (B : Blt mg) (G : Cst mg) (D29 : HasDef P w K mg base "turns_of" 1 ["curves"] WturnsOf)
    (TB : LamX.TabB base mg ca T) (hcode : fd.code = .ref ca) (hT : tabs = [(T, Str.ofString "least_lines.<locals>.<lambda>")]) : FnOk P w K mg base CX0 4 f fd ["curve"] (SpD K WleastLines) := by
  refine ok_defC F sc27 (fun ds π q h => ?_) (fun cdv A outer s H E ds π q C hcd hr hK h => ?_)
  · obtain ⟨c, rfl, _⟩ := h; rfl
  · obtain ⟨c, rfl, ok, few, h⟩ := h
    have l1 := ok.l1
    have l2 := ok.l2
    have few' : ([c].flatMap rawC).length ≤ 42 := by
      have e : [c].flatMap rawC = rawC c := by simp
      rw [e]; exact few
    have ht := turns_len c few
    refine fs_cons (f1_setO 1 sc27.nd (fl_mono (flp_list (xs := []) fpa_nil) fun ds' z' ⟨e1, e2⟩ => ?_))
    subst e1 e2
    refine fs_cons (f1_forA [2] (turns [c]) PyData.int (fun b z => b.length ≤ 44 ∧ ∃ s2 s3, z = ⟨[sd (encC c), .ow (b.map encL), s2, s3, .un, .un], π⟩) (fun b t => addL t c b) [] PassesOwn.never rfl ?_ ⟨by simp, _, _, rfl⟩ (fun pre t post e1 z2 hz => ?_) fun z2 hz => ?_)
    · exact fip_list hK (fp_def D29 hr (by decide) hK (arg1 (fp_fl (flp_list (arg1 (fp_name 0 rfl))))) fun π q k => ⟨[c], _, rfl, .inr rfl, ⟨⟨by simp, by simp, fun c' hc => by rw [List.mem_singleton.mp hc]; exact ok⟩, few'⟩, k⟩)
    · obtain ⟨hb, s2, s3, rfl⟩ := hz
      have hb2 : (pre.foldl (fun b t => addL t c b) []).length + 1 ≤ 44 := by
        have h1 := foldl_len c pre []
        have h2 : (turns [c]).length = pre.length + (post.length + 1) := by rw [e1]; simp
        rw [List.length_nil] at h1
        omega
      generalize pre.foldl (fun b t => addL t c b) [] = b at hb hb2 ⊢
      obtain ⟨l, ls, ec⟩ : ∃ l ls, c = l :: ls := by
        cases c with
        | nil => simp at l1
        | cons l ls => exact ⟨l, ls, rfl⟩
      refine fg_name 2 sc27.nd rfl (.inr rfl) ?_ (by simp) (.inl rfl)
      have htt : t ∈ turns [c] := by rw [e1]; simp
      refine fs_cons (f1_setP 3 sc27.nd (d := tri t (pick t c)) ?_ ?_)
      · refine fp_is (fp_minD (n := 3) hr hK rfl B.min (fp_is (fp_of rfl sc27.nd (blkOk_by (own := [("burst", 4), ("rate", 5)]) (N := N27) (sc := defScope (st 27)) (by decide +kernel))
          (lcp_mapT 4 5 c (fun l => .int l.1) (fun l => .int l.2) (tri t) rfl hK sc27.nd (fip_tup hK (fp_name 0 rfl)) (by omega) rfl fun x hx s H cc cl fp C' hk hp => ?_)) (by rw [ec]; rfl)) ?_ ?_ (by decide)) (by rw [minD_tri, ← ec])
        · have hl := ok.all x hx
          unfold LnOk at hl
          exact fp_tuple (fpa_cons (fp_add (fp_name 4 rfl) (fp_mul (fp_name 5 rfl) (fp_name 2 rfl) (.inl ⟨by omega, by omega⟩))) (arg2 (fp_name 5 rfl) (fp_name 4 rfl)))
        · have key : ∀ x ∈ tri t l :: ls.map (tri t), ∃ k, x = tri t k := fun x hx => by
            rcases List.mem_cons.mp hx with rfl | hx
            · exact ⟨l, rfl⟩
            · obtain ⟨k, _, rfl⟩ := List.mem_map.mp hx
              exact ⟨k, rfl⟩
          refine ⟨fun x hx y hy => ?_, fun x hx => ?_⟩
          · obtain ⟨k, rfl⟩ := key x hx
            obtain ⟨m, rfl⟩ := key y hy
            simp [tri, PySem.W.alike, PySem.W.alikeAll]
          · obtain ⟨k, rfl⟩ := key x hx
            unfold tri; intro e; cases e
        · have all : ∀ ls : List Ln, PyData.depthAll (ls.map (tri t)) ≤ 1 := by
            intro ls
            induction ls with
            | nil => simp [PyData.depthAll]
            | cons y ys ih =>
              have e : (tri t y).depth = 1 := by simp [tri, PyData.depth, PyData.depthAll]
              simp only [List.map_cons, PyData.depthAll, e]
              omega
          have := all (l :: ls)
          simp only [List.map_cons] at this
          omega
      · refine fs_one (f1_ifP (ft_notinO (x := encL (pick t c)) (ys := b.map encL) 1 (show (A.deeper (envOfC (Str.ofString "least_lines") (defScope (st 27)) s.heap.objs.size f cdv)).units + 65 < cLine by have := hr.un; omega) hK ?_ rfl (shaped_encL _) (shaped_encs b)) (fun hn => ?_) fun hn => ?_)
        · exact fp_tuple (arg2 (fp_ixT hK (fp_name 3 rfl) (fp_gint G.pair) rfl) (fp_ixT hK (fp_name 3 rfl) fp_int rfl))
        · rw [any_encL] at hn
          have hn : ¬ pick t c ∈ b := by simpa using hn
          refine fs_one (f1_append 1 hK ⟨_, rfl⟩ (fe_fp (d := encL (pick t c)) (fp_tuple (arg2 (fp_ixT hK (fp_name 3 rfl) (fp_gint G.pair) rfl) (fp_ixT hK (fp_name 3 rfl) fp_int rfl))) ⟨_, _, rfl, rfl, ?_, ?_⟩))
          · rw [List.length_map]; omega
          · have e : addL t c b = b ++ [pick t c] := if_neg hn
            rw [e]
            refine ⟨by simp; omega, si t, sd (tri t (pick t c)), ?_⟩
            exact congrArg (fun l => (⟨[sd (encC c), .ow l, si t, sd (tri t (pick t c)), .un, .un], π⟩ : Zs)) (by simp)
        · rw [any_encL] at hn
          have hn : pick t c ∈ b := by simpa using hn
          have e : addL t c b = b := if_pos hn
          rw [e]
          exact fs_nil ⟨hb, si t, sd (tri t (pick t c)), rfl⟩
    · obtain ⟨hb, s2, s3, rfl⟩ := hz
      refine fs_freeze 1 rfl ?_
      have eb : (turns [c]).foldl (fun b t => addL t c b) [] = leastL c := rfl
      rw [eb] at hb ⊢
      have hq : Str.ofString "least_lines" ++ Str.ofString ".<locals>." ++ Str.ofString "<lambda>" = Str.ofString "least_lines.<locals>.<lambda>" := by decide +kernel
      refine fs_one (f1_retP (fp_fl (flp_sortedKey (k := 0) (c := ca) (T := T) (pn := "one") (xs := leastL c) encL keyL hr hK B.sorted TB ?_ ?_ ?_ ?_ rfl (fun _ _ _ _ _ _ => rfl) (fp_name 1 rfl) ?_ ?_ ?_ ?_ ?_ ?_)) h)
      · rw [← hcode, hcd]; rfl
      · rw [hT]; exact List.mem_cons_self
      · intro p hp _
        rw [hT] at hp
        rw [List.mem_singleton.mp hp]; rfl
      · exact ⟨rfl, rfl, rfl, by decide +kernel, by decide +kernel⟩
      · intro d hd d' hd'
        obtain ⟨k, _, rfl⟩ := List.mem_map.mp hd
        obtain ⟨m, _, rfl⟩ := List.mem_map.mp hd'
        simp [keyL, PySem.W.alike, PySem.W.alikeAll]
      · refine .inl fun d hd => ?_
        obtain ⟨k, _, rfl⟩ := List.mem_map.mp hd
        exact ⟨_, _, rfl⟩
      · rw [sizeLine_eq]; omega
      · intro x _
        simp [keyL, PyData.depth, PyData.depthAll]
      · intro x _
        rfl
      · intro x _ A env s V
        exact le_tup2 (le_neg (le_ix (xs := [.int x.1, .int x.2]) (le_name V) le_int (by decide) (by decide) rfl)) (le_ix (xs := [.int x.1, .int x.2]) (le_name V) le_int (by decide) (by decide) rfl)
end
end K28

set_option Elab.async false
set_option linter.all false
set_option maxRecDepth 100000
set_option maxHeartbeats 4000000
set_option autoImplicit false
namespace K28
open PySem PySem.Spec PyProof.Rows L2 DL
def tot (ms : List Int) (last : Nat) : Nat → Int
  | 0 => 0
  | k + 1 => tot ms last k + ms.getD (last - k) 0
structure Fits (c : List Ln) (ms : List Int) : Prop where
  len : ms.length ≤ 200
  all : ∀ m ∈ ms, 0 ≤ m ∧ m ≤ 2000000
  win : ∀ last k, last < ms.length → k ≤ last → tot ms last (k + 1) ≤ amt c ((k : Int) + 1)
def worstF (c : List Ln) (n : Nat) : List Int := (List.range n).map fun (i : Nat) => amt c ((i : Int) + 1) - amt c (i : Int)
def minR (c : List Ln) : Int := minI (c.map fun l => l.2)
def ever (cs : List (List Ln)) (rate : Int) : Bool := decide (rate < (cs.map minR).sum)
def looked (cs : List (List Ln)) (late : Int) : List Int := sortU (turns cs ++ [max 1 late, late + 1])
def com (cs : List (List Ln)) (t : Int) : Int := (cs.map fun c => amt c t).sum
def waitF (cs : List (List Ln)) (late rate t : Int) : Int := com cs t - rate * max 0 (t - late)
def lateF (cs : List (List Ln)) (late rate t : Int) : Int := if 0 < com cs t then late + -(-com cs t / rate) - t else 0
def bestOf (g : Int → Int) (ts : List Int) : Int × Int := ts.foldl (fun b t => if b.1 < g t then (g t, t) else b) (0, 0)
def told (cs : List (List Ln)) (rate : Int) (b : Int × Int) : PyData := if ever cs rate = true then .tuple [.str "ever"] else .tuple [.str "most", .int b.1, .int b.2]
def mostW (cs : List (List Ln)) (late rate : Int) : PyData := told cs rate (bestOf (waitF cs late rate) (looked cs late))
def mostL (cs : List (List Ln)) (late rate : Int) : PyData := told cs rate (bestOf (lateF cs late rate) (looked cs late))
structure Served (cs : List (List Ln)) (late rate : Int) : Prop where
  ok : TurnsOk cs
  l0 : 0 ≤ late
  l1 : late ≤ 1000000
  r0 : 1 ≤ rate
  r1 : rate ≤ 1000
section
variable {P : Program} {w : World} {K : PySem.W.Frag} {mg : Str → Option Value} {base : Heap} {f : Addr} {fd : FuncData}
def Wshort : WF := fun ds π q => ∃ c : List Ln, ds = [.d (encC c)] ∧ CurveOk c ∧ (rawC c).length ≤ 42 ∧ q (.d (encC (shortL c))) π
theorem sc28 : FnScope ["curve"] ["curve"] (defScope (st 28)) := ⟨rfl, rfl, rfl, by decide +kernel, rfl, by decide +kernel, by decide +kernel⟩
theorem ok28 (F : Fun K "shortened" "shortened" (st 28) f fd) (B : Blt mg) (D23 : HasDef P w K mg base "check_curve" 4 ["value"] WckCurve) (D27 : HasDef P w K mg base "least_lines" 4 ["curve"] WleastLines) : FnOk P w K mg base CX0 5 f fd ["curve"] (SpD K Wshort) := by
  refine ok_def F sc28 (fun ds π q h => ?_) (fun cdv A outer s H E ds π q C hr hK h => ?_)
  · obtain ⟨c, rfl, _⟩ := h; rfl
  · obtain ⟨c, rfl, ok, few, h⟩ := h
    refine fs_cons (f1_expr (fe_fp (fp_def D23 hr (by decide) hK (arg1 (fp_name 0 rfl)) fun π q k => ⟨c, rfl, ok, k⟩) ?_))
    exact fs_one (f1_retP (fp_tupleL hK B.tuple (fp_def D27 hr (by decide) hK (arg1 (fp_name 0 rfl)) fun π q k => ⟨c, rfl, ok, few, k⟩)) h)
def Wover : WF := fun ds π q => ∃ (c : List Ln) (ms : List Int), ds = [.d (encC c), .d (.tuple (ms.map .int))] ∧ CurveOk c ∧ Fits c ms ∧ q (.d .none) π
abbrev N30 : List Str := ["curve", "comes", "one", "last", "total", "first"]
theorem sc30 : FnScope N30 ["curve", "comes"] (defScope (st 30)) := ⟨rfl, rfl, rfl, by decide +kernel, rfl, by decide +kernel, by decide +kernel⟩
theorem atI_ints {ms : List Int} {i : Nat} (h : i < ms.length) : atI (ms.map PyData.int) (i : Int) = some (.int (ms.getD i 0)) := by
  unfold atI ixN
  rw [List.length_map, if_pos (by omega), if_pos (by omega)]
  show (ms.map PyData.int)[(i : Int).toNat]? = _
  rw [Int.toNat_natCast, List.getElem?_map, List.getElem?_eq_getElem h, List.getD_eq_getElem?_getD, List.getElem?_eq_getElem h]
  rfl
theorem ok30 (F : Fun K "over" "over" (st 30) f fd) (B : Blt mg) (G : Cst mg) (D1 : DisTuple P w K mg base) (D3 : DisInteger P w K mg base) (D23 : HasDef P w K mg base "check_curve" 4 ["value"] WckCurve)
    (D25 : HasDef P w K mg base "amount_of" 1 ["curve", "beats"] WamtOf) : FnOk P w K mg base CX0 5 f fd ["curve", "comes"] (SpD K Wover) := by
  refine ok_def F sc30 (fun ds π q h => ?_) (fun cdv A outer s H E ds π q C hr hK h => ?_)
  · obtain ⟨c, ms, rfl, _⟩ := h; rfl
  · obtain ⟨c, ms, rfl, ok, fit, h⟩ := h
    have hl := fit.len
    refine fs_cons (f1_expr (fe_fp (fp_def D23 hr (by decide) hK (arg1 (fp_name 0 rfl)) fun π q k => ⟨c, rfl, ok, k⟩) ?_))
    refine fs_if_no (ft_w (fw_or (q := false) (ft_not (p := true) (ft_val (fp_def D1 hr (by decide) hK (fpa_cons (fp_name 1 rfl) (arg2 fp_int (fp_gint G.mostComing))) (w_isTuple (by simp; omega))))) fun _ => fw_or1 (ft_not (p := true) (ft_val ?_)))) rfl ?_
    · refine fp_is (fp_all (bs := ms.map fun _ => true) hK rfl B.all (fp_is (fp_of rfl sc30.nd (blkOk_by (own := [("one", 2)]) (N := N30) (sc := defScope (st 30)) (by decide +kernel))
        (lcp_mapN 2 ms .int (fun _ => .bool true) sc30.nd (fip_tup hK (fp_name 1 rfl)) (by omega) rfl fun x hx s H cc cl fp C' hk hp => ?_)) (by simp))) (by rw [all_true])
      have := fit.all x hx
      exact fp_def D3 hr (by decide) (hk.trans hK) (fpa_cons (fp_name 2 rfl) (arg2 fp_int (fp_gint G.mostMuch))) (w_isInteger (by simp; omega))
    · refine fs_cons (f1_forI [3] ms.length (fun i => .int (0 + (i : Nat))) (fun i z => ∃ s3 s4 s5, z = ⟨[sd (encC c), sd (.tuple (ms.map .int)), .un, s3, s4, s5], π⟩) PassesOwn.never rfl ?_ ⟨_, _, _, rfl⟩ (fun last hlast z2 hz => ?_) fun z2 hz => ?_)
      · refine fip_is (fip_range1 B.range (fp_lenT hK B.len (fp_name 1 rfl)) (by rw [List.length_map]; omega) (by omega)) ?_
        rw [List.length_map, Int.toNat_natCast]; rfl
      · obtain ⟨s3, s4, s5, rfl⟩ := hz
        refine fg_name 3 sc30.nd rfl (.inl rfl) ?_ (by simp) (.inl rfl)
        refine fs_cons (f1_setP 4 sc30.nd fp_int ?_)
        have e0 : (0 : Int) + (last : Nat) = (last : Int) := by omega
        rw [e0]
        refine fs_one (f1_forI [5] (last + 1) (fun k => .int ((last : Int) - (k : Nat))) (fun k z => ∃ s5, z = ⟨[sd (encC c), sd (.tuple (ms.map .int)), .un, si (last : Int), si (tot ms last k), s5], π⟩) PassesOwn.never rfl ?_ ⟨_, rfl⟩ (fun k hk z3 hz => ?_) fun z3 hz => ?_)
        · refine fip_is (fip_rangeDown B.range (fp_name 3 rfl) (fp_neg fp_int) (fp_neg fp_int) (by omega)) ?_
          have : ((last : Int) - -1).toNat = last + 1 := by omega
          rw [this]; rfl
        · obtain ⟨s5, rfl⟩ := hz
          refine fg_name 5 sc30.nd rfl (.inl rfl) ?_ (by simp) (.inl rfl)
          have e1 : ((last : Int) - (k : Nat)) = ((last - k : Nat) : Int) := by omega
          rw [e1]
          refine fs_cons (f1_setP 4 sc30.nd (fp_add (fp_name 4 rfl) (fp_ixT hK (fp_name 1 rfl) (fp_name 5 rfl) (atI_ints (by omega)))) ?_)
          have hw := fit.win last k hlast (by omega)
          refine fs_one (f1_ifP (ft_gt (fp_name 4 rfl) (fp_def D25 hr (by decide) hK (arg2 (fp_name 0 rfl) (fp_add (fp_sub (fp_name 3 rfl) (fp_name 5 rfl)) fp_int)) fun π q kk => ⟨c, _, rfl, ok, kk⟩)) (fun ht => ?_) fun _ => fs_nil ⟨si ((last - k : Nat) : Int), rfl⟩)
          have e2 : (last : Int) - ((last - k : Nat) : Int) + 1 = (k : Int) + 1 := by omega
          rw [e2] at ht
          have e3 : tot ms last k + ms.getD (last - k) 0 = tot ms last (k + 1) := rfl
          rw [e3] at ht
          have := of_decide_eq_true ht
          omega
        · obtain ⟨s5, rfl⟩ := hz
          exact ⟨_, _, _, rfl⟩
      · obtain ⟨s3, s4, s5, rfl⟩ := hz
        exact fs_one (f1_retP fp_none h)
def Wworst : WF := fun ds π q => ∃ (c : List Ln) (n : Nat), ds = [.d (encC c), .d (.int n)] ∧ CurveOk c ∧ n ≤ 200 ∧ q (.d (.tuple ((worstF c n).map .int))) π
abbrev N31 : List Str := ["curve", "beats", "at"]
theorem sc31 : FnScope N31 ["curve", "beats"] (defScope (st 31)) := ⟨rfl, rfl, rfl, by decide +kernel, rfl, by decide +kernel, by decide +kernel⟩
theorem ok31 (F : Fun K "worst" "worst" (st 31) f fd) (B : Blt mg) (G : Cst mg) (D3 : DisInteger P w K mg base) (D23 : HasDef P w K mg base "check_curve" 4 ["value"] WckCurve)
    (D25 : HasDef P w K mg base "amount_of" 1 ["curve", "beats"] WamtOf) : FnOk P w K mg base CX0 5 f fd ["curve", "beats"] (SpD K Wworst) := by
  refine ok_def F sc31 (fun ds π q h => ?_) (fun cdv A outer s H E ds π q C hr hK h => ?_)
  · obtain ⟨c, ms, rfl, _⟩ := h; rfl
  · obtain ⟨c, n, rfl, ok, hn, h⟩ := h
    refine fs_cons (f1_expr (fe_fp (fp_def D23 hr (by decide) hK (arg1 (fp_name 0 rfl)) fun π q k => ⟨c, rfl, ok, k⟩) ?_))
    refine fs_if_no (ft_not (p := true) (ft_val (fp_def D3 hr (by decide) hK (fpa_cons (fp_name 1 rfl) (arg2 fp_int (fp_gint G.mostComing))) (w_isInteger (by simp; omega))))) rfl ?_
    refine fs_one (f1_retP (fp_tupleL hK B.tuple (fp_is (fp_of rfl sc31.nd (blkOk_by (own := [("at", 2)]) (N := N31) (sc := defScope (st 31)) (by decide +kernel))
        (lcp_mapN 2 (List.range n) (fun i => .int (0 + (i : Nat))) (fun i => .int (amt c ((i : Int) + 1) - amt c (i : Int))) sc31.nd ?_ (by rw [List.length_range]; omega) rfl fun x hx s H cc cl fp C' hk hp => ?_)) ?_)) h)
    · refine fip_is (fip_range1 B.range (fp_name 1 rfl) (by omega) (by omega)) ?_
      rw [Int.toNat_natCast]; rfl
    · have e0 : (0 : Int) + (x : Nat) = (x : Int) := by omega
      rw [e0]
      exact fp_sub (fp_def D25 hr (by decide) (hk.trans hK) (arg2 (fp_name 0 rfl) (fp_add (fp_name 2 rfl) fp_int)) fun π q kk => ⟨c, _, rfl, ok, kk⟩) (fp_def D25 hr (by decide) (hk.trans hK) (arg2 (fp_name 0 rfl) (fp_name 2 rfl)) fun π q kk => ⟨c, _, rfl, ok, kk⟩)
    · unfold worstF
      rw [List.map_map]; rfl
def WckServed : WF := fun ds π q => ∃ (cs : List (List Ln)) (late rate : Int), ds = [.d (encCs cs), .d (.int late), .d (.int rate)] ∧ Served cs late rate ∧ q (.d .none) π
theorem sc32 : FnScope ["curves", "late", "rate"] ["curves", "late", "rate"] (defScope (st 32)) := ⟨rfl, rfl, rfl, by decide +kernel, rfl, by decide +kernel, by decide +kernel⟩
theorem ok32 (F : Fun K "check_served" "check_served" (st 32) f fd) (B : Blt mg) (G : Cst mg) (D3 : DisInteger P w K mg base) (D24 : HasDef P w K mg base "check_curves" 4 ["value"] WckCurves) : FnOk P w K mg base CX0 5 f fd ["curves", "late", "rate"] (SpD K WckServed) := by
  refine ok_def F sc32 (fun ds π q h => ?_) (fun cdv A outer s H E ds π q C hr hK h => ?_)
  · obtain ⟨c, l, r, rfl, _⟩ := h; rfl
  · obtain ⟨cs, late, rate, rfl, ok, h⟩ := h
    obtain ⟨ok, l0, l1, r0, r1⟩ := ok
    refine fs_cons (f1_expr (fe_fp (fp_def D24 hr (by decide) hK (arg1 (fp_name 0 rfl)) fun π q k => ⟨cs, rfl, ok.ok, k⟩) ?_))
    refine fs_if_no (ft_not (p := true) (ft_val (fp_def D3 hr (by decide) hK (fpa_cons (fp_name 1 rfl) (arg2 fp_int (fp_gint G.mostLate))) (w_isInteger (by simp; omega))))) rfl ?_
    exact fs_if_no (ft_not (p := true) (ft_val (fp_def D3 hr (by decide) hK (fpa_cons (fp_name 2 rfl) (arg2 fp_int (fp_gint G.mostRate))) (w_isInteger (by simp; omega))))) rfl (fs_nil h)
def WisEver : WF := fun ds π q => ∃ (cs : List (List Ln)) (rate : Int), ds = [.d (encCs cs), .d (.int rate)] ∧ CurvesOk cs ∧ q (.d (.bool (ever cs rate))) π
abbrev N33 : List Str := ["curves", "rate", "burst", "one", "curve"]
theorem sc33 : FnScope N33 ["curves", "rate"] (defScope (st 33)) := ⟨rfl, rfl, rfl, by decide +kernel, rfl, by decide +kernel, by decide +kernel⟩
theorem ok33 (F : Fun K "is_ever" "is_ever" (st 33) f fd) (B : Blt mg) : FnOk P w K mg base CX0 1 f fd ["curves", "rate"] (SpD K WisEver) := by
  refine ok_def F sc33 (fun ds π q h => ?_) (fun cdv A outer s H E ds π q C hr hK h => ?_)
  · obtain ⟨c, r, rfl, _⟩ := h; rfl
  · obtain ⟨cs, rate, rfl, ok, h⟩ := h
    have l2 := ok.l2
    refine fs_one (f1_retP (fp_gt (fp_sum (ns := cs.map minR) hK rfl B.sum (fp_is (fp_of rfl sc33.nd (blkOk_by (own := [("curve", 4)]) (N := N33) (sc := defScope (st 33)) (by decide +kernel))
        (lcp_mapN 4 cs encC (fun c => .int (minR c)) sc33.nd (fip_tup hK (fp_name 0 rfl)) (by omega) rfl fun c hc s H cc cl fp C' hk hp => ?_)) (by simp))) (fp_name 1 rfl)) h)
    have okc := ok.all c hc
    have c1 := okc.l1
    have c2 := okc.l2
    refine fp_minL (ns := c.map fun l : Ln => l.2) (hk.trans hK) rfl B.min (fp_is (fp_of rfl sc33.nd (blkOk_by (own := [("burst", 2), ("one", 3)]) (N := N33) (sc := relS _ (defScope (st 33))) (by decide +kernel))
        (lcp_mapT 2 3 c (fun l => .int l.1) (fun l => .int l.2) (fun l => .int l.2) rfl (hk.trans hK) sc33.nd (fip_tup (hk.trans hK) (fp_name 4 rfl)) (by omega) rfl fun x hx s H cc cl fp C' hk hp => fp_name 3 rfl)) (by simp)) (by intro e; have := List.map_eq_nil_iff.mp e; subst this; simp at c1)
def Wlooked : WF := fun ds π q => ∃ (cs : List (List Ln)) (late : Int), ds = [.d (encCs cs), .d (.int late)] ∧ TurnsOk cs ∧ q (.d (.list ((looked cs late).map .int))) π
theorem turns_len2 {cs : List (List Ln)} (ok : TurnsOk cs) : (turns cs).length ≤ 44 := by
  unfold turns
  have few := ok.few
  have h1 := sortU_len (1 :: (raw cs).filter fun t => decide (0 < t))
  have h2 := List.length_filter_le (fun t => decide (0 < t)) (raw cs)
  have e : (raw cs).length = (cs.flatMap rawC).length + 1 := rfl
  rw [List.length_cons] at h1
  omega
theorem sc34 : FnScope ["curves", "late"] ["curves", "late"] (defScope (st 34)) := ⟨rfl, rfl, rfl, by decide +kernel, rfl, by decide +kernel, by decide +kernel⟩
theorem ok34 (F : Fun K "looked_at" "looked_at" (st 34) f fd) (B : Blt mg) (D29 : HasDef P w K mg base "turns_of" 1 ["curves"] WturnsOf) : FnOk P w K mg base CX0 2 f fd ["curves", "late"] (SpD K Wlooked) := by
  refine ok_def F sc34 (fun ds π q h => ?_) (fun cdv A outer s H E ds π q C hr hK h => ?_)
  · obtain ⟨c, r, rfl, _⟩ := h; rfl
  · obtain ⟨cs, late, rfl, ok, h⟩ := h
    have tl := turns_len2 ok
    refine fs_one (f1_retP (fp_fl (flp_sortedSet (ns := turns cs ++ [max 1 late, late + 1]) hK rfl B.sorted B.set (fp_is (fp_fl (flp_list (fpa_starL hK (fp_def D29 hr (by decide) hK (arg1 (fp_name 0 rfl)) fun π q k => ⟨cs, _, rfl, .inl rfl, ok, k⟩)
      (arg2 (fp_max2 rfl B.max fp_int (fp_name 1 rfl)) (fp_add (fp_name 1 rfl) fp_int))) ?_)) ?_) ?_)) h)
    · simp only [List.length_append, List.length_map, List.length_cons, List.length_nil]; omega
    · rw [List.map_append]; rfl
    · simp only [List.length_append, List.length_cons, List.length_nil]; omega
def Wcoming : WF := fun ds π q => ∃ (cs : List (List Ln)) (t : Int), ds = [.d (encCs cs), .d (.int t)] ∧ CurvesOk cs ∧ q (.d (.int (com cs t))) π
abbrev N35 : List Str := ["curves", "beats", "curve"]
theorem sc35 : FnScope N35 ["curves", "beats"] (defScope (st 35)) := ⟨rfl, rfl, rfl, by decide +kernel, rfl, by decide +kernel, by decide +kernel⟩
theorem ok35 (F : Fun K "coming" "coming" (st 35) f fd) (B : Blt mg) (D25 : HasDef P w K mg base "amount_of" 1 ["curve", "beats"] WamtOf) : FnOk P w K mg base CX0 2 f fd ["curves", "beats"] (SpD K Wcoming) := by
  refine ok_def F sc35 (fun ds π q h => ?_) (fun cdv A outer s H E ds π q C hr hK h => ?_)
  · obtain ⟨c, r, rfl, _⟩ := h; rfl
  · obtain ⟨cs, t, rfl, ok, h⟩ := h
    have l2 := ok.l2
    exact fs_one (f1_retP (fp_sum (ns := cs.map fun c => amt c t) hK rfl B.sum (fp_is (fp_of rfl sc35.nd (blkOk_by (own := [("curve", 2)]) (N := N35) (sc := defScope (st 35)) (by decide +kernel))
        (lcp_mapN 2 cs encC (fun c => .int (amt c t)) sc35.nd (fip_tup hK (fp_name 0 rfl)) (by omega) rfl fun c hc s H cc cl fp C' hk hp => fp_def D25 hr (by decide) (hk.trans hK) (arg2 (fp_name 2 rfl) (fp_name 1 rfl)) fun π q k => ⟨c, t, rfl, ok.all c hc, k⟩)) (by simp))) h)
end
end K28

set_option Elab.async false
set_option linter.all false
set_option maxRecDepth 100000
set_option maxHeartbeats 4000000
set_option autoImplicit false
namespace K28
open PySem PySem.Spec PyProof.Rows L2 DL
def enough (cs : List (List Ln)) (late waiting r : Int) : Bool := !ever cs r && decide ((bestOf (waitF cs late r) (looked cs late)).1 ≤ waiting)
/-- what least_rate may tell -/
def LeastRate (cs : List (List Ln)) (late waiting : Int) (d : PyData) : Prop := (d = .none ∧ enough cs late waiting 1000 = false) ∨ ∃ r : Int, d = .int r ∧ 1 ≤ r ∧ r ≤ 1000 ∧ enough cs late waiting r = true ∧ (r = 1 ∨ enough cs late waiting (r - 1) = false)
section
variable {P : Program} {w : World} {K : PySem.W.Frag} {mg : Str → Option Value} {base : Heap} {f : Addr} {fd : FuncData}
def Wmost (m : List (List Ln) → Int → Int → PyData) : WF := fun ds π q => ∃ (cs : List (List Ln)) (late rate : Int), ds = [.d (encCs cs), .d (.int late), .d (.int rate)] ∧ Served cs late rate ∧ q (.d (m cs late rate)) π
abbrev N36 : List Str := ["curves", "late", "rate", "best", "beats", "left"]
theorem sc36 : FnScope N36 ["curves", "late", "rate"] (defScope (st 36)) := ⟨rfl, rfl, rfl, by decide +kernel, rfl, by decide +kernel, by decide +kernel⟩
structure Tools (P : Program) (w : World) (K : PySem.W.Frag) (mg : Str → Option Value) (base : Heap) : Prop where
  d3 : DisInteger P w K mg base
  d24 : HasDef P w K mg base "check_curves" 4 ["value"] WckCurves
  d32 : HasDef P w K mg base "check_served" 5 ["curves", "late", "rate"] WckServed
  d33 : HasDef P w K mg base "is_ever" 1 ["curves", "rate"] WisEver
  d34 : HasDef P w K mg base "looked_at" 2 ["curves", "late"] Wlooked
  d35 : HasDef P w K mg base "coming" 2 ["curves", "beats"] Wcoming
theorem ok36 (F : Fun K "most_waiting" "most_waiting" (st 36) f fd) (B : Blt mg) (G : Cst mg) (T : Tools P w K mg base) : FnOk P w K mg base CX0 6 f fd ["curves", "late", "rate"] (SpD K (Wmost mostW)) := by
  refine ok_def F sc36 (fun ds π q h => ?_) (fun cdv A outer s H E ds π q C hr hK h => ?_)
  · obtain ⟨c, l, r, rfl, _⟩ := h; rfl
  · obtain ⟨cs, late, rate, rfl, ok, h⟩ := h
    have l0 := ok.l0
    have l1 := ok.l1
    have r0 := ok.r0
    have r1 := ok.r1
    refine fs_cons (f1_expr (fe_fp (fp_def T.d32 hr (by decide) hK (fpa_cons (fp_name 0 rfl) (arg2 (fp_name 1 rfl) (fp_name 2 rfl))) fun π q k => ⟨cs, late, rate, rfl, ok, k⟩) ?_))
    refine fs_cons (f1_ifP (ft_val (fp_def T.d33 hr (by decide) hK (arg2 (fp_name 0 rfl) (fp_name 2 rfl)) fun π q k => ⟨cs, rate, rfl, ok.ok.ok, k⟩)) (fun he => ?_) fun he => fs_nil ?_)
    · refine fs_one (f1_retP (fp_tuple (arg1 (fp_gstr G.ever))) ?_)
      have e : mostW cs late rate = .tuple [.str "ever"] := by unfold mostW told; rw [if_pos he]
      rw [e] at h
      exact h
    · refine fs_cons (f1_setP 3 sc36.nd (fp_tuple (arg2 fp_int fp_int)) ?_)
      refine fs_cons (f1_forA [4] (looked cs late) PyData.int (fun b z => ∃ s4 s5, z = ⟨[sd (encCs cs), si late, si rate, sd (.tuple [.int b.1, .int b.2]), s4, s5], π⟩) (fun b t => if b.1 < waitF cs late rate t then (waitF cs late rate t, t) else b) ((0, 0) : Int × Int) PassesOwn.never rfl ?_ ⟨_, _, rfl⟩ (fun pre t post e1 z2 hz => ?_) fun z2 hz => ?_)
      · exact fip_list hK (fp_def T.d34 hr (by decide) hK (arg2 (fp_name 0 rfl) (fp_name 1 rfl)) fun π q k => ⟨cs, late, rfl, ok.ok, k⟩)
      · obtain ⟨s4, s5, rfl⟩ := hz
        generalize pre.foldl _ ((0, 0) : Int × Int) = b
        refine fg_name 4 sc36.nd rfl (.inl rfl) ?_ (by simp) (.inl rfl)
        refine fs_cons (f1_setP 5 sc36.nd (d := .int (waitF cs late rate t)) (fp_sub (fp_def T.d35 hr (by decide) hK (arg2 (fp_name 0 rfl) (fp_name 4 rfl)) fun π q k => ⟨cs, t, rfl, ok.ok.ok, k⟩) (fp_mul (fp_name 2 rfl) (fp_max2 rfl B.max fp_int (fp_sub (fp_name 4 rfl) (fp_name 1 rfl))) (.inl ⟨by omega, by omega⟩))) ?_)
        refine fs_one (f1_ifP (ft_gt (fp_name 5 rfl) (fp_ixT hK (fp_name 3 rfl) fp_int rfl)) (fun hlt => ?_) fun hlt => ?_)
        · have hlt : b.1 < waitF cs late rate t := of_decide_eq_true hlt
          rw [if_pos hlt]
          exact fs_one (f1_setP 3 sc36.nd (fp_tuple (arg2 (fp_name 5 rfl) (fp_name 4 rfl))) ⟨_, _, rfl⟩)
        · have hlt : ¬ b.1 < waitF cs late rate t := of_decide_eq_false hlt
          rw [if_neg hlt]
          exact fs_nil ⟨_, _, rfl⟩
      · obtain ⟨s4, s5, rfl⟩ := hz
        refine fs_one (f1_retP (fp_tuple (fpa_cons (fp_gstr G.most) (fpa_starT hK (fp_name 3 rfl) fpa_nil)) (by simp)) ?_)
        have e : mostW cs late rate = .tuple ([.str "most"] ++ ([.int (bestOf (waitF cs late rate) (looked cs late)).1, .int (bestOf (waitF cs late rate) (looked cs late)).2] ++ [])) := by unfold mostW told; rw [if_neg (by rw [he]; exact Bool.false_ne_true)]; rfl
        rw [e] at h
        exact h
abbrev N37 : List Str := ["curves", "late", "rate", "best", "beats", "much", "behind"]
theorem sc37 : FnScope N37 ["curves", "late", "rate"] (defScope (st 37)) := ⟨rfl, rfl, rfl, by decide +kernel, rfl, by decide +kernel, by decide +kernel⟩
theorem ok37 (F : Fun K "most_late" "most_late" (st 37) f fd) (B : Blt mg) (G : Cst mg) (T : Tools P w K mg base) : FnOk P w K mg base CX0 6 f fd ["curves", "late", "rate"] (SpD K (Wmost mostL)) := by
  refine ok_def F sc37 (fun ds π q h => ?_) (fun cdv A outer s H E ds π q C hr hK h => ?_)
  · obtain ⟨c, l, r, rfl, _⟩ := h; rfl
  · obtain ⟨cs, late, rate, rfl, ok, h⟩ := h
    have l0 := ok.l0
    have l1 := ok.l1
    have r0 := ok.r0
    have r1 := ok.r1
    refine fs_cons (f1_expr (fe_fp (fp_def T.d32 hr (by decide) hK (fpa_cons (fp_name 0 rfl) (arg2 (fp_name 1 rfl) (fp_name 2 rfl))) fun π q k => ⟨cs, late, rate, rfl, ok, k⟩) ?_))
    refine fs_cons (f1_ifP (ft_val (fp_def T.d33 hr (by decide) hK (arg2 (fp_name 0 rfl) (fp_name 2 rfl)) fun π q k => ⟨cs, rate, rfl, ok.ok.ok, k⟩)) (fun he => ?_) fun he => fs_nil ?_)
    · refine fs_one (f1_retP (fp_tuple (arg1 (fp_gstr G.ever))) ?_)
      have e : mostL cs late rate = .tuple [.str "ever"] := by unfold mostL told; rw [if_pos he]
      rw [e] at h
      exact h
    · refine fs_cons (f1_setP 3 sc37.nd (fp_tuple (arg2 fp_int fp_int)) ?_)
      refine fs_cons (f1_forA [4] (looked cs late) PyData.int (fun b z => ∃ s4 s5 s6, z = ⟨[sd (encCs cs), si late, si rate, sd (.tuple [.int b.1, .int b.2]), s4, s5, s6], π⟩) (fun b t => if b.1 < lateF cs late rate t then (lateF cs late rate t, t) else b) ((0, 0) : Int × Int) PassesOwn.never rfl ?_ ⟨_, _, _, rfl⟩ (fun pre t post e1 z2 hz => ?_) fun z2 hz => ?_)
      · exact fip_list hK (fp_def T.d34 hr (by decide) hK (arg2 (fp_name 0 rfl) (fp_name 1 rfl)) fun π q k => ⟨cs, late, rfl, ok.ok, k⟩)
      · obtain ⟨s4, s5, s6, rfl⟩ := hz
        generalize pre.foldl _ ((0, 0) : Int × Int) = b
        refine fg_name 4 sc37.nd rfl (.inl rfl) ?_ (by simp) (.inl rfl)
        refine fs_cons (f1_setP 5 sc37.nd (d := .int (com cs t)) (fp_def T.d35 hr (by decide) hK (arg2 (fp_name 0 rfl) (fp_name 4 rfl)) fun π q k => ⟨cs, t, rfl, ok.ok.ok, k⟩) ?_)
        refine fs_cons (f1_setP 6 sc37.nd (d := .int (lateF cs late rate t)) (fp_is (fp_if (ft_gt (fp_name 5 rfl) fp_int) (fun _ => fp_sub (fp_add (fp_name 1 rfl) (fp_neg (fp_fdiv (fp_neg (fp_name 5 rfl)) (fp_name 2 rfl) ⟨by omega, by omega⟩))) (fp_name 4 rfl)) fun _ => fp_int) ?_) ?_)
        · unfold lateF
          by_cases h0 : 0 < com cs t
          · rw [if_pos h0, if_pos (decide_eq_true h0)]
          · rw [if_neg h0, if_neg (by rw [decide_eq_false h0]; exact Bool.false_ne_true)]
        · refine fs_one (f1_ifP (ft_gt (fp_name 6 rfl) (fp_ixT hK (fp_name 3 rfl) fp_int rfl)) (fun hlt => ?_) fun hlt => ?_)
          · have hlt : b.1 < lateF cs late rate t := of_decide_eq_true hlt
            rw [if_pos hlt]
            exact fs_one (f1_setP 3 sc37.nd (fp_tuple (arg2 (fp_name 6 rfl) (fp_name 4 rfl))) ⟨_, _, _, rfl⟩)
          · have hlt : ¬ b.1 < lateF cs late rate t := of_decide_eq_false hlt
            rw [if_neg hlt]
            exact fs_nil ⟨_, _, _, rfl⟩
      · obtain ⟨s4, s5, s6, rfl⟩ := hz
        refine fs_one (f1_retP (fp_tuple (fpa_cons (fp_gstr G.most) (fpa_starT hK (fp_name 3 rfl) fpa_nil)) (by simp)) ?_)
        have e : mostL cs late rate = .tuple ([.str "most"] ++ ([.int (bestOf (lateF cs late rate) (looked cs late)).1, .int (bestOf (lateF cs late rate) (looked cs late)).2] ++ [])) := by unfold mostL told; rw [if_neg (by rw [he]; exact Bool.false_ne_true)]; rfl
        rw [e] at h
        exact h
def Wwithin : WF := fun ds π q => ∃ (cs : List (List Ln)) (late rate waiting : Int), ds = [.d (encCs cs), .d (.int late), .d (.int rate), .d (.int waiting)] ∧ Served cs late rate ∧ q (.d (.bool (enough cs late waiting rate))) π
abbrev N39 : List Str := ["curves", "late", "rate", "waiting", "found"]
theorem sc39 : FnScope N39 ["curves", "late", "rate", "waiting"] (defScope (st 39)) := ⟨rfl, rfl, rfl, by decide +kernel, rfl, by decide +kernel, by decide +kernel⟩
theorem ok39 (F : Fun K "is_within" "is_within" (st 39) f fd) (G : Cst mg) (D36 : HasDef P w K mg base "most_waiting" 6 ["curves", "late", "rate"] (Wmost mostW)) : FnOk P w K mg base CX0 7 f fd ["curves", "late", "rate", "waiting"] (SpD K Wwithin) := by
  refine ok_def F sc39 (fun ds π q h => ?_) (fun cdv A outer s H E ds π q C hr hK h => ?_)
  · obtain ⟨c, l, r, wt, rfl, _⟩ := h; rfl
  · obtain ⟨cs, late, rate, wt, rfl, ok, h⟩ := h
    refine fs_cons (f1_setP 4 sc39.nd (d := mostW cs late rate) (fp_def D36 hr (by decide) hK (fpa_cons (fp_name 0 rfl) (arg2 (fp_name 1 rfl) (fp_name 2 rfl))) fun π q k => ⟨cs, late, rate, rfl, ok, k⟩) ?_)
    cases he : ever cs rate with
    | true =>
      have e : mostW cs late rate = .tuple [.str "ever"] := by unfold mostW told; rw [if_pos he]
      have e2 : enough cs late wt rate = false := by unfold enough; rw [he]; rfl
      rw [e]
      rw [e2] at h
      exact fs_one (f1_retP (fp_is (fp_and (p := false) (q := true) (fp_is (fp_eqS (fp_ixT hK (fp_name 4 rfl) fp_int rfl) (fp_gstr G.most)) (by rw [decide_eq_false (by decide +kernel)])) fun hf => by cases hf) rfl) h)
    | false =>
      have e : mostW cs late rate = .tuple [.str "most", .int (bestOf (waitF cs late rate) (looked cs late)).1, .int (bestOf (waitF cs late rate) (looked cs late)).2] := by unfold mostW told; rw [if_neg (by rw [he]; exact Bool.false_ne_true)]
      have e2 : enough cs late wt rate = decide ((bestOf (waitF cs late rate) (looked cs late)).1 ≤ wt) := by unfold enough; rw [he]; rfl
      rw [e]
      rw [e2] at h
      exact fs_one (f1_retP (fp_is (fp_and (p := true) (q := decide ((bestOf (waitF cs late rate) (looked cs late)).1 ≤ wt)) (fp_is (fp_eqS (fp_ixT hK (fp_name 4 rfl) fp_int rfl) (fp_gstr G.most)) (by rw [decide_eq_true rfl])) fun _ => fp_one (fp_le (fp_ixT hK (fp_name 4 rfl) fp_int rfl) (fp_name 3 rfl))) rfl) h)
def WleastRate : WF := fun ds π q => ∃ (cs : List (List Ln)) (late waiting : Int), ds = [.d (encCs cs), .d (.int late), .d (.int waiting)] ∧ TurnsOk cs ∧ 0 ≤ late ∧ late ≤ 1000000 ∧ 0 ≤ waiting ∧ waiting ≤ 10000000000 ∧ ∀ d, LeastRate cs late waiting d → q (.d d) π
abbrev N38 : List Str := ["curves", "late", "waiting", "low", "high", "middle", "is_enough"]
theorem sc38 : FnScope N38 ["curves", "late", "waiting"] (defScope (st 38)) := ⟨rfl, rfl, rfl, by decide +kernel, rfl, by decide +kernel, by decide +kernel⟩
theorem ok38 (F : Fun K "least_rate" "least_rate" (st 38) f fd) (B : Blt mg) (G : Cst mg) (T : Tools P w K mg base) (D39 : HasDef P w K mg base "is_within" 7 ["curves", "late", "rate", "waiting"] Wwithin) : FnOk P w K mg base CX0 8 f fd ["curves", "late", "waiting"] (SpD K WleastRate) := by
  refine ok_def F sc38 (fun ds π q h => ?_) (fun cdv A outer s H E ds π q C hr hK h => ?_)
  · obtain ⟨c, l, wt, rfl, _⟩ := h; rfl
  · obtain ⟨cs, late, wt, rfl, ok, l0, l1, w0, w1, h⟩ := h
    refine fs_cons (f1_expr (fe_fp (fp_def T.d24 hr (by decide) hK (arg1 (fp_name 0 rfl)) fun π q k => ⟨cs, rfl, ok.ok, k⟩) ?_))
    refine fs_if_no (ft_not (p := true) (ft_val (fp_def T.d3 hr (by decide) hK (fpa_cons (fp_name 1 rfl) (arg2 fp_int (fp_gint G.mostLate))) (w_isInteger (by simp; omega))))) rfl ?_
    refine fs_if_no (ft_not (p := true) (ft_val (fp_def T.d3 hr (by decide) hK (fpa_cons (fp_name 2 rfl) (arg2 fp_int (fp_gint G.mostBeats))) (w_isInteger (by simp; omega))))) rfl ?_
    refine fs_cons (f1_parP (i := 3) (j := 4) rfl sc38.nd (by decide) fp_int (fp_add (fp_gint G.mostRate) fp_int) ?_)
    refine fs_cons (f1_while (fun n z => ∃ (lo hi : Int) (s5 s6 : Sl), z = ⟨[sd (encCs cs), si late, si wt, si lo, si hi, s5, s6], π⟩ ∧ 1 ≤ lo ∧ lo ≤ hi ∧ hi ≤ 1001 ∧ n = (hi - lo).toNat ∧ (lo = 1 ∨ enough cs late wt (lo - 1) = false) ∧ (hi = 1001 ∨ enough cs late wt hi = true)) PassesOwn.never 1000 ⟨1, 1001, .un, .un, rfl, by decide, by decide, by decide, rfl, .inl rfl, .inl rfl⟩ (fun n z2 hz => ?_))
    obtain ⟨lo, hi, s5, s6, rfl, a1, a2, a3, a4, a5, a6⟩ := hz
    refine ft_fp (ft_lt (fp_name 3 rfl) (fp_name 4 rfl)) ⟨fun hlt => ?_, fun hge => ?_⟩
    · have hlt : lo < hi := of_decide_eq_true hlt
      refine fs_cons (f1_setP 5 sc38.nd (fp_fdiv (fp_add (fp_name 3 rfl) (fp_name 4 rfl)) (fp_gint G.pair) ⟨by decide, by decide⟩) ?_)
      generalize hm : (lo + hi) / 2 = m
      have m1 : lo ≤ m := by omega
      have m2 : m < hi := by omega
      refine fs_cons (f1_setP 6 sc38.nd (d := .bool (decide (1000 < m) || enough cs late wt m)) (fp_or (fp_gt (fp_name 5 rfl) (fp_gint G.mostRate)) fun hf => fp_one (fp_def D39 hr (by decide) hK (fpa_cons (fp_name 0 rfl) (fpa_cons (fp_name 1 rfl) (arg2 (fp_name 5 rfl) (fp_name 2 rfl)))) fun π q k => ⟨cs, late, m, wt, rfl, ⟨ok, l0, l1, by omega, by have := of_decide_eq_false hf; omega⟩, k⟩)) ?_)
      have hno : decide (1000 < m) = false := decide_eq_false (by omega)
      rw [hno, Bool.false_or]
      cases he : enough cs late wt m with
      | true =>
        refine fs_one (f1_asg [3, 4] (fe_fp (d := .tuple [.int lo, .int m]) (fp_is (fp_if (ft_val (p := true) (fp_name 6 rfl)) (fun _ => fp_tuple (arg2 (fp_name 3 rfl) (fp_name 5 rfl))) (y := .none) fun hf => by cases hf) rfl) ⟨_, rfl, ?_⟩))
        refine fg_tup rfl hK (fgs_cons (fg_name 3 sc38.nd rfl (.inl rfl) (fgs_cons (fg_name 4 sc38.nd rfl (.inl rfl) (fgs_nil ?_) (by simp) (.inl rfl))) (by simp) (.inl rfl))) rfl rfl
        exact ⟨(m - lo).toNat, by omega, lo, m, _, _, rfl, a1, m1, by omega, rfl, a5, .inr he⟩
      | false =>
        refine fs_one (f1_asg [3, 4] (fe_fp (d := .tuple [.int (m + 1), .int hi]) (fp_is (fp_if (x := .none) (ft_val (p := false) (fp_name 6 rfl)) (fun hf => by cases hf) fun _ => fp_tuple (arg2 (fp_add (fp_name 5 rfl) fp_int) (fp_name 4 rfl))) rfl) ⟨_, rfl, ?_⟩))
        refine fg_tup rfl hK (fgs_cons (fg_name 3 sc38.nd rfl (.inl rfl) (fgs_cons (fg_name 4 sc38.nd rfl (.inl rfl) (fgs_nil ?_) (by simp) (.inl rfl))) (by simp) (.inl rfl))) rfl rfl
        exact ⟨(hi - (m + 1)).toNat, by omega, m + 1, hi, _, _, rfl, by omega, by omega, a3, rfl, .inr (by rw [Int.add_sub_cancel]; exact he), a6⟩
    · have hge : ¬ lo < hi := of_decide_eq_false hge
      have e : lo = hi := by omega
      subst e
      refine fs_one (f1_retP (fp_if (ft_le (fp_name 3 rfl) (fp_gint G.mostRate)) (fun _ => fp_name 3 rfl) fun _ => fp_none) ?_)
      refine h _ ?_
      by_cases hle : lo ≤ 1000
      · rw [if_pos (decide_eq_true hle)]
        exact .inr ⟨lo, rfl, a1, hle, a6.resolve_left (by omega), a5⟩
      · rw [if_neg (by rw [decide_eq_false hle]; exact Bool.false_ne_true)]
        have e : lo = 1001 := by omega
        subst e
        exact .inl ⟨rfl, a5.resolve_left (by decide)⟩
end
end K28

set_option Elab.async false
set_option linter.all false
set_option maxRecDepth 100000
set_option maxHeartbeats 4000000
set_option autoImplicit false
namespace K28
open PySem PySem.Spec PyProof.Rows L2 DL
section
variable {P : Program} {w : World} {K : PySem.W.Frag} {mg : Str → Option Value} {base : Heap} {f : Addr} {fd : FuncData}
def Wpot : List DV → (List PyData → Prop) → Prop := fun ds q => ∃ (ns : List Int) (place : Nat), ds = [.d (.list (ns.map .int)), .d (.int place)] ∧ ns.length ≤ 63 ∧ place ≤ 63 ∧ ∀ i j l : Int, PB ⟨i, j, l⟩ 0 → q [.int i, .int j, .int l]
abbrev N41 : List Str := ["script", "place", "cell", "own", "small"]
theorem sc41 : FnScope N41 ["script", "place"] (defScope (st 41)) := ⟨rfl, rfl, rfl, by decide +kernel, rfl, by decide +kernel, by decide +kernel⟩
theorem cut1 (ns : List Int) : ∃ ms : List Int, cutD (ns.map PyData.int) none (some 1) = ms.map .int := by
  have : ∀ d ∈ cutD (ns.map PyData.int) none (some 1), ∃ i, d = PyData.int i := fun d hd => by
    have hd : d ∈ ns.map PyData.int := List.mem_of_mem_drop (List.mem_of_mem_take hd)
    obtain ⟨i, _, e⟩ := List.mem_map.mp hd
    exact ⟨i, e.symm⟩
  revert this
  generalize cutD (ns.map PyData.int) none (some 1) = l
  intro h
  induction l with
  | nil => exact ⟨[], rfl⟩
  | cons d ds ih =>
    obtain ⟨i, rfl⟩ := h d List.mem_cons_self
    obtain ⟨ms, e⟩ := ih fun d hd => h d (List.mem_cons_of_mem _ hd)
    exact ⟨i :: ms, by rw [e]; rfl⟩
theorem bool01 (b : Bool) : -(2 ^ 64) < (if b = true then (1 : Int) else 0) ∧ (if b = true then (1 : Int) else 0) < 2 ^ 64 := by cases b <;> decide
theorem bool0 (b : Bool) : 0 ≤ (if b = true then (1 : Int) else 0) := by cases b <;> decide
theorem ok41 (F : Fun K "_law_pot" "_law_pot" (st 41) f fd) (B : Blt mg) : FnOk P w K mg base CX0 1 f fd ["script", "place"] (SpL K Wpot) := by
  refine ok_defL F sc41 (fun ds q h => ?_) (fun cdv A outer s H E ds q C hr hK h => ?_)
  · obtain ⟨c, l, rfl, _⟩ := h; rfl
  · obtain ⟨ns, place, rfl, hl, hp, h⟩ := h
    obtain ⟨ms, hms⟩ := cut1 ns
    refine psl_cons (N := fun z1 => ∃ cell : Int, z1 = ⟨[sd (.list (ns.map .int)), si place, si cell, .un, .un], ⟨0, 0, 0⟩⟩) (f1_setP 2 sc41.nd (d := .int (if place < ns.length then ns.getD place 0 else ms.sum % 1000003 + 24509 * place + 20491)) (fp_is (fp_if (ft_lt (fp_name 1 rfl) (fp_lenL hK B.len (fp_name 0 rfl)))
      (fun hlt => fp_ixL hK (fp_name 0 rfl) (fp_name 1 rfl) (atI_ints (by have := of_decide_eq_true hlt; rw [List.length_map] at this; omega)))
      (fun _ => fp_add (fp_add (fp_mod (fp_intI B.int (fp_sum (ns := ms) hK rfl B.sum (fp_is (fp_fl (flp_slL hK (fp_name 0 rfl) fo_none (fo_some fp_int))) (by rw [hms])))) fp_int (by decide)) (fp_mul fp_int (fp_name 1 rfl) (.inl ⟨by decide, by decide⟩))) fp_int)) ?_) ⟨_, rfl⟩) fun z1 hz => ?_
    · rw [List.length_map]
      by_cases hlt : place < ns.length
      · rw [if_pos hlt, if_pos (decide_eq_true (by omega))]
      · rw [if_neg hlt, if_neg (by rw [decide_eq_false (by omega)]; exact Bool.false_ne_true)]
    · obtain ⟨cell, rfl⟩ := hz
      refine psl_cons (N := fun z1 => ∃ own : Int, 0 ≤ own ∧ z1 = ⟨[sd (.list (ns.map .int)), si place, si cell, si own, .un], ⟨0, 0, 0⟩⟩) (f1_setP 3 sc41.nd (fp_mul (fp_mod (fp_intI B.int (fp_abs B.abs (fp_name 2 rfl))) (fp_powW (fp_pow fp_int fp_int ⟨by decide, by decide, by decide⟩) fp_int ⟨by decide, by decide +kernel⟩) (by decide +kernel)) (fp_intB B.int (fp_ge (fp_abs B.abs (fp_name 2 rfl)) (fp_pow fp_int fp_int ⟨by decide, by decide, by decide⟩))) (.inr ?_)) ⟨_, ?_, rfl⟩) fun z1 hz => ?_
      · exact bool01 _
      · exact Int.mul_nonneg (Int.emod_nonneg _ (by decide +kernel)) (bool0 _)
      · obtain ⟨own, h0, rfl⟩ := hz
        refine psl_cons (N := fun z1 => ∃ small : Int, 0 ≤ small ∧ small < 2305843009213693951 ∧ z1 = ⟨[sd (.list (ns.map .int)), si place, si cell, si own, si small], ⟨0, 0, 0⟩⟩) (f1_setP 4 sc41.nd (fp_mod (fp_intI B.int (fp_name 2 rfl)) fp_int (by decide)) ⟨_, Int.emod_nonneg _ (by decide), Int.emod_lt_of_pos _ (by decide), rfl⟩) fun z1 hz => ?_
        obtain ⟨small, s0, s1, rfl⟩ := hz
        refine psl_ret (fl_mono (flp_list (xs := [.int own, .int ((small * 133527 + 28819 * place * place + 2317) % 2305843009213693921), .int 0]) (fpa_cons (fp_name 3 rfl) (arg2 (fp_mod (fp_intI B.int (fp_add (fp_add (fp_mul (fp_name 4 rfl) fp_int (.inr ⟨by decide, by decide⟩)) (fp_mul (fp_mul fp_int (fp_name 1 rfl) (.inl ⟨by decide, by decide⟩)) (fp_name 1 rfl) (.inr ⟨by omega, by omega⟩))) fp_int)) fp_int (by decide)) fp_int))) fun ds' z' ⟨e1, e2⟩ => ?_)
        subst e1
        have b0 := Int.emod_nonneg (small * 133527 + 28819 * place * place + 2317) (b := 2305843009213693921) (by decide)
        have b1 := Int.emod_lt_of_pos (small * 133527 + 28819 * place * place + 2317) (b := 2305843009213693921) (by decide)
        exact h _ _ _ ⟨h0, b0, Int.lt_trans b1 (by decide), Int.le_refl 0, Int.le_refl 0⟩
abbrev N42 : List Str := ["pot", "upto", "digit", "prime", "blend"]
theorem sc42 : FnScope N42 ["pot", "upto"] (defScope (st 42)) := ⟨rfl, rfl, rfl, by decide +kernel, rfl, by decide +kernel, by decide +kernel⟩
def primes : List Int := [2147483647, 2147483629, 2147483587, 2147483579, 2147483563]
theorem primes_ok {k : Nat} (h : k < 5) : 2147483563 ≤ primes.getD k 0 ∧ primes.getD k 0 ≤ 2147483647 := by
  match k, h with
  | 0, _ => decide
  | 1, _ => decide
  | 2, _ => decide
  | 3, _ => decide
  | 4, _ => decide
theorem sq_lt {c : Int} (h0 : 0 ≤ c) (h1 : c ≤ 1000001) : 104509 * c * c ≤ 104509 * 1000001 * 1000001 := by
  have a : 104509 * c ≤ 104509 * 1000001 := by omega
  exact Int.le_trans (Int.mul_le_mul_of_nonneg_right a h0) (Int.mul_le_mul_of_nonneg_left h1 (by decide))
theorem ok42 (F : Fun K "_law_take" "_law_take" (st 42) f fd) (B : Blt mg) : FnOk P w K mg base CX0 1 f fd ["pot", "upto"] (SpD K Wtake) := by
  refine ok_def F sc42 (fun ds π q h => ?_) (fun cdv A outer s H E ds π q C hr hK h => ?_)
  · obtain ⟨u, n, rfl, _⟩ := h; rfl
  · obtain ⟨u, n, rfl, u1, u2, pb, hn, h⟩ := h
    obtain ⟨pa, pb0, pb1, pc0, pc1⟩ := pb
    obtain ⟨pa', pb', pc'⟩ := π
    simp only at pa pb0 pb1 pc0 pc1
    refine fs_cons (f1_ifP (ft_gt (fp_potIx 0 hK rfl fp_int rfl) fp_int) (fun hpos => ?_) fun _ => fs_nil ?_)
    · have hpos : 0 < pa' := of_decide_eq_true hpos
      refine fs_cons (f1_setP 2 sc42.nd (fp_mod (fp_intI B.int (fp_potIx 0 hK rfl fp_int rfl)) (fp_name 1 rfl) (by omega)) ?_)
      refine fs_cons (f1_potSet (k := 0) (π := ⟨pa' / u, pb', pc'⟩) 0 rfl (fp_fdiv (fp_potIx 0 hK rfl fp_int rfl) (fp_name 1 rfl) ⟨by omega, u2⟩) fp_int rfl rfl ?_)
      refine fs_one (f1_retP (fp_name 2 rfl) (h _ _ (Int.emod_nonneg _ (by omega)) (Int.emod_lt_of_pos _ (by omega)) ⟨?_, pb0, pb1, pc0, ?_⟩))
      · exact Int.ediv_nonneg pa (by omega)
      · show pc' ≤ ((n + 1 : Nat) : Int)
        omega
    · refine fs_cons (f1_potSet (k := 2) (π := ⟨pa', pb', pc' + 1⟩) 0 rfl (fp_add (fp_potIx 0 hK rfl fp_int rfl) fp_int) fp_int rfl rfl ?_)
      have hk : (pc' + 1) % 5 = (((pc' + 1) % 5).toNat : Int) := by omega
      have hk5 : ((pc' + 1) % 5).toNat < 5 := by omega
      obtain ⟨p1, p2⟩ := primes_ok hk5
      refine fs_cons (f1_setP 3 sc42.nd (fp_ixL hK (fp_is (fp_fl (flp_list (fpa_cons fp_int (fpa_cons fp_int (fpa_cons fp_int (arg2 fp_int fp_int)))))) (show _ = PyData.list (primes.map .int) from rfl)) (fp_is (fp_mod (fp_intI B.int (fp_potIx 0 hK rfl fp_int rfl)) fp_int (by decide)) (congrArg PyData.int hk)) (atI_ints hk5)) ?_)
      generalize primes.getD ((pc' + 1) % 5).toNat 0 = pr at p1 p2 ⊢
      have hs := sq_lt (c := pc' + 1) (by omega) (by omega)
      have hs0 : 0 ≤ 104509 * (pc' + 1) * (pc' + 1) := Int.mul_nonneg (Int.mul_nonneg (by decide) (by omega)) (by omega)
      refine fs_cons (f1_setP 4 sc42.nd (fp_mod (fp_intI B.int (fp_pow (fp_intI B.int (fp_add (fp_add (fp_potIx 0 hK rfl fp_int rfl) (fp_mul (fp_mul fp_int (fp_potIx 0 hK rfl fp_int rfl) (.inl ⟨by decide, by decide⟩)) (fp_potIx 0 hK rfl fp_int rfl) (.inr ⟨?_, ?_⟩))) fp_int)) fp_int ⟨by decide, by decide, ?_⟩)) (fp_name 3 rfl) (by omega)) ?_)
      · show -(2 ^ 64) < pc' + 1
        omega
      · show pc' + 1 < 2 ^ 64
        omega
      · show (pb' + 104509 * (pc' + 1) * (pc' + 1) + 21501).natAbs < 2 ^ 64
        omega
      · generalize hbl : (pb' + 104509 * (pc' + 1) * (pc' + 1) + 21501) ^ (3 : Int).toNat % pr = bl
        have b0 : 0 ≤ bl := by rw [← hbl]; exact Int.emod_nonneg _ (by omega)
        have b1 : bl < pr := by rw [← hbl]; exact Int.emod_lt_of_pos _ (by omega)
        refine fs_one (f1_retP (fp_mod (fp_intI B.int (fp_fdiv (fp_mul (fp_name 4 rfl) (fp_add (fp_mod (fp_intI B.int (fp_name 4 rfl)) fp_int (by decide)) (fp_mul fp_int (fp_potIx 0 hK rfl fp_int rfl) (.inl ⟨by decide, by decide⟩))) (.inl ⟨by omega, by omega⟩)) fp_int ⟨by decide, by decide⟩)) (fp_name 1 rfl) (by omega)) (h _ _ (Int.emod_nonneg _ (by omega)) (Int.emod_lt_of_pos _ (by omega)) ⟨pa, pb0, pb1, ?_, ?_⟩))
        · show 0 ≤ pc' + 1
          omega
        · show pc' + 1 ≤ ((n + 1 : Nat) : Int)
          omega
end
end K28

set_option Elab.async false
set_option linter.all false
set_option maxRecDepth 100000
set_option maxHeartbeats 4000000
set_option autoImplicit false
namespace K28
open PySem PySem.Spec PyProof.Rows L2 DL
def paper (e : Bool) (b : Int × Int) : PyData := if e = true then .tuple [.str "ever"] else .tuple [.str "most", .int b.1, .int b.2]
/-- drawn lines and curves -/
def LnD (l : Ln) : Prop := 0 ≤ l.1 ∧ l.1 ≤ 299 ∧ 0 ≤ l.2 ∧ l.2 ≤ 19
structure CurveD (c : List Ln) : Prop where
  l1 : 1 ≤ c.length
  l2 : c.length ≤ 3
  all : ∀ l ∈ c, LnD l
theorem CurveD.ok {c : List Ln} (h : CurveD c) : CurveOk c := ⟨h.l1, Nat.le_trans h.l2 (by decide), fun l hl => by
  have := h.all l hl
  unfold LnD at this
  unfold LnOk
  omega⟩
theorem atI_mem {xs : List PyData} {d : Int} (h0 : 0 ≤ d) (h1 : d < xs.length) : ∃ x ∈ xs, atI xs d = some x := by
  have hi : d.toNat < xs.length := by omega
  refine ⟨xs[d.toNat], List.getElem_mem hi, ?_⟩
  unfold atI ixN
  rw [if_pos h0, if_pos h1]
  show xs[d.toNat]? = _
  exact List.getElem?_eq_getElem hi
section
variable {P : Program} {w : World} {K : PySem.W.Frag} {mg : Str → Option Value} {base : Heap} {f : Addr} {fd : FuncData}
theorem sc43 : FnScope ["pot", "some"] ["pot", "some"] (defScope (st 43)) := ⟨rfl, rfl, rfl, by decide +kernel, rfl, by decide +kernel, by decide +kernel⟩
theorem ok43 (F : Fun K "_law_of" "_law_of" (st 43) f fd) (B : Blt mg) (D42 : HasDef P w K mg base "_law_take" 1 ["pot", "upto"] Wtake) : FnOk P w K mg base CX0 2 f fd ["pot", "some"] (SpD K Wof) := by
  refine ok_def F sc43 (fun ds π q h => ?_) (fun cdv A outer s H E ds π q C hr hK h => ?_)
  · obtain ⟨u, n, rfl, _⟩ := h; rfl
  · obtain ⟨xs, n, rfl, hne, hl, pb, hn, h⟩ := h
    have hpos : 0 < xs.length := List.length_pos_iff.mpr hne
    refine fs_one (f1_ret (fe_ixL hK (fp_name 1 rfl) (fe_take 0 D42 hr (by decide) hK rfl (fp_lenL hK B.len (fp_name 1 rfl)) (by omega) (by omega) pb hn fun d π' d0 d1 pb' => ?_)))
    obtain ⟨x, hx, e⟩ := atI_mem d0 d1
    exact ⟨d, x, rfl, e, h x hx π' pb'⟩
def WlawCurve : WF := fun ds π q => ∃ n : Nat, ds = [.pot] ∧ PB π n ∧ n ≤ 900000 ∧ ∀ c π', CurveD c → (∀ l ∈ c, l.2 ≤ 11) → PB π' (n + 10) → q (.d (encC c)) π'
abbrev N44 : List Str := ["pot", "lines", "line"]
theorem sc44 : FnScope N44 ["pot"] (defScope (st 44)) := ⟨rfl, rfl, rfl, by decide +kernel, rfl, by decide +kernel, by decide +kernel⟩
theorem ok44 (F : Fun K "_law_curve" "_law_curve" (st 44) f fd) (B : Blt mg) (D42 : HasDef P w K mg base "_law_take" 1 ["pot", "upto"] Wtake) (D43 : HasDef P w K mg base "_law_of" 2 ["pot", "some"] Wof) : FnOk P w K mg base CX0 3 f fd ["pot"] (SpD K WlawCurve) := by
  refine ok_def F sc44 (fun ds π q h => ?_) (fun cdv A outer s H E ds π q C hr hK h => ?_)
  · obtain ⟨n, rfl, _⟩ := h; rfl
  · obtain ⟨n, rfl, pb, hn, h⟩ := h
    refine fs_cons (f1_setO 1 sc44.nd (fl_mono (flp_list (xs := []) fpa_nil) fun ds' z' ⟨e1, e2⟩ => ?_))
    subst e1 e2
    refine fs_cons (f1_for [2] PassesOwn.never rfl (fi_range1 B.range (fe_addD fp_int (fe_take 0 D42 hr (by decide) hK rfl fp_int (by decide) (by decide) pb (by omega) fun d π1 d0 d1 pb1 => ⟨d, rfl, 1 + d, rfl, by omega, by omega, ?_⟩))))
    refine ⟨fun i z => ∃ (c : List Ln) (π2 : Pot) (s2 : Sl), z = ⟨[sp, .ow (c.map encL), s2], π2⟩ ∧ c.length = i ∧ (∀ l ∈ c, LnD l ∧ l.2 ≤ 11) ∧ PB π2 (n + 1 + 3 * i) ∧ i ≤ 3, ⟨[], π1, .un, rfl, rfl, by simp, pb1, by omega⟩, fun i x z2 hx hI => ?_, fun z2 hI => ?_⟩
    · obtain ⟨c, π2, s2, rfl, hlen, hc, pb2, hi⟩ := hI
      have hi2 : i < (1 + d).toNat := by
        have := (List.getElem?_eq_some_iff.mp hx).1
        simp only [rng, List.length_map, List.length_range] at this
        exact this
      refine fg_name 2 sc44.nd rfl (.inl rfl) ?_ (by simp) (.inl rfl)
      refine fs_one (f1_append 1 hK ⟨_, rfl⟩ (fe_tuple (fa_cons (Qe := fun d1 z1 => ∃ (b : Int) (π3 : Pot), d1 = .d (.int b) ∧ z1 = ⟨[sp, .ow (c.map encL), sd x], π3⟩ ∧ 0 ≤ b ∧ b ≤ 199 ∧ PB π3 (n + 1 + 3 * i + 1 + 1)) (fe_of 0 D43 hr (by decide) hK rfl ?_) (fun d1 z1 hq => ?_))))
      · refine fe_fl (fl_list (fa_consP fp_int (fa_consP fp_int ?_)))
        refine fa_cons (Qe := fun d1 z1 => ∃ (y : Int) (π3 : Pot), d1 = .d (.int y) ∧ z1 = ⟨[sp, .ow (c.map encL), sd x], π3⟩ ∧ 0 ≤ y ∧ y < 200 ∧ PB π3 (n + 1 + 3 * i + 1)) (fe_take 0 D42 hr (by decide) hK rfl fp_int (by decide) (by decide) pb2 (by omega) fun y π3 y0 y1 pb3 => ⟨y, π3, rfl, rfl, y0, y1, pb3⟩) (fun d1 z1 hq => ?_)
        obtain ⟨y, π3, e1, e2, y0, y1, pb3⟩ := hq
        subst e1 e2
        refine fa_nil ⟨[.int 0, .int 9, .int y], rfl, by rw [sizeLine_eq]; simp, [.int 0, .int 9, .int y], n + 1 + 3 * i + 1, rfl, by simp, by simp, pb3, by omega, fun v hv π4 pb4 => ?_⟩
        simp only [List.mem_cons, List.not_mem_nil, or_false] at hv
        rcases hv with rfl | rfl | rfl
        · exact ⟨0, π4, rfl, rfl, by decide, by decide, pb4⟩
        · exact ⟨9, π4, rfl, rfl, by decide, by decide, pb4⟩
        · exact ⟨y, π4, rfl, rfl, y0, by omega, pb4⟩
      · obtain ⟨b, π3, e1, e2, b0, b1, pb3⟩ := hq
        subst e1 e2
        refine fa_cons (Qe := fun d1 z1 => ∃ (y : Int) (π4 : Pot), d1 = .d (.int y) ∧ z1 = ⟨[sp, .ow (c.map encL), sd x], π4⟩ ∧ 0 ≤ y ∧ y < 12 ∧ PB π4 (n + 1 + 3 * i + 1 + 1 + 1)) (fe_take 0 D42 hr (by decide) hK rfl fp_int (by decide) (by decide) pb3 (by omega) fun y π4 y0 y1 pb4 => ⟨y, π4, rfl, rfl, y0, y1, pb4⟩) (fun d1 z1 hq => ?_)
        obtain ⟨y, π4, e1, e2, y0, y1, pb4⟩ := hq
        subst e1 e2
        refine fa_nil ⟨[.int b, .int y], rfl, by rw [sizeLine_eq]; simp, encL (b, y), c.map encL, rfl, rfl, by rw [List.length_map]; omega, c ++ [(b, y)], π4, sd x, ?_, by simp [hlen], fun l hl => ?_, ?_, by omega⟩
        · exact congrArg (fun l => (⟨[sp, .ow l, sd x], π4⟩ : Zs)) (by simp)
        · rcases List.mem_append.mp hl with hl | hl
          · exact hc l hl
          · rw [List.mem_singleton.mp hl]
            exact ⟨⟨b0, by show b ≤ 299; omega, y0, by show y ≤ 19; omega⟩, by show y ≤ 11; omega⟩
        · have e : n + 1 + 3 * i + 1 + 1 + 1 = n + 1 + 3 * (i + 1) := by omega
          rw [← e]; exact pb4
    · obtain ⟨c, π2, s2, rfl, hlen, hc, pb2, hi⟩ := hI
      have e : (rng 0 (1 + d).toNat).length = (1 + d).toNat := by simp [rng]
      rw [e] at hlen hi pb2
      exact fs_one (f1_retP (fp_tupleO 1 hK B.tuple rfl) (h c π2 ⟨by omega, by omega, fun l hl => (hc l hl).1⟩ (fun l hl => (hc l hl).2) (pb2.mono (by omega))))
def WatMost : WF := fun ds π q => ∃ (e1 : Bool) (b1 : Int × Int) (e2 : Bool) (b2 : Int × Int), ds = [.d (paper e1 b1), .d (paper e2 b2)] ∧ (e2 = true ∨ (e1 = false ∧ b1.1 ≤ b2.1)) ∧ q (.d (.bool true)) π
theorem sc45 : FnScope ["one", "other"] ["one", "other"] (defScope (st 45)) := ⟨rfl, rfl, rfl, by decide +kernel, rfl, by decide +kernel, by decide +kernel⟩
theorem ok45 (F : Fun K "_law_is_at_most" "_law_is_at_most" (st 45) f fd) : FnOk P w K mg base CX0 1 f fd ["one", "other"] (SpD K WatMost) := by
  refine ok_def F sc45 (fun ds π q h => ?_) (fun cdv A outer s H E ds π q C hr hK h => ?_)
  · obtain ⟨e1, b1, e2, b2, rfl, _⟩ := h; rfl
  · obtain ⟨e1, b1, e2, b2, rfl, hc, h⟩ := h
    cases e2 with
    | true =>
      exact fs_one (f1_retP (fp_is (fp_or (p := true) (q := true) (fp_is (fp_eqS (x := "ever") (fp_ixT (ds := [.str "ever"]) hK (fp_name 1 rfl) fp_int rfl) fp_str) (by rw [decide_eq_true rfl])) fun hf => by cases hf) rfl) h)
    | false =>
      obtain ⟨h1, h2⟩ := hc.resolve_left (by decide)
      subst h1
      exact fs_one (f1_retP (fp_is (fp_or (p := false) (q := true) (fp_is (fp_eqS (x := "most") (fp_ixT (ds := [.str "most", .int b2.1, .int b2.2]) hK (fp_name 1 rfl) fp_int rfl) fp_str) (by rw [decide_eq_false (by decide +kernel)])) fun _ => fp_one
        (fp_is (fp_and (p := true) (q := decide (b1.1 ≤ b2.1)) (fp_is (fp_eqS (x := "most") (fp_ixT (ds := [.str "most", .int b1.1, .int b1.2]) hK (fp_name 0 rfl) fp_int rfl) fp_str) (by rw [decide_eq_true rfl])) fun _ => fp_one (fp_le (fp_ixT (ds := [.str "most", .int b1.1, .int b1.2]) hK (fp_name 0 rfl) fp_int rfl) (fp_ixT (ds := [.str "most", .int b2.1, .int b2.2]) hK (fp_name 1 rfl) fp_int rfl))) (by rw [decide_eq_true h2]; rfl))) rfl) h)
def WlawLeast : WF := fun ds π q => ∃ (c : List Ln) (t : Int), ds = [.d (encC c), .d (.int t)] ∧ CurveOk c ∧ q (.d (.int (amt c t))) π
abbrev N50 : List Str := ["curve", "beats", "burst", "slow"]
theorem sc50 : FnScope N50 ["curve", "beats"] (defScope (st 50)) := ⟨rfl, rfl, rfl, by decide +kernel, rfl, by decide +kernel, by decide +kernel⟩
theorem ok50 (F : Fun K "_law_least" "_law_least" (st 50) f fd) (B : Blt mg) : FnOk P w K mg base CX0 1 f fd ["curve", "beats"] (SpD K WlawLeast) := by
  refine ok_def F sc50 (fun ds π q h => ?_) (fun cdv A outer s H E ds π q C hr hK h => ?_)
  · obtain ⟨c, t, rfl, _⟩ := h; rfl
  · obtain ⟨c, t, rfl, ok, h⟩ := h
    have l1 := ok.l1
    have l2 := ok.l2
    refine fs_one (f1_retP (fp_is (fp_if (ft_gt (fp_name 1 rfl) fp_int) (fun _ => fp_minL (ns := c.map fun l => l.1 + l.2 * t) hK rfl B.min (fp_is (fp_of rfl sc50.nd (blkOk_by (own := [("burst", 2), ("slow", 3)]) (N := N50) (sc := defScope (st 50)) (by decide +kernel))
        (lcp_mapT 2 3 c (fun l => .int l.1) (fun l => .int l.2) (fun l => .int (l.1 + l.2 * t)) rfl hK sc50.nd (fip_tup hK (fp_name 0 rfl)) (by omega) rfl fun x hx s H cc cl fp C' hk hp => ?_)) (by simp)) (by intro e; have := List.map_eq_nil_iff.mp e; subst this; simp at l1)) fun _ => fp_int) ?_) h)
    · have hl := ok.all x hx
      unfold LnOk at hl
      exact fp_add (fp_name 2 rfl) (fp_mul (fp_name 3 rfl) (fp_name 1 rfl) (.inl ⟨by omega, by omega⟩))
    · unfold amt
      by_cases h0 : 0 < t
      · rw [if_pos h0, if_pos (decide_eq_true h0)]
      · rw [if_neg h0, if_neg (by rw [decide_eq_false h0]; exact Bool.false_ne_true)]
end
end K28

set_option Elab.async false
set_option linter.all false
set_option maxHeartbeats 4000000
set_option autoImplicit false
/-! the plain laws behind k28 -/
namespace K28
open PySem PySem.Spec DL
/-! ### sums -/
theorem sum_le {α : Type} {f g : α → Int} : ∀ {xs : List α}, (∀ x ∈ xs, f x ≤ g x) → (xs.map f).sum ≤ (xs.map g).sum
  | [], _ => by simp
  | x :: xs, h => by
    have h1 := h x List.mem_cons_self
    have h2 := sum_le fun y hy => h y (List.mem_cons_of_mem x hy)
    simp only [List.map_cons, List.sum_cons]
    omega
theorem sum_eq {α : Type} {f g : α → Int} {xs : List α} (h : ∀ x ∈ xs, f x = g x) : (xs.map f).sum = (xs.map g).sum := by
  rw [List.map_congr_left h]
theorem sum_nonneg {α : Type} {f : α → Int} : ∀ {xs : List α}, (∀ x ∈ xs, 0 ≤ f x) → 0 ≤ (xs.map f).sum
  | [], _ => by simp
  | x :: xs, h => by
    have h1 := h x List.mem_cons_self
    have h2 := sum_nonneg fun y hy => h y (List.mem_cons_of_mem x hy)
    simp only [List.map_cons, List.sum_cons]
    omega
theorem sum_zero {α : Type} {f : α → Int} : ∀ {xs : List α}, (∀ x ∈ xs, 0 ≤ f x) → (xs.map f).sum = 0 → ∀ x ∈ xs, f x = 0
  | [], _, _ => by simp
  | x :: xs, h, e => by
    have h1 := h x List.mem_cons_self
    have h2 := sum_nonneg fun y hy => h y (List.mem_cons_of_mem x hy)
    simp only [List.map_cons, List.sum_cons] at e
    intro y hy
    rcases List.mem_cons.mp hy with rfl | hy
    · omega
    · exact sum_zero (fun y hy => h y (List.mem_cons_of_mem x hy)) (by omega) y hy
theorem sum_lin {α : Type} (f g : α → Int) (k : Int) : ∀ xs : List α, (xs.map fun x => f x + g x * k).sum = (xs.map f).sum + (xs.map g).sum * k
  | [] => by simp
  | x :: xs => by
    simp only [List.map_cons, List.sum_cons, sum_lin f g k xs, Int.add_mul]
    omega
theorem sum_mul {α : Type} (f : α → Int) (k : Int) : ∀ xs : List α, (xs.map fun x => k * f x).sum = k * (xs.map f).sum
  | [] => by simp
  | x :: xs => by
    simp only [List.map_cons, List.sum_cons, sum_mul f k xs, Int.mul_add]
/-! ### the least line -/
/-- a line's data: no burst, no rate below 0 -/
def Pos (c : List Ln) : Prop := c ≠ [] ∧ ∀ l ∈ c, 0 ≤ l.1 ∧ 0 ≤ l.2
theorem amt_mem {c : List Ln} (h : c ≠ []) {t : Int} (ht : 0 < t) : ∃ l ∈ c, amt c t = l.1 + l.2 * t := by
  unfold amt
  rw [if_pos ht]
  obtain ⟨h1, _⟩ := minI_spec (ns := c.map fun l => l.1 + l.2 * t) (by intro e; exact h (List.map_eq_nil_iff.mp e))
  obtain ⟨l, hl, e⟩ := List.mem_map.mp h1
  exact ⟨l, hl, e.symm⟩
theorem amt_le {c : List Ln} {t : Int} (ht : 0 < t) {l : Ln} (hl : l ∈ c) : amt c t ≤ l.1 + l.2 * t := by
  unfold amt
  rw [if_pos ht]
  obtain ⟨_, h2⟩ := minI_spec (ns := c.map fun l => l.1 + l.2 * t) (by intro e; have := List.map_eq_nil_iff.mp e; rw [this] at hl; cases hl)
  exact h2 _ (List.mem_map.mpr ⟨l, hl, rfl⟩)
theorem amt_eq {c : List Ln} {t : Int} (ht : 0 < t) {l : Ln} (hl : l ∈ c) (h : ∀ b ∈ c, l.1 + l.2 * t ≤ b.1 + b.2 * t) : amt c t = l.1 + l.2 * t := by
  obtain ⟨b, hb, e⟩ := amt_mem (c := c) (by intro e; rw [e] at hl; cases hl) ht
  have := amt_le ht hl
  have := h b hb
  omega
theorem amt_nonneg {c : List Ln} (h : Pos c) (t : Int) : 0 ≤ amt c t := by
  by_cases ht : 0 < t
  · obtain ⟨l, hl, e⟩ := amt_mem h.1 ht
    have := h.2 l hl
    have := Int.mul_nonneg this.2 (Int.le_of_lt ht)
    omega
  · unfold amt
    rw [if_neg ht]
    exact Int.le_refl 0
theorem less3_iff (t : Int) (a b : Ln) : less3 t a b = true ↔ (a.1 + a.2 * t < b.1 + b.2 * t ∨ (a.1 + a.2 * t = b.1 + b.2 * t ∧ (a.2 < b.2 ∨ (a.2 = b.2 ∧ a.1 < b.1)))) := by
  unfold less3
  exact decide_eq_true_iff
theorem pick_min (t : Int) {c : List Ln} : ∀ b ∈ c, ¬ less3 t b (pick t c) = true := by
  cases c with
  | nil => intro b hb; cases hb
  | cons l ls =>
    show ∀ b ∈ l :: ls, ¬ less3 t b (ls.foldl (fun a y => if less3 t y a then y else a) l) = true
    induction ls generalizing l with
    | nil =>
      intro b hb
      rw [List.mem_singleton.mp hb]
      show ¬ less3 t l l = true
      rw [less3_iff]; omega
    | cons y ys ih =>
      intro b hb
      rw [List.foldl_cons]
      by_cases c : less3 t y l = true
      · rw [if_pos c]
        have hy := ih y
        rcases List.mem_cons.mp hb with rfl | hb
        · have h1 := hy y List.mem_cons_self
          rw [less3_iff] at h1 c ⊢
          omega
        · exact hy b hb
      · rw [if_neg c]
        have hy := ih l
        rcases List.mem_cons.mp hb with rfl | hb
        · exact hy b List.mem_cons_self
        · rcases List.mem_cons.mp hb with rfl | hb
          · have h1 := hy l List.mem_cons_self
            rw [less3_iff] at h1 c ⊢
            omega
          · exact hy b (List.mem_cons_of_mem _ hb)
/-- behind the turn of two lines -/
theorem turn_iff {a b : Ln} (h : a.2 < b.2) (x : Int) : x < turnAt a b ↔ b.1 + b.2 * x < a.1 + a.2 * x := by
  unfold turnAt
  have hd : 0 < b.2 - a.2 := by omega
  have e : (b.1 - a.1) / (b.2 - a.2) < -x ↔ b.1 - a.1 < -x * (b.2 - a.2) := Int.ediv_lt_iff_lt_mul hd
  have e2 : -x * (b.2 - a.2) = -(b.2 * x) + a.2 * x := by
    rw [Int.mul_sub, Int.neg_mul, Int.neg_mul, Int.mul_comm x b.2, Int.mul_comm x a.2]; omega
  rw [e2] at e
  constructor
  · intro h1
    have := e.mp (by omega)
    omega
  · intro h1
    have := e.mpr (by omega)
    omega
/-- the line that is picked at x is the least up to the next turn -/
theorem seg {c : List Ln} (hc : c ≠ []) {x y : Int} (hx : 0 < x) (hxy : x ≤ y) (h : ∀ b ∈ c, b.2 < (pick x c).2 → y < turnAt b (pick x c)) : amt c y = (pick x c).1 + (pick x c).2 * y := by
  refine amt_eq (by omega) (pick_mem x hc) fun b hb => ?_
  by_cases hr : b.2 < (pick x c).2
  · have := (turn_iff hr y).mp (h b hb hr)
    omega
  · have h1 := pick_min x b hb
    rw [less3_iff] at h1
    have h2 : (pick x c).1 + (pick x c).2 * x ≤ b.1 + b.2 * x := by omega
    have h3 : (pick x c).2 * (y - x) ≤ b.2 * (y - x) := Int.mul_le_mul_of_nonneg_right (by omega) (by omega)
    rw [Int.mul_sub, Int.mul_sub] at h3
    omega
/-- a slower line is above the picked one: their turn is to come -/
theorem turn_later {c : List Ln} {x : Int} {b : Ln} (hb : b ∈ c) (hr : b.2 < (pick x c).2) : x < turnAt b (pick x c) := by
  rw [turn_iff hr]
  have h1 := pick_min x b hb
  rw [less3_iff] at h1
  omega
theorem mem_rawC {c : List Ln} {a b : Ln} (ha : a ∈ c) (hb : b ∈ c) (h : a.2 < b.2) {t : Int} (ht : t = turnAt a b - 1 ∨ t = turnAt a b ∨ t = turnAt a b + 1) : t ∈ rawC c := by
  unfold rawC
  refine List.mem_flatMap.mpr ⟨a, ha, List.mem_flatMap.mpr ⟨b, hb, ?_⟩⟩
  unfold turn1
  rw [if_pos h]
  rcases ht with rfl | rfl | rfl <;> simp
theorem mem_turns {cs : List (List Ln)} {t : Int} : t ∈ turns cs ↔ t = 1 ∨ (0 < t ∧ ∃ c ∈ cs, t ∈ rawC c) := by
  unfold turns raw
  rw [mem_sortU, List.mem_cons, List.mem_filter, List.mem_cons, List.mem_flatMap]
  constructor
  · rintro (h | ⟨h | h, h2⟩)
    · exact .inl h
    · exact .inl h
    · exact .inr ⟨of_decide_eq_true h2, h⟩
  · rintro (h | ⟨h1, h2⟩)
    · exact .inl h
    · exact .inr ⟨.inr h2, decide_eq_true h1⟩
theorem turns_pos {cs : List (List Ln)} {t : Int} (h : t ∈ turns cs) : 0 < t := by
  rcases mem_turns.mp h with h | h
  · omega
  · exact h.1
theorem mem_looked {cs : List (List Ln)} {late t : Int} : t ∈ looked cs late ↔ t ∈ turns cs ∨ t = max 1 late ∨ t = late + 1 := by
  unfold looked
  rw [mem_sortU, List.mem_append]
  simp
theorem looked_pos {cs : List (List Ln)} {late t : Int} (hl : 0 ≤ late) (h : t ∈ looked cs late) : 0 < t := by
  rcases mem_looked.mp h with h | h | h
  · exact turns_pos h
  · omega
  · omega
/-! ### the greatest not above, the least above -/
theorem floor_of : ∀ (L : List Int) (t : Int), (∃ x ∈ L, x ≤ t) → ∃ x ∈ L, x ≤ t ∧ ∀ y ∈ L, y ≤ t → y ≤ x
  | [], t, h => by obtain ⟨x, hx, _⟩ := h; cases hx
  | a :: L, t, h => by
    by_cases e : ∃ x ∈ L, x ≤ t
    · obtain ⟨x, hx, h1, h2⟩ := floor_of L t e
      by_cases ha : a ≤ t ∧ x < a
      · refine ⟨a, List.mem_cons_self, ha.1, fun y hy hyt => ?_⟩
        rcases List.mem_cons.mp hy with rfl | hy
        · exact Int.le_refl _
        · have := h2 y hy hyt; omega
      · refine ⟨x, List.mem_cons_of_mem _ hx, h1, fun y hy hyt => ?_⟩
        rcases List.mem_cons.mp hy with rfl | hy
        · omega
        · exact h2 y hy hyt
    · obtain ⟨x, hx, hxt⟩ := h
      rcases List.mem_cons.mp hx with rfl | hx
      · refine ⟨x, List.mem_cons_self, hxt, fun y hy hyt => ?_⟩
        rcases List.mem_cons.mp hy with rfl | hy
        · exact Int.le_refl _
        · exact absurd ⟨y, hy, hyt⟩ e
      · exact absurd ⟨x, hx, hxt⟩ e
theorem ceil_of (L : List Int) (t : Int) : (∃ n ∈ L, t < n ∧ ∀ y ∈ L, t < y → n ≤ y) ∨ ∀ y ∈ L, y ≤ t := by
  by_cases e : ∃ y ∈ L, t < y
  · left
    obtain ⟨x, hx, h1, h2⟩ := floor_of (L.map fun y => -y) (-t - 1) (by obtain ⟨y, hy, h⟩ := e; exact ⟨-y, List.mem_map.mpr ⟨y, hy, rfl⟩, by omega⟩)
    obtain ⟨n, hn, rfl⟩ := List.mem_map.mp hx
    refine ⟨n, hn, by omega, fun y hy hty => ?_⟩
    have := h2 (-y) (List.mem_map.mpr ⟨y, hy, rfl⟩) (by omega)
    omega
  · right
    intro y hy
    by_cases h : t < y
    · exact absurd ⟨y, hy, h⟩ e
    · omega
/-! ### the best -/
theorem best_spec (g : Int → Int) : ∀ (ts : List Int) (b : Int × Int), b.1 ≤ (ts.foldl (fun b t => if b.1 < g t then (g t, t) else b) b).1 ∧ (∀ t ∈ ts, g t ≤ (ts.foldl (fun b t => if b.1 < g t then (g t, t) else b) b).1) ∧
    ((ts.foldl (fun b t => if b.1 < g t then (g t, t) else b) b).1 = b.1 ∨ ∃ t ∈ ts, (ts.foldl (fun b t => if b.1 < g t then (g t, t) else b) b).1 = g t)
  | [], b => ⟨Int.le_refl _, by simp, .inl rfl⟩
  | t :: ts, b => by
    rw [List.foldl_cons]
    by_cases h : b.1 < g t
    · rw [if_pos h]
      obtain ⟨h1, h2, h3⟩ := best_spec g ts (g t, t)
      have h1 : g t ≤ _ := h1
      refine ⟨by omega, fun y hy => ?_, ?_⟩
      · rcases List.mem_cons.mp hy with rfl | hy
        · exact h1
        · exact h2 y hy
      · rcases h3 with h3 | ⟨y, hy, h3⟩
        · exact .inr ⟨t, List.mem_cons_self, h3⟩
        · exact .inr ⟨y, List.mem_cons_of_mem _ hy, h3⟩
    · rw [if_neg h]
      obtain ⟨h1, h2, h3⟩ := best_spec g ts b
      refine ⟨h1, fun y hy => ?_, ?_⟩
      · rcases List.mem_cons.mp hy with rfl | hy
        · omega
        · exact h2 y hy
      · rcases h3 with h3 | ⟨y, hy, h3⟩
        · exact .inl h3
        · exact .inr ⟨y, List.mem_cons_of_mem _ hy, h3⟩
theorem best_nonneg (g : Int → Int) (ts : List Int) : 0 ≤ (bestOf g ts).1 := (best_spec g ts (0, 0)).1
theorem best_ge (g : Int → Int) {ts : List Int} {t : Int} (h : t ∈ ts) : g t ≤ (bestOf g ts).1 := (best_spec g ts (0, 0)).2.1 t h
theorem best_is (g : Int → Int) (ts : List Int) : (bestOf g ts).1 = 0 ∨ ∃ t ∈ ts, (bestOf g ts).1 = g t := (best_spec g ts (0, 0)).2.2
/-! ### between two turns -/
/-- no turn behind x up to y -/
def Still (cs : List (List Ln)) (x y : Int) : Prop := ∀ c ∈ cs, ∀ a ∈ c, ∀ b ∈ c, a.2 < b.2 → ¬ (x < turnAt a b ∧ turnAt a b ≤ y)
def rateAt (cs : List (List Ln)) (x : Int) : Int := (cs.map fun c => (pick x c).2).sum
theorem com_lin {cs : List (List Ln)} (hc : ∀ c ∈ cs, Pos c) {x y : Int} (hx : 0 < x) (hxy : x ≤ y) (h : Still cs x y) : com cs y = com cs x + rateAt cs x * (y - x) := by
  have e : ∀ z, x ≤ z → z ≤ y → com cs z = (cs.map fun c => (pick x c).1).sum + rateAt cs x * z := fun z h1 h2 => by
    unfold com rateAt
    rw [← sum_lin]
    refine sum_eq fun c hcm => seg (hc c hcm).1 hx h1 fun b hb hr => ?_
    have h3 := turn_later hb hr
    have h4 := h c hcm b hb _ (pick_mem x (hc c hcm).1) hr
    omega
  rw [e y hxy (Int.le_refl _), e x (Int.le_refl _) hxy, Int.mul_sub]
  omega
theorem rate_min {cs : List (List Ln)} (hc : ∀ c ∈ cs, Pos c) {x : Int} (h : ∀ c ∈ cs, ∀ a ∈ c, ∀ b ∈ c, a.2 < b.2 → turnAt a b ≤ x) : rateAt cs x ≤ (cs.map minR).sum := by
  unfold rateAt
  refine sum_le fun c hcm => ?_
  obtain ⟨h1, _⟩ := minI_spec (ns := c.map fun l => l.2) (by intro e; exact (hc c hcm).1 (List.map_eq_nil_iff.mp e))
  obtain ⟨l, hl, e⟩ := List.mem_map.mp h1
  show _ ≤ minI (c.map fun l => l.2)
  rw [← e]
  by_cases hr : l.2 < (pick x c).2
  · have h3 := turn_later hl hr
    have h4 := h c hcm l hl _ (pick_mem x (hc c hcm).1) hr
    omega
  · omega
end K28

set_option Elab.async false
set_option linter.all false
set_option maxHeartbeats 4000000
set_option autoImplicit false
namespace K28
open PySem PySem.Spec DL
/-- the looked-at beats around t: x the last up to t, n the next -/
theorem around {cs : List (List Ln)} {late : Int} (hl : 0 ≤ late) {t : Int} (ht : 0 < t) : ∃ x ∈ looked cs late, 0 < x ∧ x ≤ t ∧ Still cs x t ∧ (x ≠ t →
    (∃ n ∈ looked cs late, t < n ∧ Still cs x n ∧ (late ≤ x ∨ n ≤ late)) ∨ ((∀ c ∈ cs, ∀ a ∈ c, ∀ b ∈ c, a.2 < b.2 → turnAt a b ≤ x) ∧ late ≤ x)) := by
  have one : (1 : Int) ∈ looked cs late := mem_looked.mpr (.inl (mem_turns.mpr (.inl rfl)))
  obtain ⟨x, hx, hxt, hmax⟩ := floor_of (looked cs late) t ⟨1, one, by omega⟩
  have x0 := looked_pos hl hx
  have late1 : late + 1 ∈ looked cs late := mem_looked.mpr (.inr (.inr rfl))
  have late0 : max 1 late ∈ looked cs late := mem_looked.mpr (.inr (.inl rfl))
  have at_ : ∀ c ∈ cs, ∀ a ∈ c, ∀ b ∈ c, a.2 < b.2 → ∀ k, k = turnAt a b - 1 ∨ k = turnAt a b ∨ k = turnAt a b + 1 → 0 < k → k ∈ looked cs late := fun c hc a ha b hb h k hk h0 =>
    mem_looked.mpr (.inl (mem_turns.mpr (.inr ⟨h0, c, hc, mem_rawC ha hb h hk⟩)))
  refine ⟨x, hx, x0, hxt, fun c hc a ha b hb h ⟨h1, h2⟩ => ?_, fun hne => ?_⟩
  · have := hmax _ (at_ c hc a ha b hb h _ (.inr (.inl rfl)) (by omega)) h2
    omega
  · rcases ceil_of (looked cs late) t with ⟨n, hn, htn, hmin⟩ | hall
    · left
      refine ⟨n, hn, htn, fun c hc a ha b hb h ⟨h1, h2⟩ => ?_, ?_⟩
      · have q1 := at_ c hc a ha b hb h _ (.inl rfl)
        have q2 := at_ c hc a ha b hb h _ (.inr (.inl rfl)) (by omega)
        by_cases h3 : turnAt a b ≤ t
        · have := hmax _ q2 h3; omega
        · have h4 := hmin _ q2 (by omega)
          have h5 : turnAt a b - 1 ≤ t := by
            by_cases h6 : turnAt a b - 1 ≤ t
            · exact h6
            · have := hmin _ (q1 (by omega)) (by omega); omega
          have := hmax _ (q1 (by omega)) h5
          omega
      · by_cases h1 : late ≤ x
        · exact .inl h1
        · right
          by_cases h2 : late ≤ t
          · have h3 : max 1 late = late := by omega
            rw [h3] at late0
            have := hmax _ late0 h2; omega
          · have h3 : max 1 late = late := by omega
            rw [h3] at late0
            exact hmin _ late0 (by omega)
    · right
      refine ⟨fun c hc a ha b hb h => ?_, ?_⟩
      · by_cases h3 : turnAt a b ≤ x
        · exact h3
        · have q2 := at_ c hc a ha b hb h _ (.inr (.inl rfl)) (by omega)
          have := hmax _ q2 (hall _ q2)
          omega
      · have h1 := hmax _ late1 (hall _ late1)
        omega
/-- the most waiting is the most over all beats -/
theorem wait_all {cs : List (List Ln)} (hc : ∀ c ∈ cs, Pos c) {late rate : Int} (hl : 0 ≤ late) (he : ever cs rate = false) (t : Int) (ht : 0 < t) : waitF cs late rate t ≤ (bestOf (waitF cs late rate) (looked cs late)).1 := by
  obtain ⟨x, hx, x0, hxt, hst, hnx⟩ := around (cs := cs) hl ht
  have hb := best_ge (waitF cs late rate) hx
  by_cases hxe : x = t
  · rw [hxe] at hb; exact hb
  · have hcom := com_lin hc x0 hxt hst
    have he2 : (cs.map minR).sum ≤ rate := by
      unfold ever at he
      have := of_decide_eq_false he
      omega
    rcases hnx hxe with ⟨n, hn, htn, hst2, hlate⟩ | ⟨hend, hlx⟩
    · have hbn := best_ge (waitF cs late rate) hn
      have hcomn := com_lin hc x0 (by omega) hst2
      unfold waitF at hb hbn ⊢
      generalize (bestOf _ _).1 = M at hb hbn ⊢
      rcases hlate with h | h
      · have e1 : max 0 (x - late) = x - late := by omega
        have e2 : max 0 (t - late) = t - late := by omega
        have e3 : max 0 (n - late) = n - late := by omega
        rw [e1] at hb
        rw [e3] at hbn
        rw [e2, hcom]
        rw [hcomn] at hbn
        by_cases hs : rateAt cs x ≤ rate
        · have := Int.mul_le_mul_of_nonneg_right hs (show 0 ≤ t - x by omega)
          rw [Int.mul_sub] at hb this ⊢
          rw [Int.mul_sub rate] at this ⊢
          omega
        · have := Int.mul_le_mul_of_nonneg_right (show rate ≤ rateAt cs x by omega) (show 0 ≤ n - t by omega)
          rw [Int.mul_sub, Int.mul_sub] at this hbn
          rw [Int.mul_sub, Int.mul_sub]
          omega
      · have e1 : max 0 (x - late) = 0 := by omega
        have e2 : max 0 (t - late) = 0 := by omega
        have e3 : max 0 (n - late) = 0 := by omega
        rw [e1] at hb
        rw [e3] at hbn
        rw [e2, hcom]
        rw [hcomn] at hbn
        by_cases hs : rateAt cs x ≤ 0
        · have := Int.mul_le_mul_of_nonneg_right hs (show 0 ≤ t - x by omega)
          omega
        · have := Int.mul_le_mul_of_nonneg_left (show t - x ≤ n - x by omega) (show 0 ≤ rateAt cs x by omega)
          omega
    · have hmn := rate_min hc hend
      unfold waitF at hb ⊢
      generalize (bestOf _ _).1 = M at hb ⊢
      have e1 : max 0 (x - late) = x - late := by omega
      have e2 : max 0 (t - late) = t - late := by omega
      rw [e1] at hb
      rw [e2, hcom]
      have := Int.mul_le_mul_of_nonneg_right (show rateAt cs x ≤ rate by omega) (show 0 ≤ t - x by omega)
      rw [Int.mul_sub] at hb this
      rw [Int.mul_sub rate] at this
      rw [Int.mul_sub, Int.mul_sub]
      omega
/-- rounded up -/
def up (a r : Int) : Int := -(-a / r)
theorem up_le {a b r : Int} (hr : 0 < r) (h : a ≤ b) : up a r ≤ up b r := by
  unfold up
  have := Int.ediv_le_ediv hr (show -b ≤ -a by omega)
  omega
theorem up_add {a r : Int} (hr : 0 < r) (k : Int) : up (a + r * k) r = up a r + k := by
  unfold up
  have e : -(a + r * k) = -a + (-k) * r := by rw [Int.neg_mul, Int.mul_comm k r]; omega
  rw [e, Int.add_mul_ediv_right _ _ (by omega)]
  omega
theorem late_eq (cs : List (List Ln)) (late rate t : Int) : lateF cs late rate t = if 0 < com cs t then late + up (com cs t) rate - t else 0 := rfl
theorem com_nonneg {cs : List (List Ln)} (hc : ∀ c ∈ cs, Pos c) (t : Int) : 0 ≤ com cs t := sum_nonneg fun c hcm => amt_nonneg (hc c hcm) t
theorem com_zero {cs : List (List Ln)} (hc : ∀ c ∈ cs, Pos c) {x t : Int} (hx : 0 < x) (ht : 0 < t) (h : com cs x = 0) : com cs t ≤ 0 := by
  have h1 := sum_zero (fun c hcm => amt_nonneg (hc c hcm) x) h
  have h2 : com cs t ≤ (cs.map fun _ => (0 : Int)).sum := by
    refine sum_le fun c hcm => ?_
    obtain ⟨l, hlm, e⟩ := amt_mem (hc c hcm).1 hx
    have e0 := h1 c hcm
    have p := (hc c hcm).2 l hlm
    have m := Int.mul_nonneg p.2 (Int.le_of_lt hx)
    have l1 : l.1 = 0 := by omega
    have l2 : l.2 = 0 := by
      have : l.2 * x = 0 := by omega
      rcases Int.mul_eq_zero.mp this with q | q
      · exact q
      · omega
    have := amt_le ht hlm
    rw [l1, l2] at this
    omega
  have h3 : (cs.map fun _ => (0 : Int)).sum = 0 := by
    have : ∀ cs : List (List Ln), (cs.map fun _ => (0 : Int)).sum = 0 := by
      intro cs
      induction cs with
      | nil => rfl
      | cons c cs ih => simp only [List.map_cons, List.sum_cons, ih]; rfl
    exact this cs
  omega
/-- the most late is the most over all beats -/
theorem late_all {cs : List (List Ln)} (hc : ∀ c ∈ cs, Pos c) {late rate : Int} (hl : 0 ≤ late) (hr : 0 < rate) (he : ever cs rate = false) (t : Int) (ht : 0 < t) : lateF cs late rate t ≤ (bestOf (lateF cs late rate) (looked cs late)).1 := by
  by_cases hp : 0 < com cs t
  · obtain ⟨x, hx, x0, hxt, hst, hnx⟩ := around (cs := cs) hl ht
    have hb := best_ge (lateF cs late rate) hx
    by_cases hxe : x = t
    · rw [hxe] at hb; exact hb
    · have hcom := com_lin hc x0 hxt hst
      have he2 : (cs.map minR).sum ≤ rate := by
        unfold ever at he
        have := of_decide_eq_false he
        omega
      have hxp : 0 < com cs x := by
        have := com_nonneg hc x
        by_cases h : com cs x = 0
        · have := com_zero hc x0 ht h; omega
        · omega
      have slow : rateAt cs x ≤ rate → lateF cs late rate t ≤ (bestOf (lateF cs late rate) (looked cs late)).1 := fun hs => by
        refine Int.le_trans ?_ hb
        rw [late_eq, late_eq, if_pos hp, if_pos hxp]
        have h1 := Int.mul_le_mul_of_nonneg_right hs (show 0 ≤ t - x by omega)
        have h2 := up_le hr (show com cs t ≤ com cs x + rate * (t - x) by omega)
        rw [up_add hr] at h2
        omega
      rcases hnx hxe with ⟨n, hn, htn, hst2, _⟩ | ⟨hend, hlx⟩
      · by_cases hs : rateAt cs x ≤ rate
        · exact slow hs
        · have hbn := best_ge (lateF cs late rate) hn
          have hcomn := com_lin hc x0 (by omega) hst2
          refine Int.le_trans ?_ hbn
          have h1 := Int.mul_le_mul_of_nonneg_right (show rate ≤ rateAt cs x by omega) (show 0 ≤ n - t by omega)
          have h3 : rateAt cs x * (n - x) = rateAt cs x * (t - x) + rateAt cs x * (n - t) := by rw [← Int.mul_add]; congr 1; omega
          have h4 : com cs t + rate * (n - t) ≤ com cs n := by omega
          have h5 := Int.mul_nonneg (show 0 ≤ rate by omega) (show 0 ≤ n - t by omega)
          have h2 := up_le hr h4
          rw [up_add hr] at h2
          rw [late_eq, late_eq, if_pos hp, if_pos (by omega)]
          omega
      · have hmn := rate_min hc hend
        exact slow (by omega)
  · rw [late_eq, if_neg hp]
    exact best_nonneg _ _
/-! ### orders -/
theorem best_le {g h : Int → Int} {ts us : List Int} (hpos : ∀ t ∈ ts, 0 < t) (hg : ∀ t, 0 < t → g t ≤ h t) (hall : ∀ t, 0 < t → h t ≤ (bestOf h us).1) : (bestOf g ts).1 ≤ (bestOf h us).1 := by
  rcases best_is g ts with e | ⟨t, ht, e⟩
  · rw [e]; exact best_nonneg _ _
  · rw [e]
    have h0 := hpos t ht
    exact Int.le_trans (hg t h0) (hall t h0)
theorem lateF_le {cs ds : List (List Ln)} {late late2 rate rate2 t : Int} (hr2 : 0 < rate2) (h : 0 < com cs t → com cs t ≤ com ds t) (hn : 0 < com cs t → late + up (com cs t) rate ≤ late2 + up (com cs t) rate2) :
    0 < com cs t → lateF cs late rate t ≤ lateF ds late2 rate2 t := fun hp => by
  rw [late_eq, late_eq, if_pos hp, if_pos (by have := h hp; omega)]
  have h1 := up_le hr2 (h hp)
  have := hn hp
  omega
theorem lbest_le {cs ds : List (List Ln)} {late late2 rate rate2 : Int} {ts us : List Int} (hpos : ∀ t ∈ ts, 0 < t) (hr2 : 0 < rate2) (h : ∀ t, 0 < t → com cs t ≤ com ds t) (hn : ∀ t, 0 < t → late + up (com cs t) rate ≤ late2 + up (com cs t) rate2)
    (hall : ∀ t, 0 < t → lateF ds late2 rate2 t ≤ (bestOf (lateF ds late2 rate2) us).1) : (bestOf (lateF cs late rate) ts).1 ≤ (bestOf (lateF ds late2 rate2) us).1 := by
  rcases best_is (lateF cs late rate) ts with e | ⟨t, ht, e⟩
  · rw [e]; exact best_nonneg _ _
  · rw [e]
    have h0 := hpos t ht
    by_cases hp : 0 < com cs t
    · exact Int.le_trans (lateF_le hr2 (fun _ => h t h0) (fun _ => hn t h0) hp) (hall t h0)
    · rw [late_eq, if_neg hp]
      exact best_nonneg _ _
theorem up_anti {a r s : Int} (ha : 0 ≤ a) (hr : 0 < r) (h : r ≤ s) : up a s ≤ up a r := by
  unfold up
  have e : -a / r ≤ -a / s := by
    rw [Int.le_ediv_iff_mul_le (by omega)]
    have h1 : -a / r ≤ 0 := by
      have := Int.ediv_le_ediv hr (show -a ≤ 0 by omega)
      rw [Int.zero_ediv] at this
      exact this
    have h2 : -a / r * s ≤ -a / r * r := Int.mul_le_mul_of_nonpos_left h1 h
    have h3 := Int.ediv_mul_le (-a) (show r ≠ 0 by omega)
    omega
  omega
end K28

set_option Elab.async false
set_option linter.all false
set_option maxHeartbeats 4000000
set_option autoImplicit false
namespace K28
open PySem PySem.Spec DL
def W (cs : List (List Ln)) (late rate : Int) : Int := (bestOf (waitF cs late rate) (looked cs late)).1
def Lt (cs : List (List Ln)) (late rate : Int) : Int := (bestOf (lateF cs late rate) (looked cs late)).1
theorem CurveOk.pos {c : List Ln} (h : CurveOk c) : Pos c := ⟨by intro e; have := h.l1; rw [e] at this; simp at this, fun l hl => by
  have := h.all l hl
  unfold LnOk at this
  omega⟩
theorem CurvesOk.pos {cs : List (List Ln)} (h : CurvesOk cs) : ∀ c ∈ cs, Pos c := fun c hc => (h.all c hc).pos
/-! ### how many turns -/
def T3 : Nat → Nat
  | 0 => 0
  | n + 1 => T3 n + 3 * n
theorem turn1_len (a b : Ln) : (turn1 a b).length + (turn1 b a).length ≤ 3 := by
  unfold turn1
  by_cases h : a.2 < b.2
  · rw [if_pos h, if_neg (by omega)]; simp
  · rw [if_neg h]
    by_cases h2 : b.2 < a.2
    · rw [if_pos h2]; simp
    · rw [if_neg h2]; simp
theorem turn1_self (a : Ln) : turn1 a a = [] := if_neg (by omega)
theorem fm_len {α : Type} (f : α → List Int) : ∀ xs : List α, (xs.flatMap f).length = (xs.map fun x => (f x).length).sum
  | [] => rfl
  | x :: xs => by rw [List.flatMap_cons, List.length_append, List.map_cons, List.sum_cons, fm_len f xs]
theorem pair_len (a : Ln) : ∀ c : List Ln, (c.flatMap fun b => turn1 a b).length + (c.map fun x => (turn1 x a).length).sum ≤ 3 * c.length
  | [] => by simp
  | b :: c => by
    have h1 := pair_len a c
    have h2 := turn1_len a b
    simp only [List.flatMap_cons, List.length_append, List.map_cons, List.sum_cons, List.length_cons]
    omega
theorem rawC_len : ∀ c : List Ln, (rawC c).length ≤ T3 c.length
  | [] => Nat.le_refl 0
  | a :: c => by
    have h1 := rawC_len c
    have h2 := pair_len a c
    have h3 : (rawC (a :: c)).length = (c.flatMap fun b => turn1 a b).length + ((c.map fun x => (turn1 x a).length).sum + (rawC c).length) := by
      unfold rawC
      rw [List.flatMap_cons, List.length_append, List.flatMap_cons, turn1_self, List.nil_append]
      congr 1
      rw [fm_len, fm_len]
      have : ∀ xs : List Ln, (xs.map fun x => ((a :: c).flatMap fun b => turn1 x b).length).sum = (xs.map fun x => (turn1 x a).length).sum + (xs.map fun x => (c.flatMap fun b => turn1 x b).length).sum := by
        intro xs
        induction xs with
        | nil => rfl
        | cons x xs ih =>
          simp only [List.map_cons, List.sum_cons, List.flatMap_cons, List.length_append] at ih ⊢
          omega
      exact this c
    rw [h3, List.length_cons]
    show _ ≤ T3 c.length + 3 * c.length
    omega
theorem T3_mono {m n : Nat} (h : m ≤ n) : T3 m ≤ T3 n := by
  induction h with
  | refl => exact Nat.le_refl _
  | step _ ih => exact Nat.le_trans ih (Nat.le_add_right _ _)
theorem few_of {k : Nat} : ∀ {cs : List (List Ln)}, (∀ c ∈ cs, (rawC c).length ≤ k) → (cs.flatMap rawC).length ≤ k * cs.length
  | [], _ => by simp
  | c :: cs, h => by
    have h1 := h c List.mem_cons_self
    have h2 := few_of fun c' hc => h c' (List.mem_cons_of_mem c hc)
    rw [List.flatMap_cons, List.length_append, List.length_cons, Nat.mul_add]
    omega
/-! ### orders of whole papers -/
theorem cmpW {cs ds : List (List Ln)} {late late2 rate rate2 : Int} (hd : ∀ c ∈ ds, Pos c) (h1 : 0 ≤ late) (h2 : 0 ≤ late2) (he : ever ds rate2 = false) (hf : ∀ t, 0 < t → waitF cs late rate t ≤ waitF ds late2 rate2 t) : W cs late rate ≤ W ds late2 rate2 :=
  best_le (fun t ht => looked_pos h1 ht) hf fun t ht => wait_all hd h2 he t ht
theorem cmpL {cs ds : List (List Ln)} {late late2 rate rate2 : Int} (hd : ∀ c ∈ ds, Pos c) (h1 : 0 ≤ late) (h2 : 0 ≤ late2) (hr2 : 0 < rate2) (he : ever ds rate2 = false) (h : ∀ t, 0 < t → com cs t ≤ com ds t) (hn : ∀ t, 0 < t → late + up (com cs t) rate ≤ late2 + up (com cs t) rate2) : Lt cs late rate ≤ Lt ds late2 rate2 :=
  lbest_le (fun t ht => looked_pos h1 ht) hr2 h hn fun t ht => late_all hd h2 hr2 he t ht
theorem wait_mono {cs ds : List (List Ln)} {late rate t : Int} (h : com cs t ≤ com ds t) : waitF cs late rate t ≤ waitF ds late rate t := by
  unfold waitF; omega
theorem ever_iff (cs : List (List Ln)) (rate : Int) : ever cs rate = false ↔ (cs.map minR).sum ≤ rate := by
  unfold ever
  rw [decide_eq_false_iff_not]
  omega
theorem minR_mem {c : List Ln} (h : c ≠ []) : ∃ l ∈ c, minR c = l.2 := by
  obtain ⟨h1, _⟩ := minI_spec (ns := c.map fun l => l.2) (by intro e; exact h (List.map_eq_nil_iff.mp e))
  obtain ⟨l, hl, e⟩ := List.mem_map.mp h1
  exact ⟨l, hl, e.symm⟩
theorem minR_le {c : List Ln} {l : Ln} (hl : l ∈ c) : minR c ≤ l.2 := by
  obtain ⟨_, h2⟩ := minI_spec (ns := c.map fun l => l.2) (by intro e; have := List.map_eq_nil_iff.mp e; rw [this] at hl; cases hl)
  exact h2 _ (List.mem_map.mpr ⟨l, hl, rfl⟩)
/-- a line more -/
theorem amt_more {c : List Ln} (hc : c ≠ []) (l : Ln) (t : Int) : amt (c ++ [l]) t ≤ amt c t := by
  by_cases ht : 0 < t
  · obtain ⟨b, hb, e⟩ := amt_mem hc ht
    rw [e]
    exact amt_le ht (List.mem_append_left _ hb)
  · unfold amt
    rw [if_neg ht, if_neg ht]
    exact Int.le_refl 0
theorem less_com {c : List Ln} (hc : c ≠ []) (l : Ln) (cs : List (List Ln)) (t : Int) : com ((c ++ [l]) :: cs) t ≤ com (c :: cs) t := by
  have := amt_more hc l t
  unfold com
  simp only [List.map_cons, List.sum_cons]
  omega
theorem less_ever {c : List Ln} (hc : c ≠ []) (l : Ln) (cs : List (List Ln)) (rate : Int) (h : ever (c :: cs) rate = false) : ever ((c ++ [l]) :: cs) rate = false := by
  rw [ever_iff] at h ⊢
  obtain ⟨b, hb, e⟩ := minR_mem hc
  have := minR_le (c := c ++ [l]) (List.mem_append_left _ hb)
  simp only [List.map_cons, List.sum_cons] at h ⊢
  omega
theorem sum_app (xs ys : List Int) : (xs ++ ys).sum = xs.sum + ys.sum := by
  induction xs with
  | nil => simp
  | cons x xs ih => simp only [List.cons_append, List.sum_cons, ih]; omega
theorem more_com (cs : List (List Ln)) {c : List Ln} (hc : Pos c) (t : Int) : com cs t ≤ com (cs ++ [c]) t := by
  have := amt_nonneg hc t
  unfold com
  rw [List.map_append, sum_app]
  simp only [List.map_cons, List.map_nil, List.sum_cons, List.sum_nil]
  omega
theorem more_ever (cs : List (List Ln)) {c : List Ln} (hc : Pos c) (rate : Int) (h : ever (cs ++ [c]) rate = false) : ever cs rate = false := by
  rw [ever_iff] at h ⊢
  rw [List.map_append, sum_app] at h
  obtain ⟨b, hb, e⟩ := minR_mem hc.1
  have := hc.2 b hb
  simp only [List.map_cons, List.map_nil, List.sum_cons, List.sum_nil] at h
  omega
theorem at_less {c : List Ln} {cs : List (List Ln)} (hp : ∀ d ∈ c :: cs, Pos d) (l : Ln) {late rate : Int} (h0 : 0 ≤ late) (hr : 0 < rate) :
    (ever (c :: cs) rate = true ∨ (ever ((c ++ [l]) :: cs) rate = false ∧ W ((c ++ [l]) :: cs) late rate ≤ W (c :: cs) late rate)) ∧ (ever (c :: cs) rate = true ∨ (ever ((c ++ [l]) :: cs) rate = false ∧ Lt ((c ++ [l]) :: cs) late rate ≤ Lt (c :: cs) late rate)) := by
  cases he : ever (c :: cs) rate with
  | true => exact ⟨.inl rfl, .inl rfl⟩
  | false =>
    have hc := (hp c List.mem_cons_self).1
    have h1 := less_ever hc l cs rate he
    exact ⟨.inr ⟨h1, cmpW hp h0 h0 he fun t ht => wait_mono (less_com hc l cs t)⟩, .inr ⟨h1, cmpL hp h0 h0 hr he (fun t ht => less_com hc l cs t) fun t ht => Int.le_refl _⟩⟩
theorem at_more {cs : List (List Ln)} (hp : ∀ d ∈ cs, Pos d) {c : List Ln} (hc : Pos c) {late rate : Int} (h0 : 0 ≤ late) (hr : 0 < rate) :
    (ever (cs ++ [c]) rate = true ∨ (ever cs rate = false ∧ W cs late rate ≤ W (cs ++ [c]) late rate)) ∧ (ever (cs ++ [c]) rate = true ∨ (ever cs rate = false ∧ Lt cs late rate ≤ Lt (cs ++ [c]) late rate)) := by
  cases he : ever (cs ++ [c]) rate with
  | true => exact ⟨.inl rfl, .inl rfl⟩
  | false =>
    have hp2 : ∀ d ∈ cs ++ [c], Pos d := fun d hd => by
      rcases List.mem_append.mp hd with hd | hd
      · exact hp d hd
      · rw [List.mem_singleton.mp hd]; exact hc
    have h1 := more_ever cs hc rate he
    exact ⟨.inr ⟨h1, cmpW hp2 h0 h0 he fun t ht => wait_mono (more_com cs hc t)⟩, .inr ⟨h1, cmpL hp2 h0 h0 hr he (fun t ht => more_com cs hc t) fun t ht => Int.le_refl _⟩⟩
theorem at_fast {cs : List (List Ln)} (hp : ∀ d ∈ cs, Pos d) {late rate fast : Int} (h0 : 0 ≤ late) (hr : 0 < rate) (hf : rate ≤ fast) :
    (ever cs rate = true ∨ (ever cs fast = false ∧ W cs late fast ≤ W cs late rate)) ∧ (ever cs rate = true ∨ (ever cs fast = false ∧ Lt cs late fast ≤ Lt cs late rate)) := by
  cases he : ever cs rate with
  | true => exact ⟨.inl rfl, .inl rfl⟩
  | false =>
    have h1 : ever cs fast = false := by
      rw [ever_iff] at he ⊢
      omega
    refine ⟨.inr ⟨h1, cmpW hp h0 h0 he fun t ht => ?_⟩, .inr ⟨h1, cmpL hp h0 h0 hr he (fun t ht => Int.le_refl _) fun t ht => ?_⟩⟩
    · unfold waitF
      have := Int.mul_le_mul_of_nonneg_right hf (show 0 ≤ max 0 (t - late) by omega)
      omega
    · have := up_anti (com_nonneg hp t) hr hf
      omega
theorem at_late {cs : List (List Ln)} (hp : ∀ d ∈ cs, Pos d) {late late2 rate : Int} (h0 : 0 ≤ late) (hr : 0 < rate) (hf : late ≤ late2) :
    ever cs rate = true ∨ (ever cs rate = false ∧ W cs late rate ≤ W cs late2 rate) := by
  cases he : ever cs rate with
  | true => exact .inl rfl
  | false =>
    refine .inr ⟨rfl, cmpW hp h0 (by omega) he fun t ht => ?_⟩
    unfold waitF
    have := Int.mul_le_mul_of_nonneg_left (show max 0 (t - late2) ≤ max 0 (t - late) by omega) (show 0 ≤ rate by omega)
    omega
/-! ### one curve with one line -/
theorem amt_one (l : Ln) {t : Int} (ht : 0 < t) : amt [l] t = l.1 + l.2 * t := by
  unfold amt
  rw [if_pos ht]; rfl
theorem rawC_one (l : Ln) : rawC [l] = [] := by
  show (turn1 l l ++ []) ++ [] = []
  rw [turn1_self]; rfl
theorem com_one (l : Ln) {t : Int} (ht : 0 < t) : com [[l]] t = l.1 + l.2 * t := by
  show amt [l] t + 0 = _
  rw [amt_one l ht]; omega
theorem looked_one {l : Ln} {late t : Int} : t ∈ looked [[l]] late ↔ t = 1 ∨ t = max 1 late ∨ t = late + 1 := by
  rw [mem_looked, mem_turns]
  constructor
  · rintro ((h | ⟨_, c, hc, h⟩) | h)
    · exact .inl h
    · rw [List.mem_singleton.mp hc, rawC_one] at h; cases h
    · exact .inr h
  · rintro (h | h)
    · exact .inl (.inl h)
    · exact .inr h
theorem lone_ever (b s rate : Int) : ever [[(b, s)]] rate = decide (rate < s) := by
  unfold ever
  have e : ([[(b, s)]].map minR).sum = s := by
    show s + 0 = s
    omega
  rw [e]
theorem lone_W {b s late rate : Int} (hb : 0 ≤ b) (hs : 0 ≤ s) (h0 : 0 ≤ late) (hr : 0 < rate) (h : s ≤ rate) : W [[(b, s)]] late rate = max 0 (b + s * max 1 late - rate * (max 1 late - late)) := by
  have f : ∀ t, 0 < t → waitF [[(b, s)]] late rate t = b + s * t - rate * max 0 (t - late) := fun t ht => by
    unfold waitF
    rw [com_one _ ht]
  have m0 : 0 < max 1 late := by omega
  have m1 : max 0 (max 1 late - late) = max 1 late - late := by omega
  have top := best_ge (waitF [[(b, s)]] late rate) (ts := looked [[(b, s)]] late) (looked_one.mpr (.inr (.inl rfl)))
  rw [f _ m0, m1] at top
  have n0 := best_nonneg (waitF [[(b, s)]] late rate) (looked [[(b, s)]] late)
  unfold W
  rcases best_is (waitF [[(b, s)]] late rate) (looked [[(b, s)]] late) with e | ⟨t, ht, e⟩
  · rw [e] at top ⊢; omega
  · have ht0 := looked_pos h0 ht
    rw [f t ht0] at e
    have : b + s * t - rate * max 0 (t - late) ≤ b + s * max 1 late - rate * (max 1 late - late) := by
      rcases looked_one.mp ht with e1 | e1 | e1
      · subst e1
        by_cases hl : 1 ≤ late
        · have a1 : max 0 (1 - late) = 0 := by omega
          have a2 : max 1 late - late = 0 := by omega
          have a3 := Int.mul_le_mul_of_nonneg_left (show 1 ≤ max 1 late by omega) hs
          rw [a1, a2]; omega
        · have a1 : late = 0 := by omega
          subst a1
          have a2 : max (1 : Int) 0 = 1 := by decide
          rw [a2]
          have a3 : max (0 : Int) (1 - 0) = 1 - 0 := by decide
          rw [a3]; omega
      · subst e1; rw [m1]; omega
      · subst e1
        by_cases hl : 1 ≤ late
        · have a1 : max 0 (late + 1 - late) = 1 := by omega
          have a2 : max 1 late = late := by omega
          rw [a1, a2, Int.mul_add]
          have a3 : late - late = 0 := by omega
          rw [a3]; omega
        · have a1 : late = 0 := by omega
          subst a1
          have a2 : max (1 : Int) 0 = 1 := by decide
          rw [a2]
          have a3 : max (0 : Int) (0 + 1 - 0) = 1 - 0 := by decide
          rw [a3]; omega
    omega
theorem up_eq {a r : Int} (hr : 0 < r) : up a r = (a + r - 1) / r := by
  have h1 : (a + r - 1) / r * r ≤ a + r - 1 := Int.ediv_mul_le _ (by omega)
  have h2 : a + r - 1 < (a + r - 1) / r * r + r := by
    have := Int.lt_ediv_add_one_mul_self (a + r - 1) hr
    rw [Int.add_mul] at this
    omega
  generalize hq : (a + r - 1) / r = q at h1 h2
  have e : -a / r = -q := by
    apply Int.le_antisymm
    · have : -a / r < -q + 1 := by
        rw [Int.ediv_lt_iff_lt_mul hr, Int.add_mul, Int.neg_mul]
        omega
      omega
    · rw [Int.le_ediv_iff_mul_le hr, Int.neg_mul]
      omega
  unfold up
  rw [e]; omega
theorem lone_L {b s late rate : Int} (hb : 0 ≤ b) (hs : 0 ≤ s) (h0 : 0 ≤ late) (hr : 0 < rate) (h : s ≤ rate) : Lt [[(b, s)]] late rate = max 0 (if 0 < b + s then late + (b + s + rate - 1) / rate - 1 else 0) := by
  have n0 := best_nonneg (lateF [[(b, s)]] late rate) (looked [[(b, s)]] late)
  unfold Lt
  by_cases hm : 0 < b + s
  · rw [if_pos hm]
    have c1 : 0 < com [[(b, s)]] 1 := by rw [com_one _ (by decide)]; show 0 < b + s * 1; omega
    have top := best_ge (lateF [[(b, s)]] late rate) (ts := looked [[(b, s)]] late) (looked_one.mpr (.inl rfl))
    rw [late_eq, if_pos c1, com_one _ (by decide), up_eq hr] at top
    have e1 : ((b, s) : Ln).1 + ((b, s) : Ln).2 * 1 = b + s := by show b + s * 1 = b + s; omega
    rw [e1] at top
    rcases best_is (lateF [[(b, s)]] late rate) (looked [[(b, s)]] late) with e | ⟨t, ht, e⟩
    · rw [e] at top ⊢; omega
    · have ht0 := looked_pos h0 ht
      by_cases hp : 0 < com [[(b, s)]] t
      · rw [late_eq, if_pos hp, com_one _ ht0] at e
        have a1 := Int.mul_le_mul_of_nonneg_right h (show 0 ≤ t - 1 by omega)
        rw [Int.mul_sub] at a1
        have a2 := up_le hr (show ((b, s) : Ln).1 + ((b, s) : Ln).2 * t ≤ (b + s) + rate * (t - 1) by show b + s * t ≤ _; omega)
        rw [up_add hr, up_eq (a := b + s) hr] at a2
        omega
      · rw [late_eq, if_neg hp] at e
        rw [e] at top ⊢
        omega
  · rw [if_neg hm]
    have b0 : b = 0 := by omega
    have s0 : s = 0 := by omega
    subst b0 s0
    rcases best_is (lateF [[(0, 0)]] late rate) (looked [[(0, 0)]] late) with e | ⟨t, ht, e⟩
    · rw [e]; decide
    · have ht0 := looked_pos h0 ht
      rw [e, late_eq, com_one _ ht0, if_neg (by show ¬ (0 : Int) < 0 + 0 * t; omega)]
      decide
end K28

set_option Elab.async false
set_option linter.all false
set_option maxHeartbeats 4000000
set_option autoImplicit false
namespace K28
open PySem PySem.Spec DL
/-! ### so many times as much -/
def scl (n : Int) (l : Ln) : Ln := (n * l.1, n * l.2)
def sclC (n : Int) (c : List Ln) : List Ln := c.map (scl n)
def sclCs (n : Int) (cs : List (List Ln)) : List (List Ln) := cs.map (sclC n)
theorem scl_turn {n : Int} (hn : 0 < n) (a b : Ln) : turn1 (scl n a) (scl n b) = turn1 a b := by
  have e : turnAt (scl n a) (scl n b) = turnAt a b := by
    unfold turnAt scl
    show -((n * b.1 - n * a.1) / (n * b.2 - n * a.2)) = _
    rw [← Int.mul_sub, ← Int.mul_sub, Int.mul_ediv_mul_of_pos _ _ hn]
  unfold turn1
  rw [e]
  have h : (scl n a).2 < (scl n b).2 ↔ a.2 < b.2 := by
    show n * a.2 < n * b.2 ↔ _
    exact Int.mul_lt_mul_left hn
  by_cases q : a.2 < b.2
  · rw [if_pos q, if_pos (h.mpr q)]
  · rw [if_neg q, if_neg (fun z => q (h.mp z))]
theorem fm_congr {α : Type} {f g : α → List Int} : ∀ {xs : List α}, (∀ x ∈ xs, f x = g x) → xs.flatMap f = xs.flatMap g
  | [], _ => rfl
  | x :: xs, h => by
    rw [List.flatMap_cons, List.flatMap_cons, h x List.mem_cons_self, fm_congr fun y hy => h y (List.mem_cons_of_mem x hy)]
theorem scl_raw {n : Int} (hn : 0 < n) (c : List Ln) : rawC (sclC n c) = rawC c := by
  unfold rawC sclC
  rw [List.flatMap_map]
  refine fm_congr fun a _ => ?_
  rw [List.flatMap_map]
  exact fm_congr fun b _ => scl_turn hn a b
theorem scl_turns {n : Int} (hn : 0 < n) (cs : List (List Ln)) : turns (sclCs n cs) = turns cs := by
  unfold turns raw sclCs
  rw [List.flatMap_map]
  have : (cs.flatMap fun c => rawC (sclC n c)) = cs.flatMap rawC := fm_congr fun c _ => scl_raw hn c
  rw [this]
theorem scl_looked {n : Int} (hn : 0 < n) (cs : List (List Ln)) (late : Int) : looked (sclCs n cs) late = looked cs late := by
  unfold looked
  rw [scl_turns hn]
theorem scl_amt {n : Int} (hn : 0 < n) {c : List Ln} (hc : c ≠ []) (t : Int) : amt (sclC n c) t = n * amt c t := by
  by_cases ht : 0 < t
  · obtain ⟨l, hl, e⟩ := amt_mem hc ht
    have h1 : amt (sclC n c) t = (scl n l).1 + (scl n l).2 * t := by
      refine amt_eq ht (List.mem_map.mpr ⟨l, hl, rfl⟩) fun b hb => ?_
      obtain ⟨k, hk, rfl⟩ := List.mem_map.mp hb
      have h2 := amt_le ht hk
      rw [e] at h2
      have h3 := Int.mul_le_mul_of_nonneg_left h2 (Int.le_of_lt hn)
      show n * l.1 + n * l.2 * t ≤ n * k.1 + n * k.2 * t
      rw [Int.mul_add, Int.mul_add, ← Int.mul_assoc, ← Int.mul_assoc] at h3
      exact h3
    rw [h1, e]
    show n * l.1 + n * l.2 * t = _
    rw [Int.mul_add, ← Int.mul_assoc]
  · unfold amt
    rw [if_neg ht, if_neg ht]; simp
theorem scl_com {n : Int} (hn : 0 < n) {cs : List (List Ln)} (hc : ∀ c ∈ cs, Pos c) (t : Int) : com (sclCs n cs) t = n * com cs t := by
  unfold com sclCs
  rw [List.map_map, ← sum_mul]
  exact sum_eq fun c hcm => scl_amt hn (hc c hcm).1 t
theorem scl_minR {n : Int} (hn : 0 < n) {c : List Ln} (hc : c ≠ []) : minR (sclC n c) = n * minR c := by
  obtain ⟨l, hl, e⟩ := minR_mem hc
  have h1 := minR_le (c := sclC n c) (List.mem_map.mpr ⟨l, hl, rfl⟩)
  obtain ⟨k, hk, e2⟩ := minR_mem (c := sclC n c) (by intro z; exact hc (List.map_eq_nil_iff.mp z))
  obtain ⟨m, hm, rfl⟩ := List.mem_map.mp hk
  have h3 := Int.mul_le_mul_of_nonneg_left (minR_le hm) (Int.le_of_lt hn)
  have h4 : (scl n l).2 = n * l.2 := rfl
  have h5 : (scl n m).2 = n * m.2 := rfl
  rw [h4] at h1
  rw [h5] at e2
  rw [e] at h3 ⊢
  omega
theorem scl_ever {n : Int} (hn : 0 < n) {cs : List (List Ln)} (hc : ∀ c ∈ cs, Pos c) (rate : Int) : ever (sclCs n cs) (n * rate) = ever cs rate := by
  unfold ever sclCs
  rw [List.map_map]
  have e : (cs.map (minR ∘ sclC n)).sum = n * (cs.map minR).sum := by
    rw [← sum_mul]
    exact sum_eq fun c hcm => scl_minR hn (hc c hcm).1
  rw [e]
  have h : n * rate < n * (cs.map minR).sum ↔ rate < (cs.map minR).sum := Int.mul_lt_mul_left hn
  by_cases q : rate < (cs.map minR).sum
  · rw [decide_eq_true q, decide_eq_true (h.mpr q)]
  · rw [decide_eq_false q, decide_eq_false (fun z => q (h.mp z))]
theorem scl_best {n : Int} (hn : 0 < n) (g : Int → Int) : ∀ (ts : List Int) (b : Int × Int), ts.foldl (fun b t => if b.1 < n * g t then (n * g t, t) else b) (n * b.1, b.2) = (n * (ts.foldl (fun b t => if b.1 < g t then (g t, t) else b) b).1, (ts.foldl (fun b t => if b.1 < g t then (g t, t) else b) b).2)
  | [], b => rfl
  | t :: ts, b => by
    rw [List.foldl_cons, List.foldl_cons]
    have h : n * b.1 < n * g t ↔ b.1 < g t := Int.mul_lt_mul_left hn
    by_cases q : b.1 < g t
    · rw [if_pos q, if_pos (show (n * b.1, b.2).1 < n * g t from h.mpr q)]
      exact scl_best hn g ts (g t, t)
    · rw [if_neg q, if_neg (show ¬ (n * b.1, b.2).1 < n * g t from fun z => q (h.mp z))]
      exact scl_best hn g ts b
theorem scl_W {n : Int} (hn : 0 < n) {cs : List (List Ln)} (hc : ∀ c ∈ cs, Pos c) (late rate : Int) : W (sclCs n cs) late (n * rate) = n * W cs late rate := by
  have e : waitF (sclCs n cs) late (n * rate) = fun t => n * waitF cs late rate t := by
    funext t
    unfold waitF
    rw [scl_com hn hc, Int.mul_sub, Int.mul_assoc]
  unfold W bestOf
  rw [scl_looked hn, e]
  have := scl_best hn (waitF cs late rate) (looked cs late) (0, 0)
  have e0 : ((n * ((0 : Int), (0 : Int)).1, ((0 : Int), (0 : Int)).2) : Int × Int) = (0, 0) := by simp
  rw [e0] at this
  rw [this]
theorem scl_L {n : Int} (hn : 0 < n) {cs : List (List Ln)} (hc : ∀ c ∈ cs, Pos c) (late rate : Int) : Lt (sclCs n cs) late (n * rate) = Lt cs late rate := by
  have e : lateF (sclCs n cs) late (n * rate) = lateF cs late rate := by
    funext t
    unfold lateF
    rw [scl_com hn hc]
    have h : 0 < n * com cs t ↔ 0 < com cs t := by
      have q : n * 0 < n * com cs t ↔ 0 < com cs t := Int.mul_lt_mul_left hn
      rw [Int.mul_zero] at q
      exact q
    have e2 : -(n * com cs t) / (n * rate) = -com cs t / rate := by
      rw [← Int.mul_neg, Int.mul_ediv_mul_of_pos _ _ hn]
    rw [e2]
    by_cases q : 0 < com cs t
    · rw [if_pos q, if_pos (h.mpr q)]
    · rw [if_neg q, if_neg (fun z => q (h.mp z))]
  unfold Lt bestOf
  rw [scl_looked hn, e]
/-! ### curves of one line each are one curve -/
def ones (ls : List Ln) : List (List Ln) := ls.map fun l => [l]
def sum2 (ls : List Ln) : Ln := ((ls.map (·.1)).sum, (ls.map (·.2)).sum)
theorem ones_raw (ls : List Ln) : (ones ls).flatMap rawC = [] := by
  unfold ones
  rw [List.flatMap_map]
  induction ls with
  | nil => rfl
  | cons l ls ih => rw [List.flatMap_cons, rawC_one, ih]; rfl
theorem ones_looked (ls : List Ln) (l : Ln) (late : Int) : looked (ones ls) late = looked [[l]] late := by
  unfold looked turns raw
  rw [ones_raw]
  have e : ([[l]].flatMap rawC) = [] := ones_raw [l]
  rw [e]
theorem ones_com (ls : List Ln) (t : Int) : com (ones ls) t = com [[sum2 ls]] t := by
  by_cases ht : 0 < t
  · rw [com_one _ ht]
    unfold com ones
    rw [List.map_map]
    show _ = (ls.map (·.1)).sum + (ls.map (·.2)).sum * t
    rw [← sum_lin]
    exact sum_eq fun l _ => amt_one l ht
  · have z : ∀ cs : List (List Ln), com cs t = 0 := by
      intro cs
      unfold com
      have e : ∀ c : List Ln, amt c t = 0 := fun c => if_neg ht
      induction cs with
      | nil => rfl
      | cons c cs ih => rw [List.map_cons, List.sum_cons, ih, e]; rfl
    rw [z, z]
theorem ones_ever (ls : List Ln) (rate : Int) : ever (ones ls) rate = ever [[sum2 ls]] rate := by
  have e : ((ones ls).map minR).sum = (ls.map (·.2)).sum := by
    unfold ones
    rw [List.map_map]; rfl
  have e2 : ([[sum2 ls]].map minR).sum = (ls.map (·.2)).sum := by
    show (ls.map (·.2)).sum + 0 = _
    omega
  unfold ever
  rw [e, e2]
theorem ones_W (ls : List Ln) (late rate : Int) : mostW (ones ls) late rate = mostW [[sum2 ls]] late rate := by
  have e : waitF (ones ls) late rate = waitF [[sum2 ls]] late rate := by
    funext t
    unfold waitF
    rw [ones_com]
  unfold mostW told
  rw [ones_ever, e, ones_looked ls (sum2 ls)]
theorem ones_L (ls : List Ln) (late rate : Int) : mostL (ones ls) late rate = mostL [[sum2 ls]] late rate := by
  have e : lateF (ones ls) late rate = lateF [[sum2 ls]] late rate := by
    funext t
    unfold lateF
    rw [ones_com]
  unfold mostL told
  rw [ones_ever, e, ones_looked ls (sum2 ls)]
/-! ### comes that fit -/
theorem amt_mono {c : List Ln} (hc : Pos c) {x y : Int} (h : x ≤ y) : amt c x ≤ amt c y := by
  by_cases hx : 0 < x
  · obtain ⟨l, hl, e⟩ := amt_mem hc.1 (show 0 < y by omega)
    have h1 := amt_le hx hl
    have h2 := Int.mul_le_mul_of_nonneg_left h (hc.2 l hl).2
    omega
  · have e : amt c x = 0 := if_neg hx
    rw [e]
    exact amt_nonneg hc y
theorem amt_sub {c : List Ln} (hc : Pos c) {n : Int} (hn : 0 < n) (x : Int) : amt c (x + n) - amt c x ≤ amt c n := by
  by_cases hx : 0 < x
  · obtain ⟨a, ha, ea⟩ := amt_mem hc.1 hx
    obtain ⟨b, hb, eb⟩ := amt_mem hc.1 hn
    have pa := hc.2 a ha
    have pb := hc.2 b hb
    by_cases h : a.2 ≤ b.2
    · have h1 := amt_le (show 0 < x + n by omega) ha
      have h2 := Int.mul_le_mul_of_nonneg_right h (show 0 ≤ n by omega)
      rw [Int.mul_add] at h1
      omega
    · have h1 := amt_le (show 0 < x + n by omega) hb
      have h2 := Int.mul_le_mul_of_nonneg_right (show b.2 ≤ a.2 by omega) (show 0 ≤ x by omega)
      rw [Int.mul_add] at h1
      omega
  · have e : amt c x = 0 := if_neg hx
    have := amt_mono hc (show x + n ≤ n by omega)
    omega
theorem take_step (ms : List Int) (i : Nat) : (ms.take (i + 1)).sum = (ms.take i).sum + ms.getD i 0 := by
  rw [List.take_succ, sum_app, List.getD_eq_getElem?_getD]
  cases ms[i]? with
  | none => simp
  | some v => simp
theorem tot_eq (ms : List Int) (last : Nat) : ∀ k, k ≤ last + 1 → tot ms last k = (ms.take (last + 1)).sum - (ms.take (last + 1 - k)).sum
  | 0, _ => by simp [tot]
  | k + 1, h => by
    have h1 := tot_eq ms last k (by omega)
    have h2 := take_step ms (last - k)
    have e : last + 1 - k = last - k + 1 := by omega
    have e2 : last + 1 - (k + 1) = last - k := by omega
    rw [e] at h1
    rw [e2]
    show tot ms last k + ms.getD (last - k) 0 = _
    omega
theorem worst_sum (c : List Ln) : ∀ (n i : Nat), i ≤ n → ((worstF c n).take i).sum = amt c (i : Int)
  | n, 0, _ => by
    rw [List.take_zero]
    have : amt c ((0 : Nat) : Int) = 0 := if_neg (by decide)
    rw [this]; rfl
  | n, i + 1, h => by
    rw [take_step, worst_sum c n i (by omega)]
    have e : (worstF c n).getD i 0 = amt c ((i : Int) + 1) - amt c (i : Int) := by
      unfold worstF
      rw [List.getD_eq_getElem?_getD, List.getElem?_map, List.getElem?_range (by omega)]
      rfl
    rw [e]
    have e2 : ((i + 1 : Nat) : Int) = (i : Int) + 1 := by omega
    rw [e2]; omega
theorem worst_len (c : List Ln) (n : Nat) : (worstF c n).length = n := by simp [worstF]
theorem worst_small {c : List Ln} (hc : CurveD c) (n : Nat) (hn : n ≤ 200) : ∀ m ∈ worstF c n, 0 ≤ m ∧ m ≤ 2000000 := by
  intro m hm
  obtain ⟨i, hi, rfl⟩ := List.mem_map.mp hm
  have hi : i < n := List.mem_range.mp hi
  have p := hc.ok.pos
  have h1 := amt_mono p (show (i : Int) ≤ (i : Int) + 1 by omega)
  have h2 := amt_nonneg p (i : Int)
  obtain ⟨l, hl⟩ := List.exists_mem_of_ne_nil c p.1
  have h3 := amt_le (show 0 < (i : Int) + 1 by omega) hl
  have h4 := hc.all l hl
  unfold LnD at h4
  have h5 := Int.mul_le_mul h4.2.2.2 (show (i : Int) + 1 ≤ 200 by omega) (by omega) (by decide)
  omega
/-- from the sums of the first ones: what fits -/
theorem fits_of {c : List Ln} (hc : Pos c) {ms : List Int} (len : ms.length ≤ 200) (all : ∀ m ∈ ms, 0 ≤ m ∧ m ≤ 2000000) (cut : Int) (h0 : 0 ≤ cut) (h : ∀ i, i ≤ ms.length → (ms.take i).sum = amt c ((i : Int) - cut)) : Fits c ms := by
  refine ⟨len, all, fun last k hl hk => ?_⟩
  rw [tot_eq ms last (k + 1) (by omega), h (last + 1) (by omega), h (last + 1 - (k + 1)) (by omega)]
  have := amt_sub hc (show 0 < (k : Int) + 1 by omega) (((last + 1 - (k + 1) : Nat) : Int) - cut)
  have e : ((last + 1 - (k + 1) : Nat) : Int) - cut + ((k : Int) + 1) = ((last + 1 : Nat) : Int) - cut := by omega
  rw [e] at this
  exact this
def lateRow (c : List Ln) (cut : Nat) : List Int := List.replicate cut 0 ++ (worstF c 30).take (30 - cut)
theorem lateRow_len (c : List Ln) {cut : Nat} (h : cut ≤ 30) : (lateRow c cut).length = 30 := by
  unfold lateRow
  rw [List.length_append, List.length_replicate, List.length_take, worst_len]
  omega
theorem rep_sum (n : Nat) : (List.replicate n (0 : Int)).sum = 0 := by
  induction n with
  | zero => rfl
  | succ n ih => rw [List.replicate_succ, List.sum_cons, ih]; rfl
theorem lateRow_sum (c : List Ln) {cut : Nat} (h : cut ≤ 30) {i : Nat} (hi : i ≤ 30) : ((lateRow c cut).take i).sum = amt c ((i : Int) - cut) := by
  unfold lateRow
  rw [List.take_append, sum_app, List.take_replicate, List.length_replicate, rep_sum, List.take_take]
  have e : min (i - cut) (30 - cut) = i - cut := by omega
  rw [e, worst_sum c 30 (i - cut) (by omega)]
  by_cases q : cut ≤ i
  · have e2 : ((i - cut : Nat) : Int) = (i : Int) - cut := by omega
    rw [e2]; omega
  · have e2 : i - cut = 0 := by omega
    rw [e2]
    have z1 : amt c ((0 : Nat) : Int) = 0 := if_neg (by decide)
    have z2 : amt c ((i : Int) - cut) = 0 := if_neg (by omega)
    rw [z1, z2]; rfl
theorem fits_worst {c : List Ln} (hc : CurveD c) : Fits c (worstF c 30) :=
  fits_of hc.ok.pos (by rw [worst_len]; decide) (worst_small hc 30 (by decide)) 0 (Int.le_refl 0) fun i hi => by
    rw [worst_len] at hi
    rw [worst_sum c 30 i hi, Int.sub_zero]
theorem fits_late {c : List Ln} (hc : CurveD c) {cut : Nat} (h : cut ≤ 30) : Fits c (lateRow c cut) :=
  fits_of hc.ok.pos (by rw [lateRow_len c h]; decide) (fun m hm => by
    unfold lateRow at hm
    rcases List.mem_append.mp hm with hm | hm
    · rw [List.eq_of_mem_replicate hm]; decide
    · exact worst_small hc 30 (by decide) m (List.mem_of_mem_take hm)) cut (by omega) fun i hi => by
    rw [lateRow_len c h] at hi
    exact lateRow_sum c h hi
/-! ### shortened -/
theorem least_fold (c : List Ln) : ∀ (ts : List Int) (b : List Ln), (∀ l ∈ b, l ∈ ts.foldl (fun b t => addL t c b) b) ∧ (∀ t ∈ ts, pick t c ∈ ts.foldl (fun b t => addL t c b) b) ∧
    (∀ l ∈ ts.foldl (fun b t => addL t c b) b, l ∈ b ∨ ∃ t, l = pick t c) ∧ (b.Nodup → (ts.foldl (fun b t => addL t c b) b).Nodup)
  | [], b => ⟨fun l h => h, by simp, fun l h => .inl h, fun h => h⟩
  | t :: ts, b => by
    rw [List.foldl_cons]
    obtain ⟨h1, h2, h3, h4⟩ := least_fold c ts (addL t c b)
    have a1 : ∀ l ∈ b, l ∈ addL t c b := fun l hl => by
      unfold addL
      split
      · exact hl
      · exact List.mem_append_left _ hl
    have a2 : pick t c ∈ addL t c b := by
      unfold addL
      split
      · assumption
      · exact List.mem_append_right _ List.mem_cons_self
    refine ⟨fun l hl => h1 l (a1 l hl), fun s hs => ?_, fun l hl => ?_, fun hb => h4 ?_⟩
    · rcases List.mem_cons.mp hs with rfl | hs
      · exact h1 _ a2
      · exact h2 s hs
    · rcases h3 l hl with h | h
      · unfold addL at h
        split at h
        · exact .inl h
        · rcases List.mem_append.mp h with h | h
          · exact .inl h
          · exact .inr ⟨t, List.mem_singleton.mp h⟩
      · exact .inr h
    · unfold addL
      split
      · exact hb
      · rename_i hn
        rw [List.nodup_append]
        refine ⟨hb, by simp, fun x hx y hy => ?_⟩
        rw [List.mem_singleton.mp hy]
        intro e
        rw [e] at hx
        exact hn hx
theorem mem_short {c : List Ln} {l : Ln} : l ∈ shortL c ↔ l ∈ leastL c := by
  unfold shortL
  exact (List.mergeSort_perm _ _).mem_iff
theorem nodup_len {α : Type} [DecidableEq α] : ∀ {xs ys : List α}, xs.Nodup → (∀ x ∈ xs, x ∈ ys) → xs.length ≤ ys.length
  | [], _, _, _ => Nat.zero_le _
  | x :: xs, ys, h, hs => by
    obtain ⟨h1, h2⟩ := List.nodup_cons.mp h
    have hx := hs x List.mem_cons_self
    have := nodup_len (ys := ys.erase x) h2 fun y hy => by
      have hyx : y ≠ x := fun e => h1 (by rw [← e]; exact hy)
      exact (List.mem_erase_of_ne hyx).mpr (hs y (List.mem_cons_of_mem x hy))
    rw [List.length_erase_of_mem hx] at this
    have hp := List.length_pos_of_mem hx
    rw [List.length_cons]; omega
theorem short_ok {c : List Ln} (h : CurveOk c) : CurveOk (shortL c) := by
  have hc := h.pos.1
  obtain ⟨_, f2, f3, f4⟩ := least_fold c (turns [c]) []
  have sub : ∀ l ∈ leastL c, l ∈ c := fun l hl => by
    rcases f3 l hl with q | ⟨t, q⟩
    · cases q
    · rw [q]; exact pick_mem t hc
  have hl : (shortL c).length = (leastL c).length := (List.mergeSort_perm _ _).length_eq
  refine ⟨?_, ?_, fun l hl => h.all l (sub l (mem_short.mp hl))⟩
  · rw [hl]
    exact List.length_pos_of_mem (f2 1 (mem_turns.mpr (.inl rfl)))
  · rw [hl]
    exact Nat.le_trans (nodup_len (f4 List.nodup_nil) sub) h.l2
theorem short_amt {c : List Ln} (h : CurveOk c) (t : Int) : amt (shortL c) t = amt c t := by
  have hc := h.pos.1
  by_cases ht : 0 < t
  · obtain ⟨_, f2, f3, f4⟩ := least_fold c (turns [c]) []
    obtain ⟨l, hl, e⟩ := amt_mem (short_ok h).pos.1 ht
    have h1 : amt c t ≤ amt (shortL c) t := by
      rw [e]
      refine amt_le ht ?_
      rcases f3 l (mem_short.mp hl) with q | ⟨t, q⟩
      · cases q
      · rw [q]; exact pick_mem t hc
    obtain ⟨x, hx, hxt, hmax⟩ := floor_of (turns [c]) t ⟨1, mem_turns.mpr (.inl rfl), by omega⟩
    have x0 := turns_pos hx
    have h2 := seg hc x0 hxt fun b hb hr => by
      have h3 := turn_later hb hr
      by_cases q : t < turnAt b (pick x c)
      · exact q
      · have := hmax _ (mem_turns.mpr (.inr ⟨by omega, c, List.mem_singleton.mpr rfl, mem_rawC hb (pick_mem x hc) hr (.inr (.inl rfl))⟩)) (by omega)
        omega
    have h3 := amt_le ht (mem_short.mpr (f2 x hx))
    omega
  · unfold amt
    rw [if_neg ht, if_neg ht]
end K28

set_option Elab.async false
set_option linter.all false
set_option maxRecDepth 100000
set_option maxHeartbeats 4000000
set_option autoImplicit false
namespace K28
open PySem PySem.Spec PyProof.Rows L2 DL
def bW (cs : List (List Ln)) (late rate : Int) : Int × Int := bestOf (waitF cs late rate) (looked cs late)
def bL (cs : List (List Ln)) (late rate : Int) : Int × Int := bestOf (lateF cs late rate) (looked cs late)
theorem mostW_paper (cs : List (List Ln)) (late rate : Int) : mostW cs late rate = paper (ever cs rate) (bW cs late rate) := rfl
theorem mostL_paper (cs : List (List Ln)) (late rate : Int) : mostL cs late rate = paper (ever cs rate) (bL cs late rate) := rfl
theorem paper_ever {e : Bool} {b : Int × Int} (h : e = true) : paper e b = .tuple [.str "ever"] := if_pos h
theorem paper_most {e : Bool} {b : Int × Int} (h : e = false) : paper e b = .tuple [.str "most", .int b.1, .int b.2] := if_neg (by rw [h]; exact Bool.false_ne_true)
theorem shaped_ever : SeqAt.shaped (.tuple [.str "ever"]) = true := by decide +kernel
theorem eqv_ever : PyData.eqv (.tuple [.str "ever"]) (.tuple [.str "ever"]) = true := by decide +kernel
theorem ft_neS' {X : Cx} {C : Ct} {z : Zs} {a b : Expr} {pos : PySem.Pos} {x y : Str} (ha : FP X C z a (.str x)) (hb : FP X C z b (.str y)) (h : (!decide (x = y)) = false) : FPT X C z (.Compare a [.NotEq] [b] pos) false := fpt_is (ft_neS ha hb) h
structure LawTools (P : Program) (w : World) (K : PySem.W.Frag) (mg : Str → Option Value) (base : Heap) : Prop where
  d36 : HasDef P w K mg base "most_waiting" 6 ["curves", "late", "rate"] (Wmost mostW)
  d37 : HasDef P w K mg base "most_late" 6 ["curves", "late", "rate"] (Wmost mostL)
  d38 : HasDef P w K mg base "least_rate" 8 ["curves", "late", "waiting"] WleastRate
  d42 : HasDef P w K mg base "_law_take" 1 ["pot", "upto"] Wtake
  d43 : HasDef P w K mg base "_law_of" 2 ["pot", "some"] Wof
  d45 : HasDef P w K mg base "_law_is_at_most" 1 ["one", "other"] WatMost
section
variable {P : Program} {w : World} {K : PySem.W.Frag} {mg : Str → Option Value} {base : Heap} {f : Addr} {fd : FuncData}
def Wlone : WF := fun ds π q => ∃ n : Nat, ds = [.pot] ∧ PB π n ∧ n ≤ 900000 ∧ ∀ π', PB π' (n + 10) → q (.d (.bool true)) π'
abbrev N46 : List Str := ["pot", "burst", "slow", "late", "rate", "told", "its", "beats", "most", "much", "due"]
theorem sc46 : FnScope N46 ["pot"] (defScope (st 46)) := ⟨rfl, rfl, rfl, by decide +kernel, rfl, by decide +kernel, by decide +kernel⟩
theorem lone_served {b s late rate : Int} (hb : 0 ≤ b ∧ b < 300) (hs : 0 ≤ s ∧ s < 20) (hl : 0 ≤ late ∧ late ≤ 1000) (hr : 1 ≤ rate ∧ rate ≤ 1000) : Served [[(b, s)]] late rate := by
  refine ⟨⟨⟨by simp, by simp, fun c hc => ?_⟩, ?_⟩, hl.1, by omega, hr.1, hr.2⟩
  · rw [List.mem_singleton.mp hc]
    refine ⟨by simp, by simp, fun l hl => ?_⟩
    rw [List.mem_singleton.mp hl]
    exact ⟨hb.1, by show b ≤ 1000000; omega, hs.1, by show s ≤ 1000; omega⟩
  · have e : ([[(b, s)]].flatMap rawC) = [] := ones_raw [(b, s)]
    rw [e]; simp
theorem ok46 (F : Fun K "_law_is_lone_right" "_law_is_lone_right" (st 46) f fd) (B : Blt mg) (T : LawTools P w K mg base) : FnOk P w K mg base CX0 7 f fd ["pot"] (SpD K Wlone) := by
  refine ok_def F sc46 (fun ds π q h => ?_) (fun cdv A outer s H E ds π q C hr hK h => ?_)
  · obtain ⟨n, rfl, _⟩ := h; rfl
  · obtain ⟨n, rfl, pb, hn, h⟩ := h
    refine fs_cons (f1_par (i := 1) (j := 2) rfl sc46.nd (by decide) (fa_consE (fe_take 0 T.d42 hr (by decide) hK rfl fp_int (by decide) (by decide) pb (by omega) fun b π1 b0 b1 pb1 =>
      fa_consE (fe_take 0 T.d42 hr (by decide) hK rfl fp_int (by decide) (by decide) pb1 (by omega) fun s π2 s0 s1 pb2 => fa_nil ⟨_, _, rfl, ?_⟩))))
    refine fs_cons (f1_par (i := 3) (j := 4) rfl sc46.nd (by decide) (fa_consE (fe_of 0 T.d43 hr (by decide) hK rfl (fe_list (fa_consP fp_int (fa_consP fp_int (fa_consE (fe_take 0 T.d42 hr (by decide) hK rfl fp_int (by decide) (by decide) pb2 (by omega) fun y π3 y0 y1 pb3 => ?_))))))))
    refine fa_nil ⟨[.int 0, .int 1, .int y], rfl, by rw [sizeLine_eq]; simp, [.int 0, .int 1, .int y], n + 1 + 1 + 1, rfl, by simp, by simp, pb3, by omega, fun v hv π4 pb4 => ?_⟩
    refine fa_consE (fe_addD fp_int (fe_take 0 T.d42 hr (by decide) hK rfl fp_int (by decide) (by decide) pb4 (by omega) fun r π5 r0 r1 pb5 => ⟨r, rfl, fa_nil ⟨_, _, rfl, ?_⟩⟩))
    have hv : ∃ late : Int, v = .int late ∧ 0 ≤ late ∧ late ≤ 59 := by
      simp only [List.mem_cons, List.not_mem_nil, or_false] at hv
      rcases hv with rfl | rfl | rfl
      · exact ⟨0, rfl, by decide, by decide⟩
      · exact ⟨1, rfl, by decide, by decide⟩
      · exact ⟨y, rfl, y0, by omega⟩
    obtain ⟨late, rfl, l0, l1⟩ := hv
    have sv : Served [[(b, s)]] late (1 + r) := lone_served ⟨b0, b1⟩ ⟨s0, s1⟩ ⟨l0, by omega⟩ ⟨by omega, by omega⟩
    have hq := h π5 (pb5.mono (by omega))
    refine fs_cons (f1_parP (i := 5) (j := 6) (d1 := mostW [[(b, s)]] late (1 + r)) (d2 := mostL [[(b, s)]] late (1 + r)) rfl sc46.nd (by decide)
      (fp_def T.d36 hr (by decide) hK (fpa_cons (fp_tuple (arg1 (fp_tuple (arg1 (fp_tuple (arg2 (fp_name 1 rfl) (fp_name 2 rfl))))))) (arg2 (fp_name 3 rfl) (fp_name 4 rfl))) fun π q k => ⟨[[(b, s)]], late, 1 + r, rfl, sv, k⟩)
      (fp_def T.d37 hr (by decide) hK (fpa_cons (fp_tuple (arg1 (fp_tuple (arg1 (fp_tuple (arg2 (fp_name 1 rfl) (fp_name 2 rfl))))))) (arg2 (fp_name 3 rfl) (fp_name 4 rfl))) fun π q k => ⟨[[(b, s)]], late, 1 + r, rfl, sv, k⟩) ?_)
    rw [mostW_paper, mostL_paper]
    by_cases hs : 1 + r < s
    · have he : ever [[(b, s)]] (1 + r) = true := by rw [lone_ever]; exact decide_eq_true hs
      rw [paper_ever he, paper_ever he]
      refine fs_cons (f1_ifP (ft_gt (fp_name 2 rfl) (fp_name 4 rfl)) (fun _ => ?_) fun hf => ?_)
      · exact fs_one (f1_retP (fp_is (fp_and (p := true) (q := true) (fp_is (fp_eqD hr hK (fp_name 5 rfl) (fp_tuple (arg1 fp_str)) shaped_ever shaped_ever) (by rw [eqv_ever])) fun _ => fp_one (fp_is (fp_eqD hr hK (fp_name 6 rfl) (fp_tuple (arg1 fp_str)) shaped_ever shaped_ever) (by rw [eqv_ever]))) rfl) hq)
      · exact absurd hs (of_decide_eq_false hf)
    · have he : ever [[(b, s)]] (1 + r) = false := by rw [lone_ever]; exact decide_eq_false hs
      have eW : (bW [[(b, s)]] late (1 + r)).1 = max 0 (b + s * max 1 late - (1 + r) * (max 1 late - late)) := lone_W b0 s0 l0 (by omega) (by omega)
      have eL : (bL [[(b, s)]] late (1 + r)).1 = max 0 (if 0 < b + s then late + (b + s + (1 + r) - 1) / (1 + r) - 1 else 0) := lone_L b0 s0 l0 (by omega) (by omega)
      rw [paper_most he, paper_most he]
      refine fs_if_no (ft_gt (fp_name 2 rfl) (fp_name 4 rfl)) (decide_eq_false hs) ?_
      refine fs_cons (f1_setP 7 sc46.nd (fp_max2 rfl B.max fp_int (fp_name 3 rfl)) ?_)
      refine fs_cons (f1_setP 8 sc46.nd (fp_max2 rfl B.max fp_int (fp_sub (fp_add (fp_name 1 rfl) (fp_mul (fp_name 2 rfl) (fp_name 7 rfl) (.inl ⟨by omega, by omega⟩))) (fp_mul (fp_name 4 rfl) (fp_sub (fp_name 7 rfl) (fp_name 3 rfl)) (.inl ⟨by omega, by omega⟩)))) ?_)
      refine fs_if_no (ft_neI (fp_ixT (ds := [.str "most", .int (bW [[(b, s)]] late (1 + r)).1, .int (bW [[(b, s)]] late (1 + r)).2]) hK (fp_name 5 rfl) fp_int rfl) (fp_name 8 rfl)) ?_ ?_
      · rw [eW, decide_eq_true rfl]; rfl
      · refine fs_cons (f1_setP 9 sc46.nd (fp_add (fp_name 1 rfl) (fp_name 2 rfl)) ?_)
        refine fs_cons (f1_setP 10 sc46.nd (d := .int (if 0 < b + s then late + (b + s + (1 + r) - 1) / (1 + r) - 1 else 0)) (fp_is (fp_if (ft_gt (fp_name 9 rfl) fp_int) (fun _ => fp_sub (fp_add (fp_name 3 rfl) (fp_fdiv (fp_sub (fp_add (fp_name 9 rfl) (fp_name 4 rfl)) fp_int) (fp_name 4 rfl) ⟨by omega, by omega⟩)) fp_int) fun _ => fp_int) ?_) ?_)
        · by_cases h0 : 0 < b + s
          · rw [if_pos h0, if_pos (decide_eq_true h0)]
          · rw [if_neg h0, if_neg (by rw [decide_eq_false h0]; exact Bool.false_ne_true)]
        · refine fs_one (f1_retP (fp_is (fp_eqI (fp_ixT (ds := [.str "most", .int (bL [[(b, s)]] late (1 + r)).1, .int (bL [[(b, s)]] late (1 + r)).2]) hK (fp_name 6 rfl) fp_int rfl) (fp_max2 rfl B.max fp_int (fp_name 10 rfl))) ?_) hq)
          rw [eL, decide_eq_true rfl]
def WrateRight : WF := fun ds π q => ∃ (n : Nat) (cs : List (List Ln)) (late : Int), ds = [.pot, .d (encCs cs), .d (.int late)] ∧ PB π n ∧ n ≤ 900000 ∧ TurnsOk cs ∧ 0 ≤ late ∧ late ≤ 1000 ∧ ∀ π', PB π' (n + 1) → q (.d (.bool true)) π'
abbrev N48 : List Str := ["pot", "curves", "late", "waiting", "told", "paper"]
theorem sc48 : FnScope N48 ["pot", "curves", "late"] (defScope (st 48)) := ⟨rfl, rfl, rfl, by decide +kernel, rfl, by decide +kernel, by decide +kernel⟩
theorem ok48 (F : Fun K "_law_is_rate_right" "_law_is_rate_right" (st 48) f fd) (B : Blt mg) (T : LawTools P w K mg base) : FnOk P w K mg base CX0 9 f fd ["pot", "curves", "late"] (SpD K WrateRight) := by
  refine ok_def F sc48 (fun ds π q h => ?_) (fun cdv A outer s H E ds π q C hr hK h => ?_)
  · obtain ⟨n, cs, l, rfl, _⟩ := h; rfl
  · obtain ⟨n, cs, late, rfl, pb, hn, ok, l0, l1, h⟩ := h
    refine fs_cons (f1_set 3 sc48.nd rfl (.inl rfl) (fe_of 0 T.d43 hr (by decide) hK rfl (fe_fp (fp_fl (flp_list (xs := [.int 0, .int 30, .int 200, .int 1000]) (fpa_cons fp_int (fpa_cons fp_int (arg2 fp_int fp_int))))) ⟨[.int 0, .int 30, .int 200, .int 1000], n, rfl, by simp, by simp, pb, by omega, fun v hv π1 pb1 => ?_⟩)))
    have hv : ∃ wt : Int, v = .int wt ∧ 0 ≤ wt ∧ wt ≤ 1000 := by
      simp only [List.mem_cons, List.not_mem_nil, or_false] at hv
      rcases hv with rfl | rfl | rfl | rfl <;> exact ⟨_, rfl, by decide, by decide⟩
    obtain ⟨wt, rfl, w0, w1⟩ := hv
    have hq := h π1 pb1
    refine fs_cons (f1_set 4 sc48.nd rfl (.inl rfl) (fe_def T.d38 hr (by decide) hK (fa_fpa (fpa_cons (fp_name 1 rfl) (arg2 (fp_name 2 rfl) (fp_name 3 rfl))) ⟨cs, late, wt, rfl, ok, l0, by omega, w0, by omega, fun d hd => ?_⟩)))
    have sv : ∀ r : Int, 1 ≤ r → r ≤ 1000 → Served cs late r := fun r a b => ⟨ok, l0, by omega, a, b⟩
    have no : ∀ r : Int, enough cs late wt r = false → ever cs r = true ∨ (ever cs r = false ∧ wt < (bW cs late r).1) := fun r hno => by
      unfold enough at hno
      cases he : ever cs r with
      | true => exact .inl rfl
      | false =>
        rw [he] at hno
        have q : wt < (bestOf (waitF cs late r) (looked cs late)).1 := by simpa using hno
        exact .inr ⟨rfl, q⟩
    rcases hd with ⟨rfl, hno⟩ | ⟨r, rfl, r0, r1, hyes, hless⟩
    · refine fs_cons (f1_ifP (k := true) (ft_isN (x := .none) (fp_name 4 rfl)) (fun _ => ?_) fun hf => by cases hf)
      refine fs_cons (f1_setP 5 sc48.nd (d := mostW cs late 1000) (fp_def T.d36 hr (by decide) hK (fpa_cons (fp_name 1 rfl) (arg2 (fp_name 2 rfl) fp_int)) fun π q k => ⟨cs, late, 1000, rfl, sv 1000 (by decide) (by decide), k⟩) ?_)
      rw [mostW_paper]
      rcases no 1000 hno with he | ⟨he, hlt⟩
      · rw [paper_ever he]
        exact fs_one (f1_retP (fp_is (fp_or (p := true) (q := true) (fp_is (fp_eqS (x := "ever") (fp_ixT (ds := [.str "ever"]) hK (fp_name 5 rfl) fp_int rfl) fp_str) (by rw [decide_eq_true rfl])) fun hf => by cases hf) rfl) hq)
      · rw [paper_most he]
        exact fs_one (f1_retP (fp_is (fp_or (p := false) (q := true) (fp_is (fp_eqS (x := "most") (fp_ixT (ds := [.str "most", .int (bW cs late 1000).1, .int (bW cs late 1000).2]) hK (fp_name 5 rfl) fp_int rfl) fp_str) (by rw [decide_eq_false (by decide +kernel)])) fun _ => fp_one (fp_is (fp_gt (fp_ixT (ds := [.str "most", .int (bW cs late 1000).1, .int (bW cs late 1000).2]) hK (fp_name 5 rfl) fp_int rfl) (fp_name 3 rfl)) (by rw [decide_eq_true hlt]))) rfl) hq)
    · have he : ever cs r = false ∧ (bW cs late r).1 ≤ wt := by
        unfold enough at hyes
        rw [Bool.and_eq_true] at hyes
        exact ⟨by simpa using hyes.1, of_decide_eq_true hyes.2⟩
      refine fs_if_no (k := false) (ft_isN (x := .int r) (fp_name 4 rfl)) rfl ?_
      refine fs_cons (f1_setP 5 sc48.nd (d := mostW cs late r) (fp_def T.d36 hr (by decide) hK (fpa_cons (fp_name 1 rfl) (arg2 (fp_name 2 rfl) (fp_name 4 rfl))) fun π q k => ⟨cs, late, r, rfl, sv r r0 r1, k⟩) ?_)
      rw [mostW_paper, paper_most he.1]
      refine fs_if_no (ft_w (fw_or (p := false) (q := false) (ft_neS' (x := "most") (fp_ixT (ds := [.str "most", .int (bW cs late r).1, .int (bW cs late r).2]) hK (fp_name 5 rfl) fp_int rfl) fp_str (by decide +kernel)) fun _ => fw_or1 (fpt_is (ft_gt (fp_ixT (ds := [.str "most", .int (bW cs late r).1, .int (bW cs late r).2]) hK (fp_name 5 rfl) fp_int rfl) (fp_name 3 rfl)) (decide_eq_false (by omega))))) rfl ?_
      refine fs_cons (f1_ifP (ft_eqI (fp_name 4 rfl) fp_int) (fun _ => fs_one (f1_retP fp_bool hq)) fun hne => fs_nil ?_)
      have hne : ¬ r = 1 := of_decide_eq_false hne
      have hno := hless.resolve_left hne
      refine fs_cons (f1_setP 5 sc48.nd (d := mostW cs late (r - 1)) (fp_def T.d36 hr (by decide) hK (fpa_cons (fp_name 1 rfl) (arg2 (fp_name 2 rfl) (fp_sub (fp_name 4 rfl) fp_int))) fun π q k => ⟨cs, late, r - 1, rfl, sv (r - 1) (by omega) (by omega), k⟩) ?_)
      rw [mostW_paper]
      rcases no (r - 1) hno with he | ⟨he, hlt⟩
      · rw [paper_ever he]
        exact fs_one (f1_retP (fp_is (fp_or (p := true) (q := true) (fp_is (fp_eqS (x := "ever") (fp_ixT (ds := [.str "ever"]) hK (fp_name 5 rfl) fp_int rfl) fp_str) (by rw [decide_eq_true rfl])) fun hf => by cases hf) rfl) hq)
      · rw [paper_most he]
        exact fs_one (f1_retP (fp_is (fp_or (p := false) (q := true) (fp_is (fp_eqS (x := "most") (fp_ixT (ds := [.str "most", .int (bW cs late (r - 1)).1, .int (bW cs late (r - 1)).2]) hK (fp_name 5 rfl) fp_int rfl) fp_str) (by rw [decide_eq_false (by decide +kernel)])) fun _ => fp_one (fp_is (fp_gt (fp_ixT (ds := [.str "most", .int (bW cs late (r - 1)).1, .int (bW cs late (r - 1)).2]) hK (fp_name 5 rfl) fp_int rfl) (fp_name 3 rfl)) (by rw [decide_eq_true hlt]))) rfl) hq)
/-- the sums of all windows -/
def winF (c1 c2 : List Ln) (bs : List Int) (i k : Nat) : Int := ((bs.drop i).take (k + 1)).sum - amt c1 ((i : Int) + k - i + 1) - amt c2 ((i : Int) + k - i + 1)
def sumsF (c1 c2 : List Ln) (bs : List Int) : List Int := (List.range bs.length).flatMap fun i => (List.range (bs.length - i)).map (winF c1 c2 bs i)
def Wsums : WF := fun ds π q => ∃ (c1 c2 : List Ln) (bs : List Int), ds = [.d (encC c1), .d (encC c2), .d (.tuple (bs.map .int))] ∧ CurveOk c1 ∧ CurveOk c2 ∧ bs.length ≤ 60 ∧ q (.d (.list ((sumsF c1 c2 bs).map .int))) π
abbrev N51 : List Str := ["one", "other", "both", "found", "first", "last", "beats"]
theorem sc51 : FnScope N51 ["one", "other", "both"] (defScope (st 51)) := ⟨rfl, rfl, rfl, by decide +kernel, rfl, by decide +kernel, by decide +kernel⟩
theorem rows_len (g : Nat → Nat → Int) (n : Nat) : ∀ i, ((List.range i).flatMap fun i => (List.range (n - i)).map (g i)).length ≤ n * i
  | 0 => by simp
  | i + 1 => by
    rw [List.range_succ, List.flatMap_append, List.length_append]
    have := rows_len g n i
    simp only [List.flatMap_cons, List.flatMap_nil, List.append_nil, List.length_map, List.length_range]
    rw [Nat.mul_add]
    omega
theorem ok51 (F : Fun K "_law_sums" "_law_sums" (st 51) f fd) (B : Blt mg) (D50 : HasDef P w K mg base "_law_least" 1 ["curve", "beats"] WlawLeast) : FnOk P w K mg base CX0 2 f fd ["one", "other", "both"] (SpD K Wsums) := by
  refine ok_def F sc51 (fun ds π q h => ?_) (fun cdv A outer s H E ds π q C hr hK h => ?_)
  · obtain ⟨n, cs, l, rfl, _⟩ := h; rfl
  · obtain ⟨c1, c2, bs, rfl, ok1, ok2, l1, h⟩ := h
    refine fs_cons (f1_setO 3 sc51.nd (fl_mono (flp_list (xs := []) fpa_nil) fun ds' z' ⟨e1, e2⟩ => ?_))
    subst e1 e2
    refine fs_cons (f1_forI [4] bs.length (fun i => .int (0 + (i : Nat))) (fun i z => ∃ (s4 s5 s6 : Sl), z = ⟨[sd (encC c1), sd (encC c2), sd (.tuple (bs.map .int)), .ow (((List.range i).flatMap fun i => (List.range (bs.length - i)).map (winF c1 c2 bs i)).map .int), s4, s5, s6], π⟩) PassesOwn.never rfl ?_ ⟨_, _, _, rfl⟩ (fun i hi z2 hz => ?_) fun z2 hz => ?_)
    · refine fip_is (fip_range1 B.range (fp_lenT hK B.len (fp_name 2 rfl)) (by rw [List.length_map]; omega) (by omega)) ?_
      rw [List.length_map, Int.toNat_natCast]; rfl
    · obtain ⟨s4, s5, s6, rfl⟩ := hz
      have hlen := rows_len (winF c1 c2 bs) bs.length i
      generalize hxs : (List.range i).flatMap (fun i => (List.range (bs.length - i)).map (winF c1 c2 bs i)) = xs at hlen ⊢
      refine fg_name 4 sc51.nd rfl (.inl rfl) ?_ (by simp) (.inl rfl)
      have e0 : (0 : Int) + (i : Nat) = (i : Int) := by omega
      rw [e0]
      refine fs_one (f1_forI [5] (bs.length - i) (fun k => .int ((i : Int) + (k : Nat))) (fun k z => ∃ (s5 s6 : Sl), z = ⟨[sd (encC c1), sd (encC c2), sd (.tuple (bs.map .int)), .ow ((xs ++ (List.range k).map (winF c1 c2 bs i)).map .int), si (i : Int), s5, s6], π⟩) PassesOwn.never rfl ?_ ⟨_, _, by rw [List.range_zero, List.map_nil, List.append_nil]; rfl⟩ (fun k hk z3 hz => ?_) fun z3 hz => ?_)
      · refine fip_is (fip_range2 B.range (fp_name 4 rfl) (fp_lenT hK B.len (fp_name 2 rfl)) ⟨by omega, by omega, by omega, by rw [List.length_map]; omega⟩) ?_
        have e : (((bs.map PyData.int).length : Int) - (i : Int)).toNat = bs.length - i := by rw [List.length_map]; omega
        rw [e]; rfl
      · obtain ⟨s5, s6, rfl⟩ := hz
        refine fg_name 5 sc51.nd rfl (.inl rfl) ?_ (by simp) (.inl rfl)
        refine fs_cons (f1_setP 6 sc51.nd (fp_add (fp_sub (fp_name 5 rfl) (fp_name 4 rfl)) fp_int) ?_)
        have e3 : ((i : Int) + (k : Nat) + 1) = ((i + k + 1 : Nat) : Int) := by omega
        have hb2 : bs.length * i ≤ 60 * 60 := Nat.mul_le_mul l1 (by omega)
        refine fs_one (f1_append 3 hK ⟨_, rfl⟩ (fe_fp (d := .int (winF c1 c2 bs i k)) (fp_sub (fp_sub (fp_sumT hK rfl B.sum (fp_is (fp_slT hK (fp_name 2 rfl) (fo_some (fp_name 4 rfl)) (fo_some (fp_is (fp_add (fp_name 5 rfl) fp_int) (by rw [e3])))) ?_))
          (fp_def D50 hr (by decide) hK (arg2 (fp_name 0 rfl) (fp_name 6 rfl)) fun π q kk => ⟨c1, _, rfl, ok1, kk⟩)) (fp_def D50 hr (by decide) hK (arg2 (fp_name 1 rfl) (fp_name 6 rfl)) fun π q kk => ⟨c2, _, rfl, ok2, kk⟩)) ⟨_, _, rfl, rfl, ?_, si ((i : Int) + k), si ((i : Int) + k - i + 1), ?_⟩))
        · rw [cutD_in _ _ _ (by rw [List.length_map]; omega)]
          have e4 : i + k + 1 - i = k + 1 := by omega
          rw [e4, ← List.map_drop, ← List.map_take]
        · simp only [List.length_map, List.length_append, List.length_range]; omega
        · exact congrArg (fun l => (⟨[sd (encC c1), sd (encC c2), sd (.tuple (bs.map .int)), .ow l, si (i : Int), si ((i : Int) + k), si ((i : Int) + k - i + 1)], π⟩ : Zs)) (by rw [List.range_succ]; simp)
      · obtain ⟨s5, s6, rfl⟩ := hz
        refine ⟨si (i : Int), s5, s6, ?_⟩
        rw [List.range_succ, List.flatMap_append, hxs]
        simp
    · obtain ⟨s4, s5, s6, rfl⟩ := hz
      refine fs_freeze 3 rfl ?_
      exact fs_one (f1_retP (fp_name 3 rfl) h)
end
end K28

set_option Elab.async false
set_option linter.all false
set_option maxRecDepth 100000
set_option maxHeartbeats 4000000
set_option autoImplicit false
namespace K28
open PySem PySem.Spec PyProof.Rows L2 DL
theorem atI_head {α : Type} (x : α) (xs : List α) : atI (x :: xs) 0 = some x := by
  unfold atI ixN
  rw [if_pos (by decide), if_pos (by rw [List.length_cons]; omega)]
  rfl
theorem atI_last {α : Type} (x : α) (xs : List α) : atI (xs ++ [x]) (-1) = some x := by
  unfold atI ixN
  rw [if_neg (by decide), if_pos (by rw [List.length_append, List.length_singleton]; omega)]
  show (xs ++ [x])[(-1 + ((xs ++ [x]).length : Int)).toNat]? = _
  have e : (-1 + ((xs ++ [x]).length : Int)).toNat = xs.length := by rw [List.length_append, List.length_singleton]; omega
  rw [e]; simp
structure Drawn (cs : List (List Ln)) : Prop where
  l1 : 1 ≤ cs.length
  l2 : cs.length ≤ 3
  all : ∀ c ∈ cs, CurveD c
theorem Drawn.served {cs : List (List Ln)} (h : Drawn cs) {late rate : Int} (hl : 0 ≤ late ∧ late ≤ 1000) (hr : 1 ≤ rate ∧ rate ≤ 1000) : Served cs late rate := by
  refine ⟨⟨⟨h.l1, Nat.le_trans h.l2 (by decide), fun c hc => (h.all c hc).ok⟩, ?_⟩, hl.1, by omega, hr.1, hr.2⟩
  have h1 := few_of (k := 9) (cs := cs) fun c hc => Nat.le_trans (rawC_len c) (T3_mono (h.all c hc).l2)
  have := h.l2
  omega
theorem Drawn.pos {cs : List (List Ln)} (h : Drawn cs) : ∀ c ∈ cs, Pos c := fun c hc => (h.all c hc).ok.pos
theorem scl_served {cs : List (List Ln)} (h : Drawn cs) {n late rate : Int} (hn : 1 ≤ n ∧ n ≤ 6) (hl : 0 ≤ late ∧ late ≤ 1000) (hr : 1 ≤ rate ∧ rate ≤ 1000) : Served (sclCs n cs) late rate := by
  have sv := h.served hl hr
  refine ⟨⟨⟨by unfold sclCs; rw [List.length_map]; exact h.l1, by unfold sclCs; rw [List.length_map]; exact Nat.le_trans h.l2 (by decide), fun c hc => ?_⟩, ?_⟩, sv.l0, sv.l1, sv.r0, sv.r1⟩
  · obtain ⟨d, hd, rfl⟩ := List.mem_map.mp hc
    have hD := h.all d hd
    refine ⟨by unfold sclC; rw [List.length_map]; exact hD.l1, by unfold sclC; rw [List.length_map]; exact Nat.le_trans hD.l2 (by decide), fun l hl => ?_⟩
    obtain ⟨k, hk, rfl⟩ := List.mem_map.mp hl
    have hL := hD.all k hk
    unfold LnD at hL
    have a1 := Int.mul_le_mul hn.2 hL.2.1 hL.1 (by decide)
    have a2 := Int.mul_le_mul hn.2 hL.2.2.2 hL.2.2.1 (by decide)
    have a3 := Int.mul_nonneg (show 0 ≤ n by omega) hL.1
    have a4 := Int.mul_nonneg (show 0 ≤ n by omega) hL.2.2.1
    show 0 ≤ n * k.1 ∧ n * k.1 ≤ 1000000 ∧ 0 ≤ n * k.2 ∧ n * k.2 ≤ 1000
    omega
  · have e : (sclCs n cs).flatMap rawC = cs.flatMap rawC := by
      unfold sclCs
      rw [List.flatMap_map]
      exact fm_congr fun c _ => scl_raw (by omega) c
    rw [e]; exact sv.ok.few
theorem less_served {c : List Ln} {cs : List (List Ln)} (h : Drawn (c :: cs)) {l : Ln} (hl : LnD l) {late rate : Int} (hla : 0 ≤ late ∧ late ≤ 1000) (hr : 1 ≤ rate ∧ rate ≤ 1000) : Served ((c ++ [l]) :: cs) late rate := by
  have sv := h.served hla hr
  have hc := h.all c List.mem_cons_self
  have l2 := h.l2
  rw [List.length_cons] at l2
  refine ⟨⟨⟨by simp, by rw [List.length_cons]; omega, fun d hd => ?_⟩, ?_⟩, sv.l0, sv.l1, sv.r0, sv.r1⟩
  · rcases List.mem_cons.mp hd with rfl | hd
    · refine ⟨by simp, by have := hc.l2; rw [List.length_append]; simp; omega, fun k hk => ?_⟩
      rcases List.mem_append.mp hk with hk | hk
      · exact hc.ok.all k hk
      · rw [List.mem_singleton.mp hk]
        unfold LnD at hl
        unfold LnOk
        omega
    · exact (h.all d (List.mem_cons_of_mem _ hd)).ok
  · have h1 := few_of (k := 9) (cs := cs) fun d hd => Nat.le_trans (rawC_len d) (T3_mono (h.all d (List.mem_cons_of_mem _ hd)).l2)
    have h2 : (rawC (c ++ [l])).length ≤ T3 4 := Nat.le_trans (rawC_len _) (T3_mono (by have := hc.l2; rw [List.length_append]; simp; omega))
    have h3 : T3 4 = 18 := rfl
    rw [List.flatMap_cons, List.length_append]
    omega
theorem more_served {cs : List (List Ln)} (h : Drawn cs) {l : Ln} (hl : LnD l) {late rate : Int} (hla : 0 ≤ late ∧ late ≤ 1000) (hr : 1 ≤ rate ∧ rate ≤ 1000) : Served (cs ++ [[l]]) late rate := by
  have sv := h.served hla hr
  have l2 := h.l2
  refine ⟨⟨⟨by simp, by rw [List.length_append]; simp; omega, fun d hd => ?_⟩, ?_⟩, sv.l0, sv.l1, sv.r0, sv.r1⟩
  · rcases List.mem_append.mp hd with hd | hd
    · exact (h.all d hd).ok
    · rw [List.mem_singleton.mp hd]
      refine ⟨by simp, by simp, fun k hk => ?_⟩
      rw [List.mem_singleton.mp hk]
      unfold LnD at hl
      unfold LnOk
      omega
  · rw [List.flatMap_append, List.length_append]
    have e : ([[l]].flatMap rawC) = [] := ones_raw [l]
    rw [e]
    exact sv.ok.few
section
variable {P : Program} {w : World} {K : PySem.W.Frag} {mg : Str → Option Value} {base : Heap} {f : Addr} {fd : FuncData}
def Wgrown : WF := fun ds π q => ∃ (n : Nat) (cs : List (List Ln)) (late rate : Int), ds = [.pot, .d (encCs cs), .d (.int late), .d (.int rate)] ∧ PB π n ∧ n ≤ 900000 ∧ Drawn cs ∧ 0 ≤ late ∧ late ≤ 900 ∧ 1 ≤ rate ∧ rate ≤ 900 ∧ ∀ π', PB π' (n + 10) → q (.d (.bool true)) π'
abbrev N47 : List Str := ["pot", "curves", "late", "rate", "told", "its", "number", "great", "burst", "slow", "curve", "far", "far_late", "line", "less", "more", "fast", "pairs", "paper", "other"]
theorem sc47 : FnScope N47 ["pot", "curves", "late", "rate"] (defScope (st 47)) := ⟨rfl, rfl, rfl, by decide +kernel, rfl, by decide +kernel, by decide +kernel⟩
theorem ok47 (F : Fun K "_law_is_grown_right" "_law_is_grown_right" (st 47) f fd) (B : Blt mg) (T : LawTools P w K mg base) : FnOk P w K mg base CX0 7 f fd ["pot", "curves", "late", "rate"] (SpD K Wgrown) := by
  refine ok_def F sc47 (fun ds π q h => ?_) (fun cdv A outer s H E ds π q C hr hK h => ?_)
  · obtain ⟨n, cs, l, r, rfl, _⟩ := h; rfl
  · obtain ⟨n, cs, late, rate, rfl, pb, hn, hD, l0, l1, r0, r1, h⟩ := h
    have l2 := hD.l2
    have sv := hD.served (late := late) (rate := rate) ⟨l0, by omega⟩ ⟨r0, by omega⟩
    refine fs_cons (f1_parP (i := 4) (j := 5) (d1 := mostW cs late rate) (d2 := mostL cs late rate) rfl sc47.nd (by decide)
      (fp_def T.d36 hr (by decide) hK (fpa_cons (fp_name 1 rfl) (arg2 (fp_name 2 rfl) (fp_name 3 rfl))) fun π q k => ⟨cs, late, rate, rfl, sv, k⟩)
      (fp_def T.d37 hr (by decide) hK (fpa_cons (fp_name 1 rfl) (arg2 (fp_name 2 rfl) (fp_name 3 rfl))) fun π q k => ⟨cs, late, rate, rfl, sv, k⟩) ?_)
    refine fs_cons (f1_set 6 sc47.nd rfl (.inr rfl) (fe_addD fp_int (fe_take 0 T.d42 hr (by decide) hK rfl fp_int (by decide) (by decide) pb (by omega) fun m π1 m0 m1 pb1 => ⟨m, rfl, ?_⟩)))
    generalize hnum : 1 + m = num
    have n0 : 1 ≤ num ∧ num ≤ 6 := by omega
    refine fs_cons (f1_setP 7 sc47.nd (d := encCs (sclCs num cs)) (fp_is (fp_tupleL hK B.tuple (fp_of rfl sc47.nd (blkOk_by (own := [("curve", 10)]) (N := N47) (sc := defScope (st 47)) (by decide +kernel))
      (lcp_mapN 10 cs encC (fun c => encC (sclC num c)) sc47.nd (fip_tup hK (fp_name 1 rfl)) (by omega) rfl fun c hc s H cc cl fp C' hk hp => ?_))) ?_) ?_)
    · have hcD := hD.all c hc
      have c2 := hcD.l2
      refine fp_is (fp_tupleL (hk.trans hK) B.tuple (fp_of rfl sc47.nd (blkOk_by (own := [("burst", 8), ("slow", 9)]) (N := N47) (sc := relS _ (defScope (st 47))) (by decide +kernel))
        (lcp_mapT 8 9 c (fun l => .int l.1) (fun l => .int l.2) (fun l => encL (scl num l)) rfl (hk.trans hK) sc47.nd (fip_tup (hk.trans hK) (fp_name 10 rfl)) (by omega) rfl fun x hx s H cc cl fp C' hk hp => ?_))) ?_
      · exact fp_tuple (arg2 (fp_mul (fp_name 6 rfl) (fp_name 8 rfl) (.inl ⟨by omega, by omega⟩)) (fp_mul (fp_name 6 rfl) (fp_name 9 rfl) (.inl ⟨by omega, by omega⟩)))
      · unfold encC sclC
        rw [List.map_map]; rfl
    · unfold encCs sclCs
      rw [List.map_map]; rfl
    · rw [mostW_paper, mostL_paper]
      refine fs_cons (f1_mono (Q := fun o z' => o = .nx ∧ ∃ s11 s12 : Sl, z' = ⟨[sp, sd (encCs cs), si late, si rate, sd (paper (ever cs rate) (bW cs late rate)), sd (paper (ever cs rate) (bL cs late rate)), si num, sd (encCs (sclCs num cs)), .un, .un, .un, s11, s12, .un, .un, .un, .un, .un, .un, .un], π1⟩)
        (f1_ifP (ft_le (fp_mul (fp_name 6 rfl) (fp_name 3 rfl) (.inl ⟨by omega, by omega⟩)) fp_int) (fun hle => ?_) fun _ => fs_nil ⟨rfl, _, _, rfl⟩) fun o z' ⟨eo, s11, s12, ez⟩ => ?_)
      · have hle : num * rate ≤ 1000 := of_decide_eq_true hle
        have nr : 1 ≤ num * rate := by
          have := Int.mul_le_mul n0.1 r0 (by decide) (by omega)
          omega
        have sv2 := scl_served hD n0 (late := late) (rate := num * rate) ⟨l0, by omega⟩ ⟨nr, hle⟩
        refine fs_cons (f1_parP (i := 11) (j := 12) (d1 := mostW (sclCs num cs) late (num * rate)) (d2 := mostL (sclCs num cs) late (num * rate)) rfl sc47.nd (by decide)
          (fp_def T.d36 hr (by decide) hK (fpa_cons (fp_name 7 rfl) (arg2 (fp_name 2 rfl) (fp_mul (fp_name 6 rfl) (fp_name 3 rfl) (.inl ⟨by omega, by omega⟩)))) fun π q k => ⟨sclCs num cs, late, num * rate, rfl, sv2, k⟩)
          (fp_def T.d37 hr (by decide) hK (fpa_cons (fp_name 7 rfl) (arg2 (fp_name 2 rfl) (fp_mul (fp_name 6 rfl) (fp_name 3 rfl) (.inl ⟨by omega, by omega⟩)))) fun π q k => ⟨sclCs num cs, late, num * rate, rfl, sv2, k⟩) ?_)
        have e1 : ever (sclCs num cs) (num * rate) = ever cs rate := scl_ever (by omega) hD.pos rate
        have e2 : (bW (sclCs num cs) late (num * rate)).1 = num * (bW cs late rate).1 := scl_W (by omega) hD.pos late rate
        have e3 : (bL (sclCs num cs) late (num * rate)).1 = (bL cs late rate).1 := scl_L (by omega) hD.pos late rate
        rw [mostW_paper, mostL_paper, e1]
        generalize bW (sclCs num cs) late (num * rate) = gW at e2 ⊢
        generalize bL (sclCs num cs) late (num * rate) = gL at e3 ⊢
        cases he : ever cs rate with
        | true =>
          rw [paper_ever rfl, paper_ever rfl, paper_ever rfl, paper_ever rfl]
          refine fs_if_no (ft_w (fw_or (p := false) (q := false) (ft_neS' (x := "ever") (fp_ixT (ds := [.str "ever"]) hK (fp_name 11 rfl) fp_int rfl) (fp_ixT (ds := [.str "ever"]) hK (fp_name 4 rfl) fp_int rfl) (by decide +kernel)) fun _ => fw_or1 (ft_neS' (x := "ever") (fp_ixT (ds := [.str "ever"]) hK (fp_name 12 rfl) fp_int rfl) (fp_ixT (ds := [.str "ever"]) hK (fp_name 5 rfl) fp_int rfl) (by decide +kernel)))) rfl ?_
          exact fs_if_no (ft_w (fw_and (p := false) (q := true) (fpt_is (ft_eqS (x := "ever") (fp_ixT (ds := [.str "ever"]) hK (fp_name 4 rfl) fp_int rfl) fp_str) (decide_eq_false (by decide +kernel))) fun hf => by cases hf)) rfl (fs_nil ⟨rfl, _, _, rfl⟩)
        | false =>
          rw [paper_most rfl, paper_most rfl, paper_most rfl, paper_most rfl]
          refine fs_if_no (ft_w (fw_or (p := false) (q := false) (ft_neS' (x := "most") (fp_ixT (ds := [.str "most", .int gW.1, .int gW.2]) hK (fp_name 11 rfl) fp_int rfl) (fp_ixT (ds := [.str "most", .int (bW cs late rate).1, .int (bW cs late rate).2]) hK (fp_name 4 rfl) fp_int rfl) (by decide +kernel)) fun _ => fw_or1 (ft_neS' (x := "most") (fp_ixT (ds := [.str "most", .int gL.1, .int gL.2]) hK (fp_name 12 rfl) fp_int rfl) (fp_ixT (ds := [.str "most", .int (bL cs late rate).1, .int (bL cs late rate).2]) hK (fp_name 5 rfl) fp_int rfl) (by decide +kernel)))) rfl ?_
          refine fs_if_no (ft_w (fw_and (p := true) (q := false) (fpt_is (ft_eqS (x := "most") (fp_ixT (ds := [.str "most", .int (bW cs late rate).1, .int (bW cs late rate).2]) hK (fp_name 4 rfl) fp_int rfl) fp_str) (decide_eq_true rfl)) fun _ => fw_and1 (ft_w (fw_or (p := false) (q := false)
            (fpt_is (ft_neI (fp_ixT (ds := [.str "most", .int gW.1, .int gW.2]) hK (fp_name 11 rfl) fp_int rfl) (fp_mul (fp_name 6 rfl) (fp_ixT (ds := [.str "most", .int (bW cs late rate).1, .int (bW cs late rate).2]) hK (fp_name 4 rfl) fp_int rfl) (.inl ⟨by omega, by omega⟩))) (by rw [e2, decide_eq_true rfl]; rfl)) fun _ => fw_or1
            (fpt_is (ft_neI (fp_ixT (ds := [.str "most", .int gL.1, .int gL.2]) hK (fp_name 12 rfl) fp_int rfl) (fp_ixT (ds := [.str "most", .int (bL cs late rate).1, .int (bL cs late rate).2]) hK (fp_name 5 rfl) fp_int rfl)) (by rw [e3, decide_eq_true rfl]; rfl)))))) rfl ?_
          exact fs_nil ⟨rfl, _, _, rfl⟩
      · subst eo ez
        obtain ⟨c0, rest, ec⟩ : ∃ c0 rest, cs = c0 :: rest := by
          cases cs with
          | nil => have := hD.l1; simp at this
          | cons c0 rest => exact ⟨c0, rest, rfl⟩
        refine fs_cons (f1_set 13 sc47.nd rfl (.inl rfl) (fe_tuple (fa_consE (fe_take 0 T.d42 hr (by decide) hK rfl fp_int (by decide) (by decide) pb1 (by omega) fun b π2 b0 b1 pb2 =>
          fa_consE (fe_take 0 T.d42 hr (by decide) hK rfl fp_int (by decide) (by decide) pb2 (by omega) fun k π3 k0 k1 pb3 => fa_nil ⟨[.int b, .int k], rfl, by rw [sizeLine_eq]; simp, ?_⟩)))))
        have hL : LnD (b, k) := ⟨b0, by show b ≤ 299; omega, k0, by show k ≤ 19; omega⟩
        have eless : PyData.tuple ([.tuple (c0.map encL ++ [encL (b, k)])] ++ rest.map encC) = encCs ((c0 ++ [(b, k)]) :: rest) := by
          unfold encCs
          rw [List.map_cons]
          show _ = PyData.tuple ([encC (c0 ++ [(b, k)])] ++ rest.map encC)
          unfold encC
          rw [List.map_append]; rfl
        have emore : PyData.tuple (cs.map encC ++ [.tuple [encL (b, k)]]) = encCs (cs ++ [[(b, k)]]) := by
          unfold encCs
          rw [List.map_append]; rfl
        have c2 : c0.length ≤ 3 := (hD.all c0 (by rw [ec]; simp)).l2
        have r2 : rest.length ≤ 2 := by rw [ec, List.length_cons] at l2; omega
        refine fs_cons (f1_setP 14 sc47.nd (d := encCs ((c0 ++ [(b, k)]) :: rest)) (fp_is (fp_catT hK (fp_tuple (arg1 (fp_catT (xs := c0.map encL) (ys := [encL (b, k)]) hK (fp_ixT hK (fp_name 1 rfl) fp_int (by rw [ec]; exact atI_head _ _)) (fp_tuple (arg1 (fp_name 13 rfl))) (by rw [List.length_map]; simp; omega)))) (fp_is (fp_slT hK (fp_name 1 rfl) (fo_some fp_int) fo_none) (by rw [show (1 : Int) = ((1 : Nat) : Int) from rfl, cutD_from, ec]; rfl)) (by rw [List.length_map]; simp; omega)) eless) ?_)
        refine fs_cons (f1_par (i := 15) (j := 16) rfl sc47.nd (by decide) (fa_consP (d := encCs (cs ++ [[(b, k)]])) (fp_is (fp_catT (ys := [.tuple [encL (b, k)]]) hK (fp_name 1 rfl) (fp_tuple (arg1 (fp_tuple (arg1 (fp_name 13 rfl))))) (by rw [List.length_map]; simp; omega)) emore)
          (fa_consE (fe_addD (fp_add (fp_name 3 rfl) fp_int) (fe_take 0 T.d42 hr (by decide) hK rfl fp_int (by decide) (by decide) pb3 (by omega) fun g π4 g0 g1 pb4 => ⟨g, rfl, fa_nil ⟨_, _, rfl, ?_⟩⟩)))))
        generalize hfast : rate + 1 + g = fast
        have f0 : rate ≤ fast ∧ fast ≤ 1000 := by omega
        have svl := less_served (ec ▸ hD) hL (late := late) (rate := rate) ⟨l0, by omega⟩ ⟨r0, by omega⟩
        have svm := more_served hD hL (late := late) (rate := rate) ⟨l0, by omega⟩ ⟨r0, by omega⟩
        have svf := hD.served (late := late) (rate := fast) ⟨l0, by omega⟩ ⟨by omega, by omega⟩
        have atL := at_less (l := (b, k)) (late := late) (rate := rate) (ec ▸ hD.pos) l0 (by omega)
        have atM := at_more hD.pos (c := [(b, k)]) ⟨by simp, fun l hl => by rw [List.mem_singleton.mp hl]; exact ⟨b0, k0⟩⟩ (late := late) (rate := rate) l0 (by omega)
        have atF := at_fast hD.pos (late := late) (rate := rate) (fast := fast) l0 (by omega) f0.1
        rw [← ec] at atL
        generalize hless : (c0 ++ [(b, k)]) :: rest = less at svl atL ⊢
        generalize hmore : cs ++ [[(b, k)]] = more at svm atM ⊢
        refine fs_cons (f1_setO 17 sc47.nd (fl_mono (flp_list (xs := [.tuple [mostW less late rate, paper (ever cs rate) (bW cs late rate)], .tuple [mostL less late rate, paper (ever cs rate) (bL cs late rate)]])
          (arg2 (fp_tuple (arg2 (fp_def T.d36 hr (by decide) hK (fpa_cons (fp_name 14 rfl) (arg2 (fp_name 2 rfl) (fp_name 3 rfl))) fun π q k => ⟨less, late, rate, rfl, svl, k⟩) (fp_name 4 rfl)))
            (fp_tuple (arg2 (fp_def T.d37 hr (by decide) hK (fpa_cons (fp_name 14 rfl) (arg2 (fp_name 2 rfl) (fp_name 3 rfl))) fun π q k => ⟨less, late, rate, rfl, svl, k⟩) (fp_name 5 rfl))))) fun ds' z' ⟨e1, e2⟩ => ?_))
        subst e1 e2
        refine fs_cons (f1_extend 17 hK ⟨_, rfl⟩ (fl_mono (flp_list (xs := [.tuple [paper (ever cs rate) (bW cs late rate), mostW more late rate], .tuple [paper (ever cs rate) (bL cs late rate), mostL more late rate]])
          (arg2 (fp_tuple (arg2 (fp_name 4 rfl) (fp_def T.d36 hr (by decide) hK (fpa_cons (fp_name 15 rfl) (arg2 (fp_name 2 rfl) (fp_name 3 rfl))) fun π q k => ⟨more, late, rate, rfl, svm, k⟩)))
            (fp_tuple (arg2 (fp_name 5 rfl) (fp_def T.d37 hr (by decide) hK (fpa_cons (fp_name 15 rfl) (arg2 (fp_name 2 rfl) (fp_name 3 rfl))) fun π q k => ⟨more, late, rate, rfl, svm, k⟩))))) fun ds' z' ⟨e1, e2⟩ => ?_))
        subst e1 e2
        refine ⟨_, rfl, by simp, ?_⟩
        refine fs_cons (f1_extend 17 hK ⟨_, rfl⟩ (fl_mono (flp_list (xs := [.tuple [mostW cs late fast, paper (ever cs rate) (bW cs late rate)], .tuple [mostL cs late fast, paper (ever cs rate) (bL cs late rate)]])
          (arg2 (fp_tuple (arg2 (fp_def T.d36 hr (by decide) hK (fpa_cons (fp_name 1 rfl) (arg2 (fp_name 2 rfl) (fp_name 16 rfl))) fun π q k => ⟨cs, late, fast, rfl, svf, k⟩) (fp_name 4 rfl)))
            (fp_tuple (arg2 (fp_def T.d37 hr (by decide) hK (fpa_cons (fp_name 1 rfl) (arg2 (fp_name 2 rfl) (fp_name 16 rfl))) fun π q k => ⟨cs, late, fast, rfl, svf, k⟩) (fp_name 5 rfl))))) fun ds' z' ⟨e1, e2⟩ => ?_))
        subst e1 e2
        refine ⟨_, rfl, by simp, ?_⟩
        let pl : List (PyData × PyData) := [(mostW less late rate, paper (ever cs rate) (bW cs late rate)), (mostL less late rate, paper (ever cs rate) (bL cs late rate)), (paper (ever cs rate) (bW cs late rate), mostW more late rate), (paper (ever cs rate) (bL cs late rate), mostL more late rate), (mostW cs late fast, paper (ever cs rate) (bW cs late rate)), (mostL cs late fast, paper (ever cs rate) (bL cs late rate))]
        have hpl : ∀ x ∈ pl, ∃ (e1 : Bool) (b1 : Int × Int) (e2 : Bool) (b2 : Int × Int), x = (paper e1 b1, paper e2 b2) ∧ (e2 = true ∨ (e1 = false ∧ b1.1 ≤ b2.1)) := fun x hx => by
          simp only [pl, List.mem_cons, List.not_mem_nil, or_false] at hx
          rcases hx with rfl | rfl | rfl | rfl | rfl | rfl
          · exact ⟨ever less rate, bW less late rate, _, _, rfl, atL.1⟩
          · exact ⟨ever less rate, bL less late rate, _, _, rfl, atL.2⟩
          · exact ⟨_, _, ever more rate, bW more late rate, rfl, atM.1⟩
          · exact ⟨_, _, ever more rate, bL more late rate, rfl, atM.2⟩
          · exact ⟨ever cs fast, bW cs late fast, _, _, rfl, atF.1⟩
          · exact ⟨ever cs fast, bL cs late fast, _, _, rfl, atF.2⟩
        refine fs_freeze 17 rfl ?_
        refine fs_if_no (ft_not (p := true) (ft_val (fp_is (fp_all (bs := pl.map fun _ => true) hK rfl B.all (fp_is (fp_of rfl sc47.nd (blkOk_by (own := [("paper", 18), ("other", 19)]) (N := N47) (sc := defScope (st 47)) (by decide +kernel))
          (lcp_mapT 18 19 pl Prod.fst Prod.snd (fun _ => .bool true) rfl hK sc47.nd (fip_is (fip_list hK (fp_name 17 rfl)) rfl) (by simp [pl]) rfl fun x hx s H cc cl fp C' hk hp => ?_)) (by rw [List.map_map]; rfl))) (by rw [all_true])))) rfl ?_
        · obtain ⟨e1, b1, e2, b2, ex, hc⟩ := hpl x hx
          subst ex
          exact fp_def T.d45 hr (by decide) (hk.trans hK) (arg2 (fp_name 18 rfl) (fp_name 19 rfl)) fun π q k => ⟨e1, b1, e2, b2, rfl, hc, k⟩
        · refine fs_one (f1_ret (fe_def T.d45 hr (by decide) hK (fa_consP (fp_name 4 rfl) (fa_consE (fe_def T.d36 hr (by decide) hK (fa_consP (fp_name 1 rfl) (fa_consE (fe_addD (fp_add (fp_name 2 rfl) fp_int) (fe_take 0 T.d42 hr (by decide) hK rfl fp_int (by decide) (by decide) pb4 (by omega) fun y π5 y0 y1 pb5 => ⟨y, rfl, fa_consP (fp_name 3 rfl) (fa_nil ?_)⟩)))))))))
          refine ⟨cs, late + 1 + y, rate, rfl, hD.served ⟨by omega, by omega⟩ ⟨r0, by omega⟩, fa_nil ?_⟩
          exact ⟨_, _, ever cs rate, bW cs (late + 1 + y) rate, rfl, at_late hD.pos l0 (by omega) (by omega), h π5 (pb5.mono (by omega))⟩
end
end K28

set_option Elab.async false
set_option linter.all false
set_option maxRecDepth 100000
set_option maxHeartbeats 4000000
set_option autoImplicit false
namespace K28
open PySem PySem.Spec PyProof.Rows L2 DL
/-! ### the sums of both -/
def bothF (xs ys : List Int) : List Int := (xs.zip ys).map fun q => q.1 + q.2
theorem both_sum : ∀ (xs ys : List Int), xs.length = ys.length → ∀ i, ((bothF xs ys).take i).sum = (xs.take i).sum + (ys.take i).sum
  | [], [], _, i => by simp [bothF]
  | x :: xs, y :: ys, h, 0 => by simp
  | x :: xs, y :: ys, h, i + 1 => by
    have := both_sum xs ys (by simpa using h) i
    unfold bothF at this ⊢
    simp only [List.zip_cons_cons, List.map_cons, List.take_succ_cons, List.sum_cons]
    omega
  | [], y :: ys, h, _ => by simp at h
  | x :: xs, [], h, _ => by simp at h
theorem drop_sum (xs : List Int) (i k : Nat) : ((xs.drop i).take k).sum = (xs.take (i + k)).sum - (xs.take i).sum := by
  rw [List.take_add, sum_app]
  omega
theorem both_len {xs ys : List Int} (h : xs.length = ys.length) : (bothF xs ys).length = xs.length := by
  unfold bothF
  rw [List.length_map, List.length_zip, h, Nat.min_self]
theorem sums_le {c1 c2 : List Ln} (h1 : CurveD c1) (h2 : CurveD c2) {cut : Nat} (hc : cut ≤ 30) : ∀ x ∈ sumsF c1 c2 (bothF (worstF c1 30) (lateRow c2 cut)), x ≤ 0 := by
  have hl : (worstF c1 30).length = (lateRow c2 cut).length := by rw [worst_len, lateRow_len c2 hc]
  intro x hx
  obtain ⟨i, hi, hx⟩ := List.mem_flatMap.mp hx
  obtain ⟨k, hk, rfl⟩ := List.mem_map.mp hx
  have hi := List.mem_range.mp hi
  have hk := List.mem_range.mp hk
  rw [both_len hl, worst_len] at hi hk
  unfold winF
  rw [drop_sum, both_sum _ _ hl, both_sum _ _ hl, worst_sum c1 30 _ (by omega), worst_sum c1 30 _ (by omega), lateRow_sum c2 hc (by omega), lateRow_sum c2 hc (by omega)]
  have a1 := amt_sub h1.ok.pos (show 0 < (k : Int) + 1 by omega) (i : Int)
  have a2 := amt_sub h2.ok.pos (show 0 < (k : Int) + 1 by omega) ((i : Int) - cut)
  have e1 : ((i + (k + 1) : Nat) : Int) = (i : Int) + ((k : Int) + 1) := by omega
  have e2 : (i : Int) + ((k : Int) + 1) - cut = (i : Int) - cut + ((k : Int) + 1) := by omega
  have e3 : (i : Int) + k - i + 1 = (k : Int) + 1 := by omega
  rw [e1, e2, e3]
  omega
theorem sums_ne (c1 c2 : List Ln) {bs : List Int} (h : 1 ≤ bs.length) : sumsF c1 c2 bs ≠ [] := by
  intro e
  have : winF c1 c2 bs 0 0 ∈ sumsF c1 c2 bs := List.mem_flatMap.mpr ⟨0, List.mem_range.mpr h, List.mem_map.mpr ⟨0, List.mem_range.mpr (by omega), rfl⟩⟩
  rw [e] at this
  cases this
theorem max_le {xs : List Int} (hne : xs ≠ []) (h : ∀ x ∈ xs, x ≤ 0) : maxI xs ≤ 0 := h _ (maxI_spec hne).1
theorem rep_flat (n : Nat) : (List.replicate n [PyData.int 0]).flatten = (List.replicate n (0 : Int)).map .int := by
  induction n with
  | zero => rfl
  | succ n ih => rw [List.replicate_succ, List.flatten_cons, ih, List.replicate_succ]; rfl
theorem zip_ints (xs ys : List Int) : (((xs.map PyData.int).zip (ys.map PyData.int)).map fun q => PyData.tuple [q.1, q.2]) = (xs.zip ys).map fun q => .tuple [.int q.1, .int q.2] := by
  rw [List.zip_map, List.map_map]; rfl
theorem first_of {cs : List (List Ln)} (h : 1 ≤ cs.length) : ∃ c ∈ cs, atI (cs.map encC) 0 = some (encC c) := by
  cases cs with
  | nil => simp at h
  | cons c cs => exact ⟨c, List.mem_cons_self, atI_head _ _⟩
theorem last_of {cs : List (List Ln)} (h : 1 ≤ cs.length) : ∃ c ∈ cs, atI (cs.map encC) (-1) = some (encC c) := by
  have hne : cs ≠ [] := by intro e; rw [e] at h; simp at h
  refine ⟨cs.getLast hne, List.getLast_mem hne, ?_⟩
  have e : cs.map encC = (cs.dropLast.map encC) ++ [encC (cs.getLast hne)] := by
    conv => lhs; rw [← List.dropLast_concat_getLast hne]
    rw [List.map_append]; rfl
  rw [e]
  exact atI_last _ _
/-! ### first lines -/
def hd1 (c : List Ln) : Ln := c.headD (0, 0)
theorem hd1_mem {c : List Ln} (h : c ≠ []) : hd1 c ∈ c := by
  cases c with
  | nil => exact absurd rfl h
  | cons l ls => exact List.mem_cons_self
theorem atI_hd1 {c : List Ln} (h : c ≠ []) : atI (c.map encL) 0 = some (encL (hd1 c)) := by
  cases c with
  | nil => exact absurd rfl h
  | cons l ls => exact atI_head _ _
theorem ones_served {ls : List Ln} (h1 : 1 ≤ ls.length) (h2 : ls.length ≤ 3) (hl : ∀ l ∈ ls, LnD l) {late rate : Int} (hla : 0 ≤ late ∧ late ≤ 1000) (hr : 1 ≤ rate ∧ rate ≤ 1000) : Served (ones ls) late rate := by
  refine ⟨⟨⟨by unfold ones; rw [List.length_map]; exact h1, by unfold ones; rw [List.length_map]; omega, fun c hc => ?_⟩, by rw [ones_raw]; simp⟩, hla.1, by omega, hr.1, hr.2⟩
  obtain ⟨l, hlm, rfl⟩ := List.mem_map.mp hc
  refine ⟨by simp, by simp, fun k hk => ?_⟩
  rw [List.mem_singleton.mp hk]
  have := hl l hlm
  unfold LnD at this
  unfold LnOk
  omega
theorem sum_bound (f : Ln → Int) (m : Int) : ∀ ls : List Ln, (∀ l ∈ ls, 0 ≤ f l ∧ f l ≤ m) → 0 ≤ (ls.map f).sum ∧ (ls.map f).sum ≤ m * ls.length
  | [], _ => by simp
  | l :: ls, h => by
    have h1 := h l List.mem_cons_self
    have h2 := sum_bound f m ls fun k hk => h k (List.mem_cons_of_mem l hk)
    simp only [List.map_cons, List.sum_cons, List.length_cons]
    have e : m * ((ls.length + 1 : Nat) : Int) = m * ls.length + m := by
      rw [Int.natCast_add, Int.mul_add]; simp
    rw [e]
    omega
theorem sum2_served {ls : List Ln} (h2 : ls.length ≤ 3) (hl : ∀ l ∈ ls, LnD l) {late rate : Int} (hla : 0 ≤ late ∧ late ≤ 1000) (hr : 1 ≤ rate ∧ rate ≤ 1000) : Served [[sum2 ls]] late rate := by
  have a1 := sum_bound (·.1) 299 ls fun l h => ⟨(hl l h).1, (hl l h).2.1⟩
  have a2 := sum_bound (·.2) 19 ls fun l h => ⟨(hl l h).2.2.1, (hl l h).2.2.2⟩
  refine ⟨⟨⟨by simp, by simp, fun c hc => ?_⟩, ?_⟩, hla.1, by omega, hr.1, hr.2⟩
  · rw [List.mem_singleton.mp hc]
    refine ⟨by simp, by simp, fun k hk => ?_⟩
    rw [List.mem_singleton.mp hk]
    show 0 ≤ (ls.map (·.1)).sum ∧ (ls.map (·.1)).sum ≤ 1000000 ∧ 0 ≤ (ls.map (·.2)).sum ∧ (ls.map (·.2)).sum ≤ 1000
    omega
  · have e : ([[sum2 ls]].flatMap rawC) = [] := ones_raw [sum2 ls]
    rw [e]; simp
/-- the first two of a paper -/
def two (e : Bool) (b : Int × Int) : PyData := if e = true then .tuple [.str "ever"] else .tuple [.str "most", .int b.1]
theorem two_shaped (e : Bool) (b : Int × Int) : SeqAt.shaped (two e b) = true := by
  unfold two
  cases e with
  | true => exact shaped_ever
  | false =>
    have hs : PyData.canLay0 (.str "most") = true := by decide +kernel
    rw [if_neg Bool.false_ne_true]
    unfold SeqAt.shaped
    simp only [PyData.canLay0, PyData.canLayAll0, PyData.depth, PyData.depthAll] at hs ⊢
    rw [hs]; rfl
theorem two_eqv (e : Bool) (b : Int × Int) : PyData.eqv (two e b) (two e b) = true := by
  unfold two
  cases e with
  | true => exact eqv_ever
  | false => simp [PyData.eqv, PyData.eqvAll]
theorem fp_two {X : Cx} {C : Ct} {z : Zs} {a : Expr} {pos p1 p2 : PySem.Pos} {j : Nat} {e : Bool} {b : Int × Int} (hK : C.K = X.K) (ha : FP X C z a (paper e b)) : FP X C z (.Subscript a (.Slice none (some (.Constant (.int 2) j p1)) none p2) pos) (two e b) := by
  unfold paper at ha
  unfold two
  cases e with
  | true => exact fp_slT hK ha fo_none (fo_some fp_int)
  | false => exact fp_slT hK ha fo_none (fo_some fp_int)
section
variable {P : Program} {w : World} {K : PySem.W.Frag} {mg : Str → Option Value} {base : Heap} {f : Addr} {fd : FuncData}
structure RightTools (P : Program) (w : World) (K : PySem.W.Frag) (mg : Str → Option Value) (base : Heap) : Prop extends LawTools P w K mg base where
  d26 : HasDef P w K mg base "amount" 5 ["curve", "beats"] Wamount
  d28 : HasDef P w K mg base "shortened" 5 ["curve"] Wshort
  d30 : HasDef P w K mg base "over" 5 ["curve", "comes"] Wover
  d31 : HasDef P w K mg base "worst" 5 ["curve", "beats"] Wworst
  d44 : HasDef P w K mg base "_law_curve" 3 ["pot"] WlawCurve
  d46 : HasDef P w K mg base "_law_is_lone_right" 7 ["pot"] Wlone
  d47 : HasDef P w K mg base "_law_is_grown_right" 7 ["pot", "curves", "late", "rate"] Wgrown
  d48 : HasDef P w K mg base "_law_is_rate_right" 9 ["pot", "curves", "late"] WrateRight
  d50 : HasDef P w K mg base "_law_least" 1 ["curve", "beats"] WlawLeast
  d51 : HasDef P w K mg base "_law_sums" 2 ["one", "other", "both"] Wsums
def Wright : WF := fun ds π q => ∃ n : Nat, ds = [.pot] ∧ PB π n ∧ n ≤ 800000 ∧ ∀ π', q (.d (.bool true)) π'
abbrev N49 : List Str := ["pot", "curves", "curve", "late", "rate", "lines", "lone", "line", "whole", "burst", "slow", "one", "other", "rows", "cut", "late_row", "both", "a", "b", "less", "beats"]
theorem sc49 : FnScope N49 ["pot"] (defScope (st 49)) := ⟨rfl, rfl, rfl, by decide +kernel, rfl, by decide +kernel, by decide +kernel⟩
theorem ok49 (F : Fun K "_law_right" "_law_right" (st 49) f fd) (B : Blt mg) (T : RightTools P w K mg base) : FnOk P w K mg base CX0 10 f fd ["pot"] (SpD K Wright) := by
  refine ok_def F sc49 (fun ds π q h => ?_) (fun cdv A outer s H E ds π q C hr hK h => ?_)
  · obtain ⟨n, rfl, _⟩ := h; rfl
  · obtain ⟨n, rfl, pb, hn, h⟩ := h
    refine fs_cons (f1_set 1 sc49.nd rfl (.inl rfl) (fe_tupleOf hK B.tuple (fe_fl (fl_lc rfl sc49.nd (blkOk_by (own := [("curve", 2)]) (N := N49) (sc := defScope (st 49)) (by decide +kernel))
      (lcd_mapN 2 (fun k acc p => ∃ cs : List (List Ln), acc = cs.map encC ∧ cs.length = k ∧ (∀ c ∈ cs, CurveD c) ∧ PB p (n + 1 + 10 * k) ∧ k ≤ 3) sc49.nd (fi_range1 B.range (fe_addD fp_int (fe_take 0 T.d42 hr (by decide) hK rfl fp_int (by decide) (by decide) pb (by omega) fun d π1 d0 d1 pb1 =>
        ⟨d, rfl, 1 + d, rfl, by omega, by omega, rfl, ⟨[], rfl, rfl, by simp, pb1, by omega⟩, fun k x acc p hx hJ => ?_, fun acc p hJ => ?_⟩))))))))
    · obtain ⟨cs, rfl, hlen, hcs, pb2, hk3⟩ := hJ
      have hk : k < (1 + d).toNat := by
        have := (List.getElem?_eq_some_iff.mp hx).1
        simp only [rng, List.length_map, List.length_range] at this
        exact this
      refine ⟨by rw [List.length_map]; omega, fun s H cc cl fp C' hk' hp' => fe_potCall 0 T.d44 hr (by decide) (hk'.trans hK) rfl ⟨n + 1 + 10 * k, rfl, pb2, by omega, fun c π' hc _ pb3 => ⟨encC c, rfl, rfl, cs ++ [c], by simp, by simp [hlen], fun e he => ?_, pb3.mono (by omega), by omega⟩⟩⟩
      rcases List.mem_append.mp he with he | he
      · exact hcs e he
      · rw [List.mem_singleton.mp he]; exact hc
    · obtain ⟨cs, rfl, hlen, hcs, pb2, hk3⟩ := hJ
      have e : (rng 0 (1 + d).toNat).length = (1 + d).toNat := by simp [rng]
      rw [e] at hlen hk3 pb2
      refine ⟨_, .inl rfl, ?_⟩
      have hD : Drawn cs := ⟨by omega, by omega, hcs⟩
      have l2 := hD.l2
      have pb3 := pb2.mono (show n + 1 + 10 * (1 + d).toNat ≤ n + 31 by omega)
      obtain ⟨n1, hn1⟩ : ∃ n1, n1 = n + 31 := ⟨_, rfl⟩
      rw [← hn1] at pb3
      refine fs_cons (f1_par (i := 3) (j := 4) rfl sc49.nd (by decide) (fa_consE (fe_of 0 T.d43 hr (by decide) hK rfl (fe_list (fa_consP fp_int (fa_consP fp_int (fa_consP fp_int (fa_consE (fe_take 0 T.d42 hr (by decide) hK rfl fp_int (by decide) (by decide) pb3 (by omega) fun y π3 y0 y1 pb4 => ?_)))))))))
      refine fa_nil ⟨[.int 0, .int 0, .int 2, .int y], rfl, by rw [sizeLine_eq]; simp, [.int 0, .int 0, .int 2, .int y], n1 + 1, rfl, by simp, by simp, pb4, by omega, fun v hv π4 pb5 => ?_⟩
      refine fa_consE (fe_addD fp_int (fe_take 0 T.d42 hr (by decide) hK rfl fp_int (by decide) (by decide) pb5 (by omega) fun r π5 r0 r1 pb6 => ⟨r, rfl, fa_nil ⟨_, _, rfl, ?_⟩⟩))
      have hv : ∃ late : Int, v = .int late ∧ 0 ≤ late ∧ late ≤ 49 := by
        simp only [List.mem_cons, List.not_mem_nil, or_false] at hv
        rcases hv with rfl | rfl | rfl | rfl
        · exact ⟨0, rfl, by decide, by decide⟩
        · exact ⟨0, rfl, by decide, by decide⟩
        · exact ⟨2, rfl, by decide, by decide⟩
        · exact ⟨y, rfl, y0, by omega⟩
      obtain ⟨late, rfl, l0, l1⟩ := hv
      generalize hrate : 1 + r = rate
      have rr : 1 ≤ rate ∧ rate ≤ 40 := by omega
      refine fs_cons (f1_if (ft_wE (fw_orE (ft_notE (ft_valE (fe_potCall 0 T.d46 hr (by decide) hK rfl ⟨n1 + 1 + 1 + 1, rfl, pb6, by omega, fun π6 pb7 => ⟨true, rfl, fun hf => (by cases hf), fun _ => ?_⟩⟩))))))
      refine fw_or1E (ft_notE (ft_valE (fe_def T.d47 hr (by decide) hK (fa_potE 0 rfl (fa_fpa (fpa_cons (fp_name 1 rfl) (arg2 (fp_name 3 rfl) (fp_name 4 rfl))) ⟨n1 + 1 + 1 + 1 + 10, cs, late, rate, rfl, pb7, by omega, hD, l0, by omega, rr.1, by omega, fun π7 pb8 => ⟨true, rfl, fun hf => (by cases hf), fun _ => fs_nil ?_⟩⟩)))))
      refine fs_cons (f1_if (ft_notE (ft_valE (fe_def T.d48 hr (by decide) hK (fa_potE 0 rfl (fa_fpa (arg2 (fp_name 1 rfl) (fp_name 3 rfl)) ⟨n1 + 1 + 1 + 1 + 10 + 10, cs, late, rfl, pb8, by omega, (hD.served (late := late) (rate := rate) ⟨l0, by omega⟩ ⟨rr.1, by omega⟩).ok, l0, by omega, fun π8 pb9 => ⟨true, rfl, fun hf => (by cases hf), fun _ => fs_nil ?_⟩⟩))))))
      have hlD : ∀ l ∈ cs.map hd1, LnD l := fun l hl => by
        obtain ⟨c, hc, rfl⟩ := List.mem_map.mp hl
        exact (hcs c hc).all _ (hd1_mem (hcs c hc).ok.pos.1)
      have hl1 : 1 ≤ (cs.map hd1).length := by rw [List.length_map]; exact hD.l1
      have hl3 : (cs.map hd1).length ≤ 3 := by rw [List.length_map]; exact hD.l2
      have sv1 := ones_served hl1 hl3 hlD (late := late) (rate := rate) ⟨l0, by omega⟩ ⟨rr.1, by omega⟩
      have sv2 := sum2_served hl3 hlD (late := late) (rate := rate) ⟨l0, by omega⟩ ⟨rr.1, by omega⟩
      refine fs_cons (f1_setLcP 5 rfl sc49.nd (blkOk_by (own := [("curve", 2)]) (N := N49) (sc := defScope (st 49)) (by decide +kernel))
        (lcp_mapN 2 cs encC (fun c => encL (hd1 c)) sc49.nd (fip_tup hK (fp_name 1 rfl)) (by omega) rfl fun c hc s H cc cl fp C' hk hp => fp_ixT (hk.trans hK) (fp_name 2 rfl) fp_int (atI_hd1 (hcs c hc).ok.pos.1)) ?_)
      refine fs_cons (f1_setP 6 sc49.nd (d := encCs (ones (cs.map hd1))) (fp_is (fp_tupleL hK B.tuple (fp_of rfl sc49.nd (blkOk_by (own := [("line", 7)]) (N := N49) (sc := defScope (st 49)) (by decide +kernel))
        (lcp_mapN 7 cs (fun c => encL (hd1 c)) (fun c => encC [hd1 c]) sc49.nd (fip_list hK (fp_name 5 rfl)) (by omega) rfl fun c hc s H cc cl fp C' hk hp => fp_tuple (xs := [encL (hd1 c)]) (arg1 (fp_name 7 rfl))))) (by unfold encCs ones; rw [List.map_map, List.map_map]; rfl)) ?_)
      refine fs_cons (f1_setP 8 sc49.nd (d := encCs [[sum2 (cs.map hd1)]]) (fp_is (fp_tuple (arg1 (fp_tuple (arg1 (fp_tuple (arg2
        (fp_sum (ns := cs.map fun c => (hd1 c).1) hK rfl B.sum (fp_is (fp_of rfl sc49.nd (blkOk_by (own := [("burst", 9), ("slow", 10)]) (N := N49) (sc := defScope (st 49)) (by decide +kernel))
          (lcp_mapT 9 10 cs (fun c => .int (hd1 c).1) (fun c => .int (hd1 c).2) (fun c => .int (hd1 c).1) rfl hK sc49.nd (fip_is (fip_list hK (fp_name 5 rfl)) rfl) (by omega) rfl fun c hc s H cc cl fp C' hk hp => fp_name 9 rfl)) (by rw [List.map_map]; rfl)))
        (fp_sum (ns := cs.map fun c => (hd1 c).2) hK rfl B.sum (fp_is (fp_of rfl sc49.nd (blkOk_by (own := [("burst", 9), ("slow", 10)]) (N := N49) (sc := defScope (st 49)) (by decide +kernel))
          (lcp_mapT 9 10 cs (fun c => .int (hd1 c).1) (fun c => .int (hd1 c).2) (fun c => .int (hd1 c).2) rfl hK sc49.nd (fip_is (fip_list hK (fp_name 5 rfl)) rfl) (by omega) rfl fun c hc s H cc cl fp C' hk hp => fp_name 10 rfl)) (by rw [List.map_map]; rfl)))))))))
        (by unfold sum2; rw [List.map_map, List.map_map]; rfl)) ?_)
      generalize cs.map hd1 = ls at sv1 sv2 ⊢
      refine fs_if_no (fpt_is (ft_neD hr hK (fp_two (e := ever (ones ls) rate) (b := bW (ones ls) late rate) hK (fp_def T.d36 hr (by decide) hK (fpa_cons (fp_name 6 rfl) (arg2 (fp_name 3 rfl) (fp_name 4 rfl))) fun π q k => ⟨ones ls, late, rate, rfl, sv1, k⟩))
        (fp_two (e := ever (ones ls) rate) (b := bW (ones ls) late rate) hK (fp_is (fp_def T.d36 hr (by decide) hK (fpa_cons (fp_name 8 rfl) (arg2 (fp_name 3 rfl) (fp_name 4 rfl))) fun π q k => ⟨[[sum2 ls]], late, rate, rfl, sv2, k⟩) (ones_W ls late rate).symm)) (two_shaped _ _) (two_shaped _ _)) (by rw [two_eqv]; rfl)) rfl ?_
      refine fs_if_no (fpt_is (ft_neD hr hK (fp_two (e := ever (ones ls) rate) (b := bL (ones ls) late rate) hK (fp_def T.d37 hr (by decide) hK (fpa_cons (fp_name 6 rfl) (arg2 (fp_name 3 rfl) (fp_name 4 rfl))) fun π q k => ⟨ones ls, late, rate, rfl, sv1, k⟩))
        (fp_two (e := ever (ones ls) rate) (b := bL (ones ls) late rate) hK (fp_is (fp_def T.d37 hr (by decide) hK (fpa_cons (fp_name 8 rfl) (arg2 (fp_name 3 rfl) (fp_name 4 rfl))) fun π q k => ⟨[[sum2 ls]], late, rate, rfl, sv2, k⟩) (ones_L ls late rate).symm)) (two_shaped _ _) (two_shaped _ _)) (by rw [two_eqv]; rfl)) rfl ?_
      obtain ⟨c1, hc1, ec1⟩ := first_of hD.l1
      obtain ⟨c2, hc2, ec2⟩ := last_of hD.l1
      have hc1 := hcs c1 hc1
      have hc2 := hcs c2 hc2
      refine fs_cons (f1_asg [11, 12] (fe_fp (d := .tuple [encC c1, encC c2]) (fp_tuple (xs := [encC c1, encC c2]) (arg2 (fp_ixT hK (fp_name 1 rfl) fp_int ec1) (fp_ixT hK (fp_name 1 rfl) (fp_neg fp_int) ec2))) ⟨_, rfl, ?_⟩))
      refine fg_tup rfl hK (fgs_cons (fg_name 11 sc49.nd rfl (.inr rfl) (fgs_cons (fg_name 12 sc49.nd rfl (.inl rfl) (fgs_nil ?_) (by simp) (.inl rfl))) (by simp) (.inl rfl))) rfl rfl
      refine fs_cons (f1_setP 13 sc49.nd (d := .list [.tuple ((worstF c1 30).map .int), .tuple ((worstF c2 30).map .int)]) (fp_fl (flp_list (arg2 (fp_def T.d31 hr (by decide) hK (arg2 (fp_name 11 rfl) fp_int) fun π q k => ⟨c1, 30, rfl, hc1.ok, by decide, k⟩) (fp_def T.d31 hr (by decide) hK (arg2 (fp_name 12 rfl) fp_int) fun π q k => ⟨c2, 30, rfl, hc2.ok, by decide, k⟩)))) ?_)
      refine fs_cons (f1_set 14 sc49.nd rfl (.inl rfl) (fe_take 0 T.d42 hr (by decide) hK rfl fp_int (by decide) (by decide) pb9 (by omega) fun cutI π9 u0 u1 pb10 => ?_))
      obtain ⟨cut, rfl⟩ : ∃ cut : Nat, cutI = cut := ⟨cutI.toNat, by omega⟩
      have hcut : cut ≤ 30 := by omega
      refine fs_cons (f1_setP 15 sc49.nd (d := .tuple ((lateRow c2 cut).map .int)) (fp_is (fp_catT hK (fp_repT hK (fp_tuple (arg1 fp_int)) (fp_name 14 rfl) (by simp) (by omega) (by omega) (by simp)) (fp_is (fp_slT hK (fp_ixL hK (fp_name 13 rfl) fp_int rfl) fo_none (fo_some (fp_is (fp_sub fp_int (fp_name 14 rfl)) (show _ = PyData.int ((30 - cut : Nat) : Int) by congr 1; omega)))) (by rw [cutD_to])) ?_) ?_) ?_)
      · rw [Int.toNat_natCast, rep_flat, List.length_map, List.length_replicate, List.length_take, List.length_map, worst_len]; omega
      · rw [Int.toNat_natCast, rep_flat, ← List.map_take, ← List.map_append]; rfl
      · refine fs_cons (f1_setP 16 sc49.nd (d := .tuple ((bothF (worstF c1 30) (lateRow c2 cut)).map .int)) (fp_is (fp_tupleL hK B.tuple (fp_of rfl sc49.nd (blkOk_by (own := [("a", 17), ("b", 18)]) (N := N49) (sc := defScope (st 49)) (by decide +kernel))
          (lcp_mapT 17 18 ((worstF c1 30).zip (lateRow c2 cut)) (fun q => .int q.1) (fun q => .int q.2) (fun q => .int (q.1 + q.2)) rfl hK sc49.nd (fip_is (fip_zipT hK B.zip (fp_ixL hK (fp_name 13 rfl) fp_int rfl) (fp_name 15 rfl)) (zip_ints _ _)) (by rw [List.length_zip, worst_len]; omega) rfl fun q hq s H cc cl fp C' hk hp => fp_add (fp_name 17 rfl) (fp_name 18 rfl)))) (by unfold bothF; rw [List.map_map]; rfl)) ?_)
        have hbl : (bothF (worstF c1 30) (lateRow c2 cut)).length = 30 := by rw [both_len (by rw [worst_len, lateRow_len c2 hcut]), worst_len]
        have hne := sums_ne c1 c2 (bs := bothF (worstF c1 30) (lateRow c2 cut)) (by omega)
        have hmx := max_le hne (sums_le hc1 hc2 hcut)
        refine fs_if_no (ft_w (fw_or (p := false) (q := false) (fpt_is (ft_gt (fp_maxL (ns := sumsF c1 c2 (bothF (worstF c1 30) (lateRow c2 cut))) hK rfl B.max (fp_def T.d51 hr (by decide) hK (fpa_cons (fp_name 11 rfl) (arg2 (fp_name 12 rfl) (fp_name 16 rfl))) fun π q k => ⟨c1, c2, _, rfl, hc1.ok, hc2.ok, by omega, k⟩) hne) fp_int) (decide_eq_false (by omega))) fun _ =>
          fw_or (p := false) (q := false) (fpt_is (ft_notN (x := .none) (fp_def T.d30 hr (by decide) hK (arg2 (fp_name 11 rfl) (fp_ixL hK (fp_name 13 rfl) fp_int rfl)) fun π q k => ⟨c1, worstF c1 30, rfl, hc1.ok, fits_worst hc1, k⟩)) rfl) fun _ =>
          fw_or1 (fpt_is (ft_notN (x := .none) (fp_def T.d30 hr (by decide) hK (arg2 (fp_name 12 rfl) (fp_name 15 rfl)) fun π q k => ⟨c2, lateRow c2 cut, rfl, hc2.ok, fits_late hc2 hcut, k⟩)) rfl))) rfl ?_
        refine fs_cons (f1_setP 19 sc49.nd (d := encC (shortL c1)) (fp_def T.d28 hr (by decide) hK (arg1 (fp_name 11 rfl)) fun π q k => ⟨c1, rfl, hc1.ok, Nat.le_trans (rawC_len c1) (Nat.le_trans (T3_mono hc1.l2) (by decide)), k⟩) ?_)
        refine fs_one (f1_retP (fp_is (fp_all (bs := [0, 1, 2, 7, 40, 999].map fun (_ : Int) => true) hK rfl B.all (fp_is (fp_of rfl sc49.nd (blkOk_by (own := [("beats", 20)]) (N := N49) (sc := defScope (st 49)) (by decide +kernel))
          (lcp_mapN 20 [(0 : Int), 1, 2, 7, 40, 999] .int (fun _ => .bool true) sc49.nd (fip_is (fip_tup hK (fp_tuple (fpa_cons fp_int (fpa_cons fp_int (fpa_cons fp_int (fpa_cons fp_int (arg2 fp_int fp_int))))))) rfl) (by simp) rfl fun t ht s H cc cl fp C' hk hp => ?_)) (by rw [List.map_map]; rfl))) (by rw [all_true])) (h _))
        have htb : 0 ≤ t ∧ t ≤ 10000000000 := by
          simp only [List.mem_cons, List.not_mem_nil, or_false] at ht
          rcases ht with rfl | rfl | rfl | rfl | rfl | rfl <;> decide
        exact fp_is (fp_eqEq (fp_def T.d26 hr (by decide) (hk.trans hK) (arg2 (fp_name 19 rfl) (fp_name 20 rfl)) fun π q k => ⟨shortL c1, t, rfl, short_ok hc1.ok, htb.1, htb.2, k⟩) (fp_def T.d26 hr (by decide) (hk.trans hK) (arg2 (fp_name 11 rfl) (fp_name 20 rfl)) fun π q k => ⟨c1, t, rfl, hc1.ok, htb.1, htb.2, k⟩) (fp_def T.d50 hr (by decide) (hk.trans hK) (arg2 (fp_name 11 rfl) (fp_name 20 rfl)) fun π q k => ⟨c1, t, rfl, hc1.ok, k⟩)) (by rw [decide_eq_true (short_amt hc1.ok t), decide_eq_true rfl]; rfl)
end
end K28

set_option Elab.async false
set_option linter.all false
set_option maxRecDepth 100000
set_option maxHeartbeats 4000000
set_option autoImplicit false
namespace K28
open PySem PySem.Spec PyProof.Rows L2 DL
section
variable {P : Program} {w : World} {K : PySem.W.Frag} {mg : Str → Option Value} {base : Heap} {f : Addr} {fd : FuncData}
def Wlaw : WF := fun ds π q => ∃ ns : List Int, ds = [.d (.list (ns.map .int))] ∧ ns.length ≤ 63 ∧ q (.d (.bool true)) π
abbrev N52 : List Str := ["script", "place"]
theorem sc52 : FnScope N52 ["script"] (defScope (st 52)) := ⟨rfl, rfl, rfl, by decide +kernel, rfl, by decide +kernel, by decide +kernel⟩
theorem ok52 (F : Fun K "law" "law" (st 52) f fd) (B : Blt mg) (D41 : HasDefL P w K mg base "_law_pot" 1 ["script", "place"] Wpot) (D49 : HasDef P w K mg base "_law_right" 10 ["pot"] Wright) : FnOk P w K mg base CX0 11 f fd ["script"] (SpD K Wlaw) := by
  refine ok_def F sc52 (fun ds π q h => ?_) (fun cdv A outer s H E ds π q C hr hK h => ?_)
  · obtain ⟨ns, rfl, _⟩ := h; rfl
  · obtain ⟨ns, rfl, hl, h⟩ := h
    have b1 : max (1 : Int) (min 3 ((ns.map PyData.int).length : Int)) ≤ 3 := by omega
    have b2 : 1 ≤ max (1 : Int) (min 3 ((ns.map PyData.int).length : Int)) := by omega
    obtain ⟨n, hn⟩ : ∃ n : Nat, max (1 : Int) (min 3 ((ns.map PyData.int).length : Int)) = n := ⟨(max (1 : Int) (min 3 ((ns.map PyData.int).length : Int))).toNat, by omega⟩
    refine fs_one (f1_retP (fp_is (fp_all (bs := (List.range n).map fun _ => true) hK rfl B.all (fp_is (fp_of rfl sc52.nd (blkOk_by (own := [("place", 1)]) (N := N52) (sc := defScope (st 52)) (by decide +kernel))
      (lcp_mapN 1 (List.range n) (fun i => .int (0 + (i : Nat))) (fun _ => .bool true) sc52.nd (fip_is (fip_range1 B.range (fp_max2 rfl B.max fp_int (fp_min2 rfl B.min fp_int (fp_lenL hK B.len (fp_name 0 rfl)))) (by omega) (by omega)) (by rw [hn, Int.toNat_natCast]; rfl)) (by rw [List.length_range]; omega) rfl fun i hi s H cc cl fp C' hk hp => ?_)) (by rw [List.map_map]; rfl))) (by rw [all_true])) h)
    have hi := List.mem_range.mp hi
    have e0 : (0 : Int) + (i : Nat) = (i : Int) := by omega
    rw [e0]
    exact fp_freshPot D41 D49 hr (by decide) (by decide) (hk.trans hK) (arg2 (fp_name 0 rfl) (fp_name 1 rfl)) ⟨ns, i, rfl, hl, by omega, fun a b c pb => ⟨a, b, c, rfl, 0, rfl, pb, by decide, fun π' => rfl⟩⟩
/-! ### what the top has written -/
def IsDef (K : PySem.W.Frag) (x : Str) (st : Stmt) : Prop := ∃ (f : Addr) (fd : FuncData), Fun K x x st f fd ∧ PySem.W.nsIn K mainGlobals x = some (some (.ref f))
theorem mk_def {x : Str} {st : Stmt} {f : Addr} {od an : Option Addr} {sl : Array (Option Value)} {oc kV dc pm cd ct : Value} (a : PySem.W.nsIn K mainGlobals x = some (some (.ref f)))
    (l : K.lookup f = some ⟨oc, od, .func (PySem.W.fnOf x x (defArgs st) (defBody st) (defScope st) .none kV dc pm an cd ct), sl⟩) (c : PySem.W.codeIn K cd x = true) (k : PySem.W.keepIn K (.ref f) = true) : IsDef K x st := ⟨f, _, fun_mk l c k, a⟩
def IsDefC (K : PySem.W.Frag) (x : Str) (st : Stmt) (ca : Addr) : Prop := ∃ (f : Addr) (fd : FuncData), Fun K x x st f fd ∧ PySem.W.nsIn K mainGlobals x = some (some (.ref f)) ∧ fd.code = .ref ca
theorem mk_defC {x : Str} {st : Stmt} {f ca : Addr} {od an : Option Addr} {sl : Array (Option Value)} {oc kV dc pm ct : Value} (a : PySem.W.nsIn K mainGlobals x = some (some (.ref f)))
    (l : K.lookup f = some ⟨oc, od, .func (PySem.W.fnOf x x (defArgs st) (defBody st) (defScope st) .none kV dc pm an (.ref ca) ct), sl⟩) (c : PySem.W.codeIn K (.ref ca) x = true) (k : PySem.W.keepIn K (.ref f) = true) : IsDefC K x st ca := ⟨f, _, fun_mk l c k, a, rfl⟩
theorem has_def {h : Heap} {x : Str} {st : Stmt} {k : Nat} {ps : List Str} {W : WF} (X : K.In h) (G : h.Ns mainGlobals mg) (D : IsDef K x st) (ok : ∀ f fd, Fun K x x st f fd → FnOk P w K mg base CX0 k f fd ps (SpD K W))
    (b : ∀ (kV doc pm : Value) (an : Option Addr) (cdv ct : Value) (us : List Value), us.length = ps.length → bindArgs (PySem.W.fnOf x x (defArgs st) (defBody st) (defScope st) .none kV doc pm an cdv ct) ⟨us, []⟩ = pure (ps.zip us)) : HasDef P w K mg base x k ps W := by
  obtain ⟨f, fd, F, a⟩ := D
  exact ⟨f, fd, ok f fd F, PySem.W.mg_of X G a, F.kp, F.binds b⟩
theorem has_defL {h : Heap} {x : Str} {st : Stmt} {k : Nat} {ps : List Str} {W : List DV → (List PyData → Prop) → Prop} (X : K.In h) (G : h.Ns mainGlobals mg) (D : IsDef K x st) (ok : ∀ f fd, Fun K x x st f fd → FnOk P w K mg base CX0 k f fd ps (SpL K W))
    (b : ∀ (kV doc pm : Value) (an : Option Addr) (cdv ct : Value) (us : List Value), us.length = ps.length → bindArgs (PySem.W.fnOf x x (defArgs st) (defBody st) (defScope st) .none kV doc pm an cdv ct) ⟨us, []⟩ = pure (ps.zip us)) : HasDefL P w K mg base x k ps W := by
  obtain ⟨f, fd, F, a⟩ := D
  exact ⟨f, fd, ok f fd F, PySem.W.mg_of X G a, F.kp, F.binds b⟩
structure Defs (K : PySem.W.Frag) (ca : Addr) : Prop where
  d1 : IsDef K "is_tuple" (st 1)
  d2 : IsDef K "is_whole" (st 2)
  d3 : IsDef K "is_integer" (st 3)
  d22 : IsDef K "is_curve" (st 22)
  d23 : IsDef K "check_curve" (st 23)
  d24 : IsDef K "check_curves" (st 24)
  d25 : IsDef K "amount_of" (st 25)
  d26 : IsDef K "amount" (st 26)
  d27 : IsDefC K "least_lines" (st 27) ca
  d28 : IsDef K "shortened" (st 28)
  d29 : IsDef K "turns_of" (st 29)
  d30 : IsDef K "over" (st 30)
  d31 : IsDef K "worst" (st 31)
  d32 : IsDef K "check_served" (st 32)
  d33 : IsDef K "is_ever" (st 33)
  d34 : IsDef K "looked_at" (st 34)
  d35 : IsDef K "coming" (st 35)
  d36 : IsDef K "most_waiting" (st 36)
  d37 : IsDef K "most_late" (st 37)
  d38 : IsDef K "least_rate" (st 38)
  d39 : IsDef K "is_within" (st 39)
  d41 : IsDef K "_law_pot" (st 41)
  d42 : IsDef K "_law_take" (st 42)
  d43 : IsDef K "_law_of" (st 43)
  d44 : IsDef K "_law_curve" (st 44)
  d45 : IsDef K "_law_is_at_most" (st 45)
  d46 : IsDef K "_law_is_lone_right" (st 46)
  d47 : IsDef K "_law_is_grown_right" (st 47)
  d48 : IsDef K "_law_is_rate_right" (st 48)
  d49 : IsDef K "_law_right" (st 49)
  d50 : IsDef K "_law_least" (st 50)
  d51 : IsDef K "_law_sums" (st 51)
  d52 : IsDef K "law" (st 52)
theorem the_law {h : Heap} {ca T : Addr} (X : K.In h) (G : h.Ns mainGlobals mg) (D : Defs K ca) (B : Blt mg) (C : Cst mg) (TB : LamX.TabB base mg ca T) (hT : tabs = [(T, Str.ofString "least_lines.<locals>.<lambda>")]) (F : Fun K "law" "law" (st 52) f fd) :
    FnOk P w K mg base CX0 11 f fd ["script"] (SpD K Wlaw) := by
  have h1 : DisTuple P w K mg base := has_def X G D.d1 (fun f fd F => ok1 F B) fun _ _ _ _ _ _ us hl => match us, hl with | [_, _, _], _ => rfl
  have h2 : HasDef P w K mg base "is_whole" 1 ["value"] WisWhole := has_def X G D.d2 (fun f fd F => ok2 F B) fun _ _ _ _ _ _ us hl => match us, hl with | [_], _ => rfl
  have h3 : DisInteger P w K mg base := has_def X G D.d3 (fun f fd F => ok3 F h2) fun _ _ _ _ _ _ us hl => match us, hl with | [_, _, _], _ => rfl
  have h22 : HasDef P w K mg base "is_curve" 3 ["value"] WisCurve := has_def X G D.d22 (fun f fd F => ok22 F B C h1 h3) fun _ _ _ _ _ _ us hl => match us, hl with | [_], _ => rfl
  have h23 : HasDef P w K mg base "check_curve" 4 ["value"] WckCurve := has_def X G D.d23 (fun f fd F => ok23 F h22) fun _ _ _ _ _ _ us hl => match us, hl with | [_], _ => rfl
  have h24 : HasDef P w K mg base "check_curves" 4 ["value"] WckCurves := has_def X G D.d24 (fun f fd F => ok24 F B C h1 h22) fun _ _ _ _ _ _ us hl => match us, hl with | [_], _ => rfl
  have h25 : HasDef P w K mg base "amount_of" 1 ["curve", "beats"] WamtOf := has_def X G D.d25 (fun f fd F => ok25 F B) fun _ _ _ _ _ _ us hl => match us, hl with | [_, _], _ => rfl
  have h26 : HasDef P w K mg base "amount" 5 ["curve", "beats"] Wamount := has_def X G D.d26 (fun f fd F => ok26 F B C h3 h23 h25) fun _ _ _ _ _ _ us hl => match us, hl with | [_, _], _ => rfl
  have h29 : HasDef P w K mg base "turns_of" 1 ["curves"] WturnsOf := has_def X G D.d29 (fun f fd F => ok29 F B) fun _ _ _ _ _ _ us hl => match us, hl with | [_], _ => rfl
  have h27 : HasDef P w K mg base "least_lines" 4 ["curve"] WleastLines := by
    obtain ⟨f, fd, F, a, hc⟩ := D.d27
    exact ⟨f, fd, ok27 F B C h29 TB hc hT, PySem.W.mg_of X G a, F.kp, F.binds fun _ _ _ _ _ _ us hl => match us, hl with | [_], _ => rfl⟩
  have h28 : HasDef P w K mg base "shortened" 5 ["curve"] Wshort := has_def X G D.d28 (fun f fd F => ok28 F B h23 h27) fun _ _ _ _ _ _ us hl => match us, hl with | [_], _ => rfl
  have h30 : HasDef P w K mg base "over" 5 ["curve", "comes"] Wover := has_def X G D.d30 (fun f fd F => ok30 F B C h1 h3 h23 h25) fun _ _ _ _ _ _ us hl => match us, hl with | [_, _], _ => rfl
  have h31 : HasDef P w K mg base "worst" 5 ["curve", "beats"] Wworst := has_def X G D.d31 (fun f fd F => ok31 F B C h3 h23 h25) fun _ _ _ _ _ _ us hl => match us, hl with | [_, _], _ => rfl
  have h32 : HasDef P w K mg base "check_served" 5 ["curves", "late", "rate"] WckServed := has_def X G D.d32 (fun f fd F => ok32 F B C h3 h24) fun _ _ _ _ _ _ us hl => match us, hl with | [_, _, _], _ => rfl
  have h33 : HasDef P w K mg base "is_ever" 1 ["curves", "rate"] WisEver := has_def X G D.d33 (fun f fd F => ok33 F B) fun _ _ _ _ _ _ us hl => match us, hl with | [_, _], _ => rfl
  have h34 : HasDef P w K mg base "looked_at" 2 ["curves", "late"] Wlooked := has_def X G D.d34 (fun f fd F => ok34 F B h29) fun _ _ _ _ _ _ us hl => match us, hl with | [_, _], _ => rfl
  have h35 : HasDef P w K mg base "coming" 2 ["curves", "beats"] Wcoming := has_def X G D.d35 (fun f fd F => ok35 F B h25) fun _ _ _ _ _ _ us hl => match us, hl with | [_, _], _ => rfl
  have TT : Tools P w K mg base := ⟨h3, h24, h32, h33, h34, h35⟩
  have h36 : HasDef P w K mg base "most_waiting" 6 ["curves", "late", "rate"] (Wmost mostW) := has_def X G D.d36 (fun f fd F => ok36 F B C TT) fun _ _ _ _ _ _ us hl => match us, hl with | [_, _, _], _ => rfl
  have h37 : HasDef P w K mg base "most_late" 6 ["curves", "late", "rate"] (Wmost mostL) := has_def X G D.d37 (fun f fd F => ok37 F B C TT) fun _ _ _ _ _ _ us hl => match us, hl with | [_, _, _], _ => rfl
  have h39 : HasDef P w K mg base "is_within" 7 ["curves", "late", "rate", "waiting"] Wwithin := has_def X G D.d39 (fun f fd F => ok39 F C h36) fun _ _ _ _ _ _ us hl => match us, hl with | [_, _, _, _], _ => rfl
  have h38 : HasDef P w K mg base "least_rate" 8 ["curves", "late", "waiting"] WleastRate := has_def X G D.d38 (fun f fd F => ok38 F B C TT h39) fun _ _ _ _ _ _ us hl => match us, hl with | [_, _, _], _ => rfl
  have h41 : HasDefL P w K mg base "_law_pot" 1 ["script", "place"] Wpot := has_defL X G D.d41 (fun f fd F => ok41 F B) fun _ _ _ _ _ _ us hl => match us, hl with | [_, _], _ => rfl
  have h42 : HasDef P w K mg base "_law_take" 1 ["pot", "upto"] Wtake := has_def X G D.d42 (fun f fd F => ok42 F B) fun _ _ _ _ _ _ us hl => match us, hl with | [_, _], _ => rfl
  have h43 : HasDef P w K mg base "_law_of" 2 ["pot", "some"] Wof := has_def X G D.d43 (fun f fd F => ok43 F B h42) fun _ _ _ _ _ _ us hl => match us, hl with | [_, _], _ => rfl
  have h44 : HasDef P w K mg base "_law_curve" 3 ["pot"] WlawCurve := has_def X G D.d44 (fun f fd F => ok44 F B h42 h43) fun _ _ _ _ _ _ us hl => match us, hl with | [_], _ => rfl
  have h45 : HasDef P w K mg base "_law_is_at_most" 1 ["one", "other"] WatMost := has_def X G D.d45 (fun f fd F => ok45 F) fun _ _ _ _ _ _ us hl => match us, hl with | [_, _], _ => rfl
  have LT : LawTools P w K mg base := ⟨h36, h37, h38, h42, h43, h45⟩
  have h46 : HasDef P w K mg base "_law_is_lone_right" 7 ["pot"] Wlone := has_def X G D.d46 (fun f fd F => ok46 F B LT) fun _ _ _ _ _ _ us hl => match us, hl with | [_], _ => rfl
  have h47 : HasDef P w K mg base "_law_is_grown_right" 7 ["pot", "curves", "late", "rate"] Wgrown := has_def X G D.d47 (fun f fd F => ok47 F B LT) fun _ _ _ _ _ _ us hl => match us, hl with | [_, _, _, _], _ => rfl
  have h48 : HasDef P w K mg base "_law_is_rate_right" 9 ["pot", "curves", "late"] WrateRight := has_def X G D.d48 (fun f fd F => ok48 F B LT) fun _ _ _ _ _ _ us hl => match us, hl with | [_, _, _], _ => rfl
  have h50 : HasDef P w K mg base "_law_least" 1 ["curve", "beats"] WlawLeast := has_def X G D.d50 (fun f fd F => ok50 F B) fun _ _ _ _ _ _ us hl => match us, hl with | [_, _], _ => rfl
  have h51 : HasDef P w K mg base "_law_sums" 2 ["one", "other", "both"] Wsums := has_def X G D.d51 (fun f fd F => ok51 F B h50) fun _ _ _ _ _ _ us hl => match us, hl with | [_, _, _], _ => rfl
  have RT : RightTools P w K mg base := { LT with d26 := h26, d28 := h28, d30 := h30, d31 := h31, d44 := h44, d46 := h46, d47 := h47, d48 := h48, d50 := h50, d51 := h51 }
  have h49 : HasDef P w K mg base "_law_right" 10 ["pot"] Wright := has_def X G D.d49 (fun f fd F => ok49 F B RT) fun _ _ _ _ _ _ us hl => match us, hl with | [_], _ => rfl
  exact ok52 F B h41 h49
/-- the law's promise, from a heap in which the script and the empty tables stand -/
theorem law_sp {H : Hp} {a : Addr} {ns : List Int} (hl : ns.length ≤ 63) (hT : ∀ p ∈ tabs, H p.1 = some (.tbl #[])) (hs : SqL K H a (ns.map V.int)) : SpD K Wlaw [.ref a] H (fun v _ => v = .bl true) fun _ _ _ => False := by
  have main : ∀ F : Hp, Sub F H → SqL K F a (ns.map V.int) → (∀ p ∈ tabs, F p.1 = none) → (∀ b ps, F b ≠ some (.tbl ps)) → SpD K Wlaw [.ref a] H (fun v _ => v = .bl true) fun _ _ _ => False := fun F sF sq hF hf =>
    ⟨none, F, ⟨0, 0, 0⟩, [.d (.list (ns.map .int))], fun d _ => d = .d (.bool true), ⟨ns, rfl, hl, rfl⟩, sF, .cons (.lst sq (of_ints ns)) .nil, fun p e => (by cases e), ⟨fun p hp => ⟨LamX.TabS.nil (hT p hp), hF p hp⟩, hf⟩, fun v d π' H' F' e _ _ _ _ _ _ rv => by
      subst e
      exact dp_bool rv⟩
  rcases hs with hs | hs
  · refine main (fun b => if b = a then H a else none) (fun b o e => ?_) (.inl ?_) (fun p hp => ?_) (fun b ps e => ?_)
    · have e : (if b = a then H a else none) = some o := e
      split at e
      · rename_i q; rw [q]; exact e
      · cases e
    · rcases hs with hs | ⟨o, hs⟩
      · exact .inl ((if_pos rfl).trans hs)
      · exact .inr ⟨o, (if_pos rfl).trans hs⟩
    · refine if_neg fun q => ?_
      have h1 := hT p hp
      rw [q] at h1
      rcases hs with hs | ⟨o, hs⟩ <;> rw [h1] at hs <;> cases hs
    · have e : (if b = a then H a else none) = some (.tbl ps) := e
      split at e
      · rcases hs with hs | ⟨o, hs⟩ <;> rw [e] at hs <;> cases hs
      · cases e
  · exact main (fun _ => none) (fun b o e => by cases e) (.inr hs) (fun p hp => rfl) fun b ps e => by cases e
end
structure BltK (K : PySem.W.Frag) : Prop where
  isinstance : PySem.W.nsIn K mainGlobals "isinstance" = some none
  tuple : PySem.W.nsIn K mainGlobals "tuple" = some none
  int : PySem.W.nsIn K mainGlobals "int" = some none
  bool : PySem.W.nsIn K mainGlobals "bool" = some none
  len : PySem.W.nsIn K mainGlobals "len" = some none
  all : PySem.W.nsIn K mainGlobals "all" = some none
  min : PySem.W.nsIn K mainGlobals "min" = some none
  max : PySem.W.nsIn K mainGlobals "max" = some none
  sum : PySem.W.nsIn K mainGlobals "sum" = some none
  range : PySem.W.nsIn K mainGlobals "range" = some none
  sorted : PySem.W.nsIn K mainGlobals "sorted" = some none
  set : PySem.W.nsIn K mainGlobals "set" = some none
  abs : PySem.W.nsIn K mainGlobals "abs" = some none
  zip : PySem.W.nsIn K mainGlobals "zip" = some none
  list : PySem.W.nsIn K mainGlobals "list" = some none
def IntIs (K : PySem.W.Frag) (x : Str) (i : Int) : Prop := ∃ t, PySem.W.nsIn K mainGlobals x = some (some (.int i t))
def StrIs (K : PySem.W.Frag) (x : Str) (i : Str) : Prop := ∃ t, PySem.W.nsIn K mainGlobals x = some (some (.str i t))
structure CstK (K : PySem.W.Frag) : Prop where
  mostLines : IntIs K "MOST_LINES" 6
  mostCurves : IntIs K "MOST_CURVES" 6
  mostBurst : IntIs K "MOST_BURST" 1000000
  mostRate : IntIs K "MOST_RATE" 1000
  mostLate : IntIs K "MOST_LATE" 1000000
  mostBeats : IntIs K "MOST_BEATS" 10000000000
  mostComing : IntIs K "MOST_COMING" 200
  mostMuch : IntIs K "MOST_MUCH" 2000000
  pair : IntIs K "PAIR" 2
  most : StrIs K "MOST" "most"
  ever : StrIs K "EVER" "ever"
theorem law_at {l : PySem.W.OpenLaw} {w : World} {K : PySem.W.Frag} {mg : Str → Option Value} {fa ca T : Addr} {h : Heap} (X : K.In h) (G : h.Ns mainGlobals mg) (hfa : mg "law" = some (.ref fa)) (D : Defs K ca) (B : BltK K) (C : Cst mg)
    (hT : h.get? T = some { cls := .none, data := .fields #[] }) (nT : K.lookup T = none) (hC : PySem.W.codeHdIn K ca T = true) (tb : tabs = [(T, Str.ofString "least_lines.<locals>.<lambda>")]) : LamX.LawAtS l w K L2.CX0 11 63 "script" mg fa h := by
  obtain ⟨f, fd, F, a⟩ := D.d52
  have e := hfa.symm.trans (PySem.W.mg_of X G a)
  cases e
  have hB : Blt mg := ⟨PySem.W.mg_none_of X G B.isinstance, PySem.W.mg_none_of X G B.tuple, PySem.W.mg_none_of X G B.int, PySem.W.mg_none_of X G B.bool, PySem.W.mg_none_of X G B.len, PySem.W.mg_none_of X G B.all, PySem.W.mg_none_of X G B.min, PySem.W.mg_none_of X G B.max, PySem.W.mg_none_of X G B.sum, PySem.W.mg_none_of X G B.range, PySem.W.mg_none_of X G B.sorted, PySem.W.mg_none_of X G B.set, PySem.W.mg_none_of X G B.abs, PySem.W.mg_none_of X G B.zip, PySem.W.mg_none_of X G B.list⟩
  refine ⟨fd, [(ca, T)], SpD K Wlaw, fun p hp => ?_, fun p hp => ?_, fun p hp => ?_, fun s u => ?_, fun H b ns hl _ hH hS => ?_, fun base _ _ hTB => ?_⟩
  · rw [List.mem_singleton.mp hp]; exact hT
  · rw [List.mem_singleton.mp hp]; exact nT
  · rw [List.mem_singleton.mp hp]; exact PySem.W.codeHd_of_K X hC
  · obtain ⟨oc, od, kV, doc, pm, an, cdv, ct, osl, e, _, _⟩ := F.ex
    subst e
    exact .of_eq rfl
  · refine law_sp hl (fun p hp => ?_) hS
    rw [tb] at hp
    rw [List.mem_singleton.mp hp]
    exact hH (ca, T) (List.mem_singleton.mpr rfl)
  · exact the_law X G D hB C (hTB (ca, T) (List.mem_singleton.mpr rfl)) tb F
end K28

set_option Elab.async false
set_option linter.all false
set_option maxRecDepth 100000
set_option autoImplicit false
open PySem PySem.W PyProof.Rows
set_option maxHeartbeats 0 in
theorem PySem.Challenge.cw_mountedintime_k28_whole_bounds_added_and_holds : PySem.Challenge.rw_mountedintime_k28_whole_bounds_added_and.Holds := by
  w_on; o_law; k_head; (case hw => w_witness2)
  k_fill
  refine LamX.walk_ofTs (l := PySem.Challenge.rw_mountedintime_k28_whole_bounds_added_and) (n := 63) (k := 11) (x := "script") (CX := fun _ => L2.CX0) rfl (by decide) rfl ⟨rfl, by decide, by decide⟩ (fun w h Y => PySem.W.km_in_of Y) ?F (fun _ _ _ _ _ h => h)
  case F =>
    intro w mg fa h Y KX G hmg
    refine' K28.law_at (T := 134) KX G hmg ?D ?B ?C (PySem.W.km_tabs_of Y 134 (List.mem_singleton.mpr rfl)) ?nT ?hC rfl
    case D =>
      refine' ⟨?d1, ?d2, ?d3, ?d22, ?d23, ?d24, ?d25, ?d26, ?d27, ?d28, ?d29, ?d30, ?d31, ?d32, ?d33, ?d34, ?d35, ?d36, ?d37, ?d38, ?d39, ?d41, ?d42, ?d43, ?d44, ?d45, ?d46, ?d47, ?d48, ?d49, ?d50, ?d51, ?d52⟩
      case d1 => (refine' K28.mk_def ?a ?l ?c ?k; (case a => k_is); (case l => k_is); (case c => k_is); (case k => k_is))
      case d2 => (refine' K28.mk_def ?a ?l ?c ?k; (case a => k_is); (case l => k_is); (case c => k_is); (case k => k_is))
      case d3 => (refine' K28.mk_def ?a ?l ?c ?k; (case a => k_is); (case l => k_is); (case c => k_is); (case k => k_is))
      case d22 => (refine' K28.mk_def ?a ?l ?c ?k; (case a => k_is); (case l => k_is); (case c => k_is); (case k => k_is))
      case d23 => (refine' K28.mk_def ?a ?l ?c ?k; (case a => k_is); (case l => k_is); (case c => k_is); (case k => k_is))
      case d24 => (refine' K28.mk_def ?a ?l ?c ?k; (case a => k_is); (case l => k_is); (case c => k_is); (case k => k_is))
      case d25 => (refine' K28.mk_def ?a ?l ?c ?k; (case a => k_is); (case l => k_is); (case c => k_is); (case k => k_is))
      case d26 => (refine' K28.mk_def ?a ?l ?c ?k; (case a => k_is); (case l => k_is); (case c => k_is); (case k => k_is))
      case d27 => (refine' K28.mk_defC ?a ?l ?c ?k; (case a => k_is); (case l => k_is); (case c => k_is); (case k => k_is))
      case d28 => (refine' K28.mk_def ?a ?l ?c ?k; (case a => k_is); (case l => k_is); (case c => k_is); (case k => k_is))
      case d29 => (refine' K28.mk_def ?a ?l ?c ?k; (case a => k_is); (case l => k_is); (case c => k_is); (case k => k_is))
      case d30 => (refine' K28.mk_def ?a ?l ?c ?k; (case a => k_is); (case l => k_is); (case c => k_is); (case k => k_is))
      case d31 => (refine' K28.mk_def ?a ?l ?c ?k; (case a => k_is); (case l => k_is); (case c => k_is); (case k => k_is))
      case d32 => (refine' K28.mk_def ?a ?l ?c ?k; (case a => k_is); (case l => k_is); (case c => k_is); (case k => k_is))
      case d33 => (refine' K28.mk_def ?a ?l ?c ?k; (case a => k_is); (case l => k_is); (case c => k_is); (case k => k_is))
      case d34 => (refine' K28.mk_def ?a ?l ?c ?k; (case a => k_is); (case l => k_is); (case c => k_is); (case k => k_is))
      case d35 => (refine' K28.mk_def ?a ?l ?c ?k; (case a => k_is); (case l => k_is); (case c => k_is); (case k => k_is))
      case d36 => (refine' K28.mk_def ?a ?l ?c ?k; (case a => k_is); (case l => k_is); (case c => k_is); (case k => k_is))
      case d37 => (refine' K28.mk_def ?a ?l ?c ?k; (case a => k_is); (case l => k_is); (case c => k_is); (case k => k_is))
      case d38 => (refine' K28.mk_def ?a ?l ?c ?k; (case a => k_is); (case l => k_is); (case c => k_is); (case k => k_is))
      case d39 => (refine' K28.mk_def ?a ?l ?c ?k; (case a => k_is); (case l => k_is); (case c => k_is); (case k => k_is))
      case d41 => (refine' K28.mk_def ?a ?l ?c ?k; (case a => k_is); (case l => k_is); (case c => k_is); (case k => k_is))
      case d42 => (refine' K28.mk_def ?a ?l ?c ?k; (case a => k_is); (case l => k_is); (case c => k_is); (case k => k_is))
      case d43 => (refine' K28.mk_def ?a ?l ?c ?k; (case a => k_is); (case l => k_is); (case c => k_is); (case k => k_is))
      case d44 => (refine' K28.mk_def ?a ?l ?c ?k; (case a => k_is); (case l => k_is); (case c => k_is); (case k => k_is))
      case d45 => (refine' K28.mk_def ?a ?l ?c ?k; (case a => k_is); (case l => k_is); (case c => k_is); (case k => k_is))
      case d46 => (refine' K28.mk_def ?a ?l ?c ?k; (case a => k_is); (case l => k_is); (case c => k_is); (case k => k_is))
      case d47 => (refine' K28.mk_def ?a ?l ?c ?k; (case a => k_is); (case l => k_is); (case c => k_is); (case k => k_is))
      case d48 => (refine' K28.mk_def ?a ?l ?c ?k; (case a => k_is); (case l => k_is); (case c => k_is); (case k => k_is))
      case d49 => (refine' K28.mk_def ?a ?l ?c ?k; (case a => k_is); (case l => k_is); (case c => k_is); (case k => k_is))
      case d50 => (refine' K28.mk_def ?a ?l ?c ?k; (case a => k_is); (case l => k_is); (case c => k_is); (case k => k_is))
      case d51 => (refine' K28.mk_def ?a ?l ?c ?k; (case a => k_is); (case l => k_is); (case c => k_is); (case k => k_is))
      case d52 => (refine' K28.mk_def ?a ?l ?c ?k; (case a => k_is); (case l => k_is); (case c => k_is); (case k => k_is))
    case B => (constructor <;> k_is)
    case C =>
      have z0 := PySem.W.mg_of (n := "MOST_LINES") KX G (by k_is)
      have z1 := PySem.W.mg_of (n := "MOST_CURVES") KX G (by k_is)
      have z2 := PySem.W.mg_of (n := "MOST_BURST") KX G (by k_is)
      have z3 := PySem.W.mg_of (n := "MOST_RATE") KX G (by k_is)
      have z4 := PySem.W.mg_of (n := "MOST_LATE") KX G (by k_is)
      have z5 := PySem.W.mg_of (n := "MOST_BEATS") KX G (by k_is)
      have z6 := PySem.W.mg_of (n := "MOST_COMING") KX G (by k_is)
      have z7 := PySem.W.mg_of (n := "MOST_MUCH") KX G (by k_is)
      have z8 := PySem.W.mg_of (n := "PAIR") KX G (by k_is)
      have z9 := PySem.W.mg_of (n := "MOST") KX G (by k_is)
      have z10 := PySem.W.mg_of (n := "EVER") KX G (by k_is)
      exact ⟨⟨_, z0⟩, ⟨_, z1⟩, ⟨_, z2⟩, ⟨_, z3⟩, ⟨_, z4⟩, ⟨_, z5⟩, ⟨_, z6⟩, ⟨_, z7⟩, ⟨_, z8⟩, ⟨_, z9⟩, ⟨_, z10⟩⟩
    case nT => first | rfl | kernel_rfl
    case hC => first | rfl | kernel_rfl

