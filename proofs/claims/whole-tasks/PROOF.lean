import PyProof.Rows.All
import Wide.All
import OpenK.AllK
import Wide.FinOn
import HandS.Base
import HandS.Call
import HandS.List
import HandS.Comp
import HandS.Ends
import HandS.Words
import HandS.WordsList
import HandS.IsInst
import HandS.TupAny
import HandS.Star
import HandS.Evl
import HandS.Set
import HandS.SetFor
import PyProof.Rows.SortShellAny
import PyProof.Rows.TmSorted
import PyProof.Rows.SortStr
import PySem.Challenge.RW_wishroads_k00_whole_tasks
import HandS.Text
import KE.KExcSuper
import HandS.ExcInit
import HandS.ExcOwn
import HandS.WordsExc
import HandS.ExcField
import HandS.TryOnly
import HandS.Wide
import PyProof.ListStr
import HandS.TryMany
import HandS.Lambda
import HandS.Style
import HandS.CallLocal
import HandS.Head0
import HandS.Head1
import HandS.Head2
import HandS.HeadEnd
import HandS.HeadHook1
import HandS.HeadHook2
import HandS.HeadHook3
import HandS.HeadHook4
import HandS.HeadNt
import HandS.HeadWalk
section
set_option Elab.async false
set_option linter.all false
set_option maxRecDepth 100000
namespace WR
open PySem PySem.Spec PyProof.Rows L2

abbrev Ex := Evl.Ex

/-! ### data at a value -/
mutual
inductive Rp (H : Hp) : V → PyData → Prop
  | non : Rp H .non .none
  | bl (b : Bool) : Rp H (.bl b) (.bool b)
  | int (i : Int) : Rp H (.int i) (.int i)
  | str (x : Str) : Rp H (.str x) (.str x)
  | lst {a : Addr} {xs : List V} {ds : List PyData} : H a = some (.lst xs) → RpAll H xs ds → Rp H (.ref a) (.list ds)
  | tup {a : Addr} {xs : List V} {ds : List PyData} : H a = some (.tup xs) → RpAll H xs ds → Rp H (.ref a) (.tuple ds)
inductive RpAll (H : Hp) : List V → List PyData → Prop
  | nil : RpAll H [] []
  | cons {v : V} {vs : List V} {d : PyData} {ds : List PyData} : Rp H v d → RpAll H vs ds → RpAll H (v :: vs) (d :: ds)
end

mutual
theorem Rp.mono {H H' : Hp} (e : Ex H H') : ∀ {v : V} {d : PyData}, Rp H v d → Rp H' v d
  | _, _, .non => .non
  | _, _, .bl b => .bl b
  | _, _, .int i => .int i
  | _, _, .str x => .str x
  | _, _, .lst h r => .lst (e _ _ h) (RpAll.mono e r)
  | _, _, .tup h r => .tup (e _ _ h) (RpAll.mono e r)
theorem RpAll.mono {H H' : Hp} (e : Ex H H') : ∀ {vs : List V} {ds : List PyData}, RpAll H vs ds → RpAll H' vs ds
  | _, _, .nil => .nil
  | _, _, .cons h r => .cons (Rp.mono e h) (RpAll.mono e r)
end

mutual
theorem Rp.dp {K : PySem.W.Frag} {H : Hp} : ∀ {v : V} {d : PyData}, Rp H v d → Dp K H v d
  | _, _, .non => .non
  | _, _, .bl b => .bl b
  | _, _, .int i => .int i
  | _, _, .str x => .str x
  | _, _, .lst h r => .lst (SqL.of h) (RpAll.dp r)
  | _, _, .tup h r => .tup (SqT.of h) (RpAll.dp r)
theorem RpAll.dp {K : PySem.W.Frag} {H : Hp} : ∀ {vs : List V} {ds : List PyData}, RpAll H vs ds → DpAll K H vs ds
  | _, _, .nil => .nil
  | _, _, .cons h r => .cons (Rp.dp h) (RpAll.dp r)
end

section
variable {H H' : Hp} {v : V} {vs ws : List V} {d : PyData} {ds es : List PyData}
theorem Rp.tupE (r : Rp H v (.tuple ds)) : ∃ a xs, v = .ref a ∧ H a = some (.tup xs) ∧ RpAll H xs ds := by
  cases r with
  | tup h q => exact ⟨_, _, rfl, h, q⟩
theorem Rp.lstE (r : Rp H v (.list ds)) : ∃ a xs, v = .ref a ∧ H a = some (.lst xs) ∧ RpAll H xs ds := by
  cases r with
  | lst h q => exact ⟨_, _, rfl, h, q⟩
theorem Rp.strE {x : Str} (r : Rp H v (.str x)) : v = .str x := by cases r; rfl
theorem Rp.intE {i : Int} (r : Rp H v (.int i)) : v = .int i := by cases r; rfl
theorem Rp.blE {b : Bool} (r : Rp H v (.bool b)) : v = .bl b := by cases r; rfl
theorem Rp.nonE (r : Rp H v .none) : v = .non := by cases r; rfl
theorem RpAll.len : ∀ {vs : List V} {ds : List PyData}, RpAll H vs ds → vs.length = ds.length
  | _, _, .nil => rfl
  | _, _, .cons _ r => by rw [List.length_cons, List.length_cons, RpAll.len r]
theorem RpAll.get : ∀ {vs : List V} {ds : List PyData} {i : Nat} {v : V}, RpAll H vs ds → vs[i]? = some v → ∃ d, ds[i]? = some d ∧ Rp H v d
  | _, _, _, _, .nil, h => by simp at h
  | _, _, 0, _, .cons r _, h => by simp at h; subst h; exact ⟨_, rfl, r⟩
  | _, _, i + 1, _, .cons _ t, h => by
    obtain ⟨d, h1, h2⟩ := RpAll.get (i := i) t (by simpa using h)
    exact ⟨d, by simpa using h1, h2⟩
theorem RpAll.get' : ∀ {vs : List V} {ds : List PyData} {i : Nat} {d : PyData}, RpAll H vs ds → ds[i]? = some d → ∃ v, vs[i]? = some v ∧ Rp H v d
  | _, _, _, _, .nil, h => by simp at h
  | _, _, 0, _, .cons r _, h => by simp at h; subst h; exact ⟨_, rfl, r⟩
  | _, _, i + 1, _, .cons _ t, h => by
    obtain ⟨d, h1, h2⟩ := RpAll.get' (i := i) t (by simpa using h)
    exact ⟨d, by simpa using h1, h2⟩
theorem RpAll.app : ∀ {vs ws : List V} {ds es : List PyData}, RpAll H vs ds → RpAll H ws es → RpAll H (vs ++ ws) (ds ++ es)
  | _, _, _, _, .nil, s => s
  | _, _, _, _, .cons r t, s => .cons r (RpAll.app t s)
theorem RpAll.take : ∀ {vs : List V} {ds : List PyData} (n : Nat), RpAll H vs ds → RpAll H (vs.take n) (ds.take n)
  | _, _, 0, _ => .nil
  | _, _, _ + 1, .nil => .nil
  | _, _, n + 1, .cons r t => .cons r (RpAll.take n t)
theorem RpAll.drop : ∀ {vs : List V} {ds : List PyData} (n : Nat), RpAll H vs ds → RpAll H (vs.drop n) (ds.drop n)
  | _, _, 0, r => r
  | _, _, _ + 1, .nil => .nil
  | _, _, n + 1, .cons _ t => RpAll.drop n t
theorem RpAll.strs : ∀ {vs : List V} {ss : List Str}, RpAll H vs (ss.map PyData.str) → vs = ss.map V.str
  | _, [], .nil => rfl
  | _, s :: ss, .cons r t => by rw [List.map_cons, RpAll.strs t, r.strE]
theorem RpAll.ofStrs : ∀ (ss : List Str), RpAll H (ss.map V.str) (ss.map PyData.str)
  | [] => .nil
  | s :: ss => .cons (.str s) (RpAll.ofStrs ss)
theorem RpAll.bools : ∀ {vs : List V} {ss : List Bool}, RpAll H vs (ss.map PyData.bool) → vs = ss.map V.bl
  | _, [], .nil => rfl
  | _, s :: ss, .cons r t => by rw [List.map_cons, RpAll.bools t, r.blE]
theorem RpAll.ints : ∀ {vs : List V} {ss : List Int}, RpAll H vs (ss.map PyData.int) → vs = ss.map V.int
  | _, [], .nil => rfl
  | _, s :: ss, .cons r t => by rw [List.map_cons, RpAll.ints t, r.intE]
theorem RpAll.nilE (r : RpAll H vs []) : vs = [] := by cases r; rfl
theorem RpAll.consE (r : RpAll H vs (d :: ds)) : ∃ v ws, vs = v :: ws ∧ Rp H v d ∧ RpAll H ws ds := by
  cases r with
  | cons h t => exact ⟨_, _, rfl, h, t⟩
theorem Rp.newT {p : Addr} {xs : List V} (hp : H p = none) (r : RpAll H xs ds) : Rp (upd H p (.tup xs)) (.ref p) (.tuple ds) :=
  .tup upd_same (r.mono (Evl.Ex.new hp))
theorem Rp.newL {p : Addr} {xs : List V} (hp : H p = none) (r : RpAll H xs ds) : Rp (upd H p (.lst xs)) (.ref p) (.list ds) :=
  .lst upd_same (r.mono (Evl.Ex.new hp))
end


/-! ### heaps: G, the part that the data lean on, within H -/
def Sub (G H : Hp) : Prop := Ex G H ∧ ∀ b ps, G b ≠ some (.tbl ps)
/-- nothing, or a table of code objects -/
def NT (H : Hp) (b : Addr) : Prop := ∀ o, H b = some o → ∃ ps, o = .tbl ps
class RlOk (Rl : Hp → Hp → Prop) : Prop where
  refl : ∀ H, Rl H H
  trans : ∀ {H H1 H2}, Rl H H1 → Rl H1 H2 → Rl H H2
  ex : ∀ {H H'}, Ex H H' → Rl H H'
  muL : ∀ {H H' : Hp} {p : Addr} {xs ys : List V}, Rl H H' → H p = none → H' p = some (.lst xs) → Rl H (upd H' p (.lst ys))
  keep : ∀ {H H' : Hp} {b : Addr} {o : HO}, Rl H H' → H b = some o → (∀ ps, o ≠ .tbl ps) → H' b = some o
instance : RlOk Ex where
  refl := Evl.Ex.refl
  trans := Evl.Ex.trans
  ex := id
  muL := fun r h _ => Evl.Ex.mut r h
  keep := fun r h _ => r _ _ h
/-- from (G, H) to (G', H') -/
structure Gr (Rl : Hp → Hp → Prop) (G H G' H' : Hp) : Prop where
  ex : Ex G G'
  sub : Sub G' H'
  rl : Rl H H'
  new : ∀ b, G' b ≠ none → G b ≠ none ∨ NT H b
section
variable {Rl : Hp → Hp → Prop} [RlOk Rl] {G G1 G2 H H1 H2 : Hp} {p : Addr} {xs : List V} {ds : List PyData}
theorem NT.of_none {b : Addr} (h : H b = none) : NT H b := fun o e => by rw [h] at e; cases e
theorem Sub.fr (s : Sub G H) (h : H p = none) : G p = none := Evl.fresh_back s.1 h
theorem NT.back {b : Addr} (r : Rl H H1) (h : NT H1 b) : NT H b := fun o e => by
  by_cases q : ∃ ps, o = .tbl ps
  · exact q
  · exact h o (RlOk.keep r e fun ps z => q ⟨ps, z⟩)
theorem Sub.rl (s : Sub G H) (r : Rl H H1) : Sub G H1 := ⟨fun b o e => RlOk.keep r (s.1 b o e) (fun ps z => s.2 b ps (by rw [e, z])), s.2⟩
theorem Gr.refl (s : Sub G H) : Gr Rl G H G H := ⟨Evl.Ex.refl G, s, RlOk.refl H, fun _ h => .inl h⟩
theorem Gr.of_rl (s : Sub G H) (r : Rl H H1) : Gr Rl G H G H1 := ⟨Evl.Ex.refl G, s.rl r, r, fun _ h => .inl h⟩
theorem Gr.trans (a : Gr Rl G H G1 H1) (b : Gr Rl G1 H1 G2 H2) : Gr Rl G H G2 H2 :=
  ⟨a.ex.trans b.ex, b.sub, RlOk.trans a.rl b.rl, fun c h => (b.new c h).elim (a.new c) fun z => .inr (NT.back a.rl z)⟩
/-- a new object laid, known to G -/
theorem Gr.laid {o : HO} (s : Sub G H) (h : H p = none) (nt : ∀ ps, o ≠ .tbl ps) : Gr Rl G H (upd G p o) (upd H p o) := by
  have hg := s.fr h
  refine ⟨Evl.Ex.new hg, ⟨fun b u e => ?_, fun b ps e => ?_⟩, RlOk.ex (Evl.Ex.new h), fun b hb => ?_⟩
  · by_cases q : b = p
    · subst q; rw [upd_same] at e ⊢; exact e
    · rw [upd_ne q] at e ⊢; exact s.1 b u e
  · by_cases q : b = p
    · subst q; rw [upd_same] at e; exact nt ps (Option.some.inj e)
    · rw [upd_ne q] at e; exact s.2 b ps e
  · by_cases q : b = p
    · subst q; exact .inr (.of_none h)
    · rw [upd_ne q] at hb; exact .inl hb
/-- what is tracked in H and not a table, not known to G, isn't known later -/
theorem Gr.out {o : HO} (g : Gr Rl G H G1 H1) (hG : G p = none) (hH : H p = some o) (nt : ∀ ps, o ≠ .tbl ps) : G1 p = none := by
  cases e : G1 p with
  | none => rfl
  | some u =>
    rcases g.new p (by rw [e]; simp) with z | z
    · exact absurd hG z
    · obtain ⟨ps, q⟩ := z o hH
      exact absurd q (nt ps)
end

/-! ### what an expression's reading gives: data -/
def Ed (Rl : Hp → Hp → Prop) (te : TE) (σ : L2.St) (G : Hp) (d : PyData) : Prop := ∀ H, Sub G H → ∀ Q : VK, (∀ v G' H', Gr Rl G H G' H' → Rp G' v d → Q v H') → te σ H Q
def EdT (Rl : Hp → Hp → Prop) (tt : TT) (σ : L2.St) (G : Hp) (b : Bool) : Prop := ∀ H, Sub G H → ∀ Q : Bool → Hp → Prop, (∀ G' H', Gr Rl G H G' H' → Q b H') → tt σ H Q
def EdA (Rl : Hp → Hp → Prop) (ta : TA) (σ : L2.St) (G : Hp) (ds : List PyData) : Prop := ∀ H, Sub G H → ∀ Q : List V → Hp → Prop, (∀ vs G' H', Gr Rl G H G' H' → RpAll G' vs ds → Q vs H') → ta σ H Q
/-- an operation on two data, on a list of data -/
def RD (Rl : Hp → Hp → Prop) (r : R2) (d1 d2 d : PyData) : Prop := ∀ G H x y, Sub G H → Rp G x d1 → Rp G y d2 → ∀ Q : VK, (∀ v G' H', Gr Rl G H G' H' → Rp G' v d → Q v H') → r x y H Q
def RCD (Rl : Hp → Hp → Prop) (r : List V → Hp → VK → Prop) (ds : List PyData) (d : PyData) : Prop := ∀ G H vs, Sub G H → RpAll G vs ds → ∀ Q : VK, (∀ v G' H', Gr Rl G H G' H' → Rp G' v d → Q v H') → r vs H Q
section
variable {Rl : Hp → Hp → Prop} [RlOk Rl] {σ : L2.St} {G G' : Hp} {ta tb te : TE} {t u : TT} {d d1 d2 d3 : PyData} {r : R2}
/-- the base may grow -/
theorem Gr.less {H H1 G1 : Hp} (e : Ex G G') (s : Sub G' H) (g : Gr Rl G' H G1 H1) (n : ∀ b, G' b ≠ none → G b ≠ none ∨ NT H b) : Gr Rl G H G1 H1 := ⟨e.trans g.ex, g.sub, g.rl, fun b h => (g.new b h).elim (n b) .inr⟩
theorem ed_op (ha : Ed Rl ta σ G d1) (hb : ∀ G1, Ex G G1 → Ed Rl tb σ G1 d2) (hr : RD Rl r d1 d2 d) : Ed Rl (tOp r ta tb) σ G d := fun H s Q q =>
  ha H s _ fun v G2 H2 e2 r1 => hb G2 e2.ex H2 e2.sub _ fun w G3 H3 e3 r2 => hr G3 H3 v w e3.sub (r1.mono e3.ex) r2 Q fun z G4 H4 e4 r4 => q z G4 H4 ((e2.trans e3).trans e4) r4
end

/-! ### the universal readings -/
def WE (X : Cx) (e : Expr) : TE := fun σ H Q => ∀ (pins : List (Addr × Obj)) (s : Shared), Inv X pins σ H s → wpAny (model X.prog X.w) X.A (eval e X.env) (EP X pins σ Q) X.xe s
def WT (X : Cx) (e : Expr) : TT := fun σ H Q => ∀ (pins : List (Addr × Obj)) (s : Shared), Inv X pins σ H s → wpAny (model X.prog X.w) X.A (isTrue e X.env (eval e X.env)) (TP X pins σ Q) X.xe s
def WW (X : Cx) (e : Expr) : TT := fun σ H Q => ∀ (whole : Sem Value) (pins : List (Addr × Obj)) (s : Shared), Inv X pins σ H s → wpAny (model X.prog X.w) X.A (isTrue e X.env whole) (TP X pins σ Q) X.xe s
def WA (X : Cx) (es : List Expr) : TA := fun σ H Q => ∀ (pos : Pos) (pins : List (Addr × Obj)) (s : Shared), Inv X pins σ H s → wpAny (model X.prog X.w) X.A (spliced (backTo pos (starEach es X.env))) (AP X pins σ Q) X.xe s
def WI (X : Cx) (ifs : List Expr) : TT := fun σ H Q => ∀ (pins : List (Addr × Obj)) (s : Shared), Inv X pins σ H s →
    wpAny (model X.prog X.w) X.A (forIn ifs true fun c r => if r = true then do let ok ← isTrue c X.env (eval c X.env); pure (ForInStep.yield ok) else pure (ForInStep.yield r)) (TP X pins σ Q) X.xe s
section
variable {X : Cx}
theorem pe_w {e : Expr} : PE X e (WE X e) := ⟨fun pins s σ H Q I h => h pins s I⟩
theorem pt_w {e : Expr} : PT X e (WT X e) := ⟨fun pins s σ H Q I h => h pins s I⟩
theorem pw_w {e : Expr} : PW X e (WW X e) := ⟨fun whole pins s σ H Q I h => h whole pins s I⟩
theorem pa_w {es : List Expr} : PA X es (WA X es) := ⟨fun pos pins s σ H Q I h => h pos pins s I⟩
theorem pi_w {ifs : List Expr} : PTs X ifs (WI X ifs) := ⟨fun pins s σ H Q I h => h pins s I⟩
end
/-- the judgements: an expression gives data, a test gives a Bool, arguments give data; G may grow before -/
def Gd (Rl : Hp → Hp → Prop) (X : Cx) (σ : L2.St) (G : Hp) (e : Expr) (d : PyData) : Prop := ∀ G1, Ex G G1 → Ed Rl (WE X e) σ G1 d
def Gt (Rl : Hp → Hp → Prop) (X : Cx) (σ : L2.St) (G : Hp) (e : Expr) (b : Bool) : Prop := ∀ G1, Ex G G1 → EdT Rl (WT X e) σ G1 b
def Gw (Rl : Hp → Hp → Prop) (X : Cx) (σ : L2.St) (G : Hp) (e : Expr) (b : Bool) : Prop := ∀ G1, Ex G G1 → EdT Rl (WW X e) σ G1 b
def Ga (Rl : Hp → Hp → Prop) (X : Cx) (σ : L2.St) (G : Hp) (es : List Expr) (ds : List PyData) : Prop := ∀ G1, Ex G G1 → EdA Rl (WA X es) σ G1 ds
def Gi (Rl : Hp → Hp → Prop) (X : Cx) (σ : L2.St) (G : Hp) (ifs : List Expr) (b : Bool) : Prop := ∀ G1, Ex G G1 → EdT Rl (WI X ifs) σ G1 b

section
variable {Rl : Hp → Hp → Prop} [RlOk Rl] {X : Cx} {σ : L2.St} {G G' : Hp} {e a b c : Expr} {d d1 d2 d3 : PyData} {te : TE} {tt : TT} {pos : Pos}
theorem Gd.of (h : PE X e te) (r : ∀ G1, Ex G G1 → Ed Rl te σ G1 d) : Gd Rl X σ G e d := fun G1 x H s Q q pins sh I => h.run pins sh σ H Q I (r G1 x H s Q q)
theorem Gt.of {k : Bool} (h : PT X e tt) (r : ∀ G1, Ex G G1 → EdT Rl tt σ G1 k) : Gt Rl X σ G e k := fun G1 x H s Q q pins sh I => h.run pins sh σ H Q I (r G1 x H s Q q)
theorem Gw.of {k : Bool} (h : PW X e tt) (r : ∀ G1, Ex G G1 → EdT Rl tt σ G1 k) : Gw Rl X σ G e k := fun G1 x H s Q q whole pins sh I => h.run whole pins sh σ H Q I (r G1 x H s Q q)
theorem Ga.of {es : List Expr} {ds : List PyData} {ta : TA} (h : PA X es ta) (r : ∀ G1, Ex G G1 → EdA Rl ta σ G1 ds) : Ga Rl X σ G es ds := fun G1 x H s Q q pos pins sh I => h.run pos pins sh σ H Q I (r G1 x H s Q q)
theorem Gi.of {ifs : List Expr} {k : Bool} (h : PTs X ifs tt) (r : ∀ G1, Ex G G1 → EdT Rl tt σ G1 k) : Gi Rl X σ G ifs k := fun G1 x H s Q q pins sh I => h.run pins sh σ H Q I (r G1 x H s Q q)
theorem Gd.mono (x : Ex G G') (h : Gd Rl X σ G e d) : Gd Rl X σ G' e d := fun G1 y => h G1 (x.trans y)
theorem Gt.mono {k : Bool} (x : Ex G G') (h : Gt Rl X σ G e k) : Gt Rl X σ G' e k := fun G1 y => h G1 (x.trans y)
theorem gd_is (h : Gd Rl X σ G e d1) (q : d1 = d) : Gd Rl X σ G e d := q ▸ h
theorem gd_is_a {es : List Expr} {ds ds2 : List PyData} (h : Ga Rl X σ G es ds) (q : ds = ds2) : Ga Rl X σ G es ds2 := q ▸ h
theorem gt_is {k k' : Bool} (h : Gt Rl X σ G e k) (q : k = k') : Gt Rl X σ G e k' := q ▸ h
theorem Gw.pt {k : Bool} (h : Gw Rl X σ G e k) : Gt Rl X σ G e k := fun G1 x H s Q q pins sh I => h G1 x H s Q q _ pins sh I

/-! ### names, constants -/
theorem g_var (i : Nat) {x : Str} {v : V} (hs : σ[i]? = some (some v)) (r : Rp G v d) (hN : X.N[i]? = some x := by rfl) (hv : Vis X.env.scope x := by first | exact Or.inl rfl | exact Or.inr (Or.inl rfl) | exact Or.inr (Or.inr rfl)) (hd : (x == ("__debug__" : Str)) = false := by decide)
    (hcd : (x == ("__classdict__" : Str)) = false := by decide) : Gd Rl X σ G (.Name x pos) d :=
  .of (pe_var hN hv hd hcd) fun G1 x H s Q q => ⟨v, hs, q v G1 H (.refl s) (r.mono x)⟩
theorem ed_c {v : V} (h : ∀ H, Rp H v d) : Ed Rl (tC v) σ G d := fun H s Q q => q v G H (.refl s) (h G)
theorem g_int {i : Int} {j : Nat} : Gd Rl X σ G (.Constant (.int i) j pos) (.int i) := .of pe_int fun _ _ => ed_c fun _ => .int i
theorem g_bl {k : Bool} {j : Nat} : Gd Rl X σ G (.Constant (.bool k) j pos) (.bool k) := .of pe_bl fun _ _ => ed_c fun _ => .bl k
theorem g_non {j : Nat} : Gd Rl X σ G (.Constant .none j pos) .none := .of pe_non fun _ _ => ed_c fun _ => .non
theorem g_str {x : Str} {j : Nat} : Gd Rl X σ G (.Constant (.str x) j pos) (.str x) := .of pe_str fun _ _ => ed_c fun _ => .str x
theorem g_glob {x : Str} {v : V} {u : Value} (hm : X.mg x = some u) (r : RelV v u) (h : ∀ H, Rp H v d) (hg : Gl X x := by rfl) (hd : (x == ("__debug__" : Str)) = false := by decide) : Gd Rl X σ G (.Name x pos) d := .of (pe_glob hg hm r hd) fun _ _ => ed_c h

/-! ### arguments, displays -/
theorem ga_nil : Ga Rl X σ G [] [] := .of pa_nil fun G1 x H s Q q => q [] G1 H (.refl s) .nil
theorem ga_cons {es : List Expr} {ds : List PyData} (h : Gd Rl X σ G e d) (t : Ga Rl X σ G es ds) (hs : starEach (e :: es) X.env = (false, eval e X.env) :: starEach es X.env := by rfl) : Ga Rl X σ G (e :: es) (d :: ds) :=
  .of (pa_cons pe_w pa_w hs) fun G1 x H s Q q => h G1 x H s _ fun v G2 H2 e2 r => t G2 (x.trans e2.ex) H2 e2.sub _ fun vs G3 H3 e3 rs => q (v :: vs) G3 H3 (e2.trans e3) (.cons (r.mono e3.ex) rs)
theorem ga_starT {es : List Expr} {ds fs : List PyData} (h : Gd Rl X σ G e (.tuple ds)) (t : Ga Rl X σ G es fs) : Ga Rl X σ G (.Starred e pos :: es) (ds ++ fs) := by
  refine .of (StX.pa_star pe_w pa_w) fun G1 x H s Q q => h G1 x H s _ fun v G2 H2 e2 r => ?_
  obtain ⟨a, xs, rfl, ha, rs⟩ := r.tupE
  exact ⟨a, xs, rfl, .inl (SqT.of (e2.sub.1 _ _ ha)), t G2 (x.trans e2.ex) H2 e2.sub _ fun vs G3 H3 e3 rt => q _ G3 H3 (e2.trans e3) ((rs.mono e3.ex).app rt)⟩
theorem ga_starL {es : List Expr} {ds fs : List PyData} (h : Gd Rl X σ G e (.list ds)) (t : Ga Rl X σ G es fs) : Ga Rl X σ G (.Starred e pos :: es) (ds ++ fs) := by
  refine .of (StX.pa_star pe_w pa_w) fun G1 x H s Q q => h G1 x H s _ fun v G2 H2 e2 r => ?_
  obtain ⟨a, xs, rfl, ha, rs⟩ := r.lstE
  exact ⟨a, xs, rfl, .inr (SqL.of (e2.sub.1 _ _ ha)), t G2 (x.trans e2.ex) H2 e2.sub _ fun vs G3 H3 e3 rt => q _ G3 H3 (e2.trans e3) ((rs.mono e3.ex).app rt)⟩
theorem g_tup {es : List Expr} {ds : List PyData} {k : Nat} (h : Ga Rl X σ G es ds) (hl : ds.length ≤ 100000) : Gd Rl X σ G (.Tuple es k pos) (.tuple ds) :=
  .of (pe_tup pa_w) fun G1 x H s Q q => h G1 x H s _ fun vs G2 H2 e2 rs => ⟨Evl.sz_of (by rw [rs.len]; exact hl), fun p hp => q _ _ _ (e2.trans (.laid e2.sub hp (fun _ z => by cases z))) (Rp.newT (e2.sub.fr hp) rs)⟩
theorem g_lst {es : List Expr} {ds : List PyData} (h : Ga Rl X σ G es ds) (hl : ds.length ≤ 100000) : Gd Rl X σ G (.List es pos) (.list ds) :=
  .of (pe_lst pa_w) fun G1 x H s Q q => h G1 x H s _ fun vs G2 H2 e2 rs => ⟨Evl.sz_of (by rw [rs.len]; exact hl), fun p hp => q _ _ _ (e2.trans (.laid e2.sub hp (fun _ z => by cases z))) (Rp.newL (e2.sub.fr hp) rs)⟩

/-! ### operators -/
theorem g_op {op : Operator} {r : R2} (ho : OpR X (binaryOp op) r) (hr : RD Rl r d1 d2 d) (ha : Gd Rl X σ G a d1) (hb : Gd Rl X σ G b d2) : Gd Rl X σ G (.BinOp a op b pos) d := .of (pe_op ho pe_w pe_w) fun G1 x => ed_op (ha G1 x) (fun G2 y => hb G2 (x.trans y)) hr
theorem g_cmp {op : CmpOp} {r : R2} (ho : OpR X (compareOp op) r) (hr : RD Rl r d1 d2 d) (ha : Gd Rl X σ G a d1) (hb : Gd Rl X σ G b d2) (hm : behindInMarks op b = false) : Gd Rl X σ G (.Compare a [op] [b] pos) d := .of (pe_cmpR ho pe_w pe_w hm) fun G1 x => ed_op (ha G1 x) (fun G2 y => hb G2 (x.trans y)) hr
theorem gt_cmp {op : CmpOp} {r : R2} {k : Bool} (ho : OpR X (compareOp op) r) (hr : RD Rl r d1 d2 (.bool k)) (ha : Gd Rl X σ G a d1) (hb : Gd Rl X σ G b d2) (hm : behindInMarks op b = false) : Gt Rl X σ G (.Compare a [op] [b] pos) k :=
  .of (pt_cmpR ho pe_w pe_w hm) fun G1 x H s Q q => ed_op (ha G1 x) (fun G2 y => hb G2 (x.trans y)) hr H s _ fun v G2 H2 e2 r2 => ⟨k, r2.blE, q G2 H2 e2⟩
theorem gt_val {k : Bool} (h : Gd Rl X σ G e (.bool k)) (he : ∀ whole, isTrue e X.env whole = (do let v ← whole; standAt e.pos; holding [v] (truthy v)) := by intro _; rfl) : Gt Rl X σ G e k :=
  .of (pt_val pe_w he) fun G1 x H s Q q => h G1 x H s _ fun v G2 H2 e2 r2 => ⟨k, r2.blE, q G2 H2 e2⟩
theorem gt_not {k : Bool} (h : Gt Rl X σ G e k) : Gt Rl X σ G (.UnaryOp .Not e pos) (!k) := .of (pt_not pt_w) fun G1 x H s Q q => h G1 x H s _ fun G2 H2 e2 => q G2 H2 e2
theorem gw_and1 {k : Bool} (h : Gt Rl X σ G e k) : Gw Rl X σ G (.BoolOp .And [e] pos) k := .of (pw_and1 pt_w) fun G1 x H s Q q => h G1 x H s _ q
theorem gw_or1 {k : Bool} (h : Gt Rl X σ G e k) : Gw Rl X σ G (.BoolOp .Or [e] pos) k := .of (pw_or1 pt_w) fun G1 x H s Q q => h G1 x H s _ q
theorem gw_and {k k' : Bool} {rest : List Expr} (h : Gt Rl X σ G a k) (h2 : k = true → Gw Rl X σ G (.BoolOp .And (b :: rest) pos) k') : Gw Rl X σ G (.BoolOp .And (a :: b :: rest) pos) (k && k') := by
  refine .of (pw_and pt_w pw_w) fun G1 x H s Q q => h G1 x H s _ fun G2 H2 e2 => ?_
  cases k with
  | true => exact h2 rfl G2 (x.trans e2.ex) H2 e2.sub _ fun G3 H3 e3 => q G3 H3 (e2.trans e3)
  | false => exact q G2 H2 e2
theorem gw_or {k k' : Bool} {rest : List Expr} (h : Gt Rl X σ G a k) (h2 : k = false → Gw Rl X σ G (.BoolOp .Or (b :: rest) pos) k') : Gw Rl X σ G (.BoolOp .Or (a :: b :: rest) pos) (k || k') := by
  refine .of (pw_or pt_w pw_w) fun G1 x H s Q q => h G1 x H s _ fun G2 H2 e2 => ?_
  cases k with
  | true => exact q G2 H2 e2
  | false => exact h2 rfl G2 (x.trans e2.ex) H2 e2.sub _ fun G3 H3 e3 => q G3 H3 (e2.trans e3)
theorem g_one {op : BoolOp} (h : Gd Rl X σ G e d) : Gd Rl X σ G (.BoolOp op [e] pos) d := .of (pe_one pe_w) h
theorem g_and {k k' : Bool} {rest : List Expr} (h : Gd Rl X σ G a (.bool k)) (h2 : k = true → Gd Rl X σ G (.BoolOp .And (b :: rest) pos) (.bool k')) : Gd Rl X σ G (.BoolOp .And (a :: b :: rest) pos) (.bool (k && k')) := by
  refine .of (pe_and pe_w pe_w) fun G1 x H s Q q => h G1 x H s _ fun v G2 H2 e2 r2 => ⟨k, r2.blE, ?_⟩
  cases k with
  | true => exact h2 rfl G2 (x.trans e2.ex) H2 e2.sub _ fun v G3 H3 e3 r3 => q v G3 H3 (e2.trans e3) r3
  | false => exact q _ G2 H2 e2 (.bl false)
theorem g_or {k k' : Bool} {rest : List Expr} (h : Gd Rl X σ G a (.bool k)) (h2 : k = false → Gd Rl X σ G (.BoolOp .Or (b :: rest) pos) (.bool k')) : Gd Rl X σ G (.BoolOp .Or (a :: b :: rest) pos) (.bool (k || k')) := by
  refine .of (pe_or pe_w pe_w) fun G1 x H s Q q => h G1 x H s _ fun v G2 H2 e2 r2 => ⟨k, r2.blE, ?_⟩
  cases k with
  | true => exact q _ G2 H2 e2 (.bl true)
  | false => exact h2 rfl G2 (x.trans e2.ex) H2 e2.sub _ fun v G3 H3 e3 r3 => q v G3 H3 (e2.trans e3) r3
theorem g_not {k : Bool} (h : Gd Rl X σ G e (.bool k)) : Gd Rl X σ G (.UnaryOp .Not e pos) (.bool (!k)) := .of (pe_not pe_w) fun G1 x H s Q q => h G1 x H s _ fun v G2 H2 e2 r2 => ⟨k, r2.blE, q _ G2 H2 e2 (.bl _)⟩
theorem g_if {k : Bool} (h : Gt Rl X σ G c k) (h1 : k = true → Gd Rl X σ G a d) (h2 : k = false → Gd Rl X σ G b d) : Gd Rl X σ G (.IfExp c a b pos) d := by
  refine .of (pe_ifExp pt_w pe_w pe_w) fun G1 x H s Q q => h G1 x H s _ fun G2 H2 e2 => ?_
  cases k with
  | true => exact h1 rfl G2 (x.trans e2.ex) H2 e2.sub _ fun v G3 H3 e3 r3 => q v G3 H3 (e2.trans e3) r3
  | false => exact h2 rfl G2 (x.trans e2.ex) H2 e2.sub _ fun v G3 H3 e3 r3 => q v G3 H3 (e2.trans e3) r3
theorem gi_nil : Gi Rl X σ G [] true := .of pts_nil fun G1 x H s Q q => q G1 H (.refl s)
theorem gi_one {k : Bool} (h : Gt Rl X σ G c k) : Gi Rl X σ G [c] k := .of (pts_one pt_w) h
end

/-! ### operations on data -/
section
variable {Rl : Hp → Hp → Prop} [RlOk Rl] {K : PySem.W.Frag} {d d1 d2 : PyData}
theorem rd_eq (h1 : SeqAt.shaped d1 = true) (h2 : SeqAt.shaped d2 = true) : RD Rl (rEqD K) d1 d2 (.bool (PyData.eqv d1 d2)) := fun G H x y s r1 r2 Q q =>
  ⟨d1, d2, (r1.mono s.1).dp, (r2.mono s.1).dp, h1, h2, q _ G H (.refl s) (.bl _)⟩
theorem rd_ne (h1 : SeqAt.shaped d1 = true) (h2 : SeqAt.shaped d2 = true) : RD Rl (rNeD K) d1 d2 (.bool (!PyData.eqv d1 d2)) := fun G H x y s r1 r2 Q q =>
  ⟨d1, d2, (r1.mono s.1).dp, (r2.mono s.1).dp, h1, h2, q _ G H (.refl s) (.bl _)⟩
/-- ints in, a bool | an int out -/
theorem rd_cmpI {p : Int → Int → Bool} {i j : Int} : RD Rl (rI0 fun i j => .bl (p i j)) (.int i) (.int j) (.bool (p i j)) := fun G H x y s r1 r2 Q q => ⟨i, j, r1.intE, r2.intE, q _ G H (.refl s) (.bl _)⟩
theorem rd_int {p : Int → Int → Int} {i j : Int} : RD Rl (rI0 fun i j => .int (p i j)) (.int i) (.int j) (.int (p i j)) := fun G H x y s r1 r2 Q q => ⟨i, j, r1.intE, r2.intE, q _ G H (.refl s) (.int _)⟩
theorem rd_intC {C : Int → Int → Prop} {p : Int → Int → Int} {i j : Int} (hc : C i j) : RD Rl (rI C fun i j => .int (p i j)) (.int i) (.int j) (.int (p i j)) := fun G H x y s r1 r2 Q q => ⟨i, j, r1.intE, r2.intE, hc, q _ G H (.refl s) (.int _)⟩
theorem rd_str {p : Str → Str → Bool} {i j : Str} : RD Rl (fun x y H Q => ∃ i j, x = .str i ∧ y = .str j ∧ Q (.bl (p i j)) H) (.str i) (.str j) (.bool (p i j)) := fun G H x y s r1 r2 Q q => ⟨i, j, r1.strE, r2.strE, q _ G H (.refl s) (.bl _)⟩
def isNn : PyData → Bool
  | .none => true
  | _ => false
theorem rd_isN {d : PyData} : RD Rl (fun x y H Q => y = .non ∧ Q (.bl (decide (x = .non))) H) d .none (.bool (isNn d)) := fun G H x y s r1 r2 Q q => ⟨r2.nonE, by
  have e : decide (x = V.non) = isNn d := by cases r1 <;> simp [isNn]
  rw [e]
  exact q _ G H (.refl s) (.bl _)⟩
theorem rd_notN {d : PyData} : RD Rl (fun x y H Q => y = .non ∧ Q (.bl (!decide (x = .non))) H) d .none (.bool (!isNn d)) := fun G H x y s r1 r2 Q q => ⟨r2.nonE, by
  have e : decide (x = V.non) = isNn d := by cases r1 <;> simp [isNn]
  rw [e]
  exact q _ G H (.refl s) (.bl _)⟩
theorem inV_str (x : Str) (ss : List Str) : inV (.str x) (ss.map V.str) = decide (x ∈ ss) := by
  unfold inV
  rw [List.any_map]
  have : (fun y => eqV y (V.str x)) ∘ V.str = fun y : Str => y == x := by funext y; rfl
  rw [this]
  induction ss with
  | nil => simp
  | cons a t ih =>
    rw [List.any_cons, ih]
    by_cases e : a = x
    · simp [e]
    · have e' : ¬ x = a := fun z => e z.symm
      simp [e, e']
theorem flat_strs (ss : List Str) : (ss.map V.str).all flatV = true := by
  rw [List.all_map]
  exact List.all_eq_true.mpr fun _ _ => rfl
theorem rd_inT {neg : Bool} {x : Str} {ss : List Str} : RD Rl (rIn K neg) (.str x) (.tuple (ss.map .str)) (.bool (if neg then !decide (x ∈ ss) else decide (x ∈ ss))) := fun G H u y s r1 r2 Q q => by
  obtain ⟨a, xs, rfl, ha, rs⟩ := r2.tupE
  obtain rfl := r1.strE
  obtain rfl := rs.strs
  refine ⟨a, _, rfl, .inr (SqT.of (s.1 _ _ ha)), rfl, flat_strs ss, ?_⟩
  rw [inV_str]
  exact q _ G H (.refl s) (.bl _)
theorem rd_inL {neg : Bool} {x : Str} {ss : List Str} : RD Rl (rIn K neg) (.str x) (.list (ss.map .str)) (.bool (if neg then !decide (x ∈ ss) else decide (x ∈ ss))) := fun G H u y s r1 r2 Q q => by
  obtain ⟨a, xs, rfl, ha, rs⟩ := r2.lstE
  obtain rfl := r1.strE
  obtain rfl := rs.strs
  refine ⟨a, _, rfl, .inl (SqL.of (s.1 _ _ ha)), rfl, flat_strs ss, ?_⟩
  rw [inV_str]
  exact q _ G H (.refl s) (.bl _)
theorem rd_catT {ds es : List PyData} (hz : ds.length + es.length ≤ 100000) : RD Rl (rCatA K) (.tuple ds) (.tuple es) (.tuple (ds ++ es)) := fun G H u y s r1 r2 Q q => by
  obtain ⟨a, xs, rfl, ha, rs⟩ := r1.tupE
  obtain ⟨b, ys, rfl, hb, rt⟩ := r2.tupE
  refine ⟨a, b, xs, ys, rfl, rfl, SqT.of (s.1 _ _ ha), SqT.of (s.1 _ _ hb), Evl.sz_of (by rw [rs.len, rt.len]; exact hz), fun e => ?_, fun _ e => ?_, fun _ _ p hp => ?_⟩
  · subst e
    cases rs
    exact q _ G H (.refl s) r2
  · subst e
    cases rt
    rw [List.append_nil] at q
    exact q _ G H (.refl s) r1
  · exact q _ _ _ (.laid s hp (fun _ z => by cases z)) (Rp.newT (s.fr hp) (rs.app rt))
theorem rd_catL {ds es : List PyData} (hz : ds.length + es.length ≤ 100000) : RD Rl rCat (.list ds) (.list es) (.list (ds ++ es)) := fun G H u y s r1 r2 Q q => by
  obtain ⟨a, xs, rfl, ha, rs⟩ := r1.lstE
  obtain ⟨b, ys, rfl, hb, rt⟩ := r2.lstE
  exact ⟨a, b, xs, ys, rfl, rfl, s.1 _ _ ha, s.1 _ _ hb, Evl.sz_of (by rw [rs.len, rt.len]; exact hz), fun p hp => q _ _ _ (.laid s hp (fun _ z => by cases z)) (Rp.newL (s.fr hp) (rs.app rt))⟩
theorem rd_catS {a b : Str} (hz : a.length + b.length ≤ 100000) : RD Rl (fun x y H Q => ∃ i j, x = .str i ∧ y = .str j ∧ i.length + j.length ≤ sizeLine ∧ Q (.str (i ++ j)) H) (.str a) (.str b) (.str (a ++ b)) := fun G H u y s r1 r2 Q q =>
  ⟨a, b, r1.strE, r2.strE, Evl.sz_of hz, q _ G H (.refl s) (.str _)⟩
theorem rd_ixT {ds : List PyData} {i : Int} {d : PyData} (h : atI ds i = some d) : RD Rl (rIxT K) (.tuple ds) (.int i) d := fun G H u y s r1 r2 Q q => by
  obtain ⟨a, xs, rfl, ha, rs⟩ := r1.tupE
  obtain rfl := r2.intE
  unfold atI at h
  cases e : ixN ds.length i with
  | none => rw [e] at h; cases h
  | some j =>
    rw [e] at h
    obtain ⟨v, hv, rv⟩ := rs.get' h
    exact ⟨a, xs, i, v, rfl, rfl, SqT.of (s.1 _ _ ha), by unfold atI; rw [rs.len, e]; exact hv, q v G H (.refl s) rv⟩
theorem rd_ixL {ds : List PyData} {i : Int} {d : PyData} (h : atI ds i = some d) : RD Rl (rIxL K) (.list ds) (.int i) d := fun G H u y s r1 r2 Q q => by
  obtain ⟨a, xs, rfl, ha, rs⟩ := r1.lstE
  obtain rfl := r2.intE
  unfold atI at h
  cases e : ixN ds.length i with
  | none => rw [e] at h; cases h
  | some j =>
    rw [e] at h
    obtain ⟨v, hv, rv⟩ := rs.get' h
    exact ⟨a, xs, i, v, rfl, rfl, SqL.of (s.1 _ _ ha), by unfold atI; rw [rs.len, e]; exact hv, q v G H (.refl s) rv⟩
end

section
variable {Rl : Hp → Hp → Prop} [RlOk Rl] {X : Cx} {σ : L2.St} {G G' : Hp} {e a b c : Expr} {d d1 d2 d3 : PyData} {te : TE} {tt : TT} {pos : Pos}
/-! ### comparisons, chains -/
theorem g_eq (hu : X.A.units + 64 < cLine) (h1 : SeqAt.shaped d1 = true) (h2 : SeqAt.shaped d2 = true) (ha : Gd Rl X σ G a d1) (hb : Gd Rl X σ G b d2) : Gd Rl X σ G (.Compare a [.Eq] [b] pos) (.bool (PyData.eqv d1 d2)) := g_cmp (op_eqD hu) (rd_eq h1 h2) ha hb (nomark _)
theorem g_ne (hu : X.A.units + 64 < cLine) (h1 : SeqAt.shaped d1 = true) (h2 : SeqAt.shaped d2 = true) (ha : Gd Rl X σ G a d1) (hb : Gd Rl X σ G b d2) : Gd Rl X σ G (.Compare a [.NotEq] [b] pos) (.bool (!PyData.eqv d1 d2)) := g_cmp (op_neD hu) (rd_ne h1 h2) ha hb (nomark _)
theorem gt_eq (hu : X.A.units + 64 < cLine) (h1 : SeqAt.shaped d1 = true) (h2 : SeqAt.shaped d2 = true) (ha : Gd Rl X σ G a d1) (hb : Gd Rl X σ G b d2) : Gt Rl X σ G (.Compare a [.Eq] [b] pos) (PyData.eqv d1 d2) := gt_cmp (op_eqD hu) (rd_eq h1 h2) ha hb (nomark _)
theorem gt_ne (hu : X.A.units + 64 < cLine) (h1 : SeqAt.shaped d1 = true) (h2 : SeqAt.shaped d2 = true) (ha : Gd Rl X σ G a d1) (hb : Gd Rl X σ G b d2) : Gt Rl X σ G (.Compare a [.NotEq] [b] pos) (!PyData.eqv d1 d2) := gt_cmp (op_neD hu) (rd_ne h1 h2) ha hb (nomark _)
theorem ed_chain {r r' : R2} {k k' : Bool} {ta tb tc : TE} (ha : ∀ G1, Ex G G1 → Ed Rl ta σ G1 d1) (hb : ∀ G1, Ex G G1 → Ed Rl tb σ G1 d2) (hc : k = true → ∀ G1, Ex G G1 → Ed Rl tc σ G1 d3) (hr : RD Rl r d1 d2 (.bool k)) (hr' : k = true → RD Rl r' d2 d3 (.bool k')) :
    ∀ G1, Ex G G1 → Ed Rl (tChain r r' ta tb tc) σ G1 (.bool (k && k')) := fun G1 x H s Q q =>
  ha G1 x H s _ fun v G2 H2 e2 r1 => hb G2 (x.trans e2.ex) H2 e2.sub _ fun w G3 H3 e3 r2 => hr G3 H3 v w e3.sub (r1.mono e3.ex) r2 _ fun z G4 H4 e4 r4 => ⟨k, r4.blE, by
    cases k with
    | true => exact hc rfl G4 (((x.trans e2.ex).trans e3.ex).trans e4.ex) H4 e4.sub _ fun u G5 H5 e5 r5 => hr' rfl G5 H5 w u e5.sub ((r2.mono e4.ex).mono e5.ex) r5 Q fun z G6 H6 e6 r6 => q z G6 H6 ((((e2.trans e3).trans e4).trans e5).trans e6) r6
    | false => exact q _ G4 H4 ((e2.trans e3).trans e4) (.bl false)⟩
theorem g_chain {op op' : CmpOp} {r r' : R2} {k k' : Bool} (ho : OpR X (compareOp op) r) (ho' : OpR X (compareOp op') r') (hr : RD Rl r d1 d2 (.bool k)) (hr' : k = true → RD Rl r' d2 d3 (.bool k')) (ha : Gd Rl X σ G a d1) (hb : Gd Rl X σ G b d2) (hc : k = true → Gd Rl X σ G c d3)
    (hm : lastMarks [op, op'] [b, c] = false := by with_unfolding_all rfl) : Gd Rl X σ G (.Compare a [op, op'] [b, c] pos) (.bool (k && k')) :=
  .of (pe_chain ho ho' pe_w pe_w pe_w hm) (ed_chain ha hb hc hr hr')
theorem gt_chain {op op' : CmpOp} {r r' : R2} {k k' : Bool} (ho : OpR X (compareOp op) r) (ho' : OpR X (compareOp op') r') (hr : RD Rl r d1 d2 (.bool k)) (hr' : k = true → RD Rl r' d2 d3 (.bool k')) (ha : Gd Rl X σ G a d1) (hb : Gd Rl X σ G b d2) (hc : k = true → Gd Rl X σ G c d3)
    (hm : lastMarks [op, op'] [b, c] = false := by with_unfolding_all rfl) : Gt Rl X σ G (.Compare a [op, op'] [b, c] pos) (k && k') :=
  .of (pt_chain ho ho' pe_w pe_w pe_w hm) fun G1 x H s Q q => ed_chain ha hb hc hr hr' G1 x H s _ fun v G2 H2 e2 r2 => ⟨_, r2.blE, q G2 H2 e2⟩

/-! ### subscripts, slices -/
theorem g_ixT {i : Int} {ds : List PyData} (ha : Gd Rl X σ G a (.tuple ds)) (hb : Gd Rl X σ G b (.int i)) (h : atI ds i = some d) (hs : PlainIx b := by exact fun _ _ => rfl) : Gd Rl X σ G (.Subscript a b pos) d :=
  .of (pe_ix ix_tup pe_w pe_w hs) fun G1 x => ed_op (ha G1 x) (fun G2 y => hb G2 (x.trans y)) (rd_ixT h)
theorem g_ixL {i : Int} {ds : List PyData} (ha : Gd Rl X σ G a (.list ds)) (hb : Gd Rl X σ G b (.int i)) (h : atI ds i = some d) (hs : PlainIx b := by exact fun _ _ => rfl) : Gd Rl X σ G (.Subscript a b pos) d :=
  .of (pe_ix ix_list pe_w pe_w hs) fun G1 x => ed_op (ha G1 x) (fun G2 y => hb G2 (x.trans y)) (rd_ixL h)
def cutD (ds : List PyData) (lo hi : Option Int) : List PyData := (ds.drop (HT.sIx ds.length 0 lo)).take (HT.sIx ds.length ds.length hi - HT.sIx ds.length 0 lo)
/-- a slice's part -/
def Go (Rl : Hp → Hp → Prop) (X : Cx) (σ : L2.St) (G : Hp) (e : Option Expr) (o : Option Int) : Prop := match e, o with
  | none, none => True
  | some e, some i => Gd Rl X σ G e (.int i)
  | _, _ => False
def WO (X : Cx) (e : Option Expr) : TO := fun σ H Q => ∀ (pins : List (Addr × Obj)) (s : Shared), Inv X pins σ H s → wpAny (model X.prog X.w) X.A (evalPart e X.env) (fun u s' => ∃ o H', Inv X pins σ H' s' ∧ IsPart u o ∧ Q o H') X.xe s
theorem po_w {e : Option Expr} : PO X e (WO X e) := ⟨fun pins s σ H Q I h => h pins s I⟩
theorem ed_part {e : Option Expr} {o : Option Int} (h : Go Rl X σ G e o) : ∀ G1, Ex G G1 → ∀ H, Sub G1 H → ∀ Q : Option Int → Hp → Prop, (∀ G' H', Gr Rl G1 H G' H' → Q o H') → WO X e σ H Q := by
  intro G1 x H s Q q pins sh I
  cases e with
  | none =>
    cases o with
    | none => exact po_none.run pins sh σ H Q I (q G1 H (.refl s))
    | some i => exact h.elim
  | some e =>
    cases o with
    | none => exact h.elim
    | some i =>
      have h' : Gd Rl X σ G e (.int i) := h
      exact (po_some pe_w).run pins sh σ H Q I (h' G1 x H s _ fun v G2 H2 e2 r2 => ⟨i, r2.intE, q G2 H2 e2⟩)
theorem cut_all {ds : List PyData} {lo hi : Option Int} (h : HT.sIx ds.length 0 lo = 0 ∧ HT.sIx ds.length ds.length hi = ds.length) : cutD ds lo hi = ds := by
  unfold cutD
  rw [h.1, h.2]
  simp
theorem g_slT {lo hi : Option Expr} {l h : Option Int} {ds : List PyData} {p2 : Pos} (ha : Gd Rl X σ G a (.tuple ds)) (hl : Go Rl X σ G lo l) (hh : Go Rl X σ G hi h) : Gd Rl X σ G (.Subscript a (.Slice lo hi none p2) pos) (.tuple (cutD ds l h)) := by
  refine .of (pe_slice sl_tupA pe_w po_w po_w) fun G1 x H s Q q => ha G1 x H s _ fun v G2 H2 e2 r => ed_part hl G2 (x.trans e2.ex) H2 e2.sub _ fun G3 H3 e3 => ed_part hh G3 ((x.trans e2.ex).trans e3.ex) H3 e3.sub _ fun G4 H4 e4 => ?_
  obtain ⟨t, xs, rfl, ht, rs⟩ := ((r.mono e3.ex).mono e4.ex).tupE
  refine ⟨t, xs, rfl, SqT.of (e4.sub.1 _ _ ht), fun z => ?_, fun _ p hp => ?_⟩
  · rw [rs.len] at z
    rw [cut_all z] at q
    exact q _ G4 H4 ((e2.trans e3).trans e4) (.tup ht rs)
  · refine q _ _ _ (((e2.trans e3).trans e4).trans (.laid e4.sub hp (fun _ z => by cases z))) (Rp.newT (e4.sub.fr hp) ?_)
    unfold cutV cutD
    rw [rs.len]
    exact (rs.drop _).take _
theorem g_slL {lo hi : Option Expr} {l h : Option Int} {ds : List PyData} {p2 : Pos} (ha : Gd Rl X σ G a (.list ds)) (hl : Go Rl X σ G lo l) (hh : Go Rl X σ G hi h) : Gd Rl X σ G (.Subscript a (.Slice lo hi none p2) pos) (.list (cutD ds l h)) := by
  refine .of (pe_slice sl_list pe_w po_w po_w) fun G1 x H s Q q => ha G1 x H s _ fun v G2 H2 e2 r => ed_part hl G2 (x.trans e2.ex) H2 e2.sub _ fun G3 H3 e3 => ed_part hh G3 ((x.trans e2.ex).trans e3.ex) H3 e3.sub _ fun G4 H4 e4 => ?_
  obtain ⟨t, xs, rfl, ht, rs⟩ := ((r.mono e3.ex).mono e4.ex).lstE
  refine ⟨t, xs, rfl, SqL.of (e4.sub.1 _ _ ht), fun p hp => ?_⟩
  refine q _ _ _ (((e2.trans e3).trans e4).trans (.laid e4.sub hp (fun _ z => by cases z))) (Rp.newL (e4.sub.fr hp) ?_)
  unfold cutV cutD
  rw [rs.len]
  exact (rs.drop _).take _

/-! ### built-in functions -/
theorem g_cb {id : String} {r : List V → Hp → VK → Prop} {x : Str} {p : Pos} {es : List Expr} {ds : List PyData} (hc : CallR X (.builtin id) r) (hr : RCD Rl r ds d) (hm : X.mg x = none) (hv : bootBuiltins x = some (.builtin id)) (ha : Ga Rl X σ G (e :: es) ds) (hg : Gl X x := by rfl) (hn : x ≠ "__name__" := by decide) (hdb : (x == ("__debug__" : Str)) = false := by decide)
    (he : starEach (e :: es) X.env = (false, eval e X.env) :: starEach es X.env := by rfl) (hpl : (backTo pos (starEach es X.env)).any (·.1) = false := by rfl) : Gd Rl X σ G (.Call (.Name x p) (e :: es) [] pos) d :=
  .of (pe_callB hc hg hm hv pa_w hn hdb he hpl) fun G1 x H s Q q => ha G1 x H s _ fun vs G2 H2 e2 rs => hr G2 H2 vs e2.sub rs Q fun v G3 H3 e3 r3 => q v G3 H3 (e2.trans e3) r3
theorem g_ct {T : String} {r : List V → Hp → VK → Prop} {x : Str} {p : Pos} {es : List Expr} {ds : List PyData} (hc : CallR X (.type T) r) (hr : RCD Rl r ds d) (hm : X.mg x = none) (hv : bootBuiltins x = some (.type T)) (ha : Ga Rl X σ G (e :: es) ds) (hg : Gl X x := by rfl) (hn : x ≠ "__name__" := by decide) (hdb : (x == ("__debug__" : Str)) = false := by decide)
    (he : starEach (e :: es) X.env = (false, eval e X.env) :: starEach es X.env := by rfl) (hpl : (backTo pos (starEach es X.env)).any (·.1) = false := by rfl) : Gd Rl X σ G (.Call (.Name x p) (e :: es) [] pos) d :=
  .of (pe_callTy hc hg hm hv pa_w hn hdb he hpl) fun G1 x H s Q q => ha G1 x H s _ fun vs G2 H2 e2 rs => hr G2 H2 vs e2.sub rs Q fun v G3 H3 e3 r3 => q v G3 H3 (e2.trans e3) r3
end
section
variable {Rl : Hp → Hp → Prop} [RlOk Rl] {K : PySem.W.Frag} {d d1 d2 : PyData} {ds : List PyData}
theorem rc_one {r : List V → Hp → VK → Prop} (h : ∀ G H v, Sub G H → Rp G v d1 → ∀ Q : VK, (∀ v G' H', Gr Rl G H G' H' → Rp G' v d → Q v H') → r [v] H Q) : RCD Rl r [d1] d := fun G H vs s rs Q q => by
  obtain ⟨v, ws, rfl, r1, r2⟩ := rs.consE
  obtain rfl := r2.nilE
  exact h G H v s r1 Q q
theorem rc_lenT : RCD Rl (fun xs H Q => ∃ p ys, xs = [.ref p] ∧ (SqL K H p ys ∨ SqT K H p ys) ∧ Q (.int ys.length) H) [.tuple ds] (.int ds.length) := rc_one fun G H v s r Q q => by
  obtain ⟨a, xs, rfl, ha, rs⟩ := r.tupE
  exact ⟨a, xs, rfl, .inr (SqT.of (s.1 _ _ ha)), by rw [rs.len]; exact q _ G H (.refl s) (.int _)⟩
theorem rc_lenL : RCD Rl (fun xs H Q => ∃ p ys, xs = [.ref p] ∧ (SqL K H p ys ∨ SqT K H p ys) ∧ Q (.int ys.length) H) [.list ds] (.int ds.length) := rc_one fun G H v s r Q q => by
  obtain ⟨a, xs, rfl, ha, rs⟩ := r.lstE
  exact ⟨a, xs, rfl, .inl (SqL.of (s.1 _ _ ha)), by rw [rs.len]; exact q _ G H (.refl s) (.int _)⟩
theorem rc_lenS {z : Str} (hz : z.length ≤ 100000) : RCD Rl (fun xs H Q => ∃ z, xs = [.str z] ∧ z.length ≤ sizeLine ∧ Q (.int z.length) H) [.str z] (.int z.length) := rc_one fun G H v s r Q q =>
  ⟨z, by rw [r.strE], Evl.sz_of hz, q _ G H (.refl s) (.int _)⟩
theorem rc_listT : RCD Rl (fun xs H Q => ∃ p ys, xs = [.ref p] ∧ (SqL K H p ys ∨ SqT K H p ys) ∧ ∀ l, H l = none → Q (.ref l) (upd H l (.lst ys))) [.tuple ds] (.list ds) := rc_one fun G H v s r Q q => by
  obtain ⟨a, xs, rfl, ha, rs⟩ := r.tupE
  exact ⟨a, xs, rfl, .inr (SqT.of (s.1 _ _ ha)), fun l hl => q _ _ _ (.laid s hl (fun _ z => by cases z)) (Rp.newL (s.fr hl) rs)⟩
theorem rc_tupL : RCD Rl (fun xs H Q => ∃ p ys, xs = [.ref p] ∧ ((SqL K H p ys ∧ ∀ l, H l = none → Q (.ref l) (upd H l (.tup ys))) ∨ (SqT K H p ys ∧ Q (.ref p) H))) [.list ds] (.tuple ds) := rc_one fun G H v s r Q q => by
  obtain ⟨a, xs, rfl, ha, rs⟩ := r.lstE
  exact ⟨a, xs, rfl, .inl ⟨SqL.of (s.1 _ _ ha), fun l hl => q _ _ _ (.laid s hl (fun _ z => by cases z)) (Rp.newT (s.fr hl) rs)⟩⟩
theorem rc_all {bs : List Bool} : RCD Rl (rAll K) [.list (bs.map PyData.bool)] (.bool (bs.all id)) := rc_one fun G H v s r Q q => by
  obtain ⟨a, xs, rfl, ha, rs⟩ := r.lstE
  obtain rfl := rs.bools
  exact ⟨a, bs, rfl, SqL.of (s.1 _ _ ha), q _ G H (.refl s) (.bl _)⟩
theorem rc_sum {ns : List Int} : RCD Rl (rSum K) [.list (ns.map PyData.int)] (.int ns.sum) := rc_one fun G H v s r Q q => by
  obtain ⟨a, xs, rfl, ha, rs⟩ := r.lstE
  obtain rfl := rs.ints
  exact ⟨a, ns, rfl, SqL.of (s.1 _ _ ha), q _ G H (.refl s) (.int _)⟩
theorem rc_int {i : Int} : RCD Rl (fun xs H Q => (∃ i, xs = [.int i] ∧ Q (.int i) H) ∨ ∃ k, xs = [.bl k] ∧ Q (.int (if k then 1 else 0)) H) [.int i] (.int i) := rc_one fun G H v s r Q q =>
  .inl ⟨i, by rw [r.intE], q _ G H (.refl s) (.int _)⟩
theorem rc_strI {i : Int} (h : i.natAbs.log2 < 1920) : RCD Rl (fun xs H Q => ∃ i, xs = [.int i] ∧ i.natAbs.log2 < 1920 ∧ Q (.str (toString i)) H) [.int i] (.str (toString i)) := rc_one fun G H v s r Q q =>
  ⟨i, by rw [r.intE], h, q _ G H (.refl s) (.str _)⟩
end

section
variable {Rl : Hp → Hp → Prop} [RlOk Rl] {X : Cx} {σ : L2.St} {G G' : Hp} {e a b c : Expr} {d d1 d2 d3 : PyData} {te : TE} {tt : TT} {pos p p2 : Pos} {ds : List PyData}
theorem g_lenT (hm : X.mg "len" = none) (ha : Gd Rl X σ G a (.tuple ds)) (hg : Gl X "len" := by rfl) (he : starEach [a] X.env = (false, eval a X.env) :: starEach [] X.env := by rfl) : Gd Rl X σ G (.Call (.Name "len" p) [a] [] pos) (.int ds.length) :=
  g_cb call_len_seq rc_lenT hm PySem.boot_len (ga_cons ha ga_nil he) hg (by decide) (by decide) he rfl
theorem g_lenL (hm : X.mg "len" = none) (ha : Gd Rl X σ G a (.list ds)) (hg : Gl X "len" := by rfl) (he : starEach [a] X.env = (false, eval a X.env) :: starEach [] X.env := by rfl) : Gd Rl X σ G (.Call (.Name "len" p) [a] [] pos) (.int ds.length) :=
  g_cb call_len_seq rc_lenL hm PySem.boot_len (ga_cons ha ga_nil he) hg (by decide) (by decide) he rfl
theorem g_lenS {z : Str} (hm : X.mg "len" = none) (hz : z.length ≤ 100000) (ha : Gd Rl X σ G a (.str z)) (hg : Gl X "len" := by rfl) (he : starEach [a] X.env = (false, eval a X.env) :: starEach [] X.env := by rfl) : Gd Rl X σ G (.Call (.Name "len" p) [a] [] pos) (.int z.length) :=
  g_cb call_len_str (rc_lenS hz) hm PySem.boot_len (ga_cons ha ga_nil he) hg (by decide) (by decide) he rfl
theorem g_list (hm : X.mg "list" = none) (ha : Gd Rl X σ G a (.tuple ds)) (hg : Gl X "list" := by rfl) (he : starEach [a] X.env = (false, eval a X.env) :: starEach [] X.env := by rfl) : Gd Rl X σ G (.Call (.Name "list" p) [a] [] pos) (.list ds) :=
  g_ct call_list_of rc_listT hm (by decide +kernel) (ga_cons ha ga_nil he) hg (by decide) (by decide) he rfl
theorem g_tuple (hm : X.mg "tuple" = none) (ha : Gd Rl X σ G a (.list ds)) (hg : Gl X "tuple" := by rfl) (he : starEach [a] X.env = (false, eval a X.env) :: starEach [] X.env := by rfl) : Gd Rl X σ G (.Call (.Name "tuple" p) [a] [] pos) (.tuple ds) :=
  g_ct call_tuple_of rc_tupL hm (by decide +kernel) (ga_cons ha ga_nil he) hg (by decide) (by decide) he rfl
theorem g_all {bs : List Bool} (hc : X.calm = true) (hm : X.mg "all" = none) (ha : Gd Rl X σ G a (.list (bs.map PyData.bool))) (hg : Gl X "all" := by rfl) (he : starEach [a] X.env = (false, eval a X.env) :: starEach [] X.env := by rfl) : Gd Rl X σ G (.Call (.Name "all" p) [a] [] pos) (.bool (bs.all id)) :=
  g_cb (cr_all hc) rc_all hm (by decide +kernel) (ga_cons ha ga_nil he) hg (by decide) (by decide) he rfl
theorem g_sum {ns : List Int} (hc : X.calm = true) (hm : X.mg "sum" = none) (ha : Gd Rl X σ G a (.list (ns.map PyData.int))) (hg : Gl X "sum" := by rfl) (he : starEach [a] X.env = (false, eval a X.env) :: starEach [] X.env := by rfl) : Gd Rl X σ G (.Call (.Name "sum" p) [a] [] pos) (.int ns.sum) :=
  g_cb (cr_sum hc) rc_sum hm (by decide +kernel) (ga_cons ha ga_nil he) hg (by decide) (by decide) he rfl
theorem g_toInt {i : Int} (hm : X.mg "int" = none) (ha : Gd Rl X σ G a (.int i)) (hg : Gl X "int" := by rfl) (he : starEach [a] X.env = (false, eval a X.env) :: starEach [] X.env := by rfl) : Gd Rl X σ G (.Call (.Name "int" p) [a] [] pos) (.int i) :=
  g_ct call_int1 rc_int hm (by decide +kernel) (ga_cons ha ga_nil he) hg (by decide) (by decide) he rfl
theorem g_strI {i : Int} (hm : X.mg "str" = none) (h : i.natAbs.log2 < 1920) (ha : Gd Rl X σ G a (.int i)) (hg : Gl X "str" := by rfl) (he : starEach [a] X.env = (false, eval a X.env) :: starEach [] X.env := by rfl) : Gd Rl X σ G (.Call (.Name "str" p) [a] [] pos) (.str (toString i)) :=
  g_ct call_str_int (rc_strI h) hm (by decide +kernel) (ga_cons ha ga_nil he) hg (by decide) (by decide) he rfl

/-! ### isinstance -/
def tyN : PyData → String
  | .none => "NoneType"
  | .bool _ => "bool"
  | .int _ => "int"
  | .str _ => "str"
  | .list _ => "list"
  | .tuple _ => "tuple"
  | .dict _ => "dict"
theorem Rp.ty {K : PySem.W.Frag} {v : V} (r : Rp G v d) : TyX K G v (.type (tyN d)) := by
  cases r with
  | non => exact .base .non
  | bl b => exact .base (.bl b)
  | int i => exact .base (.int i)
  | str x => exact .base (.str x)
  | lst h _ => exact .base (.lst h)
  | tup h _ => exact .base (.tup h)
/-- isinstance(d, T), T written -/
def isTy (d : PyData) (T : String) : Bool := (kitB (tyN d) T).getD false
theorem g_isi {x : Str} {T : String} {k : Bool} (hm0 : X.mg "isinstance" = none) (hm : X.mg x = none) (hv : bootBuiltins x = some (.type T)) (hk : kitB (tyN d) T = some k) (ha : Gd Rl X σ G a d) (hg0 : Gl X "isinstance" := by rfl) (hg : Gl X x := by rfl) (hn : x ≠ "__name__" := by decide) (hd : (x == ("__debug__" : Str)) = false := by decide)
    (he : starEach [a, .Name x p2] X.env = (false, eval a X.env) :: starEach [.Name x p2] X.env := by rfl) (he2 : starEach [.Name x p2] X.env = (false, eval (.Name x p2) X.env) :: starEach [] X.env := by rfl) : Gd Rl X σ G (.Call (.Name "isinstance" p) [a, .Name x p2] [] pos) (.bool k) := by
  refine .of (pe_callB call_isi hg0 hm0 (by decide +kernel) (pa_cons pe_w (pa_cons (pe_bltn (v := .ty T) hg hm hv rfl hn hd) pa_nil he2) he) (by decide) (by decide) he (by rw [he2]; rfl)) fun G1 y H s Q q => ha G1 y H s _ fun v G2 H2 e2 r2 => ?_
  exact ⟨v, .ty T, _, .type T, k, rfl, .ty T, (r2.mono e2.sub.1).ty, kit_ty hk, q _ G2 H2 e2 (.bl _)⟩
end

end WR
end
section
set_option Elab.async false
set_option linter.all false
set_option maxRecDepth 100000
namespace WR
open PySem PySem.Spec PyProof.Rows L2

/-! ### comprehensions -/
/-- in every block of the comprehension -/
def InB (X : Cx) (scope : Scope) (P : Cx → Prop) : Prop := ∀ (s : Shared) (H : Hp) (C : Addr) (cl : List (Str × Addr)) (fp : List Addr), P (X.blk s H scope (compEnvC scope cl C X.env) fp)
def WBE (X : Cx) (scope : Scope) (e : Expr) : TE := fun σ H Q => InB X scope fun Y => WE Y e σ H Q
def WBI (X : Cx) (scope : Scope) (ifs : List Expr) : TT := fun σ H Q => InB X scope fun Y => WI Y ifs σ H Q
section
variable {Rl : Hp → Hp → Prop} [RlOk Rl] {X : Cx} {σ : L2.St} {G G' : Hp} {e elt iter : Expr} {ifs : List Expr} {scope : Scope}
theorem pe_wb (s : Shared) (H : Hp) (C : Addr) (cl : List (Str × Addr)) (fp : List Addr) : PE (X.blk s H scope (compEnvC scope cl C X.env) fp) e (WBE X scope e) := ⟨fun pins sh σ H' Q I h => h s H C cl fp pins sh I⟩
theorem pi_wb (s : Shared) (H : Hp) (C : Addr) (cl : List (Str × Addr)) (fp : List Addr) : PTs (X.blk s H scope (compEnvC scope cl C X.env) fp) ifs (WBI X scope ifs) := ⟨fun pins sh σ H' Q I h => h s H C cl fp pins sh I⟩
theorem ed_wb {d : PyData} (h : InB X scope fun Y => Gd Rl Y σ G e d) : ∀ G1, Ex G G1 → Ed Rl (WBE X scope e) σ G1 d := fun G1 x H s Q q s0 H0 C cl fp => h s0 H0 C cl fp G1 x H s Q q
theorem edt_wb {k : Bool} (h : InB X scope fun Y => Gi Rl Y σ G ifs k) : ∀ G1, Ex G G1 → EdT Rl (WBI X scope ifs) σ G1 k := fun G1 x H s Q q s0 H0 C cl fp => h s0 H0 C cl fp G1 x H s Q q

/-- the word of a comprehension's turns: D the new list, told of as data -/
def Cv (Rl : Hp → Hp → Prop) (G1 H1 : Hp) (D : Addr) (l : Nat → List PyData) (i : Nat) (H' : Hp) : Prop := ∃ G', Gr Rl G1 H1 G' H' ∧ G' D = none ∧ ∃ acc, H' D = some (.lst acc) ∧ RpAll G' acc (l i)
theorem cv_start {G1 H1 : Hp} {D : Addr} {l : Nat → List PyData} (s : Sub G1 H1) (hD : H1 D = none) (h0 : l 0 = []) : Cv Rl G1 H1 D l 0 (upd H1 D (.lst [])) := by
  refine ⟨G1, .of_rl s (RlOk.ex (Evl.Ex.new hD)), s.fr hD, [], upd_same, ?_⟩
  rw [h0]
  exact .nil
theorem cv_turn {G1 H1 H' : Hp} {D : Addr} {l : Nat → List PyData} {i : Nat} {σ2 : L2.St} {k : Bool} {d : PyData} {tt : TT} {te : TE} (hD : H1 D = none) (p : Cv Rl G1 H1 D l i H') (hl : (l i).length < 100000)
    (ht : ∀ G2, Ex G1 G2 → EdT Rl tt σ2 G2 k) (he : k = true → ∀ G2, Ex G1 G2 → Ed Rl te σ2 G2 d) (h1 : k = true → l (i + 1) = l i ++ [d]) (h2 : k = false → l (i + 1) = l i) :
    tt σ2 H' fun b H3 => if b = true then te σ2 H3 fun y H4 => ∃ acc, H4 D = some (.lst acc) ∧ acc.length < sizeLine ∧ Cv Rl G1 H1 D l (i + 1) (upd H4 D (.lst (acc ++ [y]))) else Cv Rl G1 H1 D l (i + 1) H3 := by
  obtain ⟨G', g, gD, acc, hacc, ra⟩ := p
  have nl : ∀ ps, HO.lst acc ≠ .tbl ps := fun _ z => by cases z
  refine ht G' g.ex H' g.sub _ fun G2 H3 e3 => ?_
  have a3 : H3 D = some (.lst acc) := RlOk.keep e3.rl hacc nl
  have n3 : G2 D = none := e3.out gD hacc nl
  cases k with
  | false =>
    show Cv Rl G1 H1 D l (i + 1) H3
    refine ⟨G2, g.trans e3, n3, acc, a3, ?_⟩
    rw [h2 rfl]
    exact ra.mono e3.ex
  | true =>
    refine he rfl G2 (g.ex.trans e3.ex) H3 e3.sub _ fun y G3 H4 e4 ry => ?_
    have a4 : H4 D = some (.lst acc) := RlOk.keep e4.rl a3 nl
    have n4 : G3 D = none := e4.out n3 a3 nl
    refine ⟨acc, a4, Nat.lt_of_lt_of_le (by rw [ra.len]; exact hl) (by decide), G3, ⟨(g.ex.trans e3.ex).trans e4.ex, ⟨fun b o h => ?_, e4.sub.2⟩, RlOk.muL ((g.trans e3).trans e4).rl hD a4, ((g.trans e3).trans e4).new⟩, n4, acc ++ [y], upd_same, ?_⟩
    · rw [upd_ne (ne_of_none h n4)]
      exact e4.sub.1 b o h
    · rw [h1 rfl]
      exact ((ra.mono e3.ex).mono e4.ex).app (.cons ry .nil)
theorem cv_end {G1 H1 H' : Hp} {D : Addr} {l : Nat → List PyData} {n : Nat} (hD : H1 D = none) (p : Cv Rl G1 H1 D l n H') : ∃ G', Gr Rl G1 H1 G' H' ∧ Rp G' (.ref D) (.list (l n)) := by
  obtain ⟨G', g, gD, acc, hacc, ra⟩ := p
  refine ⟨upd G' D (.lst acc), ⟨g.ex.trans (Evl.Ex.new gD), ⟨fun b o h => ?_, fun b ps h => ?_⟩, g.rl, fun b h => ?_⟩, .lst upd_same (ra.mono (Evl.Ex.new gD))⟩
  · by_cases q : b = D
    · subst q; rw [upd_same] at h; rw [hacc]; exact h
    · rw [upd_ne q] at h; exact g.sub.1 b o h
  · by_cases q : b = D
    · subst q; rw [upd_same] at h; cases h
    · rw [upd_ne q] at h; exact g.sub.2 b ps h
  · by_cases q : b = D
    · subst q; exact .inr (.of_none hD)
    · rw [upd_ne q] at h; exact g.new b h
theorem wipe1 (σ : L2.St) (j : Nat) (x : Option V) : wipe ((wipe σ [j]).set j x) [j] = wipe σ [j] := by
  show (((σ.set j none).set j x).set j none) = σ.set j none
  rw [List.set_set, List.set_set]
theorem take_filter_yes {α β : Type} {ds : List α} {p : α → Bool} {f : α → β} {i : Nat} {d : α} (h : ds[i]? = some d) (hp : p d = true) : ((ds.take (i + 1)).filter p).map f = ((ds.take i).filter p).map f ++ [f d] := by
  have e : ds.take (i + 1) = ds.take i ++ [d] := by
    rw [List.take_add_one, h]; rfl
  rw [e, List.filter_append, List.map_append]
  simp [hp]
theorem take_filter_no {α β : Type} {ds : List α} {p : α → Bool} {f : α → β} {i : Nat} {d : α} (h : ds[i]? = some d) (hp : p d = false) : ((ds.take (i + 1)).filter p).map f = ((ds.take i).filter p).map f := by
  have e : ds.take (i + 1) = ds.take i ++ [d] := by
    rw [List.take_add_one, h]; rfl
  rw [e, List.filter_append, List.map_append]
  simp [hp]
theorem take_filter_len {α β : Type} (ds : List α) (p : α → Bool) (f : α → β) (i : Nat) : (((ds.take i).filter p).map f).length ≤ ds.length := by
  rw [List.length_map]
  refine Nat.le_trans (List.length_filter_le _ _) ?_
  rw [List.length_take]
  exact Nat.min_le_right _ _


/-! ### statements -/
end
def Ws (X : Cx) (sts : List Stmt) : TS := fun D σ H => ∀ (pins : List (Addr × Obj)) (s : Shared), Inv X pins σ H s → wpAny (model X.prog X.w) X.A (execs sts X.env) (SP X pins D) X.xe s
section
variable {Rl : Hp → Hp → Prop} [RlOk Rl] {X : Cx} {σ : L2.St} {G G' H : Hp} {e elt iter c : Expr} {ifs : List Expr} {scope : Scope} {st : Stmt} {rest body : List Stmt} {D D' : Ends} {d : PyData} {t : TS}
theorem pss_w : PSs X rest (Ws X rest) := ⟨fun pins s σ H D I h => h pins s I⟩
theorem ws_of (h : PSs X rest t) (r : t D σ H) : Ws X rest D σ H := fun pins s I => h.run pins s σ H D I r
theorem ws_cons (h : PS X st t) (r : t { D with nx := fun σ' H' => Ws X rest D σ' H' } σ H) : Ws X (st :: rest) D σ H := ws_of (pss_cons h pss_w) r
theorem ws_nil (h : D.nx σ H) : Ws X [] D σ H := ws_of pss_nil h
theorem ws_mono (h : Ws X rest D σ H) (n : ∀ σ H, D.nx σ H → D'.nx σ H) (r : ∀ v H, D.rt v H → D'.rt v H) (b : ∀ σ H, D.bk σ H → D'.bk σ H) (c : ∀ σ H, D.ct σ H → D'.ct σ H) : Ws X rest D' σ H := fun pins s I =>
  thn (h pins s I) fun f s1 q => by
    cases f with
    | next => obtain ⟨σ', H', I', q⟩ := q; exact ⟨σ', H', I', n _ _ q⟩
    | brk => obtain ⟨σ', H', I', q⟩ := q; exact ⟨σ', H', I', b _ _ q⟩
    | cont => obtain ⟨σ', H', I', q⟩ := q; exact ⟨σ', H', I', c _ _ q⟩
    | ret u => obtain ⟨v, σ', H', I', rv, q⟩ := q; exact ⟨v, σ', H', I', rv, r _ _ q⟩
variable {x : Str} {j i : Nat} {tpos pos pos' : Pos} {ds : List PyData}
theorem ws_set (hN : X.N.Nodup) (hi : X.N[i]? = some x) (hx : Loc X.env.scope x) (sb : Sub G H) (he : Gd Rl X σ G e d) (k : ∀ v G' H', Gr Rl G H G' H' → Rp G' v d → Ws X rest D (σ.set i (some v)) H')
    (hs : swapsWith e (some (.Name x pos')) pos.line X.env = pure false := by rfl) (hf : X.fn x = true ∨ X.env.scope.names.lookup x = some .local := by first | exact .inl rfl | exact .inr rfl | assumption) : Ws X (.Assign [.Name x pos'] e pos :: rest) D σ H :=
  ws_cons (ps_set hN hi hx pe_w hs hf) (he G (Evl.Ex.refl G) H sb _ fun v G' H' g r => k v G' H' g r)
theorem ws_ret (sb : Sub G H) (he : Gd Rl X σ G e d) (k : ∀ v G' H', Gr Rl G H G' H' → Rp G' v d → D.rt v H') : Ws X (.Return (some e) pos :: rest) D σ H :=
  ws_cons (ps_ret pe_w) (he G (Evl.Ex.refl G) H sb _ fun v G' H' g r => k v G' H' g r)
theorem ws_expr (sb : Sub G H) (he : Gd Rl X σ G e d) (k : ∀ G' H', Gr Rl G H G' H' → Ws X rest D σ H') (hs : swapsWith e none pos.line X.env = pure false := by rfl) : Ws X (.Expr e pos :: rest) D σ H :=
  ws_cons (ps_expr pe_w hs) (he G (Evl.Ex.refl G) H sb _ fun v G' H' g r => k G' H' g)
/-- if c: body, nothing else -/
theorem ws_if {b : Bool} (sb : Sub G H) (hc : Gt Rl X σ G c b) (h1 : b = true → ∀ G' H', Gr Rl G H G' H' → Ws X body { D with nx := fun σ' H' => Ws X rest D σ' H' } σ H') (h2 : b = false → ∀ G' H', Gr Rl G H G' H' → Ws X rest D σ H') : Ws X (.If c body [] pos :: rest) D σ H := by
  refine ws_cons (ps_if pt_w pss_w pss_w) (hc G (Evl.Ex.refl G) H sb _ fun G' H' g => ?_)
  cases b with
  | true => exact h1 rfl G' H' g
  | false => exact ws_nil (h2 rfl G' H' g)

/-- [elt for x in (a tuple) if ..]: the reading -/
theorem ed_lcT (p : PyData → Bool) (f : PyData → PyData) (hi : Gd Rl X σ G iter (.tuple ds)) (hz : ds.length < 100000)
    (hb : ∀ d v G1, d ∈ ds → Ex G G1 → Rp G1 v d → (InB X scope fun Y => Gi Rl Y ((wipe σ [j]).set j (some v)) G1 ifs (p d)) ∧ (p d = true → InB X scope fun Y => Gd Rl Y ((wipe σ [j]).set j (some v)) G1 elt (f d))) :
    ∀ G1, Ex G G1 → Ed Rl (tLc (iTup X.K (WE X iter)) (gName j) (WBI X scope ifs) (WBE X scope elt) [j]) σ G1 (.list ((ds.filter p).map f)) := by
  refine fun G0 x0 H s Q q => hi G0 x0 H s _ fun v G1 H1 e1 r1 => ?_
  obtain ⟨a, xs, rfl, ha, rs⟩ := r1.tupE
  refine ⟨a, rfl, ⟨xs, SqT.of (e1.sub.1 _ _ ha)⟩, fun D hD => ?_⟩
  refine lc_tup (xs := xs) (Cv Rl G1 H1 D fun i => ((ds.take i).filter p).map f) (cv_start e1.sub hD rfl) (fun i H' _ c => ?_) (fun i u H' hu c => ?_) fun H' c => ?_
  · obtain ⟨G', g, _⟩ := c
    exact SqT.of (g.sub.1 _ _ (g.ex _ _ ha))
  · obtain ⟨d, hd, rd⟩ := rs.get hu
    have hm : d ∈ ds := List.mem_of_getElem? hd
    obtain ⟨b1, b2⟩ := hb d u G1 hm (x0.trans e1.ex) rd
    refine ⟨wipe1 σ j _, cv_turn (k := p d) (d := f d) hD c (Nat.lt_of_le_of_lt (take_filter_len ds p f i) hz) (edt_wb b1) (fun k => ed_wb (b2 k)) (fun k => take_filter_yes hd k) fun k => take_filter_no hd k⟩
  · obtain ⟨G', g, r⟩ := cv_end hD c
    rw [rs.len, List.take_length] at r
    exact q _ G' H' (e1.trans g) r
theorem g_lcT (p : PyData → Bool) (f : PyData → PyData) (hc : X.calm = true) (hN : X.N.Nodup) (ok : BlkOk X.N X.env.scope scope [(x, j)]) (hg : InB X scope fun Y => PG Y (.Name x tpos) (gName j))
    (hi : Gd Rl X σ G iter (.tuple ds)) (hz : ds.length < 100000)
    (hb : ∀ d v G1, d ∈ ds → Ex G G1 → Rp G1 v d → (InB X scope fun Y => Gi Rl Y ((wipe σ [j]).set j (some v)) G1 ifs (p d)) ∧ (p d = true → InB X scope fun Y => Gd Rl Y ((wipe σ [j]).set j (some v)) G1 elt (f d)))
    (hs : ∀ x, foldedSetIterable iter X.env x = pure x := by intro _; rfl) : Gd Rl X σ G (.ListComp elt [⟨.Name x tpos, iter, ifs, 0⟩] scope pos) (.list ((ds.filter p).map f)) :=
  .of (pe_lc (own := [(x, j)]) hc hN (pi_tup pe_w) ok hg pi_wb pe_wb hs) (ed_lcT p f hi hz hb)
/-- y = [..], y a local -/
theorem ws_setLcT {H : Hp} {y : Str} {i : Nat} {py spos : Pos} {rest : List Stmt} {D : Ends} (p : PyData → Bool) (f : PyData → PyData) (hc : X.calm = true) (hN : X.N.Nodup) (hy : X.N[i]? = some y) (hyl : X.env.scope.names.lookup y = some .local)
    (hsw : swapsWith (.ListComp elt [⟨.Name x tpos, iter, ifs, 0⟩] scope pos) (some (.Name y py)) spos.line X.env = pure true) (ok : BlkOk X.N X.env.scope scope [(x, j)]) (hg : InB X scope fun Y => PG Y (.Name x tpos) (gName j))
    (sb : Sub G H) (hi : Gd Rl X σ G iter (.tuple ds)) (hz : ds.length < 100000)
    (hb : ∀ d v G1, d ∈ ds → Ex G G1 → Rp G1 v d → (InB X scope fun Y => Gi Rl Y ((wipe σ [j]).set j (some v)) G1 ifs (p d)) ∧ (p d = true → InB X scope fun Y => Gd Rl Y ((wipe σ [j]).set j (some v)) G1 elt (f d)))
    (k : ∀ v G' H', Gr Rl G H G' H' → Rp G' v (.list ((ds.filter p).map f)) → Ws X rest D (σ.set i (some v)) H')
    (hs : ∀ x, foldedSetIterable iter X.env x = pure x := by intro _; rfl) : Ws X (.Assign [.Name y py] (.ListComp elt [⟨.Name x tpos, iter, ifs, 0⟩] scope pos) spos :: rest) D σ H :=
  ws_cons (ps_setLc (own := [(x, j)]) hc hN hy hyl hsw (pi_tup pe_w) ok hg pi_wb pe_wb hs) (ed_lcT p f hi hz hb G (Evl.Ex.refl G) H sb _ fun v G' H' g r => k v G' H' g r)

/-- [elt for x in (a list) if ..]: the reading -/
theorem ed_lcL (p : PyData → Bool) (f : PyData → PyData) (hi : Gd Rl X σ G iter (.list ds)) (hz : ds.length < 100000)
    (hb : ∀ d v G1, d ∈ ds → Ex G G1 → Rp G1 v d → (InB X scope fun Y => Gi Rl Y ((wipe σ [j]).set j (some v)) G1 ifs (p d)) ∧ (p d = true → InB X scope fun Y => Gd Rl Y ((wipe σ [j]).set j (some v)) G1 elt (f d))) :
    ∀ G1, Ex G G1 → Ed Rl (tLc (iList X.K (WE X iter)) (gName j) (WBI X scope ifs) (WBE X scope elt) [j]) σ G1 (.list ((ds.filter p).map f)) := by
  refine fun G0 x0 H s Q q => hi G0 x0 H s _ fun v G1 H1 e1 r1 => ?_
  obtain ⟨a, xs, rfl, ha, rs⟩ := r1.lstE
  refine ⟨a, rfl, ⟨xs, SqL.of (e1.sub.1 _ _ ha)⟩, fun D hD => ?_⟩
  refine lc_list (xs := xs) (Cv Rl G1 H1 D fun i => ((ds.take i).filter p).map f) (cv_start e1.sub hD rfl) (fun i H' _ c => ?_) (fun i u H' hu c => ?_) fun H' c => ?_
  · obtain ⟨G', g, _⟩ := c
    exact SqL.of (g.sub.1 _ _ (g.ex _ _ ha))
  · obtain ⟨d, hd, rd⟩ := rs.get hu
    have hm : d ∈ ds := List.mem_of_getElem? hd
    obtain ⟨b1, b2⟩ := hb d u G1 hm (x0.trans e1.ex) rd
    refine ⟨wipe1 σ j _, cv_turn (k := p d) (d := f d) hD c (Nat.lt_of_le_of_lt (take_filter_len ds p f i) hz) (edt_wb b1) (fun k => ed_wb (b2 k)) (fun k => take_filter_yes hd k) fun k => take_filter_no hd k⟩
  · obtain ⟨G', g, r⟩ := cv_end hD c
    rw [rs.len, List.take_length] at r
    exact q _ G' H' (e1.trans g) r
theorem g_lcL (p : PyData → Bool) (f : PyData → PyData) (hc : X.calm = true) (hN : X.N.Nodup) (ok : BlkOk X.N X.env.scope scope [(x, j)]) (hg : InB X scope fun Y => PG Y (.Name x tpos) (gName j))
    (hi : Gd Rl X σ G iter (.list ds)) (hz : ds.length < 100000)
    (hb : ∀ d v G1, d ∈ ds → Ex G G1 → Rp G1 v d → (InB X scope fun Y => Gi Rl Y ((wipe σ [j]).set j (some v)) G1 ifs (p d)) ∧ (p d = true → InB X scope fun Y => Gd Rl Y ((wipe σ [j]).set j (some v)) G1 elt (f d)))
    (hs : ∀ x, foldedSetIterable iter X.env x = pure x := by intro _; rfl) : Gd Rl X σ G (.ListComp elt [⟨.Name x tpos, iter, ifs, 0⟩] scope pos) (.list ((ds.filter p).map f)) :=
  .of (pe_lc (own := [(x, j)]) hc hN (pi_list pe_w) ok hg pi_wb pe_wb hs) (ed_lcL p f hi hz hb)
/-- y = [..], y a local -/
theorem ws_setLcL {H : Hp} {y : Str} {i : Nat} {py spos : Pos} {rest : List Stmt} {D : Ends} (p : PyData → Bool) (f : PyData → PyData) (hc : X.calm = true) (hN : X.N.Nodup) (hy : X.N[i]? = some y) (hyl : X.env.scope.names.lookup y = some .local)
    (hsw : swapsWith (.ListComp elt [⟨.Name x tpos, iter, ifs, 0⟩] scope pos) (some (.Name y py)) spos.line X.env = pure true) (ok : BlkOk X.N X.env.scope scope [(x, j)]) (hg : InB X scope fun Y => PG Y (.Name x tpos) (gName j))
    (sb : Sub G H) (hi : Gd Rl X σ G iter (.list ds)) (hz : ds.length < 100000)
    (hb : ∀ d v G1, d ∈ ds → Ex G G1 → Rp G1 v d → (InB X scope fun Y => Gi Rl Y ((wipe σ [j]).set j (some v)) G1 ifs (p d)) ∧ (p d = true → InB X scope fun Y => Gd Rl Y ((wipe σ [j]).set j (some v)) G1 elt (f d)))
    (k : ∀ v G' H', Gr Rl G H G' H' → Rp G' v (.list ((ds.filter p).map f)) → Ws X rest D (σ.set i (some v)) H')
    (hs : ∀ x, foldedSetIterable iter X.env x = pure x := by intro _; rfl) : Ws X (.Assign [.Name y py] (.ListComp elt [⟨.Name x tpos, iter, ifs, 0⟩] scope pos) spos :: rest) D σ H :=
  ws_cons (ps_setLc (own := [(x, j)]) hc hN hy hyl hsw (pi_list pe_w) ok hg pi_wb pe_wb hs) (ed_lcL p f hi hz hb G (Evl.Ex.refl G) H sb _ fun v G' H' g r => k v G' H' g r)

/-- [elt for k in range(z) if ..] -/
theorem g_lcR {rp ip : Pos} {ne : Expr} {z : Int} (p : Nat → Bool) (f : Nat → PyData) (hc : X.calm = true) (hN : X.N.Nodup) (ok : BlkOk X.N X.env.scope scope [(x, j)]) (hg : InB X scope fun Y => PG Y (.Name x tpos) (gName j))
    (hm : X.mg "range" = none) (hi : Gd Rl X σ G ne (.int z)) (hz : -100 ≤ z ∧ z < 40000)
    (hb : ∀ i G1, i < z.toNat → Ex G G1 → (InB X scope fun Y => Gi Rl Y ((wipe σ [j]).set j (some (.int (i : Int)))) G1 ifs (p i)) ∧ (p i = true → InB X scope fun Y => Gd Rl Y ((wipe σ [j]).set j (some (.int (i : Int)))) G1 elt (f i)))
    (hgr : Gl X "range" := by rfl) (hst : starEach [ne] X.env = (false, eval ne X.env) :: starEach [] X.env := by rfl) (hs : ∀ x, foldedSetIterable (.Call (.Name "range" rp) [ne] [] ip) X.env x = pure x := by intro _; rfl) :
    Gd Rl X σ G (.ListComp elt [⟨.Name x tpos, .Call (.Name "range" rp) [ne] [] ip, ifs, 0⟩] scope pos) (.list (((List.range z.toNat).filter p).map f)) := by
  refine .of (pe_lc (own := [(x, j)]) hc hN (pi_range1 hgr hm pa_w hst) ok hg pi_wb pe_wb hs) fun G0 x0 H s Q q => ga_cons hi ga_nil hst G0 x0 H s _ fun vs G1 H1 e1 r1 => ?_
  obtain ⟨v, ws, rfl, rv, r2⟩ := r1.consE
  obtain rfl := r2.nilE
  obtain rfl := rv.intE
  refine ⟨z, rfl, by omega, by omega, fun D hD => ?_⟩
  have hn : z.toNat < 40000 := by omega
  generalize z.toNat = n at hb hn q ⊢
  refine lc_range (lo := 0) (n := n) (Cv Rl G1 H1 D fun i => (((List.range n).take i).filter p).map f) (cv_start e1.sub hD rfl) (fun i H' hi c => ?_) fun H' c => ?_
  · have hr : (List.range n)[i]? = some i := List.getElem?_range hi
    obtain ⟨b1, b2⟩ := hb i G1 hi (x0.trans e1.ex)
    have e0 : (0 : Int) + (i : Int) = (i : Int) := Int.zero_add _
    rw [e0]
    refine ⟨wipe1 σ j _, cv_turn (k := p i) (d := f i) hD c (Nat.lt_of_le_of_lt (take_filter_len _ p f i) (by rw [List.length_range]; omega)) (edt_wb b1) (fun k => ed_wb (b2 k)) (fun k => take_filter_yes hr k) fun k => take_filter_no hr k⟩
  · obtain ⟨G', g, r⟩ := cv_end hD c
    rw [show (List.range n).take n = List.range n from List.take_of_length_le (by rw [List.length_range]; exact Nat.le_refl _)] at r
    exact q _ G' H' (e1.trans g) r
end

/-! ### defs that give data for data -/
def PuSp (n : Nat) (R : List PyData → PyData → Prop) : Sp := fun vs H Q _ => vs.length = n ∧ ∃ G ds d, Sub G H ∧ RpAll G vs ds ∧ R ds d ∧ ∀ v G' H', Gr Ex G H G' H' → Rp G' v d → Q v H'
/-- the module's name x is a def that keeps this promise -/
structure Pu (P : Program) (w : World) (K : PySem.W.Frag) (mg : Str → Option Value) (base : Heap) (x : Str) (k n : Nat) (R : List PyData → PyData → Prop) : Prop where
  ex : ∃ f fd ps, FnOk P w K mg base CX0 k f fd ps (PuSp n R) ∧ mg x = some (.ref f) ∧ PySem.W.keepIn K (.ref f) = true ∧ Binds K fd ps []
abbrev bX (P : Program) (w : World) (K : PySem.W.Frag) (mg : Str → Option Value) (base : Heap) (N : List Str) (qual : Str) (sc : Scope) (f : Addr) (cdv : Value) (A : Around) (outer : List Env) (s : Shared) (H : Hp) (E : XK) : Cx := (cxOf CX0 P w K mg base N qual sc f cdv A outer s H E).nox
/-- what is wanted of the end: d is handed back -/
def Back (G H : Hp) (d : PyData) : Ends := { nx := fun _ H' => ∃ G', Gr Ex G H G' H' ∧ Rp G' .non d, rt := fun v H' => ∃ G', Gr Ex G H G' H' ∧ Rp G' v d }
section
variable {P : Program} {w : World} {K : PySem.W.Frag} {mg : Str → Option Value} {base : Heap}
theorem Gr.ofEx {Rl : Hp → Hp → Prop} [RlOk Rl] {G H G' H' : Hp} (g : Gr Ex G H G' H') : Gr Rl G H G' H' := ⟨g.ex, g.sub, RlOk.ex g.rl, g.new⟩
theorem pu_ok {x qual : Str} {st : Stmt} {f : Addr} {fd : FuncData} {N ps : List Str} {k : Nat} {R : List PyData → PyData → Prop} (F : Fun K x qual st f fd) (S : FnScope N ps (defScope st))
    (hbody : ∀ (cdv : Value) (A : Around) (outer : List Env) (s : Shared) (H0 : Hp) (E : XK) (G H : Hp) (vs : List V) (ds : List PyData) (d : PyData), Room k (bX P w K mg base N qual (defScope st) f cdv A outer s H0 E).A → Sub G H → RpAll G vs ds → ds.length = ps.length → R ds d →
      Ws (bX P w K mg base N qual (defScope st) f cdv A outer s H0 E) (defBody st) (Back G H d) (start N vs) H) : FnOk P w K mg base CX0 (k + 1) f fd ps (PuSp ps.length R) := by
  refine F.ok S (fun vs H Q E h => h.1) fun cdv A outer s H vs Q E hr h => ⟨_, pss_w, ?_⟩
  obtain ⟨hl, G, ds, d, sub, ra, hR, q⟩ := h
  exact ws_mono (hbody cdv A outer s H E G H vs ds d hr sub ra (by rw [← ra.len]; exact hl) hR) (fun _ H' ⟨G', g, r⟩ => q _ G' H' g r) (fun v H' ⟨G', g, r⟩ => q v G' H' g r) (fun _ _ z => z.elim) fun _ _ z => z.elim
theorem g_call {Rl : Hp → Hp → Prop} [RlOk Rl] {X : Cx} {σ : L2.St} {G : Hp} {x : Str} {k n : Nat} {R : List PyData → PyData → Prop} {e : Expr} {es : List Expr} {ds : List PyData} {d : PyData} {p pos : Pos} (pu : Pu X.prog X.w X.K X.mg X.base x k n R) (hr : Room k X.A)
    (ha : Ga Rl X σ G (e :: es) ds) (hn : ds.length = n) (hR : R ds d) (hg : Gl X x := by rfl) (hdb : (x == ("__debug__" : Str)) = false := by decide)
    (he : starEach (e :: es) X.env = (false, eval e X.env) :: starEach es X.env := by rfl) (hpl : (backTo pos (starEach es X.env)).any (·.1) = false := by rfl) : Gd Rl X σ G (.Call (.Name x p) (e :: es) [] pos) d := by
  obtain ⟨f, fd, ps, F, hm, hk, hb⟩ := pu.ex
  refine .of (pe_call F hr hg hm hk hb .nil pass0 pa_w hdb he hpl) fun G1 x H s Q q => ha G1 x H s _ fun vs G2 H2 e2 rs => ?_
  refine ⟨by rw [List.append_nil, rs.len]; exact hn, G2, ds, d, e2.sub, by rw [List.append_nil]; exact rs, hR, fun v G3 H3 g r => q v G3 H3 (e2.trans g.ofEx) r⟩
end
end WR
end
section
set_option Elab.async false
set_option linter.all false
set_option maxRecDepth 100000
set_option maxHeartbeats 2000000
/-! sorted(set(xs)) of texts: the set as it is filled, its walk, its sorting -/
namespace WR
open PySem PySem.Spec PyProof.Rows L2

def txOf (e : Int × Value) : Str := match e.2 with | .str z _ => z | _ => Str.empty
def TxE (w : World) (e : Int × Value) : Prop := ∃ z tk, e.2 = Value.str z tk ∧ e.1 = hashStr w z
/-- at a stands a set of just the texts of l -/
structure TxAt (w : World) (h : Heap) (a : Addr) (l : List Str) (o : Obj) (es : Array (Int × Value)) (ep : Nat) (t : SetTable) : Prop where
  at_ : h.get? a = some o
  ex : o.ExactSet
  da : o.data = .set es ep t
  gd : ∀ e ∈ es.toList, TxE w e
  nd : (es.toList.map txOf).Nodup
  mem : ∀ z, z ∈ l ↔ z ∈ es.toList.map txOf
  few : es.size < scanBound
  fit : t.fits es.size = true
  ris : Ris t.place.toList
  led : w.params.followText "set-order" = true ∨ t.led = true
def TxS (w : World) (h : Heap) (a : Addr) (l : List Str) (n : Nat) : Prop := ∃ o es ep t, TxAt w h a l o es ep t ∧ es.size = n
section
variable {P : Program} {w : World} {h h' : Heap} {a : Addr} {l : List Str} {n : Nat} {A : Around} {E : Value → Shared → Prop} {s : Shared}
theorem TxS.at (R : TxS w h a l n) (k : ∀ o, h.get? a = some o → h'.get? a = some o) : TxS w h' a l n := by
  obtain ⟨o, es, ep, t, x, y⟩ := R
  exact ⟨o, es, ep, t, ⟨k o x.at_, x.ex, x.da, x.gd, x.nd, x.mem, x.few, x.fit, x.ris, x.led⟩, y⟩
theorem TxS.to {l' : List Str} (R : TxS w h a l n) (e : ∀ z, z ∈ l' ↔ z ∈ l) : TxS w h a l' n := by
  obtain ⟨o, es, ep, t, x, y⟩ := R
  exact ⟨o, es, ep, t, ⟨x.at_, x.ex, x.da, x.gd, x.nd, fun z => (e z).trans (x.mem z), x.few, x.fit, x.ris, x.led⟩, y⟩
theorem tx_elems {l : List (Int × Value)} (g : ∀ e ∈ l, TxE w e) : ElemsOf (PySem.strKind P w) l := fun e he => by
  obtain ⟨z, tk, h1, h2⟩ := g e he
  exact ⟨⟨z, by rw [h1]; exact strKind_is P w z tk, h2⟩, by rw [h1]; rfl⟩
theorem tx_is {e : Int × Value} (g : TxE w e) (z : Str) : (PySem.strKind P w).is z e.2 = true ↔ txOf e = z := by
  obtain ⟨z0, tk, h1, _⟩ := g
  unfold txOf
  rw [h1]
  show Value.isStrOf z (.str z0 tk) = true ↔ z0 = z
  simp [Value.isStrOf]
theorem tx_mem {l : List (Int × Value)} (g : ∀ e ∈ l, TxE w e) (z : Str) : z ∈ l.map txOf ↔ ∃ e ∈ l, (PySem.strKind P w).is z e.2 = true := by
  rw [List.mem_map]
  exact ⟨fun ⟨e, he, q⟩ => ⟨e, he, (tx_is (g e he) z).2 q⟩, fun ⟨e, he, q⟩ => ⟨e, he, (tx_is (g e he) z).1 q⟩⟩

/-- the end of an add: the rows are stored, the table is laid again where it is too full -/
theorem tx_tail {g : Bool → Sem Unit} (hg : ∀ (b : Bool) (s₁ : Shared) (Q' : Unit → Shared → Prop), Q' () s₁ → wpAny (model P w) A (g b) Q' E s₁)
    {o : Obj} {es es1 : Array (Int × Value)} {ep : Nat} {t t2 : SetTable} (ho : s.heap.get? a = some o) (hex : o.ExactSet) (hd : o.data = .set es ep t)
    (g1 : ∀ e ∈ es1.toList, TxE w e) (nd1 : (es1.toList.map txOf).Nodup) (m1 : ∀ z, z ∈ l ↔ z ∈ es1.toList.map txOf) (hb1 : es1.size < scanBound) (hf2 : t2.fits es1.size = true) (hr : Ris t2.place.toList)
    (hl : w.params.followText "set-order" = true ∨ t2.led = true) {dum : Bool} {R : Option Bool → Shared → Prop} (hR : ∀ h', Heap.SameBut a s.heap h' → TxS w h' a l es1.size → R (some true) { s with heap := h' }) :
    wpAny (model P w) A (do
        storeSet a es1 t2
        if (!dum && t2.tooFull) = true then do
            g (relayAll t2 es1 (SetTable.grown es1.size)).2.2
            storeSet a (relayAll t2 es1 (SetTable.grown es1.size)).1 (relayAll t2 es1 (SetTable.grown es1.size)).2.1
            pure (some true)
          else pure (some true)) R E s := by
  refine wpAny_bind (wpAny_storeSet_of ho hd ?_ (fits_of_scanBound hb1))
  have ho1 := store_at (es' := es1) (t' := t2) ho hd
  have b1 := Heap.SameBut.update s.heap a (Obj.putSet es1 t2)
  split
  · have p3 := relayAll_perm t2 es1 (SetTable.grown es1.size)
    have f3 := relayAll_fits t2 es1 (SetTable.grown es1.size)
    have r3 := relayAll_ris t2 es1 (SetTable.grown es1.size)
    have l3 := relayAll_led t2 es1 (SetTable.grown es1.size)
    generalize relayAll t2 es1 (SetTable.grown es1.size) = Z at p3 f3 r3 l3 ⊢
    obtain ⟨es2, t3, gv⟩ := Z
    dsimp only at p3 f3 r3 l3 ⊢
    have hs : es2.size = es1.size := by simpa using p3.length_eq
    have hb2 : es2.size < scanBound := hs ▸ hb1
    refine wpAny_bind (hg _ _ _ (wpAny_bind (wpAny_storeSet_of ho1 rfl ?_ (fits_of_scanBound hb2))))
    refine wpAny_pure (hR _ (b1.trans (Heap.SameBut.update _ a _)) ⟨_, es2, _, t3, ⟨store_at (es' := es2) (t' := t3) ho1 rfl, hex, rfl, fun e he => g1 e (p3.mem_iff.mp he), (p3.map txOf).nodup_iff.mpr nd1, fun z => (m1 z).trans (p3.map txOf).mem_iff.symm, hb2, f3, r3, ?_⟩, hs⟩)
    rcases hl with z | z
    · exact .inl z
    · exact .inr (by rw [l3]; exact z)
  · exact wpAny_pure (hR _ b1 ⟨_, es1, _, t2, ⟨ho1, hex, rfl, g1, nd1, m1, hb1, hf2, hr, hl⟩, rfl⟩)
/-- one more text -/
theorem tx_add {z : Str} {tk : Tok} {Q : Bool → Shared → Prop} (R : TxS w s.heap a l n) (room : n + 1 < scanBound)
    (hQ : ∀ h' m k, Heap.SameBut a s.heap h' → m ≤ n + 1 → TxS w h' a (z :: l) m → Q k { s with heap := h' }) : wpAny (model P w) A (setAddHashed a (.str z tk) ((PySem.strKind P w).hash z)) Q E s := by
  obtain ⟨o, es, ep, t, x, hn⟩ := R
  have ho := x.at_
  have hd := x.da
  have hkey : (PySem.strKind P w).is z (.str z tk) = true := strKind_is P w z tk
  have hsc : (Value.str z tk).scannable = true := rfl
  have hel : ElemsOf (PySem.strKind P w) es.toList := tx_elems x.gd
  unfold setAddHashed setAddHashedIn
  refine wpAny_holding (wpAny_bind (wpAny_setState_of ho hd x.fit ?_))
  dsimp only
  rw [byScan_of hsc x.few hel]
  simp only [↓reduceIte]
  unfold setAddByScan
  refine wpAny_bind (wpAny_bind (wpAny_rule (wpAny_bind (wpAny_setScan_of hkey ho hd x.fit hel ?_))))
  cases hfi : List.findIdx? (fun e => (PySem.strKind P w).is z e.2) es.toList with
  | some j =>
    dsimp only
    obtain ⟨hj, pj, _⟩ := List.findIdx?_eq_some_iff_getElem.mp hfi
    have hz : z ∈ l := (x.mem z).2 ((tx_mem (P := P) x.gd z).2 ⟨es.toList[j], List.getElem_mem hj, pj⟩)
    refine wpAny_pure (wpAny_pure (hQ s.heap n _ (Heap.SameBut.refl a s.heap) (Nat.le_succ n) ⟨o, es, ep, t, ⟨ho, x.ex, hd, x.gd, x.nd, fun i => ?_, x.few, x.fit, x.ris, x.led⟩, hn⟩))
    rw [← x.mem i, List.mem_cons]
    exact ⟨fun q => q.elim (fun e => e ▸ hz) id, .inr⟩
  | none =>
    dsimp only
    have hnk : z ∉ es.toList.map txOf := fun q => by
      obtain ⟨e, he, q⟩ := (tx_mem (P := P) x.gd z).1 q
      have c := List.findIdx?_eq_none_iff.mp hfi e he
      rw [q] at c
      cases c
    have hgw : ∀ (b : Bool) {s₁ : Shared} {Q' : Unit → Shared → Prop}, Q' () s₁ → wpAny (model P w) A (match b with | true => rule "set.scan.the-table-gave-way" | false => pure ()) Q' E s₁ :=
      fun b s₁ Q' q => by cases b <;> first | exact wpAny_pure q | exact wpAny_rule q
    have p1 := layNew_perm t es ((PySem.strKind P w).hash z) (.str z tk)
    have f1 := layNew_fits t es ((PySem.strKind P w).hash z) (.str z tk)
    have r1 := layNew_ris t es ((PySem.strKind P w).hash z) (.str z tk) x.ris
    have l1 := layNew_led t es ((PySem.strKind P w).hash z) (.str z tk)
    generalize layNew t es ((PySem.strKind P w).hash z) (.str z tk) = Z at p1 f1 r1 l1 ⊢
    obtain ⟨es1, t1, dum, gv⟩ := Z
    dsimp only at p1 f1 r1 l1 ⊢
    rw [Array.toList_push] at p1
    have pc : es1.toList.Perm (((PySem.strKind P w).hash z, Value.str z tk) :: es.toList) := p1.trans (List.perm_append_singleton _ _)
    have pk : (es1.toList.map txOf).Perm (z :: es.toList.map txOf) := pc.map txOf
    have g1 : ∀ e ∈ es1.toList, TxE w e := fun e he => by
      rcases List.mem_cons.mp (pc.mem_iff.mp he) with q | q
      · rw [q]; exact ⟨z, tk, rfl, rfl⟩
      · exact x.gd e q
    have nd1 : (es1.toList.map txOf).Nodup := pk.nodup_iff.mpr (List.nodup_cons.mpr ⟨hnk, x.nd⟩)
    have m1 : ∀ i, i ∈ z :: l ↔ i ∈ es1.toList.map txOf := fun i => by rw [pk.mem_iff, List.mem_cons, List.mem_cons, x.mem i]
    have hsz : es1.size = n + 1 := by simpa [hn] using pc.length_eq
    have hb1 : es1.size < scanBound := hsz ▸ room
    have hled : w.params.followText "set-order" = true ∨ t1.led = true := by
      rcases x.led with q | q
      · exact .inl q
      · exact .inr (by rw [l1]; exact q)
    have fin : ∀ h', Heap.SameBut a s.heap h' → TxS w h' a (z :: l) es1.size → Q true { s with heap := h' } := fun h' sb r => hQ h' _ true sb (Nat.le_of_eq hsz) r
    refine wpAny_bind (hgw _ ?_)
    split
    · refine wpAny_bind ?_
      rw [hashByValue_scannable 8 hsc]
      refine wpAny_pure (tx_tail (l := z :: l) ?_ ho x.ex hd g1 nd1 m1 hb1 ?_ ?_ ?_ ?_)
      · intro b s₁ Q' q; cases b <;> first | exact wpAny_pure q | exact wpAny_rule q
      · first | (split <;> first | exact f1 | exact SetTable.fits_plain_off f1) | exact f1
      · first | (split <;> exact r1) | exact r1
      · first | (split <;> exact hled) | exact hled
      · intro h' sb r; dsimp only; exact wpAny_pure (fin h' sb r)
    · refine wpAny_bind (wpAny_pure ?_)
      simp only [↓reduceIte]
      refine tx_tail (l := z :: l) ?_ ho x.ex hd g1 nd1 m1 hb1 f1 r1 hled ?_
      · intro b s₁ Q' q; cases b <;> first | exact wpAny_pure q | exact wpAny_rule q
      · intro h' sb r; dsimp only; exact wpAny_pure (fin h' sb r)
/-- the texts of a walk, added one after another -/
theorem tx_fill {I : Addr} {fp wr : List Addr} {Gg : Array GenState → Array GenState → Prop} {n : Nat} {Pv : Nat → Value → Prop} {St : Nat → Shared → Prop} {R : Result → Shared → Prop}
    (W : WalksS P w A.in1 I fp wr Gg n Pv St) (S : Addr) (hSf : S ∉ fp) (zs : List Str) (hn : n = zs.length) (hb : zs.length + 1 < scanBound) (hval : ∀ i v, Pv i v → ∃ z t, zs[i]? = some z ∧ v = .str z t) :
    ∀ (k i : Nat) (s : Shared), n - i = k → i ≤ n → St i s → (∃ c, c ≤ i ∧ TxS w s.heap S (zs.take i) c) →
      (∀ s', Moved (S :: wr) Gg s s' → (∃ c, TxS w s'.heap S zs c) → R (.ok (.ret .none)) s') → codeAny (model P w) A (.builtin "set.update.loop" ⟨[.ref S, .ref I], []⟩) R s := by
  have hSw : S ∉ wr := fun h => hSf (W.sub _ h)
  have up : ∀ b ∈ wr, b ∈ S :: wr := fun b hb => List.mem_cons_of_mem _ hb
  intro k
  induction k with
  | zero =>
    intro i s hk hi hst ⟨c, hc, hS⟩ hR
    obtain rfl : i = n := by omega
    refine codeAny_builtin F.entry_set_update_loop ?_
    rw [Around.under_plainId F.plain_set_update_loop _]
    show wpAny _ A.in1 (pyNext (.ref I) >>= _) _ _ s
    refine wpAny_bind (W.done s _ _ hst fun s' hm => ?_)
    show wpAny _ A.in1 (ret Value.none) _ _ s'
    rw [List.take_of_length_le (by omega : zs.length ≤ i)] at hS
    exact wpAny_pure (hR s' (hm.mono up) ⟨c, hS.at fun o e => hm.heap S o hSw e⟩)
  | succ k ih =>
    intro i s hk hi hst ⟨c, hc, hS⟩ hR
    have hlt : i < n := by omega
    refine codeAny_builtin F.entry_set_update_loop ?_
    rw [Around.under_plainId F.plain_set_update_loop _]
    show wpAny _ A.in1 (pyNext (.ref I) >>= _) _ _ s
    refine wpAny_bind (W.item i s _ _ hlt hst fun v s' hP hst' hm => ?_)
    obtain ⟨z, t, hz, rfl⟩ := hval i v hP
    have hS1 : TxS w s'.heap S (zs.take i) c := hS.at fun o e => hm.heap S o hSw e
    show wpAny _ A.in1 (holding [Value.str z t] (setAdd S (.str z t)) >>= _) _ _ s'
    refine wpAny_bind (wpAny_holding ?_)
    unfold setAdd
    refine wpAny_holding (wpAny_bind ((PySem.strKind P w).pyHash (k := z) (strKind_is _ _ _ _) ?_))
    refine tx_add (s := { s' with toks := s'.toks + 1 }) hS1 (by omega) fun h' m kk hsb hm1 hS2 => ?_
    have hS3 : TxS w h' S (zs.take (i + 1)) m := hS2.to fun y => by
      rw [List.take_add_one, hz, List.mem_append, List.mem_cons]
      simp [or_comm]
    refine wpAny_pure ⟨plainId_quiet F.plain_set_update_loop _, ih (i + 1) _ (by omega) hlt (W.frame _ s' _ _ hst' (Nat.le_succ _) fun b hb o e => ?_) ⟨m, by omega, hS3⟩ fun s'' hm2 hS4 => ?_⟩
    · rw [hsb.2 b fun q => hSf (q ▸ hb)]; exact e
    · refine hR s'' (Moved.trans W.gtrans ((hm.mono up).then_heap (Nat.le_succ _) fun b o hb e => ?_) hm2) hS4
      rw [hsb.2 b fun q => hb (by rw [q]; exact List.mem_cons_self)]; exact e
end
end WR
end
section
set_option Elab.async false
set_option linter.all false
set_option maxRecDepth 100000
set_option maxHeartbeats 2000000
namespace WR
open PySem PySem.Spec PyProof.Rows L2

section
variable {P : Program} {w : World} {A : Around} {E : Value → Shared → Prop} {s : Shared}
theorem strs_look : ∀ {us : List Value} {zs : List Str} {i : Nat} {v : Value}, StrsAre us zs → us[i]? = some v → ∃ z t, zs[i]? = some z ∧ v = .str z t
  | _, _, _, _, .nil, h => by simp at h
  | _, _, 0, _, .cons n t _, h => by simp at h; exact ⟨n, t, rfl, h.symm⟩
  | _, _, i + 1, _, .cons n t r, h => by
    obtain ⟨z, u, h1, h2⟩ := strs_look (i := i) r (by simpa using h)
    exact ⟨z, u, by simpa using h1, h2⟩
/-- the set object that set() lays -/
abbrev noTx (w : World) : Obj := { cls := .type "set", dict := none, data := .set #[] 0 (.fresh 0 0 (!w.params.followText "set-order")) }
theorem noTx_at {w : World} {h : Heap} {a : Addr} {zs : List Str} (ho : h.get? a = some (noTx w)) : TxS w h a (zs.take 0) 0 :=
  ⟨_, #[], 0, _, ⟨ho, ⟨rfl, rfl, rfl⟩, rfl, (fun e he => by simp at he), (by simp), (fun k => by simp), (by decide), (by rfl), List.Pairwise.nil, by
    show _ ∨ (!w.params.followText "set-order") = true
    cases w.params.followText "set-order"
    · exact .inr rfl
    · exact .inl rfl⟩, rfl⟩

set_option maxHeartbeats 4000000 in
theorem tx_setL {q : Addr} {items : Array Value} (zs : List Str) {Q : Value → Shared → Prop} (hh : A.handled = none) (hl : s.heap.IsList q items) (hit : StrsAre items.toList zs) (hb : zs.length + 1 < scanBound)
    (fin : ∀ (h' : Heap) (tk : Nat), (∃ c, TxS w h' s.heap.objs.size zs c) → (∀ b o, s.heap.get? b = some o → h'.get? b = some o) → Q (.ref s.heap.objs.size) { s with heap := h', toks := tk }) :
    wpAny (model P w) A (call (.type "set") [.ref q]) Q E s := by
  have isz : items.size = zs.length := by rw [← StrsAre.len_eq hit, Array.length_toList]
  obtain ⟨c, tl, hmro⟩ := F.called_set.mro
  have hmade := F.called_set.made
  have hsub := F.called_set.sub
  refine wpAny_call (codeAny_of_tree ?_)
  show wpAny _ _ (callAny (.type "set") _) _ _ _
  refine wpAny_pure ⟨Code.quiet_builtin _ (by decide +kernel), codeAny_builtin F.entry_type_call ?_⟩
  rw [Around.under_plain (weight_type_call_type "set" [.ref q] []) rfl]
  have h1 := F.called_set.notType
  have h2 := F.called_set.canCreate
  have hct := F.typeCall_set_1 (.ref q)
  repeat (any_goals (first | assumption | wp_step))
  refine codeAny_mono (code_set_led1 (.ref q) (E := E) (Q₁ := fun obj s₁ => obj = .ref s.heap.objs.size ∧ s₁ = { s with heap := s.heap.push (noTx w) }) ⟨rfl, rfl⟩) fun r s₁ hr => ?_
  cases r with
  | error e => exact hr
  | ok fl =>
    cases fl with
    | ret obj =>
      obtain ⟨rfl, rfl⟩ := hr
      have hS : (s.heap.push (noTx w)).get? s.heap.objs.size = some (noTx w) := Heap.get?_push_size _ rfl
      have hT : Shared.TypeIs { s with heap := s.heap.push (noTx w) } (.ref s.heap.objs.size) "set" := ⟨_, hS, rfl⟩
      have hli := F.called_set.init.lookup
      have hbi := F.called_set.init.bind (.ref s.heap.objs.size)
      repeat (any_goals (first | assumption | wp_step))
      refine codeAny_mono (codeAny_call_builtin (R := wants (fun r s₂ => r = .none ∧ ∃ h' tk, s₂ = { s with heap := h', toks := tk } ∧ (∃ c, TxS w h' s.heap.objs.size zs c) ∧ (∀ b o, s.heap.get? b = some o → h'.get? b = some o)) E)
        F.called_set.init.plain F.entry_set_init (check_set_init_1 hT ?_)) fun r₂ s₂ hr₂ => ?_
      · obtain ⟨⟨ocls, odict, odata, oslots⟩, hol, hcl, nl, hdl⟩ := hl
        simp only at hcl hdl
        subst hcl; subst hdl
        have hol' : (s.heap.push (noTx w)).get? q = some { cls := .type "list", dict := odict, data := .seq items nl, slots := oslots } := Heap.get?_push_of_some _ hol
        have hsls := F.sub_list_set
        have hslf := F.sub_list_frozenset
        have hne : (Value.type "list" == Value.type "dict") = false := by decide
        have hl1 : (s.heap.push (noTx w)).IsList q items := ⟨_, hol', rfl, nl, rfl⟩
        unfold Builtin.«set.__init__» noKeywords Builtin.Frozenset.updateFrom
        generalize hPI : pyIter = PI
        wp_walk
        subst hPI
        refine wpAny_pyIter_list hl1 (wpAny_bind (wpAny_runValue ?_))
        have hlS : q < s.heap.objs.size := Heap.lt_size hol
        have hh3 : A.in1.in1.in1.handled = none := by simp [hh]
        have hz1 : (s.heap.push (noTx w)).objs.size = s.heap.objs.size + 1 := Heap.size_push ..
        have hneI : q ≠ (s.heap.push (noTx w)).objs.size := Nat.ne_of_lt (hz1 ▸ Nat.lt_succ_of_lt hlS)
        have hSf : s.heap.objs.size ∉ [(s.heap.push (noTx w)).objs.size, q] := by
          simp only [List.mem_cons, List.not_mem_nil, or_false, not_or]
          exact ⟨Nat.ne_of_lt (hz1 ▸ Nat.lt_succ_self _), Nat.ne_of_gt hlS⟩
        have hval : ∀ (i : Nat) (v : Value), items[i]? = some v → ∃ z t, zs[i]? = some z ∧ v = .str z t := fun i v hv => by
          have hv' : items.toList[i]? = some v := by rw [Array.getElem?_toList]; exact hv
          exact strs_look hit hv'
        refine tx_fill ((Walks.list hh3 _ q hneI items).toS) s.heap.objs.size hSf zs isz hb hval (items.size - 0) 0 _ (by omega) (Nat.zero_le _) ⟨⟨_, Heap.get?_push_size _ rfl, rfl, rfl⟩, (hl1.push _)⟩ ⟨0, Nat.le_refl 0, noTx_at (Heap.get?_push_of_some _ hS)⟩ ?hR
        case hR =>
          intro s' hm hS'
          obtain ⟨h', g2, d', tk', os'⟩ := s'
          obtain rfl : g2 = s.gens := hm.gens
          obtain rfl : d' = s.drawn := hm.drawn
          obtain rfl : os' = s.os := hm.os
          show wpAny _ _ _ _ _ _
          refine wpAny_pure ?_
          show wpAny _ _ (ret Value.none) _ _ _
          refine wpAny_pure ⟨rfl, h', tk', rfl, hS', fun b o e => ?_⟩
          have hb0 : b < s.heap.objs.size := Heap.lt_size e
          refine hm.heap b o ?_ (Heap.get?_push_of_some _ (Heap.get?_push_of_some _ e))
          simp only [List.mem_cons, List.not_mem_nil, or_false, not_or]
          exact ⟨Nat.ne_of_lt hb0, Nat.ne_of_lt (hz1 ▸ Nat.lt_succ_of_lt hb0)⟩
      · cases r₂ with
        | error e => exact hr₂
        | ok fl₂ =>
          cases fl₂ with
          | ret r =>
            obtain ⟨rfl, h', tk, rfl, hS', hk'⟩ := hr₂
            repeat (any_goals (first | assumption | wp_step))
            exact fin _ _ hS' hk'
          | _ => exact hr₂.elim
    | _ => exact hr.elim

set_option maxHeartbeats 4000000 in
theorem tx_setT {q : Addr} {items : Array Value} (zs : List Str) {Q : Value → Shared → Prop} (hh : A.handled = none) (hl : s.heap.IsTuple q items) (hit : StrsAre items.toList zs) (hb : zs.length + 1 < scanBound)
    (fin : ∀ (h' : Heap) (tk : Nat), (∃ c, TxS w h' s.heap.objs.size zs c) → (∀ b o, s.heap.get? b = some o → h'.get? b = some o) → Q (.ref s.heap.objs.size) { s with heap := h', toks := tk }) :
    wpAny (model P w) A (call (.type "set") [.ref q]) Q E s := by
  have isz : items.size = zs.length := by rw [← StrsAre.len_eq hit, Array.length_toList]
  obtain ⟨c, tl, hmro⟩ := F.called_set.mro
  have hmade := F.called_set.made
  have hsub := F.called_set.sub
  refine wpAny_call (codeAny_of_tree ?_)
  show wpAny _ _ (callAny (.type "set") _) _ _ _
  refine wpAny_pure ⟨Code.quiet_builtin _ (by decide +kernel), codeAny_builtin F.entry_type_call ?_⟩
  rw [Around.under_plain (weight_type_call_type "set" [.ref q] []) rfl]
  have h1 := F.called_set.notType
  have h2 := F.called_set.canCreate
  have hct := F.typeCall_set_1 (.ref q)
  repeat (any_goals (first | assumption | wp_step))
  refine codeAny_mono (code_set_led1 (.ref q) (E := E) (Q₁ := fun obj s₁ => obj = .ref s.heap.objs.size ∧ s₁ = { s with heap := s.heap.push (noTx w) }) ⟨rfl, rfl⟩) fun r s₁ hr => ?_
  cases r with
  | error e => exact hr
  | ok fl =>
    cases fl with
    | ret obj =>
      obtain ⟨rfl, rfl⟩ := hr
      have hS : (s.heap.push (noTx w)).get? s.heap.objs.size = some (noTx w) := Heap.get?_push_size _ rfl
      have hT : Shared.TypeIs { s with heap := s.heap.push (noTx w) } (.ref s.heap.objs.size) "set" := ⟨_, hS, rfl⟩
      have hli := F.called_set.init.lookup
      have hbi := F.called_set.init.bind (.ref s.heap.objs.size)
      repeat (any_goals (first | assumption | wp_step))
      refine codeAny_mono (codeAny_call_builtin (R := wants (fun r s₂ => r = .none ∧ ∃ h' tk, s₂ = { s with heap := h', toks := tk } ∧ (∃ c, TxS w h' s.heap.objs.size zs c) ∧ (∀ b o, s.heap.get? b = some o → h'.get? b = some o)) E)
        F.called_set.init.plain F.entry_set_init (check_set_init_1 hT ?_)) fun r₂ s₂ hr₂ => ?_
      · obtain ⟨⟨ocls, odict, odata, oslots⟩, hol, hcl, nl, hdl⟩ := hl
        simp only at hcl hdl
        subst hcl; subst hdl
        have hol' : (s.heap.push (noTx w)).get? q = some { cls := .type "tuple", dict := odict, data := .seq items nl, slots := oslots } := Heap.get?_push_of_some _ hol
        have hsls := F.sub_tuple_set
        have hslf := F.sub_tuple_frozenset
        have hne : (Value.type "tuple" == Value.type "dict") = false := by decide
        have hl1 : (s.heap.push (noTx w)).IsTuple q items := ⟨_, hol', rfl, nl, rfl⟩
        unfold Builtin.«set.__init__» noKeywords Builtin.Frozenset.updateFrom
        generalize hPI : pyIter = PI
        wp_walk
        subst hPI
        refine wpAny_pyIter_tuple hl1 (wpAny_bind (wpAny_runValue ?_))
        have hlS : q < s.heap.objs.size := Heap.lt_size hol
        have hh3 : A.in1.in1.in1.handled = none := by simp [hh]
        have hz1 : (s.heap.push (noTx w)).objs.size = s.heap.objs.size + 1 := Heap.size_push ..
        have hneI : q ≠ (s.heap.push (noTx w)).objs.size := Nat.ne_of_lt (hz1 ▸ Nat.lt_succ_of_lt hlS)
        have hSf : s.heap.objs.size ∉ [(s.heap.push (noTx w)).objs.size, q] := by
          simp only [List.mem_cons, List.not_mem_nil, or_false, not_or]
          exact ⟨Nat.ne_of_lt (hz1 ▸ Nat.lt_succ_self _), Nat.ne_of_gt hlS⟩
        have hval : ∀ (i : Nat) (v : Value), items[i]? = some v → ∃ z t, zs[i]? = some z ∧ v = .str z t := fun i v hv => by
          have hv' : items.toList[i]? = some v := by rw [Array.getElem?_toList]; exact hv
          exact strs_look hit hv'
        refine tx_fill ((Walks.tuple hh3 _ q hneI items).toS) s.heap.objs.size hSf zs isz hb hval (items.size - 0) 0 _ (by omega) (Nat.zero_le _) ⟨⟨_, Heap.get?_push_size _ rfl, rfl, rfl⟩, (hl1.push _)⟩ ⟨0, Nat.le_refl 0, noTx_at (Heap.get?_push_of_some _ hS)⟩ ?hR
        case hR =>
          intro s' hm hS'
          obtain ⟨h', g2, d', tk', os'⟩ := s'
          obtain rfl : g2 = s.gens := hm.gens
          obtain rfl : d' = s.drawn := hm.drawn
          obtain rfl : os' = s.os := hm.os
          show wpAny _ _ _ _ _ _
          refine wpAny_pure ?_
          show wpAny _ _ (ret Value.none) _ _ _
          refine wpAny_pure ⟨rfl, h', tk', rfl, hS', fun b o e => ?_⟩
          have hb0 : b < s.heap.objs.size := Heap.lt_size e
          refine hm.heap b o ?_ (Heap.get?_push_of_some _ (Heap.get?_push_of_some _ e))
          simp only [List.mem_cons, List.not_mem_nil, or_false, not_or]
          exact ⟨Nat.ne_of_lt hb0, Nat.ne_of_lt (hz1 ▸ Nat.lt_succ_of_lt hb0)⟩
      · cases r₂ with
        | error e => exact hr₂
        | ok fl₂ =>
          cases fl₂ with
          | ret r =>
            obtain ⟨rfl, h', tk, rfl, hS', hk'⟩ := hr₂
            repeat (any_goals (first | assumption | wp_step))
            exact fin _ _ hS' hk'
          | _ => exact hr₂.elim
    | _ => exact hr.elim

/-- sorted of such a set: some arrangement of its texts, in order -/
theorem tx_sorted {a : Addr} {l : List Str} {n : Nat} {Q : Value → Shared → Prop} (R : TxS w s.heap a l n) (hh : A.handled = none)
    (hQ : ∀ s' p (out : Array Value) (c : Nat) (ns : List Str), (∀ b o, s.heap.get? b = some o → s'.heap.get? b = some o) → s'.gens = s.gens → s'.os = s.os → s.heap.objs.size ≤ p →
      s'.heap.get? p = some (seqObj "list" out c) → StrsAre out.toList ns → sortedS ns = true → ns.Nodup → (∀ z, z ∈ ns ↔ z ∈ l) → Q (.ref p) s') :
    wpAny (model P w) A (call (.builtin "sorted") [.ref a]) Q E s := by
  obtain ⟨o, es, ep, t, x, hn⟩ := R
  refine Calls.call_function_entry kind_sorted plain_sorted entry_sorted (args_sorted1 _) ?_
  unfold Builtin.«sorted»
  refine wpAny_bind (m := checkCount "sorted" 1 1 _) (wpAny_pure ?_)
  refine wpAny_bind (collect_set (A := A.in1) hh ⟨o, x.at_, x.ex.1, x.da⟩ x.fit x.few x.ris x.led fun s1 vs k1 hz g1 o1 pm => ?_)
  have hvl : vs.length = n := by rw [pm.length_eq, List.length_map, Array.length_toList]; exact hn
  have hfew : n < 100000 := by have := x.few; unfold scanBound at this; omega
  have hI : StrsAre vs (vs.map strOf) := strsAre_map vs fun v hv => by
    obtain ⟨e, he, q⟩ := List.mem_map.mp (pm.mem_iff.mp hv)
    obtain ⟨z, tk, h1, _⟩ := x.gd e he
    exact ⟨z, tk, by rw [← q]; exact h1⟩
  have pk : (vs.map strOf).Perm (es.toList.map txOf) := by
    have q := pm.map strOf
    rw [List.map_map] at q
    have e : es.toList.map (strOf ∘ fun x => x.2) = es.toList.map txOf := List.map_congr_left fun e he => by
      obtain ⟨z, tk, h1, _⟩ := x.gd e he
      show strOf e.2 = txOf e
      unfold txOf strOf
      rw [h1]
    rw [e] at q
    exact q
  refine wpAny_bind (wpAny_newList ?_ (by rw [hvl, sizeLine_eq]; omega))
  have hoL : (s1.heap.push (seqObj "list" vs.toArray 0)).get? s1.heap.objs.size = some (seqObj "list" vs.toArray 0) := Heap.get?_push_size _ rfl
  refine wpAny_bind (wpAny_holding (wpAny_call_entry slot_list_sort ⟨_, hoL, rfl⟩ entry_list_sort
    (list_sort_treeKAny strKind_oneLt hoL hI.keysOf (fun v₁ v₂ rest e => keyKind_strs (by rw [← e]; exact hI)) (by rw [hvl, sizeLine_eq]; omega) fun st' hp hs => ⟨_, rfl, ?_⟩) (args_list_sort _)))
  obtain ⟨ns, a1, a2, a3⟩ := sorted_out_str hI hp hs
  obtain ⟨c, hc⟩ := sortedHeap_at (vs := vs) (out := (arrOf st').map (·.2)) hoL
  have pn : ns.Perm (es.toList.map txOf) := a2.trans pk
  refine wpAny_pure ⟨_, rfl, hQ _ s1.heap.objs.size _ c ns (fun b u e => ?_) g1 o1 hz hc a1 a3 (pn.nodup_iff.mpr x.nd) fun k => by rw [pn.mem_iff, ← x.mem k]⟩
  have q := k1 b u e
  have hlt := Heap.lt_size q
  show (sortedHeap (s1.heap.push (seqObj "list" vs.toArray 0)) s1.heap.objs.size vs _).get? b = some u
  rw [sortedHeap_old (Nat.ne_of_lt hlt) (by rw [size_push']; exact Nat.lt_succ_of_lt hlt)]
  exact Heap.get?_push_of_some _ q
end
end WR
end
section
set_option Elab.async false
set_option linter.all false
set_option maxRecDepth 100000
/-! the mathematics: texts in order, lots of texts, deeds, tasks -/
namespace WR
open PySem

/-! ### texts in order -/
def slt (a b : Str) : Bool := decide (a.cps.toList < b.cps.toList)
theorem str_ext {a b : Str} (h : a.cps.toList = b.cps.toList) : a = b := by
  cases a; cases b
  simp only [Str.mk.injEq]
  exact Array.ext' h
theorem slt_irr (a : Str) : slt a a = false := decide_eq_false (List.lt_irrefl _)
theorem slt_trans {a b c : Str} (h1 : slt a b = true) (h2 : slt b c = true) : slt a c = true := decide_eq_true (List.lt_trans (of_decide_eq_true h1) (of_decide_eq_true h2))
theorem slt_asymm {a b : Str} (h : slt a b = true) : slt b a = false := by
  cases q : slt b a with
  | false => rfl
  | true =>
    have := slt_trans h q
    rw [slt_irr] at this
    cases this
theorem slt_tri {a b : Str} (h1 : slt a b = false) (h2 : slt b a = false) : a = b := by
  have a1 := of_decide_eq_false h1
  have a2 := of_decide_eq_false h2
  exact str_ext (List.le_antisymm (List.not_lt.mp a2) (List.not_lt.mp a1))
theorem slt_ne {a b : Str} (h : slt a b = true) : a ≠ b := fun e => by rw [e, slt_irr] at h; cases h
/-- strictly ascending -/
def incr : List Str → Bool
  | a :: b :: r => slt a b && incr (b :: r)
  | _ => true
theorem incr_tail {a : Str} {l : List Str} (h : incr (a :: l) = true) : incr l = true := by
  cases l with
  | nil => rfl
  | cons b r => exact (Bool.and_eq_true_iff.mp h).2
theorem incr_head {a : Str} {l : List Str} (h : incr (a :: l) = true) : ∀ z ∈ l, slt a z = true := by
  induction l generalizing a with
  | nil => intro z hz; cases hz
  | cons b r ih =>
    intro z hz
    obtain ⟨h1, h2⟩ := Bool.and_eq_true_iff.mp h
    rcases List.mem_cons.mp hz with rfl | hz
    · exact h1
    · exact slt_trans h1 (ih h2 z hz)
theorem incr_cons {a : Str} {l : List Str} (h1 : ∀ z ∈ l, slt a z = true) (h2 : incr l = true) : incr (a :: l) = true := by
  cases l with
  | nil => rfl
  | cons b r => exact Bool.and_eq_true_iff.mpr ⟨h1 b List.mem_cons_self, h2⟩
theorem incr_pair (l : List Str) : incr l = true ↔ l.Pairwise (fun a b => slt a b = true) := by
  induction l with
  | nil => exact ⟨fun _ => .nil, fun _ => rfl⟩
  | cons a r ih => exact ⟨fun h => .cons (incr_head h) (ih.1 (incr_tail h)), fun h => by
      obtain ⟨h1, h2⟩ := List.pairwise_cons.mp h
      exact incr_cons h1 (ih.2 h2)⟩
theorem incr_nodup {l : List Str} (h : incr l = true) : l.Nodup := by
  rw [incr_pair] at h
  exact h.imp fun z => slt_ne z
theorem incr_filter {l : List Str} (p : Str → Bool) (h : incr l = true) : incr (l.filter p) = true := by
  rw [incr_pair] at h ⊢
  exact h.filter p
theorem incr_uniq : ∀ {l m : List Str}, incr l = true → incr m = true → (∀ z, z ∈ l ↔ z ∈ m) → l = m
  | [], [], _, _, _ => rfl
  | [], b :: m, _, _, h => by have := (h b).2 List.mem_cons_self; cases this
  | a :: l, [], _, _, h => by have := (h a).1 List.mem_cons_self; cases this
  | a :: l, b :: m, h1, h2, h => by
    have e : a = b := by
      rcases List.mem_cons.mp ((h a).1 List.mem_cons_self) with e | e
      · exact e
      · rcases List.mem_cons.mp ((h b).2 List.mem_cons_self) with q | q
        · exact q.symm
        · have a1 := incr_head h2 a e
          have a2 := incr_head h1 b q
          rw [slt_asymm a1] at a2
          cases a2
    subst e
    rw [incr_uniq (incr_tail h1) (incr_tail h2) fun z => ?_]
    have n1 : a ∉ l := fun q => by have := incr_head h1 a q; rw [slt_irr] at this; cases this
    have n2 : a ∉ m := fun q => by have := incr_head h2 a q; rw [slt_irr] at this; cases this
    constructor
    · intro hz
      rcases List.mem_cons.mp ((h z).1 (List.mem_cons_of_mem _ hz)) with e | e
      · exact absurd (e ▸ hz) n1
      · exact e
    · intro hz
      rcases List.mem_cons.mp ((h z).2 (List.mem_cons_of_mem _ hz)) with e | e
      · exact absurd (e ▸ hz) n2
      · exact e
/-- the texts of a list, ascending, each once -/
def ins (x : Str) : List Str → List Str
  | [] => [x]
  | a :: r => if slt x a then x :: a :: r else if slt a x then a :: ins x r else a :: r
def sd (l : List Str) : List Str := l.foldr ins []
theorem ins_mem {x z : Str} : ∀ {l : List Str}, z ∈ ins x l ↔ z = x ∨ z ∈ l
  | [] => by simp [ins]
  | a :: r => by
    unfold ins
    split
    · simp
    · split
      · rw [List.mem_cons, ins_mem, List.mem_cons]
        exact or_left_comm
      · rename_i h1 h2
        have e : x = a := slt_tri (by simpa using h1) (by simpa using h2)
        subst e
        simp
theorem ins_incr {x : Str} : ∀ {l : List Str}, incr l = true → incr (ins x l) = true
  | [], _ => rfl
  | a :: r, h => by
    unfold ins
    split
    · rename_i h1
      refine incr_cons (fun z hz => ?_) h
      rcases List.mem_cons.mp hz with rfl | hz
      · exact h1
      · exact slt_trans h1 (incr_head h z hz)
    · split
      · rename_i h1 h2
        refine incr_cons (fun z hz => ?_) (ins_incr (incr_tail h))
        rcases ins_mem.mp hz with rfl | hz
        · exact h2
        · exact incr_head h z hz
      · exact h
theorem sd_mem {l : List Str} {z : Str} : z ∈ sd l ↔ z ∈ l := by
  induction l with
  | nil => exact Iff.rfl
  | cons a r ih =>
    show z ∈ ins a (sd r) ↔ _
    rw [ins_mem, ih, List.mem_cons]
theorem sd_incr (l : List Str) : incr (sd l) = true := by
  induction l with
  | nil => rfl
  | cons a r ih => exact ins_incr ih
theorem sd_eq {l m : List Str} (h1 : incr m = true) (h2 : ∀ z, z ∈ m ↔ z ∈ l) : m = sd l := incr_uniq h1 (sd_incr l) fun z => (h2 z).trans sd_mem.symm
theorem sd_self {l : List Str} (h : incr l = true) : sd l = l := (sd_eq h fun _ => Iff.rfl).symm
theorem sd_self_iff {l : List Str} : l = sd l ↔ incr l = true := ⟨fun h => by rw [h]; exact sd_incr l, fun h => (sd_self h).symm⟩
theorem ins_len (x : Str) : ∀ l : List Str, (ins x l).length ≤ l.length + 1
  | [] => Nat.le_refl _
  | a :: r => by
    unfold ins
    split
    · simp
    · split
      · have := ins_len x r
        simp
        omega
      · simp
theorem sd_len (l : List Str) : (sd l).length ≤ l.length := by
  induction l with
  | nil => exact Nat.le_refl _
  | cons a r ih =>
    show (ins a (sd r)).length ≤ _
    have := ins_len a (sd r)
    simp
    omega
/-- a sorted list without doubles ascends -/
theorem incr_of_sorted {l : List Str} (h : PyProof.Rows.sortedS l = true) (nd : l.Nodup) : incr l = true := by
  have key : ∀ (p : Str) (l : List Str), PyProof.Rows.risingS p l = true → (p :: l).Nodup → incr (p :: l) = true := by
    intro p l
    induction l generalizing p with
    | nil => intro _ _; rfl
    | cons a r ih =>
      intro h nd
      unfold PyProof.Rows.risingS at h
      rw [PyProof.Rows.ltCps_eq] at h
      obtain ⟨n1, n2⟩ := List.nodup_cons.mp nd
      have h1 : slt a p = false := by
        cases q : slt a p with
        | false => rfl
        | true =>
          have q' : decide (a.cps.toList < p.cps.toList) = true := q
          have h0 := (Bool.and_eq_true_iff.mp h).1
          rw [q'] at h0
          cases h0
      have h2 : PyProof.Rows.risingS a r = true := (Bool.and_eq_true_iff.mp h).2
      have h3 : slt p a = true := by
        cases q : slt p a with
        | true => rfl
        | false => exact absurd (slt_tri q h1) fun e => n1 (e ▸ List.mem_cons_self)
      exact Bool.and_eq_true_iff.mpr ⟨h3, ih a h2 n2⟩
  cases l with
  | nil => rfl
  | cons p l => exact key p l h nd
end WR
end
section
set_option Elab.async false
set_option linter.all false
set_option maxRecDepth 100000
namespace WR
open PySem PySem.Spec PyProof.Rows L2
def TxO (w : World) (a : Addr) (l : List Str) : HO := .ext fun h => ∃ n, TxS w h a l n
theorem TxO.ok {w : World} {P : Program} {H : Hp} {h : Heap} {a : Addr} {l : List Str} {n : Nat} (R : TxS w h a l n) : ObjOk P w H h a (TxO w a l) := by
  obtain ⟨o, es, ep, t, x, y⟩ := R
  exact ⟨⟨n, o, es, ep, t, x, y⟩, ⟨o, x.at_⟩, fun h1 h2 ⟨n', p⟩ k => ⟨n', p.at k⟩⟩
theorem txO_tbl {w : World} {a : Addr} {l : List Str} (ps : Array Value) : TxO w a l ≠ .tbl ps := fun z => by
  unfold TxO at z
  cases z
def rSetX (K : PySem.W.Frag) (w : World) : List V → Hp → VK → Prop := fun vs H Q => ∃ (p : Addr) (zs : List Str), vs = [.ref p] ∧ (SqL K H p (zs.map V.str) ∨ SqT K H p (zs.map V.str)) ∧ zs.length + 1 < scanBound ∧ ∀ a, H a = none → Q (.ref a) (upd H a (TxO w a zs))
def rSortX (w : World) : List V → Hp → VK → Prop := fun vs H Q => ∃ (a : Addr) (l : List Str), vs = [.ref a] ∧ H a = some (TxO w a l) ∧ ∀ p, H p = none → Q (.ref p) (upd H p (.lst ((sd l).map V.str)))
theorem strs_of : ∀ {zs : List Str} {us : List Value}, Vals (zs.map V.str) us → StrsAre us zs
  | [], _, .nil => .nil
  | z :: zs, _, .cons r t => by
    obtain ⟨k, rfl⟩ := r
    exact .cons z k (strs_of t)
theorem vals_of_strs : ∀ {us : List Value} {zs : List Str}, StrsAre us zs → Vals (zs.map V.str) us
  | _, _, .nil => .nil
  | _, _, .cons z t r => .cons ⟨t, rfl⟩ (vals_of_strs r)
section
variable {X : Cx}
theorem cr_setX (hc : X.calm = true) : CallR X (.type "set") (rSetX X.K X.w) := by
  intro pins s σ H xs us Q I r h
  obtain ⟨p, zs, rfl, hq, hb, q⟩ := h
  rw [Vals.ref1 r]
  have done : ∀ (h' : Heap) (tk : Nat), (∃ c, TxS X.w h' s.heap.objs.size zs c) → (∀ b o, s.heap.get? b = some o → h'.get? b = some o) → EP X pins σ Q (.ref s.heap.objs.size) { s with heap := h', toks := tk } := fun h' tk ⟨c, R⟩ k =>
    ⟨.ref _, _, I.laid (t' := tk) (o := TxO X.w s.heap.objs.size zs) k (Nat.le_refl _) (TxO.ok R), rfl, q _ (I.hok.fresh (Nat.le_refl _))⟩
  rcases hq with hq | hq
  · obtain ⟨its, rv, pl, hz⟩ := I.list hq
    exact tx_setL zs (I.ok.hd hc) pl.isList (by simpa using strs_of rv) hb done
  · obtain ⟨its, rv, pl, hz⟩ := I.tuple hq
    exact tx_setT zs (I.ok.hd hc) pl (by simpa using strs_of rv) hb done
theorem cr_sortX (hc : X.calm = true) : CallR X (.builtin "sorted") (rSortX X.w) := by
  intro pins s σ H xs us Q I r h
  obtain ⟨a, l, rfl, ha, q⟩ := h
  rw [Vals.ref1 r]
  obtain ⟨n, R⟩ := (show ∃ n, TxS X.w s.heap a l n from (I.hok a _ ha).1)
  refine tx_sorted R (I.ok.hd hc) fun s' p out c ns k g o hp hg hi hs hnd hm => ?_
  have e : ns = sd l := sd_eq (incr_of_sorted hs hnd) hm
  subst e
  have hn : H p = none := I.hok.fresh hp
  have hlen : ((sd l).map V.str).length ≤ sizeLine := by
    obtain ⟨o', es, ep, t, x, hsz⟩ := R
    have h1 : (sd l).length ≤ es.size := by
      have : (sd l).length ≤ (es.toList.map txOf).length := length_le_of_nodup_of_subset _ _ hnd fun z hz => (x.mem z).1 ((hm z).1 hz)
      simpa using this
    have h2 := x.few
    unfold scanBound at h2
    rw [List.length_map, sizeLine_eq]
    omega
  have J : Inv X pins σ (upd H p (.lst ((sd l).map V.str))) { s with heap := s'.heap, gens := s'.gens, drawn := s'.drawn, toks := s'.toks } :=
    I.call (ch := []) (Un.laid k hp hn) (I.hok.laid k hp ⟨hlen, out.toList, c, vals_of_strs hi, hg⟩) (by rw [g]; exact I.bare) (fun _ z => nomatch z)
  have e : s' = { s with heap := s'.heap, gens := s'.gens, drawn := s'.drawn, toks := s'.toks } := by
    cases s'
    cases s
    cases o
    rfl
  rw [e]
  exact ⟨.ref p, _, J, rfl, q p hn⟩
end

section
variable {Rl : Hp → Hp → Prop} [RlOk Rl] {X : Cx} {σ : L2.St} {G : Hp} {a : Expr} {p p2 pos pos2 : Pos} {zs : List Str}
theorem rc_set {w : World} {K : PySem.W.Frag} (hb : zs.length + 1 < scanBound) (G H : Hp) (v : V) (s : Sub G H) (r : Rp G v (.list (zs.map .str)) ∨ Rp G v (.tuple (zs.map .str))) (Q : VK) (q : ∀ b, H b = none → Q (.ref b) (upd H b (TxO w b zs))) : rSetX K w [v] H Q := by
  rcases r with r | r
  · obtain ⟨t, xs, rfl, ht, rs⟩ := r.lstE
    obtain rfl := rs.strs
    exact ⟨t, zs, rfl, .inl (SqL.of (s.1 _ _ ht)), hb, q⟩
  · obtain ⟨t, xs, rfl, ht, rs⟩ := r.tupE
    obtain rfl := rs.strs
    exact ⟨t, zs, rfl, .inr (SqT.of (s.1 _ _ ht)), hb, q⟩
/-- sorted(set(a)), a list | a tuple of texts -/
theorem g_sset (hc : X.calm = true) (hm : X.mg "sorted" = none) (hm2 : X.mg "set" = none) (hb : zs.length + 1 < scanBound) (ha : Gd Rl X σ G a (.list (zs.map .str)) ∨ Gd Rl X σ G a (.tuple (zs.map .str))) (hg : Gl X "sorted" := by rfl) (hg2 : Gl X "set" := by rfl)
    (he : starEach [a] X.env = (false, eval a X.env) :: starEach [] X.env := by rfl) (he2 : starEach [.Call (.Name "set" p2) [a] [] pos2] X.env = (false, eval (.Call (.Name "set" p2) [a] [] pos2) X.env) :: starEach [] X.env := by rfl) :
    Gd Rl X σ G (.Call (.Name "sorted" p) [.Call (.Name "set" p2) [a] [] pos2] [] pos) (.list ((sd zs).map .str)) := by
  refine .of (pe_callB (cr_sortX hc) hg hm (by decide +kernel) (pa_cons (pe_callTy (cr_setX hc) hg2 hm2 (by decide +kernel) (pa_cons pe_w pa_nil he) (by decide) (by decide) he rfl) pa_nil he2) (by decide) (by decide) he2 rfl) fun G1 x H s Q q => ?_
  have go : ∀ (v : V) (G2 H2 : Hp), Gr Rl G1 H G2 H2 → (Rp G2 v (.list (zs.map .str)) ∨ Rp G2 v (.tuple (zs.map .str))) → rSetX X.K X.w [v] H2 fun u H3 => rSortX X.w [u] H3 Q := fun v G2 H2 e2 r => by
    refine rc_set hb G2 H2 v e2.sub r _ fun b hb2 => ⟨b, zs, rfl, upd_same, fun t ht => ?_⟩
    have g3 : Gr Rl G2 H2 G2 (upd H2 b (TxO X.w b zs)) := .of_rl e2.sub (RlOk.ex (Evl.Ex.new hb2))
    exact q _ _ _ ((e2.trans g3).trans (.laid g3.sub ht (fun _ z => by cases z))) (Rp.newL (g3.sub.fr ht) (RpAll.ofStrs _))
  rcases ha with ha | ha
  · exact ha G1 x H s _ fun v G2 H2 e2 r => go v G2 H2 e2 (.inl r)
  · exact ha G1 x H s _ fun v G2 H2 e2 r => go v G2 H2 e2 (.inr r)
/-- sorted(a), a list of unlike texts -/
theorem rc_sortS {K : PySem.W.Frag} {G H : Hp} {v : V} (s : Sub G H) (r : Rp G v (.list (zs.map .str))) (hz : zs.length < 64) (hn : zs.Nodup) (Q : VK) (q : ∀ v' G' H', Gr Rl G H G' H' → Rp G' v' (.list ((sd zs).map .str)) → Q v' H') : rSortedS K [v] H Q := by
  obtain ⟨t, xs, rfl, ht, rs⟩ := r.lstE
  obtain rfl := rs.strs
  refine ⟨t, zs, rfl, SqL.of (s.1 _ _ ht), hz, fun ys b hp hs hb => ?_⟩
  have e : ys = sd zs := sd_eq (incr_of_sorted hs (hp.nodup_iff.mpr hn)) fun z => hp.mem_iff
  subst e
  exact q _ _ _ (.laid s hb (fun _ z => by cases z)) (Rp.newL (s.fr hb) (RpAll.ofStrs _))
theorem g_sort (hm : X.mg "sorted" = none) (hz : zs.length < 64) (hn : zs.Nodup) (ha : Gd Rl X σ G a (.list (zs.map .str))) (hg : Gl X "sorted" := by rfl)
    (he : starEach [a] X.env = (false, eval a X.env) :: starEach [] X.env := by rfl) : Gd Rl X σ G (.Call (.Name "sorted" p) [a] [] pos) (.list ((sd zs).map .str)) :=
  .of (pe_callB cr_sortedS hg hm (by decide +kernel) (pa_cons pe_w pa_nil he) (by decide) (by decide) he rfl) fun G1 x H s Q q => ha G1 x H s _ fun v G2 H2 e2 r => rc_sortS e2.sub r hz hn Q fun v' G3 H3 e3 r3 => q v' G3 H3 (e2.trans e3) r3
end
end WR
end
section
set_option Elab.async false
set_option linter.all false
set_option maxRecDepth 100000
/-! deeds and tasks: as data, and what is wrong first with data -/
namespace WR
open PySem

def strsD (l : List Str) : PyData := .tuple (l.map .str)
structure Deed where
  name : Str
  needs : List Str
  bars : List Str
  adds : List Str
  strikes : List Str
  price : Int
def Deed.toD (q : Deed) : PyData := .tuple [.str q.name, strsD q.needs, strsD q.bars, strsD q.adds, strsD q.strikes, .int q.price]
structure Task where
  deeds : List Deed
  bg : List Str
  wish : List Str
def Task.toD (t : Task) : PyData := .tuple [.tuple (t.deeds.map Deed.toD), strsD t.bg, strsD t.wish]

def nameOk (s : Str) : Bool := decide ((1 : Int) ≤ s.length) && decide ((s.length : Int) ≤ 40)
def isName : PyData → Bool
  | .str s => nameOk s
  | _ => false
def isNum (d : PyData) (lo hi : Int) : Bool := match d with
  | .int i => decide (lo ≤ i) && decide (i ≤ hi)
  | _ => false
def asStrs : List PyData → Option (List Str)
  | [] => some []
  | .str s :: r => (asStrs r).map (s :: ·)
  | _ :: _ => none
theorem asStrs_map (l : List Str) : asStrs (l.map .str) = some l := by
  induction l with
  | nil => rfl
  | cons a r ih => show (asStrs (r.map .str)).map (a :: ·) = _; rw [ih]; rfl
theorem asStrs_some : ∀ {ds : List PyData} {l : List Str}, asStrs ds = some l → ds = l.map .str
  | [], l, h => by cases h; rfl
  | .str s :: r, l, h => by
    unfold asStrs at h
    cases e : asStrs r with
    | none => rw [e] at h; cases h
    | some m => rw [e] at h; cases h; rw [asStrs_some e]; rfl
  | .none :: _, _, h => by cases h
  | .bool _ :: _, _, h => by cases h
  | .int _ :: _, _, h => by cases h
  | .list _ :: _, _, h => by cases h
  | .tuple _ :: _, _, h => by cases h
  | .dict _ :: _, _, h => by cases h
/-- data that are ascending unlike names -/
def asFacts : PyData → Option (List Str)
  | .tuple ds => match asStrs ds with
    | some l => if (l.all nameOk && incr l) = true then some l else none
    | none => none
  | _ => none
theorem asFacts_some {d : PyData} {l : List Str} : asFacts d = some l ↔ d = strsD l ∧ l.all nameOk = true ∧ incr l = true := by
  constructor
  · intro h
    cases d with
    | tuple ds =>
      unfold asFacts at h
      cases e : asStrs ds with
      | none => simp only [e] at h; cases h
      | some m =>
        simp only [e] at h
        split at h
        · rename_i c
          cases h
          obtain ⟨c1, c2⟩ := Bool.and_eq_true_iff.mp c
          exact ⟨by rw [asStrs_some e]; rfl, c1, c2⟩
        · cases h
    | _ => cases h
  · rintro ⟨rfl, h1, h2⟩
    show (match asStrs (l.map .str) with | some l => if (l.all nameOk && incr l) = true then some l else none | none => none) = some l
    rw [asStrs_map]
    show (if (l.all nameOk && incr l) = true then some l else none) = some l
    rw [h1, h2]
    rfl
/-- no text in both -/
def disj (a b : List Str) : Bool := a.all fun z => !decide (z ∈ b)
def asDeed : PyData → Option Deed
  | .tuple [.str n, p1, p2, p3, p4, .int pr] => match asFacts p1, asFacts p2, asFacts p3, asFacts p4 with
    | some a, some b, some c, some e => if (nameOk n && (decide (1 ≤ pr) && decide (pr ≤ 9)) && disj a b && disj c e) = true then some ⟨n, a, b, c, e, pr⟩ else none
    | _, _, _, _ => none
  | _ => none
/-- a deed that is one -/
structure Deed.Good (q : Deed) : Prop where
  n : nameOk q.name = true
  n1 : q.needs.all nameOk = true
  n2 : q.bars.all nameOk = true
  n3 : q.adds.all nameOk = true
  n4 : q.strikes.all nameOk = true
  i1 : incr q.needs = true
  i2 : incr q.bars = true
  i3 : incr q.adds = true
  i4 : incr q.strikes = true
  d1 : disj q.needs q.bars = true
  d2 : disj q.adds q.strikes = true
  p1 : 1 ≤ q.price
  p2 : q.price ≤ 9
theorem asDeed_good {q : Deed} (g : q.Good) : asDeed q.toD = some q := by
  have e1 : asFacts (strsD q.needs) = some q.needs := asFacts_some.2 ⟨rfl, g.n1, g.i1⟩
  have e2 : asFacts (strsD q.bars) = some q.bars := asFacts_some.2 ⟨rfl, g.n2, g.i2⟩
  have e3 : asFacts (strsD q.adds) = some q.adds := asFacts_some.2 ⟨rfl, g.n3, g.i3⟩
  have e4 : asFacts (strsD q.strikes) = some q.strikes := asFacts_some.2 ⟨rfl, g.n4, g.i4⟩
  show (match asFacts (strsD q.needs), asFacts (strsD q.bars), asFacts (strsD q.adds), asFacts (strsD q.strikes) with
    | some a, some b, some c, some e => if (nameOk q.name && (decide (1 ≤ q.price) && decide (q.price ≤ 9)) && disj a b && disj c e) = true then some ⟨q.name, a, b, c, e, q.price⟩ else none
    | _, _, _, _ => none) = some q
  rw [e1, e2, e3, e4]
  simp only [g.n, g.d1, g.d2, decide_eq_true g.p1, decide_eq_true g.p2, Bool.and_self, if_true]
theorem asDeed_some {d : PyData} {q : Deed} (h : asDeed d = some q) : d = q.toD ∧ q.Good := by
  unfold asDeed at h
  split at h
  · rename_i n p1 p2 p3 p4 pr
    split at h
    · rename_i a b c e h1 h2 h3 h4
      split at h
      · rename_i k
        cases h
        obtain ⟨f1, x1, y1⟩ := asFacts_some.1 h1
        obtain ⟨f2, x2, y2⟩ := asFacts_some.1 h2
        obtain ⟨f3, x3, y3⟩ := asFacts_some.1 h3
        obtain ⟨f4, x4, y4⟩ := asFacts_some.1 h4
        subst f1 f2 f3 f4
        simp only [Bool.and_eq_true, decide_eq_true_eq] at k
        exact ⟨rfl, k.1.1.1, x1, x2, x3, x4, y1, y2, y3, y4, k.1.2, k.2, k.1.1.2.1, k.1.1.2.2⟩
      · cases h
    · cases h
  · cases h
def asDeeds : List PyData → Option (List Deed)
  | [] => some []
  | d :: r => match asDeed d, asDeeds r with
    | some q, some l => some (q :: l)
    | _, _ => none
theorem asDeeds_some : ∀ {ds : List PyData} {l : List Deed}, asDeeds ds = some l → ds = l.map Deed.toD ∧ ∀ q ∈ l, q.Good
  | [], l, h => by cases h; exact ⟨rfl, fun _ z => by cases z⟩
  | d :: r, l, h => by
    unfold asDeeds at h
    cases e1 : asDeed d with
    | none => simp only [e1] at h; cases h
    | some q =>
      cases e2 : asDeeds r with
      | none => simp only [e1, e2] at h; cases h
      | some m =>
        simp only [e1, e2] at h
        cases h
        obtain ⟨a1, a2⟩ := asDeed_some e1
        obtain ⟨b1, b2⟩ := asDeeds_some e2
        exact ⟨by rw [a1, b1]; rfl, fun z hz => (List.mem_cons.mp hz).elim (fun e => e ▸ a2) (b2 z)⟩
theorem asDeeds_good : ∀ {l : List Deed}, (∀ q ∈ l, q.Good) → asDeeds (l.map Deed.toD) = some l
  | [], _ => rfl
  | q :: l, h => by
    show (match asDeed q.toD, asDeeds (l.map Deed.toD) with | some q, some l => some (q :: l) | _, _ => none) = _
    rw [asDeed_good (h q List.mem_cons_self), asDeeds_good fun z hz => h z (List.mem_cons_of_mem _ hz)]
theorem asDeeds_isSome : ∀ (ds : List PyData), (asDeeds ds).isSome = ds.all fun d => (asDeed d).isSome
  | [] => rfl
  | d :: r => by
    rw [List.all_cons, ← asDeeds_isSome r]
    show (match asDeed d, asDeeds r with | some q, some l => some (q :: l) | _, _ => none).isSome = _
    cases asDeed d with
    | none => rfl
    | some q => cases asDeeds r <;> rfl
/-- the facts of a task, as they are met, and in order -/
def Task.met (t : Task) : List Str := t.bg ++ t.wish ++ t.deeds.flatMap fun q => q.needs ++ q.bars ++ q.adds ++ q.strikes
def Task.facts (t : Task) : List Str := sd t.met
/-- what is wrong first with data as a task -/
def wrongD : PyData → Option Str
  | .tuple [ds, b, w] => match ds with
    | .tuple dl => if 14 < dl.length then some "deeds" else match asDeeds dl with
      | none => some "deeds"
      | some qs => if incr (qs.map (·.name)) = true then (match asFacts b with
        | none => some "begin"
        | some bb => match asFacts w with
          | none => some "wish"
          | some ww => if 10 < (Task.facts ⟨qs, bb, ww⟩).length then some "facts" else none) else some "names"
    | _ => some "deeds"
  | _ => some "form"
structure Task.Good (t : Task) : Prop where
  few : t.deeds.length ≤ 14
  gd : ∀ q ∈ t.deeds, q.Good
  nm : incr (t.deeds.map (·.name)) = true
  b1 : t.bg.all nameOk = true
  b2 : incr t.bg = true
  w1 : t.wish.all nameOk = true
  w2 : incr t.wish = true
  ff : t.facts.length ≤ 10
theorem wrong_good {t : Task} (g : t.Good) : wrongD t.toD = none := by
  have h1 : ¬ 14 < (t.deeds.map Deed.toD).length := by rw [List.length_map]; have := g.few; omega
  have e3 : asFacts (strsD t.bg) = some t.bg := asFacts_some.2 ⟨rfl, g.b1, g.b2⟩
  have e4 : asFacts (strsD t.wish) = some t.wish := asFacts_some.2 ⟨rfl, g.w1, g.w2⟩
  have h5 : ¬ 10 < (Task.facts ⟨t.deeds, t.bg, t.wish⟩).length := by have := g.ff; show ¬ 10 < t.facts.length; omega
  unfold Task.toD wrongD
  simp only [if_neg h1, asDeeds_good g.gd, g.nm, if_true, e3, e4, if_neg h5]
theorem good_of {d : PyData} (h : wrongD d = none) : ∃ t : Task, d = t.toD ∧ t.Good := by
  unfold wrongD at h
  split at h
  · rename_i ds b w
    split at h
    · rename_i dl
      split at h
      · cases h
      · rename_i h1
        split at h
        · cases h
        · rename_i qs e1
          split at h
          · rename_i h2
            split at h
            · cases h
            · rename_i bb e2
              split at h
              · cases h
              · rename_i ww e3
                split at h
                · cases h
                · rename_i h3
                  obtain ⟨a1, a2⟩ := asDeeds_some e1
                  obtain ⟨b1, b2, b3⟩ := asFacts_some.1 e2
                  obtain ⟨c1, c2, c3⟩ := asFacts_some.1 e3
                  refine ⟨⟨qs, bb, ww⟩, by rw [a1, b1, c1]; rfl, ?_, a2, h2, b2, b3, c2, c3, Nat.le_of_not_lt h3⟩
                  have := congrArg List.length a1
                  rw [List.length_map] at this
                  show qs.length ≤ 14
                  omega
          · cases h
    · cases h
  · cases h

/-! ### data of some size -/
mutual
def sm : PyData → Bool
  | .str s => decide (s.length ≤ 1000) && PyData.strOk s
  | .list xs => decide (xs.length ≤ 50) && smAll xs
  | .tuple xs => decide (xs.length ≤ 50) && smAll xs
  | .dict _ => false
  | _ => true
def smAll : List PyData → Bool
  | [] => true
  | x :: r => sm x && smAll r
end
theorem smAll_mem : ∀ {l : List PyData} {d : PyData}, smAll l = true → d ∈ l → sm d = true
  | x :: r, d, h, hd => by
    unfold smAll at h
    obtain ⟨h1, h2⟩ := Bool.and_eq_true_iff.mp h
    rcases List.mem_cons.mp hd with rfl | hd
    · exact h1
    · exact smAll_mem h2 hd
theorem smAll_of : ∀ {l : List PyData}, (∀ d ∈ l, sm d = true) → smAll l = true
  | [], _ => by unfold smAll; rfl
  | x :: r, h => by
    unfold smAll
    exact Bool.and_eq_true_iff.mpr ⟨h x List.mem_cons_self, smAll_of fun d hd => h d (List.mem_cons_of_mem _ hd)⟩
theorem sm_tuple {l : List PyData} : sm (.tuple l) = true ↔ l.length ≤ 50 ∧ ∀ d ∈ l, sm d = true := by
  have e : sm (.tuple l) = (decide (l.length ≤ 50) && smAll l) := by rw [sm]
  rw [e, Bool.and_eq_true, decide_eq_true_eq]
  exact ⟨fun h => ⟨h.1, fun d hd => smAll_mem h.2 hd⟩, fun h => ⟨h.1, smAll_of h.2⟩⟩
theorem sm_list {l : List PyData} : sm (.list l) = true ↔ l.length ≤ 50 ∧ ∀ d ∈ l, sm d = true := by
  have e : sm (.list l) = (decide (l.length ≤ 50) && smAll l) := by rw [sm]
  rw [e, Bool.and_eq_true, decide_eq_true_eq]
  exact ⟨fun h => ⟨h.1, fun d hd => smAll_mem h.2 hd⟩, fun h => ⟨h.1, smAll_of h.2⟩⟩
/-- a text, a lot of texts of some size -/
def SOk (z : Str) : Prop := z.length ≤ 1000 ∧ PyData.strOk z = true
def LOk (l : List Str) : Prop := l.length ≤ 50 ∧ ∀ z ∈ l, SOk z
theorem sm_str {z : Str} : sm (.str z) = true ↔ SOk z := by
  unfold sm SOk
  rw [Bool.and_eq_true, decide_eq_true_eq]
theorem sm_strsD {l : List Str} : sm (strsD l) = true ↔ LOk l := by
  unfold strsD LOk
  rw [sm_tuple, List.length_map]
  refine and_congr_right fun _ => ⟨fun h z hz => sm_str.1 (h _ (List.mem_map.mpr ⟨z, hz, rfl⟩)), fun h d hd => ?_⟩
  obtain ⟨z, hz, rfl⟩ := List.mem_map.mp hd
  exact sm_str.2 (h z hz)
structure Deed.Sm (q : Deed) : Prop where
  n : SOk q.name
  n1 : LOk q.needs
  n2 : LOk q.bars
  n3 : LOk q.adds
  n4 : LOk q.strikes
theorem sm_deed {q : Deed} : sm q.toD = true ↔ q.Sm := by
  unfold Deed.toD
  rw [sm_tuple]
  constructor
  · rintro ⟨_, h⟩
    exact ⟨sm_str.1 (h _ (by simp)), sm_strsD.1 (h _ (by simp)), sm_strsD.1 (h (strsD q.bars) (by simp)), sm_strsD.1 (h (strsD q.adds) (by simp)), sm_strsD.1 (h (strsD q.strikes) (by simp))⟩
  · intro h
    refine ⟨by simp, fun d hd => ?_⟩
    simp only [List.mem_cons, List.not_mem_nil, or_false] at hd
    rcases hd with rfl | rfl | rfl | rfl | rfl | rfl
    · exact sm_str.2 h.n
    · exact sm_strsD.2 h.n1
    · exact sm_strsD.2 h.n2
    · exact sm_strsD.2 h.n3
    · exact sm_strsD.2 h.n4
    · unfold sm; rfl
structure Task.Sm (t : Task) : Prop where
  few : t.deeds.length ≤ 50
  gd : ∀ q ∈ t.deeds, q.Sm
  b : LOk t.bg
  w : LOk t.wish
theorem sm_task {t : Task} : sm t.toD = true ↔ t.Sm := by
  unfold Task.toD
  rw [sm_tuple]
  constructor
  · rintro ⟨_, h⟩
    have h0 := sm_tuple.1 (h (.tuple (t.deeds.map Deed.toD)) (by simp))
    rw [List.length_map] at h0
    exact ⟨h0.1, fun q hq => sm_deed.1 (h0.2 _ (List.mem_map.mpr ⟨q, hq, rfl⟩)), sm_strsD.1 (h (strsD t.bg) (by simp)), sm_strsD.1 (h (strsD t.wish) (by simp))⟩
  · intro h
    refine ⟨by simp, fun d hd => ?_⟩
    simp only [List.mem_cons, List.not_mem_nil, or_false] at hd
    rcases hd with rfl | rfl | rfl
    · refine sm_tuple.2 ⟨by rw [List.length_map]; exact h.few, fun d hd => ?_⟩
      obtain ⟨q, hq, rfl⟩ := List.mem_map.mp hd
      exact sm_deed.2 (h.gd q hq)
    · exact sm_strsD.2 h.b
    · exact sm_strsD.2 h.w
/-- comparing -/
theorem eqv_nil (l : List PyData) : PyData.eqv (.list l) (.list []) = l.isEmpty := by
  cases l <;> simp [PyData.eqv, PyData.eqvAll]
theorem depthAll_strs (l : List Str) : PyData.depthAll (l.map .str) = 0 := by
  induction l with
  | nil => simp [PyData.depthAll]
  | cons a r ih => simp [PyData.depthAll, PyData.depth, ih]
theorem canLay_strs {l : List Str} (h : ∀ z ∈ l, PyData.strOk z = true) : PyData.canLayAll0 (l.map .str) = true := by
  induction l with
  | nil => simp [PyData.canLayAll0]
  | cons a r ih => simp [PyData.canLayAll0, PyData.canLay0, h a List.mem_cons_self, ih fun z hz => h z (List.mem_cons_of_mem _ hz)]
theorem shaped_str {z : Str} (h : PyData.strOk z = true) : SeqAt.shaped (.str z) = true := by
  simp [SeqAt.shaped, PyData.canLay0, PyData.depth, h]
theorem shaped_strsL {l : List Str} (h : ∀ z ∈ l, PyData.strOk z = true) : SeqAt.shaped (.list (l.map .str)) = true := by
  simp [SeqAt.shaped, PyData.canLay0, PyData.depth, canLay_strs h, depthAll_strs]
theorem shaped_strsT {l : List Str} (h : ∀ z ∈ l, PyData.strOk z = true) : SeqAt.shaped (.tuple (l.map .str)) = true := by
  simp [SeqAt.shaped, PyData.canLay0, PyData.depth, canLay_strs h, depthAll_strs]
theorem shaped_nil : SeqAt.shaped (.list []) = true := by simp [SeqAt.shaped, PyData.canLay0, PyData.canLayAll0, PyData.depth, PyData.depthAll]
theorem eqv_strs : ∀ (l m : List Str), PyData.eqvAll (l.map .str) (m.map .str) = decide (l = m)
  | [], [] => by simp [PyData.eqvAll]
  | [], _ :: _ => by simp [PyData.eqvAll]
  | _ :: _, [] => by simp [PyData.eqvAll]
  | a :: l, b :: m => by
    have ih := eqv_strs l m
    show PyData.eqvAll (.str a :: l.map .str) (.str b :: m.map .str) = _
    rw [PyData.eqvAll, ih]
    simp only [PyData.eqv]
    by_cases e : a = b <;> by_cases e2 : l = m <;> simp [e, e2]
end WR
end
section
set_option Elab.async false
set_option linter.all false
set_option maxRecDepth 100000
namespace WR
open PySem
theorem isName_strs (l : List Str) : (l.map PyData.str).all isName = l.all nameOk := by
  rw [List.all_map]
  rfl
theorem all_isName : ∀ {ds : List PyData}, ds.all isName = true → ∃ l : List Str, ds = l.map .str ∧ l.all nameOk = true
  | [], _ => ⟨[], rfl, rfl⟩
  | d :: r, h => by
    rw [List.all_cons, Bool.and_eq_true] at h
    obtain ⟨l, e1, e2⟩ := all_isName h.2
    cases d with
    | str z => exact ⟨z :: l, by rw [e1]; rfl, by rw [List.all_cons, e2, Bool.and_true]; exact h.1⟩
    | _ => exact nomatch h.1
/-- consecutive texts ascend -/
theorem incr_range : ∀ (l : List Str), ((List.range (l.length - 1)).map fun k => slt (l.getD k Str.empty) (l.getD (k + 1) Str.empty)).all id = incr l
  | [] => rfl
  | [_] => rfl
  | a :: b :: r => by
    have ih := incr_range (b :: r)
    show ((List.range (r.length + 1)).map fun k => slt ((a :: b :: r).getD k Str.empty) ((a :: b :: r).getD (k + 1) Str.empty)).all id = (slt a b && incr (b :: r))
    rw [List.range_succ_eq_map, List.map_cons, List.all_cons, ← ih, List.map_map]
    rfl
theorem asFacts_none {ds : List PyData} (h : ds.all isName = false) : asFacts (.tuple ds) = none := by
  cases e : asFacts (.tuple ds) with
  | none => rfl
  | some l =>
    obtain ⟨e1, e2, _⟩ := asFacts_some.1 e
    have e3 : ds = l.map .str := by injection e1
    rw [e3, isName_strs, e2] at h
    cases h
theorem asFacts_no {d : PyData} (h : ∀ ds, d ≠ .tuple ds) : asFacts d = none := by
  cases e : asFacts d with
  | none => rfl
  | some l => exact absurd (asFacts_some.1 e).1 (h _)
theorem asFacts_strs {l : List Str} (h : l.all nameOk = true) : (asFacts (strsD l)).isSome = incr l := by
  cases e : incr l with
  | true => rw [asFacts_some.2 ⟨rfl, h, e⟩]; rfl
  | false =>
    cases e2 : asFacts (strsD l) with
    | none => rfl
    | some m =>
      obtain ⟨e3, _, e4⟩ := asFacts_some.1 e2
      have e5 : l = m := by
        have h1 : l.map PyData.str = m.map PyData.str := by injection e3
        have h2 := asStrs_map l
        rw [h1, asStrs_map m] at h2
        exact (Option.some.inj h2).symm
      rw [← e5, e] at e4
      cases e4
end WR
end
section
set_option Elab.async false
set_option linter.all false
set_option maxRecDepth 100000
namespace WR
open PySem PySem.Spec PyProof.Rows L2
def topS (i : Nat) : Stmt := PySem.Challenge.pw_wishroads_k00_whole_tasks.main.body.getD i (.Pass ⟨0, 0, 0, 0⟩)
/-- the built-in names that the texts use are still the built-in ones -/
structure Bt (mg : Str → Option Value) : Prop where
  len : mg "len" = none
  isi : mg "isinstance" = none
  int : mg "int" = none
  str : mg "str" = none
  bool : mg "bool" = none
  tuple : mg "tuple" = none
  list : mg "list" = none
  all : mg "all" = none
  range : mg "range" = none
  sorted : mg "sorted" = none
  set : mg "set" = none
  sum : mg "sum" = none
  dict : mg "dict" = none
  super : mg "super" = none
/-! ### which class -/
def tTup : PyData → Bool | .tuple _ => true | _ => false
def tLst : PyData → Bool | .list _ => true | _ => false
def tStr : PyData → Bool | .str _ => true | _ => false
def tBl : PyData → Bool | .bool _ => true | _ => false
def tInt : PyData → Bool | .bool _ => true | .int _ => true | _ => false
theorem kit_tup (d : PyData) : kitB (tyN d) "tuple" = some (tTup d) := by
  cases d with
  | none => exact (by decide +kernel : kitB "NoneType" "tuple" = some false)
  | bool b => exact (by decide +kernel : kitB "bool" "tuple" = some false)
  | int i => exact (by decide +kernel : kitB "int" "tuple" = some false)
  | str z => exact (by decide +kernel : kitB "str" "tuple" = some false)
  | list l => exact (by decide +kernel : kitB "list" "tuple" = some false)
  | tuple l => exact (by decide +kernel : kitB "tuple" "tuple" = some true)
  | dict l => exact (by decide +kernel : kitB "dict" "tuple" = some false)
theorem kit_lst (d : PyData) : kitB (tyN d) "list" = some (tLst d) := by
  cases d with
  | none => exact (by decide +kernel : kitB "NoneType" "list" = some false)
  | bool b => exact (by decide +kernel : kitB "bool" "list" = some false)
  | int i => exact (by decide +kernel : kitB "int" "list" = some false)
  | str z => exact (by decide +kernel : kitB "str" "list" = some false)
  | list l => exact (by decide +kernel : kitB "list" "list" = some true)
  | tuple l => exact (by decide +kernel : kitB "tuple" "list" = some false)
  | dict l => exact (by decide +kernel : kitB "dict" "list" = some false)
theorem kit_str (d : PyData) : kitB (tyN d) "str" = some (tStr d) := by
  cases d with
  | none => exact (by decide +kernel : kitB "NoneType" "str" = some false)
  | bool b => exact (by decide +kernel : kitB "bool" "str" = some false)
  | int i => exact (by decide +kernel : kitB "int" "str" = some false)
  | str z => exact (by decide +kernel : kitB "str" "str" = some true)
  | list l => exact (by decide +kernel : kitB "list" "str" = some false)
  | tuple l => exact (by decide +kernel : kitB "tuple" "str" = some false)
  | dict l => exact (by decide +kernel : kitB "dict" "str" = some false)
theorem kit_bl (d : PyData) : kitB (tyN d) "bool" = some (tBl d) := by
  cases d with
  | none => exact (by decide +kernel : kitB "NoneType" "bool" = some false)
  | bool b => exact (by decide +kernel : kitB "bool" "bool" = some true)
  | int i => exact (by decide +kernel : kitB "int" "bool" = some false)
  | str z => exact (by decide +kernel : kitB "str" "bool" = some false)
  | list l => exact (by decide +kernel : kitB "list" "bool" = some false)
  | tuple l => exact (by decide +kernel : kitB "tuple" "bool" = some false)
  | dict l => exact (by decide +kernel : kitB "dict" "bool" = some false)
theorem kit_int (d : PyData) : kitB (tyN d) "int" = some (tInt d) := by
  cases d with
  | none => exact (by decide +kernel : kitB "NoneType" "int" = some false)
  | bool b => exact (by decide +kernel : kitB "bool" "int" = some true)
  | int i => exact (by decide +kernel : kitB "int" "int" = some true)
  | str z => exact (by decide +kernel : kitB "str" "int" = some false)
  | list l => exact (by decide +kernel : kitB "list" "int" = some false)
  | tuple l => exact (by decide +kernel : kitB "tuple" "int" = some false)
  | dict l => exact (by decide +kernel : kitB "dict" "int" = some false)
theorem tTup_e {d : PyData} (h : tTup d = true) : ∃ l, d = .tuple l := by cases d <;> first | exact ⟨_, rfl⟩ | cases h
theorem tLst_e {d : PyData} (h : tLst d = true) : ∃ l, d = .list l := by cases d <;> first | exact ⟨_, rfl⟩ | cases h
theorem tStr_e {d : PyData} (h : tStr d = true) : ∃ z, d = .str z := by cases d <;> first | exact ⟨_, rfl⟩ | cases h
theorem tInt_e : ∀ {d : PyData}, tInt d = true → tBl d = false → ∃ i, d = .int i
  | .int i, _, _ => ⟨i, rfl⟩
  | .bool _, _, h => nomatch h
  | .none, h, _ => nomatch h
  | .str _, h, _ => nomatch h
  | .list _, h, _ => nomatch h
  | .tuple _, h, _ => nomatch h
  | .dict _, h, _ => nomatch h
section
variable {Rl : Hp → Hp → Prop} [RlOk Rl] {X : Cx} {σ : L2.St} {G : Hp} {a : Expr} {d : PyData} {p p2 pos : Pos}
theorem g_isTup (B : Bt X.mg) (ha : Gd Rl X σ G a d) (hg0 : Gl X "isinstance" := by rfl) (hg : Gl X "tuple" := by rfl) (he : starEach [a, .Name "tuple" p2] X.env = (false, eval a X.env) :: starEach [.Name "tuple" p2] X.env := by rfl) :
    Gd Rl X σ G (.Call (.Name "isinstance" p) [a, .Name "tuple" p2] [] pos) (.bool (tTup d)) := g_isi B.isi B.tuple (by decide +kernel) (kit_tup d) ha hg0 hg (by decide) (by decide) he rfl
theorem g_isLst (B : Bt X.mg) (ha : Gd Rl X σ G a d) (hg0 : Gl X "isinstance" := by rfl) (hg : Gl X "list" := by rfl) (he : starEach [a, .Name "list" p2] X.env = (false, eval a X.env) :: starEach [.Name "list" p2] X.env := by rfl) :
    Gd Rl X σ G (.Call (.Name "isinstance" p) [a, .Name "list" p2] [] pos) (.bool (tLst d)) := g_isi B.isi B.list (by decide +kernel) (kit_lst d) ha hg0 hg (by decide) (by decide) he rfl
theorem g_isStr (B : Bt X.mg) (ha : Gd Rl X σ G a d) (hg0 : Gl X "isinstance" := by rfl) (hg : Gl X "str" := by rfl) (he : starEach [a, .Name "str" p2] X.env = (false, eval a X.env) :: starEach [.Name "str" p2] X.env := by rfl) :
    Gd Rl X σ G (.Call (.Name "isinstance" p) [a, .Name "str" p2] [] pos) (.bool (tStr d)) := g_isi B.isi B.str (by decide +kernel) (kit_str d) ha hg0 hg (by decide) (by decide) he rfl
theorem g_isBl (B : Bt X.mg) (ha : Gd Rl X σ G a d) (hg0 : Gl X "isinstance" := by rfl) (hg : Gl X "bool" := by rfl) (he : starEach [a, .Name "bool" p2] X.env = (false, eval a X.env) :: starEach [.Name "bool" p2] X.env := by rfl) :
    Gd Rl X σ G (.Call (.Name "isinstance" p) [a, .Name "bool" p2] [] pos) (.bool (tBl d)) := g_isi B.isi B.bool (by decide +kernel) (kit_bl d) ha hg0 hg (by decide) (by decide) he rfl
theorem g_isInt (B : Bt X.mg) (ha : Gd Rl X σ G a d) (hg0 : Gl X "isinstance" := by rfl) (hg : Gl X "int" := by rfl) (he : starEach [a, .Name "int" p2] X.env = (false, eval a X.env) :: starEach [.Name "int" p2] X.env := by rfl) :
    Gd Rl X σ G (.Call (.Name "isinstance" p) [a, .Name "int" p2] [] pos) (.bool (tInt d)) := g_isi B.isi B.int (by decide +kernel) (kit_int d) ha hg0 hg (by decide) (by decide) he rfl
end
theorem Room.hu {k : Nat} {A : Around} (r : Room k A) : A.units + 64 < cLine := r.units
section
variable {P : Program} {w : World} {K : PySem.W.Frag} {mg : Str → Option Value} {base : Heap} {f : Addr} {fd : FuncData}
/-! ### is_number, is_name -/
def RNum (ds : List PyData) (d : PyData) : Prop := ∃ v lo hi, ds = [v, .int lo, .int hi] ∧ d = .bool (isNum v lo hi)
theorem sc9 : FnScope ["value", "low", "high"] ["value", "low", "high"] (defScope (topS 9)) := ⟨rfl, rfl, rfl, by decide +kernel, rfl, by decide +kernel, by decide +kernel⟩
theorem ok_is_number (B : Bt mg) (F : Fun K "is_number" "is_number" (topS 9) f fd) : FnOk P w K mg base CX0 1 f fd ["value", "low", "high"] (PuSp 3 RNum) := by
  refine pu_ok (R := RNum) F sc9 fun cdv A outer s H0 E G H vs ds d hr sb ra hn hR => ?_
  obtain ⟨v, lo, hi, rfl, rfl⟩ := hR
  obtain ⟨x0, _, rfl, r0, ra⟩ := ra.consE
  obtain ⟨x1, _, rfl, r1, ra⟩ := ra.consE
  obtain ⟨x2, _, rfl, r2, ra⟩ := ra.consE
  obtain rfl := ra.nilE
  refine ws_ret sb (gd_is (g_and (g_isInt B (g_var 0 rfl r0)) fun h1 => g_and (k' := isNum v lo hi) (g_not (g_isBl B (g_var 0 rfl r0))) fun h2 => ?_) ?_) fun v G' H' g r => ⟨G', g, r⟩
  · obtain ⟨i, rfl⟩ := tInt_e h1 (by simpa using h2)
    exact g_one (g_chain op_le op_le rd_cmpI (fun _ => rd_cmpI) (g_var 1 rfl r1) (g_var 0 rfl r0) fun _ => g_var 2 rfl r2)
  · cases v <;> rfl
def RName (ds : List PyData) (d : PyData) : Prop := ∃ v, ds = [v] ∧ sm v = true ∧ d = .bool (isName v)
theorem sc10 : FnScope ["value"] ["value"] (defScope (topS 10)) := ⟨rfl, rfl, rfl, by decide +kernel, rfl, by decide +kernel, by decide +kernel⟩
theorem ok_is_name (B : Bt mg) (F : Fun K "is_name" "is_name" (topS 10) f fd) : FnOk P w K mg base CX0 1 f fd ["value"] (PuSp 1 RName) := by
  refine pu_ok (R := RName) F sc10 fun cdv A outer s H0 E G H vs ds d hr sb ra hn hR => ?_
  obtain ⟨v, rfl, hs, rfl⟩ := hR
  obtain ⟨x0, _, rfl, r0, ra⟩ := ra.consE
  obtain rfl := ra.nilE
  refine ws_ret sb (gd_is (g_and (k' := isName v) (g_isStr B (g_var 0 rfl r0)) fun h1 => ?_) ?_) fun v G' H' g r => ⟨G', g, r⟩
  · obtain ⟨z, rfl⟩ := tStr_e h1
    exact g_one (g_chain op_le op_le rd_cmpI (fun _ => rd_cmpI) g_int (g_lenS B.len (Nat.le_trans (sm_str.1 hs).1 (by decide)) (g_var 0 rfl r0)) fun _ => g_int)
  · cases v <;> rfl
end
end WR
end
section
set_option Elab.async false
set_option linter.all false
set_option maxRecDepth 100000
namespace WR
open PySem PySem.Spec PyProof.Rows L2
section
variable {P : Program} {w : World} {K : PySem.W.Frag} {mg : Str → Option Value} {base : Heap} {f : Addr} {fd : FuncData}
/-! ### are_facts -/
def RFacts (ds : List PyData) (d : PyData) : Prop := ∃ v, ds = [v] ∧ sm v = true ∧ d = .bool (asFacts v).isSome
abbrev n11 : List Str := ["value", "one", "k"]
theorem sc11 : FnScope n11 ["value"] (defScope (topS 11)) := ⟨rfl, rfl, rfl, by decide +kernel, rfl, by decide +kernel, by decide +kernel⟩
theorem getD_at {l : List Str} {i : Nat} (h : i < l.length) : atI (l.map PyData.str) (i : Int) = some (.str (l.getD i Str.empty)) := by
  refine atI_nat ?_
  rw [List.getElem?_map, List.getElem?_eq_getElem h, List.getD_eq_getElem?_getD, List.getElem?_eq_getElem h]
  rfl
theorem ok_are_facts (B : Bt mg) (pn : Pu P w K mg base "is_name" 1 1 RName) (F : Fun K "are_facts" "are_facts" (topS 11) f fd) : FnOk P w K mg base CX0 2 f fd ["value"] (PuSp 1 RFacts) := by
  refine pu_ok (R := RFacts) F sc11 fun cdv A outer s H0 E G H vs ds d hr sb ra hn hR => ?_
  obtain ⟨v, rfl, hs, rfl⟩ := hR
  obtain ⟨x0, _, rfl, r0, ra⟩ := ra.consE
  obtain rfl := ra.nilE
  refine ws_if (Rl := Ex) sb (Gw.pt (gw_or (k := !tTup v) (k' := !(match v with | .tuple ds => ds.all isName | _ => true)) ?_ fun h1 => gw_or1 (gt_not ?_))) ?_ ?_
  · exact gt_not (gt_val (g_isTup B (g_var 0 rfl r0)))
  · refine gt_val ?_
    obtain ⟨ds, rfl⟩ := tTup_e (by simpa using h1)
    obtain ⟨hl, hm⟩ := sm_tuple.1 hs
    refine gd_is (g_all rfl B.all (bs := ds.map isName) (gd_is (g_lcT (fun _ => true) (fun d => .bool (isName d)) rfl sc11.nd (blkOk_by (own := [("one", 1)]) (N := n11) (sc := defScope (topS 11)) (by decide +kernel)) (fun _ _ _ _ _ => pg_name (i := 1) sc11.nd rfl (Or.inl rfl)) (g_var 0 rfl r0) (by omega)
      fun d v G1 hd e1 rd => ⟨fun _ _ _ _ _ => gi_nil, fun _ _ _ _ _ _ => g_call pn hr (ga_cons (g_var 1 rfl rd) ga_nil) rfl ⟨d, rfl, hm d hd, rfl⟩⟩) ?_)) ?_
    · rw [List.filter_eq_self.mpr fun _ _ => rfl, List.map_map]
      rfl
    · show PyData.bool ((ds.map isName).all id) = .bool (ds.all isName)
      rw [List.all_map]
      rfl
  · intro h G' H' g
    refine ws_ret g.sub g_bl fun v' G2 H2 g2 r2 => ⟨G2, g.trans g2, ?_⟩
    have e : asFacts v = none := by
      cases v with
      | tuple ds => exact asFacts_none (by simpa [tTup] using h)
      | _ => exact asFacts_no fun _ z => nomatch z
    rw [e]
    exact r2
  · intro h G' H' g
    obtain ⟨ds, rfl⟩ : ∃ ds, v = .tuple ds := tTup_e (by cases v <;> first | rfl | (exact nomatch h))
    obtain ⟨l, rfl, hl⟩ := all_isName (ds := ds) (by simpa [tTup] using h)
    obtain ⟨hz, _⟩ := sm_tuple.1 hs
    rw [List.length_map] at hz
    rw [show PyData.tuple (l.map .str) = strsD l from rfl, asFacts_strs hl, ← incr_range l]
    have r1 := r0.mono g.ex
    refine ws_ret g.sub (g_all rfl B.all (gd_is (g_lcR (z := (l.length : Int) - 1) (fun _ => true) (fun k => .bool (slt (l.getD k Str.empty) (l.getD (k + 1) Str.empty))) rfl sc11.nd (blkOk_by (own := [("k", 2)]) (N := n11) (sc := defScope (topS 11)) (by decide +kernel)) (fun _ _ _ _ _ => pg_name (i := 2) sc11.nd rfl (Or.inl rfl)) B.range
      (g_op op_sub rd_int (gd_is (g_lenT B.len (g_var 0 rfl r1)) (by rw [List.length_map])) g_int) (by omega) fun i G1 hi e1 => ⟨fun _ _ _ _ _ => gi_nil, fun _ _ _ _ _ _ => ?_⟩) ?_)) fun v' G2 H2 g2 r2 => ⟨G2, g.trans g2, r2⟩
    · have r2 := r1.mono e1
      have e2 : ((i : Int) + 1) = ((i + 1 : Nat) : Int) := by omega
      refine g_cmp op_lt_str rd_str (g_ixT (g_var 0 rfl r2) (g_var 2 rfl (.int _)) (getD_at (by omega))) (g_ixT (g_var 0 rfl r2) (g_op op_add rd_int (g_var 2 rfl (.int _)) g_int) ?_) (nomark _)
      rw [e2]
      exact getD_at (by omega)
    · have e2 : ((l.length : Int) - 1).toNat = l.length - 1 := by omega
      rw [List.filter_eq_self.mpr fun _ _ => rfl, e2, List.map_map]
      rfl
end
end WR
end
section
set_option Elab.async false
set_option linter.all false
set_option maxRecDepth 100000
namespace WR
open PySem PySem.Spec PyProof.Rows L2
theorem filter_strs (l : List Str) (q : PyData → Bool) (p : Str → Bool) (h : ∀ z ∈ l, q (.str z) = p z) : ((l.map PyData.str).filter q).map id = (l.filter p).map .str := by
  rw [List.map_id]
  induction l with
  | nil => rfl
  | cons a r ih =>
    rw [List.map_cons, List.filter_cons, List.filter_cons, h a List.mem_cons_self, ih fun z hz => h z (List.mem_cons_of_mem _ hz)]
    cases p a <;> rfl
def strP (p : Str → Bool) : PyData → Bool
  | .str z => p z
  | _ => false
section
variable {Rl : Hp → Hp → Prop} [RlOk Rl] {X : Cx} {σ : L2.St} {G : Hp} {elt iter cond : Expr} {scope : Scope} {x y : Str} {j i : Nat} {tpos pos py spos : Pos} {l : List Str}
/-- [x for x in (a tuple of texts) if cond] -/
theorem g_filT (p : Str → Bool) (hc : X.calm = true) (hN : X.N.Nodup) (ok : BlkOk X.N X.env.scope scope [(x, j)]) (hg : InB X scope fun Y => PG Y (.Name x tpos) (gName j)) (hi : Gd Rl X σ G iter (.tuple (l.map .str))) (hz : l.length < 100000)
    (hb : ∀ z G1, z ∈ l → Ex G G1 → InB X scope fun Y => Gt Rl Y ((wipe σ [j]).set j (some (.str z))) G1 cond (p z)) (he : ∀ z G1, InB X scope fun Y => Gd Rl Y ((wipe σ [j]).set j (some (.str z))) G1 elt (.str z))
    (hs : ∀ x, foldedSetIterable iter X.env x = pure x := by intro _; rfl) : Gd Rl X σ G (.ListComp elt [⟨.Name x tpos, iter, [cond], 0⟩] scope pos) (.list ((l.filter p).map .str)) := by
  refine gd_is (g_lcT (strP p) id hc hN ok hg hi (by rw [List.length_map]; exact hz) (fun d v G1 hd e1 rd => ?_) hs) (congrArg PyData.list (filter_strs l _ p fun _ _ => rfl))
  obtain ⟨z, hz, rfl⟩ := List.mem_map.mp hd
  obtain rfl := rd.strE
  exact ⟨fun s H C cl fp => gi_one (hb z G1 hz e1 s H C cl fp), fun _ s H C cl fp => he z G1 s H C cl fp⟩
theorem g_filL (p : Str → Bool) (hc : X.calm = true) (hN : X.N.Nodup) (ok : BlkOk X.N X.env.scope scope [(x, j)]) (hg : InB X scope fun Y => PG Y (.Name x tpos) (gName j)) (hi : Gd Rl X σ G iter (.list (l.map .str))) (hz : l.length < 100000)
    (hb : ∀ z G1, z ∈ l → Ex G G1 → InB X scope fun Y => Gt Rl Y ((wipe σ [j]).set j (some (.str z))) G1 cond (p z)) (he : ∀ z G1, InB X scope fun Y => Gd Rl Y ((wipe σ [j]).set j (some (.str z))) G1 elt (.str z))
    (hs : ∀ x, foldedSetIterable iter X.env x = pure x := by intro _; rfl) : Gd Rl X σ G (.ListComp elt [⟨.Name x tpos, iter, [cond], 0⟩] scope pos) (.list ((l.filter p).map .str)) := by
  refine gd_is (g_lcL (strP p) id hc hN ok hg hi (by rw [List.length_map]; exact hz) (fun d v G1 hd e1 rd => ?_) hs) (congrArg PyData.list (filter_strs l _ p fun _ _ => rfl))
  obtain ⟨z, hz, rfl⟩ := List.mem_map.mp hd
  obtain rfl := rd.strE
  exact ⟨fun s H C cl fp => gi_one (hb z G1 hz e1 s H C cl fp), fun _ s H C cl fp => he z G1 s H C cl fp⟩
theorem ws_filT {H : Hp} {rest : List Stmt} {D : Ends} (p : Str → Bool) (hc : X.calm = true) (hN : X.N.Nodup) (hy : X.N[i]? = some y) (hyl : X.env.scope.names.lookup y = some .local) (hsw : swapsWith (.ListComp elt [⟨.Name x tpos, iter, [cond], 0⟩] scope pos) (some (.Name y py)) spos.line X.env = pure true)
    (ok : BlkOk X.N X.env.scope scope [(x, j)]) (hg : InB X scope fun Y => PG Y (.Name x tpos) (gName j)) (sb : Sub G H) (hi : Gd Rl X σ G iter (.tuple (l.map .str))) (hz : l.length < 100000)
    (hb : ∀ z G1, z ∈ l → Ex G G1 → InB X scope fun Y => Gt Rl Y ((wipe σ [j]).set j (some (.str z))) G1 cond (p z)) (he : ∀ z G1, InB X scope fun Y => Gd Rl Y ((wipe σ [j]).set j (some (.str z))) G1 elt (.str z))
    (k : ∀ v G' H', Gr Rl G H G' H' → Rp G' v (.list ((l.filter p).map .str)) → Ws X rest D (σ.set i (some v)) H') (hs : ∀ x, foldedSetIterable iter X.env x = pure x := by intro _; rfl) : Ws X (.Assign [.Name y py] (.ListComp elt [⟨.Name x tpos, iter, [cond], 0⟩] scope pos) spos :: rest) D σ H := by
  refine ws_setLcT (strP p) id hc hN hy hyl hsw ok hg sb hi (by rw [List.length_map]; exact hz) (fun d v G1 hd e1 rd => ?_) (fun v G' H' g r => k v G' H' g (by rw [filter_strs l _ p fun _ _ => rfl] at r; exact r)) hs
  obtain ⟨z, hz, rfl⟩ := List.mem_map.mp hd
  obtain rfl := rd.strE
  exact ⟨fun s H C cl fp => gi_one (hb z G1 hz e1 s H C cl fp), fun _ s H C cl fp => he z G1 s H C cl fp⟩
end
/-! ### in, not in -/
section
variable {Rl : Hp → Hp → Prop} [RlOk Rl] {X : Cx} {σ : L2.St} {G : Hp} {a b : Expr} {pos : Pos} {z : Str} {l : List Str}
theorem gt_inT (ha : Gd Rl X σ G a (.str z)) (hb : Gd Rl X σ G b (.tuple (l.map .str))) (hm : behindInMarks .In b = false := by rfl) : Gt Rl X σ G (.Compare a [.In] [b] pos) (decide (z ∈ l)) := gt_cmp op_in_seq (rd_inT (neg := false)) ha hb hm
theorem gt_niT (ha : Gd Rl X σ G a (.str z)) (hb : Gd Rl X σ G b (.tuple (l.map .str))) (hm : behindInMarks .NotIn b = false := by rfl) : Gt Rl X σ G (.Compare a [.NotIn] [b] pos) (!decide (z ∈ l)) := gt_cmp op_notIn_seq (rd_inT (neg := true)) ha hb hm
theorem gt_niL (ha : Gd Rl X σ G a (.str z)) (hb : Gd Rl X σ G b (.list (l.map .str))) (hm : behindInMarks .NotIn b = false := by rfl) : Gt Rl X σ G (.Compare a [.NotIn] [b] pos) (!decide (z ∈ l)) := gt_cmp op_notIn_seq (rd_inL (neg := true)) ha hb hm
/-- x == [], x != [] of a list of texts -/
theorem g_eqNil (hu : X.A.units + 64 < cLine) (h : ∀ z ∈ l, PyData.strOk z = true) (ha : Gd Rl X σ G a (.list (l.map .str))) {p : Pos} : Gd Rl X σ G (.Compare a [.Eq] [.List [] p] pos) (.bool l.isEmpty) :=
  gd_is (g_eq hu (shaped_strsL h) shaped_nil ha (g_lst ga_nil (by simp))) (by rw [eqv_nil]; cases l <;> rfl)
theorem gt_neNil (hu : X.A.units + 64 < cLine) (h : ∀ z ∈ l, PyData.strOk z = true) (ha : Gd Rl X σ G a (.list (l.map .str))) {p : Pos} : Gt Rl X σ G (.Compare a [.NotEq] [.List [] p] pos) (!l.isEmpty) :=
  gt_is (gt_ne hu (shaped_strsL h) shaped_nil ha (g_lst ga_nil (by simp))) (by rw [eqv_nil]; cases l <;> rfl)
theorem gt_eqNil (hu : X.A.units + 64 < cLine) (h : ∀ z ∈ l, PyData.strOk z = true) (ha : Gd Rl X σ G a (.list (l.map .str))) {p : Pos} : Gt Rl X σ G (.Compare a [.Eq] [.List [] p] pos) l.isEmpty :=
  gt_is (gt_eq hu (shaped_strsL h) shaped_nil ha (g_lst ga_nil (by simp))) (by rw [eqv_nil]; cases l <;> rfl)
theorem shaped_int (i : Int) : SeqAt.shaped (.int i) = true := by simp [SeqAt.shaped, PyData.canLay0, PyData.depth]
theorem gt_neI (hu : X.A.units + 64 < cLine) {i j : Int} (ha : Gd Rl X σ G a (.int i)) (hb : Gd Rl X σ G b (.int j)) : Gt Rl X σ G (.Compare a [.NotEq] [b] pos) (!(i == j)) :=
  gt_is (gt_ne hu (shaped_int i) (shaped_int j) ha hb) (by simp [PyData.eqv])
end
theorem filter_empty (a b : List Str) : (a.filter fun z => decide (z ∈ b)).isEmpty = disj a b := by
  unfold disj
  induction a with
  | nil => rfl
  | cons x r ih =>
    rw [List.filter_cons, List.all_cons]
    by_cases h : x ∈ b
    · simp [h]
    · simp [h, ih]
end WR
end
section
set_option Elab.async false
set_option linter.all false
set_option maxRecDepth 100000
namespace WR
open PySem PySem.Spec PyProof.Rows L2
/-- six things, the first a name -/
def six (ds : List PyData) : Bool := match ds with
  | [a, _, _, _, _, _] => isName a
  | _ => false
def sixD : PyData → Bool
  | .tuple ds => six ds
  | _ => false
theorem sixD_e {v : PyData} (h : sixD v = true) : ∃ z b c d e g, v = .tuple [.str z, b, c, d, e, g] ∧ nameOk z = true := by
  unfold sixD at h
  split at h
  · unfold six at h
    split at h
    · rename_i a b c d e g
      cases a with
      | str z => exact ⟨z, b, c, d, e, g, rfl, h⟩
      | _ => exact nomatch h
    · cases h
  · cases h
theorem sixD_no {v : PyData} (h : sixD v = false) : asDeed v = none := by
  cases e : asDeed v with
  | none => rfl
  | some q =>
    obtain ⟨e1, g⟩ := asDeed_some e
    rw [e1] at h
    have : sixD q.toD = nameOk q.name := rfl
    rw [this, g.n] at h
    cases h
def not6 : PyData → Bool
  | .tuple ds => !((ds.length : Int) == 6)
  | _ => true
/-- the four parts are facts, the price is one -/
def partsOk (b c d e g : PyData) : Bool := ([b, c, d, e].map fun p => (asFacts p).isSome).all id && isNum g 1 9
theorem parts_no {z : Str} {b c d e g : PyData} (h : partsOk b c d e g = false) : asDeed (.tuple [.str z, b, c, d, e, g]) = none := by
  cases k : asDeed (.tuple [.str z, b, c, d, e, g]) with
  | none => rfl
  | some q =>
    obtain ⟨e1, y⟩ := asDeed_some k
    have : partsOk (strsD q.needs) (strsD q.bars) (strsD q.adds) (strsD q.strikes) (.int q.price) = true := by
      have e1 : asFacts (strsD q.needs) = some q.needs := asFacts_some.2 ⟨rfl, y.n1, y.i1⟩
      have e2 : asFacts (strsD q.bars) = some q.bars := asFacts_some.2 ⟨rfl, y.n2, y.i2⟩
      have e3 : asFacts (strsD q.adds) = some q.adds := asFacts_some.2 ⟨rfl, y.n3, y.i3⟩
      have e4 : asFacts (strsD q.strikes) = some q.strikes := asFacts_some.2 ⟨rfl, y.n4, y.i4⟩
      unfold partsOk
      simp [e1, e2, e3, e4, isNum, y.p1, y.p2]
    unfold Deed.toD at e1
    simp only [PyData.tuple.injEq, List.cons.injEq, and_true] at e1
    obtain ⟨_, rfl, rfl, rfl, rfl, rfl⟩ := e1
    rw [h] at this
    cases this
theorem parts_e {b c d e g : PyData} (h : partsOk b c d e g = true) : ∃ n1 n2 n3 n4 i, b = strsD n1 ∧ c = strsD n2 ∧ d = strsD n3 ∧ e = strsD n4 ∧ g = .int i ∧ (1 ≤ i ∧ i ≤ 9) ∧
    (n1.all nameOk = true ∧ n2.all nameOk = true ∧ n3.all nameOk = true ∧ n4.all nameOk = true) ∧ incr n1 = true ∧ incr n2 = true ∧ incr n3 = true ∧ incr n4 = true := by
  unfold partsOk at h
  simp only [List.map, List.all, id, Bool.and_eq_true, Bool.and_true] at h
  obtain ⟨⟨h1, h2, h3, h4⟩, h5⟩ := h
  obtain ⟨n1, e1⟩ := Option.isSome_iff_exists.mp h1
  obtain ⟨n2, e2⟩ := Option.isSome_iff_exists.mp h2
  obtain ⟨n3, e3⟩ := Option.isSome_iff_exists.mp h3
  obtain ⟨n4, e4⟩ := Option.isSome_iff_exists.mp h4
  obtain ⟨a1, b1, c1⟩ := asFacts_some.1 e1
  obtain ⟨a2, b2, c2⟩ := asFacts_some.1 e2
  obtain ⟨a3, b3, c3⟩ := asFacts_some.1 e3
  obtain ⟨a4, b4, c4⟩ := asFacts_some.1 e4
  cases g with
  | int i =>
    unfold isNum at h5
    simp only [Bool.and_eq_true, decide_eq_true_eq] at h5
    exact ⟨n1, n2, n3, n4, i, a1, a2, a3, a4, rfl, h5, ⟨b1, b2, b3, b4⟩, c1, c2, c3, c4⟩
  | _ => exact nomatch h5
theorem asDeed_parts {z : Str} {n1 n2 n3 n4 : List Str} {i : Int} (hz : nameOk z = true) (hi : 1 ≤ i ∧ i ≤ 9) (hn : n1.all nameOk = true ∧ n2.all nameOk = true ∧ n3.all nameOk = true ∧ n4.all nameOk = true) (j1 : incr n1 = true) (j2 : incr n2 = true) (j3 : incr n3 = true) (j4 : incr n4 = true) :
    (asDeed (.tuple [.str z, strsD n1, strsD n2, strsD n3, strsD n4, .int i])).isSome = (disj n1 n2 && disj n3 n4) := by
  cases e : (disj n1 n2 && disj n3 n4) with
  | true =>
    obtain ⟨d1, d2⟩ := Bool.and_eq_true_iff.mp e
    have := asDeed_good (q := ⟨z, n1, n2, n3, n4, i⟩) ⟨hz, hn.1, hn.2.1, hn.2.2.1, hn.2.2.2, j1, j2, j3, j4, d1, d2, hi.1, hi.2⟩
    rw [show PyData.tuple [.str z, strsD n1, strsD n2, strsD n3, strsD n4, .int i] = Deed.toD ⟨z, n1, n2, n3, n4, i⟩ from rfl, this]
    rfl
  | false =>
    cases k : asDeed (.tuple [.str z, strsD n1, strsD n2, strsD n3, strsD n4, .int i]) with
    | none => rfl
    | some q =>
      obtain ⟨e1, y⟩ := asDeed_some k
      have inj : ∀ {a b : List Str}, strsD a = strsD b → a = b := fun {a b} h => by
        have h1 : a.map PyData.str = b.map PyData.str := by injection h
        have h2 := asStrs_map a
        rw [h1, asStrs_map b] at h2
        exact (Option.some.inj h2).symm
      unfold Deed.toD at e1
      simp only [PyData.tuple.injEq, List.cons.injEq, and_true] at e1
      obtain ⟨_, f1, f2, f3, f4, _⟩ := e1
      rw [inj f1, inj f2, inj f3, inj f4, y.d1, y.d2] at e
      cases e
section
variable {P : Program} {w : World} {K : PySem.W.Frag} {mg : Str → Option Value} {base : Heap} {f : Addr} {fd : FuncData}
def RDeed (ds : List PyData) (d : PyData) : Prop := ∃ v, ds = [v] ∧ sm v = true ∧ d = .bool (asDeed v).isSome
abbrev n12 : List Str := ["value", "part", "one"]
theorem sc12 : FnScope n12 ["value"] (defScope (topS 12)) := ⟨rfl, rfl, rfl, by decide +kernel, rfl, by decide +kernel, by decide +kernel⟩
theorem ok_is_deed (B : Bt mg) (hm9 : ∃ t, mg "MOST_PRICE" = some (.int 9 t)) (pn : Pu P w K mg base "is_name" 1 1 RName) (pf : Pu P w K mg base "are_facts" 2 1 RFacts) (pu : Pu P w K mg base "is_number" 1 3 RNum) (F : Fun K "is_deed" "is_deed" (topS 12) f fd) :
    FnOk P w K mg base CX0 3 f fd ["value"] (PuSp 1 RDeed) := by
  refine pu_ok (R := RDeed) F sc12 fun cdv A outer s H0 E G H vs ds d hr sb ra hn hR => ?_
  obtain ⟨v, rfl, hs, rfl⟩ := hR
  obtain ⟨x0, _, rfl, r0, ra⟩ := ra.consE
  obtain rfl := ra.nilE
  obtain ⟨t9, hm9⟩ := hm9
  have hu := Room.units hr
  refine ws_if (Rl := Ex) sb (gt_is (k' := !sixD v) (Gw.pt (gw_or (k := !tTup v) (k' := not6 v || !sixD v) ?_ fun h1 => gw_or (k := not6 v) ?_ fun h2 => gw_or1 (gt_not ?_))) ?_) ?_ ?_
  · exact gt_not (gt_val (g_isTup B (g_var 0 rfl r0)))
  · obtain ⟨ds, rfl⟩ := tTup_e (by simpa using h1)
    exact gt_neI hu (g_lenT B.len (g_var 0 rfl r0)) g_int
  · obtain ⟨ds, rfl⟩ := tTup_e (by simpa using h1)
    have hl : ds.length = 6 := by have h2' : (!((ds.length : Int) == 6)) = false := h2; simp at h2'; omega
    match ds, hl with
    | [a, b, c, d, e, g], _ =>
      exact gt_val (g_call pn (hr.mono (by decide)) (ga_cons (g_ixT (g_var 0 rfl r0) g_int (atI_nat (j := 0) rfl)) ga_nil) rfl ⟨a, rfl, (sm_tuple.1 hs).2 a (by simp), rfl⟩)
  · cases v with
    | tuple ds =>
      show (false || (!((ds.length : Int) == 6) || !six ds)) = !six ds
      cases e : six ds with
      | false => simp
      | true =>
        unfold six at e
        split at e
        · rfl
        · cases e
    | _ => rfl
  · intro h G' H' g
    refine ws_ret g.sub g_bl fun v' G2 H2 g2 r2 => ⟨G2, g.trans g2, ?_⟩
    rw [sixD_no (by simpa using h)]
    exact r2
  intro h G' H' g
  obtain ⟨z, b, c, d, e, p, rfl, hz⟩ := sixD_e (by simpa using h)
  have r1 := r0.mono g.ex
  obtain ⟨_, hsm⟩ := sm_tuple.1 hs
  refine ws_if (Rl := Ex) g.sub (gt_is (k' := !partsOk b c d e p) (Gw.pt (gw_or (k := !(([b, c, d, e].map fun p => (asFacts p).isSome).all id)) (k' := !isNum p 1 9) ?_ fun h1 => gw_or1 (gt_not ?_))) ?_) ?_ ?_
  · refine gt_not (gt_val (g_all rfl B.all (gd_is (g_lcT (fun _ => true) (fun d => .bool (asFacts d).isSome) (ds := [b, c, d, e]) rfl sc12.nd (blkOk_by (own := [("part", 1)]) (N := n12) (sc := defScope (topS 12)) (by decide +kernel)) (fun _ _ _ _ _ => pg_name (i := 1) sc12.nd rfl (Or.inl rfl))
      (g_slT (l := some 1) (h := some 5) (g_var 0 rfl r1) g_int g_int) (by simp) fun d v G1 hd e1 rd => ⟨fun _ _ _ _ _ => gi_nil, fun _ _ _ _ _ _ => g_call pf (hr.mono (by decide)) (ga_cons (g_var 1 rfl rd) ga_nil) rfl ⟨d, rfl, hsm d (by simp at hd ⊢; rcases hd with h | h | h | h <;> simp [h]), rfl⟩⟩) ?_)))
    rfl
  · exact gt_val (g_call pu (hr.mono (by decide)) (ga_cons (g_ixT (g_var 0 rfl r1) g_int (atI_nat (j := 5) rfl)) (ga_cons g_int (ga_cons (g_glob (v := .int 9) hm9 ⟨_, rfl⟩ fun _ => .int 9) ga_nil))) rfl ⟨p, 1, 9, rfl, rfl⟩)
  · unfold partsOk
    cases (([b, c, d, e].map fun p => (asFacts p).isSome).all id) <;> rfl
  · intro h G2 H2 g2
    refine ws_ret g2.sub g_bl fun v' G3 H3 g3 r3 => ⟨G3, (g.trans g2).trans g3, ?_⟩
    rw [parts_no (by simpa using h)]
    exact r3
  intro h2 G2 H2 g2
  obtain ⟨n1, n2, n3, n4, i, rfl, rfl, rfl, rfl, rfl, hi, hn, j1, j2, j3, j4⟩ := parts_e (by simpa using h2)
  rw [asDeed_parts hz hi hn j1 j2 j3 j4]
  have r2 := r1.mono g2.ex
  have l1 := sm_strsD.1 (hsm (strsD n1) (by simp))
  have l3 := sm_strsD.1 (hsm (strsD n3) (by simp))
  refine ws_if (Rl := Ex) g2.sub (gt_is (k' := !disj n1 n2) (gt_neNil hu (l := n1.filter fun z => decide (z ∈ n2)) (fun z hz => (l1.2 z (List.mem_filter.mp hz).1).2) ?_) (by rw [filter_empty])) ?_ ?_
  · exact g_filT (l := n1) (fun z => decide (z ∈ n2)) rfl sc12.nd (blkOk_by (own := [("one", 2)]) (N := n12) (sc := defScope (topS 12)) (by decide +kernel)) (fun _ _ _ _ _ => pg_name (i := 2) sc12.nd rfl (Or.inl rfl)) (g_ixT (g_var 0 rfl r2) g_int (atI_nat (j := 1) rfl)) (by have := l1.1; omega)
      (fun y G1 hy e1 _ _ _ _ _ => gt_inT (g_var 2 rfl (.str y)) (g_ixT (g_var 0 rfl (r2.mono e1)) g_int (atI_nat (j := 2) rfl))) fun y G1 _ _ _ _ _ => g_var 2 rfl (.str y)
  · intro h3 G3 H3 g3
    refine ws_ret g3.sub g_bl fun v' G4 H4 g4 r4 => ⟨G4, ((g.trans g2).trans g3).trans g4, ?_⟩
    rw [show disj n1 n2 = false by simpa using h3]
    exact r4
  intro h3 G3 H3 g3
  have r3 := r2.mono g3.ex
  rw [show disj n1 n2 = true by simpa using h3, Bool.true_and, ← filter_empty]
  refine ws_ret (Rl := Ex) g3.sub (g_eqNil hu (l := n3.filter fun z => decide (z ∈ n4)) (fun z hz => (l3.2 z (List.mem_filter.mp hz).1).2) ?_) fun v' G4 H4 g4 r4 => ⟨G4, ((g.trans g2).trans g3).trans g4, r4⟩
  exact g_filT (l := n3) (fun z => decide (z ∈ n4)) rfl sc12.nd (blkOk_by (own := [("one", 2)]) (N := n12) (sc := defScope (topS 12)) (by decide +kernel)) (fun _ _ _ _ _ => pg_name (i := 2) sc12.nd rfl (Or.inl rfl)) (g_ixT (g_var 0 rfl r3) g_int (atI_nat (j := 3) rfl)) (by have := l3.1; omega)
      (fun y G1 hy e1 _ _ _ _ _ => gt_inT (g_var 2 rfl (.str y)) (g_ixT (g_var 0 rfl (r3.mono e1)) g_int (atI_nat (j := 4) rfl))) fun y G1 _ _ _ _ _ => g_var 2 rfl (.str y)
end
end WR
end
section
set_option Elab.async false
set_option linter.all false
set_option maxRecDepth 100000
namespace WR
open PySem PySem.Spec PyProof.Rows L2
/-! ### for over a tuple, a list of data; over range(n) -/
section
variable {Rl : Hp → Hp → Prop} [RlOk Rl] {X : Cx} {σ : L2.St} {G H : Hp} {iter : Expr} {x : Str} {j : Nat} {tpos pos ip rp : Pos} {body rest : List Stmt} {D : Ends} {ds : List PyData}
/-- Pv: the turn, the base, the slots, the heap -/
structure LoopOk (X : Cx) (j : Nat) (body rest : List Stmt) (D : Ends) (ds : List PyData) (G1 : Hp) (σ : L2.St) (H1 : Hp) (Pv : Nat → Hp → L2.St → Hp → Prop) : Prop where
  start : Pv 0 G1 σ H1
  base : ∀ i G' σ' H', Pv i G' σ' H' → Ex G1 G' ∧ Sub G' H'
  turn : ∀ i d v G' σ' H', ds[i]? = some d → Pv i G' σ' H' → Rp G' v d → Ws X body { D with nx := fun σ2 H2 => ∃ G2, Pv (i + 1) G2 σ2 H2, ct := fun σ2 H2 => ∃ G2, Pv (i + 1) G2 σ2 H2, bk := fun σ2 H2 => Ws X rest D σ2 H2 } (σ'.set j (some v)) H'
  done : ∀ G' σ' H', Pv ds.length G' σ' H' → Ws X rest D σ' H'
theorem ws_forT (hp : PassesOwn (model X.prog X.w) X.A X.env X.xe) (hc : X.calm = true) (hg : PG X (.Name x tpos) (gName j)) (sb : Sub G H) (hi : Gd Rl X σ G iter (.tuple ds))
    (h : ∀ G1 H1, Gr Rl G H G1 H1 → ∃ Pv, LoopOk X j body rest D ds G1 σ H1 Pv) (hs : ∀ x, foldedSetIterable iter X.env x = pure x := by intro _; rfl) : Ws X (.For (.Name x tpos) iter body [] pos :: rest) D σ H := by
  refine ws_cons (ps_for hp hc (pi_tup pe_w) hg pss_w hs) (hi G (Evl.Ex.refl G) H sb _ fun v G1 H1 g r => ?_)
  obtain ⟨a, xs, rfl, ha, rs⟩ := r.tupE
  obtain ⟨Pv, L⟩ := h G1 H1 g
  refine ⟨a, rfl, ⟨xs, SqT.of (g.sub.1 _ _ ha)⟩, for_tup (xs := xs) (fun i σ' H' => ∃ G', Pv i G' σ' H') ⟨G1, L.start⟩ (fun i σ' H' _ ⟨G', p⟩ => ?_) (fun i u σ' H' hu ⟨G', p⟩ => ?_) fun σ' H' ⟨G', p⟩ => ?_⟩
  · obtain ⟨e, s⟩ := L.base i G' σ' H' p
    exact SqT.of (s.1 _ _ (e _ _ ha))
  · obtain ⟨d, hd, rd⟩ := rs.get hu
    exact L.turn i d u G' σ' H' hd p (rd.mono (L.base i G' σ' H' p).1)
  · rw [rs.len] at p
    exact L.done G' σ' H' p
theorem ws_forL (hp : PassesOwn (model X.prog X.w) X.A X.env X.xe) (hc : X.calm = true) (hg : PG X (.Name x tpos) (gName j)) (sb : Sub G H) (hi : Gd Rl X σ G iter (.list ds))
    (h : ∀ G1 H1, Gr Rl G H G1 H1 → ∃ Pv, LoopOk X j body rest D ds G1 σ H1 Pv) (hs : ∀ x, foldedSetIterable iter X.env x = pure x := by intro _; rfl) : Ws X (.For (.Name x tpos) iter body [] pos :: rest) D σ H := by
  refine ws_cons (ps_for hp hc (pi_list pe_w) hg pss_w hs) (hi G (Evl.Ex.refl G) H sb _ fun v G1 H1 g r => ?_)
  obtain ⟨a, xs, rfl, ha, rs⟩ := r.lstE
  obtain ⟨Pv, L⟩ := h G1 H1 g
  refine ⟨a, rfl, ⟨xs, SqL.of (g.sub.1 _ _ ha)⟩, for_list (xs := xs) (fun i σ' H' => ∃ G', Pv i G' σ' H') ⟨G1, L.start⟩ (fun i σ' H' _ ⟨G', p⟩ => ?_) (fun i u σ' H' hu ⟨G', p⟩ => ?_) fun σ' H' ⟨G', p⟩ => ?_⟩
  · obtain ⟨e, s⟩ := L.base i G' σ' H' p
    exact SqL.of (s.1 _ _ (e _ _ ha))
  · obtain ⟨d, hd, rd⟩ := rs.get hu
    exact L.turn i d u G' σ' H' hd p (rd.mono (L.base i G' σ' H' p).1)
  · rw [rs.len] at p
    exact L.done G' σ' H' p
theorem ws_forR {ne : Expr} {n : Nat} (hp : PassesOwn (model X.prog X.w) X.A X.env X.xe) (hc : X.calm = true) (hg : PG X (.Name x tpos) (gName j)) (hm : X.mg "range" = none) (sb : Sub G H) (hi : Gd Rl X σ G ne (.int (n : Int))) (hz : n < 40000)
    (h : ∀ G1 H1, Gr Rl G H G1 H1 → ∃ Pv, LoopOk X j body rest D ((List.range n).map fun k : Nat => PyData.int (k : Int)) G1 σ H1 Pv) (hgr : Gl X "range" := by rfl) (hst : starEach [ne] X.env = (false, eval ne X.env) :: starEach [] X.env := by rfl)
    (hs : ∀ x, foldedSetIterable (.Call (.Name "range" rp) [ne] [] ip) X.env x = pure x := by intro _; rfl) : Ws X (.For (.Name x tpos) (.Call (.Name "range" rp) [ne] [] ip) body [] pos :: rest) D σ H := by
  refine ws_cons (ps_for hp hc (pi_range1 hgr hm pa_w hst) hg pss_w hs) (ga_cons hi ga_nil hst G (Evl.Ex.refl G) H sb _ fun vs G1 H1 g r1 => ?_)
  obtain ⟨v, ws, rfl, rv, r2⟩ := r1.consE
  obtain rfl := r2.nilE
  obtain rfl := rv.intE
  obtain ⟨Pv, L⟩ := h G1 H1 g
  refine ⟨(n : Int), rfl, by omega, by omega, ?_⟩
  rw [Int.toNat_natCast]
  refine for_range (lo := 0) (n := n) (fun i σ' H' => ∃ G', Pv i G' σ' H') ⟨G1, L.start⟩ (fun i σ' H' hi ⟨G', p⟩ => ?_) fun σ' H' ⟨G', p⟩ => L.done G' σ' H' (by rw [List.length_map, List.length_range]; exact p)
  have e0 : (0 : Int) + (i : Int) = (i : Int) := Int.zero_add _
  rw [e0]
  exact L.turn i _ _ G' σ' H' (by rw [List.getElem?_map, List.getElem?_range hi]; rfl) p (.int _)
end
/-! ### a list that is changed: l, out of the base -/
structure Mu (Rl : Hp → Hp → Prop) (G H : Hp) (l : Addr) (acc : List V) (G' H' : Hp) : Prop where
  gr : Gr Rl G H G' H'
  out : G' l = none
  new : H l = none
  at_ : H' l = some (.lst acc)
section
variable {Rl : Hp → Hp → Prop} [RlOk Rl] {G H G' H' G2 H2 : Hp} {l : Addr} {acc acc2 : List V} {ds : List PyData}
theorem nlst {acc : List V} : ∀ ps, HO.lst acc ≠ .tbl ps := fun _ z => by cases z
theorem Mu.start (g : Gr Rl G H G' H') (h : H' l = none) (hH : H l = none) : Mu Rl G H l acc G' (upd H' l (.lst acc)) :=
  ⟨⟨g.ex, ⟨fun b o e => by rw [upd_ne (ne_of_none e (g.sub.fr h))]; exact g.sub.1 b o e, g.sub.2⟩, RlOk.trans g.rl (RlOk.ex (Evl.Ex.new h)), g.new⟩, g.sub.fr h, hH, upd_same⟩
theorem Mu.step (m : Mu Rl G H l acc G' H') (g : Gr Rl G' H' G2 H2) : Mu Rl G H l acc G2 H2 := ⟨m.gr.trans g, g.out m.out m.at_ nlst, m.new, RlOk.keep g.rl m.at_ nlst⟩
theorem Mu.put (m : Mu Rl G H l acc G' H') : Mu Rl G H l acc2 G' (upd H' l (.lst acc2)) :=
  ⟨⟨m.gr.ex, ⟨fun b o e => by rw [upd_ne (ne_of_none e m.out)]; exact m.gr.sub.1 b o e, m.gr.sub.2⟩, RlOk.muL m.gr.rl m.new m.at_, m.gr.new⟩, m.out, m.new, upd_same⟩
theorem Mu.fin (m : Mu Rl G H l acc G' H') (r : RpAll G' acc ds) : Gr Rl G H (upd G' l (.lst acc)) H' ∧ Rp (upd G' l (.lst acc)) (.ref l) (.list ds) := by
  refine ⟨⟨m.gr.ex.trans (Evl.Ex.new m.out), ⟨fun b o h => ?_, fun b ps h => ?_⟩, m.gr.rl, fun b h => ?_⟩, .lst upd_same (r.mono (Evl.Ex.new m.out))⟩
  · by_cases q : b = l
    · subst q; rw [upd_same] at h; rw [m.at_]; exact h
    · rw [upd_ne q] at h; exact m.gr.sub.1 b o h
  · by_cases q : b = l
    · subst q; rw [upd_same] at h; cases h
    · rw [upd_ne q] at h; exact m.gr.sub.2 b ps h
  · by_cases q : b = l
    · subst q; exact .inr (.of_none m.new)
    · rw [upd_ne q] at h; exact m.gr.new b h
end
theorem Gr.freshH {Rl : Hp → Hp → Prop} [RlOk Rl] {G H G' H' : Hp} {p : Addr} (g : Gr Ex G H G' H') (h : H' p = none) : H p = none := Evl.fresh_back g.rl h
section
variable {Rl : Hp → Hp → Prop} [RlOk Rl] {X : Cx} {σ : L2.St} {G H G' H' : Hp} {a b e : Expr} {x : Str} {i : Nat} {pos pos' ap p1 p2 : Pos} {rest : List Stmt} {D : Ends} {l : Addr} {acc : List V} {ds es : List PyData} {d : PyData}
/-- x = a + b, lists: a new list to be changed -/
theorem ws_newCat (hN : X.N.Nodup) (hi : X.N[i]? = some x) (hx : Loc X.env.scope x) (sb : Sub G H) (ha : Gd Ex X σ G a (.list ds)) (hb : Gd Ex X σ G b (.list es)) (hz : ds.length + es.length ≤ 100000)
    (k : ∀ l acc G' H', Mu Ex G H l acc G' H' → RpAll G' acc (ds ++ es) → Ws X rest D (σ.set i (some (.ref l))) H') (hs : swapsWith (.BinOp a .Add b p1) (some (.Name x pos')) pos.line X.env = pure false := by rfl)
    (hf : X.fn x = true ∨ X.env.scope.names.lookup x = some .local := by first | exact .inl rfl | exact .inr rfl | assumption) : Ws X (.Assign [.Name x pos'] (.BinOp a .Add b p1) pos :: rest) D σ H := by
  refine ws_cons (ps_set hN hi hx (pe_op op_cat pe_w pe_w) hs hf) (ha G (Evl.Ex.refl G) H sb _ fun v G1 H1 g1 r1 => hb G1 g1.ex H1 g1.sub _ fun u G2 H2 g2 r2 => ?_)
  obtain ⟨p, xs, rfl, hp, rs⟩ := (r1.mono g2.ex).lstE
  obtain ⟨q, ys, rfl, hq, rt⟩ := r2.lstE
  exact ⟨p, q, xs, ys, rfl, rfl, g2.sub.1 _ _ hp, g2.sub.1 _ _ hq, Evl.sz_of (by rw [rs.len, rt.len]; exact hz), fun l hl => k l _ G2 _ (Mu.start (g1.trans g2) hl (Evl.fresh_back (g1.trans g2).rl hl)) (rs.app rt)⟩
/-- x = [a, ..]: a new list to be changed -/
theorem ws_newLst {vs : List Expr} (hN : X.N.Nodup) (hi : X.N[i]? = some x) (hx : Loc X.env.scope x) (sb : Sub G H) (ha : Ga Ex X σ G vs ds) (hz : ds.length ≤ 100000)
    (k : ∀ l acc G' H', Mu Ex G H l acc G' H' → RpAll G' acc ds → Ws X rest D (σ.set i (some (.ref l))) H') (hs : swapsWith (.List vs p1) (some (.Name x pos')) pos.line X.env = pure false := by rfl)
    (hf : X.fn x = true ∨ X.env.scope.names.lookup x = some .local := by first | exact .inl rfl | exact .inr rfl | assumption) : Ws X (.Assign [.Name x pos'] (.List vs p1) pos :: rest) D σ H :=
  ws_cons (ps_set hN hi hx (pe_lst pa_w) hs hf) (ha G (Evl.Ex.refl G) H sb _ fun us G1 H1 g1 rs => ⟨Evl.sz_of (by rw [rs.len]; exact hz), fun l hl => k l us G1 _ (Mu.start g1 hl (Evl.fresh_back g1.rl hl)) rs⟩)
/-- x.append(e), x the list at l -/
theorem ws_app (m : Mu Rl G H l acc G' H') (hx : σ[i]? = some (some (.ref l))) (he : Gd Rl X σ G' e d) (hz : acc.length < 100000) (k : ∀ v G2 H2, Ex G' G2 → Mu Rl G H l (acc ++ [v]) G2 H2 → Rp G2 v d → Ws X rest D σ H2)
    (hN : X.N[i]? = some x := by rfl) (hv : Vis X.env.scope x := by first | exact Or.inl rfl | exact Or.inr (Or.inl rfl) | exact Or.inr (Or.inr rfl)) (hd : (x == ("__debug__" : Str)) = false := by decide) (hcd : (x == ("__classdict__" : Str)) = false := by decide)
    (hs : swapsWith (.Call (.Attribute (.Name x p1) "append" ap) [e] [] p2) none pos.line X.env = pure false := by rfl)
    (hb : attributeBase (.Name x p1) "append" X.env (eval (.Name x p1) X.env) = eval (.Name x p1) X.env := by rfl)
    (hfew : ((backTo p2 (starEach [e] X.env)).all (fun x => !x.1) && (backToKw p2 (keywordEach [] X.env)).all (fun x => x.1.isSome) && decide ([e].length + ([] : List Keyword).length + (if ([] : List Keyword).isEmpty then 0 else 1) < 30)) = true := by rfl)
    (hline : (ap.endLine == p2.line) = true := by rfl) (hst : starEach [e] X.env = (false, eval e X.env) :: starEach [] X.env := by rfl) (hpl : (backTo p2 (starEach [] X.env)).any (·.1) = false := by rfl) :
    Ws X (.Expr (.Call (.Attribute (.Name x p1) "append" ap) [e] [] p2) pos :: rest) D σ H' := by
  refine ws_cons (ps_expr (pe_bm PySem.F.plainAttrs_list PySem.F.slot_list_append PySem.F.type_list_append mt_append (pe_var hN hv hd hcd) (pa_cons pe_w pa_nil hst) hb hfew hline hst hpl) hs) ?_
  refine ⟨.ref l, hx, .inl ⟨rfl, acc, SqL.of m.at_⟩, he G' (Evl.Ex.refl G') H' m.gr.sub _ fun v G2 H2 g2 r2 => ?_⟩
  have m2 := m.step g2
  exact ⟨l, acc, v, rfl, rfl, m2.at_, Nat.lt_of_lt_of_le hz (by decide), k v G2 _ g2.ex m2.put r2⟩
/-- x.extend(e), x the list at l -/
theorem ws_ext (m : Mu Rl G H l acc G' H') (hx : σ[i]? = some (some (.ref l))) (he : Gd Rl X σ G' e (.list ds)) (hz : acc.length + ds.length < 100000) (k : ∀ vs G2 H2, Ex G' G2 → Mu Rl G H l (acc ++ vs) G2 H2 → RpAll G2 vs ds → Ws X rest D σ H2)
    (hN : X.N[i]? = some x := by rfl) (hv : Vis X.env.scope x := by first | exact Or.inl rfl | exact Or.inr (Or.inl rfl) | exact Or.inr (Or.inr rfl)) (hd : (x == ("__debug__" : Str)) = false := by decide) (hcd : (x == ("__classdict__" : Str)) = false := by decide)
    (hs : swapsWith (.Call (.Attribute (.Name x p1) "extend" ap) [e] [] p2) none pos.line X.env = pure false := by rfl)
    (hb : attributeBase (.Name x p1) "extend" X.env (eval (.Name x p1) X.env) = eval (.Name x p1) X.env := by rfl)
    (hfew : ((backTo p2 (starEach [e] X.env)).all (fun x => !x.1) && (backToKw p2 (keywordEach [] X.env)).all (fun x => x.1.isSome) && decide ([e].length + ([] : List Keyword).length + (if ([] : List Keyword).isEmpty then 0 else 1) < 30)) = true := by rfl)
    (hline : (ap.endLine == p2.line) = true := by rfl) (hst : starEach [e] X.env = (false, eval e X.env) :: starEach [] X.env := by rfl) (hpl : (backTo p2 (starEach [] X.env)).any (·.1) = false := by rfl) :
    Ws X (.Expr (.Call (.Attribute (.Name x p1) "extend" ap) [e] [] p2) pos :: rest) D σ H' := by
  refine ws_cons (ps_expr (pe_bm PySem.F.plainAttrs_list PySem.F.slot_list_extend PySem.F.type_list_extend mt_extend (pe_var hN hv hd hcd) (pa_cons pe_w pa_nil hst) hb hfew hline hst hpl) hs) ?_
  refine ⟨.ref l, hx, .inl ⟨rfl, acc, SqL.of m.at_⟩, he G' (Evl.Ex.refl G') H' m.gr.sub _ fun v G2 H2 g2 r2 => ?_⟩
  obtain ⟨b, ys, rfl, hb2, rs⟩ := r2.lstE
  have m2 := m.step g2
  exact ⟨l, b, acc, ys, rfl, rfl, m2.at_, g2.sub.1 _ _ hb2, Evl.sz_of (by rw [rs.len]; omega), k ys G2 _ g2.ex m2.put rs⟩
end
end WR
end
section
set_option Elab.async false
set_option linter.all false
set_option maxRecDepth 100000
namespace WR
open PySem PySem.Spec PyProof.Rows L2
def Deed.parts (q : Deed) : List (List Str) := [q.needs, q.bars, q.adds, q.strikes]
theorem Deed.parts_flat (q : Deed) : q.parts.flatten = q.needs ++ q.bars ++ q.adds ++ q.strikes := by simp [Deed.parts]
theorem take_flat {α : Type} {l : List (List α)} {i : Nat} {s : List α} (h : l[i]? = some s) : (l.take (i + 1)).flatten = (l.take i).flatten ++ s := by
  rw [List.take_add_one, h]; simp
theorem take_flatMap {α β : Type} {l : List α} {i : Nat} {s : α} (f : α → List β) (h : l[i]? = some s) : (l.take (i + 1)).flatMap f = (l.take i).flatMap f ++ f s := by
  rw [List.take_add_one, h]; simp
theorem flat_len (l : List (List Str)) (h : ∀ s ∈ l, s.length ≤ 50) : l.flatten.length ≤ 50 * l.length := by
  induction l with
  | nil => simp
  | cons a r ih =>
    have h1 := h a List.mem_cons_self
    have h2 := ih fun s hs => h s (List.mem_cons_of_mem _ hs)
    simp only [List.flatten_cons, List.length_append, List.length_cons]
    omega
theorem Deed.Sm.few {q : Deed} (h : q.Sm) : ∀ s ∈ q.parts, s.length ≤ 50 := by
  intro s hs
  simp only [Deed.parts, List.mem_cons, List.not_mem_nil, or_false] at hs
  rcases hs with rfl | rfl | rfl | rfl
  · exact h.n1.1
  · exact h.n2.1
  · exact h.n3.1
  · exact h.n4.1
theorem met_len {l : List Deed} (h : ∀ q ∈ l, q.Sm) : (l.flatMap fun q => q.parts.flatten).length ≤ 200 * l.length := by
  induction l with
  | nil => simp
  | cons a r ih =>
    have h1 := flat_len a.parts (h a List.mem_cons_self).few
    have h2 := ih fun q hq => h q (List.mem_cons_of_mem _ hq)
    have h3 : a.parts.length = 4 := rfl
    simp only [List.flatMap_cons, List.length_append, List.length_cons]
    omega
theorem Task.met_eq (t : Task) : t.met = t.bg ++ t.wish ++ t.deeds.flatMap fun q => q.parts.flatten := by
  unfold Task.met
  congr 1
  congr 1
  funext q
  exact (Deed.parts_flat q).symm
section
variable {P : Program} {w : World} {K : PySem.W.Frag} {mg : Str → Option Value} {base : Heap} {f : Addr} {fd : FuncData}
def RFin (ds : List PyData) (d : PyData) : Prop := ∃ t : Task, ds = [t.toD] ∧ t.Sm ∧ t.deeds.length ≤ 15 ∧ d = .list (t.facts.map .str)
abbrev n13 : List Str := ["task", "found", "deed", "part"]
theorem sc13 : FnScope n13 ["task"] (defScope (topS 13)) := ⟨rfl, rfl, rfl, by decide +kernel, rfl, by decide +kernel, by decide +kernel⟩
theorem ok_facts_in (B : Bt mg) (F : Fun K "facts_in" "facts_in" (topS 13) f fd) : FnOk P w K mg base CX0 1 f fd ["task"] (PuSp 1 RFin) := by
  refine pu_ok (R := RFin) F sc13 fun cdv A outer s H0 E G H vs ds d hr sb ra hn hR => ?_
  obtain ⟨t, rfl, ht, h14, rfl⟩ := hR
  obtain ⟨x0, _, rfl, r0, ra⟩ := ra.consE
  obtain rfl := ra.nilE
  refine ws_newCat (i := 1) sc13.nd rfl (Or.inl rfl) sb (ds := t.bg.map .str) (es := t.wish.map .str) ?_ ?_ (by have := ht.b.1; have := ht.w.1; simp; omega) fun l acc G1 H1 m ra1 => ?_
  · exact g_list B.list (g_ixT (g_var 0 rfl r0) g_int (atI_nat (j := 1) rfl))
  · exact g_list B.list (g_ixT (g_var 0 rfl r0) g_int (atI_nat (j := 2) rfl))
  rw [← List.map_append] at ra1
  obtain rfl := ra1.strs
  have r1 := r0.mono m.gr.ex
  have pre : ∀ i, (t.bg ++ t.wish ++ (t.deeds.take i).flatMap fun q => q.parts.flatten).length ≤ 4000 := fun i => by
    have h1 := met_len (l := t.deeds.take i) fun q hq => ht.gd q (List.mem_of_mem_take hq)
    have h2 : (t.deeds.take i).length ≤ 15 := by rw [List.length_take]; omega
    have := ht.b.1
    have := ht.w.1
    simp only [List.length_append]
    omega
  refine ws_forT (Rl := Ex) (ds := t.deeds.map Deed.toD) .never rfl (pg_name (i := 2) sc13.nd rfl (Or.inl rfl)) m.gr.sub (g_ixT (g_var 0 rfl r1) g_int (atI_nat (j := 0) rfl)) fun G2 H2 g2 => ⟨fun i G' σ' H' => Ex G2 G' ∧ Mu Ex G H l ((t.bg ++ t.wish ++ (t.deeds.take i).flatMap fun q => q.parts.flatten).map V.str) G' H' ∧ ∃ a b, σ' = [some x0, some (.ref l), a, b], ?_, ?_, ?_, ?_⟩
  · refine ⟨Evl.Ex.refl _, ?_, _, _, rfl⟩
    rw [List.take_zero, List.flatMap_nil, List.append_nil]
    exact m.step g2
  · rintro i G' σ' H' ⟨e, m', _⟩
    exact ⟨e, m'.gr.sub⟩
  · rintro i d v G3 σ3 H3 hd ⟨e3, m3, a, b, rfl⟩ rd
    rw [List.getElem?_map] at hd
    obtain ⟨q, hq, rfl⟩ := Option.map_eq_some_iff.mp hd
    have hqs := ht.gd q (List.mem_of_getElem? hq)
    refine ws_forT (Rl := Ex) (ds := q.parts.map strsD) .never rfl (pg_name (i := 3) sc13.nd rfl (Or.inl rfl)) m3.gr.sub (g_slT (l := some 1) (h := some 5) (g_var 2 rfl rd) g_int g_int) fun G4 H4 g4 => ⟨fun k G' σ' H' => Ex G4 G' ∧ Mu Ex G H l ((t.bg ++ t.wish ++ ((t.deeds.take i).flatMap fun q => q.parts.flatten) ++ (q.parts.take k).flatten).map V.str) G' H' ∧ ∃ b, σ' = [some x0, some (.ref l), some v, b], ?_, ?_, ?_, ?_⟩
    · refine ⟨Evl.Ex.refl _, ?_, _, rfl⟩
      rw [List.take_zero, List.flatten_nil, List.append_nil]
      exact m3.step g4
    · rintro k G' σ' H' ⟨e, m', _⟩
      exact ⟨e, m'.gr.sub⟩
    · rintro k d v2 G5 σ5 H5 hd2 ⟨e5, m5, b, rfl⟩ rd2
      rw [List.getElem?_map] at hd2
      obtain ⟨sp, hsp, rfl⟩ := Option.map_eq_some_iff.mp hd2
      have l5 := hqs.few sp (List.mem_of_getElem? hsp)
      refine ws_ext (ds := sp.map .str) m5 (i := 1) rfl (g_list B.list (g_var 3 rfl rd2)) ?_ fun us G6 H6 e6 m6 r6 => ws_nil ?_
      · have h1 := pre i
        have h2 : (q.parts.take k).flatten.length ≤ 200 := by
          have h3 := flat_len (q.parts.take k) fun s hs => hqs.few s (List.mem_of_mem_take hs)
          have h4 : (q.parts.take k).length ≤ 4 := by rw [List.length_take]; exact Nat.min_le_right _ _
          omega
        simp only [List.length_map, List.length_append] at h1 ⊢
        omega
      · obtain rfl := r6.strs
        refine ⟨G6, e5.trans e6, ?_, _, rfl⟩
        rw [take_flat hsp, ← List.append_assoc, List.map_append]
        exact m6
    · rintro G' σ' H' ⟨e, m', b, rfl⟩
      refine ws_nil ⟨G', e3.trans (g4.ex.trans e), ?_, _, _, rfl⟩
      rw [take_flatMap _ hq, ← List.append_assoc]
      rw [List.length_map, List.take_length] at m'
      exact m'
  · rintro G3 σ3 H3 ⟨e3, m3, a, b, rfl⟩
    rw [List.length_map, List.take_length, ← Task.met_eq] at m3
    have hlen : t.met.length ≤ 4000 := by have := pre t.deeds.length; rw [List.take_length, ← Task.met_eq] at this; exact this
    obtain ⟨g4, r4⟩ := m3.fin (RpAll.ofStrs _)
    exact ws_ret g4.sub (g_sset rfl B.sorted B.set (zs := t.met) (by unfold scanBound; omega) (.inl (g_var 1 rfl r4))) fun v' G5 H5 g5 r5 => ⟨G5, g4.trans g5, r5⟩
end
end WR
end
section
set_option Elab.async false
set_option linter.all false
set_option maxRecDepth 100000
namespace WR
open PySem PySem.Spec PyProof.Rows L2
def wordD : Option Str → PyData
  | none => .none
  | some z => .str z
def not3 : PyData → Bool
  | .tuple ds => !((ds.length : Int) == 3)
  | _ => true
theorem not3_e {v : PyData} (h : not3 v = false) : ∃ a b c, v = .tuple [a, b, c] := by
  cases v with
  | tuple ds =>
    have h' : (!((ds.length : Int) == 3)) = false := h
    have hl : ds.length = 3 := by simp at h'; omega
    match ds, hl with
    | [a, b, c], _ => exact ⟨a, b, c, rfl⟩
  | _ => exact nomatch h
theorem wrong_form {v : PyData} (h : not3 v = true) : wrongD v = some "form" := by
  unfold wrongD
  split
  · rename_i a b c
    have h' : not3 (.tuple [a, b, c]) = false := rfl
    rw [h'] at h
    cases h
  · rfl
def long14 : PyData → Bool
  | .tuple ds => decide ((14 : Int) < ds.length)
  | _ => true
def badDeeds : PyData → Bool
  | .tuple ds => !((ds.map fun d => (asDeed d).isSome).all id)
  | _ => true
def wrongTail (qs : List Deed) (b c : PyData) : Option Str := if incr (qs.map (·.name)) = true then (match asFacts b with
        | none => some "begin"
        | some bb => match asFacts c with
          | none => some "wish"
          | some ww => if 10 < (Task.facts ⟨qs, bb, ww⟩).length then some "facts" else none) else some "names"
def wrongMid (dl : List PyData) (b c : PyData) : Option Str := if 14 < dl.length then some "deeds" else match asDeeds dl with
      | none => some "deeds"
      | some qs => wrongTail qs b c
theorem wrong_tup (dl : List PyData) (b c : PyData) : wrongD (.tuple [.tuple dl, b, c]) = wrongMid dl b c := rfl
theorem wrong_deeds {a b c : PyData} (h : (!tTup a || (long14 a || badDeeds a)) = true) : wrongD (.tuple [a, b, c]) = some "deeds" := by
  cases a with
  | tuple ds =>
    rw [wrong_tup]
    unfold wrongMid
    split
    · rfl
    · rename_i hl
      have h2 : badDeeds (.tuple ds) = true := by
        have : long14 (.tuple ds) = false := decide_eq_false (by omega)
        rw [this] at h
        simpa [tTup] using h
      cases e : asDeeds ds with
      | none => rfl
      | some qs =>
        have h3 := asDeeds_isSome ds
        rw [e] at h3
        have h2' : (!((ds.map fun d => (asDeed d).isSome).all id)) = true := h2
        rw [List.all_map] at h2'
        have h4 : (ds.all fun d => (asDeed d).isSome) = true := h3.symm
        have h5 : (ds.all (id ∘ fun d => (asDeed d).isSome)) = true := h4
        rw [h5] at h2'
        cases h2'
  | _ => rfl
theorem deeds_e {a : PyData} (h : (!tTup a || (long14 a || badDeeds a)) = false) : ∃ qs : List Deed, a = .tuple (qs.map Deed.toD) ∧ qs.length ≤ 14 ∧ ∀ q ∈ qs, q.Good := by
  cases a with
  | tuple ds =>
    simp only [Bool.or_eq_false_iff] at h
    obtain ⟨_, h1, h2⟩ := h
    have h2' : (!((ds.map fun d => (asDeed d).isSome).all id)) = false := h2
    rw [List.all_map] at h2'
    have h3 : (ds.all fun d => (asDeed d).isSome) = true := by simpa using h2'
    rw [← asDeeds_isSome] at h3
    obtain ⟨qs, e⟩ := Option.isSome_iff_exists.mp h3
    obtain ⟨e1, e2⟩ := asDeeds_some e
    have h4 : ¬ (14 : Int) < ds.length := of_decide_eq_false h1
    have h5 : ds.length = qs.length := by rw [e1, List.length_map]
    exact ⟨qs, by rw [e1], by omega, e2⟩
  | _ => exact nomatch h
/-- places at which names don't ascend -/
def downs (qs : List Deed) : List Int := ((List.range (qs.length - 1)).filter fun k => !slt ((qs.map (·.name)).getD k Str.empty) ((qs.map (·.name)).getD (k + 1) Str.empty)).map fun k : Nat => (k : Int)
theorem downs_empty (qs : List Deed) : (downs qs).isEmpty = incr (qs.map (·.name)) := by
  rw [← incr_range, List.length_map]
  unfold downs
  generalize List.range (qs.length - 1) = l
  induction l with
  | nil => rfl
  | cons a r ih =>
    rw [List.filter_cons, List.map_cons, List.all_cons, ← ih]
    cases slt ((qs.map (·.name)).getD a Str.empty) ((qs.map (·.name)).getD (a + 1) Str.empty) <;> rfl
theorem wrong_rest {qs : List Deed} {b c : PyData} (hl : qs.length ≤ 14) (hg : ∀ q ∈ qs, q.Good) : wrongD (.tuple [.tuple (qs.map Deed.toD), b, c]) = wrongTail qs b c := by
  rw [wrong_tup]
  unfold wrongMid
  rw [if_neg (by rw [List.length_map]; omega), asDeeds_good hg]
section
variable {P : Program} {w : World} {K : PySem.W.Frag} {mg : Str → Option Value} {base : Heap} {f : Addr} {fd : FuncData}
def RWrong (ds : List PyData) (d : PyData) : Prop := ∃ v, ds = [v] ∧ sm v = true ∧ d = wordD (wrongD v)
abbrev n14 : List Str := ["value", "one", "k"]
theorem sc14 : FnScope n14 ["value"] (defScope (topS 14)) := ⟨rfl, rfl, rfl, by decide +kernel, rfl, by decide +kernel, by decide +kernel⟩
theorem gt_gtI {Rl : Hp → Hp → Prop} [RlOk Rl] {X : Cx} {σ : L2.St} {G : Hp} {a b : Expr} {pos : Pos} {i j : Int} (ha : Gd Rl X σ G a (.int i)) (hb : Gd Rl X σ G b (.int j)) : Gt Rl X σ G (.Compare a [.Gt] [b] pos) (decide (j < i)) := gt_cmp op_gt rd_cmpI ha hb (nomark _)
theorem deed_at {qs : List Deed} {i : Nat} (h : i < qs.length) : ∃ q, qs[i]? = some q ∧ atI (qs.map Deed.toD) (i : Int) = some q.toD ∧ (qs.map (·.name)).getD i Str.empty = q.name := by
  refine ⟨qs[i], List.getElem?_eq_getElem h, atI_nat ?_, ?_⟩
  · rw [List.getElem?_map, List.getElem?_eq_getElem h]; rfl
  · rw [List.getD_eq_getElem?_getD, List.getElem?_map, List.getElem?_eq_getElem h]; rfl
theorem shaped_listI (ns : List Int) : SeqAt.shaped (.list (ns.map .int)) = true := by
  have h1 : PyData.depthAll (ns.map PyData.int) = 0 := by
    induction ns with
    | nil => simp [PyData.depthAll]
    | cons a r ih => simp [PyData.depthAll, PyData.depth, ih]
  have h2 : PyData.canLayAll0 (ns.map PyData.int) = true := by
    induction ns with
    | nil => simp [PyData.canLayAll0]
    | cons a r ih =>
      have h1' : PyData.depthAll (r.map PyData.int) = 0 := by simpa [PyData.depthAll, PyData.depth] using h1
      simp [PyData.canLayAll0, PyData.canLay0, ih h1']
  simp [SeqAt.shaped, PyData.canLay0, PyData.depth, h1, h2]
theorem ok_wrong_word (B : Bt mg) (hm10 : ∃ t, mg "MOST_FACTS" = some (.int 10 t)) (hm14 : ∃ t, mg "MOST_DEEDS" = some (.int 14 t)) (pf : Pu P w K mg base "are_facts" 2 1 RFacts) (pd : Pu P w K mg base "is_deed" 3 1 RDeed) (pi : Pu P w K mg base "facts_in" 1 1 RFin)
    (F : Fun K "wrong_word" "wrong_word" (topS 14) f fd) : FnOk P w K mg base CX0 4 f fd ["value"] (PuSp 1 RWrong) := by
  refine pu_ok (R := RWrong) F sc14 fun cdv A outer s H0 E G H vs ds d hr sb ra hn hR => ?_
  obtain ⟨v, rfl, hs, rfl⟩ := hR
  obtain ⟨x0, _, rfl, r0, ra⟩ := ra.consE
  obtain rfl := ra.nilE
  obtain ⟨t10, hm10⟩ := hm10
  obtain ⟨t14, hm14⟩ := hm14
  have hu := Room.units hr
  refine ws_if (Rl := Ex) sb (gt_is (k' := not3 v) (Gw.pt (gw_or (k := !tTup v) (k' := not3 v) ?_ fun h1 => gw_or1 ?_)) ?_) ?_ ?_
  · exact gt_not (gt_val (g_isTup B (g_var 0 rfl r0)))
  · obtain ⟨ds, rfl⟩ := tTup_e (by simpa using h1)
    exact gt_neI hu (g_lenT B.len (g_var 0 rfl r0)) g_int
  · cases v <;> rfl
  · intro h G' H' g
    refine ws_ret g.sub g_str fun v' G2 H2 g2 r2 => ⟨G2, g.trans g2, ?_⟩
    rw [wrong_form h]
    exact r2
  intro h G' H' g
  obtain ⟨a, b, c, rfl⟩ := not3_e h
  have r1 := r0.mono g.ex
  obtain ⟨_, hsm⟩ := sm_tuple.1 hs
  have sa := hsm a (by simp)
  refine ws_if (Rl := Ex) g.sub (Gw.pt (gw_or (k := !tTup a) (k' := long14 a || badDeeds a) (gt_not ?_) fun h1 => gw_or (k := long14 a) (k' := badDeeds a) ?_ fun h2 => gw_or1 ?_)) ?_ ?_
  · exact gt_val (g_isTup B (g_ixT (g_var 0 rfl r1) g_int (atI_nat (j := 0) rfl)))
  · obtain ⟨ds, rfl⟩ := tTup_e (by simpa using h1)
    exact gt_gtI (g_lenT B.len (g_ixT (g_var 0 rfl r1) g_int (atI_nat (j := 0) rfl))) (g_glob (v := .int 14) hm14 ⟨_, rfl⟩ fun _ => .int 14)
  · obtain ⟨ds, rfl⟩ := tTup_e (by simpa using h1)
    obtain ⟨hl, hm⟩ := sm_tuple.1 sa
    refine gt_not (gt_val (g_all rfl B.all (gd_is (g_lcT (fun _ => true) (fun d => .bool (asDeed d).isSome) (ds := ds) rfl sc14.nd (blkOk_by (own := [("one", 1)]) (N := n14) (sc := defScope (topS 14)) (by decide +kernel)) (fun _ _ _ _ _ => pg_name (i := 1) sc14.nd rfl (Or.inl rfl))
      (g_ixT (g_var 0 rfl r1) g_int (atI_nat (j := 0) rfl)) (by omega) fun d v G1 hd e1 rd => ⟨fun _ _ _ _ _ => gi_nil, fun _ _ _ _ _ _ => g_call pd (hr.mono (by decide)) (ga_cons (g_var 1 rfl rd) ga_nil) rfl ⟨d, rfl, hm d hd, rfl⟩⟩) ?_)))
    rw [List.filter_eq_self.mpr fun _ _ => rfl, List.map_map]
    rfl
  · intro h2 G2 H2 g2
    refine ws_ret g2.sub g_str fun v' G3 H3 g3 r3 => ⟨G3, (g.trans g2).trans g3, ?_⟩
    rw [wrong_deeds h2]
    exact r3
  intro h2 G2 H2 g2
  obtain ⟨qs, rfl, h14, hg⟩ := deeds_e h2
  have r2 := r1.mono g2.ex
  rw [wrong_rest h14 hg]
  unfold wrongTail
  rw [← downs_empty]
  refine ws_if (Rl := Ex) g2.sub (gt_is (k' := !(downs qs).isEmpty) (gt_ne hu (shaped_listI (downs qs)) shaped_nil ?_ (g_lst ga_nil (by simp))) ?_) ?_ ?_
  · refine gd_is (g_lcR (z := (qs.length : Int) - 1) (fun k => !slt ((qs.map (·.name)).getD k Str.empty) ((qs.map (·.name)).getD (k + 1) Str.empty)) (fun k => .int (k : Int)) rfl sc14.nd (blkOk_by (own := [("k", 2)]) (N := n14) (sc := defScope (topS 14)) (by decide +kernel)) (fun _ _ _ _ _ => pg_name (i := 2) sc14.nd rfl (Or.inl rfl)) B.range
      (g_op op_sub rd_int (gd_is (g_lenT B.len (g_ixT (g_var 0 rfl r2) g_int (atI_nat (j := 0) rfl))) (by rw [List.length_map])) g_int) (by omega) fun i G1 hi e1 => ⟨fun _ _ _ _ _ => gi_one ?_, fun _ _ _ _ _ _ => g_var 2 rfl (.int _)⟩) ?_
    · have r3 := r2.mono e1
      obtain ⟨q, _, hq2, hq3⟩ := deed_at (qs := qs) (i := i) (by omega)
      obtain ⟨q', _, hq2', hq3'⟩ := deed_at (qs := qs) (i := i + 1) (by omega)
      rw [hq3, hq3']
      have e2 : ((i : Int) + 1) = ((i + 1 : Nat) : Int) := by omega
      exact gt_cmp op_ge_str (rd_str (p := fun i j => !slt i j)) (g_ixT (g_ixT (g_ixT (g_var 0 rfl r3) g_int (atI_nat (j := 0) rfl)) (g_var 2 rfl (.int _)) hq2) g_int (atI_nat (j := 0) rfl))
        (g_ixT (g_ixT (g_ixT (g_var 0 rfl r3) g_int (atI_nat (j := 0) rfl)) (g_op op_add rd_int (g_var 2 rfl (.int _)) g_int) (by rw [e2]; exact hq2')) g_int (atI_nat (j := 0) rfl)) (nomark _)
    · have e2 : ((qs.length : Int) - 1).toNat = qs.length - 1 := by omega
      rw [e2]
      unfold downs
      rw [List.map_map]
      rfl
  · rw [eqv_nil]
    cases downs qs <;> rfl
  · intro h3 G3 H3 g3
    refine ws_ret g3.sub g_str fun v' G4 H4 g4 r4 => ⟨G4, ((g.trans g2).trans g3).trans g4, ?_⟩
    rw [show (downs qs).isEmpty = false by simpa using h3]
    exact r4
  intro h3 G3 H3 g3
  rw [show (downs qs).isEmpty = true by simpa using h3, if_pos rfl]
  have r3 := r2.mono g3.ex
  have g03 := (g.trans g2).trans g3
  refine ws_if (Rl := Ex) g3.sub (gt_not (gt_val (g_call (d := .bool (asFacts b).isSome) pf (hr.mono (by decide)) (ga_cons (g_ixT (g_var 0 rfl r3) g_int (atI_nat (j := 1) rfl)) ga_nil) rfl ⟨b, rfl, hsm b (by simp), rfl⟩))) ?_ ?_
  · intro h4 G4 H4 g4
    refine ws_ret g4.sub g_str fun v' G5 H5 g5 r5 => ⟨G5, (g03.trans g4).trans g5, ?_⟩
    cases e : asFacts b with
    | none => exact r5
    | some l => rw [e] at h4; cases h4
  intro h4 G4 H4 g4
  have r4 := r3.mono g4.ex
  cases eb : asFacts b with
  | none => rw [eb] at h4; cases h4
  | some bb =>
  refine ws_if (Rl := Ex) g4.sub (gt_not (gt_val (g_call (d := .bool (asFacts c).isSome) pf (hr.mono (by decide)) (ga_cons (g_ixT (g_var 0 rfl r4) g_int (atI_nat (j := 2) rfl)) ga_nil) rfl ⟨c, rfl, hsm c (by simp), rfl⟩))) ?_ ?_
  · intro h5 G5 H5 g5
    refine ws_ret g5.sub g_str fun v' G6 H6 g6 r6 => ⟨G6, ((g03.trans g4).trans g5).trans g6, ?_⟩
    cases e : asFacts c with
    | none => exact r6
    | some l => rw [e] at h5; cases h5
  intro h5 G5 H5 g5
  have r5 := r4.mono g5.ex
  cases ec : asFacts c with
  | none => rw [ec] at h5; cases h5
  | some ww =>
  obtain ⟨rfl, _⟩ := asFacts_some.1 eb
  obtain ⟨rfl, _⟩ := asFacts_some.1 ec
  have ht : (Task.mk qs bb ww).Sm := sm_task.1 hs
  refine ws_ret g5.sub (g_if (k := decide ((10 : Int) < (Task.facts ⟨qs, bb, ww⟩).length)) ?_ (fun h6 => ?_) fun h6 => ?_) fun v' G6 H6 g6 r6 => ⟨G6, ((g03.trans g4).trans g5).trans g6, r6⟩
  · exact gt_gtI (gd_is (g_lenL B.len (g_call pi (hr.mono (by decide)) (ga_cons (g_var 0 rfl r5) ga_nil) rfl ⟨⟨qs, bb, ww⟩, rfl, ht, Nat.le_trans h14 (by decide), rfl⟩)) (by rw [List.length_map])) (g_glob (v := .int 10) hm10 ⟨_, rfl⟩ fun _ => .int 10)
  · have h7 : 10 < (Task.facts ⟨qs, bb, ww⟩).length := by have := of_decide_eq_true h6; omega
    simp only [if_pos h7]
    exact g_str
  · have h7 : ¬ 10 < (Task.facts ⟨qs, bb, ww⟩).length := by have := of_decide_eq_false h6; omega
    simp only [if_neg h7]
    exact g_non
end
end WR
end
section
set_option Elab.async false
set_option linter.all false
set_option maxRecDepth 100000
namespace WR
open PySem PySem.Spec PyProof.Rows L2
def subB (a b : List Str) : Bool := a.all fun z => decide (z ∈ b)
theorem filter_sub (a b : List Str) : (a.filter fun z => !decide (z ∈ b)).isEmpty = subB a b := by
  unfold subB
  induction a with
  | nil => rfl
  | cons x r ih =>
    rw [List.filter_cons, List.all_cons]
    by_cases h : x ∈ b
    · simp [h, ih]
    · simp [h]
def canDo (st : List Str) (q : Deed) : Bool := subB q.needs st && disj q.bars st
def behindS (st : List Str) (q : Deed) : List Str := sd (st.filter (fun z => !decide (z ∈ q.strikes) && !decide (z ∈ q.adds)) ++ q.adds)
theorem behind_nodup {st : List Str} {q : Deed} (h1 : incr st = true) (h2 : incr q.adds = true) : (st.filter (fun z => !decide (z ∈ q.strikes) && !decide (z ∈ q.adds)) ++ q.adds).Nodup := by
  rw [List.nodup_append]
  refine ⟨(incr_nodup h1).filter _, incr_nodup h2, fun a ha b hb e => ?_⟩
  subst e
  have := (List.mem_filter.mp ha).2
  simp [hb] at this
section
variable {P : Program} {w : World} {K : PySem.W.Frag} {mg : Str → Option Value} {base : Heap} {f : Addr} {fd : FuncData}
def RIsTask (ds : List PyData) (d : PyData) : Prop := ∃ v, ds = [v] ∧ sm v = true ∧ d = .bool (wrongD v).isNone
theorem sc15 : FnScope ["value"] ["value"] (defScope (topS 15)) := ⟨rfl, rfl, rfl, by decide +kernel, rfl, by decide +kernel, by decide +kernel⟩
theorem ok_is_task (pw : Pu P w K mg base "wrong_word" 4 1 RWrong) (F : Fun K "is_task" "is_task" (topS 15) f fd) : FnOk P w K mg base CX0 5 f fd ["value"] (PuSp 1 RIsTask) := by
  refine pu_ok (R := RIsTask) F sc15 fun cdv A outer s H0 E G H vs ds d hr sb ra hn hR => ?_
  obtain ⟨v, rfl, hs, rfl⟩ := hR
  obtain ⟨x0, _, rfl, r0, ra⟩ := ra.consE
  obtain rfl := ra.nilE
  refine ws_ret (Rl := Ex) sb (gd_is (g_cmp op_isN rd_isN (g_call pw (hr.mono (by decide)) (ga_cons (g_var 0 rfl r0) ga_nil) rfl ⟨v, rfl, hs, rfl⟩) g_non (nomark _)) ?_) fun v' G' H' g r => ⟨G', g, r⟩
  cases wrongD v <;> rfl
/-! ### has, can_do, behind, ways -/
def RHas (ds : List PyData) (d : PyData) : Prop := ∃ st sm, ds = [strsD st, strsD sm] ∧ LOk sm ∧ d = .bool (subB sm st)
abbrev n19 : List Str := ["state", "some", "one"]
theorem sc19 : FnScope n19 ["state", "some"] (defScope (topS 19)) := ⟨rfl, rfl, rfl, by decide +kernel, rfl, by decide +kernel, by decide +kernel⟩
theorem ok_has (F : Fun K "has" "has" (topS 19) f fd) : FnOk P w K mg base CX0 1 f fd ["state", "some"] (PuSp 2 RHas) := by
  refine pu_ok (R := RHas) F sc19 fun cdv A outer s H0 E G H vs ds d hr sb ra hn hR => ?_
  obtain ⟨st, l, rfl, hl, rfl⟩ := hR
  obtain ⟨x0, _, rfl, r0, ra⟩ := ra.consE
  obtain ⟨x1, _, rfl, r1, ra⟩ := ra.consE
  obtain rfl := ra.nilE
  rw [← filter_sub]
  refine ws_ret (Rl := Ex) sb (g_eqNil (Room.units hr) (l := l.filter fun z => !decide (z ∈ st)) (fun z hz => (hl.2 z (List.mem_filter.mp hz).1).2) ?_) fun v' G4 H4 g4 r4 => ⟨G4, g4, r4⟩
  exact g_filT (l := l) (fun z => !decide (z ∈ st)) rfl sc19.nd (blkOk_by (own := [("one", 2)]) (N := n19) (sc := defScope (topS 19)) (by decide +kernel)) (fun _ _ _ _ _ => pg_name (i := 2) sc19.nd rfl (Or.inl rfl)) (g_var 1 rfl r1) (by have := hl.1; omega)
      (fun y G1 hy e1 _ _ _ _ _ => gt_niT (g_var 2 rfl (.str y)) (g_var 0 rfl (r0.mono e1))) fun y G1 _ _ _ _ _ => g_var 2 rfl (.str y)
def RCan (ds : List PyData) (d : PyData) : Prop := ∃ st, ∃ q : Deed, ds = [strsD st, q.toD] ∧ q.Sm ∧ d = .bool (canDo st q)
abbrev n20 : List Str := ["state", "deed", "one"]
theorem sc20 : FnScope n20 ["state", "deed"] (defScope (topS 20)) := ⟨rfl, rfl, rfl, by decide +kernel, rfl, by decide +kernel, by decide +kernel⟩
theorem ok_can_do (ph : Pu P w K mg base "has" 1 2 RHas) (F : Fun K "can_do" "can_do" (topS 20) f fd) : FnOk P w K mg base CX0 2 f fd ["state", "deed"] (PuSp 2 RCan) := by
  refine pu_ok (R := RCan) F sc20 fun cdv A outer s H0 E G H vs ds d hr sb ra hn hR => ?_
  obtain ⟨st, q, rfl, hq, rfl⟩ := hR
  obtain ⟨x0, _, rfl, r0, ra⟩ := ra.consE
  obtain ⟨x1, _, rfl, r1, ra⟩ := ra.consE
  obtain rfl := ra.nilE
  unfold canDo
  refine ws_ret (Rl := Ex) sb (g_and (g_call ph (hr.mono (by decide)) (ga_cons (g_var 0 rfl r0) (ga_cons (g_ixT (g_var 1 rfl r1) g_int (atI_nat (j := 1) rfl)) ga_nil)) rfl ⟨st, q.needs, rfl, hq.n1, rfl⟩) fun _ => g_one ?_) fun v' G4 H4 g4 r4 => ⟨G4, g4, r4⟩
  rw [← filter_empty]
  refine g_eqNil (Room.units hr) (l := q.bars.filter fun z => decide (z ∈ st)) (fun z hz => (hq.n2.2 z (List.mem_filter.mp hz).1).2) ?_
  exact g_filT (l := q.bars) (fun z => decide (z ∈ st)) rfl sc20.nd (blkOk_by (own := [("one", 2)]) (N := n20) (sc := defScope (topS 20)) (by decide +kernel)) (fun _ _ _ _ _ => pg_name (i := 2) sc20.nd rfl (Or.inl rfl)) (g_ixT (g_var 1 rfl r1) g_int (atI_nat (j := 2) rfl)) (by have := hq.n2.1; omega)
      (fun y G1 hy e1 _ _ _ _ _ => gt_inT (g_var 2 rfl (.str y)) (g_var 0 rfl (r0.mono e1))) fun y G1 _ _ _ _ _ => g_var 2 rfl (.str y)
def RBeh (ds : List PyData) (d : PyData) : Prop := ∃ st, ∃ q : Deed, ds = [strsD st, q.toD] ∧ incr st = true ∧ st.length ≤ 12 ∧ incr q.adds = true ∧ q.adds.length ≤ 50 ∧ d = strsD (behindS st q)
abbrev n21 : List Str := ["state", "deed", "left", "one"]
theorem sc21 : FnScope n21 ["state", "deed"] (defScope (topS 21)) := ⟨rfl, rfl, rfl, by decide +kernel, rfl, by decide +kernel, by decide +kernel⟩
theorem ok_behind (B : Bt mg) (F : Fun K "behind" "behind" (topS 21) f fd) : FnOk P w K mg base CX0 1 f fd ["state", "deed"] (PuSp 2 RBeh) := by
  refine pu_ok (R := RBeh) F sc21 fun cdv A outer s H0 E G H vs ds d hr sb ra hn hR => ?_
  obtain ⟨st, q, rfl, h1, h2, h3, h4, rfl⟩ := hR
  obtain ⟨x0, _, rfl, r0, ra⟩ := ra.consE
  obtain ⟨x1, _, rfl, r1, ra⟩ := ra.consE
  obtain rfl := ra.nilE
  refine ws_filT (Rl := Ex) (i := 2) (l := st) (fun z => !decide (z ∈ q.strikes) && !decide (z ∈ q.adds)) rfl sc21.nd rfl rfl (sw_true rfl rfl rfl (by decide +kernel)) (blkOk_by (own := [("one", 3)]) (N := n21) (sc := defScope (topS 21)) (by decide +kernel)) (fun _ _ _ _ _ => pg_name (i := 3) sc21.nd rfl (Or.inl rfl)) sb (g_var 0 rfl r0) (by omega)
      (fun y G1 hy e1 _ _ _ _ _ => Gw.pt (gw_and (gt_niT (g_var 3 rfl (.str y)) (g_ixT (g_var 1 rfl (r1.mono e1)) g_int (atI_nat (j := 4) rfl))) fun _ => gw_and1 (gt_niT (g_var 3 rfl (.str y)) (g_ixT (g_var 1 rfl (r1.mono e1)) g_int (atI_nat (j := 3) rfl))))) (fun y G1 _ _ _ _ _ => g_var 3 rfl (.str y))
      fun v G2 H2 g2 r2 => ?_
  have nd := behind_nodup (q := q) h1 h3
  have hl : (st.filter (fun z => !decide (z ∈ q.strikes) && !decide (z ∈ q.adds)) ++ q.adds).length < 64 := by
    have := List.length_filter_le (fun z => !decide (z ∈ q.strikes) && !decide (z ∈ q.adds)) st
    rw [List.length_append]
    omega
  refine ws_ret (Rl := Ex) g2.sub (g_tuple B.tuple (g_sort B.sorted hl nd (g_lst (gd_is_a (ga_starL (g_var 2 rfl r2) (ga_starT (g_ixT (ds := [.str q.name, strsD q.needs, strsD q.bars, strsD q.adds, strsD q.strikes, .int q.price]) (g_var 1 rfl (r1.mono g2.ex)) g_int (atI_nat (j := 3) rfl)) ga_nil)) ?_) ?_))) fun v' G4 H4 g4 r4 => ⟨G4, g2.trans g4, r4⟩
  · rw [List.append_nil, List.map_append]
  · rw [List.length_map]
    omega
end
end WR
end
section
set_option Elab.async false
set_option linter.all false
set_option maxRecDepth 100000
namespace WR
open PySem PySem.Spec PyProof.Rows L2
section
variable {Rl : Hp → Hp → Prop} [RlOk Rl] {X : Cx} {σ : L2.St} {G G' : Hp} {e elt iter : Expr} {ifs : List Expr} {scope : Scope} {x : Str} {j : Nat} {tpos pos : Pos}
theorem wipe2 (σ : L2.St) {j j2 : Nat} (h : j ≠ j2) (x y : Option V) : wipe (((wipe σ [j, j2]).set j x).set j2 y) [j, j2] = wipe σ [j, j2] := by
  show (((((σ.set j2 none).set j none).set j x).set j2 y).set j2 none).set j none = (σ.set j2 none).set j none
  rw [List.set_set, List.set_set, List.set_comm _ _ h, List.set_set, List.set_set]

/-- [elt for x in (a tuple, told by its items) if ..] -/
theorem ed_lcTm {α : Type} (l : List α) (c : α → PyData) (p : α → Bool) (f : α → PyData) (hi : Gd Rl X σ G iter (.tuple (l.map c))) (hz : l.length < 100000)
    (hb : ∀ a v G1, a ∈ l → Ex G G1 → Rp G1 v (c a) → (InB X scope fun Y => Gi Rl Y ((wipe σ [j]).set j (some v)) G1 ifs (p a)) ∧ (p a = true → InB X scope fun Y => Gd Rl Y ((wipe σ [j]).set j (some v)) G1 elt (f a))) :
    ∀ G1, Ex G G1 → Ed Rl (tLc (iTup X.K (WE X iter)) (gName j) (WBI X scope ifs) (WBE X scope elt) [j]) σ G1 (.list ((l.filter p).map f)) := by
  refine fun G0 x0 H s Q q => hi G0 x0 H s _ fun v G1 H1 e1 r1 => ?_
  obtain ⟨a, xs, rfl, ha, rs⟩ := r1.tupE
  refine ⟨a, rfl, ⟨xs, SqT.of (e1.sub.1 _ _ ha)⟩, fun D hD => ?_⟩
  refine lc_tup (xs := xs) (Cv Rl G1 H1 D fun i => ((l.take i).filter p).map f) (cv_start e1.sub hD rfl) (fun i H' _ c => ?_) (fun i u H' hu c => ?_) fun H' c => ?_
  · obtain ⟨G', g, _⟩ := c
    exact SqT.of (g.sub.1 _ _ (g.ex _ _ ha))
  · obtain ⟨d, hd, rd⟩ := rs.get hu
    rw [List.getElem?_map] at hd
    obtain ⟨y, hy, rfl⟩ := Option.map_eq_some_iff.mp hd
    obtain ⟨b1, b2⟩ := hb y u G1 (List.mem_of_getElem? hy) (x0.trans e1.ex) rd
    refine ⟨wipe1 σ j _, cv_turn (k := p y) (d := f y) hD c (Nat.lt_of_le_of_lt (take_filter_len l p f i) hz) (edt_wb b1) (fun k => ed_wb (b2 k)) (fun k => take_filter_yes hy k) fun k => take_filter_no hy k⟩
  · obtain ⟨G', g, r⟩ := cv_end hD c
    rw [rs.len, List.length_map, List.take_length] at r
    exact q _ G' H' (e1.trans g) r
theorem g_lcTm {α : Type} (l : List α) (c : α → PyData) (p : α → Bool) (f : α → PyData) (hc : X.calm = true) (hN : X.N.Nodup) (ok : BlkOk X.N X.env.scope scope [(x, j)]) (hg : InB X scope fun Y => PG Y (.Name x tpos) (gName j))
    (hi : Gd Rl X σ G iter (.tuple (l.map c))) (hz : l.length < 100000)
    (hb : ∀ a v G1, a ∈ l → Ex G G1 → Rp G1 v (c a) → (InB X scope fun Y => Gi Rl Y ((wipe σ [j]).set j (some v)) G1 ifs (p a)) ∧ (p a = true → InB X scope fun Y => Gd Rl Y ((wipe σ [j]).set j (some v)) G1 elt (f a)))
    (hs : ∀ x, foldedSetIterable iter X.env x = pure x := by intro _; rfl) : Gd Rl X σ G (.ListComp elt [⟨.Name x tpos, iter, ifs, 0⟩] scope pos) (.list ((l.filter p).map f)) :=
  .of (pe_lc (own := [(x, j)]) hc hN (pi_tup pe_w) ok hg pi_wb pe_wb hs) (ed_lcTm l c p f hi hz hb)
theorem ws_setLcTm {α : Type} {H : Hp} {y : Str} {i : Nat} {py spos : Pos} {rest : List Stmt} {D : Ends} (l : List α) (c : α → PyData) (p : α → Bool) (f : α → PyData) (hc : X.calm = true) (hN : X.N.Nodup) (hy : X.N[i]? = some y) (hyl : X.env.scope.names.lookup y = some .local)
    (hsw : swapsWith (.ListComp elt [⟨.Name x tpos, iter, ifs, 0⟩] scope pos) (some (.Name y py)) spos.line X.env = pure true) (ok : BlkOk X.N X.env.scope scope [(x, j)]) (hg : InB X scope fun Y => PG Y (.Name x tpos) (gName j))
    (sb : Sub G H) (hi : Gd Rl X σ G iter (.tuple (l.map c))) (hz : l.length < 100000)
    (hb : ∀ a v G1, a ∈ l → Ex G G1 → Rp G1 v (c a) → (InB X scope fun Y => Gi Rl Y ((wipe σ [j]).set j (some v)) G1 ifs (p a)) ∧ (p a = true → InB X scope fun Y => Gd Rl Y ((wipe σ [j]).set j (some v)) G1 elt (f a)))
    (k : ∀ v G' H', Gr Rl G H G' H' → Rp G' v (.list ((l.filter p).map f)) → Ws X rest D (σ.set i (some v)) H')
    (hs : ∀ x, foldedSetIterable iter X.env x = pure x := by intro _; rfl) : Ws X (.Assign [.Name y py] (.ListComp elt [⟨.Name x tpos, iter, ifs, 0⟩] scope pos) spos :: rest) D σ H :=
  ws_cons (ps_setLc (own := [(x, j)]) hc hN hy hyl hsw (pi_tup pe_w) ok hg pi_wb pe_wb hs) (ed_lcTm l c p f hi hz hb G (Evl.Ex.refl G) H sb _ fun v G' H' g r => k v G' H' g r)
/-- the target a pair of names -/
theorem g_lcT2 {α : Type} {x2 : Str} {j2 kk : Nat} {tp2 tp3 : Pos} (l : List α) (c1 c2 : α → PyData) (p : α → Bool) (f : α → PyData) (hc : X.calm = true) (hN : X.N.Nodup) (hjj : j ≠ j2) (ok : BlkOk X.N X.env.scope scope [(x, j), (x2, j2)]) (hg : InB X scope fun Y => PG Y (.Tuple [.Name x tpos, .Name x2 tp2] kk tp3) (gTup X.K 2 (gCons (gName j) (gCons (gName j2) gNil))))
    (hi : Gd Rl X σ G iter (.tuple (l.map fun a => .tuple [c1 a, c2 a]))) (hz : l.length < 100000)
    (hb : ∀ a v v2 G1, a ∈ l → Ex G G1 → Rp G1 v (c1 a) → Rp G1 v2 (c2 a) → (InB X scope fun Y => Gi Rl Y (((wipe σ [j, j2]).set j (some v)).set j2 (some v2)) G1 ifs (p a)) ∧ (p a = true → InB X scope fun Y => Gd Rl Y (((wipe σ [j, j2]).set j (some v)).set j2 (some v2)) G1 elt (f a)))
    (hs : ∀ x, foldedSetIterable iter X.env x = pure x := by intro _; rfl) : Gd Rl X σ G (.ListComp elt [⟨.Tuple [.Name x tpos, .Name x2 tp2] kk tp3, iter, ifs, 0⟩] scope pos) (.list ((l.filter p).map f)) := by
  refine .of (pe_lc (own := [(x, j), (x2, j2)]) hc hN (pi_tup pe_w) ok hg pi_wb pe_wb hs) fun G0 x0 H s Q q => hi G0 x0 H s _ fun v G1 H1 e1 r1 => ?_
  obtain ⟨a, xs, rfl, ha, rs⟩ := r1.tupE
  refine ⟨a, rfl, ⟨xs, SqT.of (e1.sub.1 _ _ ha)⟩, fun D hD => ?_⟩
  refine lc_tup (xs := xs) (Cv Rl G1 H1 D fun i => ((l.take i).filter p).map f) (cv_start e1.sub hD rfl) (fun i H' _ c => ?_) (fun i u H' hu c => ?_) fun H' c => ?_
  · obtain ⟨G', g, _⟩ := c
    exact SqT.of (g.sub.1 _ _ (g.ex _ _ ha))
  · obtain ⟨d, hd, rd⟩ := rs.get hu
    rw [List.getElem?_map] at hd
    obtain ⟨y, hy, rfl⟩ := Option.map_eq_some_iff.mp hd
    obtain ⟨b, ys, rfl, hb2, ry⟩ := rd.tupE
    obtain ⟨u1, _, rfl, ru1, ry⟩ := ry.consE
    obtain ⟨u2, _, rfl, ru2, ry⟩ := ry.consE
    obtain rfl := ry.nilE
    obtain ⟨b1, b2⟩ := hb y u1 u2 G1 (List.mem_of_getElem? hy) (x0.trans e1.ex) ru1 ru2
    refine ⟨b, [u1, u2], rfl, SqT.of ?_, rfl, u1, [u2], rfl, u2, [], rfl, rfl, wipe2 σ hjj _ _, cv_turn (k := p y) (d := f y) hD c (Nat.lt_of_le_of_lt (take_filter_len l p f i) hz) (edt_wb b1) (fun k => ed_wb (b2 k)) (fun k => take_filter_yes hy k) fun k => take_filter_no hy k⟩
    obtain ⟨G', g, _⟩ := c
    exact g.sub.1 _ _ (g.ex _ _ hb2)
  · obtain ⟨G', g, r⟩ := cv_end hD c
    rw [rs.len, List.length_map, List.take_length] at r
    exact q _ G' H' (e1.trans g) r

/-- [elt for x in (a list, told by its items) if ..] -/
theorem ed_lcLm {α : Type} (l : List α) (c : α → PyData) (p : α → Bool) (f : α → PyData) (hi : Gd Rl X σ G iter (.list (l.map c))) (hz : l.length < 100000)
    (hb : ∀ a v G1, a ∈ l → Ex G G1 → Rp G1 v (c a) → (InB X scope fun Y => Gi Rl Y ((wipe σ [j]).set j (some v)) G1 ifs (p a)) ∧ (p a = true → InB X scope fun Y => Gd Rl Y ((wipe σ [j]).set j (some v)) G1 elt (f a))) :
    ∀ G1, Ex G G1 → Ed Rl (tLc (iList X.K (WE X iter)) (gName j) (WBI X scope ifs) (WBE X scope elt) [j]) σ G1 (.list ((l.filter p).map f)) := by
  refine fun G0 x0 H s Q q => hi G0 x0 H s _ fun v G1 H1 e1 r1 => ?_
  obtain ⟨a, xs, rfl, ha, rs⟩ := r1.lstE
  refine ⟨a, rfl, ⟨xs, SqL.of (e1.sub.1 _ _ ha)⟩, fun D hD => ?_⟩
  refine lc_list (xs := xs) (Cv Rl G1 H1 D fun i => ((l.take i).filter p).map f) (cv_start e1.sub hD rfl) (fun i H' _ c => ?_) (fun i u H' hu c => ?_) fun H' c => ?_
  · obtain ⟨G', g, _⟩ := c
    exact SqL.of (g.sub.1 _ _ (g.ex _ _ ha))
  · obtain ⟨d, hd, rd⟩ := rs.get hu
    rw [List.getElem?_map] at hd
    obtain ⟨y, hy, rfl⟩ := Option.map_eq_some_iff.mp hd
    obtain ⟨b1, b2⟩ := hb y u G1 (List.mem_of_getElem? hy) (x0.trans e1.ex) rd
    refine ⟨wipe1 σ j _, cv_turn (k := p y) (d := f y) hD c (Nat.lt_of_le_of_lt (take_filter_len l p f i) hz) (edt_wb b1) (fun k => ed_wb (b2 k)) (fun k => take_filter_yes hy k) fun k => take_filter_no hy k⟩
  · obtain ⟨G', g, r⟩ := cv_end hD c
    rw [rs.len, List.length_map, List.take_length] at r
    exact q _ G' H' (e1.trans g) r
theorem g_lcLm {α : Type} (l : List α) (c : α → PyData) (p : α → Bool) (f : α → PyData) (hc : X.calm = true) (hN : X.N.Nodup) (ok : BlkOk X.N X.env.scope scope [(x, j)]) (hg : InB X scope fun Y => PG Y (.Name x tpos) (gName j))
    (hi : Gd Rl X σ G iter (.list (l.map c))) (hz : l.length < 100000)
    (hb : ∀ a v G1, a ∈ l → Ex G G1 → Rp G1 v (c a) → (InB X scope fun Y => Gi Rl Y ((wipe σ [j]).set j (some v)) G1 ifs (p a)) ∧ (p a = true → InB X scope fun Y => Gd Rl Y ((wipe σ [j]).set j (some v)) G1 elt (f a)))
    (hs : ∀ x, foldedSetIterable iter X.env x = pure x := by intro _; rfl) : Gd Rl X σ G (.ListComp elt [⟨.Name x tpos, iter, ifs, 0⟩] scope pos) (.list ((l.filter p).map f)) :=
  .of (pe_lc (own := [(x, j)]) hc hN (pi_list pe_w) ok hg pi_wb pe_wb hs) (ed_lcLm l c p f hi hz hb)
theorem ws_setLcLm {α : Type} {H : Hp} {y : Str} {i : Nat} {py spos : Pos} {rest : List Stmt} {D : Ends} (l : List α) (c : α → PyData) (p : α → Bool) (f : α → PyData) (hc : X.calm = true) (hN : X.N.Nodup) (hy : X.N[i]? = some y) (hyl : X.env.scope.names.lookup y = some .local)
    (hsw : swapsWith (.ListComp elt [⟨.Name x tpos, iter, ifs, 0⟩] scope pos) (some (.Name y py)) spos.line X.env = pure true) (ok : BlkOk X.N X.env.scope scope [(x, j)]) (hg : InB X scope fun Y => PG Y (.Name x tpos) (gName j))
    (sb : Sub G H) (hi : Gd Rl X σ G iter (.list (l.map c))) (hz : l.length < 100000)
    (hb : ∀ a v G1, a ∈ l → Ex G G1 → Rp G1 v (c a) → (InB X scope fun Y => Gi Rl Y ((wipe σ [j]).set j (some v)) G1 ifs (p a)) ∧ (p a = true → InB X scope fun Y => Gd Rl Y ((wipe σ [j]).set j (some v)) G1 elt (f a)))
    (k : ∀ v G' H', Gr Rl G H G' H' → Rp G' v (.list ((l.filter p).map f)) → Ws X rest D (σ.set i (some v)) H')
    (hs : ∀ x, foldedSetIterable iter X.env x = pure x := by intro _; rfl) : Ws X (.Assign [.Name y py] (.ListComp elt [⟨.Name x tpos, iter, ifs, 0⟩] scope pos) spos :: rest) D σ H :=
  ws_cons (ps_setLc (own := [(x, j)]) hc hN hy hyl hsw (pi_list pe_w) ok hg pi_wb pe_wb hs) (ed_lcLm l c p f hi hz hb G (Evl.Ex.refl G) H sb _ fun v G' H' g r => k v G' H' g r)
/-- the target a pair of names -/
theorem g_lcL2 {α : Type} {x2 : Str} {j2 kk : Nat} {tp2 tp3 : Pos} (l : List α) (c1 c2 : α → PyData) (p : α → Bool) (f : α → PyData) (hc : X.calm = true) (hN : X.N.Nodup) (hjj : j ≠ j2) (ok : BlkOk X.N X.env.scope scope [(x, j), (x2, j2)]) (hg : InB X scope fun Y => PG Y (.Tuple [.Name x tpos, .Name x2 tp2] kk tp3) (gTup X.K 2 (gCons (gName j) (gCons (gName j2) gNil))))
    (hi : Gd Rl X σ G iter (.list (l.map fun a => .tuple [c1 a, c2 a]))) (hz : l.length < 100000)
    (hb : ∀ a v v2 G1, a ∈ l → Ex G G1 → Rp G1 v (c1 a) → Rp G1 v2 (c2 a) → (InB X scope fun Y => Gi Rl Y (((wipe σ [j, j2]).set j (some v)).set j2 (some v2)) G1 ifs (p a)) ∧ (p a = true → InB X scope fun Y => Gd Rl Y (((wipe σ [j, j2]).set j (some v)).set j2 (some v2)) G1 elt (f a)))
    (hs : ∀ x, foldedSetIterable iter X.env x = pure x := by intro _; rfl) : Gd Rl X σ G (.ListComp elt [⟨.Tuple [.Name x tpos, .Name x2 tp2] kk tp3, iter, ifs, 0⟩] scope pos) (.list ((l.filter p).map f)) := by
  refine .of (pe_lc (own := [(x, j), (x2, j2)]) hc hN (pi_list pe_w) ok hg pi_wb pe_wb hs) fun G0 x0 H s Q q => hi G0 x0 H s _ fun v G1 H1 e1 r1 => ?_
  obtain ⟨a, xs, rfl, ha, rs⟩ := r1.lstE
  refine ⟨a, rfl, ⟨xs, SqL.of (e1.sub.1 _ _ ha)⟩, fun D hD => ?_⟩
  refine lc_list (xs := xs) (Cv Rl G1 H1 D fun i => ((l.take i).filter p).map f) (cv_start e1.sub hD rfl) (fun i H' _ c => ?_) (fun i u H' hu c => ?_) fun H' c => ?_
  · obtain ⟨G', g, _⟩ := c
    exact SqL.of (g.sub.1 _ _ (g.ex _ _ ha))
  · obtain ⟨d, hd, rd⟩ := rs.get hu
    rw [List.getElem?_map] at hd
    obtain ⟨y, hy, rfl⟩ := Option.map_eq_some_iff.mp hd
    obtain ⟨b, ys, rfl, hb2, ry⟩ := rd.tupE
    obtain ⟨u1, _, rfl, ru1, ry⟩ := ry.consE
    obtain ⟨u2, _, rfl, ru2, ry⟩ := ry.consE
    obtain rfl := ry.nilE
    obtain ⟨b1, b2⟩ := hb y u1 u2 G1 (List.mem_of_getElem? hy) (x0.trans e1.ex) ru1 ru2
    refine ⟨b, [u1, u2], rfl, SqT.of ?_, rfl, u1, [u2], rfl, u2, [], rfl, rfl, wipe2 σ hjj _ _, cv_turn (k := p y) (d := f y) hD c (Nat.lt_of_le_of_lt (take_filter_len l p f i) hz) (edt_wb b1) (fun k => ed_wb (b2 k)) (fun k => take_filter_yes hy k) fun k => take_filter_no hy k⟩
    obtain ⟨G', g, _⟩ := c
    exact g.sub.1 _ _ (g.ex _ _ hb2)
  · obtain ⟨G', g, r⟩ := cv_end hD c
    rw [rs.len, List.length_map, List.take_length] at r
    exact q _ G' H' (e1.trans g) r

end
end WR
end
section
set_option Elab.async false
set_option linter.all false
set_option maxRecDepth 100000
/-! data that may be compared -/
namespace WR
open PySem
def Sh (n : Nat) (d : PyData) : Prop := PyData.canLay0 d = true ∧ PyData.depth d ≤ n
theorem Sh.shaped {n : Nat} {d : PyData} (h : Sh n d) (hn : n ≤ 64) : SeqAt.shaped d = true := by
  unfold SeqAt.shaped
  rw [h.1, Bool.true_and]
  exact decide_eq_true (Nat.le_trans h.2 hn)
theorem Sh.mono {n m : Nat} {d : PyData} (h : Sh n d) (hn : n ≤ m) : Sh m d := ⟨h.1, Nat.le_trans h.2 hn⟩
theorem sh_non {n : Nat} : Sh n .none := ⟨by simp [PyData.canLay0], by simp [PyData.depth]⟩
theorem sh_bl {n : Nat} {b : Bool} : Sh n (.bool b) := ⟨by simp [PyData.canLay0], by simp [PyData.depth]⟩
theorem sh_int {n : Nat} {i : Int} : Sh n (.int i) := ⟨by simp [PyData.canLay0], by simp [PyData.depth]⟩
theorem sh_str {n : Nat} {z : Str} (h : PyData.strOk z = true) : Sh n (.str z) := ⟨by simp [PyData.canLay0, h], by simp [PyData.depth]⟩
theorem sh_all {n : Nat} {l : List PyData} (h : ∀ d ∈ l, Sh n d) : PyData.canLayAll0 l = true ∧ PyData.depthAll l ≤ n := by
  induction l with
  | nil => exact ⟨by simp [PyData.canLayAll0], by simp [PyData.depthAll]⟩
  | cons a r ih =>
    obtain ⟨i1, i2⟩ := ih fun d hd => h d (List.mem_cons_of_mem _ hd)
    obtain ⟨a1, a2⟩ := h a List.mem_cons_self
    exact ⟨by simp [PyData.canLayAll0, i1, a1], by simp [PyData.depthAll]; omega⟩
theorem sh_tup {n : Nat} {l : List PyData} (h : ∀ d ∈ l, Sh n d) : Sh (n + 1) (.tuple l) := by
  obtain ⟨h1, h2⟩ := sh_all h
  exact ⟨by simp [PyData.canLay0, h1], by simp [PyData.depth]; omega⟩
theorem sh_lst {n : Nat} {l : List PyData} (h : ∀ d ∈ l, Sh n d) : Sh (n + 1) (.list l) := by
  obtain ⟨h1, h2⟩ := sh_all h
  exact ⟨by simp [PyData.canLay0, h1], by simp [PyData.depth]; omega⟩
theorem sh_strsD {n : Nat} {l : List Str} (h : ∀ z ∈ l, PyData.strOk z = true) : Sh (n + 1) (strsD l) := sh_tup fun d hd => by
  obtain ⟨z, hz, rfl⟩ := List.mem_map.mp hd
  exact sh_str (h z hz)
theorem sh_deed {n : Nat} {q : Deed} (h : q.Sm) : Sh (n + 2) q.toD := sh_tup fun d hd => by
  simp only [List.mem_cons, List.not_mem_nil, or_false] at hd
  rcases hd with rfl | rfl | rfl | rfl | rfl | rfl
  · exact sh_str h.n.2
  · exact sh_strsD fun z hz => (h.n1.2 z hz).2
  · exact sh_strsD fun z hz => (h.n2.2 z hz).2
  · exact sh_strsD fun z hz => (h.n3.2 z hz).2
  · exact sh_strsD fun z hz => (h.n4.2 z hz).2
  · exact sh_int
theorem sh_deedsL {n : Nat} {l : List Deed} (h : ∀ q ∈ l, q.Sm) : Sh (n + 3) (.list (l.map Deed.toD)) := sh_lst fun d hd => by
  obtain ⟨q, hq, rfl⟩ := List.mem_map.mp hd
  exact sh_deed (h q hq)
end WR
end
section
set_option Elab.async false
set_option linter.all false
set_option maxRecDepth 100000
namespace WR
open PySem PySem.Spec PyProof.Rows L2
/-! ### ways, deed_of, price_of -/
theorem gt_neNilD {Rl : Hp → Hp → Prop} [RlOk Rl] {X : Cx} {σ : L2.St} {G : Hp} {a : Expr} {pos p : Pos} {l : List PyData} {n : Nat} (hu : X.A.units + 64 < cLine) (h : Sh n (.list l)) (hn : n ≤ 64) (ha : Gd Rl X σ G a (.list l)) : Gt Rl X σ G (.Compare a [.NotEq] [.List [] p] pos) (!l.isEmpty) :=
  gt_is (gt_ne hu (h.shaped hn) shaped_nil ha (g_lst ga_nil (by simp))) (by rw [eqv_nil])
theorem g_eqNilD {Rl : Hp → Hp → Prop} [RlOk Rl] {X : Cx} {σ : L2.St} {G : Hp} {a : Expr} {pos p : Pos} {l : List PyData} {n : Nat} (hu : X.A.units + 64 < cLine) (h : Sh n (.list l)) (hn : n ≤ 64) (ha : Gd Rl X σ G a (.list l)) : Gd Rl X σ G (.Compare a [.Eq] [.List [] p] pos) (.bool l.isEmpty) :=
  gd_is (g_eq hu (h.shaped hn) shaped_nil ha (g_lst ga_nil (by simp))) (by rw [eqv_nil])
/-- a state that is one -/
structure StOk (st : List Str) : Prop where
  inc : incr st = true
  few : st.length ≤ 12
  ok : ∀ z ∈ st, SOk z
structure Task.Ok (t : Task) : Prop where
  sm : t.Sm
  inc : ∀ q ∈ t.deeds, incr q.adds = true
def waysOf (t : Task) (st : List Str) : List Deed := t.deeds.filter (canDo st)
def wayD (st : List Str) (q : Deed) : PyData := .tuple [q.toD, strsD (behindS st q)]
def nameIs : PyData → Deed → Bool
  | .str z, q => decide (q.name = z)
  | _, _ => false
def deedD : Option Deed → PyData
  | none => .none
  | some q => q.toD
def deedOf (t : Task) (d : PyData) : Option Deed := t.deeds.find? (nameIs d)
theorem find_filter {α : Type} (p : α → Bool) (l : List α) : l.find? p = (l.filter p).head? := by
  induction l with
  | nil => rfl
  | cons a r ih =>
    rw [List.find?_cons, List.filter_cons]
    cases h : p a with
    | true => rfl
    | false => exact ih
section
variable {P : Program} {w : World} {K : PySem.W.Frag} {mg : Str → Option Value} {base : Heap} {f : Addr} {fd : FuncData}
def RWays (ds : List PyData) (d : PyData) : Prop := ∃ t : Task, ∃ st, ds = [t.toD, strsD st] ∧ t.Ok ∧ incr st = true ∧ st.length ≤ 12 ∧ d = .list ((waysOf t st).map (wayD st))
abbrev n22 : List Str := ["task", "state", "deed"]
theorem sc22 : FnScope n22 ["task", "state"] (defScope (topS 22)) := ⟨rfl, rfl, rfl, by decide +kernel, rfl, by decide +kernel, by decide +kernel⟩
theorem ok_ways (pc : Pu P w K mg base "can_do" 2 2 RCan) (pb : Pu P w K mg base "behind" 1 2 RBeh) (F : Fun K "ways" "ways" (topS 22) f fd) : FnOk P w K mg base CX0 3 f fd ["task", "state"] (PuSp 2 RWays) := by
  refine pu_ok (R := RWays) F sc22 fun cdv A outer s H0 E G H vs ds d hr sb ra hn hR => ?_
  obtain ⟨t, st, rfl, ht, h1, h2, rfl⟩ := hR
  obtain ⟨x0, _, rfl, r0, ra⟩ := ra.consE
  obtain ⟨x1, _, rfl, r1, ra⟩ := ra.consE
  obtain rfl := ra.nilE
  refine ws_ret (Rl := Ex) sb (g_lcTm t.deeds Deed.toD (canDo st) (wayD st) rfl sc22.nd (blkOk_by (own := [("deed", 2)]) (N := n22) (sc := defScope (topS 22)) (by decide +kernel)) (fun _ _ _ _ _ => pg_name (i := 2) sc22.nd rfl (Or.inl rfl))
    (g_ixT (g_var 0 rfl r0) g_int (atI_nat (j := 0) rfl)) (by have := ht.sm.few; omega) fun q v G1 hq e1 rv => ⟨fun _ _ _ _ _ => ?_, fun _ _ _ _ _ _ => ?_⟩) fun v' G4 H4 g4 r4 => ⟨G4, g4, r4⟩
  · exact gi_one (gt_val (g_call pc (hr.mono (by decide)) (ga_cons (g_var 1 rfl (r1.mono e1)) (ga_cons (g_var 2 rfl rv) ga_nil)) rfl ⟨st, q, rfl, ht.sm.gd q hq, rfl⟩))
  · exact g_tup (ga_cons (g_var 2 rfl rv) (ga_cons (g_call pb (hr.mono (by decide)) (ga_cons (g_var 1 rfl (r1.mono e1)) (ga_cons (g_var 2 rfl rv) ga_nil)) rfl ⟨st, q, rfl, h1, h2, ht.inc q hq, (ht.sm.gd q hq).n3.1, rfl⟩) ga_nil)) (by simp)
def RDeedOf (ds : List PyData) (d : PyData) : Prop := ∃ t : Task, ∃ v, ds = [t.toD, v] ∧ t.Sm ∧ sm v = true ∧ d = deedD (deedOf t v)
abbrev n24 : List Str := ["task", "name", "some", "deed"]
theorem sc24 : FnScope n24 ["task", "name"] (defScope (topS 24)) := ⟨rfl, rfl, rfl, by decide +kernel, rfl, by decide +kernel, by decide +kernel⟩
theorem ok_deed_of (B : Bt mg) (F : Fun K "deed_of" "deed_of" (topS 24) f fd) : FnOk P w K mg base CX0 1 f fd ["task", "name"] (PuSp 2 RDeedOf) := by
  refine pu_ok (R := RDeedOf) F sc24 fun cdv A outer s H0 E G H vs ds d hr sb ra hn hR => ?_
  obtain ⟨t, v, rfl, ht, hv, rfl⟩ := hR
  obtain ⟨x0, _, rfl, r0, ra⟩ := ra.consE
  obtain ⟨x1, _, rfl, r1, ra⟩ := ra.consE
  obtain rfl := ra.nilE
  have hu := Room.units hr
  refine ws_setLcTm (Rl := Ex) (i := 2) t.deeds Deed.toD (nameIs v) Deed.toD rfl sc24.nd rfl rfl (sw_true rfl rfl rfl (by decide +kernel)) (blkOk_by (own := [("deed", 3)]) (N := n24) (sc := defScope (topS 24)) (by decide +kernel)) (fun _ _ _ _ _ => pg_name (i := 3) sc24.nd rfl (Or.inl rfl)) sb
    (g_ixT (g_var 0 rfl r0) g_int (atI_nat (j := 0) rfl)) (by have := ht.few; omega) (fun q vq G1 hq e1 rv => ⟨fun _ _ _ _ _ => gi_one ?_, fun _ _ _ _ _ _ => g_var 3 rfl rv⟩) fun v2 G2 H2 g2 r2 => ?_
  · cases v with
    | str z => exact Gw.pt (gw_and (k := true) (gt_val (gd_is (g_isStr B (g_var 1 rfl (r1.mono e1))) rfl)) fun _ => gw_and1 (gt_is (gt_eq hu (shaped_str (ht.gd q hq).n.2) (shaped_str (sm_str.1 hv).2) (g_ixT (g_var 3 rfl rv) g_int (atI_nat (j := 0) rfl)) (g_var 1 rfl (r1.mono e1))) (by simp only [PyData.eqv, nameIs]; by_cases h : q.name = z <;> simp [h])))
    | _ => exact Gw.pt (gw_and (k := false) (k' := true) (gt_val (gd_is (g_isStr B (g_var 1 rfl (r1.mono e1))) rfl)) nofun)
  have hs : Sh 3 (.list ((t.deeds.filter (nameIs v)).map Deed.toD)) := sh_deedsL fun q hq => ht.gd q (List.mem_filter.mp hq).1
  unfold deedOf
  rw [find_filter]
  refine ws_ret (Rl := Ex) g2.sub (g_if (k := !((t.deeds.filter (nameIs v)).map Deed.toD).isEmpty) (gt_neNilD hu hs (by decide) (g_var 2 rfl r2)) (fun k => ?_) fun k => ?_) fun v' G4 H4 g4 r4 => ⟨G4, g2.trans g4, r4⟩
  · cases e : t.deeds.filter (nameIs v) with
    | nil => rw [e] at k; cases k
    | cons q r =>
      refine g_ixL (g_var 2 rfl r2) g_int ?_
      rw [e]
      exact atI_nat (j := 0) rfl
  · cases e : t.deeds.filter (nameIs v) with
    | nil => exact g_non
    | cons q r => rw [e] at k; cases k
/-- what names cost -/
def priceOf (t : Task) (ns : List Str) : Int := (ns.map fun z => match deedOf t (.str z) with | some q => q.price | none => 0).sum
def RPriceOf (ds : List PyData) (d : PyData) : Prop := ∃ t : Task, ∃ ns, ds = [t.toD, strsD ns] ∧ t.Sm ∧ (∀ z ∈ ns, (deedOf t (.str z)).isSome = true ∧ SOk z) ∧ ns.length ≤ 50 ∧ d = .int (priceOf t ns)
abbrev n28 : List Str := ["task", "names", "name"]
theorem sc28 : FnScope n28 ["task", "names"] (defScope (topS 28)) := ⟨rfl, rfl, rfl, by decide +kernel, rfl, by decide +kernel, by decide +kernel⟩
theorem filter_true {α : Type} (l : List α) : (l.filter fun _ => true) = l := by simp
theorem ok_price_of (B : Bt mg) (pd : Pu P w K mg base "deed_of" 1 2 RDeedOf) (F : Fun K "price_of" "price_of" (topS 28) f fd) : FnOk P w K mg base CX0 2 f fd ["task", "names"] (PuSp 2 RPriceOf) := by
  refine pu_ok (R := RPriceOf) F sc28 fun cdv A outer s H0 E G H vs ds d hr sb ra hn hR => ?_
  obtain ⟨t, ns, rfl, ht, hns, hl, rfl⟩ := hR
  obtain ⟨x0, _, rfl, r0, ra⟩ := ra.consE
  obtain ⟨x1, _, rfl, r1, ra⟩ := ra.consE
  obtain rfl := ra.nilE
  refine ws_ret (Rl := Ex) sb (g_sum rfl B.sum (ns := ns.map fun z => match deedOf t (.str z) with | some q => q.price | none => 0) (gd_is (g_lcTm ns PyData.str (fun _ => true) (fun z => .int (match deedOf t (.str z) with | some q => q.price | none => 0)) rfl sc28.nd (blkOk_by (own := [("name", 2)]) (N := n28) (sc := defScope (topS 28)) (by decide +kernel)) (fun _ _ _ _ _ => pg_name (i := 2) sc28.nd rfl (Or.inl rfl))
    (g_var 1 rfl r1) (by omega) fun z v G1 hz e1 rv => ⟨fun _ _ _ _ _ => gi_nil, fun _ _ _ _ _ _ => ?_⟩) ?_)) fun v' G4 H4 g4 r4 => ⟨G4, g4, r4⟩
  · obtain ⟨h1, h2⟩ := hns z hz
    cases e : deedOf t (.str z) with
    | none => rw [e] at h1; cases h1
    | some q => exact g_ixT (ds := [.str q.name, strsD q.needs, strsD q.bars, strsD q.adds, strsD q.strikes, .int q.price]) (gd_is (g_call pd (hr.mono (by decide)) (ga_cons (g_var 0 rfl (r0.mono e1)) (ga_cons (g_var 2 rfl rv) ga_nil)) rfl ⟨t, .str z, rfl, ht, sm_str.2 h2, rfl⟩) (by rw [e]; rfl)) g_int (atI_nat (j := 5) rfl)
  · rw [filter_true, List.map_map]; rfl
end
end WR
end
section
set_option Elab.async false
set_option linter.all false
set_option maxRecDepth 100000
set_option maxHeartbeats 1000000
/-! an own exception class below ValueError whose __init__ says super().__init__(m); self.f = x -/
namespace WR
open PySem PySem.Spec PySem.Calls PyProof.Rows L2
section
variable {prog : Program} {w : World} {A : Around} {E : Value → Shared → Prop} {h : Heap} {g : Array GenState} {d : Drawn} {t : Nat} {os : OsState}
/-- ValueError's __init__ bound to an exception, called -/
theorem call_mw {nm q : Str} {C N u e t0 : Addr} {bs bm : List Value} {hdct : Bool} {sn : List Str} {sub : List Value} {ab : Bool} {col : Option Bool} {dd : Option Addr} {k0 k1 k2 k3 k5 : Option Value} {rest : List Value} {Q : Value → Shared → Prop}
    (hC : h.get? C = some (excClassObj nm q C N bs bm hdct sn sub ab col dd k0 k1 k2 k3 k5 "ValueError.__new__")) (he : h.get? e = some (HandSPX.excO C t0)) (hu : h.get? u = some (W.kxs_mw "ValueError.__init__" e)) (hz : rest.length ≤ sizeLine)
    (hq : ∀ h' t1, (∀ b o, b ≠ e → h.get? b = some o → h'.get? b = some o) → h'.get? e = some (HandSPX.excO C t1) → Q .none ⟨h', g, d, t, os⟩) : wpAny (model prog w) A (call (.ref u) rest) Q E ⟨h, g, d, t, os⟩ := by
  have FB := F.excBase_ValueError
  refine wpAny_call (codeAny_of_tree ?_)
  show wpAny _ A.in1 (callAny (.ref u) ⟨rest, []⟩) _ _ _
  unfold callAny
  refine wpAny_bind (wpAny_load hu ?_)
  simp only [W.kxs_mw, show (Value.type "method-wrapper" == Value.type "method" || Value.type "method-wrapper" == Value.type "builtin_function_or_method" || Value.type "method-wrapper" == Value.type "method-wrapper") = true from by decide, if_true]
  refine W.KFB.if_so (by decide) (wpAny_bind (W.check_bound_init FB.toExcCallFacts hC he rfl (wpAny_bind (wpAny_pure (wpAny_pure ⟨plainId_quiet FB.init.plain _, codeAny_builtin FB.initEntry ?_⟩)))))
  exact W.exc_init_tree (cls := .ref C) (t0 := t0) (dv := none) (c2 := .none) (c3 := .none) (b4 := .bool false) he hz fun h' k e' _ => hq h' _ k e'
end
abbrev supEnv (q : Str) (scope : Scope) (L f : Addr) (cd : Value) (cc : Addr) : Env := PySem.W.ksEnv q scope L f cd cc
/-- the context of such an __init__'s body -/
def supCx (P : Program) (w : World) (K : PySem.W.Frag) (mg : Str → Option Value) (base : Heap) (N : List Str) (q : Str) (scope : Scope) (f : Addr) (cd : Value) (cc : Addr) (A : Around) (outer : List Env) (s : Shared) (H : Hp) : Cx where
  prog := P
  w := w
  K := K
  mg := mg
  base := base
  A := A.deeper (supEnv q scope s.heap.objs.size f cd cc)
  N := N
  s_0 := s
  H_0 := H
  env := supEnv q scope s.heap.objs.size f cd cc
  outer := outer
  stack := supEnv q scope s.heap.objs.size f cd cc :: outer
  ex := []
  fn := fun _ => false
  calm := true
  pn := []
  xe := fun _ _ => False
section
variable {P : Program} {w : World} {K : PySem.W.Frag} {mg : Str → Option Value} {base : Heap} {q : Str} {scope : Scope} {f cc : Addr} {cd : Value} {A : Around} {outer : List Env} {s : Shared} {H : Hp} {x0 x1 : Str}
theorem inv_sup {u0 u1 : Value} {v0 v1 : V} {h₁ : Heap} {tk : Nat} (hd : A.handled = none) (e0 : Env0 P w K mg base A outer s H) (hk : scope.kind = .function) (hx : x0 ≠ x1) (l0 : scope.names.lookup x0 = some .local) (l1 : scope.names.lookup x1 = some .local)
    (hfree : ∀ y, (scope.names.lookup y = some .cell ∨ scope.names.lookup y = some .free) → y = "__class__") (hcc : ∃ cl cld D csl, K.lookup cc = some ⟨cl, cld, .cell (some (.ref D)), csl⟩)
    (r0 : L2.RelV v0 u0) (r1 : L2.RelV v1 u1) (hns : h₁.Ns s.heap.objs.size fun y => ([x0, x1].zip [u0, u1]).reverse.lookup y) (kp : ∀ b o, s.heap.get? b = some o → h₁.get? b = some o) :
    Inv (supCx P w K mg base [x0, x1] q scope f cd cc A outer s H) [] (L2.start [x0, x1] [v0, v1]) H { s with heap := h₁, toks := tk } := by
  have noA : ∀ b : Addr, b ∉ (supCx P w K mg base [x0, x1] q scope f cd cc A outer s H).ex := fun b z => nomatch (show b ∈ ([] : List Addr) from z)
  have ccl : ∀ {y c}, ([(("__class__" : Str), cc)] : List (Str × Addr)).lookup y = some c → y = "__class__" ∧ c = cc := fun {y c} e => by
    have hm := PySem.mem_of_lookup e
    rcases List.mem_cons.mp hm with z | z
    · cases z; exact ⟨rfl, rfl⟩
    · cases z
  obtain ⟨cl, cld, D, csl, hK⟩ := hcc
  have hb : base.get? cc = some ⟨cl, cld, .cell (some (.ref D)), csl⟩ := e0.mod.kin _ _ hK
  have hsc := (e0.bs _ _ hb).1
  refine ⟨⟨e0.mod, hk, rfl, rfl, Nat.le_refl _, fun y z c e1 e2 => (ccl e1).1.trans (ccl e2).1.symm, fun y hy => ⟨cc, ?_⟩, fun y c z _ => ?_, fun _ => hd, Around.frames_deeper e0.frames, .inr ⟨rfl, rfl⟩, fun b z => absurd z (noA b), e0.bs, e0.bsz, fun b _ _ => noA b,
      fun b z => absurd z (noA b), e0.funs, e0.frf⟩,
    rfl, e0.bare, Un.kept kp, ⟨_, hns, fun i y v e1 e2 e3 => ?_⟩, fun y c e => ?_, e0.hok.fresh (Nat.le_refl _), fun y c e => ?_, (fun p hp => nomatch (show p ∈ ([] : List (Addr × Obj)) from hp)), e0.hok.kept kp, rfl⟩
  · rw [hfree y hy]; rfl
  · exact nomatch (show false = true from z)
  · match i with
    | 0 =>
      cases e1
      cases e2
      refine ⟨u0, r0, .inl ⟨l0, ?_⟩⟩
      show ([(x1, u1), (x0, u0)] : List (Str × Value)).lookup x0 = some u0
      have hn : (x0 == x1) = false := by simpa using hx
      simp [List.lookup, hn]
    | 1 =>
      cases e1
      cases e2
      refine ⟨u1, r1, .inl ⟨l1, ?_⟩⟩
      show ([(x1, u1), (x0, u0)] : List (Str × Value)).lookup x1 = some u1
      simp [List.lookup]
    | n + 2 => exact nomatch (show ([x0, x1] : List Str)[n + 2]? = some y from e1)
  · obtain ⟨_, rfl⟩ := ccl e
    exact ⟨_, _, kp _ _ hsc, rfl⟩
  · obtain ⟨_, rfl⟩ := ccl e
    exact (e0.bs _ _ hb).2
end
end WR
end
section
set_option Elab.async false
set_option linter.all false
set_option maxRecDepth 100000
set_option maxHeartbeats 1000000
namespace WR
open PySem PySem.Spec PySem.Calls PyProof.Rows L2
/-- what the written part says of a class and of its __init__ -/
structure SupK (K : PySem.W.Frag) (P : Program) (C f cda cc : Addr) : Prop where
  oex : OexC K C
  cod : ∃ cl d vs sl file tf, K.lookup cda = some ⟨cl, d, .fields vs, sl⟩ ∧ vs[2]? = some (.str file tf) ∧ ((P.main.file : Str) == file) = true
  cel : ∃ cl d sl, K.lookup cc = some ⟨cl, d, .cell (some (.ref C)), sl⟩
  self : PySem.W.mroIn K C (.ref C) = some true
  opq : PySem.W.nsIn K cStatics "thirdparty.any" = some none
  sup : PySem.W.ks_superIn K C C "__init__" = some (some (.builtin "ValueError.__init__"))
  ve : PySem.W.subIn K (.ref C) (.type "ValueError") = some true
  top : (P.main.scope.names.lookup ("super" : Str)).isSome = false
theorem boot_super : bootBuiltins "super" = some (.type "super") := PyProof.Rows.Boot.«super»
/-- super().__init__(m); self.f = x -/
def IniSp (K : PySem.W.Frag) (C : Addr) (fld : Str) (ok : V → Prop) : Sp := fun vs H Q _ => ∃ a y, vs = [.ref a, y] ∧ ok y ∧ H a = some (exo a C none) ∧ ∀ H1, Evl.Ex H H1 → ∀ dx, H1 dx = none → dx ≠ a → Q .non (upd (upd H1 dx (exd dx [(fld, y)])) a (exo a C (some dx)))
section
variable {P : Program} {w : World} {K : PySem.W.Frag} {mg : Str → Option Value} {base : Heap} {name qual : Str} {scope : Scope} {f cc C cda : Addr} {x0 x1 fld : Str} {params : Arguments} {dV kV doc pm cdv ct oc : Value} {an od : Option Addr} {osl : Array (Option Value)}
  {p0 p1 ap pos ep q1 q2 q3 q4 : Pos} {arg : Expr} {ar : Arg} {ok : V → Prop}
theorem ok_sup (T : SupK K P C f cda cc) (hm : mg "super" = none)
    (lk : K.lookup f = some ⟨oc, od, .func (PySem.W.ksFn name qual params [.Expr (.Call (.Attribute (.Call (.Name "super" p0) [] [] p1) "__init__" ap) [arg] [] pos) ep, .Assign [.Attribute (.Name x0 q1) fld q2] (.Name x1 q3) q4] scope dV kV doc pm an (.ref cda) ct cc), osl⟩)
    (hcd : PySem.W.codeIn K (.ref cda) qual = true) (hp : (params.posonlyargs ++ params.args).head? = some ar) (har : ar.arg = x0) (hx : x0 ≠ x1) (l0 : scope.names.lookup x0 = some .local) (l1 : scope.names.lookup x1 = some .local)
    (hks : scope.names.lookup ("super" : Str) = some .globalImplicit) (hkc : scope.names.lookup ("__class__" : Str) = some .free) (hk : scope.kind = .function) (hco : scope.isCoroutine = false) (hgen : scope.isGenerator = false) (hcell : ∀ y ∈ scope.names, y.2 ≠ .cell)
    (hfree : ∀ y, (scope.names.lookup y = some .cell ∨ scope.names.lookup y = some .free) → y = "__class__") (hno : PySem.W.findIn K (.ref C) fld = some none) (hd0 : (x0 == ("__debug__" : Str)) = false) (hd1 : (x1 == ("__debug__" : Str)) = false) (hc0 : (x0 == ("__classdict__" : Str)) = false) (hc1 : (x1 == ("__classdict__" : Str)) = false)
    (harg : ∀ (X : Cx) (σ : L2.St) (H : Hp) (y : V), X.env.scope = scope → X.N = [x0, x1] → σ[1]? = some (some y) → ok y → ∃ u, Gd Ex X σ (fun _ => none) arg (.str u))
    (hae : ∀ env : Env, starEach [arg] env = (false, eval arg env) :: starEach [] env)
    (hsw : ∀ env : Env, swapsWith (.Call (.Attribute (.Call (.Name "super" p0) [] [] p1) "__init__" ap) [arg] [] pos) none ep.line env = pure false)
    (hev : ∀ env : Env, ∃ pl, eval (.Call (.Attribute (.Call (.Name "super" p0) [] [] p1) "__init__" ap) [arg] [] pos) env = (do
      let ov ← attributeBase (.Call (.Name "super" p0) [] [] p1) "__init__" env (eval (.Call (.Name "super" p0) [] [] p1) env)
      standAt ap.atName
      let (f, first) ← holding [ov] (getMethod ov "__init__" pl)
      callWith pos f first (backTo pos (starEach [arg] env)) []))
    : FnOk P w K mg base CX0 1 f (PySem.W.ksFn name qual params [.Expr (.Call (.Attribute (.Call (.Name "super" p0) [] [] p1) "__init__" ap) [arg] [] pos) ep, .Assign [.Attribute (.Name x0 q1) fld q2] (.Name x1 q3) q4] scope dV kV doc pm an (.ref cda) ct cc) [x0, x1] (IniSp K C fld ok) := by
  refine ⟨fun vs H Q E h => by obtain ⟨a, y, rfl, _⟩ := h; rfl, fun A outer s H args us vs Q E hr e0 hb r hsp => ?_⟩
  obtain ⟨a, y, rfl, hy, ha, q⟩ := hsp
  cases r with | @cons _ u0 _ ur r0 r1 =>
  cases r1 with | @cons _ u1 _ ur2 r1 r2 =>
  cases r2
  obtain rfl : u0 = Value.ref a := r0
  have KX : K.In s.heap := e0.mod.kin.keeps fun b o e => (e0.bs b o e).1
  have lim : s.heap.NoLimit := e0.mod.nolimit.keeps fun b o e => (e0.bs b o e).1
  obtain ⟨mb, hb1, hb2⟩ := e0.mod.blt
  obtain ⟨cl0, cd0, sl0, hcel⟩ := T.cel
  obtain ⟨cl1, cd1, vs1, sl1, file, tf, hcod, hvs, hfile⟩ := T.cod
  obtain ⟨nm, qC, N, bs, bm, sn, sub, ab, col, dd, k0, k1, k2, k3, k5, hC, hbm⟩ := T.oex.cls
  refine ks_codeAny_call_defAt (fd := PySem.W.ksFn name qual params _ scope dV kV doc pm an (.ref cda) ct cc) (binds := [x0, x1].zip [Value.ref a, u1]) hr.depth (KX _ _ lk) rfl lim (PySem.W.codeRec_of KX hcd) rfl hb hcell (fun z hz => ?_) (fun h₁ hns kp => ?_) hco hgen hk
  · rcases List.mem_cons.mp hz with rfl | hz
    · exact l0
    · rcases List.mem_cons.mp hz with rfl | hz
      · exact l1
      · cases hz
  have I : Inv (supCx P w K mg base [x0, x1] qual scope f (.ref cda) cc A outer s H) [] (L2.start [x0, x1] [.ref a, y]) H { s with heap := h₁, toks := s.toks + 2 } :=
    inv_sup hr.hd e0 hk hx l0 l1 hfree ⟨_, _, _, _, hcel⟩ rfl r1 hns kp
  show PySem.wpAt (model P w) (A.deeper (supEnv qual scope s.heap.objs.size f (.ref cda) cc)) (.func _ (supEnv qual scope s.heap.objs.size f (.ref cda) cc)) _ _ _ _
  have K1 : K.In h₁ := KX.keeps kp
  obtain ⟨t1, hox⟩ := exo_at I.hok ha
  have hD := K1 _ _ hC
  obtain ⟨pl, hpl⟩ := hev (supEnv qual scope s.heap.objs.size f (.ref cda) cc)
  have hi : interactive (supEnv qual scope s.heap.objs.size f (.ref cda) cc) = false := by
    unfold interactive
    simp [hk]
  refine ks_wpAt_execs_cons (ks_wpAt_Expr_any (ks_wpAt_MethodCall ?_ hpl) hi (hsw _))
  refine ks_wpAt_super_base (f := f) (cc := cda) hks hkc (by decide) rfl (K1 _ _ lk) rfl hp rfl (K1 _ _ hcod) rfl hvs hfile T.top ?_
  refine PySem.W.ks_loadName_global hk hks (loadGlobal_builtin (mg := mg) (mb := mb) ?_ hm ?_ ((hb2 "super" (by decide)).trans boot_super) ⟨rfl, ?_⟩)
  · exact e0.mod.glob.keeps I.bk
  · exact hb1.keeps I.bk
  refine wpAny_loadName_free hk hkc rfl ⟨_, K1 _ _ hcel, rfl⟩ ?_
  rw [har]
  refine wpAny_loadName_local (v := .ref a) hk l0 hns ?_ ?_
  · show ([(x1, u1), (x0, Value.ref a)] : List (Str × Value)).lookup x0 = some (.ref a)
    have hn : (x0 == x1) = false := by simpa using hx
    simp [List.lookup, hn]
  refine ks_wpAny_isType_cls hD rfl ⟨rfl, ?_⟩
  refine ks_wpAny_call_super hD rfl hox rfl (fun c => nofun) (PySem.W.looks_mroIn K1 T.self) (fun h2 e2 k2 => ?_)
  have K2 : K.In h2 := K1.keeps k2
  have hcl : PySem.W.clsIn K C = some { name := nm, bases := bs, mro := .ref C :: bm, ns := N, qualname := qC, hasDict := true, slotNames := sn, subclasses := sub, abstract := ab, collection := col, hasDel := false } := by unfold PySem.W.clsIn; rw [hC] <;> rfl
  have hsup := T.sup
  unfold PySem.W.ks_superIn at hsup
  rw [hcl] at hsup
  have aC : a ≠ C := fun z => by rw [z, hD] at hox; cases hox
  have hIn : PySem.W.Looks (model P w) h2 (isInstance (.ref a) (.type "ValueError")) true := by
    have I2 : PySem.W.InstAt h2 a _ C none := ⟨k2 _ _ hox, rfl, rfl, trivial⟩
    exact I2.type.andThen (PySem.W.looks_subIn K2 T.ve)
  refine PySem.W.kxs_getMethod PySem.W.kxs_ValueError e2 (PySem.W.looks_opaque K2 T.opq) ((PySem.W.looks_clsIn K2 hcl).andThen .now) rfl K2 hsup hIn aC (by decide) ?_
  -- the method-wrapper, pinned
  have ge1 : h₁.objs.size < h2.objs.size := Heap.lt_size e2
  have kk : ∀ b o, h₁.get? b = some o → (h2.push (PySem.W.kxs_mw "ValueError.__init__" a)).get? b = some o := fun b o e => Heap.get?_push_of_some _ (k2 _ _ e)
  have hu2 : (h2.push (PySem.W.kxs_mw "ValueError.__init__" a)).get? h2.objs.size = some (PySem.W.kxs_mw "ValueError.__init__" a) := Heap.get?_push_size _ rfl
  have J0 : Inv (supCx P w K mg base [x0, x1] qual scope f (.ref cda) cc A outer s H) [(h2.objs.size, PySem.W.kxs_mw "ValueError.__init__" a)] (L2.start [x0, x1] [.ref a, y]) H { s with heap := h2.push (PySem.W.kxs_mw "ValueError.__init__" a), toks := s.toks + 2 + 1 } := by
    refine Inv.pins_of (I.kept (t' := s.toks + 2 + 1) kk) fun p hp => ?_
    rcases List.mem_cons.mp hp with rfl | hp
    · refine ⟨hu2, I.hok.fresh (Nat.le_of_lt ge1), fun z => ?_, I.nofs (Nat.le_of_lt ge1), fun v => nofun⟩
      have h3 := I.lt
      rw [← z] at h3
      exact Nat.lt_irrefl _ (Nat.lt_trans ge1 h3)
    · cases hp
  show wpAny (model P w) _ (callWith pos (.ref h2.objs.size) [] (backTo pos (starEach [arg] (supEnv qual scope s.heap.objs.size f (.ref cda) cc))) []) _ _ _
  obtain ⟨m, hG⟩ := harg (supCx P w K mg base [x0, x1] qual scope f (.ref cda) cc A outer s H) (L2.start [x0, x1] [.ref a, y]) H y rfl rfl rfl hy
  have hA : PA (supCx P w K mg base [x0, x1] qual scope f (.ref cda) cc A outer s H) [arg] (tCons (WE _ arg) tNil) := pa_cons pe_w pa_nil (hae _)
  have sb : Sub (fun _ => none) H := ⟨fun b o e => (by cases e), fun b ps => nofun⟩
  have hrun := hA.run pos _ _ _ H (fun vs H1 => vs = [.str m] ∧ Evl.Ex H H1) J0 (hG _ (Evl.Ex.refl _) H sb _ fun v G' H1 g rv => ⟨by rw [rv.strE], g.rl⟩)
  rw [hae] at hrun ⊢
  refine PySem.W.kxs_callWith (i := "ValueError.__init__") (x := a) rfl (evalArgs_plain (wpAny_mono hrun (fun us s3 h3 => ?_) fun _ _ z => z.elim))
  obtain ⟨vs, H1, I3, rvs, rfl, hex⟩ := h3
  have ea : H1 a = some (exo a C none) := hex _ _ ha
  obtain ⟨t3, ho3⟩ := exo_at I3.hok ea
  have hu3 := (I3.pin (h2.objs.size, PySem.W.kxs_mw "ValueError.__init__" a) (List.mem_append_right _ List.mem_cons_self)).1
  refine ⟨hu3, ?_⟩
  have hus : us.length ≤ sizeLine := by
    rw [← rvs.length, sizeLine_eq]
    show 1 ≤ 16777216
    omega
  obtain ⟨hp3, g3, d3, tk3, os3⟩ := s3
  refine call_mw (I3.kIn _ _ hC) ho3 hu3 (by rw [List.nil_append]; exact hus) fun h' t4 k4 hx4 => ?_
  have J4 := I3.write (t' := tk3) (x := a) (e := a) (o := exo a C none) (by rw [ea]; exact True.intro) (.inl rfl) k4 ⟨_, hx4⟩ (exo_ok hx4)
  have eu : upd H1 a (exo a C none) = H1 := by
    funext b
    by_cases hb : b = a
    · rw [hb, upd_same, ea]
    · rw [upd_ne hb]
  rw [eu] at J4
  refine wpAt_of_wpAny ?_
  have hS : PSs (supCx P w K mg base [x0, x1] qual scope f (.ref cda) cc A outer s H) [.Assign [.Attribute (.Name x0 q1) fld q2] (.Name x1 q3) q4] _ :=
    pss_one (ps_ost (pe_var (i := 0) rfl (Or.inl l0) hd0 hc0) (pe_var (i := 1) rfl (Or.inl l1) hd1 hc1))
  have hrd := hS.run _ _ _ H1 { nx := fun _ H' => Q .non H', rt := Q } J4 ⟨y, rfl, .ref a, rfl, a, C, rfl, T.oex, hno, .inl ⟨ea, fun dx h1 h2 => q H1 hex dx h1 h2⟩⟩
  refine wpAny_mono hrd (fun fl s' hs => ?_) fun _ _ z => z.elim
  have fin : ∀ {pins : List (Addr × Obj)} {σ' : L2.St} {H' : Hp} {v : V} {u : Value}, Inv (supCx P w K mg base [x0, x1] qual scope f (.ref cda) cc A outer s H) pins σ' H' s' → L2.RelV v u → Q v H' → CE outer P w H s Q u s' :=
    fun J rv q => ⟨_, _, J.os, J.bare, J.base, J.hok, rv, q⟩
  cases fl with
  | ret u =>
    obtain ⟨v, σ', H', J, rv, q⟩ := hs
    exact fin J rv q
  | next =>
    obtain ⟨σ', H', J, q⟩ := hs
    exact fin (v := V.non) (u := Value.none) J rfl q
  | brk =>
    obtain ⟨_, _, _, q⟩ := hs
    exact q.elim
  | cont =>
    obtain ⟨_, _, _, q⟩ := hs
    exact q.elim
end
end WR
end
section
set_option Elab.async false
set_option linter.all false
set_option maxRecDepth 100000
set_option maxHeartbeats 1000000
/-! defs that raise -/
namespace WR
open PySem PySem.Spec PySem.Calls PyProof.Rows L2
structure Clss where
  task : Addr
  deed : Addr
  state : Addr
inductive Bad
  | task (w : Str)
  | deed (i : Option Nat)
  | state
def ixV : Option Nat → V
  | none => .non
  | some i => .int (i : Int)
abbrev Out := Except Bad PyData
/-- how an exception that is told lies -/
def BadAt (c : Clss) : Bad → Value → Option Addr → Hp → Prop
  | .task w, cls, d, H => cls = .ref c.task ∧ ∃ dx, d = some dx ∧ H dx = some (.xd [("word", .str w)])
  | .deed i, cls, d, H => cls = .ref c.deed ∧ ∃ dx, d = some dx ∧ H dx = some (.xd [("index", ixV i)])
  | .state, cls, d, H => cls = .ref c.state ∧ d = none
/-- what is wanted of an exception told -/
abbrev BadK (c : Clss) (G H : Hp) (E : XK) (b : Bad) : Prop := ∀ cls dx G' H', Gr Ex G H G' H' → BadAt c b cls dx H' → E cls dx H'
def OutK (c : Clss) (G H : Hp) (Q : VK) (E : XK) : Out → Prop
  | .ok d => ∀ v G' H', Gr Ex G H G' H' → Rp G' v d → Q v H'
  | .error b => BadK c G H E b
def RaSp (c : Clss) (n : Nat) (R : List PyData → Out → Prop) : Sp := fun vs H Q E => vs.length = n ∧ ∃ G ds o, Sub G H ∧ RpAll G vs ds ∧ R ds o ∧ OutK c G H Q E o
/-- the module's name x is a def that keeps this promise -/
structure Ra (P : Program) (w : World) (K : PySem.W.Frag) (mg : Str → Option Value) (base : Heap) (c : Clss) (x : Str) (k n : Nat) (R : List PyData → Out → Prop) : Prop where
  ex : ∃ f fd ps, FnOk P w K mg base (L2.CX P w) k f fd ps (RaSp c n R) ∧ mg x = some (.ref f) ∧ PySem.W.keepIn K (.ref f) = true ∧ Binds K fd ps []
abbrev xX (P : Program) (w : World) (K : PySem.W.Frag) (mg : Str → Option Value) (base : Heap) (N : List Str) (qual : Str) (sc : Scope) (f : Addr) (cdv : Value) (A : Around) (outer : List Env) (s : Shared) (H : Hp) (E : XK) : Cx := cxOf (L2.CX P w) P w K mg base N qual sc f cdv A outer s H E
def BackO (G H : Hp) (o : Out) : Ends := { nx := fun _ H' => o = .ok .none ∧ ∃ G', Gr Ex G H G' H', rt := fun v H' => ∃ d G', o = .ok d ∧ Gr Ex G H G' H' ∧ Rp G' v d }
def ErrO (c : Clss) (G H : Hp) (o : Out) : XK := fun cls dx H' => ∃ b G', o = .error b ∧ Gr Ex G H G' H' ∧ BadAt c b cls dx H'
abbrev WE0 (E : XK) : WX := fun cls d _ H => E cls d H
section
variable {P : Program} {w : World} {K : PySem.W.Frag} {mg : Str → Option Value} {base : Heap} {c : Clss}
theorem ra_ok {x qual : Str} {st : Stmt} {f : Addr} {fd : FuncData} {N ps : List Str} {k : Nat} {R : List PyData → Out → Prop} (F : Fun K x qual st f fd) (S : FnScope N ps (defScope st))
    (hbody : ∀ (cdv : Value) (A : Around) (outer : List Env) (s : Shared) (H0 : Hp) (E : XK) (G H : Hp) (vs : List V) (ds : List PyData) (o : Out), Room k (xX P w K mg base N qual (defScope st) f cdv A outer s H0 E).A → Takes (xX P w K mg base N qual (defScope st) f cdv A outer s H0 E) (WE0 (ErrO c G H o)) →
      PassesOwn (model P w) (xX P w K mg base N qual (defScope st) f cdv A outer s H0 E).A (xX P w K mg base N qual (defScope st) f cdv A outer s H0 E).env (xX P w K mg base N qual (defScope st) f cdv A outer s H0 E).xe → Sub G H → RpAll G vs ds → ds.length = ps.length → R ds o →
      Ws (xX P w K mg base N qual (defScope st) f cdv A outer s H0 E) (defBody st) (BackO G H o) (start N vs) H) : FnOk P w K mg base (L2.CX P w) (k + 1) f fd ps (RaSp c ps.length R) := by
  refine F.okX S (fun vs H Q E h => h.1) fun cdv A outer s H vs Q E hr h => ⟨_, pss_w, ?_⟩
  obtain ⟨hl, G, ds, o, sub, ra, hR, q⟩ := h
  have tk : Takes (xX P w K mg base N qual (defScope st) f cdv A outer s H E) (WE0 E) := takes_of rfl rfl rfl rfl
  refine ws_mono (hbody cdv A outer s H E G H vs ds o hr (tk.imp fun cls d _ H' z => ?_) (passes_of rfl) sub ra (by rw [← ra.len]; exact hl) hR) (fun _ H' z => ?_) (fun v H' z => ?_) (fun _ _ z => z.elim) fun _ _ z => z.elim
  · obtain ⟨b, G', rfl, g, z⟩ := z
    exact q _ _ _ _ g z
  · obtain ⟨rfl, G', g⟩ := z
    exact q _ _ _ g .non
  · obtain ⟨d, G', rfl, g, r⟩ := z
    exact q _ _ _ g r
end
/-! ### what raises -/
/-- e raises b -/
def Gf (c : Clss) (E : XK) (X : Cx) (σ : L2.St) (G : Hp) (e : Expr) (b : Bad) : Prop := ∀ G1 H, Ex G G1 → Sub G1 H → BadK c G1 H E b → ∀ Q, WE X e σ H Q
section
variable {X : Cx} {σ : L2.St} {G : Hp} {c : Clss} {E : XK} {b : Bad} {x : Str} {k n : Nat} {R : List PyData → Out → Prop} {e a : Expr} {es : List Expr} {ds : List PyData} {d : PyData} {p p2 pos : Pos} {H : Hp} {D : Ends} {rest : List Stmt} {i : Nat}
theorem passE (tk : Takes X (WE0 E)) : Passes (L2.CX X.prog X.w) X E := passes_call tk fun _ _ _ _ h => h
/-- a call that ends well -/
theorem g_callX {Rl : Hp → Hp → Prop} [RlOk Rl] (ra : Ra X.prog X.w X.K X.mg X.base c x k n R) (hr : Room k X.A)
    (ha : Ga Rl X σ G (e :: es) ds) (hn : ds.length = n) (hR : R ds (.ok d)) (hg : Gl X x := by rfl) (hdb : (x == ("__debug__" : Str)) = false := by decide)
    (he : starEach (e :: es) X.env = (false, eval e X.env) :: starEach es X.env := by rfl) (hpl : (backTo pos (starEach es X.env)).any (·.1) = false := by rfl) : Gd Rl X σ G (.Call (.Name x p) (e :: es) [] pos) d := by
  obtain ⟨f, fd, ps, F, hm, hk, hb⟩ := ra.ex
  refine .of (pe_call F hr hg hm hk hb .nil passL pa_w hdb he hpl) fun G1 x H s Q q => ha G1 x H s _ fun vs G2 H2 e2 rs => ?_
  refine ⟨by rw [List.append_nil, rs.len]; exact hn, G2, ds, .ok d, e2.sub, by rw [List.append_nil]; exact rs, hR, fun v G3 H3 g r => q v G3 H3 (e2.trans g.ofEx) r⟩
/-- a call that raises -/
theorem gf_call (ra : Ra X.prog X.w X.K X.mg X.base c x k n R) (hr : Room k X.A) (tk : Passes (L2.CX X.prog X.w) X E)
    (ha : Ga Ex X σ G (e :: es) ds) (hn : ds.length = n) (hR : R ds (.error b)) (hg : Gl X x := by rfl) (hdb : (x == ("__debug__" : Str)) = false := by decide)
    (he : starEach (e :: es) X.env = (false, eval e X.env) :: starEach es X.env := by rfl) (hpl : (backTo pos (starEach es X.env)).any (·.1) = false := by rfl) : Gf c E X σ G (.Call (.Name x p) (e :: es) [] pos) b := by
  obtain ⟨f, fd, ps, F, hm, hk, hb⟩ := ra.ex
  refine fun G1 H x1 s hE Q pins sh I => (pe_call (p := p) (pos := pos) F hr hg hm hk hb .nil tk pa_w hdb he hpl).run pins sh σ H Q I (ha G1 x1 H s _ fun vs G2 H2 e2 rs => ?_)
  exact ⟨by rw [List.append_nil, rs.len]; exact hn, G2, ds, .error b, e2.sub, by rw [List.append_nil]; exact rs, hR, fun cls dx G' H' g z => hE cls dx G' H' (e2.trans g) z⟩
/-- tuple(e), e raises -/
theorem gf_tuple (hm : X.mg "tuple" = none) (ha : Gf c E X σ G a b) (hg : Gl X "tuple" := by rfl) (he : starEach [a] X.env = (false, eval a X.env) :: starEach [] X.env := by rfl) : Gf c E X σ G (.Call (.Name "tuple" p) [a] [] pos) b :=
  fun G1 H x1 s hE Q pins sh I => (pe_callTy (p := p) (pos := pos) call_tuple_of hg hm (by decide +kernel) (pa_cons pe_w pa_nil he) (by decide) (by decide) he rfl).run pins sh σ H Q I (ha G1 H x1 s hE _)
/-- e[i], e raises -/
theorem gf_ix (ha : Gf c E X σ G e b) (hs : PlainIx a := by exact fun _ _ => rfl) : Gf c E X σ G (.Subscript e a pos) b :=
  fun G1 H x1 s hE Q pins sh I => (pe_ix (pos := pos) ix_list pe_w pe_w hs).run pins sh σ H Q I (ha G1 H x1 s hE _)
/-- a call whose first argument raises -/
theorem gf_arg {R : List PyData → PyData → Prop} (pu : Pu X.prog X.w X.K X.mg X.base x k n R) (hr : Room k X.A) (ha : Gf c E X σ G e b) (hg : Gl X x := by rfl) (hdb : (x == ("__debug__" : Str)) = false := by decide)
    (he : starEach (e :: es) X.env = (false, eval e X.env) :: starEach es X.env := by rfl) (hpl : (backTo pos (starEach es X.env)).any (·.1) = false := by rfl) : Gf c E X σ G (.Call (.Name x p) (e :: es) [] pos) b := by
  obtain ⟨f, fd, ps, F, hm, hk, hb⟩ := pu.ex
  exact fun G1 H x1 s hE Q pins sh I => (pe_call (p := p) (pos := pos) F hr hg hm hk hb .nil pass0 (pa_cons pe_w pa_w he) hdb he hpl).run pins sh σ H Q I (ha G1 H x1 s hE _)
theorem ws_exprF (sb : Sub G H) (he : Gf c E X σ G e b) (hE : BadK c G H E b) (hs : swapsWith e none pos.line X.env = pure false := by rfl) : Ws X (.Expr e pos :: rest) D σ H :=
  ws_of (pss_cons (ps_expr pe_w hs) pss_w) (he G H (Evl.Ex.refl G) sb hE _)
theorem ws_retF (sb : Sub G H) (he : Gf c E X σ G e b) (hE : BadK c G H E b) : Ws X (.Return (some e) pos :: rest) D σ H :=
  ws_of (pss_cons (ps_ret pe_w) pss_w) (he G H (Evl.Ex.refl G) sb hE _)
/-- raise C(e), C an own class as in E2 -/
theorem ws_raise1 {C f cda cc : Addr} {fld : Str} {fd : FuncData} {ps : List Str} {ok : V → Prop} {ppos : Pos} (hc : X.calm = true) (tk : Takes X (WE0 E)) (T : SupK X.K X.prog C f cda cc) (iC : PySem.W.findIn X.K (.ref C) "__init__" = some (some (.ref f))) (tI : PySem.W.typeIn X.K (.ref f) = some (.type "function"))
    (F1 : FnOk X.prog X.w X.K X.mg X.base CX0 1 f fd ps (IniSp X.K C fld ok)) (hr : Room 2 X.A) (hb : Binds X.K fd ps []) (hm : X.mg x = some (.ref C)) (sb : Sub G H) (ha : Gd Ex X σ G e d) (hok : ∀ v G', Rp G' v d → ok v)
    (hE : ∀ v dx G' H', Gr Ex G H G' H' → Rp G' v d → H' dx = some (.xd [(fld, v)]) → E (.ref C) (some dx) H') (hg : Gl X x := by rfl) (hdb : (x == ("__debug__" : Str)) = false := by decide)
    (he : starEach [e] X.env = (false, eval e X.env) :: starEach [] X.env := by rfl) : Ws X (.Raise (some (.Call (.Name x p) [e] [] pos)) none ppos :: rest) D σ H := by
  refine ws_of (pss_cons (ps_raise hc tk (pmk_oex (p := p) (pos := pos) T.oex iC tI F1 hr hb .nil pass0 hg hm (pa_cons pe_w pa_nil he) hdb he rfl)) pss_w) (ha G (Evl.Ex.refl G) H sb _ fun v G1 H1 g1 rv => ?_)
  refine ⟨by simp, fun a na => ⟨a, v, by simp, hok v G1 rv, upd_same, fun H2 ex2 dx nd hne => ⟨rfl, dx, [(fld, v)], ?_, ?_, ?_, ?_⟩⟩⟩
  · rw [upd_same]
  · rw [upd_ne hne, upd_same]
  · have h2 : ∀ b o, b ≠ a → H1 b = some o → H2 b = some o := fun b o hb e => ex2 b o (by rw [upd_ne hb]; exact e)
    cases q : H1 dx with
    | none => rfl
    | some o =>
      have := h2 dx o hne q
      rw [nd] at this
      cases this
  · have ex : Evl.Ex H1 (upd (del (upd (upd H2 dx (exd dx [(fld, v)])) a (exo a C (some dx))) a) dx (.xd [(fld, v)])) := fun b o e => by
      have hba : b ≠ a := fun z => by rw [z, na] at e; cases e
      have e2 : H2 b = some o := ex2 b o (by rw [upd_ne hba]; exact e)
      have hbd : b ≠ dx := fun z => by rw [z, nd] at e2; cases e2
      rw [upd_ne hbd, del_ne hba, upd_ne hba, upd_ne hbd]
      exact e2
    exact hE v dx G1 _ (g1.trans (Gr.of_rl g1.sub ex)) rv upd_same
end
end WR
end
section
set_option Elab.async false
set_option linter.all false
set_option maxRecDepth 100000
set_option maxHeartbeats 1000000
namespace WR
open PySem PySem.Spec PySem.Calls PyProof.Rows L2
section
variable {X : Cx} {C : Addr} {bmB : List Value} {B newId initId : String} {x : Str} {p pos ppos : Pos} {σ : L2.St} {G H : Hp} {c : Clss} {E : XK} {D : Ends} {rest : List Stmt}
/-- C(), an own exception class without an own __init__ -/
theorem pmk_own0 (F : ExcBaseFacts B newId initId bmB) (q : PySem.W.excIn X.K C bmB newId = true) (gC : X.mg x = some (.ref C)) (kC : PySem.W.keepIn X.K (.ref C) = true) (r : Raises X (.ref C)) (hg : Gl X x) (hdb : (x == ("__debug__" : Str)) = false := by decide) :
    PMk X (.Call (.Name x p) [] [] pos) (fun _ H Q => Q (.ref C) none H) := by
  intro pins s σ H Q I h
  refine wpAny_Call_Name_kw (ld_glob I hg gC ?_ hdb)
  show wpAny _ _ (callWith pos (.ref C) [] (backTo pos (starEach [] X.env)) []) _ _ _
  refine PySem.W.callWith_K0 I.kIn kC ?_
  show wpAny _ _ (call (.ref C) []) _ _ _
  obtain ⟨bm, N, nm, qn, bs, hdct, sn, sub, ab, col, dd, k0, k1, k2, k3, k5, mN, hC, hN, hni, T⟩ := exc_obj I.kIn q
  obtain ⟨hp, g, d, tk, os⟩ := s
  exact wpAny_call_exc_subT F T hC hN hni (fun h' e hm => mk_of I hm r h (I.hok.gone hm.new)) (by show 0 ≤ sizeLine; exact Nat.zero_le _)
/-- raise C() -/
theorem ws_raise0 (hc : X.calm = true) (tk : Takes X (WE0 E)) (F : ExcBaseFacts B newId initId bmB) (q : PySem.W.excIn X.K C bmB newId = true) (gC : X.mg x = some (.ref C)) (kC : PySem.W.keepIn X.K (.ref C) = true) (r : Raises X (.ref C)) (hE : E (.ref C) none H) (hg : Gl X x := by rfl)
    (hdb : (x == ("__debug__" : Str)) = false := by decide) : Ws X (.Raise (some (.Call (.Name x p) [] [] pos)) none ppos :: rest) D σ H :=
  ws_of (pss_cons (ps_raise hc tk (pmk_own0 F q gC kC r hg hdb)) pss_w) hE
end
/-- the three classes, as the module holds them -/
structure ClsOk (P : Program) (w : World) (K : PySem.W.Frag) (mg : Str → Option Value) (base : Heap) (c : Clss) : Prop where
  gT : mg "BadTask" = some (.ref c.task)
  gD : mg "BadDeed" = some (.ref c.deed)
  gS : mg "BadState" = some (.ref c.state)
  t : ∃ f cda cc fd ps, SupK K P c.task f cda cc ∧ PySem.W.findIn K (.ref c.task) "__init__" = some (some (.ref f)) ∧ PySem.W.typeIn K (.ref f) = some (.type "function") ∧ FnOk P w K mg base CX0 1 f fd ps (IniSp K c.task "word" fun v => ∃ z : Str, v = .str z ∧ z.length ≤ 1000) ∧ Binds K fd ps []
  d : ∃ f cda cc fd ps, SupK K P c.deed f cda cc ∧ PySem.W.findIn K (.ref c.deed) "__init__" = some (some (.ref f)) ∧ PySem.W.typeIn K (.ref f) = some (.type "function") ∧ FnOk P w K mg base CX0 1 f fd ps (IniSp K c.deed "index" fun _ => True) ∧ Binds K fd ps []
  s : PySem.W.excIn K c.state HandSPX.veTail "ValueError.__new__" = true
  sk : PySem.W.keepIn K (.ref c.state) = true
  sr : PySem.W.subIn K (.ref c.state) (.type "BaseException") = some true
  st : PySem.W.typeIn K (.ref c.state) = some (.type "type")
  mTT : PySem.W.exmOne K (.ref c.task) (.ref c.task) = some true
  mDT : PySem.W.exmOne K (.ref c.deed) (.ref c.task) = some false
  mDD : PySem.W.exmOne K (.ref c.deed) (.ref c.deed) = some true
  mST : PySem.W.exmOne K (.ref c.state) (.ref c.task) = some false
  mSD : PySem.W.exmOne K (.ref c.state) (.ref c.deed) = some false
  mSS : PySem.W.exmOne K (.ref c.state) (.ref c.state) = some true
  xT : XfC K c.task
  xD : XfC K c.deed
  nT : PySem.W.findIn K (.ref c.task) "word" = some none
  nD : PySem.W.findIn K (.ref c.deed) "index" = some none
section
variable {X : Cx} {x : Str} {e : Expr} {p pos ppos : Pos} {σ : L2.St} {G H : Hp} {c : Clss} {o : Out} {G0 H0 : Hp} {D : Ends} {rest : List Stmt}
theorem ws_raiseT {z : Str} (hc : X.calm = true) (C : ClsOk X.prog X.w X.K X.mg X.base c) (tk : Takes X (WE0 (ErrO c G0 H0 (.error (.task z))))) (hr : Room 2 X.A) (g : Gr Ex G0 H0 G H) (hz : z.length ≤ 1000) (ha : Gd Ex X σ G e (.str z)) (hg : Gl X "BadTask" := by rfl)
    (he : starEach [e] X.env = (false, eval e X.env) :: starEach [] X.env := by rfl) : Ws X (.Raise (some (.Call (.Name "BadTask" p) [e] [] pos)) none ppos :: rest) D σ H := by
  obtain ⟨f, cda, cc, fd, ps, T, iC, tI, F1, hb⟩ := C.t
  exact ws_raise1 hc tk T iC tI F1 hr hb C.gT g.sub ha (fun v G' r => ⟨z, r.strE, hz⟩) (fun v dx G' H' g2 r hx => ⟨_, G', rfl, g.trans g2, rfl, dx, rfl, by rw [hx, r.strE]⟩) hg (by decide) he
theorem ws_raiseD {d : PyData} {i : Option Nat} (hc : X.calm = true) (C : ClsOk X.prog X.w X.K X.mg X.base c) (tk : Takes X (WE0 (ErrO c G0 H0 (.error (.deed i))))) (hr : Room 2 X.A) (g : Gr Ex G0 H0 G H) (ha : Gd Ex X σ G e d) (hd : ∀ G v, Rp G v d → v = ixV i) (hg : Gl X "BadDeed" := by rfl)
    (he : starEach [e] X.env = (false, eval e X.env) :: starEach [] X.env := by rfl) : Ws X (.Raise (some (.Call (.Name "BadDeed" p) [e] [] pos)) none ppos :: rest) D σ H := by
  obtain ⟨f, cda, cc, fd, ps, T, iC, tI, F1, hb⟩ := C.d
  exact ws_raise1 hc tk T iC tI F1 hr hb C.gD g.sub ha (fun v G' r => trivial) (fun v dx G' H' g2 r hx => ⟨_, G', rfl, g.trans g2, rfl, dx, rfl, by rw [hx, hd _ _ r]⟩) hg (by decide) he
theorem ws_raiseS (hc : X.calm = true) (C : ClsOk X.prog X.w X.K X.mg X.base c) (tk : Takes X (WE0 (ErrO c G0 H0 (.error .state)))) (g : Gr Ex G0 H0 G H) (hg : Gl X "BadState" := by rfl) : Ws X (.Raise (some (.Call (.Name "BadState" p) [] [] pos)) none ppos :: rest) D σ H :=
  ws_raise0 hc tk F.excBase_ValueError C.s C.gS C.sk (raises_own C.sr C.st) ⟨_, G, rfl, g, rfl, rfl⟩ hg
end
end WR
end
section
set_option Elab.async false
set_option linter.all false
set_option maxRecDepth 100000
/-! plain: states, steps, rows of names -/
namespace WR
open PySem
theorem nodup_len : ∀ {a b : List Str}, a.Nodup → (∀ z ∈ a, z ∈ b) → a.length ≤ b.length
  | [], _, _, _ => Nat.zero_le _
  | x :: s, b, hn, hs => by
    have hx := hs x List.mem_cons_self
    obtain ⟨h1, h2⟩ := List.nodup_cons.mp hn
    have h := nodup_len (a := s) (b := b.erase x) h2 fun z hz => (List.mem_erase_of_ne (fun (e : z = x) => h1 (e ▸ hz))).mpr (hs z (List.mem_cons_of_mem _ hz))
    rw [List.length_erase_of_mem hx] at h
    have := List.length_pos_of_mem hx
    rw [List.length_cons]
    omega
/-- a state of t -/
structure StIn (t : Task) (st : List Str) : Prop where
  inc : incr st = true
  sub : ∀ z ∈ st, z ∈ t.facts
theorem facts_mem {t : Task} {z : Str} : z ∈ t.facts ↔ z ∈ t.bg ∨ z ∈ t.wish ∨ ∃ q ∈ t.deeds, z ∈ q.needs ∨ z ∈ q.bars ∨ z ∈ q.adds ∨ z ∈ q.strikes := by
  unfold Task.facts Task.met
  rw [sd_mem]
  simp only [List.mem_append, List.mem_flatMap, or_assoc]
theorem StIn.few {t : Task} {st : List Str} (g : t.Good) (h : StIn t st) : st.length ≤ 10 := Nat.le_trans (nodup_len (incr_nodup h.inc) h.sub) g.ff
theorem StIn.few12 {t : Task} {st : List Str} (g : t.Good) (h : StIn t st) : st.length ≤ 12 := Nat.le_trans (h.few g) (by decide)
theorem facts_ok {t : Task} (h : t.Sm) : ∀ z ∈ t.facts, SOk z := fun z hz => by
  rcases facts_mem.mp hz with h1 | h1 | ⟨q, hq, h1 | h1 | h1 | h1⟩
  · exact h.b.2 z h1
  · exact h.w.2 z h1
  · exact (h.gd q hq).n1.2 z h1
  · exact (h.gd q hq).n2.2 z h1
  · exact (h.gd q hq).n3.2 z h1
  · exact (h.gd q hq).n4.2 z h1
theorem StIn.ok {t : Task} {st : List Str} (h : t.Sm) (s : StIn t st) : ∀ z ∈ st, SOk z := fun z hz => facts_ok h z (s.sub z hz)
theorem StIn.lok {t : Task} {st : List Str} (g : t.Good) (h : t.Sm) (s : StIn t st) : LOk st := ⟨Nat.le_trans (s.few g) (by decide), s.ok h⟩
theorem stIn_bg {t : Task} (g : t.Good) : StIn t t.bg := ⟨g.b2, fun z hz => facts_mem.mpr (.inl hz)⟩
theorem stIn_beh {t : Task} {st : List Str} {q : Deed} (g : t.Good) (s : StIn t st) (hq : q ∈ t.deeds) : StIn t (behindS st q) := by
  refine ⟨sd_incr _, fun z hz => ?_⟩
  rcases List.mem_append.mp (sd_mem.mp hz) with h | h
  · exact s.sub z (List.mem_filter.mp h).1
  · exact facts_mem.mpr (.inr (.inr ⟨q, hq, .inr (.inr (.inl h))⟩))
theorem deedOf_mem {t : Task} {n : PyData} {q : Deed} (h : deedOf t n = some q) : q ∈ t.deeds := List.mem_of_find?_eq_some h
/-- one step by a name -/
def stepOf (t : Task) (st : List Str) (n : PyData) : Option (List Str) := match deedOf t n with
  | none => none
  | some q => if canDo st q = true then some (behindS st q) else none
theorem stepOf_in {t : Task} {st st' : List Str} {n : PyData} (g : t.Good) (s : StIn t st) (h : stepOf t st n = some st') : StIn t st' := by
  unfold stepOf at h
  split at h
  · cases h
  · rename_i q e
    split at h
    · cases h
      exact stIn_beh g s (deedOf_mem e)
    · cases h
def goFrom (t : Task) (st : List Str) : List PyData → Option (List Str)
  | [] => some st
  | n :: r => match stepOf t st n with
    | none => none
    | some s => goFrom t s r
def walkTo (t : Task) (ns : List PyData) : Option (List Str) := goFrom t t.bg ns
theorem goFrom_snoc (t : Task) (n : PyData) : ∀ (ns : List PyData) (st : List Str), goFrom t st (ns ++ [n]) = match goFrom t st ns with
    | none => none
    | some s => stepOf t s n
  | [], st => by
    show (match stepOf t st n with | none => none | some s => some s) = stepOf t st n
    cases stepOf t st n <;> rfl
  | m :: r, st => by
    show (match stepOf t st m with | none => none | some s => goFrom t s (r ++ [n])) = match (match stepOf t st m with | none => none | some s => goFrom t s r) with | none => none | some s => stepOf t s n
    cases stepOf t st m with
    | none => rfl
    | some s => exact goFrom_snoc t n r s
theorem goFrom_in {t : Task} (g : t.Good) : ∀ {ns : List PyData} {st st' : List Str}, StIn t st → goFrom t st ns = some st' → StIn t st'
  | [], st, st', s, h => by cases h; exact s
  | n :: r, st, st', s, h => by
    unfold goFrom at h
    cases e : stepOf t st n with
    | none => simp only [e] at h; cases h
    | some s2 =>
      simp only [e] at h
      exact goFrom_in g (stepOf_in g s e) h
theorem walkTo_in {t : Task} (g : t.Good) {ns : List PyData} {st : List Str} (h : walkTo t ns = some st) : StIn t st := goFrom_in g (stIn_bg g) h
def badsOf (t : Task) (ns : List PyData) : List Nat := (List.range ns.length).filter fun i => (walkTo t (ns.take (i + 1))).isNone
def stateAt (t : Task) (ns : List PyData) (j : Nat) : List Str := (walkTo t (ns.take j)).getD []
def statesD (t : Task) (ns : List PyData) (n : Nat) : List PyData := (List.range n).map fun j => strsD (stateAt t ns j)
theorem statesD_succ (t : Task) (ns : List PyData) (n : Nat) : statesD t ns (n + 1) = statesD t ns n ++ [strsD (stateAt t ns n)] := by
  unfold statesD
  rw [List.range_succ, List.map_append]
  rfl
theorem take_snoc {α : Type} {l : List α} {i : Nat} {a : α} (h : l[i]? = some a) : l.take (i + 1) = l.take i ++ [a] := by
  rw [List.take_add_one, h]
  rfl
theorem walk_succ {t : Task} {ns : List PyData} {i : Nat} {n : PyData} {st : List Str} (h : ns[i]? = some n) (e : walkTo t (ns.take i) = some st) : walkTo t (ns.take (i + 1)) = stepOf t st n := by
  unfold walkTo at e ⊢
  rw [take_snoc h, goFrom_snoc, e]
theorem bads_head {t : Task} {ns : List PyData} {i : Nat} (hi : i < ns.length) (h : ∀ j, j < i → (walkTo t (ns.take (j + 1))).isSome = true) (hb : walkTo t (ns.take (i + 1)) = none) : (badsOf t ns).head? = some i := by
  unfold badsOf
  rw [← find_filter, List.find?_range_eq_some]
  refine ⟨by rw [hb]; rfl, List.mem_range.mpr hi, fun j hj => ?_⟩
  have := h j hj
  cases e : walkTo t (ns.take (j + 1)) with
  | none => rw [e] at this; cases this
  | some _ => rfl
theorem bads_nil {t : Task} {ns : List PyData} (h : ∀ j, j < ns.length → (walkTo t (ns.take (j + 1))).isSome = true) : badsOf t ns = [] := by
  unfold badsOf
  rw [List.filter_eq_nil_iff]
  intro j hj
  have := h j (List.mem_range.mp hj)
  cases e : walkTo t (ns.take (j + 1)) with
  | none => rw [e] at this; cases this
  | some _ => simp
theorem take_walk {t : Task} {ns : List PyData} {i : Nat} (h : (walkTo t (ns.take (i + 1))).isSome = true) : (walkTo t (ns.take i)).isSome = true := by
  by_cases hi : i < ns.length
  · have hn : ns[i]? = some ns[i] := List.getElem?_eq_getElem hi
    unfold walkTo at h ⊢
    rw [take_snoc hn, goFrom_snoc] at h
    cases e : goFrom t t.bg (ns.take i) with
    | none => rw [e] at h; cases h
    | some _ => rfl
  · rw [List.take_of_length_le (by omega)] at h ⊢
    exact h
/-- is it a state of the task? -/
def stateOk (t : Task) (d : PyData) : Option (List Str) := match asFacts d with
  | none => none
  | some l => if subB l t.facts = true then some l else none
theorem stateOk_some {t : Task} {d : PyData} {l : List Str} (h : stateOk t d = some l) : d = strsD l ∧ StIn t l := by
  unfold stateOk at h
  split at h
  · cases h
  · rename_i m e
    split at h
    · rename_i k
      cases h
      obtain ⟨e1, _, e3⟩ := asFacts_some.mp e
      exact ⟨e1, e3, fun z hz => of_decide_eq_true (List.all_eq_true.mp k z hz)⟩
    · cases h
theorem wrong_len {v : PyData} {z : Str} (h : wrongD v = some z) : z.length ≤ 1000 := by
  unfold wrongD at h
  split at h
  · split at h
    · split at h
      · cases h; decide
      · split at h
        · cases h; decide
        · split at h
          · split at h
            · cases h; decide
            · split at h
              · cases h; decide
              · split at h
                · cases h; decide
                · cases h
          · cases h; decide
    · cases h; decide
  · cases h; decide
theorem Task.Good.ok {t : Task} (g : t.Good) (h : t.Sm) : t.Ok := ⟨h, fun q hq => (g.gd q hq).i3⟩
/-- v as a task -/
theorem task_cases (v : PyData) : (∃ z, wrongD v = some z ∧ z.length ≤ 1000) ∨ ∃ t : Task, v = t.toD ∧ t.Good := by
  cases e : wrongD v with
  | none => exact .inr (good_of e)
  | some z => exact .inl ⟨z, rfl, wrong_len e⟩
end WR
end
section
set_option Elab.async false
set_option linter.all false
set_option maxRecDepth 100000
namespace WR
open PySem PySem.Spec PyProof.Rows L2
/-! ### need_task, facts, need_state, open_deeds, done -/
section
variable {P : Program} {w : World} {K : PySem.W.Frag} {mg : Str → Option Value} {base : Heap} {f : Addr} {fd : FuncData} {c : Clss}
def needO (v : PyData) : Out := match wrongD v with
  | none => .ok .none
  | some z => .error (.task z)
def RNeed (ds : List PyData) (o : Out) : Prop := ∃ v, ds = [v] ∧ sm v = true ∧ o = needO v
theorem need_bad {v : PyData} {z : Str} (h : wrongD v = some z) : needO v = .error (.task z) := by unfold needO; rw [h]
theorem need_ok {t : Task} (g : t.Good) : needO t.toD = .ok .none := by unfold needO; rw [wrong_good g]
abbrev n16 : List Str := ["value", "word"]
theorem sc16 : FnScope n16 ["value"] (defScope (topS 16)) := ⟨rfl, rfl, rfl, by decide +kernel, rfl, by decide +kernel, by decide +kernel⟩
theorem ok_need_task (C : ClsOk P w K mg base c) (pw : Pu P w K mg base "wrong_word" 4 1 RWrong) (F : Fun K "need_task" "need_task" (topS 16) f fd) : FnOk P w K mg base (L2.CX P w) 5 f fd ["value"] (RaSp c 1 RNeed) := by
  refine ra_ok (R := RNeed) F sc16 fun cdv A outer s H0 E G H vs ds o hr tk hp sb ra hn hR => ?_
  obtain ⟨v, rfl, hs, rfl⟩ := hR
  obtain ⟨x0, _, rfl, r0, ra⟩ := ra.consE
  obtain rfl := ra.nilE
  refine ws_set (Rl := Ex) (i := 1) sc16.nd rfl (Or.inl rfl) sb (g_call pw (hr.mono (by decide)) (ga_cons (g_var 0 rfl r0) ga_nil) rfl ⟨v, rfl, hs, rfl⟩) fun v1 G1 H1 g1 r1 => ?_
  refine ws_if (Rl := Ex) (b := !isNn (wordD (wrongD v))) g1.sub (gt_cmp op_notN rd_notN (g_var 1 rfl r1) g_non (nomark _)) (fun k G2 H2 g2 => ?_) fun k G2 H2 g2 => ?_
  · cases e : wrongD v with
    | none => rw [e] at k; cases k
    | some z =>
      rw [e] at r1
      rw [need_bad e] at tk ⊢
      exact ws_raiseT rfl C tk (hr.mono (by decide)) (g1.trans g2) (wrong_len e) (g_var 1 rfl (r1.mono g2.ex))
  · cases e : wrongD v with
    | none => exact ws_nil ⟨by unfold needO; rw [e], G2, g1.trans g2⟩
    | some z => rw [e] at k; cases k
def RFactsT (ds : List PyData) (o : Out) : Prop := ∃ v, ds = [v] ∧ sm v = true ∧ ((∃ z, wrongD v = some z ∧ o = .error (.task z)) ∨ ∃ t : Task, v = t.toD ∧ t.Good ∧ o = .ok (strsD t.facts))
abbrev n17 : List Str := ["task"]
theorem sc17 : FnScope n17 ["task"] (defScope (topS 17)) := ⟨rfl, rfl, rfl, by decide +kernel, rfl, by decide +kernel, by decide +kernel⟩
theorem ok_facts (B : Bt mg) (pn : Ra P w K mg base c "need_task" 5 1 RNeed) (pf : Pu P w K mg base "facts_in" 1 1 RFin) (F : Fun K "facts" "facts" (topS 17) f fd) : FnOk P w K mg base (L2.CX P w) 6 f fd ["task"] (RaSp c 1 RFactsT) := by
  refine ra_ok (R := RFactsT) F sc17 fun cdv A outer s H0 E G H vs ds o hr tk hp sb ra hn hR => ?_
  obtain ⟨v, rfl, hs, hR⟩ := hR
  obtain ⟨x0, _, rfl, r0, ra⟩ := ra.consE
  obtain rfl := ra.nilE
  rcases hR with ⟨z, hz, rfl⟩ | ⟨t, rfl, g, rfl⟩
  · exact ws_exprF sb (gf_call pn hr (passE tk) (ga_cons (g_var 0 rfl r0) ga_nil) rfl ⟨v, rfl, hs, (need_bad hz).symm⟩) fun cls dx G' H' g' z' => ⟨_, G', rfl, g', z'⟩
  · refine ws_expr (Rl := Ex) (d := .none) sb (g_callX pn hr (ga_cons (g_var 0 rfl r0) ga_nil) rfl ⟨_, rfl, hs, (need_ok g).symm⟩) fun G1 H1 g1 => ?_
    refine ws_ret (Rl := Ex) g1.sub (g_tuple B.tuple (g_call pf (hr.mono (by decide)) (ga_cons (g_var 0 rfl (r0.mono g1.ex)) ga_nil) rfl ⟨t, rfl, sm_task.1 hs, by have := g.few; omega, rfl⟩)) fun v' G4 H4 g4 r4 => ⟨_, G4, rfl, g1.trans g4, r4⟩
def stateO (t : Task) (v : PyData) : Out := match stateOk t v with
  | none => .error .state
  | some _ => .ok .none
theorem state_bad {t : Task} {v : PyData} (h : stateOk t v = none) : stateO t v = .error .state := by unfold stateO; rw [h]
theorem state_ok {t : Task} {v : PyData} {l : List Str} (h : stateOk t v = some l) : stateO t v = .ok .none := by unfold stateO; rw [h]
def RNeedS (ds : List PyData) (o : Out) : Prop := ∃ t : Task, ∃ v, ds = [t.toD, v] ∧ t.Sm ∧ t.deeds.length ≤ 15 ∧ sm v = true ∧ o = stateO t v
abbrev n18 : List Str := ["task", "state", "one"]
theorem sc18 : FnScope n18 ["task", "state"] (defScope (topS 18)) := ⟨rfl, rfl, rfl, by decide +kernel, rfl, by decide +kernel, by decide +kernel⟩
theorem ok_need_state (B : Bt mg) (C : ClsOk P w K mg base c) (pf : Pu P w K mg base "facts_in" 1 1 RFin) (pa : Pu P w K mg base "are_facts" 2 1 RFacts) (F : Fun K "need_state" "need_state" (topS 18) f fd) : FnOk P w K mg base (L2.CX P w) 3 f fd ["task", "state"] (RaSp c 2 RNeedS) := by
  refine ra_ok (R := RNeedS) F sc18 fun cdv A outer s H0 E G H vs ds o hr tk hp sb ra hn hR => ?_
  obtain ⟨t, v, rfl, ht, hd, hs, rfl⟩ := hR
  obtain ⟨x0, _, rfl, r0, ra⟩ := ra.consE
  obtain ⟨x1, _, rfl, r1, ra⟩ := ra.consE
  obtain rfl := ra.nilE
  have hu := Room.units hr
  refine ws_if (Rl := Ex) (b := (stateOk t v).isNone) sb ?_ (fun k G2 H2 g2 => ?_) fun k G2 H2 g2 => ?_
  · refine gt_is (Gw.pt (gw_or (k := !(asFacts v).isSome) (k' := (stateOk t v).isNone) (gt_not (gt_val (g_call pa (hr.mono (by decide)) (ga_cons (g_var 1 rfl r1) ga_nil) rfl ⟨v, rfl, hs, rfl⟩))) fun k => gw_or1 ?_)) ?_
    · cases e : asFacts v with
      | none => rw [e] at k; cases k
      | some l =>
        obtain ⟨rfl, _, _⟩ := asFacts_some.mp e
        have hl := sm_strsD.1 hs
        refine gt_is (k := !(l.filter fun z => !decide (z ∈ t.facts)).isEmpty) (gt_neNil hu (l := l.filter fun z => !decide (z ∈ t.facts)) (fun z hz => (hl.2 z (List.mem_filter.mp hz).1).2) ?_) ?_
        · exact g_filT (l := l) (fun z => !decide (z ∈ t.facts)) rfl sc18.nd (blkOk_by (own := [("one", 2)]) (N := n18) (sc := defScope (topS 18)) (by decide +kernel)) (fun _ _ _ _ _ => pg_name (i := 2) sc18.nd rfl (Or.inl rfl)) (g_var 1 rfl r1) (by have := hl.1; omega)
            (fun y G1 hy e1 _ _ _ _ _ => gt_niL (g_var 2 rfl (.str y)) (g_call pf (hr.mono (by decide)) (ga_cons (g_var 0 rfl (r0.mono e1)) ga_nil) rfl ⟨t, rfl, ht, hd, rfl⟩)) fun y G1 _ _ _ _ _ => g_var 2 rfl (.str y)
        · rw [filter_sub]
          unfold stateOk
          rw [e]
          show (!(subB l t.facts)) = (if subB l t.facts = true then some l else none).isNone
          cases subB l t.facts <;> rfl
    · cases e : asFacts v with
      | none => unfold stateOk; rw [e]; rfl
      | some l => rfl
  · cases e : stateOk t v with
    | none =>
      rw [state_bad e] at tk ⊢
      exact ws_raiseS rfl C tk g2
    | some l => rw [e] at k; cases k
  · cases e : stateOk t v with
    | none => rw [e] at k; cases k
    | some l => exact ws_nil ⟨state_ok e, G2, g2⟩
/-- open_deeds -/
def openO (v s : PyData) (o : Out) : Prop := (∃ z, wrongD v = some z ∧ o = .error (.task z)) ∨ ∃ t : Task, v = t.toD ∧ t.Good ∧ ((stateOk t s = none ∧ o = .error .state) ∨ ∃ st, s = strsD st ∧ stateOk t s = some st ∧ o = .ok (strsD ((waysOf t st).map (·.name))))
def ROpen (ds : List PyData) (o : Out) : Prop := ∃ v s, ds = [v, s] ∧ sm v = true ∧ sm s = true ∧ openO v s o
abbrev n23 : List Str := ["task", "state", "deed", "there"]
theorem sc23 : FnScope n23 ["task", "state"] (defScope (topS 23)) := ⟨rfl, rfl, rfl, by decide +kernel, rfl, by decide +kernel, by decide +kernel⟩
theorem ok_open (B : Bt mg) (pn : Ra P w K mg base c "need_task" 5 1 RNeed) (ps : Ra P w K mg base c "need_state" 3 2 RNeedS) (pw : Pu P w K mg base "ways" 3 2 RWays) (F : Fun K "open_deeds" "open_deeds" (topS 23) f fd) : FnOk P w K mg base (L2.CX P w) 6 f fd ["task", "state"] (RaSp c 2 ROpen) := by
  refine ra_ok (R := ROpen) F sc23 fun cdv A outer s H0 E G H vs ds o hr tk hp sb ra hn hR => ?_
  obtain ⟨v, u, rfl, hs, hu, hR⟩ := hR
  obtain ⟨x0, _, rfl, r0, ra⟩ := ra.consE
  obtain ⟨x1, _, rfl, r1, ra⟩ := ra.consE
  obtain rfl := ra.nilE
  rcases hR with ⟨z, hz, rfl⟩ | ⟨t, rfl, g, hR⟩
  · exact ws_exprF sb (gf_call pn hr (passE tk) (ga_cons (g_var 0 rfl r0) ga_nil) rfl ⟨v, rfl, hs, (need_bad hz).symm⟩) fun cls dx G' H' g' z' => ⟨_, G', rfl, g', z'⟩
  have ht := sm_task.1 hs
  have hd : t.deeds.length ≤ 15 := by have := g.few; omega
  refine ws_expr (Rl := Ex) (d := .none) sb (g_callX pn hr (ga_cons (g_var 0 rfl r0) ga_nil) rfl ⟨_, rfl, hs, (need_ok g).symm⟩) fun G1 H1 g1 => ?_
  rcases hR with ⟨hz, rfl⟩ | ⟨st, rfl, hz, rfl⟩
  · exact ws_exprF g1.sub (gf_call ps (hr.mono (by decide)) (passE tk) (ga_cons (g_var 0 rfl (r0.mono g1.ex)) (ga_cons (g_var 1 rfl (r1.mono g1.ex)) ga_nil)) rfl ⟨t, u, rfl, ht, hd, hu, (state_bad hz).symm⟩) fun cls dx G' H' g' z' => ⟨_, G', rfl, g1.trans g', z'⟩
  refine ws_expr (Rl := Ex) (d := .none) g1.sub (g_callX ps (hr.mono (by decide)) (ga_cons (g_var 0 rfl (r0.mono g1.ex)) (ga_cons (g_var 1 rfl (r1.mono g1.ex)) ga_nil)) rfl ⟨t, _, rfl, ht, hd, hu, (state_ok hz).symm⟩) fun G2 H2 g2 => ?_
  have hg := g1.trans g2
  obtain ⟨_, hst⟩ := stateOk_some hz
  refine ws_ret (Rl := Ex) g2.sub (g_tuple B.tuple (gd_is (g_lcL2 (waysOf t st) Deed.toD (fun q => strsD (behindS st q)) (fun _ => true) (fun q => .str q.name) rfl sc23.nd (by decide) (blkOk_by (own := [("deed", 2), ("there", 3)]) (N := n23) (sc := defScope (topS 23)) (by decide +kernel)) (fun _ _ _ _ _ => pg_tup rfl (pgs_cons (pg_name (i := 2) sc23.nd rfl (Or.inl rfl)) (pgs_cons (pg_name (i := 3) sc23.nd rfl (Or.inl rfl)) pgs_nil)))
    (gd_is (g_call pw (hr.mono (by decide)) (ga_cons (g_var 0 rfl (r0.mono hg.ex)) (ga_cons (g_var 1 rfl (r1.mono hg.ex)) ga_nil)) rfl ⟨t, st, rfl, g.ok ht, hst.inc, hst.few12 g, rfl⟩) rfl) ?_ fun q v1 v2 G3 hq e3 rv1 rv2 => ⟨fun _ _ _ _ _ => gi_nil, fun _ _ _ _ _ _ => g_ixT (ds := [.str q.name, strsD q.needs, strsD q.bars, strsD q.adds, strsD q.strikes, .int q.price]) (g_var 2 rfl rv1) g_int (atI_nat (j := 0) rfl)⟩) ?_)) fun v' G4 H4 g4 r4 => ⟨_, G4, rfl, hg.trans g4, r4⟩
  · have := List.length_filter_le (canDo st) t.deeds
    show (waysOf t st).length < 100000
    unfold waysOf
    omega
  · rw [filter_true, List.map_map]; rfl
end
end WR
end
section
set_option Elab.async false
set_option linter.all false
set_option maxRecDepth 100000
namespace WR
open PySem PySem.Spec PyProof.Rows L2
/-! ### a list that is changed, read -/
section
variable {G H G' H' G3 H3 G2 : Hp} {l : Addr} {acc : List V} {ds : List PyData}
def outA (G : Hp) (l : Addr) : Hp := fun b => if b = l then none else G b
theorem outA_ne {b : Addr} (h : b ≠ l) : outA G l b = G b := if_neg h
theorem outA_same : outA G l l = none := if_pos rfl
/-- read with the list as data, then let the list be one to be changed again -/
theorem Mu.unfz (m : Mu Ex G H l acc G' H') (g : Gr Ex (upd G' l (.lst acc)) H' G3 H3) : Gr Ex G' H' (outA G3 l) H3 ∧ Mu Ex G H l acc (outA G3 l) H3 := by
  have hl : G3 l = some (.lst acc) := g.ex _ _ upd_same
  have g2 : Gr Ex G' H' (outA G3 l) H3 := by
    refine ⟨fun b o e => ?_, ⟨fun b o e => ?_, fun b ps e => ?_⟩, g.rl, fun b h => ?_⟩
    · have hb : b ≠ l := fun z => by rw [z, m.out] at e; cases e
      rw [outA_ne hb]
      exact g.ex b o (by rw [upd_ne hb]; exact e)
    · by_cases hb : b = l
      · rw [hb, outA_same] at e; cases e
      · rw [outA_ne hb] at e; exact g.sub.1 b o e
    · by_cases hb : b = l
      · rw [hb, outA_same] at e; cases e
      · rw [outA_ne hb] at e; exact g.sub.2 b ps e
    · by_cases hb : b = l
      · rw [hb, outA_same] at h; exact absurd rfl h
      · rw [outA_ne hb] at h
        rcases g.new b h with z | z
        · rw [upd_ne hb] at z; exact .inl z
        · exact .inr z
  exact ⟨g2, m.gr.trans g2, outA_same, m.new, g.rl _ _ m.at_⟩
theorem rp_outS {v : V} {zs : List Str} (hl : G3 l = some (.lst acc)) (r : Rp G3 v (strsD zs)) : Rp (outA G3 l) v (strsD zs) := by
  obtain ⟨a, xs, rfl, ha, rs⟩ := r.tupE
  have hb : a ≠ l := fun z => by rw [z, hl] at ha; cases ha
  obtain rfl := rs.strs
  exact .tup (by rw [outA_ne hb]; exact ha) (RpAll.ofStrs zs)
end
section
variable {X : Cx} {σ : L2.St} {G H G' H' : Hp} {e : Expr} {x : Str} {i : Nat} {pos ap p1 p2 : Pos} {rest : List Stmt} {D : Ends} {l : Addr} {acc : List V} {ds : List PyData} {zs : List Str}
/-- x.append(e), e a tuple of texts, told with the list as data -/
theorem ws_appF (m : Mu Ex G H l acc G' H') (ra : RpAll G' acc ds) (hx : σ[i]? = some (some (.ref l))) (he : Gd Ex X σ (upd G' l (.lst acc)) e (strsD zs)) (hz : acc.length < 100000) (k : ∀ v G2 H2, Ex G' G2 → Mu Ex G H l (acc ++ [v]) G2 H2 → Rp G2 v (strsD zs) → Ws X rest D σ H2)
    (hN : X.N[i]? = some x := by rfl) (hv : Vis X.env.scope x := by first | exact Or.inl rfl | exact Or.inr (Or.inl rfl) | exact Or.inr (Or.inr rfl)) (hd : (x == ("__debug__" : Str)) = false := by decide) (hcd : (x == ("__classdict__" : Str)) = false := by decide)
    (hs : swapsWith (.Call (.Attribute (.Name x p1) "append" ap) [e] [] p2) none pos.line X.env = pure false := by rfl)
    (hb : attributeBase (.Name x p1) "append" X.env (eval (.Name x p1) X.env) = eval (.Name x p1) X.env := by rfl)
    (hfew : ((backTo p2 (starEach [e] X.env)).all (fun x => !x.1) && (backToKw p2 (keywordEach [] X.env)).all (fun x => x.1.isSome) && decide ([e].length + ([] : List Keyword).length + (if ([] : List Keyword).isEmpty then 0 else 1) < 30)) = true := by rfl)
    (hline : (ap.endLine == p2.line) = true := by rfl) (hst : starEach [e] X.env = (false, eval e X.env) :: starEach [] X.env := by rfl) (hpl : (backTo p2 (starEach [] X.env)).any (·.1) = false := by rfl) :
    Ws X (.Expr (.Call (.Attribute (.Name x p1) "append" ap) [e] [] p2) pos :: rest) D σ H' := by
  refine ws_cons (ps_expr (pe_bm PySem.F.plainAttrs_list PySem.F.slot_list_append PySem.F.type_list_append mt_append (pe_var hN hv hd hcd) (pa_cons pe_w pa_nil hst) hb hfew hline hst hpl) hs) ?_
  refine ⟨.ref l, hx, .inl ⟨rfl, acc, SqL.of m.at_⟩, he _ (Evl.Ex.refl _) H' (m.fin ra).1.sub _ fun v G3 H3 g3 r3 => ?_⟩
  obtain ⟨g2, m2⟩ := m.unfz g3
  exact ⟨l, acc, v, rfl, rfl, m2.at_, Nat.lt_of_lt_of_le hz (by decide), k v _ _ g2.ex m2.put (rp_outS (g3.ex _ _ upd_same) r3)⟩
/-- -i, written -/
theorem g_neg {Rl : Hp → Hp → Prop} [RlOk Rl] {j : Nat} {k : Int} {p : Pos} : Gd Rl X σ G (.UnaryOp .USub (.Constant (.int k) j p) pos) (.int (-k)) :=
  .of (pe_un un_neg pe_int) fun G1 x H s Q q => ⟨k, rfl, q _ G1 H (.refl s) (.int _)⟩
end
theorem atI_last {ds : List PyData} {d : PyData} : atI (ds ++ [d]) (-1) = some d := by
  unfold atI
  have e : ixN (ds ++ [d]).length (-1) = some ds.length := by
    unfold ixN
    simp
    omega
  rw [e]
  simp
section
variable {P : Program} {w : World} {K : PySem.W.Frag} {mg : Str → Option Value} {base : Heap} {f : Addr} {fd : FuncData} {c : Clss}
def stepD (o : Option (List Str)) : Out := match o with
  | none => .error (.deed none)
  | some st => .ok (strsD st)
def RDone (ds : List PyData) (o : Out) : Prop := ∃ t : Task, ∃ st n, ds = [t.toD, strsD st, n] ∧ t.Good ∧ t.Sm ∧ LOk st ∧ stateOk t (strsD st) = some st ∧ sm n = true ∧ o = stepD (stepOf t st n)
abbrev n25 : List Str := ["task", "state", "name", "deed"]
theorem sc25 : FnScope n25 ["task", "state", "name"] (defScope (topS 25)) := ⟨rfl, rfl, rfl, by decide +kernel, rfl, by decide +kernel, by decide +kernel⟩
theorem nonD {G : Hp} {v : V} (r : Rp G v .none) : v = ixV none := r.nonE
theorem deed_isN (q : Deed) : isNn q.toD = false := rfl
theorem ok_done (C : ClsOk P w K mg base c) (pn : Ra P w K mg base c "need_task" 5 1 RNeed) (ps : Ra P w K mg base c "need_state" 3 2 RNeedS) (pd : Pu P w K mg base "deed_of" 1 2 RDeedOf) (pc : Pu P w K mg base "can_do" 2 2 RCan) (pb : Pu P w K mg base "behind" 1 2 RBeh)
    (F : Fun K "done" "done" (topS 25) f fd) : FnOk P w K mg base (L2.CX P w) 6 f fd ["task", "state", "name"] (RaSp c 3 RDone) := by
  refine ra_ok (R := RDone) F sc25 fun cdv A outer s H0 E G H vs ds o hr tk hp sb ra hn hR => ?_
  obtain ⟨t, st, n, rfl, g, ht, hl, hz, hs, rfl⟩ := hR
  obtain ⟨x0, _, rfl, r0, ra⟩ := ra.consE
  obtain ⟨x1, _, rfl, r1, ra⟩ := ra.consE
  obtain ⟨x2, _, rfl, r2, ra⟩ := ra.consE
  obtain rfl := ra.nilE
  have hd : t.deeds.length ≤ 15 := by have := g.few; omega
  obtain ⟨_, hst⟩ := stateOk_some hz
  refine ws_expr (Rl := Ex) (d := .none) sb (g_callX pn (hr.mono (by decide)) (ga_cons (g_var 0 rfl r0) ga_nil) rfl ⟨_, rfl, sm_task.2 ht, (need_ok g).symm⟩) fun G1 H1 g1 => ?_
  refine ws_expr (Rl := Ex) (d := .none) g1.sub (g_callX ps (hr.mono (by decide)) (ga_cons (g_var 0 rfl (r0.mono g1.ex)) (ga_cons (g_var 1 rfl (r1.mono g1.ex)) ga_nil)) rfl ⟨t, _, rfl, ht, hd, sm_strsD.2 hl, (state_ok hz).symm⟩) fun G2 H2 g2 => ?_
  have hg := g1.trans g2
  refine ws_set (Rl := Ex) (i := 3) sc25.nd rfl (Or.inl rfl) g2.sub (g_call pd (hr.mono (by decide)) (ga_cons (g_var 0 rfl (r0.mono hg.ex)) (ga_cons (g_var 2 rfl (r2.mono hg.ex)) ga_nil)) rfl ⟨t, n, rfl, ht, hs, rfl⟩) fun v3 G3 H3 g3 r3 => ?_
  have hg3 := hg.trans g3
  refine ws_if (Rl := Ex) (b := (stepOf t st n).isNone) g3.sub ?_ (fun k G4 H4 g4 => ?_) fun k G4 H4 g4 => ?_
  · refine Gw.pt ?_
    unfold stepOf
    cases e : deedOf t n with
    | none =>
      rw [e] at r3
      exact gw_or (k := true) (k' := true) (gt_cmp op_isN rd_isN (g_var 3 rfl r3) g_non (nomark _)) nofun
    | some q =>
      rw [e] at r3
      have hq := ht.gd q (deedOf_mem e)
      refine gw_or (k := false) (gt_cmp op_isN rd_isN (g_var 3 rfl r3) g_non (nomark _)) fun _ => gw_or1 (gt_is (gt_not (gt_val (g_call pc (hr.mono (by decide)) (ga_cons (g_var 1 rfl (r1.mono hg3.ex)) (ga_cons (g_var 3 rfl r3) ga_nil)) rfl ⟨st, q, rfl, hq, rfl⟩))) ?_)
      show (!canDo st q) = (if canDo st q = true then some (behindS st q) else none).isNone
      cases canDo st q <;> rfl
  · cases e : stepOf t st n with
    | none =>
      rw [e] at tk
      exact ws_raiseD rfl C tk (hr.mono (by decide)) (hg3.trans g4) g_non (fun _ _ => nonD)
    | some q => rw [e] at k; cases k
  · cases e : stepOf t st n with
    | none => rw [e] at k; cases k
    | some s2 =>
      unfold stepOf at e
      cases e2 : deedOf t n with
      | none => simp only [e2] at e; cases e
      | some q =>
        simp only [e2] at e
        rw [e2] at r3
        split at e
        · cases e
          have hq := ht.gd q (deedOf_mem e2)
          have hx := g3.ex.trans g4.ex
          refine ws_ret (Rl := Ex) g4.sub (g_call pb (hr.mono (by decide)) (ga_cons (g_var 1 rfl ((r1.mono hg3.ex).mono g4.ex)) (ga_cons (g_var 3 rfl (r3.mono g4.ex)) ga_nil)) rfl ⟨st, q, rfl, hst.inc, hst.few12 g, (g.gd q (deedOf_mem e2)).i3, hq.n3.1, rfl⟩) fun v' G5 H5 g5 r5 => ⟨_, G5, rfl, (hg3.trans g4).trans g5, r5⟩
        · cases e
end
end WR
end
section
set_option Elab.async false
set_option linter.all false
set_option maxRecDepth 100000
namespace WR
open PySem PySem.Spec PyProof.Rows L2
section
variable {P : Program} {w : World} {K : PySem.W.Frag} {mg : Str → Option Value} {base : Heap} {f : Addr} {fd : FuncData} {c : Clss}
/-- a row of names: the states, or what is wrong -/
def rowD (t : Task) (ns : List PyData) : Out := match (badsOf t ns).head? with
  | some i => .error (.deed (some i))
  | none => .ok (.list (statesD t ns (ns.length + 1)))
def runD (t : Task) : PyData → Out
  | .tuple ns => rowD t ns
  | _ => .error (.deed none)
theorem row_bad {t : Task} {ns : List PyData} {i : Nat} (h : (badsOf t ns).head? = some i) : rowD t ns = .error (.deed (some i)) := by unfold rowD; rw [h]
theorem row_ok {t : Task} {ns : List PyData} (h : badsOf t ns = []) : rowD t ns = .ok (.list (statesD t ns (ns.length + 1))) := by unfold rowD; rw [h]; rfl
theorem run_cases (t : Task) (v : PyData) : (∃ b, runD t v = .error b) ∨ ∃ ns, v = .tuple ns ∧ badsOf t ns = [] ∧ runD t v = .ok (.list (statesD t ns (ns.length + 1))) := by
  cases v with
  | tuple ns =>
    cases e : badsOf t ns with
    | nil => exact .inr ⟨ns, rfl, e, row_ok e⟩
    | cons i r => exact .inl ⟨_, row_bad (i := i) (by rw [e]; rfl)⟩
  | _ => exact .inl ⟨_, rfl⟩
theorem good_walk {t : Task} {ns : List PyData} (h : badsOf t ns = []) {j : Nat} (hj : j ≤ ns.length) : ∃ st, walkTo t (ns.take j) = some st := by
  cases j with
  | zero => exact ⟨t.bg, by rw [List.take_zero]; rfl⟩
  | succ j =>
    unfold badsOf at h
    have := List.filter_eq_nil_iff.mp h j (List.mem_range.mpr (by omega))
    cases e : walkTo t (ns.take (j + 1)) with
    | none => rw [e] at this; exact absurd rfl this
    | some st => exact ⟨st, rfl⟩
def RRunOf (ds : List PyData) (o : Out) : Prop := ∃ t : Task, ∃ v, ds = [t.toD, v] ∧ t.Good ∧ t.Sm ∧ sm v = true ∧ o = runD t v
abbrev n26 : List Str := ["task", "names", "found", "at", "deed"]
theorem sc26 : FnScope n26 ["task", "names"] (defScope (topS 26)) := ⟨rfl, rfl, rfl, by decide +kernel, rfl, by decide +kernel, by decide +kernel⟩
theorem stateAt_of {t : Task} {ns : List PyData} {i : Nat} {st : List Str} (h : walkTo t (ns.take i) = some st) : stateAt t ns i = st := by unfold stateAt; rw [h]; rfl
theorem nsD {G : Hp} {v : V} {i : Nat} (r : Rp G v (.int (i : Int))) : v = ixV (some i) := r.intE
theorem ok_run_of (B : Bt mg) (C : ClsOk P w K mg base c) (pd : Pu P w K mg base "deed_of" 1 2 RDeedOf) (pc : Pu P w K mg base "can_do" 2 2 RCan) (pb : Pu P w K mg base "behind" 1 2 RBeh)
    (F : Fun K "run_of" "run_of" (topS 26) f fd) : FnOk P w K mg base (L2.CX P w) 3 f fd ["task", "names"] (RaSp c 2 RRunOf) := by
  refine ra_ok (R := RRunOf) F sc26 fun cdv A outer s H0 E G H vs ds o hr tk hp sb ra hn hR => ?_
  obtain ⟨t, v, rfl, g, ht, hs, rfl⟩ := hR
  obtain ⟨x0, _, rfl, r0, ra⟩ := ra.consE
  obtain ⟨x1, _, rfl, r1, ra⟩ := ra.consE
  obtain rfl := ra.nilE
  refine ws_if (Rl := Ex) (b := !tTup v) sb (gt_not (gt_val (g_isTup B (g_var 1 rfl r1)))) (fun k G1 H1 g1 => ?_) fun k G1 H1 g1 => ?_
  · have e : runD t v = .error (.deed none) := by cases v <;> first | rfl | exact nomatch k
    rw [e] at tk ⊢
    exact ws_raiseD rfl C tk hr g1 g_non (fun _ _ => nonD)
  obtain ⟨ns, rfl⟩ : ∃ ns, v = .tuple ns := by cases v <;> first | exact ⟨_, rfl⟩ | exact nomatch k
  obtain ⟨hfew, hsn⟩ := sm_tuple.1 hs
  refine ws_newLst (i := 2) sc26.nd rfl (Or.inl rfl) g1.sub (ga_cons (g_ixT (d := strsD t.bg) (g_var 0 rfl (r0.mono g1.ex)) g_int (atI_nat (j := 1) rfl)) ga_nil) (by simp) fun l acc G2 H2 m ra2 => ?_
  have e12 := g1.ex.trans m.gr.ex
  refine ws_forR (Rl := Ex) hp rfl (pg_name (i := 3) sc26.nd rfl (Or.inl rfl)) B.range m.gr.sub (g_lenT B.len (g_var 1 rfl (r1.mono e12))) (by omega) fun G3 H3 g3 => ⟨fun i G' σ' H' => Ex G3 G' ∧ (∃ acc, Mu Ex G1 H1 l acc G' H' ∧ RpAll G' acc (statesD t ns (i + 1))) ∧ i ≤ ns.length ∧ (∀ j, j < i → (walkTo t (ns.take (j + 1))).isSome = true) ∧ ∃ a b, σ' = [some x0, some x1, some (.ref l), a, b], ?_, ?_, ?_, ?_⟩
  · exact ⟨Evl.Ex.refl _, ⟨acc, m.step g3, ra2.mono g3.ex⟩, Nat.zero_le _, fun j hj => absurd hj (Nat.not_lt_zero _), _, _, rfl⟩
  · rintro i G' σ' H' ⟨e, ⟨acc, m', _⟩, _⟩
    exact ⟨e, m'.gr.sub⟩
  · rintro i d v G4 σ4 H4 hd ⟨e4, ⟨acc4, m4, ra4⟩, hi, hw, a, b, rfl⟩ rd
    rw [List.getElem?_map] at hd
    obtain ⟨i', hi', rfl⟩ := Option.map_eq_some_iff.mp hd
    have hlt : i < ns.length := by
      have := (List.getElem?_eq_some_iff.mp hi').1
      simpa using this
    rw [List.getElem?_range hlt] at hi'
    cases hi'
    have hni : ns[i]? = some ns[i] := List.getElem?_eq_getElem hlt
    have hsm : sm ns[i] = true := hsn _ (List.getElem_mem hlt)
    obtain ⟨st, hst⟩ : ∃ st, walkTo t (ns.take i) = some st := by
      cases i with
      | zero => exact ⟨t.bg, by rw [List.take_zero]; rfl⟩
      | succ j => exact Option.isSome_iff_exists.mp (hw j (Nat.lt_succ_self _))
    have hin := walkTo_in g hst
    have eall := e12.trans (g3.ex.trans e4)
    refine ws_set (Rl := Ex) (i := 4) sc26.nd rfl (Or.inl rfl) m4.gr.sub (g_call pd (hr.mono (by decide)) (ga_cons (g_var 0 rfl (r0.mono eall)) (ga_cons (g_ixT (g_var 1 rfl (r1.mono eall)) (g_var 3 rfl rd) (atI_nat hni)) ga_nil)) rfl ⟨t, ns[i], rfl, ht, hsm, rfl⟩) fun v5 G5 H5 g5 r5 => ?_
    have m5 := m4.step g5
    have ra5 := ra4.mono g5.ex
    obtain ⟨gf, rf⟩ := m5.fin ra5
    have exf : Ex G5 (upd G5 l (.lst acc4)) := Evl.Ex.new m5.out
    have hlast : atI (statesD t ns (i + 1)) (-1) = some (strsD st) := by rw [statesD_succ, stateAt_of hst]; exact atI_last
    have hsucc := walk_succ hni hst
    refine ws_if (Rl := Ex) (b := (stepOf t st ns[i]).isNone) gf.sub ?_ (fun k G6 H6 g6 => ?_) fun k G6 H6 g6 => ?_
    · refine Gw.pt ?_
      unfold stepOf
      cases e : deedOf t ns[i] with
      | none =>
        rw [e] at r5
        exact gw_or (k := true) (k' := true) (gt_cmp op_isN rd_isN (g_var 4 rfl (r5.mono exf)) g_non (nomark _)) nofun
      | some q =>
        rw [e] at r5
        have hq := ht.gd q (deedOf_mem e)
        refine gw_or (k := false) (gt_cmp op_isN rd_isN (g_var 4 rfl (r5.mono exf)) g_non (nomark _)) fun _ => gw_or1 (gt_is (gt_not (gt_val (g_call pc (hr.mono (by decide)) (ga_cons (g_ixL (g_var 2 rfl rf) g_neg hlast (hs := fun _ _ => rfl)) (ga_cons (g_var 4 rfl (r5.mono exf)) ga_nil)) rfl ⟨st, q, rfl, hq, rfl⟩))) ?_)
        show (!canDo st q) = (if canDo st q = true then some (behindS st q) else none).isNone
        cases canDo st q <;> rfl
    · cases e : stepOf t st ns[i] with
      | none =>
        obtain ⟨g6', m6⟩ := m5.unfz g6
        have eb : runD t (.tuple ns) = .error (.deed (some i)) := row_bad (bads_head hlt hw (hsucc.trans e))
        rw [eb] at tk
        exact ws_raiseD rfl C tk hr (g1.trans m6.gr) (g_var 3 rfl (rd.mono (g5.ex.trans g6'.ex))) (fun _ _ => nsD)
      | some s2 => rw [e] at k; cases k
    · cases e : stepOf t st ns[i] with
      | none => rw [e] at k; cases k
      | some s2 =>
        have e' := e
        unfold stepOf at e'
        cases e2 : deedOf t ns[i] with
        | none => simp only [e2] at e'; cases e'
        | some q =>
          simp only [e2] at e'
          rw [e2] at r5
          split at e'
          · cases e'
            obtain ⟨g6', m6⟩ := m5.unfz g6
            have ra6 := ra5.mono g6'.ex
            obtain ⟨gf6, rf6⟩ := m6.fin ra6
            have exf6 : Ex (outA G6 l) (upd (outA G6 l) l (.lst acc4)) := Evl.Ex.new m6.out
            have hq := ht.gd q (deedOf_mem e2)
            refine ws_appF m6 ra6 (i := 2) rfl (g_call pb (hr.mono (by decide)) (ga_cons (g_ixL (g_var 2 rfl rf6) g_neg hlast (hs := fun _ _ => rfl)) (ga_cons (g_var 4 rfl ((r5.mono g6'.ex).mono exf6)) ga_nil)) rfl ⟨st, q, rfl, hin.inc, hin.few12 g, (g.gd q (deedOf_mem e2)).i3, hq.n3.1, rfl⟩) ?_ fun v7 G7 H7 e7 m7 r7 => ws_nil ?_
            · rw [ra6.len]
              unfold statesD
              rw [List.length_map, List.length_range]
              omega
            · refine ⟨G7, ((e4.trans g5.ex).trans g6'.ex).trans e7, ⟨_, m7, ?_⟩, hlt, fun j hj => ?_, _, _, rfl⟩
              · rw [statesD_succ t ns (i + 1), stateAt_of (hsucc.trans e)]
                exact (ra6.mono e7).app (.cons r7 .nil)
              · rcases Nat.lt_or_ge j i with z | z
                · exact hw j z
                · obtain rfl : j = i := by omega
                  rw [hsucc, e]; rfl
          · cases e'
  · rintro G' σ' H' ⟨e4, ⟨acc4, m4, ra4⟩, hi, hw, a, b, rfl⟩
    have hbn : badsOf t ns = [] := bads_nil fun j hj => hw j (by rw [List.length_map, List.length_range]; exact hj)
    obtain ⟨gf, rf⟩ := m4.fin ra4
    refine ws_ret (Rl := Ex) gf.sub (g_var 2 rfl rf) fun v' G5 H5 g5 r5 => ⟨_, G5, row_ok hbn, g1.trans (gf.trans g5), ?_⟩
    rw [List.length_map, List.length_range] at r5
    exact r5
end
end WR
end
section
set_option Elab.async false
set_option linter.all false
set_option maxRecDepth 100000
namespace WR
open PySem PySem.Spec PyProof.Rows L2
section
variable {P : Program} {w : World} {K : PySem.W.Frag} {mg : Str → Option Value} {base : Heap} {f : Addr} {fd : FuncData} {c : Clss}
def runT (t : Task) (n : PyData) : Out := match runD t n with
  | .ok (.list l) => .ok (.tuple l)
  | .ok d => .ok d
  | .error b => .error b
/-- a law on a task: what is wrong with it, or what a task gives -/
def TaskOr (v : PyData) (o : Out) (r : Task → Out → Prop) : Prop := (∃ z, wrongD v = some z ∧ o = .error (.task z)) ∨ ∃ t : Task, v = t.toD ∧ t.Good ∧ r t o
def RRun (ds : List PyData) (o : Out) : Prop := ∃ v n, ds = [v, n] ∧ sm v = true ∧ sm n = true ∧ TaskOr v o fun t o => o = runT t n
abbrev n27 : List Str := ["task", "names"]
theorem sc27 : FnScope n27 ["task", "names"] (defScope (topS 27)) := ⟨rfl, rfl, rfl, by decide +kernel, rfl, by decide +kernel, by decide +kernel⟩
theorem ok_run (B : Bt mg) (pn : Ra P w K mg base c "need_task" 5 1 RNeed) (pr : Ra P w K mg base c "run_of" 3 2 RRunOf) (F : Fun K "run" "run" (topS 27) f fd) : FnOk P w K mg base (L2.CX P w) 6 f fd ["task", "names"] (RaSp c 2 RRun) := by
  refine ra_ok (R := RRun) F sc27 fun cdv A outer s H0 E G H vs ds o hr tk hp sb ra hn hR => ?_
  obtain ⟨v, n, rfl, hs, hn2, hR⟩ := hR
  obtain ⟨x0, _, rfl, r0, ra⟩ := ra.consE
  obtain ⟨x1, _, rfl, r1, ra⟩ := ra.consE
  obtain rfl := ra.nilE
  rcases hR with ⟨z, hz, rfl⟩ | ⟨t, rfl, g, rfl⟩
  · exact ws_exprF sb (gf_call pn hr (passE tk) (ga_cons (g_var 0 rfl r0) ga_nil) rfl ⟨v, rfl, hs, (need_bad hz).symm⟩) fun cls dx G' H' g' z' => ⟨_, G', rfl, g', z'⟩
  have ht := sm_task.1 hs
  refine ws_expr (Rl := Ex) (d := .none) sb (g_callX pn hr (ga_cons (g_var 0 rfl r0) ga_nil) rfl ⟨_, rfl, hs, (need_ok g).symm⟩) fun G1 H1 g1 => ?_
  rcases run_cases t n with ⟨b, e⟩ | ⟨ns, rfl, hb, e⟩
  · have et : runT t n = .error b := by unfold runT; rw [e]
    rw [et] at tk ⊢
    exact ws_retF g1.sub (gf_tuple B.tuple (gf_call pr (hr.mono (by decide)) (passE tk) (ga_cons (g_var 0 rfl (r0.mono g1.ex)) (ga_cons (g_var 1 rfl (r1.mono g1.ex)) ga_nil)) rfl ⟨t, n, rfl, g, ht, hn2, e.symm⟩)) fun cls dx G' H' g' z' => ⟨_, G', rfl, g1.trans g', z'⟩
  · have et : runT t (.tuple ns) = .ok (.tuple (statesD t ns (ns.length + 1))) := by unfold runT; rw [e]
    rw [et] at tk ⊢
    exact ws_ret (Rl := Ex) g1.sub (g_tuple B.tuple (g_callX pr (hr.mono (by decide)) (ga_cons (g_var 0 rfl (r0.mono g1.ex)) (ga_cons (g_var 1 rfl (r1.mono g1.ex)) ga_nil)) rfl ⟨t, _, rfl, g, ht, hn2, e.symm⟩)) fun v' G4 H4 g4 r4 => ⟨_, G4, rfl, g1.trans g4, r4⟩
def RPrice (ds : List PyData) (o : Out) : Prop := ∃ v n, ds = [v, n] ∧ sm v = true ∧ sm n = true ∧ TaskOr v o fun t o => ∃ zs, n = strsD zs ∧ badsOf t (zs.map .str) = [] ∧ o = .ok (.int (priceOf t zs))
abbrev n29 : List Str := ["task", "names"]
theorem sc29 : FnScope n29 ["task", "names"] (defScope (topS 29)) := ⟨rfl, rfl, rfl, by decide +kernel, rfl, by decide +kernel, by decide +kernel⟩
theorem good_names {t : Task} {zs : List Str} (h : badsOf t (zs.map .str) = []) : ∀ z ∈ zs, (deedOf t (.str z)).isSome = true := fun z hz => by
  obtain ⟨i, hi⟩ := List.getElem?_of_mem hz
  have hlt : i < zs.length := (List.getElem?_eq_some_iff.mp hi).1
  have hn : (zs.map PyData.str)[i]? = some (.str z) := by rw [List.getElem?_map, hi]; rfl
  obtain ⟨st, h1⟩ := good_walk h (j := i) (by rw [List.length_map]; omega)
  obtain ⟨st2, h2⟩ := good_walk h (j := i + 1) (by rw [List.length_map]; omega)
  rw [walk_succ hn h1] at h2
  unfold stepOf at h2
  cases e : deedOf t (.str z) with
  | none => simp only [e] at h2; cases h2
  | some q => rfl
theorem ok_price (B : Bt mg) (pn : Ra P w K mg base c "need_task" 5 1 RNeed) (pr : Ra P w K mg base c "run_of" 3 2 RRunOf) (pp : Pu P w K mg base "price_of" 2 2 RPriceOf) (F : Fun K "price" "price" (topS 29) f fd) : FnOk P w K mg base (L2.CX P w) 6 f fd ["task", "names"] (RaSp c 2 RPrice) := by
  refine ra_ok (R := RPrice) F sc29 fun cdv A outer s H0 E G H vs ds o hr tk hp sb ra hn hR => ?_
  obtain ⟨v, n, rfl, hs, hn2, hR⟩ := hR
  obtain ⟨x0, _, rfl, r0, ra⟩ := ra.consE
  obtain ⟨x1, _, rfl, r1, ra⟩ := ra.consE
  obtain rfl := ra.nilE
  rcases hR with ⟨z, hz, rfl⟩ | ⟨t, rfl, g, zs, rfl, hb, rfl⟩
  · exact ws_exprF sb (gf_call pn hr (passE tk) (ga_cons (g_var 0 rfl r0) ga_nil) rfl ⟨v, rfl, hs, (need_bad hz).symm⟩) fun cls dx G' H' g' z' => ⟨_, G', rfl, g', z'⟩
  have ht := sm_task.1 hs
  have hl := sm_strsD.1 hn2
  refine ws_expr (Rl := Ex) (d := .none) sb (g_callX pn hr (ga_cons (g_var 0 rfl r0) ga_nil) rfl ⟨_, rfl, hs, (need_ok g).symm⟩) fun G1 H1 g1 => ?_
  refine ws_expr (Rl := Ex) g1.sub (g_callX pr (hr.mono (by decide)) (ga_cons (g_var 0 rfl (r0.mono g1.ex)) (ga_cons (g_var 1 rfl (r1.mono g1.ex)) ga_nil)) rfl ⟨t, _, rfl, g, ht, hn2, (row_ok hb).symm⟩) fun G2 H2 g2 => ?_
  have hg := g1.trans g2
  exact ws_ret (Rl := Ex) g2.sub (g_call pp (hr.mono (by decide)) (ga_cons (g_var 0 rfl (r0.mono hg.ex)) (ga_cons (g_var 1 rfl (r1.mono hg.ex)) ga_nil)) rfl ⟨t, zs, rfl, ht, fun z hz => ⟨good_names hb z hz, hl.2 z hz⟩, hl.1, rfl⟩) fun v' G4 H4 g4 r4 => ⟨_, G4, rfl, hg.trans g4, r4⟩
/-- is it a plan? -/
def planB (t : Task) : PyData → Bool
  | .tuple ns => (badsOf t ns).isEmpty && subB t.wish (stateAt t ns ns.length)
  | _ => false
theorem plan_bad {t : Task} {v : PyData} {b : Bad} (h : runD t v = .error b) : planB t v = false ∧ ∃ i, b = .deed i := by
  cases v with
  | tuple ns =>
    cases e : (badsOf t ns).head? with
    | none =>
      have h' : rowD t ns = .error b := h
      unfold rowD at h'
      rw [e] at h'
      cases h'
    | some i =>
      have h' : rowD t ns = .error b := h
      rw [row_bad e] at h'
      cases h'
      refine ⟨?_, _, rfl⟩
      show ((badsOf t ns).isEmpty && _) = false
      cases e2 : badsOf t ns with
      | nil => rw [e2] at e; cases e
      | cons _ _ => rfl
  | _ => cases h; exact ⟨rfl, _, rfl⟩
def RPlanOf (ds : List PyData) (d : PyData) : Prop := ∃ t : Task, ∃ v, ds = [t.toD, v] ∧ t.Good ∧ t.Sm ∧ sm v = true ∧ d = .bool (planB t v)
abbrev n30 : List Str := ["task", "value"]
theorem sc30 : FnScope n30 ["task", "value"] (defScope (topS 30)) := ⟨rfl, rfl, rfl, by decide +kernel, rfl, by decide +kernel, by decide +kernel⟩
theorem ok_is_plan_of (C : ClsOk P w K mg base c) (pr : Ra P w K mg base c "run_of" 3 2 RRunOf) (ph : Pu P w K mg base "has" 1 2 RHas) (F : Fun K "is_plan_of" "is_plan_of" (topS 30) f fd) : FnOk P w K mg base CX0 4 f fd ["task", "value"] (PuSp 2 RPlanOf) := by
  refine pu_ok (R := RPlanOf) F sc30 fun cdv A outer s H0 E G H vs ds d hr sb ra hn hR => ?_
  obtain ⟨t, v, rfl, g, ht, hv, rfl⟩ := hR
  obtain ⟨x0, _, rfl, r0, ra⟩ := ra.consE
  obtain ⟨x1, _, rfl, r1, ra⟩ := ra.consE
  obtain rfl := ra.nilE
  refine ws_of (pss_one (ps_try_only (c := .ref c.deed) (ts := fun _ _ _ => _) (tb := fun W D σ H => ∀ pn xe, Takes ((bX P w K mg base n30 "is_plan_of" (defScope (topS 30)) f cdv A outer s H0 E).tr pn xe) W → Ws ((bX P w K mg base n30 "is_plan_of" (defScope (topS 30)) f cdv A outer s H0 E).tr pn xe) _ D σ H) rfl rfl ⟨rfl, rfl, .inl C.gD⟩ takes0 (fun W pn xe tk po => ⟨fun pins s' σ' H' D I h => h pn xe tk pins s' I⟩) (fun a oe cls d pn _ _ => pss_one (ps_ret pe_bl)))) ?_
  intro pn xe tk
  rcases run_cases t v with ⟨b, e⟩ | ⟨ns, rfl, hb, e⟩
  · obtain ⟨hp, i, rfl⟩ := plan_bad e
    refine ws_retF (c := c) (b := .deed i) (E := fun cls dx H' => cls = .ref c.deed ∧ ∃ G', Gr Ex G H G' H') sb (gf_arg ph (hr.mono (by decide)) (gf_ix (gf_call pr (hr.mono (by decide)) (passE (tk.imp fun cls dx σ' H' z => ?_)) (ga_cons (g_var 0 rfl r0) (ga_cons (g_var 1 rfl r1) ga_nil)) rfl ⟨t, v, rfl, g, ht, hv, e.symm⟩) (hs := fun _ _ => rfl))) fun cls dx G' H' g' z' => ⟨z'.1, G', g'⟩
    obtain ⟨rfl, G', g'⟩ := z
    refine ⟨true, C.mDD, fun _ a _ => ⟨G', g', ?_⟩, nofun⟩
    rw [hp]
    exact .bl false
  · have hp : planB t (.tuple ns) = subB t.wish (stateAt t ns ns.length) := by
      show ((badsOf t ns).isEmpty && _) = _
      rw [hb]; rfl
    refine ws_ret (Rl := Ex) sb (gd_is (g_call ph (hr.mono (by decide)) (ga_cons (g_ixL (d := strsD (stateAt t ns ns.length)) (g_callX pr (hr.mono (by decide)) (ga_cons (g_var 0 rfl r0) (ga_cons (g_var 1 rfl r1) ga_nil)) rfl ⟨t, _, rfl, g, ht, hv, e.symm⟩) g_neg (by rw [statesD_succ]; exact atI_last) (hs := fun _ _ => rfl)) (ga_cons (g_ixT (d := strsD t.wish) (g_var 0 rfl r0) g_int (atI_nat (j := 2) rfl)) ga_nil)) rfl ⟨_, t.wish, rfl, ht.w, rfl⟩) (by rw [hp])) fun v' G4 H4 g4 r4 => ⟨G4, g4, r4⟩
def RPlan (ds : List PyData) (o : Out) : Prop := ∃ v n, ds = [v, n] ∧ sm v = true ∧ sm n = true ∧ TaskOr v o fun t o => o = .ok (.bool (planB t n))
abbrev n31 : List Str := ["task", "value"]
theorem sc31 : FnScope n31 ["task", "value"] (defScope (topS 31)) := ⟨rfl, rfl, rfl, by decide +kernel, rfl, by decide +kernel, by decide +kernel⟩
theorem ok_is_plan (pn : Ra P w K mg base c "need_task" 5 1 RNeed) (pp : Pu P w K mg base "is_plan_of" 4 2 RPlanOf) (F : Fun K "is_plan" "is_plan" (topS 31) f fd) : FnOk P w K mg base (L2.CX P w) 6 f fd ["task", "value"] (RaSp c 2 RPlan) := by
  refine ra_ok (R := RPlan) F sc31 fun cdv A outer s H0 E G H vs ds o hr tk hp sb ra hn hR => ?_
  obtain ⟨v, n, rfl, hs, hn2, hR⟩ := hR
  obtain ⟨x0, _, rfl, r0, ra⟩ := ra.consE
  obtain ⟨x1, _, rfl, r1, ra⟩ := ra.consE
  obtain rfl := ra.nilE
  rcases hR with ⟨z, hz, rfl⟩ | ⟨t, rfl, g, rfl⟩
  · exact ws_exprF sb (gf_call pn hr (passE tk) (ga_cons (g_var 0 rfl r0) ga_nil) rfl ⟨v, rfl, hs, (need_bad hz).symm⟩) fun cls dx G' H' g' z' => ⟨_, G', rfl, g', z'⟩
  have ht := sm_task.1 hs
  refine ws_expr (Rl := Ex) (d := .none) sb (g_callX pn hr (ga_cons (g_var 0 rfl r0) ga_nil) rfl ⟨_, rfl, hs, (need_ok g).symm⟩) fun G1 H1 g1 => ?_
  exact ws_ret (Rl := Ex) g1.sub (g_call pp (hr.mono (by decide)) (ga_cons (g_var 0 rfl (r0.mono g1.ex)) (ga_cons (g_var 1 rfl (r1.mono g1.ex)) ga_nil)) rfl ⟨t, n, rfl, g, ht, hn2, rfl⟩) fun v' G4 H4 g4 r4 => ⟨_, G4, rfl, g1.trans g4, r4⟩
end
end WR
end
section
set_option Elab.async false
set_option linter.all false
set_option maxRecDepth 100000
/-! the row of draws: an object whose numbers are not told -/
namespace WR
open PySem PySem.Spec PyProof.Rows L2
/-- at r: a list [the script at a, i, x, y], 0 ≤ i, x small -/
def RowO (r a : Addr) : HO := .ext fun h => ∃ (i x y : Int) (its : List Value) (n : Nat), (0 ≤ i ∧ 0 ≤ x ∧ x < 2147483647) ∧ Vals [.ref a, .int i, .int x, .int y] its ∧ h.get? r = some { cls := .type "list", data := .seq its.toArray n }
theorem rowO_tbl {r a : Addr} (ps : Array Value) : RowO r a ≠ .tbl ps := fun z => by unfold RowO at z; cases z
theorem rowO_tup {r a : Addr} (xs : List V) : RowO r a ≠ .tup xs := fun z => by unfold RowO at z; cases z
theorem rowO_own {r a : Addr} (x : Addr) : RowO r a ≠ .own x := fun z => by unfold RowO at z; cases z
theorem rowO_frz {r a : Addr} (o : Obj) (u : HO) : RowO r a ≠ .frz o u := fun z => by unfold RowO at z; cases z
theorem rowO_lst {r a : Addr} (xs : List V) : RowO r a ≠ .lst xs := fun z => by unfold RowO at z; cases z
/-- the object at r told in another way -/
theorem inv_retype {X : Cx} {pins : List (Addr × Obj)} {σ : L2.St} {H : Hp} {s : Shared} {r : Addr} {o o' : HO} (I : Inv X pins σ H s) (e : H r = some o) (n1 : ∀ xs, o ≠ .tup xs) (n2 : ∀ x, o ≠ .own x) (n3 : ∀ b u, o ≠ .frz b u) (n4 : ∀ ps, o ≠ .tbl ps)
    (ok : ∀ H' h, ObjOk X.prog X.w H h r o → ObjOk X.prog X.w H' h r o') : Inv X pins σ (upd H r o') s := by
  have hz : ∀ {b : Addr}, H b = none → upd H r o' b = none := fun {b} n => by
    have hb : b ≠ r := fun z => by rw [z, e] at n; cases n
    rw [upd_ne hb]
    exact n
  have ks : ∀ {b : Addr} {u : HO}, H b = some u → u ≠ o → upd H r o' b = some u := fun {b u} q n => by
    have hb : b ≠ r := fun z => by rw [z, e] at q; exact n (Option.some.inj q).symm
    rw [upd_ne hb]
    exact q
  refine ⟨I.ok, I.os, I.bare, ?_, I.loc, I.cell, hz I.free, fun x c q => hz (I.freeC x c q), fun p hp => ?_, fun b u q => ?_, I.len⟩
  · refine ⟨I.base.keep, I.base.slot, fun b o q n hx => hz (I.base.free b o q n hx), I.base.there, fun b xs q => ks (I.base.tups b xs q) (n1 xs).symm, fun b ob u q => ks (I.base.frzs b ob u q) (n3 ob u).symm, fun b ps q => ?_⟩
    obtain ⟨more, z⟩ := I.base.tbls b ps q
    exact ⟨more, ks z (n4 _).symm⟩
  · obtain ⟨a1, a2, a3⟩ := I.pin p hp
    exact ⟨a1, hz a2, a3⟩
  · by_cases hb : b = r
    · rw [hb, upd_same] at q
      cases q
      rw [hb]
      exact ok _ _ (I.hok r o e)
    · rw [upd_ne hb] at q
      exact (I.hok b u q).stay (fun _ _ _ z => z) (fun c z => ks z (n2 _).symm) fun c xs z => ks z (n1 _).symm
theorem row_open {X : Cx} {pins : List (Addr × Obj)} {σ : L2.St} {H : Hp} {s : Shared} {r a : Addr} (I : Inv X pins σ H s) (e : H r = some (RowO r a)) :
    ∃ i x y : Int, (0 ≤ i ∧ 0 ≤ x ∧ x < 2147483647) ∧ Inv X pins σ (upd H r (.lst [.ref a, .int i, .int x, .int y])) s := by
  have hx : ObjOk X.prog X.w H s.heap r (.ext fun h => ∃ (i x y : Int) (its : List Value) (n : Nat), (0 ≤ i ∧ 0 ≤ x ∧ x < 2147483647) ∧ Vals [.ref a, .int i, .int x, .int y] its ∧ h.get? r = some { cls := .type "list", data := .seq its.toArray n }) := I.hok r _ e
  obtain ⟨⟨i, x, y, its, n, hb, hv, hg⟩, _, _⟩ := hx
  refine ⟨i, x, y, hb, ?_⟩
  have hs : s.heap = s.heap := rfl
  have I2 := inv_retype (o' := .lst [.ref a, .int i, .int x, .int y]) (o := RowO r a) I e rowO_tup rowO_own rowO_frz rowO_tbl
  have key : ∀ (H' : Hp), ObjOk X.prog X.w H' s.heap r (.lst [.ref a, .int i, .int x, .int y]) := fun H' => ⟨by rw [sizeLine_eq]; exact (by decide : 4 ≤ 16777216), its, n, hv, hg⟩
  -- only this heap matters
  have hz : ∀ {b : Addr}, H b = none → upd H r (.lst [.ref a, .int i, .int x, .int y]) b = none := fun {b} n => by
    have hb : b ≠ r := fun z => by rw [z, e] at n; cases n
    rw [upd_ne hb]
    exact n
  have ks : ∀ {b : Addr} {u : HO}, H b = some u → u ≠ RowO r a → upd H r (.lst [.ref a, .int i, .int x, .int y]) b = some u := fun {b u} q n => by
    have hb : b ≠ r := fun z => by rw [z, e] at q; exact n (Option.some.inj q).symm
    rw [upd_ne hb]
    exact q
  refine ⟨I.ok, I.os, I.bare, ?_, I.loc, I.cell, hz I.free, fun x c q => hz (I.freeC x c q), fun p hp => ?_, fun b u q => ?_, I.len⟩
  · refine ⟨I.base.keep, I.base.slot, fun b o q n hx => hz (I.base.free b o q n hx), I.base.there, fun b xs q => ks (I.base.tups b xs q) (rowO_tup xs).symm, fun b ob u q => ks (I.base.frzs b ob u q) (rowO_frz ob u).symm, fun b ps q => ?_⟩
    obtain ⟨more, z⟩ := I.base.tbls b ps q
    exact ⟨more, ks z (rowO_tbl _).symm⟩
  · obtain ⟨a1, a2, a3⟩ := I.pin p hp
    exact ⟨a1, hz a2, a3⟩
  · by_cases hb : b = r
    · rw [hb, upd_same] at q
      cases q
      rw [hb]
      exact key _
    · rw [upd_ne hb] at q
      exact (I.hok b u q).stay (fun _ _ _ z => z) (fun c z => ks z (rowO_own _).symm) fun c xs z => ks z (rowO_tup _).symm
theorem row_close {X : Cx} {pins : List (Addr × Obj)} {σ : L2.St} {H : Hp} {s : Shared} {r a : Addr} {i x y : Int} (I : Inv X pins σ H s) (e : H r = some (.lst [.ref a, .int i, .int x, .int y])) (hb : 0 ≤ i ∧ 0 ≤ x ∧ x < 2147483647) : Inv X pins σ (upd H r (RowO r a)) s := by
  refine inv_retype (o' := RowO r a) I e (fun _ => nofun) (fun _ => nofun) (fun _ _ => nofun) (fun _ => nofun) fun H' h z => ?_
  obtain ⟨_, its, n, rv, hg⟩ := z
  refine ⟨⟨i, x, y, its, n, hb, rv, hg⟩, ⟨_, hg⟩, fun h1 h2 z k => ?_⟩
  obtain ⟨i, x, y, its, n, hb, rv, hg⟩ := z
  exact ⟨i, x, y, its, n, hb, rv, k _ hg⟩
/-! ### readings that change nothing -/
def He (X : Cx) (σ : L2.St) (H : Hp) (e : Expr) (v : V) : Prop := ∀ Q : VK, Q v H → WE X e σ H Q
def Ht (X : Cx) (σ : L2.St) (H : Hp) (e : Expr) (b : Bool) : Prop := ∀ Q : Bool → Hp → Prop, Q b H → WT X e σ H Q
section
variable {X : Cx} {σ : L2.St} {H : Hp} {e a b : Expr} {v : V} {te : TE} {pos p : Pos} {rest : List Stmt} {D : Ends}
theorem He.of (h : PE X e te) (r : ∀ Q : VK, Q v H → te σ H Q) : He X σ H e v := fun Q q pins s I => h.run pins s σ H Q I (r Q q)
theorem Ht.of {tt : TT} {k : Bool} (h : PT X e tt) (r : ∀ Q : Bool → Hp → Prop, Q k H → tt σ H Q) : Ht X σ H e k := fun Q q pins s I => h.run pins s σ H Q I (r Q q)
theorem he_var (i : Nat) {x : Str} (hs : σ[i]? = some (some v)) (hN : X.N[i]? = some x := by rfl) (hv : Vis X.env.scope x := by first | exact Or.inl rfl | exact Or.inr (Or.inl rfl) | exact Or.inr (Or.inr rfl)) (hd : (x == ("__debug__" : Str)) = false := by decide) (hcd : (x == ("__classdict__" : Str)) = false := by decide) : He X σ H (.Name x pos) v :=
  .of (pe_var hN hv hd hcd) fun Q q => ⟨v, hs, q⟩
theorem he_int {i : Int} {j : Nat} : He X σ H (.Constant (.int i) j pos) (.int i) := .of pe_int fun Q q => q
theorem he_op {op : Operator} {r : R2} {x y : V} (ho : OpR X (binaryOp op) r) (ha : He X σ H a x) (hb : He X σ H b y) (hr : ∀ Q : VK, Q v H → r x y H Q) : He X σ H (.BinOp a op b pos) v :=
  .of (pe_op ho pe_w pe_w) fun Q q => ha _ (hb _ (hr Q q))
theorem ht_cmp {op : CmpOp} {p : Int → Int → Bool} {i j : Int} (ho : OpR X (compareOp op) (rI0 fun i j => .bl (p i j))) (ha : He X σ H a (.int i)) (hb : He X σ H b (.int j)) (hm : behindInMarks op b = false) : Ht X σ H (.Compare a [op] [b] pos) (p i j) :=
  .of (pt_cmpR ho pe_w pe_w hm) fun Q q => ha _ (hb _ ⟨i, j, rfl, rfl, p i j, rfl, q⟩)
theorem he_ix {r : Addr} {xs : List V} {i : Int} (ha : He X σ H a (.ref r)) (hb : He X σ H b (.int i)) (hq : SqL X.K H r xs) (hj : atI xs i = some v) (hs : PlainIx b := by exact fun _ _ => rfl) : He X σ H (.Subscript a b pos) v :=
  .of (pe_ix ix_list pe_w pe_w hs) fun Q q => ha _ (hb _ ⟨r, xs, i, v, rfl, rfl, hq, hj, q⟩)
theorem he_toInt {i : Int} (hm : X.mg "int" = none) (ha : He X σ H a (.int i)) (hg : Gl X "int" := by rfl) (he : starEach [a] X.env = (false, eval a X.env) :: starEach [] X.env := by rfl) : He X σ H (.Call (.Name "int" p) [a] [] pos) (.int i) :=
  .of (pe_callTy call_int1 hg hm (by decide +kernel) (pa_cons pe_w pa_nil he) (by decide) (by decide) he rfl) fun Q q => ha _ (.inl ⟨i, rfl, q⟩)
theorem he_len {r : Addr} {xs : List V} (hm : X.mg "len" = none) (ha : He X σ H a (.ref r)) (hq : SqL X.K H r xs) (hg : Gl X "len" := by rfl) (he : starEach [a] X.env = (false, eval a X.env) :: starEach [] X.env := by rfl) : He X σ H (.Call (.Name "len" p) [a] [] pos) (.int xs.length) :=
  .of (pe_callB call_len_seq hg hm PySem.boot_len (pa_cons pe_w pa_nil he) (by decide) (by decide) he rfl) fun Q q => ha _ ⟨r, xs, rfl, .inl hq, q⟩
theorem hs_if {k : Bool} {body : List Stmt} (hc : Ht X σ H e k) (h1 : k = true → Ws X body { D with nx := fun σ' H' => Ws X rest D σ' H' } σ H) (h2 : k = false → Ws X rest D σ H) : Ws X (.If e body [] pos :: rest) D σ H := by
  refine ws_cons (ps_if pt_w pss_w pss_w) (hc _ ?_)
  cases k with
  | true => exact h1 rfl
  | false => exact ws_nil (h2 rfl)
theorem hs_set {i : Nat} {x : Str} {pos' : Pos} (hN : X.N.Nodup) (hi : X.N[i]? = some x) (hx : Loc X.env.scope x) (he : He X σ H e v) (k : Ws X rest D (σ.set i (some v)) H) (hs : swapsWith e (some (.Name x pos')) pos.line X.env = pure false := by rfl)
    (hf : X.fn x = true ∨ X.env.scope.names.lookup x = some .local := by first | exact .inl rfl | exact .inr rfl | assumption) : Ws X (.Assign [.Name x pos'] e pos :: rest) D σ H :=
  ws_cons (ps_set hN hi hx pe_w hs hf) (he _ k)
theorem hs_ret (he : He X σ H e v) (k : D.rt v H) : Ws X (.Return (some e) pos :: rest) D σ H := ws_cons (ps_ret pe_w) (he _ k)
/-- row[c] = e -/
theorem hs_put {r : Addr} {xs : List V} {i : Int} {j : Nat} {p1 : Pos} (hp : H r = some (.lst xs)) (ha : He X σ H a (.ref r)) (hb : He X σ H b (.int i)) (hj : ixN xs.length i = some j) (he : He X σ H e v) (k : Ws X rest D σ (upd H r (.lst (xs.set j v))))
    (hsub : ∀ v, assign (.Subscript a b p1) X.env v = (do
      let ov ← holding [v] (eval a X.env)
      let iv ← holding [v, ov] (eval b X.env)
      standAt p1
      holding [v, ov, iv] (setItem ov iv v)
      release [v, ov, iv] []) := by intro _; rfl)
    (hs : swapsWithSole [.Subscript a b p1] e pos.line X.env = pure false := by rfl) (hw : swappedStores [.Subscript a b p1] e X.env = pure none := by rfl) (h1 : (assignEach [.Subscript a b p1] X.env).map (·.2) = [assign (.Subscript a b p1) X.env] := by rfl) :
    Ws X (.Assign [.Subscript a b p1] e pos :: rest) D σ H :=
  ws_cons (ps_asg pe_w (pg_sub pe_w pe_w set_list hsub) hs hw h1) (he _ (ha _ (hb _ ⟨r, xs, i, j, rfl, rfl, hp, hj, k⟩)))
end
end WR
end
section
set_option Elab.async false
set_option linter.all false
set_option maxRecDepth 100000
namespace WR
open PySem PySem.Spec PyProof.Rows L2
theorem upd_upd {H : Hp} {r : Addr} {o o' : HO} : upd (upd H r o) r o' = upd H r o' := by
  funext b
  by_cases h : b = r
  · rw [h, upd_same, upd_same]
  · rw [upd_ne h, upd_ne h, upd_ne h]
theorem upd_id {H : Hp} {r : Addr} {o : HO} (e : H r = some o) : upd H r o = H := by
  funext b
  by_cases h : b = r
  · rw [h, upd_same, e]
  · rw [upd_ne h]
theorem sqL_upd {K : PySem.W.Frag} {H : Hp} {a r : Addr} {xs : List V} {o : HO} (h : SqL K H a xs) (hr : H r = some o) (n1 : ∀ xs, o ≠ .lst xs) (n2 : ∀ b u, o ≠ .frz b u) {o' : HO} : SqL K (upd H r o') a xs := by
  rcases h with (h | ⟨b, h⟩) | h
  · have e : a ≠ r := fun z => by rw [z, hr] at h; exact n1 _ (Option.some.inj h)
    exact .inl (.inl (by rw [upd_ne e]; exact h))
  · have e : a ≠ r := fun z => by rw [z, hr] at h; exact n2 _ _ (Option.some.inj h)
    exact .inl (.inr ⟨b, by rw [upd_ne e]; exact h⟩)
  · exact .inr h
section
variable {X : Cx} {σ : L2.St} {H : Hp} {D : Ends} {sts : List Stmt}
/-- the row's numbers, till the end -/
theorem ws_row {r a : Addr} (e : H r = some (RowO r a)) (h : ∀ i x y : Int, (0 ≤ i ∧ 0 ≤ x ∧ x < 2147483647) → Ws X sts { D with rt := fun v H' => ∃ i x y : Int, (0 ≤ i ∧ 0 ≤ x ∧ x < 2147483647) ∧ H' r = some (.lst [.ref a, .int i, .int x, .int y]) ∧ D.rt v (upd H' r (RowO r a)), nx := fun _ _ => False, bk := fun _ _ => False, ct := fun _ _ => False } σ (upd H r (.lst [.ref a, .int i, .int x, .int y]))) : Ws X sts D σ H := by
  intro pins s I
  obtain ⟨i, x, y, hb, J⟩ := row_open I e
  refine PySem.wpAny_mono (h i x y hb pins s J) (fun fl s' hs => ?_) fun _ _ z => z
  cases fl with
  | ret u =>
    obtain ⟨v, σ', H', J2, rv, i', x', y', hb', e', q⟩ := hs
    exact ⟨v, σ', _, row_close J2 e' hb', rv, q⟩
  | next =>
    obtain ⟨_, _, _, z⟩ := hs
    exact z.elim
  | brk =>
    obtain ⟨_, _, _, z⟩ := hs
    exact z.elim
  | cont =>
    obtain ⟨_, _, _, z⟩ := hs
    exact z.elim
end
/-- a row that may be drawn from -/
structure RowAt (K : PySem.W.Frag) (H : Hp) (r : Addr) : Prop where
  ex : ∃ (a : Addr) (ns : List Int), H r = some (RowO r a) ∧ SqL K H a (ns.map V.int) ∧ ns.length ≤ 63
def TakSp (K : PySem.W.Frag) : Sp := fun vs H Q _ => ∃ (r : Addr) (many : Int), vs = [.ref r, .int many] ∧ RowAt K H r ∧ 1 ≤ many ∧ many < 40000 ∧ ∀ k : Int, 0 ≤ k → k < many → Q (.int k) H
abbrev n33 : List Str := ["_law_row", "_law_many", "_law_found", "_law_cell"]
theorem sc33 : FnScope n33 ["_law_row", "_law_many"] (defScope (topS 33)) := ⟨rfl, rfl, rfl, by decide +kernel, rfl, by decide +kernel, by decide +kernel⟩
section
variable {P : Program} {w : World} {K : PySem.W.Frag} {mg : Str → Option Value} {base : Heap} {f : Addr} {fd : FuncData}
theorem ok_taken (B : Bt mg) (F : Fun K "_law_taken" "_law_taken" (topS 33) f fd) : FnOk P w K mg base CX0 1 f fd ["_law_row", "_law_many"] (TakSp K) := by
  refine F.ok sc33 (fun vs H Q E h => by obtain ⟨r, many, rfl, _⟩ := h; rfl) fun cdv A outer s H vs Q E hr h => ⟨_, pss_w, ?_⟩
  obtain ⟨r, many, rfl, ⟨a, ns, er, hS, hl⟩, h1, h2, q⟩ := h
  have q0 : ∀ {k : Int} {i x y : Int}, 0 ≤ k → k < many → (0 ≤ i ∧ 0 ≤ x ∧ x < 2147483647) → ∃ i' x' y' : Int, (0 ≤ i' ∧ 0 ≤ x' ∧ x' < 2147483647) ∧ upd H r (.lst [.ref a, .int i, .int x, .int y]) r = some (.lst [.ref a, .int i', .int x', .int y']) ∧ Q (.int k) (upd (upd H r (.lst [.ref a, .int i, .int x, .int y])) r (RowO r a)) := fun {k i x y} k1 k2 hb =>
    ⟨i, x, y, hb, upd_same, by rw [upd_upd, upd_id er]; exact q k k1 k2⟩
  have qm : ∀ z : Int, 0 ≤ z % many ∧ z % many < many := fun z => ⟨Int.emod_nonneg z (by omega), Int.emod_lt_of_pos z (by omega)⟩
  refine ws_row er fun i x y hb => ?_
  have row : ∀ {i x y : Int}, SqL K (upd H r (.lst [.ref a, .int i, .int x, .int y])) r [.ref a, .int i, .int x, .int y] := .inl (.inl upd_same)
  have scr : ∀ {o : HO}, SqL K (upd H r o) a (ns.map V.int) := sqL_upd hS er rowO_lst rowO_frz
  refine hs_if (k := decide (0 < y)) (ht_cmp op_gt (he_ix (he_var 0 rfl) he_int row (atI_nat (j := 3) rfl)) he_int (nomark _)) (fun k => ?_) fun k => ?_
  · refine hs_set (i := 2) (v := .int (y % many)) sc33.nd rfl (Or.inl rfl) (he_op op_mod (he_toInt B.int (he_ix (he_var 0 rfl) he_int row (atI_nat (j := 3) rfl))) (he_var 1 rfl) fun Q q => ⟨_, _, rfl, rfl, by omega, q⟩) ?_
    refine hs_put (r := r) (j := 3) (v := .int (y / many)) upd_same (he_var 0 rfl) he_int (by decide : ixN 4 3 = some 3) (he_op op_fdiv (he_ix (he_var 0 rfl) he_int row (atI_nat (j := 3) rfl)) (he_var 1 rfl) fun Q q => ⟨_, _, rfl, rfl, ⟨by omega, by omega⟩, q⟩) ?_
    rw [upd_upd]
    exact hs_ret (v := .int (y % many)) (he_var 2 rfl) (q0 (qm y).1 (qm y).2 hb)
  · refine hs_put (r := r) (j := 1) (v := .int (i + 1)) upd_same (he_var 0 rfl) he_int (by decide : ixN 4 1 = some 1) (he_op op_add (he_ix (he_var 0 rfl) he_int row (atI_nat (j := 1) rfl)) he_int fun Q q => ⟨_, _, rfl, rfl, q⟩) ?_
    rw [upd_upd]
    show Ws _ _ _ _ (upd H r (.lst [.ref a, .int (i + 1), .int x, .int y]))
    refine hs_if (k := decide (((ns.map V.int).length : Int) < i + 1)) (ht_cmp op_gt (he_ix (he_var 0 rfl) he_int row (atI_nat (j := 1) rfl)) (he_len B.len (he_ix (he_var 0 rfl) he_int row (atI_nat (j := 0) rfl)) scr) (nomark _)) (fun k2 => ?_) fun k2 => ?_
    · refine hs_put (r := r) (j := 2) (v := .int ((x * 48271 + 11) % 2147483647)) upd_same (he_var 0 rfl) he_int (by decide : ixN 4 2 = some 2) (he_op op_mod (he_toInt B.int (he_op op_add (he_op op_mul (he_ix (he_var 0 rfl) he_int row (atI_nat (j := 2) rfl)) he_int fun Q q => ⟨_, _, rfl, rfl, .inr (by omega), q⟩) he_int fun Q q => ⟨_, _, rfl, rfl, q⟩)) he_int fun Q q => ⟨_, _, rfl, rfl, by omega, q⟩) ?_
      rw [upd_upd]
      show Ws _ _ _ _ (upd H r (.lst [.ref a, .int (i + 1), .int ((x * 48271 + 11) % 2147483647), .int y]))
      refine hs_ret (v := .int (((x * 48271 + 11) % 2147483647 / 7) % many)) (he_op op_mod (he_toInt B.int (he_op op_fdiv (he_ix (he_var 0 rfl) he_int row (atI_nat (j := 2) rfl)) he_int fun Q q => ⟨_, _, rfl, rfl, ⟨by omega, by omega⟩, q⟩)) (he_var 1 rfl) fun Q q => ⟨_, _, rfl, rfl, by omega, q⟩) (q0 (qm _).1 (qm _).2 ⟨by omega, by omega, by omega⟩)
    · have hlt : i + 1 ≤ ns.length := by
        have := of_decide_eq_false k2
        rw [List.length_map] at this
        omega
      obtain ⟨j, hj⟩ : ∃ j : Nat, i = (j : Int) := ⟨i.toNat, by omega⟩
      subst hj
      have hjl : j < ns.length := by omega
      have hat : atI (ns.map V.int) ((j : Int) + 1 - 1) = some (.int ns[j]) := by
        have e : ((j : Int) + 1 - 1) = (j : Int) := by omega
        rw [e]
        refine atI_nat ?_
        rw [List.getElem?_map, List.getElem?_eq_getElem hjl]; rfl
      generalize ns[j] = c at hat
      refine hs_set (i := 3) (v := .int c) sc33.nd rfl (Or.inl rfl) (he_ix (he_ix (he_var 0 rfl) he_int row (atI_nat (j := 0) rfl)) (he_op op_sub (he_ix (he_var 0 rfl) he_int row (atI_nat (j := 1) rfl)) he_int fun Q q => ⟨_, _, rfl, rfl, q⟩) scr hat (hs := fun _ _ => rfl)) ?_
      refine hs_put (r := r) (j := 2) (v := .int ((x * 48271 + c + 11) % 2147483647)) upd_same (he_var 0 rfl) he_int (by decide : ixN 4 2 = some 2) (he_op op_mod (he_toInt B.int (he_op op_add (he_op op_add (he_op op_mul (he_ix (he_var 0 rfl) he_int row (atI_nat (j := 2) rfl)) he_int fun Q q => ⟨_, _, rfl, rfl, .inr (by omega), q⟩) (he_var 3 rfl) fun Q q => ⟨_, _, rfl, rfl, q⟩) he_int fun Q q => ⟨_, _, rfl, rfl, q⟩)) he_int fun Q q => ⟨_, _, rfl, rfl, by omega, q⟩) ?_
      rw [upd_upd]
      show Ws _ _ _ _ (upd H r (.lst [.ref a, .int ((j : Int) + 1), .int ((x * 48271 + c + 11) % 2147483647), .int y]))
      have hb2 : (0 : Int) ≤ (j : Int) + 1 ∧ 0 ≤ (x * 48271 + c + 11) % 2147483647 ∧ (x * 48271 + c + 11) % 2147483647 < 2147483647 := ⟨by omega, by omega, by omega⟩
      refine hs_if (k := decide ((10 : Int) ^ (18 : Int).toNat ≤ c)) (ht_cmp op_ge (he_var 3 rfl) (he_op op_pow he_int he_int fun Q q => ⟨_, _, rfl, rfl, ⟨by decide, by decide, by decide⟩, q⟩) (nomark _)) (fun k3 => ?_) fun k3 => ?_
      · refine hs_put (r := r) (j := 3) (v := .int (c / many)) upd_same (he_var 0 rfl) he_int (by decide : ixN 4 3 = some 3) (he_op op_fdiv (he_var 3 rfl) (he_var 1 rfl) fun Q q => ⟨_, _, rfl, rfl, ⟨by omega, by omega⟩, q⟩) ?_
        rw [upd_upd]
        refine ws_nil ?_
        exact hs_ret (v := .int (c % many)) (he_op op_mod (he_toInt B.int (he_var 3 rfl)) (he_var 1 rfl) fun Q q => ⟨_, _, rfl, rfl, by omega, q⟩) (q0 (qm _).1 (qm _).2 hb2)
      · exact hs_ret (v := .int (c % many)) (he_op op_mod (he_toInt B.int (he_var 3 rfl)) (he_var 1 rfl) fun Q q => ⟨_, _, rfl, rfl, by omega, q⟩) (q0 (qm _).1 (qm _).2 hb2)
end
end WR
end
section
set_option Elab.async false
set_option linter.all false
set_option maxRecDepth 100000
/-! readings whose value is one of some -/
namespace WR
open PySem PySem.Spec PyProof.Rows L2
def Gn (Rl : Hp → Hp → Prop) (X : Cx) (σ : L2.St) (G : Hp) (e : Expr) (S : PyData → Prop) : Prop := ∀ G1, Ex G G1 → ∀ H, Sub G1 H → ∀ Q : VK, (∀ d v G' H', S d → Gr Rl G1 H G' H' → Rp G' v d → Q v H') → WE X e σ H Q
def Gna (Rl : Hp → Hp → Prop) (X : Cx) (σ : L2.St) (G : Hp) (es : List Expr) (S : List PyData → Prop) : Prop := ∀ G1, Ex G G1 → ∀ H, Sub G1 H → ∀ Q : List V → Hp → Prop, (∀ ds vs G' H', S ds → Gr Rl G1 H G' H' → RpAll G' vs ds → Q vs H') → WA X es σ H Q
section
variable {Rl : Hp → Hp → Prop} [RlOk Rl] {X : Cx} {σ : L2.St} {G G' H : Hp} {e a b : Expr} {d d1 d2 : PyData} {S S1 S2 S' : PyData → Prop} {pos p p2 : Pos} {es : List Expr} {rest : List Stmt} {D : Ends}
theorem Gn.of {te : TE} (h : PE X e te) (r : ∀ G1, Ex G G1 → ∀ H, Sub G1 H → ∀ Q : VK, (∀ d v G' H', S d → Gr Rl G1 H G' H' → Rp G' v d → Q v H') → te σ H Q) : Gn Rl X σ G e S := fun G1 x H s Q q pins sh I => h.run pins sh σ H Q I (r G1 x H s Q q)
theorem Gna.of {ta : TA} {T : List PyData → Prop} (h : PA X es ta) (r : ∀ G1, Ex G G1 → ∀ H, Sub G1 H → ∀ Q : List V → Hp → Prop, (∀ d v G' H', T d → Gr Rl G1 H G' H' → RpAll G' v d → Q v H') → ta σ H Q) : Gna Rl X σ G es T := fun G1 x H s Q q pos pins sh I => h.run pos pins sh σ H Q I (r G1 x H s Q q)
theorem gn_gd (h : Gd Rl X σ G e d) : Gn Rl X σ G e (· = d) := fun G1 x H s Q q => h G1 x H s Q fun v G' H' g r => q d v G' H' rfl g r
theorem gn_mono (h : Gn Rl X σ G e S) (k : ∀ d, S d → S' d) : Gn Rl X σ G e S' := fun G1 x H s Q q => h G1 x H s Q fun d v G' H' z g r => q d v G' H' (k d z) g r
theorem gna_nil : Gna Rl X σ G [] (· = []) := .of pa_nil fun G1 x H s Q q => q [] [] G1 H rfl (.refl s) .nil
theorem gna_cons {T : List PyData → Prop} (h : Gn Rl X σ G e S) (t : Gna Rl X σ G es T) (hs : starEach (e :: es) X.env = (false, eval e X.env) :: starEach es X.env := by rfl) : Gna Rl X σ G (e :: es) (fun ds => ∃ d r, ds = d :: r ∧ S d ∧ T r) :=
  .of (pa_cons pe_w pa_w hs) fun G1 x H s Q q => h G1 x H s _ fun d v G2 H2 z e2 r2 => t G2 (x.trans e2.ex) H2 e2.sub _ fun ds vs G3 H3 zs e3 r3 => q (d :: ds) (v :: vs) G3 H3 ⟨d, ds, rfl, z, zs⟩ (e2.trans e3) (.cons (r2.mono e3.ex) r3)
theorem gna_ga {ds : List PyData} (h : Ga Rl X σ G es ds) : Gna Rl X σ G es (· = ds) := fun G1 x H s Q q => h G1 x H s Q fun v G' H' g r => q ds v G' H' rfl g r
theorem gna_mono {T T' : List PyData → Prop} (h : Gna Rl X σ G es T) (k : ∀ d, T d → T' d) : Gna Rl X σ G es T' := fun G1 x H s Q q => h G1 x H s Q fun d v G' H' z g r => q d v G' H' (k d z) g r
/-- one operation -/
theorem gn_op {op : Operator} {r : R2} (ho : OpR X (binaryOp op) r) (ha : Gn Rl X σ G a S1) (hb : Gn Rl X σ G b S2) (hr : ∀ d1 d2, S1 d1 → S2 d2 → ∃ d, S d ∧ RD Rl r d1 d2 d) : Gn Rl X σ G (.BinOp a op b pos) S :=
  .of (pe_op ho pe_w pe_w) fun G1 x H s Q q => ha G1 x H s _ fun d1 v G2 H2 z1 e2 r2 => hb G2 (x.trans e2.ex) H2 e2.sub _ fun d2 w G3 H3 z2 e3 r3 => by
    obtain ⟨d, z, k⟩ := hr d1 d2 z1 z2
    exact k G3 H3 v w e3.sub (r2.mono e3.ex) r3 Q fun u G4 H4 e4 r4 => q d u G4 H4 z ((e2.trans e3).trans e4) r4
/-- a call of a built-in -/
theorem gn_cb {id : String} {r : List V → Hp → VK → Prop} {x : Str} {T : List PyData → Prop} (hc : CallR X (.builtin id) r) (hr : ∀ ds, T ds → ∃ d, S d ∧ RCD Rl r ds d) (hm : X.mg x = none) (hv : bootBuiltins x = some (.builtin id)) (ha : Gna Rl X σ G (e :: es) T) (hg : Gl X x := by rfl) (hn : x ≠ "__name__" := by decide) (hdb : (x == ("__debug__" : Str)) = false := by decide)
    (he : starEach (e :: es) X.env = (false, eval e X.env) :: starEach es X.env := by rfl) (hpl : (backTo pos (starEach es X.env)).any (·.1) = false := by rfl) : Gn Rl X σ G (.Call (.Name x p) (e :: es) [] pos) S :=
  .of (pe_callB hc hg hm hv pa_w hn hdb he hpl) fun G1 x H s Q q => ha G1 x H s _ fun ds vs G2 H2 z e2 rs => by
    obtain ⟨d, zd, k⟩ := hr ds z
    exact k G2 H2 vs e2.sub rs Q fun v G3 H3 e3 r3 => q d v G3 H3 zd (e2.trans e3) r3
theorem gn_ct {Ty : String} {r : List V → Hp → VK → Prop} {x : Str} {T : List PyData → Prop} (hc : CallR X (.type Ty) r) (hr : ∀ ds, T ds → ∃ d, S d ∧ RCD Rl r ds d) (hm : X.mg x = none) (hv : bootBuiltins x = some (.type Ty)) (ha : Gna Rl X σ G (e :: es) T) (hg : Gl X x := by rfl) (hn : x ≠ "__name__" := by decide) (hdb : (x == ("__debug__" : Str)) = false := by decide)
    (he : starEach (e :: es) X.env = (false, eval e X.env) :: starEach es X.env := by rfl) (hpl : (backTo pos (starEach es X.env)).any (·.1) = false := by rfl) : Gn Rl X σ G (.Call (.Name x p) (e :: es) [] pos) S :=
  .of (pe_callTy hc hg hm hv pa_w hn hdb he hpl) fun G1 x H s Q q => ha G1 x H s _ fun ds vs G2 H2 z e2 rs => by
    obtain ⟨d, zd, k⟩ := hr ds z
    exact k G2 H2 vs e2.sub rs Q fun v G3 H3 e3 r3 => q d v G3 H3 zd (e2.trans e3) r3
theorem gn_tuple (hm : X.mg "tuple" = none) (ha : Gn Rl X σ G a S1) (k : ∀ d, S1 d → ∃ ds, d = .list ds ∧ S (.tuple ds)) (hg : Gl X "tuple" := by rfl) (he : starEach [a] X.env = (false, eval a X.env) :: starEach [] X.env := by rfl) : Gn Rl X σ G (.Call (.Name "tuple" p) [a] [] pos) S :=
  gn_ct call_tuple_of (fun ds ⟨d, r, e, z, er⟩ => by
    obtain ⟨l, rfl, hs⟩ := k d z
    rw [e, er]
    exact ⟨_, hs, rc_tupL⟩) hm (by decide +kernel) (gna_cons ha gna_nil he) hg (by decide) (by decide) he rfl
/-- xs[e] -/
theorem gn_ixL {ds : List PyData} (ha : Gd Rl X σ G a (.list ds)) (hb : Gn Rl X σ G b S1) (k : ∀ d, S1 d → ∃ (i : Int) (x : PyData), d = .int i ∧ atI ds i = some x ∧ S x) (hs : PlainIx b := by exact fun _ _ => rfl) : Gn Rl X σ G (.Subscript a b pos) S :=
  .of (pe_ix ix_list pe_w pe_w hs) fun G1 x H s Q q => ha G1 x H s _ fun v G2 H2 e2 r2 => hb G2 (x.trans e2.ex) H2 e2.sub _ fun d w G3 H3 z e3 r3 => by
    obtain ⟨i, u, rfl, hi, hu⟩ := k d z
    exact rd_ixL hi G3 H3 v w e3.sub (r2.mono e3.ex) r3 Q fun y G4 H4 e4 r4 => q u y G4 H4 hu ((e2.trans e3).trans e4) r4
/-- xs[:e] -/
theorem gn_cutL {ds : List PyData} {p2 : Pos} (ha : Gd Rl X σ G a (.list ds)) (hb : Gn Rl X σ G b S1) (k : ∀ d, S1 d → ∃ i : Int, d = .int i ∧ S (.list (cutD ds none (some i)))) : Gn Rl X σ G (.Subscript a (.Slice none (some b) none p2) pos) S := by
  refine .of (pe_slice sl_list pe_w po_none (po_some pe_w)) fun G1 x H s Q q => ha G1 x H s _ fun v G2 H2 e2 r => hb G2 (x.trans e2.ex) H2 e2.sub _ fun d w G3 H3 z e3 r3 => ?_
  obtain ⟨i, rfl, hi⟩ := k d z
  refine ⟨i, r3.intE, ?_⟩
  obtain ⟨t, xs, rfl, ht, rs⟩ := (r.mono e3.ex).lstE
  refine ⟨t, xs, rfl, SqL.of (e3.sub.1 _ _ ht), fun p hp => ?_⟩
  refine q _ _ _ _ hi ((e2.trans e3).trans (.laid e3.sub hp (fun _ z => by cases z))) (Rp.newL (e3.sub.fr hp) ?_)
  unfold cutV cutD
  rw [rs.len]
  exact (rs.drop _).take _
theorem gn_tup {k : Nat} {T : List PyData → Prop} (h : Gna Rl X σ G es T) (hl : ∀ ds, T ds → ds.length ≤ 100000 ∧ S (.tuple ds)) : Gn Rl X σ G (.Tuple es k pos) S :=
  .of (pe_tup pa_w) fun G1 x H s Q q => h G1 x H s _ fun ds vs G2 H2 z e2 rs => ⟨Evl.sz_of (by rw [rs.len]; exact (hl ds z).1), fun p hp => q _ _ _ _ (hl ds z).2 (e2.trans (.laid e2.sub hp (fun _ z => by cases z))) (Rp.newT (e2.sub.fr hp) rs)⟩
theorem gn_lst {T : List PyData → Prop} (h : Gna Rl X σ G es T) (hl : ∀ ds, T ds → ds.length ≤ 100000 ∧ S (.list ds)) : Gn Rl X σ G (.List es pos) S :=
  .of (pe_lst pa_w) fun G1 x H s Q q => h G1 x H s _ fun ds vs G2 H2 z e2 rs => ⟨Evl.sz_of (by rw [rs.len]; exact (hl ds z).1), fun p hp => q _ _ _ _ (hl ds z).2 (e2.trans (.laid e2.sub hp (fun _ z => by cases z))) (Rp.newL (e2.sub.fr hp) rs)⟩
theorem ws_setN {i : Nat} {x : Str} {pos' : Pos} (hN : X.N.Nodup) (hi : X.N[i]? = some x) (hx : Loc X.env.scope x) (sb : Sub G H) (he : Gn Rl X σ G e S) (k : ∀ d v G' H', S d → Gr Rl G H G' H' → Rp G' v d → Ws X rest D (σ.set i (some v)) H') (hs : swapsWith e (some (.Name x pos')) pos.line X.env = pure false := by rfl)
    (hf : X.fn x = true ∨ X.env.scope.names.lookup x = some .local := by first | exact .inl rfl | exact .inr rfl | assumption) : Ws X (.Assign [.Name x pos'] e pos :: rest) D σ H :=
  ws_cons (ps_set hN hi hx pe_w hs hf) (he G (Evl.Ex.refl G) H sb _ fun d v G' H' z g r => k d v G' H' z g r)
theorem ws_retN (sb : Sub G H) (he : Gn Rl X σ G e S) (k : ∀ d v G' H', S d → Gr Rl G H G' H' → Rp G' v d → D.rt v H') : Ws X (.Return (some e) pos :: rest) D σ H :=
  ws_cons (ps_ret pe_w) (he G (Evl.Ex.refl G) H sb _ fun d v G' H' z g r => k d v G' H' z g r)
end
/-! ### comprehensions -/
section
variable {Rl : Hp → Hp → Prop} [RlOk Rl] {X : Cx} {σ : L2.St} {G G' : Hp} {e elt iter : Expr} {ifs : List Expr} {scope : Scope} {x : Str} {j : Nat} {tpos pos : Pos} {S S1 S2 : PyData → Prop}
/-- [elt for x in range(n)], n and elt not told -/
theorem gn_lcR {rp ip : Pos} {ne : Expr} (hc : X.calm = true) (hN : X.N.Nodup) (ok : BlkOk X.N X.env.scope scope [(x, j)]) (hg : InB X scope fun Y => PG Y (.Name x tpos) (gName j)) (hm : X.mg "range" = none)
    (hi : Gn Rl X σ G ne S1) (hz : ∀ d, S1 d → ∃ i : Int, d = .int i ∧ 0 ≤ i ∧ i < 1000) (hb : ∀ (i : Nat) G1, Ex G G1 → InB X scope fun Y => Gn Rl Y ((wipe σ [j]).set j (some (.int (i : Int)))) G1 elt S2) (k : ∀ (i : Int) (ds : List PyData), S1 (.int i) → (ds.length : Int) ≤ i → (∀ d ∈ ds, S2 d) → S (.list ds))
    (hgr : Gl X "range" := by rfl) (hst : starEach [ne] X.env = (false, eval ne X.env) :: starEach [] X.env := by rfl) (hs : ∀ x, foldedSetIterable (.Call (.Name "range" rp) [ne] [] ip) X.env x = pure x := by intro _; rfl) :
    Gn Rl X σ G (.ListComp elt [⟨.Name x tpos, .Call (.Name "range" rp) [ne] [] ip, [], 0⟩] scope pos) S := by
  refine .of (pe_lc (own := [(x, j)]) hc hN (pi_range1 hgr hm (pa_cons pe_w pa_nil hst) hst) ok hg (tt := WBI X scope []) pi_wb pe_wb hs) fun G0 x0 H s Q q => hi G0 x0 H s _ fun d v G1 H1 zd e1 r1 => ?_
  obtain ⟨z, rfl, z0, z1⟩ := hz d zd
  obtain rfl := r1.intE
  refine ⟨z, rfl, by omega, by omega, fun D hD => ?_⟩
  obtain ⟨n, rfl⟩ : ∃ n : Nat, z = (n : Int) := ⟨z.toNat, by omega⟩
  rw [Int.toNat_natCast]
  refine lc_range (lo := 0) (n := n) (fun i H' => ∃ ds, ds.length ≤ i ∧ (∀ d ∈ ds, S2 d) ∧ Cv Rl G1 H1 D (fun _ => ds) i H') ⟨[], Nat.le_refl _, by simp, cv_start e1.sub hD rfl⟩ (fun i H' hi2 c => ?_) fun H' c => ?_
  · obtain ⟨ds, dl, dS, G', g, gD, acc, hacc, ra⟩ := c
    have e0 : (0 : Int) + (i : Int) = (i : Int) := Int.zero_add _
    rw [e0]
    refine ⟨wipe1 σ j _, fun s0 H0 C cl fp => ?_⟩
    refine gi_nil (Rl := Rl) G' (Evl.Ex.refl G') H' g.sub _ fun G2 H3 e3 => ?_
    rw [if_pos rfl]
    have nl : ∀ ps, HO.lst acc ≠ .tbl ps := fun _ z => by cases z
    have a3 : H3 D = some (.lst acc) := RlOk.keep e3.rl hacc nl
    have n3 : G2 D = none := e3.out gD hacc nl
    intro s1 H1b C1 cl1 fp1
    refine hb i G2 ((x0.trans e1.ex).trans (g.ex.trans e3.ex)) s1 H1b C1 cl1 fp1 G2 (Evl.Ex.refl G2) H3 e3.sub _ fun d y G3 H4 zd2 e4 ry => ?_
    have a4 : H4 D = some (.lst acc) := RlOk.keep e4.rl a3 nl
    have n4 : G3 D = none := e4.out n3 a3 nl
    have hal : acc.length = ds.length := ra.len
    refine ⟨acc, a4, Nat.lt_of_lt_of_le (by omega : acc.length < 100000) (by decide), ds ++ [d], by rw [List.length_append]; simp; omega, fun d' hd' => ?_, G3, ⟨(g.ex.trans e3.ex).trans e4.ex, ⟨fun b o h => ?_, e4.sub.2⟩, RlOk.muL ((g.trans e3).trans e4).rl hD a4, ((g.trans e3).trans e4).new⟩, n4, acc ++ [y], upd_same, ((ra.mono e3.ex).mono e4.ex).app (.cons ry .nil)⟩
    · rcases List.mem_append.mp hd' with h | h
      · exact dS d' h
      · rw [List.mem_singleton.mp h]; exact zd2
    · rw [upd_ne (ne_of_none h n4)]
      exact e4.sub.1 b o h
  · obtain ⟨ds, dl, dS, c⟩ := c
    obtain ⟨G', g, r⟩ := cv_end hD c
    exact q _ _ G' H' (k _ ds zd (by omega) dS) (e1.trans g) r
/-- [x for x in e if p x], e a tuple of texts, not told -/
theorem gn_filT {T : List Str → Prop} (p : List Str → Str → Bool) (hc : X.calm = true) (hN : X.N.Nodup) (ok : BlkOk X.N X.env.scope scope [(x, j)]) (hg : InB X scope fun Y => PG Y (.Name x tpos) (gName j)) (hi : Gn Rl X σ G iter S1) (hz : ∀ d, S1 d → ∃ l, d = strsD l ∧ T l ∧ l.length < 100000)
    (hb : ∀ l y G1, T l → y ∈ l → Ex G G1 → InB X scope fun Y => Gt Rl Y ((wipe σ [j]).set j (some (.str y))) G1 e (p l y)) (he : ∀ y G1, InB X scope fun Y => Gd Rl Y ((wipe σ [j]).set j (some (.str y))) G1 elt (.str y))
    (k : ∀ l, T l → S (.list ((l.filter (p l)).map PyData.str))) (hs : ∀ x, foldedSetIterable iter X.env x = pure x := by intro _; rfl) : Gn Rl X σ G (.ListComp elt [⟨.Name x tpos, iter, [e], 0⟩] scope pos) S := by
  refine .of (pe_lc (own := [(x, j)]) hc hN (pi_tup pe_w) ok hg pi_wb pe_wb hs) fun G0 x0 H s Q q => hi G0 x0 H s _ fun d v G1 H1 zd e1 r1 => ?_
  obtain ⟨l, rfl, hT, hl⟩ := hz d zd
  obtain ⟨a, xs, rfl, ha, rs⟩ := r1.tupE
  refine ⟨a, rfl, ⟨xs, SqT.of (e1.sub.1 _ _ ha)⟩, fun D hD => ?_⟩
  refine lc_tup (xs := xs) (Cv Rl G1 H1 D fun i => ((l.take i).filter (p l)).map PyData.str) (cv_start e1.sub hD rfl) (fun i H' _ c => ?_) (fun i u H' hu c => ?_) fun H' c => ?_
  · obtain ⟨G', g, _⟩ := c
    exact SqT.of (g.sub.1 _ _ (g.ex _ _ ha))
  · obtain ⟨d, hd, rd⟩ := rs.get hu
    rw [List.getElem?_map] at hd
    obtain ⟨y, hy, rfl⟩ := Option.map_eq_some_iff.mp hd
    obtain rfl := rd.strE
    refine ⟨wipe1 σ j _, cv_turn (k := p l y) (d := .str y) hD c (Nat.lt_of_le_of_lt (take_filter_len l (p l) PyData.str i) hl) (edt_wb fun s0 H0 C cl fp => gi_one (hb l y G1 hT (List.mem_of_getElem? hy) (x0.trans e1.ex) s0 H0 C cl fp)) (fun _ => ed_wb (he y G1)) (fun k => take_filter_yes hy k) fun k => take_filter_no hy k⟩
  · obtain ⟨G', g, r⟩ := cv_end hD c
    rw [rs.len, List.length_map, List.take_length] at r
    exact q _ _ G' H' (k l hT) (e1.trans g) r
end
/-! ### defs that draw -/
def DrSp (K : PySem.W.Frag) (n : Nat) (R : List PyData → (PyData → Prop) → Prop) : Sp := fun vs H Q _ => ∃ r ws, vs = .ref r :: ws ∧ ws.length = n ∧ ∃ G ds S, RowAt K G r ∧ Sub G H ∧ RpAll G ws ds ∧ R ds S ∧ ∀ d v G' H', S d → Gr Ex G H G' H' → Rp G' v d → Q v H'
structure Dr (P : Program) (w : World) (K : PySem.W.Frag) (mg : Str → Option Value) (base : Heap) (x : Str) (k n : Nat) (R : List PyData → (PyData → Prop) → Prop) : Prop where
  ex : ∃ f fd ps, FnOk P w K mg base CX0 k f fd ps (DrSp K n R) ∧ mg x = some (.ref f) ∧ PySem.W.keepIn K (.ref f) = true ∧ Binds K fd ps []
theorem RowAt.ex' {K : PySem.W.Frag} {G H : Hp} {r : Addr} (h : RowAt K G r) (e : Ex G H) : RowAt K H r := by
  obtain ⟨a, ns, h1, h2, h3⟩ := h
  refine ⟨a, ns, e _ _ h1, ?_, h3⟩
  rcases h2 with (h2 | ⟨b, h2⟩) | h2
  · exact .inl (.inl (e _ _ h2))
  · exact .inl (.inr ⟨b, e _ _ h2⟩)
  · exact .inr h2
section
variable {Rl : Hp → Hp → Prop} [RlOk Rl] {X : Cx} {σ : L2.St} {G : Hp} {x y : Str} {k n : Nat} {R : List PyData → (PyData → Prop) → Prop} {es : List Expr} {S : PyData → Prop} {T : List PyData → Prop} {p p2 pos : Pos} {r : Addr}
theorem gn_draw (i : Nat) (dr : Dr X.prog X.w X.K X.mg X.base x k n R) (hr : Room k X.A) (hrow : RowAt X.K G r) (hs : σ[i]? = some (some (.ref r))) (ha : Gna Rl X σ G es T) (hT : ∀ ds, T ds → ds.length = n ∧ ∃ S', R ds S' ∧ ∀ d, S' d → S d) (hN : X.N[i]? = some y := by rfl)
    (hv : Vis X.env.scope y := by first | exact Or.inl rfl | exact Or.inr (Or.inl rfl) | exact Or.inr (Or.inr rfl)) (hd : (y == ("__debug__" : Str)) = false := by decide) (hcd : (y == ("__classdict__" : Str)) = false := by decide) (hg : Gl X x := by rfl) (hdb : (x == ("__debug__" : Str)) = false := by decide)
    (he : starEach (.Name y p2 :: es) X.env = (false, eval (.Name y p2) X.env) :: starEach es X.env := by rfl) (hpl : (backTo pos (starEach es X.env)).any (·.1) = false := by rfl) : Gn Rl X σ G (.Call (.Name x p) (.Name y p2 :: es) [] pos) S := by
  obtain ⟨f, fd, ps, F, hm, hk, hb⟩ := dr.ex
  refine .of (pe_call F hr hg hm hk hb .nil pass0 (pa_cons (pe_var hN hv hd hcd) pa_w he) hdb he hpl) fun G1 x1 H s Q q => ⟨_, hs, ha G1 x1 H s _ fun ds vs G2 H2 z e2 rs => ?_⟩
  obtain ⟨hl, S', hR, hS⟩ := hT ds z
  rw [List.append_nil]
  exact ⟨r, vs, rfl, by rw [rs.len]; exact hl, G2, ds, S', hrow.ex' (x1.trans e2.ex), e2.sub, rs, hR, fun d v G3 H3 zd g r3 => q d v G3 H3 (hS d zd) (e2.trans g.ofEx) r3⟩
end
section
variable {P : Program} {w : World} {K : PySem.W.Frag} {mg : Str → Option Value} {base : Heap}
theorem dr_ok {x qual : Str} {st : Stmt} {f : Addr} {fd : FuncData} {N ps : List Str} {k n : Nat} {R : List PyData → (PyData → Prop) → Prop} (F : Fun K x qual st f fd) (S : FnScope N ps (defScope st)) (hn : ps.length = n + 1)
    (hbody : ∀ (cdv : Value) (A : Around) (outer : List Env) (s : Shared) (H0 : Hp) (E : XK) (G H : Hp) (r : Addr) (vs : List V) (ds : List PyData) (S' : PyData → Prop), Room k (bX P w K mg base N qual (defScope st) f cdv A outer s H0 E).A → RowAt K G r → Sub G H → RpAll G vs ds → ds.length = n → R ds S' →
      Ws (bX P w K mg base N qual (defScope st) f cdv A outer s H0 E) (defBody st) { nx := fun _ _ => False, rt := fun v H' => ∃ d G', S' d ∧ Gr Ex G H G' H' ∧ Rp G' v d } (start N (.ref r :: vs)) H) : FnOk P w K mg base CX0 (k + 1) f fd ps (DrSp K n R) := by
  refine F.ok S (fun vs H Q E h => ?_) fun cdv A outer s H vs Q E hr h => ⟨_, pss_w, ?_⟩
  · obtain ⟨r, ws, rfl, hl, _⟩ := h
    rw [List.length_cons, hl, hn]
  · obtain ⟨r, ws, rfl, hl, G, ds, S', hrow, sub, ra, hR, q⟩ := h
    exact ws_mono (hbody cdv A outer s H E G H r ws ds S' hr hrow sub ra (by rw [← ra.len]; exact hl) hR) (fun _ _ z => z.elim) (fun v H' ⟨d, G', z, g, r⟩ => q d v G' H' z g r) (fun _ _ z => z.elim) fun _ _ z => z.elim
end
end WR
end
section
set_option Elab.async false
set_option linter.all false
set_option maxRecDepth 100000
/-! list of a text, more operations -/
namespace WR
open PySem PySem.Spec PyProof.Rows L2
def chars (z : Str) : List Str := z.cps.toList.map fun c => ⟨#[c]⟩
theorem items_chars {z : Str} {acc : Array Value} (h : ItemsOf (SignAt z) acc z.cps.size) : Vals ((chars z).map V.str) acc.toList := by
  obtain ⟨h1, h2⟩ := h
  have key : ∀ (l : List Value) (cs : List Nat), l.length = cs.length → (∀ (j : Nat) (v : Value), l[j]? = some v → ∃ c u, cs[j]? = some c ∧ v = .str ⟨#[c]⟩ u) → Vals ((cs.map fun c => (⟨#[c]⟩ : Str)).map V.str) l := by
    intro l
    induction l with
    | nil =>
      intro cs hl _
      cases cs with
      | nil => exact .nil
      | cons _ _ => cases hl
    | cons v l ih =>
      intro cs hl hv
      cases cs with
      | nil => cases hl
      | cons c cs =>
        refine .cons ?_ (ih cs (by simpa using hl) fun j u hj => ?_)
        · obtain ⟨c', u, hc, rfl⟩ := hv 0 v rfl
          cases hc
          exact ⟨u, rfl⟩
        · exact hv (j + 1) u hj
  refine key acc.toList z.cps.toList (by rw [Array.length_toList, Array.length_toList, h1]) fun j v hj => ?_
  obtain ⟨c, u, hc, hv⟩ := h2 j v (by rw [← Array.getElem?_toList]; exact hj)
  exact ⟨c, u, by rw [Array.getElem?_toList]; exact hc, hv⟩
def rListS : List V → Hp → VK → Prop := fun xs H Q => ∃ z, xs = [.str z] ∧ z.cps.size ≤ 1000 ∧ ∀ l, H l = none → Q (.ref l) (upd H l (.lst ((chars z).map .str)))
theorem call_listS {X : Cx} (hc : X.calm = true) : CallR X (.type "list") rListS := by
  intro pins s σ H xs us Q I r h
  obtain ⟨z, rfl, hz, q⟩ := h
  obtain ⟨u, rfl, t, rfl⟩ := vals1 r
  refine call_list_str (I.ok.hd hc) z t (fun h' tk acc' c' kp e hi => ?_) (Nat.le_trans hz (by decide))
  have hv := items_chars hi
  refine ⟨.ref s.heap.objs.size, _, I.laid (t' := tk) kp (Nat.le_refl _) (show ObjOk X.prog X.w _ h' _ (.lst ((chars z).map .str)) from ⟨?_, acc'.toList, c', hv, by simpa using e⟩), rfl, q _ (I.hok.fresh (Nat.le_refl _))⟩
  unfold chars
  rw [List.length_map, List.length_map, Array.length_toList, sizeLine_eq]
  omega
section
variable {Rl : Hp → Hp → Prop} [RlOk Rl] {X : Cx} {σ : L2.St} {G : Hp} {a : Expr} {p p2 pos : Pos} {z : Str}
theorem g_listS (hc : X.calm = true) (hm : X.mg "list" = none) (hz : z.cps.size ≤ 1000) (ha : Gd Rl X σ G a (.str z)) (hg : Gl X "list" := by rfl) (he : starEach [a] X.env = (false, eval a X.env) :: starEach [] X.env := by rfl) : Gd Rl X σ G (.Call (.Name "list" p) [a] [] pos) (.list ((chars z).map .str)) :=
  g_ct (call_listS hc) (rc_one fun G H v s r Q q => ⟨z, by rw [r.strE], hz, fun l hl => q _ _ _ (.laid s hl (fun _ z => by cases z)) (Rp.newL (s.fr hl) (RpAll.ofStrs _))⟩) hm (by decide +kernel) (ga_cons ha ga_nil he) hg (by decide) (by decide) he rfl
end
end WR
end
section
set_option Elab.async false
set_option linter.all false
set_option maxRecDepth 100000
namespace WR
open PySem PySem.Spec PyProof.Rows L2
/-! ### taken, pick, some as draws -/
section
variable {P : Program} {w : World} {K : PySem.W.Frag} {mg : Str → Option Value} {base : Heap} {f : Addr} {fd : FuncData}
def RTak (ds : List PyData) (S : PyData → Prop) : Prop := ∃ many : Int, ds = [.int many] ∧ 1 ≤ many ∧ many < 40000 ∧ S = fun d => ∃ k : Int, d = .int k ∧ 0 ≤ k ∧ k < many
theorem dr_taken {ps : List Str} (F : FnOk P w K mg base CX0 1 f fd ps (TakSp K)) : FnOk P w K mg base CX0 1 f fd ps (DrSp K 1 RTak) := by
  refine F.imp fun vs H Q E h => ?_
  obtain ⟨r, ws, rfl, hl, G, ds, S, hrow, sub, ra, ⟨many, rfl, h1, h2, rfl⟩, q⟩ := h
  obtain ⟨x, _, rfl, r0, ra⟩ := ra.consE
  obtain rfl := ra.nilE
  obtain rfl := r0.intE
  exact ⟨r, many, rfl, hrow.ex' sub.1, h1, h2, fun k k1 k2 => q _ _ G H ⟨k, rfl, k1, k2⟩ (.refl sub) (.int k)⟩
def RPick (ds : List PyData) (S : PyData → Prop) : Prop := ∃ xs, ds = [.list xs] ∧ xs ≠ [] ∧ xs.length < 40000 ∧ S = (· ∈ xs)
abbrev n34 : List Str := ["_law_row", "_law_things"]
theorem sc34 : FnScope n34 ["_law_row", "_law_things"] (defScope (topS 34)) := ⟨rfl, rfl, rfl, by decide +kernel, rfl, by decide +kernel, by decide +kernel⟩
theorem atI_in {xs : List PyData} {k : Int} (h0 : 0 ≤ k) (h1 : k < xs.length) : ∃ x, atI xs k = some x ∧ x ∈ xs := by
  obtain ⟨j, rfl⟩ : ∃ j : Nat, k = (j : Int) := ⟨k.toNat, by omega⟩
  have hj : j < xs.length := by omega
  exact ⟨xs[j], atI_nat (List.getElem?_eq_getElem hj), List.getElem_mem hj⟩
theorem ok_pick (B : Bt mg) (dt : Dr P w K mg base "_law_taken" 1 1 RTak) (F : Fun K "_law_pick" "_law_pick" (topS 34) f fd) : FnOk P w K mg base CX0 2 f fd ["_law_row", "_law_things"] (DrSp K 1 RPick) := by
  refine dr_ok (R := RPick) F sc34 rfl fun cdv A outer s H0 E G H r vs ds S hr hrow sb ra hn hR => ?_
  obtain ⟨xs, rfl, h1, h2, rfl⟩ := hR
  obtain ⟨x1, _, rfl, r1, ra⟩ := ra.consE
  obtain rfl := ra.nilE
  have hl : 0 < xs.length := List.length_pos_iff.mpr h1
  refine ws_retN (Rl := Ex) (S := (· ∈ xs)) sb (gn_ixL (S1 := fun d => ∃ k : Int, d = .int k ∧ 0 ≤ k ∧ k < xs.length) (g_var 1 rfl r1) (gn_draw 0 dt (hr.mono (by decide)) hrow rfl (gna_ga (ga_cons (g_lenL B.len (g_var 1 rfl r1)) ga_nil)) fun ds e => by subst e; exact ⟨rfl, _, ⟨_, rfl, by omega, by omega, rfl⟩, fun d h => h⟩) (fun d ⟨k, e, k0, k1⟩ => ?_) (hs := fun _ _ => rfl)) fun d v G' H' z g r => ⟨d, G', z, g, r⟩
  obtain ⟨x, h3, h4⟩ := atI_in k0 k1
  exact ⟨k, x, e, h3, h4⟩
/-- some of them, in order -/
structure Some (ev l : List Str) : Prop where
  inc : incr l = true
  sub : ∀ z ∈ l, z ∈ ev
def SomeD (ev : List Str) : PyData → Prop := fun d => ∃ l, d = strsD l ∧ Some ev l
def RSome (ds : List PyData) (S : PyData → Prop) : Prop := ∃ ev : List Str, ∃ most : Int, ds = [.list (ev.map .str), .int most] ∧ ev ≠ [] ∧ ev.length ≤ 50 ∧ 0 ≤ most ∧ most ≤ 50 ∧ S = SomeD ev
abbrev n36 : List Str := ["_law_row", "_law_every", "_law_most", "_law_k"]
theorem sc36 : FnScope n36 ["_law_row", "_law_every", "_law_most"] (defScope (topS 36)) := ⟨rfl, rfl, rfl, by decide +kernel, rfl, by decide +kernel, by decide +kernel⟩
theorem all_strs : ∀ {ds : List PyData} {ev : List Str}, (∀ d ∈ ds, d ∈ ev.map PyData.str) → ∃ l : List Str, ds = l.map .str ∧ ∀ z ∈ l, z ∈ ev
  | [], ev, _ => ⟨[], rfl, by simp⟩
  | d :: r, ev, h => by
    obtain ⟨l, e, hl⟩ := all_strs fun x hx => h x (List.mem_cons_of_mem _ hx)
    obtain ⟨z, hz, rfl⟩ := List.mem_map.mp (h d List.mem_cons_self)
    exact ⟨z :: l, by rw [e]; rfl, fun y hy => (List.mem_cons.mp hy).elim (fun q => q ▸ hz) (hl y)⟩
theorem gn_sset {Rl : Hp → Hp → Prop} [RlOk Rl] {X : Cx} {σ : L2.St} {G : Hp} {a : Expr} {p p2 pos pos2 : Pos} {S1 S : PyData → Prop} (hc : X.calm = true) (hm : X.mg "sorted" = none) (hm2 : X.mg "set" = none) (ha : Gn Rl X σ G a S1) (k : ∀ d, S1 d → ∃ zs : List Str, d = .list (zs.map .str) ∧ zs.length + 1 < scanBound ∧ S (.list ((sd zs).map .str))) (hg : Gl X "sorted" := by rfl) (hg2 : Gl X "set" := by rfl)
    (he : starEach [a] X.env = (false, eval a X.env) :: starEach [] X.env := by rfl) (he2 : starEach [.Call (.Name "set" p2) [a] [] pos2] X.env = (false, eval (.Call (.Name "set" p2) [a] [] pos2) X.env) :: starEach [] X.env := by rfl) :
    Gn Rl X σ G (.Call (.Name "sorted" p) [.Call (.Name "set" p2) [a] [] pos2] [] pos) S := by
  refine .of (pe_callB (cr_sortX hc) hg hm (by decide +kernel) (pa_cons (pe_callTy (cr_setX hc) hg2 hm2 (by decide +kernel) (pa_cons pe_w pa_nil he) (by decide) (by decide) he rfl) pa_nil he2) (by decide) (by decide) he2 rfl) fun G1 x H s Q q => ha G1 x H s _ fun d v G2 H2 z e2 r => ?_
  obtain ⟨zs, rfl, hb, hS⟩ := k d z
  show rSetX X.K X.w [v] H2 fun u H3 => rSortX X.w [u] H3 Q
  refine rc_set hb G2 H2 v e2.sub (.inl r) _ fun b hb2 => ⟨b, zs, rfl, upd_same, fun t ht => ?_⟩
  have g3 : Gr Rl G2 H2 G2 (upd H2 b (TxO X.w b zs)) := .of_rl e2.sub (RlOk.ex (Evl.Ex.new hb2))
  exact q _ _ _ _ hS ((e2.trans g3).trans (.laid g3.sub ht (fun _ z => by cases z))) (Rp.newL (g3.sub.fr ht) (RpAll.ofStrs _))
theorem ok_some (B : Bt mg) (dt : Dr P w K mg base "_law_taken" 1 1 RTak) (dp : Dr P w K mg base "_law_pick" 2 1 RPick) (F : Fun K "_law_some" "_law_some" (topS 36) f fd) : FnOk P w K mg base CX0 3 f fd ["_law_row", "_law_every", "_law_most"] (DrSp K 2 RSome) := by
  refine dr_ok (R := RSome) F sc36 rfl fun cdv A outer s H0 E G H r vs ds S hr hrow sb ra hn hR => ?_
  obtain ⟨ev, most, rfl, h1, h2, h3, h4, rfl⟩ := hR
  obtain ⟨x1, _, rfl, r1, ra⟩ := ra.consE
  obtain ⟨x2, _, rfl, r2, ra⟩ := ra.consE
  obtain rfl := ra.nilE
  refine ws_retN (Rl := Ex) (S := SomeD ev) sb (gn_tuple B.tuple (S1 := fun d => ∃ l : List Str, d = .list (l.map .str) ∧ Some ev l) (gn_sset rfl B.sorted B.set (S1 := fun d => ∃ l : List Str, d = .list (l.map .str) ∧ l.length ≤ 51 ∧ ∀ z ∈ l, z ∈ ev)
    (gn_lcR (S1 := fun d => ∃ k : Int, d = .int k ∧ 0 ≤ k ∧ k < most + 1) (S2 := (· ∈ ev.map PyData.str)) rfl sc36.nd (blkOk_by (own := [("_law_k", 3)]) (N := n36) (sc := defScope (topS 36)) (by decide +kernel)) (fun _ _ _ _ _ => pg_name (i := 3) sc36.nd rfl (Or.inl rfl)) B.range
      (gn_draw 0 dt (hr.mono (by decide)) hrow rfl (gna_ga (ga_cons (g_op op_add rd_int (g_var 2 rfl r2) g_int) ga_nil)) fun ds e => by subst e; exact ⟨rfl, _, ⟨_, rfl, by omega, by omega, rfl⟩, fun d h => h⟩) (fun d ⟨k, e, k0, k1⟩ => ⟨k, e, k0, by omega⟩)
      (fun i G1 e1 _ _ _ _ _ => gn_draw 0 dp (hr.mono (by decide)) (hrow.ex' e1) rfl (gna_ga (ga_cons (g_var 1 rfl (r1.mono e1)) ga_nil)) fun ds e => by subst e; exact ⟨rfl, _, ⟨_, rfl, by simpa using h1, by rw [List.length_map]; omega, rfl⟩, fun d h => h⟩)
      (fun i ds ⟨k, e, k0, k1⟩ hl hS => ?_)) (fun d ⟨l, e, hl, hs⟩ => ⟨l, e, ?_, sd l, rfl, sd_incr l, fun z hz => hs z (sd_mem.mp hz)⟩)) (fun d ⟨l, e, hs⟩ => ⟨_, e, l, rfl, hs⟩)) fun d v G' H' z g r => ⟨d, G', z, g, r⟩
  · cases e
    obtain ⟨l, rfl, hs⟩ := all_strs hS
    rw [List.length_map] at hl
    exact ⟨l, rfl, by omega, hs⟩
  · show l.length + 1 < scanBound
    have : (53 : Nat) ≤ scanBound := by decide
    omega
end
end WR
end
section
set_option Elab.async false
set_option linter.all false
set_option maxRecDepth 100000
namespace WR
open PySem PySem.Spec PyProof.Rows L2
section
variable {X : Cx} {σ : L2.St} {G H G' H' : Hp} {e : Expr} {x : Str} {i j : Nat} {pos tpos ap p1 p2 : Pos} {rest body : List Stmt} {D : Ends} {l : Addr} {acc : List V} {iter : Expr} {S : PyData → Prop}
theorem ws_forLN (hp : PassesOwn (model X.prog X.w) X.A X.env X.xe) (hc : X.calm = true) (hg : PG X (.Name x tpos) (gName j)) (sb : Sub G H) (hi : Gn Ex X σ G iter S) (hS : ∀ d, S d → ∃ ds, d = .list ds)
    (h : ∀ ds G1 H1, S (.list ds) → Gr Ex G H G1 H1 → ∃ Pv, LoopOk X j body rest D ds G1 σ H1 Pv) (hs : ∀ x, foldedSetIterable iter X.env x = pure x := by intro _; rfl) : Ws X (.For (.Name x tpos) iter body [] pos :: rest) D σ H := by
  refine ws_cons (ps_for hp hc (pi_list pe_w) hg pss_w hs) (hi G (Evl.Ex.refl G) H sb _ fun d v G1 H1 z g r => ?_)
  obtain ⟨ds, rfl⟩ := hS d z
  obtain ⟨a, xs, rfl, ha, rs⟩ := r.lstE
  obtain ⟨Pv, L⟩ := h ds G1 H1 z g
  refine ⟨a, rfl, ⟨xs, SqL.of (g.sub.1 _ _ ha)⟩, for_list (xs := xs) (fun i σ' H' => ∃ G', Pv i G' σ' H') ⟨G1, L.start⟩ (fun i σ' H' _ ⟨G', p⟩ => ?_) (fun i u σ' H' hu ⟨G', p⟩ => ?_) fun σ' H' ⟨G', p⟩ => ?_⟩
  · obtain ⟨e, s⟩ := L.base i G' σ' H' p
    exact SqL.of (s.1 _ _ (e _ _ ha))
  · obtain ⟨d, hd, rd⟩ := rs.get hu
    exact L.turn i d u G' σ' H' hd p (rd.mono (L.base i G' σ' H' p).1)
  · rw [rs.len] at p
    exact L.done G' σ' H' p
theorem ws_appN (m : Mu Ex G H l acc G' H') (hx : σ[i]? = some (some (.ref l))) (he : Gn Ex X σ G' e S) (hz : acc.length < 100000) (k : ∀ d v G2 H2, S d → Ex G' G2 → Mu Ex G H l (acc ++ [v]) G2 H2 → Rp G2 v d → Ws X rest D σ H2)
    (hN : X.N[i]? = some x := by rfl) (hv : Vis X.env.scope x := by first | exact Or.inl rfl | exact Or.inr (Or.inl rfl) | exact Or.inr (Or.inr rfl)) (hd : (x == ("__debug__" : Str)) = false := by decide) (hcd : (x == ("__classdict__" : Str)) = false := by decide)
    (hs : swapsWith (.Call (.Attribute (.Name x p1) "append" ap) [e] [] p2) none pos.line X.env = pure false := by rfl)
    (hb : attributeBase (.Name x p1) "append" X.env (eval (.Name x p1) X.env) = eval (.Name x p1) X.env := by rfl)
    (hfew : ((backTo p2 (starEach [e] X.env)).all (fun x => !x.1) && (backToKw p2 (keywordEach [] X.env)).all (fun x => x.1.isSome) && decide ([e].length + ([] : List Keyword).length + (if ([] : List Keyword).isEmpty then 0 else 1) < 30)) = true := by rfl)
    (hline : (ap.endLine == p2.line) = true := by rfl) (hst : starEach [e] X.env = (false, eval e X.env) :: starEach [] X.env := by rfl) (hpl : (backTo p2 (starEach [] X.env)).any (·.1) = false := by rfl) :
    Ws X (.Expr (.Call (.Attribute (.Name x p1) "append" ap) [e] [] p2) pos :: rest) D σ H' := by
  refine ws_cons (ps_expr (pe_bm PySem.F.plainAttrs_list PySem.F.slot_list_append PySem.F.type_list_append mt_append (pe_var hN hv hd hcd) (pa_cons pe_w pa_nil hst) hb hfew hline hst hpl) hs) ?_
  refine ⟨.ref l, hx, .inl ⟨rfl, acc, SqL.of m.at_⟩, he G' (Evl.Ex.refl G') H' m.gr.sub _ fun d v G2 H2 z g2 r2 => ?_⟩
  have m2 := m.step g2
  exact ⟨l, acc, v, rfl, rfl, m2.at_, Nat.lt_of_lt_of_le hz (by decide), k d v G2 _ z g2.ex m2.put r2⟩
end
/-! ### the task that is drawn -/
def abc : List Str := chars "abcdef"
def pqr : List Str := chars "pqrstuv"
theorem abc_ok : ∀ z ∈ abc, SOk z ∧ nameOk z = true := by
  have h : (abc.all fun z => decide (z.length ≤ 1000) && PyData.strOk z && nameOk z) = true := by decide +kernel
  intro z hz
  have := List.all_eq_true.mp h z hz
  simp only [Bool.and_eq_true, decide_eq_true_eq] at this
  exact ⟨⟨this.1.1, this.1.2⟩, this.2⟩
theorem pqr_ok : ∀ z ∈ pqr, SOk z ∧ nameOk z = true := by
  have h : (pqr.all fun z => decide (z.length ≤ 1000) && PyData.strOk z && nameOk z) = true := by decide +kernel
  intro z hz
  have := List.all_eq_true.mp h z hz
  simp only [Bool.and_eq_true, decide_eq_true_eq] at this
  exact ⟨⟨this.1.1, this.1.2⟩, this.2⟩
theorem pqr_incr : incr pqr = true := by decide +kernel
theorem abc_len : abc.length = 6 := by decide +kernel
theorem pqr_len : pqr.length = 7 := by decide +kernel
theorem Some.few {ev l : List Str} (h : Some ev l) : l.length ≤ ev.length := nodup_len (incr_nodup h.inc) h.sub
structure Drawn (t : Task) : Prop where
  good : t.Good
  sm : t.Sm
  ne : t.deeds ≠ []
  few : t.deeds.length ≤ 7
  abc : ∀ z ∈ t.facts, z ∈ abc
/-- the letters that may be used -/
structure Ev (ev : List Str) : Prop where
  sub : ∀ z ∈ ev, z ∈ abc
  ne : ev ≠ []
  few : ev.length ≤ 6
structure DDeed (ev : List Str) (q : Deed) : Prop where
  n : q.name ∈ pqr
  n1 : Some ev q.needs
  n2 : Some ev q.bars
  n3 : Some ev q.adds
  n4 : Some ev q.strikes
  d1 : disj q.needs q.bars = true
  d2 : disj q.adds q.strikes = true
  p1 : 1 ≤ q.price
  p2 : q.price ≤ 9
theorem some_names {ev l : List Str} (E : Ev ev) (h : Some ev l) : l.all nameOk = true := List.all_eq_true.mpr fun z hz => (abc_ok z (E.sub z (h.sub z hz))).2
theorem some_lok {ev l : List Str} (E : Ev ev) (h : Some ev l) : LOk l := ⟨by have := h.few; have := E.few; omega, fun z hz => (abc_ok z (E.sub z (h.sub z hz))).1⟩
theorem DDeed.good {ev : List Str} {q : Deed} (E : Ev ev) (h : DDeed ev q) : q.Good := ⟨(pqr_ok _ h.n).2, some_names E h.n1, some_names E h.n2, some_names E h.n3, some_names E h.n4, h.n1.inc, h.n2.inc, h.n3.inc, h.n4.inc, h.d1, h.d2, h.p1, h.p2⟩
theorem DDeed.sm {ev : List Str} {q : Deed} (E : Ev ev) (h : DDeed ev q) : q.Sm := ⟨(pqr_ok _ h.n).1, some_lok E h.n1, some_lok E h.n2, some_lok E h.n3, some_lok E h.n4⟩
theorem some_filter {ev l : List Str} (p : Str → Bool) (h : Some ev l) : Some ev (l.filter p) := ⟨incr_filter p h.inc, fun z hz => h.sub z (List.mem_filter.mp hz).1⟩
theorem disj_filter (a b : List Str) : disj a (b.filter fun z => !decide (z ∈ a)) = true := by
  unfold disj
  rw [List.all_eq_true]
  intro z hz
  simp [hz]
theorem incr_takeP (n : Nat) : incr (pqr.take n) = true := (incr_pair _).mpr (((incr_pair _).mp pqr_incr).sublist (List.take_sublist _ _))
theorem drawn_of {ev : List Str} {qs : List Deed} {b w : List Str} {n : Nat} (E : Ev ev) (hq : ∀ q ∈ qs, DDeed ev q) (hn : qs.map (·.name) = pqr.take n) (h1 : 1 ≤ n) (hb : Some ev b) (hw : Some ev w) : Drawn ⟨qs, b, w⟩ := by
  have hl : qs.length = (pqr.take n).length := by rw [← hn, List.length_map]
  rw [List.length_take, pqr_len] at hl
  have hfacts : ∀ z ∈ (Task.mk qs b w).facts, z ∈ ev := fun z hz => by
    rcases facts_mem.mp hz with h | h | ⟨q, h0, h | h | h | h⟩
    · exact hb.sub z h
    · exact hw.sub z h
    · exact (hq q h0).n1.sub z h
    · exact (hq q h0).n2.sub z h
    · exact (hq q h0).n3.sub z h
    · exact (hq q h0).n4.sub z h
  refine ⟨⟨?_, fun q h => (hq q h).good E, ?_, some_names E hb, hb.inc, some_names E hw, hw.inc, ?_⟩, ⟨?_, fun q h => (hq q h).sm E, some_lok E hb, some_lok E hw⟩, fun z => ?_, ?_, fun z hz => E.sub z (hfacts z hz)⟩
  · show qs.length ≤ 14
    omega
  · show incr (qs.map (·.name)) = true
    rw [hn]
    exact incr_takeP n
  · exact Nat.le_trans (nodup_len (incr_nodup (sd_incr _)) hfacts) (by have := E.few; omega)
  · show qs.length ≤ 50
    omega
  · have z' : qs = [] := z
    rw [z'] at hl
    simp at hl
    omega
  · show qs.length ≤ 7
    omega
section
variable {P : Program} {w : World} {K : PySem.W.Frag} {mg : Str → Option Value} {base : Heap} {f : Addr} {fd : FuncData}
def RTaskD (ds : List PyData) (S : PyData → Prop) : Prop := ds = [] ∧ S = fun d => ∃ t : Task, d = t.toD ∧ Drawn t
abbrev n37 : List Str := ["_law_row", "_law_every", "_law_deeds", "_law_name", "_law_needs", "_law_bars", "_law_adds", "_law_strikes", "_law_one"]
theorem sc37 : FnScope n37 ["_law_row"] (defScope (topS 37)) := ⟨rfl, rfl, rfl, by decide +kernel, rfl, by decide +kernel, by decide +kernel⟩
theorem cut_take (l : List Str) (m : Nat) : cutD (l.map PyData.str) none (some (m : Int)) = (l.take m).map .str := by
  unfold cutD HT.sIx
  simp
  rw [if_neg (by omega)]
  omega
theorem some_d {ev : List Str} {d : PyData} (h : SomeD ev d) : ∃ l, d = strsD l ∧ Some ev l := h
theorem ok_task (B : Bt mg) (dt : Dr P w K mg base "_law_taken" 1 1 RTak) (dp : Dr P w K mg base "_law_pick" 2 1 RPick) (dsm : Dr P w K mg base "_law_some" 3 2 RSome) (F : Fun K "_law_task" "_law_task" (topS 37) f fd) : FnOk P w K mg base CX0 4 f fd ["_law_row"] (DrSp K 0 RTaskD) := by
  refine dr_ok (R := RTaskD) F sc37 rfl fun cdv A outer s H0 E G H r vs ds S hr hrow sb ra hn hR => ?_
  obtain ⟨rfl, rfl⟩ := hR
  obtain rfl := ra.nilE
  have take : ∀ {σ : L2.St} {G1 : Hp} {m : Int} {e : Expr} {p p2 pos : Pos}, True := trivial
  refine ws_setN (Rl := Ex) (i := 1) (S := fun d => ∃ ev, d = .list (ev.map .str) ∧ Ev ev) sc37.nd rfl (Or.inl rfl) sb (gn_cutL (S1 := fun d => ∃ m : Nat, d = .int (m : Int) ∧ 3 ≤ m ∧ m ≤ 6) (g_listS rfl B.list (by decide +kernel) g_str)
    (gn_op (S1 := (· = .int 3)) (S2 := fun d => ∃ k : Int, d = .int k ∧ 0 ≤ k ∧ k < 4) op_add (gn_gd g_int) (gn_draw 0 dt (hr.mono (by decide)) hrow rfl (gna_ga (ga_cons g_int ga_nil)) fun ds e => by subst e; exact ⟨rfl, _, ⟨_, rfl, by decide, by decide, rfl⟩, fun d h => h⟩) fun d1 d2 e1 ⟨k, e2, k0, k1⟩ => by
      subst e1 e2
      exact ⟨.int (3 + k), ⟨(3 + k).toNat, by congr 1; omega, by omega, by omega⟩, rd_int⟩) fun d ⟨m, e, m1, m2⟩ => ⟨m, e, abc.take m, by congr 1; exact cut_take abc m, fun z hz => List.mem_of_mem_take hz, fun z => by
        have := congrArg List.length z
        rw [List.length_take, abc_len] at this
        simp at this
        omega, by rw [List.length_take, abc_len]; omega⟩) fun d xe G1 H1 z1 g1 re => ?_
  obtain ⟨ev, rfl, Eh⟩ := z1
  refine ws_newLst (i := 2) sc37.nd rfl (Or.inl rfl) g1.sub ga_nil (by simp) fun l acc G2 H2 m ra2 => ?_
  have hx2 := g1.ex.trans m.gr.ex
  obtain rfl := ra2.nilE
  refine ws_forLN (S := fun d => ∃ n, d = .list ((pqr.take n).map .str) ∧ 1 ≤ n ∧ n ≤ 7) .never rfl (pg_name (i := 3) sc37.nd rfl (Or.inl rfl)) m.gr.sub (gn_cutL (S1 := fun d => ∃ m : Nat, d = .int (m : Int) ∧ 1 ≤ m ∧ m ≤ 7) (g_listS rfl B.list (by decide +kernel) g_str)
    (gn_op (S1 := (· = .int 2)) (S2 := fun d => ∃ k : Int, d = .int k ∧ 0 ≤ k ∧ k < 6) op_add (gn_gd g_int) (gn_draw 0 dt (hr.mono (by decide)) (hrow.ex' hx2) rfl (gna_ga (ga_cons g_int ga_nil)) fun ds e => by subst e; exact ⟨rfl, _, ⟨_, rfl, by decide, by decide, rfl⟩, fun d h => h⟩) fun d1 d2 e1 ⟨k, e2, k0, k1⟩ => by
      subst e1 e2
      exact ⟨.int (2 + k), ⟨(2 + k).toNat, by congr 1; omega, by omega, by omega⟩, rd_int⟩) fun d ⟨m, e, m1, m2⟩ => ⟨m, e, m, by congr 1; exact cut_take pqr m, m1, m2⟩) (fun d ⟨n, e, _⟩ => ⟨_, e⟩) fun ds G3 H3 ⟨n, e, h1, h7⟩ g3 => ?_
  cases e
  refine ⟨fun i G' σ' H' => Ex G3 G' ∧ (∃ (acc : List V) (qs : List Deed), Mu Ex G1 H1 l acc G' H' ∧ RpAll G' acc (qs.map Deed.toD) ∧ (∀ q ∈ qs, DDeed ev q) ∧ qs.map (·.name) = (pqr.take n).take i) ∧ ∃ a b c d e f, σ' = [some (.ref r), some xe, some (.ref l), a, b, c, d, e, f], ?_, ?_, ?_, ?_⟩
  · exact ⟨Evl.Ex.refl _, ⟨[], [], m.step g3, .nil, by simp, by simp⟩, _, _, _, _, _, _, rfl⟩
  · rintro i G' σ' H' ⟨e, ⟨acc, qs, m', _⟩, _⟩
    exact ⟨e, m'.gr.sub⟩
  · rintro i d v G4 σ4 H4 hd ⟨e4, ⟨acc, qs, m4, ra4, hqs, hnm⟩, a, b, c, d1, e1, f1, rfl⟩ rd
    rw [List.getElem?_map] at hd
    obtain ⟨nm, hnm2, rfl⟩ := Option.map_eq_some_iff.mp hd
    have hnp : nm ∈ pqr := List.mem_of_mem_take (List.mem_of_getElem? hnm2)
    have ex4 := hx2.trans (g3.ex.trans e4)
    have re4 := re.mono (m.gr.ex.trans (g3.ex.trans e4))
    have row4 := hrow.ex' ex4
    have hlen : ev.length ≤ 50 := by have := Eh.few; omega
    have draw : ∀ {σ : L2.St} {G5 : Hp} {mo : Int} {p p2 p3 p4 pos : Pos} {j : Nat}, Ex G4 G5 → σ[0]? = some (some (.ref r)) → σ[1]? = some (some xe) → 0 ≤ mo → mo ≤ 50 → Gn Ex (bX P w K mg base n37 "_law_task" (defScope (topS 37)) f cdv A outer s H0 E) σ G5 (.Call (.Name "_law_some" p) [.Name "_law_row" p2, .Name "_law_every" p3, .Constant (.int mo) j p4] [] pos) (SomeD ev) := fun {σ G5 mo p p2 p3 p4 pos j} ex h0 h1 hm0 hm1 =>
      gn_draw 0 dsm (hr.mono (by decide)) (row4.ex' ex) h0 (gna_ga (ga_cons (g_var 1 h1 (re4.mono ex)) (ga_cons g_int ga_nil))) fun ds e => by subst e; exact ⟨rfl, _, ⟨ev, mo, rfl, Eh.ne, hlen, hm0, hm1, rfl⟩, fun d h => h⟩
    refine ws_setN (Rl := Ex) (i := 4) sc37.nd rfl (Or.inr rfl) m4.gr.sub (draw (Evl.Ex.refl _) rfl rfl (by decide) (by decide)) fun d5 v5 G5 H5 z5 g5 r5 => ?_
    obtain ⟨needs, rfl, sn⟩ := some_d z5
    have lneeds := (some_lok Eh sn).1
    refine ws_setN (Rl := Ex) (i := 5) (S := fun d => ∃ l, d = strsD (l.filter fun z => !decide (z ∈ needs)) ∧ Some ev l) sc37.nd rfl (Or.inl rfl) g5.sub (gn_tuple B.tuple (S1 := fun d => ∃ l : List Str, d = .list ((l.filter fun z => !decide (z ∈ needs)).map .str) ∧ Some ev l)
      (gn_filT (T := Some ev) (fun _ z => !decide (z ∈ needs)) rfl sc37.nd (blkOk_by (own := [("_law_one", 8)]) (N := n37) (sc := defScope (topS 37)) (by decide +kernel)) (fun _ _ _ _ _ => pg_name (i := 8) sc37.nd rfl (Or.inl rfl)) (draw g5.ex rfl rfl (by decide) (by decide))
        (fun d h => by obtain ⟨l, e, hl⟩ := some_d h; exact ⟨l, e, hl, by have := hl.few; omega⟩) (fun l y G6 _ _ e6 _ _ _ _ _ => gt_niT (g_var 8 rfl (.str y)) (g_var 4 rfl (r5.mono e6))) (fun y G6 _ _ _ _ _ => g_var 8 rfl (.str y)) fun l hl => ⟨l, rfl, hl⟩)
      fun d ⟨l, e, hl⟩ => ⟨_, e, l, rfl, hl⟩) fun d6 v6 G6 H6 z6 g6 r6 => ?_
    obtain ⟨lb, rfl, slb⟩ := z6
    refine ws_setN (Rl := Ex) (i := 6) sc37.nd rfl (Or.inr rfl) g6.sub (draw (g5.ex.trans g6.ex) rfl rfl (by decide) (by decide)) fun d7 v7 G7 H7 z7 g7 r7 => ?_
    obtain ⟨adds, rfl, sa⟩ := some_d z7
    have ex7 := (g5.ex.trans g6.ex).trans g7.ex
    have r57 := r5.mono (g6.ex.trans g7.ex)
    refine ws_setN (Rl := Ex) (i := 7) (S := fun d => ∃ l, d = strsD (l.filter fun z => !decide (z ∈ adds)) ∧ Some ev l) sc37.nd rfl (Or.inl rfl) g7.sub (gn_tuple B.tuple (S1 := fun d => ∃ l : List Str, d = .list ((l.filter fun z => !decide (z ∈ adds)).map .str) ∧ Some ev l)
      (gn_filT (T := Some ev) (S1 := SomeD ev) (fun _ z => !decide (z ∈ adds)) rfl sc37.nd (blkOk_by (own := [("_law_one", 8)]) (N := n37) (sc := defScope (topS 37)) (by decide +kernel)) (fun _ _ _ _ _ => pg_name (i := 8) sc37.nd rfl (Or.inl rfl))
        (gn_draw 0 dp (hr.mono (by decide)) (row4.ex' ex7) rfl (gna_cons (gn_lst (T := fun ds => ∃ d, SomeD ev d ∧ ds = [strsD needs, strsD needs, d]) (gna_mono (gna_cons (gn_gd (g_var 4 rfl r57)) (gna_cons (gn_gd (g_var 4 rfl r57)) (gna_cons (draw ex7 rfl rfl (by decide) (by decide)) gna_nil))) fun ds h => by
            obtain ⟨_, _, rfl, rfl, _, _, rfl, rfl, d, _, rfl, hd, rfl⟩ := h
            exact ⟨d, hd, rfl⟩) (S := fun d => ∃ d3, SomeD ev d3 ∧ d = .list [strsD needs, strsD needs, d3]) fun ds ⟨d, hd, e⟩ => ⟨by rw [e]; simp, d, hd, by rw [e]⟩) gna_nil) fun ds h => by
            obtain ⟨d, _, rfl, ⟨d3, h3, rfl⟩, rfl⟩ := h
            refine ⟨rfl, _, ⟨_, rfl, by simp, by simp, rfl⟩, fun d hd => ?_⟩
            simp only [List.mem_cons, List.not_mem_nil, or_false] at hd
            rcases hd with rfl | rfl | rfl
            · exact ⟨needs, rfl, sn⟩
            · exact ⟨needs, rfl, sn⟩
            · exact h3)
        (fun d h => by obtain ⟨l, e, hl⟩ := some_d h; exact ⟨l, e, hl, by have := hl.few; omega⟩) (fun l y G8 _ _ e8 _ _ _ _ _ => gt_niT (g_var 8 rfl (.str y)) (g_var 6 rfl (r7.mono e8))) (fun y G8 _ _ _ _ _ => g_var 8 rfl (.str y)) fun l hl => ⟨l, rfl, hl⟩)
      fun d ⟨l, e, hl⟩ => ⟨_, e, l, rfl, hl⟩) fun d8 v8 G8 H8 z8 g8 r8 => ?_
    obtain ⟨ls, rfl, sls⟩ := z8
    have g48 := ((g5.trans g6).trans g7).trans g8
    have m8 := m4.step g48
    have hql : qs.length ≤ 7 := by
      have := congrArg List.length hnm
      rw [List.length_map, List.length_take, List.length_take, pqr_len] at this
      omega
    refine ws_appN (S := fun d => ∃ k : Int, 0 ≤ k ∧ k < 4 ∧ d = (Deed.mk nm needs (lb.filter fun z => !decide (z ∈ needs)) adds (ls.filter fun z => !decide (z ∈ adds)) (1 + k)).toD) m8 (i := 2) rfl (gn_tup (T := fun ds => ∃ k : Int, 0 ≤ k ∧ k < 4 ∧ ds = [.str nm, strsD needs, strsD (lb.filter fun z => !decide (z ∈ needs)), strsD adds, strsD (ls.filter fun z => !decide (z ∈ adds)), .int (1 + k)])
      (gna_mono (gna_cons (gn_gd (g_var 3 rfl (rd.mono g48.ex))) (gna_cons (gn_gd (g_var 4 rfl (r57.mono g8.ex))) (gna_cons (gn_gd (g_var 5 rfl (r6.mono (g7.ex.trans g8.ex)))) (gna_cons (gn_gd (g_var 6 rfl (r7.mono g8.ex))) (gna_cons (gn_gd (g_var 7 rfl r8)) (gna_cons
        (gn_op (S := fun d => ∃ k : Int, d = .int (1 + k) ∧ 0 ≤ k ∧ k < 4) (S1 := (· = .int 1)) (S2 := fun d => ∃ k : Int, d = .int k ∧ 0 ≤ k ∧ k < 4) op_add (gn_gd g_int) (gn_draw 0 dt (hr.mono (by decide)) (row4.ex' g48.ex) rfl (gna_ga (ga_cons g_int ga_nil)) fun ds e => by subst e; exact ⟨rfl, _, ⟨_, rfl, by decide, by decide, rfl⟩, fun d h => h⟩) fun d1 d2 e1 ⟨k, e2, k0, k1⟩ => by
          subst e1 e2
          exact ⟨.int (1 + k), ⟨k, rfl, k0, k1⟩, rd_int⟩) gna_nil)))))) fun ds h => by
        obtain ⟨_, _, rfl, rfl, _, _, rfl, rfl, _, _, rfl, rfl, _, _, rfl, rfl, _, _, rfl, rfl, _, _, rfl, ⟨k, rfl, k0, k1⟩, rfl⟩ := h
        exact ⟨k, k0, k1, rfl⟩) fun ds ⟨k, k0, k1, e⟩ => ⟨by rw [e]; simp, k, k0, k1, by rw [e]; rfl⟩) (by have := ra4.len; rw [List.length_map] at this; omega) fun d9 v9 G9 H9 z9 e9 m9 r9 => ws_nil ?_
    obtain ⟨k, k0, k1, rfl⟩ := z9
    refine ⟨G9, (e4.trans g48.ex).trans e9, ⟨_, qs ++ [⟨nm, needs, lb.filter fun z => !decide (z ∈ needs), adds, ls.filter fun z => !decide (z ∈ adds), 1 + k⟩], m9, ?_, fun q hq => ?_, ?_⟩, _, _, _, _, _, _, rfl⟩
    · rw [List.map_append]
      exact ((ra4.mono g48.ex).mono e9).app (.cons r9 .nil)
    · rcases List.mem_append.mp hq with h | h
      · exact hqs q h
      · rw [List.mem_singleton.mp h]
        exact ⟨hnp, sn, some_filter _ slb, sa, some_filter _ sls, disj_filter _ _, disj_filter _ _, by show 1 ≤ 1 + k; omega, by show 1 + k ≤ 9; omega⟩
    · rw [List.map_append, hnm, take_snoc hnm2]
      rfl
  · rintro G4 σ4 H4 ⟨e4, ⟨acc, qs, m4, ra4, hqs, hnm⟩, a, b, c, d1, e1, f1, rfl⟩
    obtain ⟨gf, rf⟩ := m4.fin ra4
    have hnm' : qs.map (·.name) = pqr.take n := by
      rw [hnm, List.length_map, List.take_length]
    have exf : Ex G4 (upd G4 l (.lst acc)) := Evl.Ex.new m4.out
    have ex4 := hx2.trans (g3.ex.trans e4)
    have re4 := re.mono (m.gr.ex.trans (g3.ex.trans e4))
    have row4 := hrow.ex' ex4
    have draw : ∀ {σ : L2.St} {G5 : Hp} {mo : Int} {p p2 p3 p4 pos : Pos} {j : Nat}, Ex G4 G5 → σ[0]? = some (some (.ref r)) → σ[1]? = some (some xe) → 0 ≤ mo → mo ≤ 50 → Gn Ex (bX P w K mg base n37 "_law_task" (defScope (topS 37)) f cdv A outer s H0 E) σ G5 (.Call (.Name "_law_some" p) [.Name "_law_row" p2, .Name "_law_every" p3, .Constant (.int mo) j p4] [] pos) (SomeD ev) := fun {σ G5 mo p p2 p3 p4 pos j} ex h0 h1 hm0 hm1 =>
      gn_draw 0 dsm (hr.mono (by decide)) (row4.ex' ex) h0 (gna_ga (ga_cons (g_var 1 h1 (re4.mono ex)) (ga_cons g_int ga_nil))) fun ds e => by subst e; exact ⟨rfl, _, ⟨ev, mo, rfl, Eh.ne, by have := Eh.few; omega, hm0, hm1, rfl⟩, fun d h => h⟩
    refine ws_retN (Rl := Ex) (S := fun d => ∃ t : Task, d = t.toD ∧ Drawn t) gf.sub (gn_tup (T := fun ds => ∃ t : Task, Drawn t ∧ ds = [.tuple (t.deeds.map Deed.toD), strsD t.bg, strsD t.wish]) (gna_mono (gna_cons (gn_gd (g_tuple B.tuple (g_var 2 rfl rf))) (gna_cons (draw exf rfl rfl (by decide) (by decide)) (gna_cons (draw exf rfl rfl (by decide) (by decide)) gna_nil))) fun ds h => ?_) fun ds ⟨t, ht, e⟩ => ⟨by rw [e]; simp, t, by rw [e]; rfl, ht⟩) fun d v G' H' z g r => ⟨d, G', z, g1.trans (gf.trans g), r⟩
    obtain ⟨_, _, rfl, rfl, _, _, rfl, hb, _, _, rfl, hw, rfl⟩ := h
    obtain ⟨bl, rfl, sb2⟩ := some_d hb
    obtain ⟨wl, rfl, sw2⟩ := some_d hw
    exact ⟨⟨qs, bl, wl⟩, drawn_of Eh hqs hnm' h1 sb2 sw2, rfl⟩
end
end WR
end
section
set_option Elab.async false
set_option linter.all false
set_option maxRecDepth 100000
namespace WR
open PySem PySem.Spec PyProof.Rows L2
/-! ### isinstance(x, (tuple, list)) -/
section
variable {Rl : Hp → Hp → Prop} [RlOk Rl] {X : Cx} {σ : L2.St} {G : Hp} {a b : Expr} {d d1 d2 : PyData} {p p2 p3 p4 pos : Pos} {kk : Nat}
theorem g_isTL (B : Bt X.mg) (ha : Gd Rl X σ G a d) (hg0 : Gl X "isinstance" := by rfl) (hg : Gl X "tuple" := by rfl) (hg2 : Gl X "list" := by rfl)
    (he : starEach [a, .Tuple [.Name "tuple" p2, .Name "list" p3] kk p4] X.env = (false, eval a X.env) :: starEach [.Tuple [.Name "tuple" p2, .Name "list" p3] kk p4] X.env := by rfl)
    (he2 : starEach [.Tuple [.Name "tuple" p2, .Name "list" p3] kk p4] X.env = (false, eval (.Tuple [.Name "tuple" p2, .Name "list" p3] kk p4) X.env) :: starEach [] X.env := by rfl)
    (he3 : starEach [.Name "tuple" p2, .Name "list" p3] X.env = (false, eval (.Name "tuple" p2) X.env) :: starEach [.Name "list" p3] X.env := by rfl) (he4 : starEach [.Name "list" p3] X.env = (false, eval (.Name "list" p3) X.env) :: starEach [] X.env := by rfl) :
    Gd Rl X σ G (.Call (.Name "isinstance" p) [a, .Tuple [.Name "tuple" p2, .Name "list" p3] kk p4] [] pos) (.bool (tTup d || tLst d)) := by
  refine .of (pe_callB call_isiT hg0 B.isi (by decide +kernel) (pa_cons pe_w (pa_cons (pe_tup (pa_cons (pe_bltn (v := .ty "tuple") (u := .type "tuple") hg B.tuple (by decide +kernel) rfl (by decide) (by decide)) (pa_cons (pe_bltn (v := .ty "list") (u := .type "list") hg2 B.list (by decide +kernel) rfl (by decide) (by decide)) pa_nil he4) he3)) pa_nil he2) he) (by decide) (by decide) he (by rw [he2]; rfl)) fun G1 y H s Q q => ha G1 y H s _ fun v G2 H2 e2 r2 => ?_
  refine ⟨by rw [sizeLine_eq]; exact (by decide : 2 ≤ 16777216), fun t ht => ?_⟩
  have g3 : Gr Rl G2 H2 G2 (upd H2 t (.tup [.ty "tuple", .ty "list"])) := .of_rl e2.sub (RlOk.ex (Evl.Ex.new ht))
  refine ⟨v, t, [.ty "tuple", .ty "list"], .type (tyN d), [.type "tuple", .type "list"], tTup d || tLst d, rfl, upd_same, .cons (.ty _) (.cons (.ty _) .nil), (r2.mono g3.sub.1).ty, ?_, q _ _ _ (e2.trans g3) (.bl _)⟩
  have k1 := kit_ty (K := X.K) (kit_tup d)
  have k2 := kit_ty (K := X.K) (kit_lst d)
  show (match PySem.W.kitOne X.K (.type (tyN d)) (.type "tuple") with | some true => some true | some false => PySem.W.kitAny X.K (.type (tyN d)) [.type "list"] | none => none) = _
  rw [k1]
  cases tTup d with
  | true => rfl
  | false =>
    show (match PySem.W.kitOne X.K (.type (tyN d)) (.type "list") with | some true => some true | some false => PySem.W.kitAny X.K (.type (tyN d)) [] | none => none) = _
    rw [k2]
    cases tLst d <;> rfl
theorem gw_is {k k' : Bool} (h : Gw Rl X σ G a k) (q : k = k') : Gw Rl X σ G a k' := q ▸ h
theorem sh_b (b : Bool) : SeqAt.shaped (.bool b) = true := (sh_bl (n := 0)).shaped (by decide)
end
/-! ### alike, for the same data -/
mutual
def al : Nat → PyData → Bool
  | _, .none => true
  | _, .bool _ => true
  | _, .int _ => true
  | _, .str z => PyData.strOk z
  | 0, _ => false
  | m + 1, .list xs => decide (xs.length ≤ 100) && alAll m xs
  | m + 1, .tuple xs => decide (xs.length ≤ 100) && alAll m xs
  | _, .dict _ => false
def alAll : Nat → List PyData → Bool
  | _, [] => true
  | m, x :: r => al m x && alAll m r
end
theorem alAll_mem : ∀ {m : Nat} {l : List PyData} {d : PyData}, alAll m l = true → d ∈ l → al m d = true
  | m, x :: r, d, h, hd => by
    unfold alAll at h
    obtain ⟨h1, h2⟩ := Bool.and_eq_true_iff.mp h
    rcases List.mem_cons.mp hd with rfl | hd
    · exact h1
    · exact alAll_mem h2 hd
theorem alAll_of : ∀ {m : Nat} {l : List PyData}, (∀ d ∈ l, al m d = true) → alAll m l = true
  | m, [], _ => by unfold alAll; rfl
  | m, x :: r, h => by
    unfold alAll
    exact Bool.and_eq_true_iff.mpr ⟨h x List.mem_cons_self, alAll_of fun d hd => h d (List.mem_cons_of_mem _ hd)⟩
theorem al_tup {m : Nat} {l : List PyData} (h1 : l.length ≤ 100) (h2 : ∀ d ∈ l, al m d = true) : al (m + 1) (.tuple l) = true := by
  unfold al
  rw [decide_eq_true h1, alAll_of h2]; rfl
theorem al_lst {m : Nat} {l : List PyData} (h1 : l.length ≤ 100) (h2 : ∀ d ∈ l, al m d = true) : al (m + 1) (.list l) = true := by
  unfold al
  rw [decide_eq_true h1, alAll_of h2]; rfl
theorem al_str {m : Nat} {z : Str} (h : PyData.strOk z = true) : al m (.str z) = true := by unfold al; exact h
theorem al_bool {m : Nat} {b : Bool} : al m (.bool b) = true := by unfold al; rfl
theorem al_int {m : Nat} {b : Int} : al m (.int b) = true := by unfold al; rfl
theorem al_none {m : Nat} : al m .none = true := by unfold al; rfl
theorem al_strsD {m : Nat} {l : List Str} (h1 : l.length ≤ 100) (h2 : ∀ z ∈ l, PyData.strOk z = true) : al (m + 1) (strsD l) = true := al_tup (by rw [List.length_map]; exact h1) fun d hd => by
  obtain ⟨z, hz, rfl⟩ := List.mem_map.mp hd
  exact al_str (h2 z hz)
mutual
theorem eqv_refl : ∀ d : PyData, (∀ m, al m d = true → PyData.eqv d d = true)
  | .none, m, _ => by simp [PyData.eqv]
  | .bool b, m, _ => by simp [PyData.eqv]
  | .int i, m, _ => by simp [PyData.eqv]
  | .str z, m, _ => by simp [PyData.eqv]
  | .list xs, 0, h => by unfold al at h; cases h
  | .list xs, m + 1, h => by
    unfold al at h
    have := eqvAll_refl xs m (Bool.and_eq_true_iff.mp h).2
    simp [PyData.eqv, this]
  | .tuple xs, 0, h => by unfold al at h; cases h
  | .tuple xs, m + 1, h => by
    unfold al at h
    have := eqvAll_refl xs m (Bool.and_eq_true_iff.mp h).2
    simp [PyData.eqv, this]
  | .dict _, m, h => by cases m <;> (unfold al at h; cases h)
theorem eqvAll_refl : ∀ (l : List PyData) (m : Nat), alAll m l = true → PyData.eqvAll l l = true
  | [], _, _ => by simp [PyData.eqvAll]
  | x :: r, m, h => by
    unfold alAll at h
    obtain ⟨h1, h2⟩ := Bool.and_eq_true_iff.mp h
    simp [PyData.eqvAll, eqv_refl x m h1, eqvAll_refl r m h2]
end
section
variable {P : Program} {w : World} {K : PySem.W.Frag} {mg : Str → Option Value} {base : Heap} {f : Addr} {fd : FuncData}
def RAl (m : Nat) (ds : List PyData) (d : PyData) : Prop := ∃ v, ds = [v, v] ∧ al m v = true ∧ d = .bool true
abbrev n35 : List Str := ["_law_found", "_law_due", "_law_k"]
theorem sc35 : FnScope n35 ["_law_found", "_law_due"] (defScope (topS 35)) := ⟨rfl, rfl, rfl, by decide +kernel, rfl, by decide +kernel, by decide +kernel⟩
theorem ok_alike1 (B : Bt mg) (m : Nat) (pa : ∀ m', m = m' + 1 → Pu P w K mg base "_law_alike" m 2 (RAl m')) (F : Fun K "_law_alike" "_law_alike" (topS 35) f fd) : FnOk P w K mg base CX0 (m + 1) f fd ["_law_found", "_law_due"] (PuSp 2 (RAl m)) := by
  refine pu_ok (R := RAl m) F sc35 fun cdv A outer s H0 E G H vs ds d hr sb ra hn hR => ?_
  obtain ⟨v, rfl, hv, rfl⟩ := hR
  obtain ⟨x0, _, rfl, r0, ra⟩ := ra.consE
  obtain ⟨x1, _, rfl, r1, ra⟩ := ra.consE
  obtain rfl := ra.nilE
  have hu := Room.units hr
  refine ws_if (Rl := Ex) (b := tTup v || tLst v) sb (gt_val (g_isTL B (g_var 1 rfl r1))) (fun k G1 H1 g1 => ?_) fun k G1 H1 g1 => ?_
  · have r0' := r0.mono g1.ex
    have r1' := r1.mono g1.ex
    refine ws_if (Rl := Ex) (b := false) g1.sub (Gw.pt (gw_is (gw_or (k := !(tTup v || tLst v)) (gt_not (gt_val (g_isTL B (g_var 0 rfl r0')))) fun _ => gw_or1 (gt_ne hu (sh_b _) (sh_b _) (g_isLst B (g_var 0 rfl r0')) (g_isLst B (g_var 1 rfl r1')))) (by rw [k]; simp [PyData.eqv]))) nofun fun _ G2 H2 g2 => ?_
    have r0'' := r0'.mono g2.ex
    have r1'' := r1'.mono g2.ex
    obtain ⟨m', rfl, xs, hx, hl, ha, hv2⟩ : ∃ m', m = m' + 1 ∧ ∃ xs, (v = .tuple xs ∨ v = .list xs) ∧ xs.length ≤ 100 ∧ alAll m' xs = true ∧ True := by
      cases m with
      | zero =>
        cases v with
        | tuple _ => unfold al at hv; cases hv
        | list _ => unfold al at hv; cases hv
        | _ => exact nomatch k
      | succ m' =>
        cases v with
        | tuple xs =>
          unfold al at hv
          obtain ⟨h1, h2⟩ := Bool.and_eq_true_iff.mp hv
          exact ⟨m', rfl, xs, .inl rfl, of_decide_eq_true h1, h2, trivial⟩
        | list xs =>
          unfold al at hv
          obtain ⟨h1, h2⟩ := Bool.and_eq_true_iff.mp hv
          exact ⟨m', rfl, xs, .inr rfl, of_decide_eq_true h1, h2, trivial⟩
        | _ => exact nomatch k
    have len : ∀ {σ : L2.St} {G3 : Hp} {e : Expr} {p pos : Pos}, Gd Ex (bX P w K mg base n35 "_law_alike" (defScope (topS 35)) f cdv A outer s H0 E) σ G3 e v → starEach [e] (bX P w K mg base n35 "_law_alike" (defScope (topS 35)) f cdv A outer s H0 E).env = (false, eval e (bX P w K mg base n35 "_law_alike" (defScope (topS 35)) f cdv A outer s H0 E).env) :: starEach [] (bX P w K mg base n35 "_law_alike" (defScope (topS 35)) f cdv A outer s H0 E).env →
        Gd Ex (bX P w K mg base n35 "_law_alike" (defScope (topS 35)) f cdv A outer s H0 E) σ G3 (.Call (.Name "len" p) [e] [] pos) (.int xs.length) := fun {σ G3 e p pos} h he => by
      rcases hx with rfl | rfl
      · exact g_lenT B.len h rfl he
      · exact g_lenL B.len h rfl he
    refine ws_if (Rl := Ex) (b := false) g2.sub (gt_is (gt_neI hu (len (g_var 0 rfl r0'') rfl) (len (g_var 1 rfl r1'') rfl)) (by simp)) nofun fun _ G3 H3 g3 => ?_
    refine ws_ret (Rl := Ex) g3.sub (gd_is (g_eqNilD hu (n := 1) (sh_lst (n := 0) ?_) (by decide) (g_lcR (z := (xs.length : Int)) (fun _ => false) (fun i => .int (i : Int)) rfl sc35.nd (blkOk_by (own := [("_law_k", 2)]) (N := n35) (sc := defScope (topS 35)) (by decide +kernel)) (fun _ _ _ _ _ => pg_name (i := 2) sc35.nd rfl (Or.inl rfl)) B.range
      (len (g_var 1 rfl (r1''.mono g3.ex)) rfl) ⟨by omega, by omega⟩ fun i G4 hi e4 => ⟨fun _ _ _ _ _ => gi_one ?_, nofun⟩)) ?_) fun v' G5 H5 g5 r5 => ⟨G5, ((g1.trans g2).trans g3).trans g5, r5⟩
    · intro d hd
      simp at hd
    · have hlt : i < xs.length := by omega
      have hat : atI xs (i : Int) = some xs[i] := atI_nat (List.getElem?_eq_getElem hlt)
      have hm := alAll_mem ha (List.getElem_mem hlt)
      have item : ∀ {Y : Cx} {σ : L2.St} {a b : Expr} {pos : Pos}, Gd Ex Y σ G4 a v → Gd Ex Y σ G4 b (.int (i : Int)) → PlainIx b → Gd Ex Y σ G4 (.Subscript a b pos) xs[i] := fun h1 h2 h3 => by
        rcases hx with rfl | rfl
        · exact g_ixT h1 h2 hat h3
        · exact g_ixL h1 h2 hat h3
      exact gt_is (gt_not (gt_val (g_call (pa m' rfl) hr (ga_cons (item (g_var 0 rfl (r0''.mono (g3.ex.trans e4))) (g_var 2 rfl (.int _)) (fun _ _ => rfl)) (ga_cons (item (g_var 1 rfl (r1''.mono (g3.ex.trans e4))) (g_var 2 rfl (.int _)) (fun _ _ => rfl)) ga_nil)) rfl ⟨xs[i], rfl, hm, rfl⟩))) rfl
    · simp
  · have r0' := r0.mono g1.ex
    have r1' := r1.mono g1.ex
    have hv0 : al 0 v = true ∧ Sh 0 v := by
      cases v with
      | tuple _ => exact nomatch k
      | list _ => exact nomatch k
      | dict _ => cases m <;> (unfold al at hv; cases hv)
      | none => exact ⟨al_none, sh_non⟩
      | bool _ => exact ⟨al_bool, sh_bl⟩
      | int _ => exact ⟨al_int, sh_int⟩
      | str z => unfold al at hv; exact ⟨al_str hv, sh_str hv⟩
    have heq : ∀ {σ : L2.St} {a b : Expr} {pos : Pos} {Y : Cx}, Y.A.units + 64 < cLine → Gd Ex Y σ G1 a v → Gd Ex Y σ G1 b v → Gd Ex Y σ G1 (.Compare a [.Eq] [b] pos) (.bool true) := fun hu h1 h2 => gd_is (g_eq hu (hv0.2.shaped (by decide)) (hv0.2.shaped (by decide)) h1 h2) (by rw [eqv_refl v 0 hv0.1])
    refine ws_if (Rl := Ex) (b := isNn v || tStr v) g1.sub (Gw.pt (gw_or (gt_cmp op_isN rd_isN (g_var 1 rfl r1') g_non (nomark _)) fun _ => gw_or1 (gt_val (g_isStr B (g_var 1 rfl r1'))))) (fun k2 G2 H2 g2 => ?_) fun k2 G2 H2 g2 => ?_
    · refine ws_ret (Rl := Ex) (d := .bool true) g2.sub ?_ fun v' G5 H5 g5 r5 => ⟨G5, (g1.trans g2).trans g5, r5⟩
      exact gd_is (g_and (k := true) (k' := true) (Gd.mono g2.ex (heq hu (g_var 0 rfl r0') (g_var 1 rfl r1'))) fun _ => g_one (gd_is (g_eq hu (sh_b _) (sh_b _) (g_isStr B (g_var 0 rfl (r0'.mono g2.ex))) (g_isStr B (g_var 1 rfl (r1'.mono g2.ex)))) (by simp [PyData.eqv]))) rfl
    · have hti : tInt v = true := by
        cases v with
        | int _ => rfl
        | bool _ => rfl
        | none => exact nomatch k2
        | str _ => exact nomatch k2
        | tuple _ => exact nomatch k
        | list _ => exact nomatch k
        | dict _ => cases m <;> (unfold al at hv; cases hv)
      refine ws_ret (Rl := Ex) (d := .bool true) g2.sub ?_ fun v' G5 H5 g5 r5 => ⟨G5, (g1.trans g2).trans g5, r5⟩
      exact gd_is (g_and (k := true) (k' := true) (gd_is (g_isInt B (g_var 0 rfl (r0'.mono g2.ex))) (by rw [hti])) fun _ => gd_is (g_and (k := true) (k' := true) (gd_is (g_eq hu (sh_b _) (sh_b _) (g_isBl B (g_var 0 rfl (r0'.mono g2.ex))) (g_isBl B (g_var 1 rfl (r1'.mono g2.ex)))) (by simp [PyData.eqv])) fun _ => g_one (Gd.mono g2.ex (heq hu (g_var 0 rfl r0') (g_var 1 rfl r1')))) rfl) rfl
theorem ok_alike (B : Bt mg) {m1 : mg "_law_alike" = some (.ref f)} {m2 : PySem.W.keepIn K (.ref f) = true} {m3 : Binds K fd ["_law_found", "_law_due"] []} (F : Fun K "_law_alike" "_law_alike" (topS 35) f fd) : ∀ m, FnOk P w K mg base CX0 (m + 1) f fd ["_law_found", "_law_due"] (PuSp 2 (RAl m))
  | 0 => ok_alike1 B 0 nofun F
  | m + 1 => ok_alike1 B (m + 1) (fun m' e => by cases e; exact ⟨f, fd, _, ok_alike (m1 := m1) (m2 := m2) (m3 := m3) B F m, m1, m2, m3⟩) F
end
end WR
end
section
set_option Elab.async false
set_option linter.all false
set_option maxRecDepth 100000
namespace WR
open PySem PySem.Spec PyProof.Rows L2
section
variable {P : Program} {w : World} {K : PySem.W.Frag} {mg : Str → Option Value} {base : Heap} {f : Addr} {fd : FuncData}
/-! ### the law's facts, holds, go, walk -/
theorem catS {l m : List Str} : l.map PyData.str ++ m.map PyData.str = (l ++ m).map .str := by rw [List.map_append]
def Deed.all (q : Deed) : List Str := q.needs ++ q.bars ++ q.adds ++ q.strikes
theorem g_catT {Rl : Hp → Hp → Prop} [RlOk Rl] {X : Cx} {σ : L2.St} {G : Hp} {a b : Expr} {pos : Pos} {l m : List Str} (hz : l.length + m.length ≤ 100000) (ha : Gd Rl X σ G a (strsD l)) (hb : Gd Rl X σ G b (strsD m)) : Gd Rl X σ G (.BinOp a .Add b pos) (strsD (l ++ m)) :=
  gd_is (g_op op_catA (rd_catT (by rw [List.length_map, List.length_map]; exact hz)) ha hb) (by rw [catS]; rfl)
theorem g_catL {Rl : Hp → Hp → Prop} [RlOk Rl] {X : Cx} {σ : L2.St} {G : Hp} {a b : Expr} {pos : Pos} {ds es : List PyData} (hz : ds.length + es.length ≤ 100000) (ha : Gd Rl X σ G a (.list ds)) (hb : Gd Rl X σ G b (.list es)) : Gd Rl X σ G (.BinOp a .Add b pos) (.list (ds ++ es)) :=
  g_op op_cat (rd_catL hz) ha hb
def RLFacts (ds : List PyData) (d : PyData) : Prop := ∃ t : Task, ds = [t.toD] ∧ t.Sm ∧ t.deeds.length ≤ 15 ∧ d = .list (t.facts.map .str)
abbrev n38 : List Str := ["_law_task_here", "_law_found", "_law_deed"]
theorem sc38 : FnScope n38 ["_law_task_here"] (defScope (topS 38)) := ⟨rfl, rfl, rfl, by decide +kernel, rfl, by decide +kernel, by decide +kernel⟩
theorem all_len {q : Deed} (h : q.Sm) : q.all.length ≤ 200 := by
  unfold Deed.all
  simp only [List.length_append]
  have := h.n1.1
  have := h.n2.1
  have := h.n3.1
  have := h.n4.1
  omega
theorem flat_lenD {l : List Deed} (h : ∀ q ∈ l, q.Sm) : (l.flatMap Deed.all).length ≤ 200 * l.length := by
  induction l with
  | nil => simp
  | cons q r ih =>
    rw [List.flatMap_cons, List.length_append, List.length_cons]
    have := all_len (h q List.mem_cons_self)
    have := ih fun q hq => h q (List.mem_cons_of_mem _ hq)
    omega
theorem ok_lfacts (B : Bt mg) (F : Fun K "_law_facts" "_law_facts" (topS 38) f fd) : FnOk P w K mg base CX0 1 f fd ["_law_task_here"] (PuSp 1 RLFacts) := by
  refine pu_ok (R := RLFacts) F sc38 fun cdv A outer s H0 E G H vs ds d hr sb ra hn hR => ?_
  obtain ⟨t, rfl, ht, h14, rfl⟩ := hR
  obtain ⟨x0, _, rfl, r0, ra⟩ := ra.consE
  obtain rfl := ra.nilE
  have hb := ht.b.1
  have hw := ht.w.1
  have few : ∀ i, (t.bg ++ t.wish ++ (t.deeds.take i).flatMap Deed.all).length ≤ 3100 := fun i => by
    have h1 := flat_lenD (l := t.deeds.take i) fun q hq => ht.gd q (List.mem_of_mem_take hq)
    have h2 : (t.deeds.take i).length ≤ 15 := by rw [List.length_take]; omega
    simp only [List.length_append]
    omega
  refine ws_set (Rl := Ex) (i := 1) (d := .list ((t.bg ++ t.wish).map .str)) sc38.nd rfl (Or.inl rfl) sb (g_list B.list (g_catT (by omega) (g_ixT (d := strsD t.bg) (g_var 0 rfl r0) g_int (atI_nat (j := 1) rfl)) (g_ixT (d := strsD t.wish) (g_var 0 rfl r0) g_int (atI_nat (j := 2) rfl)))) fun v1 G1 H1 g1 r1 => ?_
  refine ws_forT (Rl := Ex) (ds := t.deeds.map Deed.toD) .never rfl (pg_name (i := 2) sc38.nd rfl (Or.inl rfl)) g1.sub (g_ixT (g_var 0 rfl (r0.mono g1.ex)) g_int (atI_nat (j := 0) rfl)) fun G2 H2 g2 => ⟨fun i G' σ' H' => Gr Ex G2 H2 G' H' ∧ ∃ v b, Rp G' v (.list ((t.bg ++ t.wish ++ (t.deeds.take i).flatMap Deed.all).map .str)) ∧ σ' = [some x0, some v, b], ?_, ?_, ?_, ?_⟩
  · refine ⟨.refl g2.sub, v1, _, ?_, rfl⟩
    rw [List.take_zero, List.flatMap_nil, List.append_nil]
    exact r1.mono g2.ex
  · rintro i G' σ' H' ⟨g, _⟩
    exact ⟨g.ex, g.sub⟩
  · rintro i d v G3 σ3 H3 hd ⟨g3, v3, b, r3, rfl⟩ rd
    rw [List.getElem?_map] at hd
    obtain ⟨q, hq, rfl⟩ := Option.map_eq_some_iff.mp hd
    have hqs := ht.gd q (List.mem_of_getElem? hq)
    have l1 := hqs.n1.1
    have l2 := hqs.n2.1
    have l3 := hqs.n3.1
    have l4 := hqs.n4.1
    have lf := few i
    have la := all_len hqs
    refine ws_set (Rl := Ex) (i := 1) (d := .list ((t.bg ++ t.wish ++ (t.deeds.take (i + 1)).flatMap Deed.all).map .str)) sc38.nd rfl (Or.inl rfl) g3.sub (gd_is (g_catL (es := q.all.map .str) (by rw [List.length_map, List.length_map]; omega) (g_var 1 rfl r3) (g_list B.list (g_catT (by simp only [List.length_append]; omega) (g_catT (by simp only [List.length_append]; omega) (g_catT (by omega)
      (g_ixT (d := strsD q.needs) (g_var 2 rfl rd) g_int (atI_nat (j := 1) rfl)) (g_ixT (d := strsD q.bars) (g_var 2 rfl rd) g_int (atI_nat (j := 2) rfl))) (g_ixT (d := strsD q.adds) (g_var 2 rfl rd) g_int (atI_nat (j := 3) rfl))) (g_ixT (d := strsD q.strikes) (g_var 2 rfl rd) g_int (atI_nat (j := 4) rfl))))) ?_) fun v4 G4 H4 g4 r4 => ws_nil ⟨G4, g3.trans g4, v4, _, r4, rfl⟩
    rw [catS, take_snoc hq, List.flatMap_append, List.append_assoc]
    simp
  · rintro G3 σ3 H3 ⟨g3, v3, b, r3, rfl⟩
    rw [List.length_map, List.take_length] at r3
    have hf := few t.deeds.length
    rw [List.take_length] at hf
    have hsb : (3200 : Nat) ≤ scanBound := by decide
    exact ws_ret (Rl := Ex) g3.sub (g_sset rfl B.sorted B.set (by omega) (.inl (g_var 1 rfl r3))) fun v' G5 H5 g5 r5 => ⟨G5, (g1.trans (g2.trans g3)).trans g5, r5⟩
abbrev n39 : List Str := ["_law_state", "_law_some_here", "_law_one"]
theorem sc39 : FnScope n39 ["_law_state", "_law_some_here"] (defScope (topS 39)) := ⟨rfl, rfl, rfl, by decide +kernel, rfl, by decide +kernel, by decide +kernel⟩
theorem ok_holds (F : Fun K "_law_holds" "_law_holds" (topS 39) f fd) : FnOk P w K mg base CX0 1 f fd ["_law_state", "_law_some_here"] (PuSp 2 RHas) := by
  refine pu_ok (R := RHas) F sc39 fun cdv A outer s H0 E G H vs ds d hr sb ra hn hR => ?_
  obtain ⟨st, l, rfl, hl, rfl⟩ := hR
  obtain ⟨x0, _, rfl, r0, ra⟩ := ra.consE
  obtain ⟨x1, _, rfl, r1, ra⟩ := ra.consE
  obtain rfl := ra.nilE
  rw [← filter_sub]
  refine ws_ret (Rl := Ex) sb (g_eqNil (Room.units hr) (l := l.filter fun z => !decide (z ∈ st)) (fun z hz => (hl.2 z (List.mem_filter.mp hz).1).2) ?_) fun v' G4 H4 g4 r4 => ⟨G4, g4, r4⟩
  exact g_filT (l := l) (fun z => !decide (z ∈ st)) rfl sc39.nd (blkOk_by (own := [("_law_one", 2)]) (N := n39) (sc := defScope (topS 39)) (by decide +kernel)) (fun _ _ _ _ _ => pg_name (i := 2) sc39.nd rfl (Or.inl rfl)) (g_var 1 rfl r1) (by have := hl.1; omega)
      (fun y G1 hy e1 _ _ _ _ _ => gt_niT (g_var 2 rfl (.str y)) (g_var 0 rfl (r0.mono e1))) fun y G1 _ _ _ _ _ => g_var 2 rfl (.str y)
/-- a step as the law makes it -/
def goD (st : List Str) (q : Deed) : Option (List Str) := if canDo st q = true then some (behindS st q) else none
def optD : Option (List Str) → PyData
  | none => .none
  | some st => strsD st
theorem go_eq (st : List Str) (q : Deed) : sd (st.filter (fun z => !decide (z ∈ q.strikes)) ++ q.adds) = behindS st q := by
  refine sd_eq (sd_incr _) fun z => ?_
  rw [sd_mem]
  simp only [List.mem_append, List.mem_filter, Bool.and_eq_true, Bool.not_eq_true', decide_eq_false_iff_not]
  constructor
  · rintro (⟨h1, h2⟩ | h)
    · by_cases h3 : z ∈ q.adds
      · exact .inr h3
      · exact .inl ⟨h1, h2, h3⟩
    · exact .inr h
  · rintro (⟨h1, h2, _⟩ | h)
    · exact .inl ⟨h1, h2⟩
    · exact .inr h
def RGo (ds : List PyData) (d : PyData) : Prop := ∃ st, ∃ q : Deed, ds = [strsD st, q.toD] ∧ st.length ≤ 50 ∧ q.Sm ∧ d = optD (goD st q)
abbrev n40 : List Str := ["_law_state", "_law_deed", "_law_one"]
theorem sc40 : FnScope n40 ["_law_state", "_law_deed"] (defScope (topS 40)) := ⟨rfl, rfl, rfl, by decide +kernel, rfl, by decide +kernel, by decide +kernel⟩
theorem ok_go (B : Bt mg) (ph : Pu P w K mg base "_law_holds" 1 2 RHas) (F : Fun K "_law_go" "_law_go" (topS 40) f fd) : FnOk P w K mg base CX0 2 f fd ["_law_state", "_law_deed"] (PuSp 2 RGo) := by
  refine pu_ok (R := RGo) F sc40 fun cdv A outer s H0 E G H vs ds d hr sb ra hn hR => ?_
  obtain ⟨st, q, rfl, hst, hq, rfl⟩ := hR
  obtain ⟨x0, _, rfl, r0, ra⟩ := ra.consE
  obtain ⟨x1, _, rfl, r1, ra⟩ := ra.consE
  obtain rfl := ra.nilE
  have hu := Room.units hr
  refine ws_if (Rl := Ex) (b := !canDo st q) sb (Gw.pt (gw_is (gw_or (k := !subB q.needs st) (k' := !(q.bars.filter fun z => decide (z ∈ st)).isEmpty) (gt_not (gt_val (g_call ph (hr.mono (by decide)) (ga_cons (g_var 0 rfl r0) (ga_cons (g_ixT (d := strsD q.needs) (g_var 1 rfl r1) g_int (atI_nat (j := 1) rfl)) ga_nil)) rfl ⟨st, q.needs, rfl, hq.n1, rfl⟩))) fun _ => gw_or1 (gt_neNil hu (l := q.bars.filter fun z => decide (z ∈ st)) (fun z hz => (hq.n2.2 z (List.mem_filter.mp hz).1).2) ?_)) ?_)) (fun k G1 H1 g1 => ?_) fun k G1 H1 g1 => ?_
  · exact g_filT (l := q.bars) (fun z => decide (z ∈ st)) rfl sc40.nd (blkOk_by (own := [("_law_one", 2)]) (N := n40) (sc := defScope (topS 40)) (by decide +kernel)) (fun _ _ _ _ _ => pg_name (i := 2) sc40.nd rfl (Or.inl rfl)) (g_ixT (g_var 1 rfl r1) g_int (atI_nat (j := 2) rfl)) (by have := hq.n2.1; omega)
      (fun y G1 hy e1 _ _ _ _ _ => gt_inT (g_var 2 rfl (.str y)) (g_var 0 rfl (r0.mono e1))) fun y G1 _ _ _ _ _ => g_var 2 rfl (.str y)
  · unfold canDo
    rw [filter_empty]
    cases subB q.needs st <;> cases disj q.bars st <;> rfl
  · refine ws_ret (Rl := Ex) (d := .none) g1.sub g_non fun v' G4 H4 g4 r4 => ⟨G4, g1.trans g4, ?_⟩
    have e : goD st q = none := by unfold goD; rw [if_neg (by intro z; rw [z] at k; cases k)]
    rw [e]
    exact r4
  · have e : goD st q = some (behindS st q) := by unfold goD; rw [if_pos (by cases z : canDo st q <;> rw [z] at k <;> first | rfl | cases k)]
    rw [e]
    have lf : (st.filter (fun z => !decide (z ∈ q.strikes))).length ≤ 50 := Nat.le_trans (List.length_filter_le _ _) hst
    have la := hq.n3.1
    have hsb : (3200 : Nat) ≤ scanBound := by decide
    refine ws_ret (Rl := Ex) g1.sub (gd_is (g_tuple B.tuple (g_sset (zs := st.filter (fun z => !decide (z ∈ q.strikes)) ++ q.adds) rfl B.sorted B.set (by rw [List.length_append]; omega) (.inl (gd_is (g_catL (ds := (st.filter (fun z => !decide (z ∈ q.strikes))).map .str) (es := q.adds.map .str) (by rw [List.length_map, List.length_map]; omega) ?_ (g_list B.list (g_ixT (g_var 1 rfl (r1.mono g1.ex)) g_int (atI_nat (j := 3) rfl)))) (by rw [catS]))))) (by rw [go_eq]; rfl)) fun v' G4 H4 g4 r4 => ⟨G4, g1.trans g4, r4⟩
    exact g_filT (l := st) (fun z => !decide (z ∈ q.strikes)) rfl sc40.nd (blkOk_by (own := [("_law_one", 2)]) (N := n40) (sc := defScope (topS 40)) (by decide +kernel)) (fun _ _ _ _ _ => pg_name (i := 2) sc40.nd rfl (Or.inl rfl)) (g_var 0 rfl (r0.mono g1.ex)) (by omega)
      (fun y G2 hy e1 _ _ _ _ _ => gt_niT (g_var 2 rfl (.str y)) (g_ixT (d := strsD q.strikes) (g_var 1 rfl ((r1.mono g1.ex).mono e1)) g_int (atI_nat (j := 4) rfl))) fun y G2 _ _ _ _ _ => g_var 2 rfl (.str y)
end
end WR
end
section
set_option Elab.async false
set_option linter.all false
set_option maxRecDepth 100000
namespace WR
open PySem PySem.Spec PyProof.Rows L2
/-! ### data that may be compared, by al -/
mutual
theorem al_sh : ∀ (d : PyData) (m : Nat), al m d = true → Sh m d
  | .none, _, _ => sh_non
  | .bool _, _, _ => sh_bl
  | .int _, _, _ => sh_int
  | .str z, m, h => by unfold al at h; exact sh_str h
  | .list xs, 0, h => by unfold al at h; cases h
  | .list xs, m + 1, h => by
    unfold al at h
    exact sh_lst (al_shs xs m (Bool.and_eq_true_iff.mp h).2)
  | .tuple xs, 0, h => by unfold al at h; cases h
  | .tuple xs, m + 1, h => by
    unfold al at h
    exact sh_tup (al_shs xs m (Bool.and_eq_true_iff.mp h).2)
  | .dict _, m, h => by cases m <;> (unfold al at h; cases h)
theorem al_shs : ∀ (l : List PyData) (m : Nat), alAll m l = true → ∀ d ∈ l, Sh m d
  | [], _, _, _, hd => by cases hd
  | x :: r, m, h, d, hd => by
    unfold alAll at h
    obtain ⟨h1, h2⟩ := Bool.and_eq_true_iff.mp h
    rcases List.mem_cons.mp hd with e | hd
    · rw [e]
      exact al_sh x m h1
    · exact al_shs r m h2 d hd
end
theorem sh_tupE {n : Nat} {xs : List PyData} (h : Sh n (.tuple xs)) : ∀ d ∈ xs, Sh n d := by
  obtain ⟨h1, h2⟩ := h
  have h1' : PyData.canLayAll0 xs = true := by simpa [PyData.canLay0] using h1
  have h2' : PyData.depthAll xs ≤ n := by simp [PyData.depth] at h2; omega
  clear h1 h2
  induction xs with
  | nil => exact fun d hd => by cases hd
  | cons a r ih =>
    simp only [PyData.canLayAll0, Bool.and_eq_true] at h1'
    simp only [PyData.depthAll] at h2'
    intro d hd
    rcases List.mem_cons.mp hd with e | hd
    · rw [e]; exact ⟨h1'.1, by omega⟩
    · exact ih h1'.2 (by omega) d hd
theorem al_tupE {m : Nat} {xs : List PyData} (h : al (m + 1) (.tuple xs) = true) : ∀ d ∈ xs, al m d = true := by
  unfold al at h
  exact fun d hd => alAll_mem (Bool.and_eq_true_iff.mp h).2 hd
theorem eqv_name (a : Str) (d : PyData) (q : Deed) (h : q.name = a) : PyData.eqv (.str a) d = nameIs d q := by
  subst h
  cases d with
  | str z =>
    simp only [PyData.eqv, nameIs]
    by_cases h : q.name = z <;> simp [h]
  | _ => simp [PyData.eqv, nameIs]
section
variable {P : Program} {w : World} {K : PySem.W.Frag} {mg : Str → Option Value} {base : Heap} {f : Addr} {fd : FuncData}
/-! ### walk -/
theorem goFrom_none_snoc {t : Task} {st : List Str} {ns : List PyData} {i : Nat} {n : PyData} (h : ns[i]? = some n) : goFrom t st (ns.take (i + 1)) = match goFrom t st (ns.take i) with
    | none => none
    | some s => stepOf t s n := by
  rw [take_snoc h, goFrom_snoc] <;> (cases goFrom t st (ns.take i) <;> rfl)
def nmOk (d : PyData) : Prop := sm d = true ∧ al 2 d = true
def RWalk (ds : List PyData) (d : PyData) : Prop := ∃ t : Task, ∃ st ns, ds = [t.toD, strsD st, .tuple ns] ∧ t.Good ∧ t.Sm ∧ StIn t st ∧ ns.length ≤ 50 ∧ (∀ n ∈ ns, nmOk n) ∧ d = optD (goFrom t st ns)
abbrev n46 : List Str := ["_law_task_here", "_law_state", "_law_names", "_law_name", "_law_some_here", "_law_deed"]
theorem sc46 : FnScope n46 ["_law_task_here", "_law_state", "_law_names"] (defScope (topS 46)) := ⟨rfl, rfl, rfl, by decide +kernel, rfl, by decide +kernel, by decide +kernel⟩
theorem optD_isN (o : Option (List Str)) : isNn (optD o) = o.isNone := by cases o <;> rfl
theorem ok_walk (pg : Pu P w K mg base "_law_go" 2 2 RGo) (F : Fun K "_law_walk" "_law_walk" (topS 46) f fd) : FnOk P w K mg base CX0 3 f fd ["_law_task_here", "_law_state", "_law_names"] (PuSp 3 RWalk) := by
  refine pu_ok (R := RWalk) F sc46 fun cdv A outer s H0 E G H vs ds d hr sb ra hn hR => ?_
  obtain ⟨t, st, ns, rfl, g, ht, hst, hl, hns, rfl⟩ := hR
  obtain ⟨x0, _, rfl, r0, ra⟩ := ra.consE
  obtain ⟨x1, _, rfl, r1, ra⟩ := ra.consE
  obtain ⟨x2, _, rfl, r2, ra⟩ := ra.consE
  obtain rfl := ra.nilE
  have hu := Room.units hr
  refine ws_forT (Rl := Ex) (ds := ns) .never rfl (pg_name (i := 3) sc46.nd rfl (Or.inr rfl)) sb (g_var 2 rfl r2) fun G1 H1 g1 => ⟨fun i G' σ' H' => Gr Ex G1 H1 G' H' ∧ ∃ v a b c, Rp G' v (optD (goFrom t st (ns.take i))) ∧ σ' = [some x0, some v, some x2, a, b, c], ?_, ?_, ?_, ?_⟩
  · exact ⟨.refl g1.sub, x1, _, _, _, r1.mono g1.ex, rfl⟩
  · rintro i G' σ' H' ⟨g', _⟩
    exact ⟨g'.ex, g'.sub⟩
  · rintro i n v G2 σ2 H2 hd ⟨g2, v2, a, b, c, rv, rfl⟩ rd
    obtain ⟨hns1, hns2⟩ := hns n (List.mem_of_getElem? hd)
    have hshn := (al_sh n 2 hns2).shaped (by decide)
    have r0' := r0.mono (g1.ex.trans g2.ex)
    refine ws_setLcTm (Rl := Ex) (i := 4) t.deeds Deed.toD (nameIs n) Deed.toD rfl sc46.nd rfl rfl (sw_true rfl rfl rfl (by decide +kernel)) (blkOk_by (own := [("_law_deed", 5)]) (N := n46) (sc := defScope (topS 46)) (by decide +kernel)) (fun _ _ _ _ _ => pg_name (i := 5) sc46.nd rfl (Or.inl rfl)) g2.sub
      (g_ixT (g_var 0 rfl r0') g_int (atI_nat (j := 0) rfl)) (by have := ht.few; omega) (fun q vq G3 hq e3 rq => ⟨fun _ _ _ _ _ => gi_one (gt_is (gt_eq hu (shaped_str (ht.gd q hq).n.2) hshn (g_ixT (g_var 5 rfl rq) g_int (atI_nat (j := 0) rfl)) (g_var 3 rfl (rd.mono e3))) (eqv_name _ _ q rfl)), fun _ _ _ _ _ _ => g_var 5 rfl rq⟩) fun v3 G3 H3 g3 r3 => ?_
    have hs3 : Sh 3 (.list ((t.deeds.filter (nameIs n)).map Deed.toD)) := sh_deedsL fun q hq => ht.gd q (List.mem_filter.mp hq).1
    have hstep := goFrom_none_snoc (t := t) (st := st) hd
    have rv3 := rv.mono g3.ex
    refine ws_set (Rl := Ex) (i := 1) (d := optD (goFrom t st (ns.take (i + 1)))) sc46.nd rfl (Or.inl rfl) g3.sub (g_if (k := !(t.deeds.filter (nameIs n)).isEmpty && (goFrom t st (ns.take i)).isSome) (gt_is (Gw.pt (gw_and (gt_neNilD hu hs3 (by decide) (g_var 4 rfl r3)) fun _ => gw_and1 (gt_cmp op_notN rd_notN (g_var 1 rfl rv3) g_non (nomark _)))) ?_) (fun k => ?_) fun k => ?_) fun v4 G4 H4 g4 r4 => ws_nil ⟨G4, (g2.trans g3).trans g4, v4, _, _, _, r4, rfl⟩
    · rw [optD_isN]
      cases t.deeds.filter (nameIs n) <;> cases goFrom t st (ns.take i) <;> rfl
    · obtain ⟨k1, k2⟩ := Bool.and_eq_true_iff.mp k
      obtain ⟨s, es⟩ := Option.isSome_iff_exists.mp k2
      rw [es] at rv3 hstep
      have hin := goFrom_in g hst es
      cases ef : t.deeds.filter (nameIs n) with
      | nil => rw [ef] at k1; cases k1
      | cons q r =>
        have hq : deedOf t n = some q := by unfold deedOf; rw [find_filter, ef]; rfl
        rw [ef] at r3
        refine gd_is (g_call pg (hr.mono (by decide)) (ga_cons (g_var 1 rfl rv3) (ga_cons (g_ixL (g_var 4 rfl r3) g_int (atI_nat (j := 0) rfl)) ga_nil)) rfl ⟨s, q, rfl, Nat.le_trans (hin.few g) (by decide), ht.gd q (deedOf_mem hq), rfl⟩) ?_
        rw [hstep]
        show optD (goD s q) = optD (stepOf t s n)
        unfold stepOf
        rw [hq]
        rfl
    · have e : goFrom t st (ns.take (i + 1)) = none := by
        rw [hstep]
        cases es : goFrom t st (ns.take i) with
        | none => rfl
        | some s =>
          rw [es] at k
          cases ef : t.deeds.filter (nameIs n) with
          | cons q r => rw [ef] at k; cases k
          | nil =>
            show stepOf t s n = none
            have : deedOf t n = none := by unfold deedOf; rw [find_filter, ef]; rfl
            unfold stepOf
            rw [this]
      rw [e]
      exact g_non
  · rintro G2 σ2 H2 ⟨g2, v2, a, b, c, rv, rfl⟩
    rw [List.take_length] at rv
    exact ws_ret (Rl := Ex) g2.sub (g_var 1 rfl rv) fun v' G5 H5 g5 r5 => ⟨G5, (g1.trans g2).trans g5, r5⟩
/-! ### is_part, is_deed -/
def RPart (ds : List PyData) (d : PyData) : Prop := ∃ v, ds = [v] ∧ sm v = true ∧ Sh 20 v ∧ d = .bool (asFacts v).isSome
abbrev n48 : List Str := ["_law_value", "_law_one"]
theorem sc48 : FnScope n48 ["_law_value"] (defScope (topS 48)) := ⟨rfl, rfl, rfl, by decide +kernel, rfl, by decide +kernel, by decide +kernel⟩
theorem filter_all {α : Type} (p : α → Bool) (l : List α) : (l.filter fun d => !p d).isEmpty = l.all p := by
  induction l with
  | nil => rfl
  | cons a r ih =>
    rw [List.filter_cons, List.all_cons]
    cases h : p a with
    | true => exact ih
    | false => rfl
/-- 1 <= len(e) <= 40 -/
theorem gt_len40 {Rl : Hp → Hp → Prop} [RlOk Rl] {X : Cx} {σ : L2.St} {G : Hp} {e : Expr} {z : Str} {j1 j2 : Nat} {p1 p2 p3 p4 pos : Pos} (B : Bt X.mg) (h : sm (.str z) = true) (ha : Gd Rl X σ G e (.str z)) (hg : Gl X "len" := by rfl) (he : starEach [e] X.env = (false, eval e X.env) :: starEach [] X.env := by rfl) :
    Gt Rl X σ G (.Compare (.Constant (.int 1) j1 p1) [.LtE, .LtE] [.Call (.Name "len" p2) [e] [] p3, .Constant (.int 40) j2 p4] pos) (nameOk z) :=
  gt_chain op_le op_le rd_cmpI (fun _ => rd_cmpI) g_int (g_lenS B.len (Nat.le_trans (sm_str.1 h).1 (by decide)) ha hg he) fun _ => g_int
def strPart : PyData → List Str
  | .tuple ds => (asStrs ds).getD []
  | _ => []
theorem ok_is_part (B : Bt mg) (F : Fun K "_law_is_part" "_law_is_part" (topS 48) f fd) : FnOk P w K mg base CX0 1 f fd ["_law_value"] (PuSp 1 RPart) := by
  refine pu_ok (R := RPart) F sc48 fun cdv A outer s H0 E G H vs ds d hr sb ra hn hR => ?_
  obtain ⟨v, rfl, hs, ha, rfl⟩ := hR
  obtain ⟨x0, _, rfl, r0, ra⟩ := ra.consE
  obtain rfl := ra.nilE
  have hu := Room.units hr
  refine ws_if (Rl := Ex) sb (Gw.pt (gw_or (k := !tTup v) (k' := !(match v with | .tuple ds => ds.all isName | _ => true)) ?_ fun h1 => gw_or1 ?_)) ?_ ?_
  · exact gt_not (gt_val (g_isTup B (g_var 0 rfl r0)))
  · obtain ⟨ds, rfl⟩ := tTup_e (by simpa using h1)
    obtain ⟨hl, hm⟩ := sm_tuple.1 hs
    have hal := sh_tupE ha
    refine gt_is (gt_neNilD hu (n := 21) (l := (ds.filter fun d => !isName d).map id) (sh_lst fun d hd => ?_) (by decide) (g_lcT (fun d => !isName d) id (ds := ds) rfl sc48.nd (blkOk_by (own := [("_law_one", 1)]) (N := n48) (sc := defScope (topS 48)) (by decide +kernel)) (fun _ _ _ _ _ => pg_name (i := 1) sc48.nd rfl (Or.inl rfl)) (g_var 0 rfl r0) (by omega)
      fun d v G1 hd e1 rd => ⟨fun _ _ _ _ _ => gi_one (gt_is (Gw.pt (gw_or (k := !tStr d) (k' := !isName d) (gt_not (gt_val (g_isStr B (g_var 1 rfl rd)))) fun h2 => gw_or1 ?_)) ?_), fun _ _ _ _ _ _ => g_var 1 rfl rd⟩)) ?_
    · rw [List.map_id] at hd
      exact hal d (List.mem_filter.mp hd).1
    · obtain ⟨z, rfl⟩ := tStr_e (by simpa using h2)
      exact gt_not (gt_len40 B (hm _ hd) (g_var 1 rfl rd))
    · cases d <;> first | rfl | (simp [tStr, isName])
    · rw [List.map_id, filter_all]
  · intro h G' H' g
    refine ws_ret g.sub g_bl fun v' G2 H2 g2 r2 => ⟨G2, g.trans g2, ?_⟩
    have e : asFacts v = none := by
      cases v with
      | tuple ds => exact asFacts_none (by simpa [tTup] using h)
      | _ => exact asFacts_no fun _ z => nomatch z
    rw [e]
    exact r2
  · intro h G' H' g
    obtain ⟨ds, rfl⟩ : ∃ ds, v = .tuple ds := tTup_e (by cases v <;> first | rfl | (exact nomatch h))
    obtain ⟨l, rfl, hl⟩ := all_isName (ds := ds) (by simpa [tTup] using h)
    obtain ⟨hz, hm⟩ := sm_tuple.1 hs
    rw [List.length_map] at hz
    have hok : ∀ z ∈ l, PyData.strOk z = true := fun z hz => (sm_str.1 (hm _ (List.mem_map.mpr ⟨z, hz, rfl⟩))).2
    have r1 := r0.mono g.ex
    have hsb : (3200 : Nat) ≤ scanBound := by decide
    refine ws_ret (Rl := Ex) g.sub (gd_is (g_eq hu (shaped_strsL hok) (shaped_strsL (l := sd l) fun z hz => hok z (sd_mem.mp hz)) (g_list B.list (g_var 0 rfl r1)) (g_sset rfl B.sorted B.set (by omega) (.inr (g_var 0 rfl r1)))) ?_) fun v' G2 H2 g2 r2 => ⟨G2, g.trans g2, r2⟩
    rw [show PyData.tuple (l.map .str) = strsD l from rfl, asFacts_strs hl]
    simp only [PyData.eqv]
    rw [eqv_strs]
    cases e : incr l with
    | true => rw [sd_self e]; simp
    | false =>
      have : ¬ l = sd l := fun z => by rw [sd_self_iff.mp z] at e; cases e
      simp [this]
def RDeedL (ds : List PyData) (d : PyData) : Prop := ∃ v, ds = [v] ∧ sm v = true ∧ Sh 20 v ∧ d = .bool (asDeed v).isSome
abbrev n49 : List Str := ["_law_value", "_law_part", "_law_one"]
theorem sc49 : FnScope n49 ["_law_value"] (defScope (topS 49)) := ⟨rfl, rfl, rfl, by decide +kernel, rfl, by decide +kernel, by decide +kernel⟩
def numOk (p : PyData) : Bool := isNum p 1 9
theorem ok_lis_deed (B : Bt mg) (pp : Pu P w K mg base "_law_is_part" 1 1 RPart) (F : Fun K "_law_is_deed" "_law_is_deed" (topS 49) f fd) : FnOk P w K mg base CX0 2 f fd ["_law_value"] (PuSp 1 RDeedL) := by
  refine pu_ok (R := RDeedL) F sc49 fun cdv A outer s H0 E G H vs ds d hr sb ra hn hR => ?_
  obtain ⟨v, rfl, hs, hal, rfl⟩ := hR
  obtain ⟨x0, _, rfl, r0, ra⟩ := ra.consE
  obtain rfl := ra.nilE
  have hu := Room.units hr
  have str6 : ∀ {ds : List PyData}, ds.length = 6 → ∃ a b c d e g, ds = [a, b, c, d, e, g] := fun {ds} hl => by
    match ds, hl with
    | [a, b, c, d, e, g], _ => exact ⟨a, b, c, d, e, g, rfl⟩
  refine ws_if (Rl := Ex) (b := !sixD v) sb (gt_is (k := !tTup v || (not6 v || !sixD v)) (Gw.pt (gw_or (k := !tTup v) (k' := not6 v || !sixD v) (gt_not (gt_val (g_isTup B (g_var 0 rfl r0)))) fun h1 => gw_or (k := not6 v) ?_ fun h2 => ?_)) ?_) ?_ ?_
  · obtain ⟨ds, rfl⟩ := tTup_e (by simpa using h1)
    exact gt_neI hu (g_lenT B.len (g_var 0 rfl r0)) g_int
  · obtain ⟨ds, rfl⟩ := tTup_e (by simpa using h1)
    have hl : ds.length = 6 := by have h2' : (!((ds.length : Int) == 6)) = false := h2; simp at h2'; omega
    obtain ⟨a, b, c, d, e, g, rfl⟩ := str6 hl
    refine gw_is (gw_or (k := !tStr a) (k' := !isName a) (gt_not (gt_val (g_isStr B (g_ixT (g_var 0 rfl r0) g_int (atI_nat (j := 0) rfl))))) fun h3 => gw_or1 ?_) ?_
    · obtain ⟨z, rfl⟩ := tStr_e (by simpa using h3)
      exact gt_not (gt_len40 B ((sm_tuple.1 hs).2 _ (by simp)) (g_ixT (g_var 0 rfl r0) g_int (atI_nat (j := 0) rfl)))
    · show (!tStr a || !isName a) = !isName a
      cases a <;> first | rfl | (simp [tStr, isName])
  · cases v with
    | tuple ds =>
      show (false || (!((ds.length : Int) == 6) || !six ds)) = !six ds
      cases e : six ds with
      | false => simp
      | true =>
        unfold six at e
        split at e
        · rfl
        · cases e
    | _ => rfl
  · intro h G' H' g
    refine ws_ret g.sub g_bl fun v' G2 H2 g2 r2 => ⟨G2, g.trans g2, ?_⟩
    rw [sixD_no (by simpa using h)]
    exact r2
  intro h G' H' g
  obtain ⟨z, b, c, d, e, p, rfl, hz⟩ := sixD_e (by simpa using h)
  have r1 := r0.mono g.ex
  obtain ⟨_, hsm⟩ := sm_tuple.1 hs
  have halm := sh_tupE hal
  have p5 : ∀ {σ : L2.St} {G1 : Hp} {p1 p2 p3 : Pos} {k : Nat}, Ex G' G1 → σ[0]? = some (some x0) → Gd Ex (bX P w K mg base n49 "_law_is_deed" (defScope (topS 49)) f cdv A outer s H0 E) σ G1 (.Subscript (.Name "_law_value" p1) (.Constant (.int 5) k p2) p3) p := fun ex h0 => g_ixT (g_var 0 h0 (r1.mono ex)) g_int (atI_nat (j := 5) rfl)
  refine ws_if (Rl := Ex) (b := !partsOk b c d e p) g.sub (gt_is (Gw.pt (gw_or (k := !(([b, c, d, e].map fun p => (asFacts p).isSome).all id)) (k' := !isNum p 1 9) ?_ fun h1 => gw_is (gw_or (k := !tInt p) (k' := tBl p || !isNum p 1 9) (gt_not (gt_val (g_isInt B (p5 (Evl.Ex.refl _) rfl)))) fun h2 => gw_or (k := tBl p) (k' := !isNum p 1 9) (gt_val (g_isBl B (p5 (Evl.Ex.refl _) rfl))) fun h3 => gw_or1 ?_) ?_)) ?_) ?_ ?_
  · refine gt_is (gt_neNilD hu (n := 21) (l := ([b, c, d, e].filter fun p => !(asFacts p).isSome).map id) (sh_lst fun d hd => ?_) (by decide) (g_lcT (fun p => !(asFacts p).isSome) id (ds := [b, c, d, e]) rfl sc49.nd (blkOk_by (own := [("_law_part", 1)]) (N := n49) (sc := defScope (topS 49)) (by decide +kernel)) (fun _ _ _ _ _ => pg_name (i := 1) sc49.nd rfl (Or.inl rfl))
      (g_slT (l := some 1) (h := some 5) (g_var 0 rfl r1) g_int g_int) (by simp) fun d v G1 hd e1 rd => ⟨fun _ _ _ _ _ => gi_one (gt_not (gt_val (g_call pp (hr.mono (by decide)) (ga_cons (g_var 1 rfl rd) ga_nil) rfl ⟨d, rfl, hsm d (by simp at hd ⊢; rcases hd with h | h | h | h <;> simp [h]), halm d (by simp at hd ⊢; rcases hd with h | h | h | h <;> simp [h]), rfl⟩))), fun _ _ _ _ _ _ => g_var 1 rfl rd⟩)) ?_
    · rw [List.map_id] at hd
      have hd := (List.mem_filter.mp hd).1
      exact halm d (by simp at hd ⊢; rcases hd with h | h | h | h <;> simp [h])
    · rw [List.map_id, filter_all, List.all_map]
      rfl
  · obtain ⟨i, rfl⟩ := tInt_e (by simpa using h2) (by simpa using h3)
    exact gt_not (gt_chain op_le op_le rd_cmpI (fun _ => rd_cmpI) g_int (p5 (Evl.Ex.refl _) rfl) fun _ => g_int)
  · cases p <;> first | rfl | (simp [tInt, tBl, isNum])
  · unfold partsOk
    cases (([b, c, d, e].map fun p => (asFacts p).isSome).all id) <;> rfl
  · intro h G2 H2 g2
    refine ws_ret g2.sub g_bl fun v' G3 H3 g3 r3 => ⟨G3, (g.trans g2).trans g3, ?_⟩
    rw [parts_no (by simpa using h)]
    exact r3
  intro h2 G2 H2 g2
  obtain ⟨n1, n2, n3, n4, i, rfl, rfl, rfl, rfl, rfl, hi, hn, j1, j2, j3, j4⟩ := parts_e (by simpa using h2)
  rw [asDeed_parts hz hi hn j1 j2 j3 j4]
  have r2 := r1.mono g2.ex
  have l1 := sm_strsD.1 (hsm (strsD n1) (by simp))
  have l3 := sm_strsD.1 (hsm (strsD n3) (by simp))
  have f1 := List.length_filter_le (fun z => decide (z ∈ n2)) n1
  have f3 := List.length_filter_le (fun z => decide (z ∈ n4)) n3
  have k1 := l1.1
  have k3 := l3.1
  refine ws_ret (Rl := Ex) g2.sub (gd_is (g_eqNil hu (l := (n1.filter fun z => decide (z ∈ n2)) ++ (n3.filter fun z => decide (z ∈ n4))) (fun z hz => ?_) (gd_is (g_catL (ds := (n1.filter fun z => decide (z ∈ n2)).map .str) (es := (n3.filter fun z => decide (z ∈ n4)).map .str) (by rw [List.length_map, List.length_map]; omega) ?_ ?_) (by rw [catS]))) ?_) fun v' G4 H4 g4 r4 => ⟨G4, (g.trans g2).trans g4, r4⟩
  · rcases List.mem_append.mp hz with h | h
    · exact (l1.2 z (List.mem_filter.mp h).1).2
    · exact (l3.2 z (List.mem_filter.mp h).1).2
  · exact g_filT (l := n1) (fun z => decide (z ∈ n2)) rfl sc49.nd (blkOk_by (own := [("_law_one", 2)]) (N := n49) (sc := defScope (topS 49)) (by decide +kernel)) (fun _ _ _ _ _ => pg_name (i := 2) sc49.nd rfl (Or.inl rfl)) (g_ixT (g_var 0 rfl r2) g_int (atI_nat (j := 1) rfl)) (by omega)
      (fun y G1 hy e1 _ _ _ _ _ => gt_inT (g_var 2 rfl (.str y)) (g_ixT (g_var 0 rfl (r2.mono e1)) g_int (atI_nat (j := 2) rfl))) fun y G1 _ _ _ _ _ => g_var 2 rfl (.str y)
  · exact g_filT (l := n3) (fun z => decide (z ∈ n4)) rfl sc49.nd (blkOk_by (own := [("_law_one", 2)]) (N := n49) (sc := defScope (topS 49)) (by decide +kernel)) (fun _ _ _ _ _ => pg_name (i := 2) sc49.nd rfl (Or.inl rfl)) (g_ixT (g_var 0 rfl r2) g_int (atI_nat (j := 3) rfl)) (by omega)
      (fun y G1 hy e1 _ _ _ _ _ => gt_inT (g_var 2 rfl (.str y)) (g_ixT (g_var 0 rfl (r2.mono e1)) g_int (atI_nat (j := 4) rfl))) fun y G1 _ _ _ _ _ => g_var 2 rfl (.str y)
  · rw [← filter_empty, ← filter_empty]
    cases n1.filter fun z => decide (z ∈ n2) <;> simp
end
end WR
end
section
set_option Elab.async false
set_option linter.all false
set_option maxRecDepth 100000
namespace WR
open PySem PySem.Spec PyProof.Rows L2
section
variable {P : Program} {w : World} {K : PySem.W.Frag} {mg : Str → Option Value} {base : Heap} {f : Addr} {fd : FuncData}
def RWrongL (ds : List PyData) (d : PyData) : Prop := ∃ v, ds = [v] ∧ sm v = true ∧ Sh 20 v ∧ d = wordD (wrongD v)
abbrev n50 : List Str := ["_law_value", "_law_names", "_law_one", "_law_deed"]
theorem sc50 : FnScope n50 ["_law_value"] (defScope (topS 50)) := ⟨rfl, rfl, rfl, by decide +kernel, rfl, by decide +kernel, by decide +kernel⟩
theorem ok_lwrong (B : Bt mg) (pp : Pu P w K mg base "_law_is_part" 1 1 RPart) (pd : Pu P w K mg base "_law_is_deed" 2 1 RDeedL) (pf : Pu P w K mg base "_law_facts" 1 1 RLFacts)
    (F : Fun K "_law_wrong" "_law_wrong" (topS 50) f fd) : FnOk P w K mg base CX0 3 f fd ["_law_value"] (PuSp 1 RWrongL) := by
  refine pu_ok (R := RWrongL) F sc50 fun cdv A outer s H0 E G H vs ds d hr sb ra hn hR => ?_
  obtain ⟨v, rfl, hs, hsh, rfl⟩ := hR
  obtain ⟨x0, _, rfl, r0, ra⟩ := ra.consE
  obtain rfl := ra.nilE
  have hu := Room.units hr
  have hsb : (3200 : Nat) ≤ scanBound := by decide
  refine ws_if (Rl := Ex) sb (gt_is (k' := not3 v) (Gw.pt (gw_or (k := !tTup v) (k' := not3 v) ?_ fun h1 => gw_or1 ?_)) ?_) ?_ ?_
  · exact gt_not (gt_val (g_isTup B (g_var 0 rfl r0)))
  · obtain ⟨ds, rfl⟩ := tTup_e (by simpa using h1)
    exact gt_neI hu (g_lenT B.len (g_var 0 rfl r0)) g_int
  · cases v <;> rfl
  · intro h G' H' g
    refine ws_ret g.sub g_str fun v' G2 H2 g2 r2 => ⟨G2, g.trans g2, ?_⟩
    rw [wrong_form h]
    exact r2
  intro h G' H' g
  obtain ⟨a, b, c, rfl⟩ := not3_e h
  have r1 := r0.mono g.ex
  obtain ⟨_, hsm⟩ := sm_tuple.1 hs
  have hshm := sh_tupE hsh
  have sa := hsm a (by simp)
  have ha := hshm a (by simp)
  refine ws_if (Rl := Ex) g.sub (Gw.pt (gw_or (k := !tTup a) (k' := long14 a || badDeeds a) (gt_not ?_) fun h1 => gw_or (k := long14 a) (k' := badDeeds a) ?_ fun h2 => gw_or1 ?_)) ?_ ?_
  · exact gt_val (g_isTup B (g_ixT (g_var 0 rfl r1) g_int (atI_nat (j := 0) rfl)))
  · obtain ⟨ds, rfl⟩ := tTup_e (by simpa using h1)
    exact gt_gtI (g_lenT B.len (g_ixT (g_var 0 rfl r1) g_int (atI_nat (j := 0) rfl))) g_int
  · obtain ⟨ds, rfl⟩ := tTup_e (by simpa using h1)
    obtain ⟨hl, hm⟩ := sm_tuple.1 sa
    have hms := sh_tupE ha
    refine gt_is (gt_neNilD hu (n := 21) (l := (ds.filter fun d => !(asDeed d).isSome).map id) (sh_lst fun d hd => ?_) (by decide) (g_lcT (fun d => !(asDeed d).isSome) id (ds := ds) rfl sc50.nd (blkOk_by (own := [("_law_one", 2)]) (N := n50) (sc := defScope (topS 50)) (by decide +kernel)) (fun _ _ _ _ _ => pg_name (i := 2) sc50.nd rfl (Or.inl rfl))
      (g_ixT (g_var 0 rfl r1) g_int (atI_nat (j := 0) rfl)) (by omega) fun d v G1 hd e1 rd => ⟨fun _ _ _ _ _ => gi_one (gt_not (gt_val (g_call pd (hr.mono (by decide)) (ga_cons (g_var 2 rfl rd) ga_nil) rfl ⟨d, rfl, hm d hd, hms d hd, rfl⟩))), fun _ _ _ _ _ _ => g_var 2 rfl rd⟩)) ?_
    · rw [List.map_id] at hd
      exact hms d (List.mem_filter.mp hd).1
    · rw [List.map_id, filter_all]
      show _ = !((ds.map fun d => (asDeed d).isSome).all id)
      rw [List.all_map]
      rfl
  · intro h2 G2 H2 g2
    refine ws_ret g2.sub g_str fun v' G3 H3 g3 r3 => ⟨G3, (g.trans g2).trans g3, ?_⟩
    rw [wrong_deeds h2]
    exact r3
  intro h2 G2 H2 g2
  obtain ⟨qs, rfl, h14, hg⟩ := deeds_e h2
  have r2 := r1.mono g2.ex
  rw [wrong_rest h14 hg]
  unfold wrongTail
  have hqs : ∀ q ∈ qs, q.Sm := fun q hq => sm_deed.1 ((sm_tuple.1 sa).2 _ (List.mem_map.mpr ⟨q, hq, rfl⟩))
  have hnm : ∀ z ∈ qs.map (·.name), PyData.strOk z = true := fun z hz => by
    obtain ⟨q, hq, rfl⟩ := List.mem_map.mp hz
    exact (hqs q hq).n.2
  refine ws_setLcTm (Rl := Ex) (i := 1) qs Deed.toD (fun _ => true) (fun q => .str q.name) rfl sc50.nd rfl rfl (sw_true rfl rfl rfl (by decide +kernel)) (blkOk_by (own := [("_law_deed", 3)]) (N := n50) (sc := defScope (topS 50)) (by decide +kernel)) (fun _ _ _ _ _ => pg_name (i := 3) sc50.nd rfl (Or.inl rfl)) g2.sub
    (g_ixT (g_var 0 rfl r2) g_int (atI_nat (j := 0) rfl)) (by omega) (fun q vq G3 hq e3 rq => ⟨fun _ _ _ _ _ => gi_nil, fun _ _ _ _ _ _ => g_ixT (ds := [.str q.name, strsD q.needs, strsD q.bars, strsD q.adds, strsD q.strikes, .int q.price]) (g_var 3 rfl rq) g_int (atI_nat (j := 0) rfl)⟩) fun vn G2b H2b g2b rn => ?_
  have rn' : Rp G2b vn (.list ((qs.map (·.name)).map .str)) := by
    rw [List.map_map]
    rw [filter_true] at rn
    exact rn
  have g02 := (g.trans g2).trans g2b
  have r2b := r2.mono g2b.ex
  refine ws_if (Rl := Ex) (b := !incr (qs.map (·.name))) g2b.sub (gt_is (gt_ne hu (shaped_strsL hnm) (shaped_strsL (l := sd (qs.map (·.name))) fun z hz => hnm z (sd_mem.mp hz)) (g_var 1 rfl rn') (g_sset rfl B.sorted B.set (by rw [List.length_map]; omega) (.inl (g_var 1 rfl rn')))) ?_) ?_ ?_
  · simp only [PyData.eqv]
    rw [eqv_strs]
    cases e : incr (qs.map (·.name)) with
    | true => rw [sd_self e]; simp
    | false =>
      have : ¬ (qs.map (·.name)) = sd (qs.map (·.name)) := fun z => by rw [sd_self_iff.mp z] at e; cases e
      simp [this]
  · intro h3 G3 H3 g3
    refine ws_ret g3.sub g_str fun v' G4 H4 g4 r4 => ⟨G4, (g02.trans g3).trans g4, ?_⟩
    rw [show incr (qs.map (·.name)) = false by simpa using h3]
    exact r4
  intro h3 G3 H3 g3
  rw [show incr (qs.map (·.name)) = true by simpa using h3, if_pos rfl]
  have r3 := r2b.mono g3.ex
  have g03 := g02.trans g3
  refine ws_if (Rl := Ex) g3.sub (gt_not (gt_val (g_call (d := .bool (asFacts b).isSome) pp (hr.mono (by decide)) (ga_cons (g_ixT (g_var 0 rfl r3) g_int (atI_nat (j := 1) rfl)) ga_nil) rfl ⟨b, rfl, hsm b (by simp), hshm b (by simp), rfl⟩))) ?_ ?_
  · intro h4 G4 H4 g4
    refine ws_ret g4.sub g_str fun v' G5 H5 g5 r5 => ⟨G5, (g03.trans g4).trans g5, ?_⟩
    cases e : asFacts b with
    | none => exact r5
    | some l => rw [e] at h4; cases h4
  intro h4 G4 H4 g4
  have r4 := r3.mono g4.ex
  cases eb : asFacts b with
  | none => rw [eb] at h4; cases h4
  | some bb =>
  refine ws_if (Rl := Ex) g4.sub (gt_not (gt_val (g_call (d := .bool (asFacts c).isSome) pp (hr.mono (by decide)) (ga_cons (g_ixT (g_var 0 rfl r4) g_int (atI_nat (j := 2) rfl)) ga_nil) rfl ⟨c, rfl, hsm c (by simp), hshm c (by simp), rfl⟩))) ?_ ?_
  · intro h5 G5 H5 g5
    refine ws_ret g5.sub g_str fun v' G6 H6 g6 r6 => ⟨G6, ((g03.trans g4).trans g5).trans g6, ?_⟩
    cases e : asFacts c with
    | none => exact r6
    | some l => rw [e] at h5; cases h5
  intro h5 G5 H5 g5
  have r5 := r4.mono g5.ex
  cases ec : asFacts c with
  | none => rw [ec] at h5; cases h5
  | some ww =>
  obtain ⟨rfl, _⟩ := asFacts_some.1 eb
  obtain ⟨rfl, _⟩ := asFacts_some.1 ec
  have ht : (Task.mk qs bb ww).Sm := sm_task.1 hs
  refine ws_ret (Rl := Ex) g5.sub (g_if (k := decide ((10 : Int) < (Task.facts ⟨qs, bb, ww⟩).length)) ?_ (fun h6 => ?_) fun h6 => ?_) fun v' G6 H6 g6 r6 => ⟨G6, ((g03.trans g4).trans g5).trans g6, r6⟩
  · exact gt_gtI (gd_is (g_lenL B.len (g_call pf (hr.mono (by decide)) (ga_cons (g_var 0 rfl r5) ga_nil) rfl ⟨⟨qs, bb, ww⟩, rfl, ht, Nat.le_trans h14 (by decide), rfl⟩)) (by rw [List.length_map])) g_int
  · have h7 : 10 < (Task.facts ⟨qs, bb, ww⟩).length := by have := of_decide_eq_true h6; omega
    simp only [if_pos h7]
    exact g_str
  · have h7 : ¬ 10 < (Task.facts ⟨qs, bb, ww⟩).length := by have := of_decide_eq_false h6; omega
    simp only [if_neg h7]
    exact g_non
end
end WR
end
section
set_option Elab.async false
set_option linter.all false
set_option maxRecDepth 100000
set_option maxHeartbeats 2000000
/-! several except clauses, some with a name -/
namespace WR
open PySem PySem.Spec PyProof.Rows L2
abbrev TSuite : Type := Addr → Value → Option Addr → TS
/-- one clause: its class, its name's slot, its suite -/
structure Clause where
  c : Value
  i : Option Nat
  ts : TSuite
def Clause.go (k : Clause) (a : Addr) (cls : Value) (d : Option Addr) (D : Ends) (σ : L2.St) (H : Hp) : Prop := match k.i with
  | none => k.ts a cls d D σ H
  | some i => k.ts a cls d { nx := fun σ' H' => D.nx (σ'.set i none) H', rt := D.rt, bk := fun σ' H' => D.bk (σ'.set i none) H', ct := fun σ' H' => D.ct (σ'.set i none) H' } (σ.set i (some (.ref a))) H
def wMix (K : PySem.W.Frag) (n : Nat) (Wout : WX) (D : Ends) : List Clause → WX
  | [] => Wout
  | k :: r => fun cls d σ H => ∃ b, PySem.W.exmOne K cls k.c = some b ∧ (b = true → ∀ a, H a = none → σ.length = n → k.go a cls d D σ H) ∧ (b = false → wMix K n Wout D r cls d σ H)
def NameAt (X : Cx) : Option Str → Option Nat → Prop
  | none, none => True
  | some n, some i => X.N[i]? = some n ∧ X.env.kindOf n = some .local
  | _, _ => False
inductive MixOk (X : Cx) : List ExceptHandler → List Clause → Prop
  | nil : MixOk X [] []
  | cons {x : Str} {nm : Option Str} {k : Clause} {b₀ : Stmt} {suite : List Stmt} {np pos' : Pos} {hds : List ExceptHandler} {l : List Clause} (hc : Names X x k.c) (hn : NameAt X nm k.i)
      (hsu : ∀ (a : Addr) (oe : Obj) (cls : Value) (d : Option Addr) (pn : List (Addr × Obj)), Zc cls d oe → (∃ vs, oe.data = .fields vs) → PSs (X.suite a ((a, oe) :: pn)) (b₀ :: suite) (k.ts a cls d)) (r : MixOk X hds l) :
      MixOk X (.ExceptHandler (some (.Name x np)) nm (b₀ :: suite) pos' :: hds) (k :: l)
section
variable {X : Cx} {body : List Stmt} {h₀ : ExceptHandler} {hds : List ExceptHandler} {l : List Clause} {pos : Pos} {tb : WX → TS} {Wout : WX}
theorem ps_try_mix (hs : X.stack = X.env :: X.outer) (hf : X.env.frame = some X.env.locals) (hN : X.N.Nodup) (tk : Takes X Wout)
    (hb : ∀ (W : WX) (pn : List (Addr × Obj)) (xe : Value → Shared → Prop), Takes (X.tr pn xe) W → PassesOwn (model X.prog X.w) X.A X.env xe → PSs (X.tr pn xe) body (tb W))
    (hh : MixOk X (h₀ :: hds) l) : PS X (.Try body (h₀ :: hds) [] [] pos) (fun D σ H => tb (wMix X.K X.N.length Wout D l) D σ H) := by
  refine ⟨fun pins s σ H D I h => ?_⟩
  have ok := I.ok
  have hfr : X.A.frames = some (X.env :: X.outer) := by rw [ok.frames, hs]
  have body := (hb (wMix X.K X.N.length Wout D l) (X.pn ++ pins) (fun e s₁ => wpAny (model X.prog X.w) X.A (noteFrame e X.env) (fun _ s₂ => wpAny (model X.prog X.w) X.A (setFlight e none) (fun _ s₃ => wpAny (model X.prog X.w) X.A (handleBy e X.env (h₀ :: hds)) (SP X pins D) X.xe s₃) X.xe s₂) X.xe s₁) (fun u s' xx => ?_) PassesOwn.looking).run [] s σ H D (I.toTry _) h
  · refine wpAny_Try_except (wpAny_mono body (fun f s1 hsp => ?_) (fun e s1 he => he))
    cases f with
    | next =>
      obtain ⟨σ', H', J', q⟩ := hsp
      exact wpAny_execs_nil ⟨σ', H', J'.ofTry ok, q⟩
    | brk =>
      obtain ⟨σ', H', J', q⟩ := hsp
      exact ⟨σ', H', J'.ofTry ok, q⟩
    | cont =>
      obtain ⟨σ', H', J', q⟩ := hsp
      exact ⟨σ', H', J'.ofTry ok, q⟩
    | ret u =>
      obtain ⟨v, σ', H', J', r, q⟩ := hsp
      exact ⟨v, σ', H', J'.ofTry ok, r, q⟩
  -- an exception of the body
  obtain ⟨a, B, sI, pins', σ', H', cls, d, rfl, J', nb, up, sky, na, os, ag, w⟩ := xx
  have J : Inv X pins σ' H' sI := J'.ofTry ok
  have sky' : Sky B (X.env :: X.outer) a (Zc cls d) X.env.locals s'.heap := by rw [← hs]; exact sky
  show wpAny (model X.prog X.w) X.A (noteFrame (.ref a) X.env) _ _ _
  refine Sky.land Zc.steady hfr hf sky' fun h3 fl3 up3 => ?_
  have J3 : Inv X pins σ' H' { s' with heap := h3 } := J.landed nb fl3.1 (up.trans up3) os ag
  obtain ⟨oe3, vs3, he3, hz3, hd3⟩ := fl3.there
  have nfr : a ∉ frs (X.env :: X.outer) := fun hm => by
    obtain ⟨_, o', e', hnf⟩ := fl3.2.2.1.mem hm
    rw [he3] at e'
    cases e'
    exact hnf _ hd3
  have nL : a ≠ X.env.locals := fun z => nfr (List.mem_filterMap.mpr ⟨X.env, List.mem_cons_self, by rw [hf, z]⟩)
  have nF : a ∉ X.fs := fun hm => by
    obtain ⟨e, he, q⟩ := List.mem_filterMap.mp hm
    exact nfr (List.mem_filterMap.mpr ⟨e, List.mem_cons_of_mem _ he, q⟩)
  have S3 := J3.suite he3 hd3 na nL nF
  have LT : PySem.W.Looks (model X.prog X.w) h3 (typeOf (.ref a)) cls := fun A Q E s k q => wpAny_typeOf_ref (k _ _ he3) (by rw [hz3.1]; exact q)
  have go : ∀ {hds' : List ExceptHandler} {l' : List Clause}, MixOk X hds' l' → wMix X.K X.N.length Wout D l' cls d σ' H' → wpAny (model X.prog X.w) X.A (handleBy (.ref a) X.env hds') (SP X pins D) X.xe { s' with heap := h3 } := by
    intro hds' l' hk
    induction hk with
    | nil =>
      intro w
      refine wpAny_handleBy_nil ?_
      obtain ⟨k1, k2, k3, oe, vs, T, oT, ts', he, hz, hd, h1, hr⟩ := id fl3
      unfold PySem.passOn
      refine wpAny_bind (wpAny_field he hd h1 ?_)
      rw [if_neg (show ¬ ((Value.ref T == Value.none) = true) from by simp)]
      have fin : wpAny (model X.prog X.w) X.A (setFlight (.ref a) X.env.frame) (fun _ s4 => wpAny (model X.prog X.w) X.A (throw (.ref a) : Sem Flow) (SP X pins D) X.xe s4) X.xe { s' with heap := h3 } := by
        rw [hf]
        exact HandSPX.setFlight_upZ fl3 fun h4 hh4 up4 => wpAny_throw (tk _ _ ⟨a, B, sI, pins, σ', H', cls, d, rfl, J, nb, (up.trans up3).trans up4, .inr (.inr (by rw [hs]; exact hh4)), na, os, ag, w⟩)
      first
        | exact wpAny_bind (wpAny_pure (wpAny_bind fin))
        | exact wpAny_bind fin
    | @cons x nm k b₀ suite np pos' hds2 l2 hc hn hsu r ih =>
      intro w
      obtain ⟨b, hb1, hyes, hno⟩ := w
      refine wpAny_handleBy_cons (codeAny_handlers_test ?_) (by intro q; cases q)
      have LM := PySem.W.exm_one (M := model X.prog X.w) (J3.kIn) LT hb1
      have test : ∀ {Q : Value → Shared → Prop} {E : Value → Shared → Prop}, Q k.c { s' with heap := h3 } → wpAny (model X.prog X.w) (X.A.mark (some (.ref a))) (eval (.Name x np) X.env) Q E { s' with heap := h3 } := fun {Q E} q => by
        obtain ⟨hg, hdbg, hm | ⟨hm, hv, hnn⟩⟩ := hc
        · exact ld_glob (X := X.suite a ((a, oe3) :: (X.pn ++ pins))) S3 hg hm q hdbg
        · exact ld_blt (X := X.suite a ((a, oe3) :: (X.pn ++ pins))) S3 hg hm hv q hnn hdbg
      refine test (LM.here ?_)
      cases b with
      | false =>
        show wpAny _ X.A (handleBy (.ref a) X.env hds2) _ _ _
        exact ih (hno rfl)
      | true =>
        have hgo := hyes rfl a na J.len
        obtain ⟨kc, ki, kts⟩ := k
        cases nm with
        | none =>
          cases ki with
          | some i => exact hn.elim
          | none =>
            refine codeAny_handlers_suite (HandSPX.lands_againZ fl3 fun h4 fl4 up4 => ?_)
            have J4 : Inv X pins σ' H' { s' with heap := h4 } := J.landed nb fl4.1 ((up.trans up3).trans up4) os ag
            obtain ⟨oe4, vs4, he4, hz4, hd4⟩ := fl4.there
            have S4 := J4.suite he4 hd4 na nL nF
            refine wpAny_mono ((hsu a oe4 cls d (X.pn ++ pins) hz4 ⟨_, hd4⟩).run [] _ _ H' _ S4 hgo) (fun f s6 hsp => ?_) (fun _ _ z => False.elim z)
            cases f with
            | next =>
              obtain ⟨σ6, H6, S6, q6⟩ := hsp
              exact ⟨_, _, S6.unsuite ok, q6⟩
            | brk =>
              obtain ⟨σ6, H6, S6, q6⟩ := hsp
              exact ⟨_, _, S6.unsuite ok, q6⟩
            | cont =>
              obtain ⟨σ6, H6, S6, q6⟩ := hsp
              exact ⟨_, _, S6.unsuite ok, q6⟩
            | ret u =>
              obtain ⟨v6, σ6, H6, S6, r6, q6⟩ := hsp
              exact ⟨_, _, _, S6.unsuite ok, r6, q6⟩
        | some n =>
          cases ki with
          | none => exact hn.elim
          | some i =>
            obtain ⟨hi, hln⟩ := hn
            refine codeAny_handlers_suite_as (HandSPX.lands_againZ fl3 fun h4 fl4 up4 => ?_)
            have J4 : Inv X pins σ' H' { s' with heap := h4 } := J.landed nb fl4.1 ((up.trans up3).trans up4) os ag
            obtain ⟨oe4, vs4, he4, hz4, hd4⟩ := fl4.there
            have S4 := J4.suite he4 hd4 na nL nF
            refine store_ok (X := X.suite a ((a, oe4) :: (X.pn ++ pins))) (v := .ref a) S4 hN hi (.inl hln) rfl (fun s5 S5 => ?_) (.inr hln)
            refine wpAny_mono ((hsu a oe4 cls d (X.pn ++ pins) hz4 ⟨_, hd4⟩).run [] s5 _ H' _ S5 hgo) (fun f s6 hsp => ?_) (fun _ _ z => False.elim z)
            have end_ : ∀ {σ6 : L2.St} {H6 : Hp} {Q : Shared → Prop}, Inv (X.suite a ((a, oe4) :: (X.pn ++ pins))) [] σ6 H6 s6 → (∀ s7, Inv X pins (σ6.set i none) H6 s7 → Q s7) →
                wpAny (model X.prog X.w) X.A (do bindName X.env n .none; unbindBehindTheSuite X.env n pos') (fun _ s7 => Q s7) X.xe s6 := fun {σ6 H6 Q} S6 hq => gone_ok (S6.unsuite ok) hN hi hln hq
            cases f with
            | next =>
              obtain ⟨σ6, H6, S6, q6⟩ := hsp
              exact end_ S6 fun s7 J7 => ⟨_, _, J7, q6⟩
            | brk =>
              obtain ⟨σ6, H6, S6, q6⟩ := hsp
              exact end_ S6 fun s7 J7 => ⟨_, _, J7, q6⟩
            | cont =>
              obtain ⟨σ6, H6, S6, q6⟩ := hsp
              exact end_ S6 fun s7 J7 => ⟨_, _, J7, q6⟩
            | ret u =>
              obtain ⟨v6, σ6, H6, S6, r6, q6⟩ := hsp
              exact end_ S6 fun s7 J7 => ⟨_, _, _, J7, r6, q6⟩
  exact go hh w
end
end WR
end
section
set_option Elab.async false
set_option linter.all false
set_option maxRecDepth 100000
set_option maxHeartbeats 1000000
namespace WR
open PySem PySem.Spec PyProof.Rows L2
/-! ### told -/
def Bad.ok : Bad → Prop
  | .deed (some i) => i < 64
  | .task z => z.length ≤ 1000
  | _ => True
def badW : Bad → Str
  | .task z => z
  | .deed none => "deednone"
  | .deed (some i) => "deed" ++ (toString (i : Int) : Str)
  | .state => "state"
def badD (b : Bad) : PyData := .tuple [.str "bad", .str (badW b)]
theorem low_none : Txt.lower ("None" : Str) = "none" := by decide +kernel
theorem low_num {i : Nat} (h : i < 64) : Txt.lower (toString (i : Int) : Str) = (toString (i : Int) : Str) ∧ (toString (i : Int) : Str).length ≤ 1000 := by
  have k : ∀ i : Fin 64, Txt.lower (toString ((i.val : Nat) : Int) : Str) = (toString ((i.val : Nat) : Int) : Str) ∧ (toString ((i.val : Nat) : Int) : Str).length ≤ 1000 := by decide +kernel
  exact k ⟨i, h⟩
def rStrNI : List V → Hp → VK → Prop := fun xs H Q => (xs = [.non] ∧ Q (.str "None") H) ∨ ∃ i, xs = [.int i] ∧ i.natAbs.log2 < 1920 ∧ Q (.str (toString i)) H
theorem call_strNI {X : Cx} : CallR X (.type "str") rStrNI := by
  intro pins s σ H xs us Q I r h
  rcases h with ⟨rfl, q⟩ | h
  · obtain ⟨u, rfl, r1⟩ := vals1 r
    cases r1
    exact PySem.P.str_of_none ⟨.str "None", H, I.tok _, ⟨_, rfl⟩, q⟩
  · exact call_str_int pins s σ H xs us Q I r h
def TTold3 (c : Clss) : (XK → Hp → VK → Prop) → Hp → VK → Prop := fun tl H Q =>
  tl (fun cls dx H' => ∃ b : Bad, b.ok ∧ BadAt c b cls dx H' ∧ ∀ p, H' p = none → Q (.ref p) (upd H' p (.tup [.str "bad", .str (badW b)]))) H Q
abbrev n51 : List Str := ["_law_work", "e"]
theorem sc51 : FnScope n51 ["_law_work"] (defScope (topS 51)) := ⟨rfl, rfl, rfl, by decide +kernel, rfl, by decide +kernel, by decide +kernel⟩
theorem sz3 {n : Nat} (h : n ≤ 100000) : n ≤ sizeLine := Evl.sz_of h
def suiteR (X : Cx) (sts : List Stmt) : TSuite := fun a cls d D σ H => ∀ (oe : Obj) (pn : List (Addr × Obj)), Zc cls d oe → (∃ vs, oe.data = .fields vs) → Ws (X.suite a ((a, oe) :: pn)) sts D σ H
theorem suiteR_ok {X : Cx} {b₀ : Stmt} {suite : List Stmt} (a : Addr) (oe : Obj) (cls : Value) (d : Option Addr) (pn : List (Addr × Obj)) (hz : Zc cls d oe) (hf : ∃ vs, oe.data = .fields vs) : PSs (X.suite a ((a, oe) :: pn)) (b₀ :: suite) (suiteR X (b₀ :: suite) a cls d) :=
  ⟨fun pins s σ H D I h => h oe pn hz hf pins s I⟩
def suiteT (i : Nat) : List Stmt := match defBody (topS 51) with
  | [.Try _ hds _ _ _] => (match hds[i]? with
    | some (.ExceptHandler _ _ s _) => s
    | none => [])
  | _ => []
abbrev tX (X : Cx) (g : Addr) (cdg : Value) (s : Shared) (H : Hp) : Cx := (cxOf C8.CX0 X.prog X.w X.K X.mg X.base n51 "_law_told" (defScope (topS 51)) g cdg X.A X.stack s H C8.E0).nox
theorem told3 {X : Cx} {c : Clss} {g : Addr} {cdg : Value} {q : Str} (B : Bt X.mg) (C : ClsOk X.prog X.w X.K X.mg X.base c) : LamX.GivesTo X n51 "_law_told" (defScope (topS 51)) g cdg (defBody (topS 51)) "_law_work" q (TTold3 c) := by
  intro f c' s H Q tl act hc h
  refine ⟨_, pss_one (ps_try_mix (X := tX X g cdg s H)
      (l := [⟨.ref c.task, some 1, suiteR (tX X g cdg s H) (suiteT 0)⟩, ⟨.ref c.deed, some 1, suiteR (tX X g cdg s H) (suiteT 1)⟩, ⟨.ref c.state, none, suiteR (tX X g cdg s H) (suiteT 2)⟩])
      (tb := fun W D σ H => ∃ Ech : XK, (∀ cls d σ' H', Ech cls d H' → W cls d σ' H') ∧ σ[0]? = some (some (.ref f)) ∧ H c' = some (LamX.CodeO c' q) ∧ tl Ech H D.rt)
      rfl rfl sc51.nd takes0 (fun W pn xe tk _ => ?hb) ?hh), ?_⟩
  case hb =>
    refine ⟨fun pins s' σ H' D I h' => ?_⟩
    obtain ⟨Ech, hW, h1, h2, h3⟩ := h'
    exact (pss_one (ps_ret (act W pn xe Ech _ _ tk hW))).run pins s' σ H' D I ⟨h1, h2, h3⟩
  case hh =>
    exact .cons ⟨rfl, rfl, .inl C.gT⟩ ⟨rfl, rfl⟩ suiteR_ok (.cons ⟨rfl, rfl, .inl C.gD⟩ ⟨rfl, rfl⟩ suiteR_ok (.cons ⟨rfl, rfl, .inl C.gS⟩ True.intro suiteR_ok .nil))
  refine ⟨fun cls dx H' => ∃ b : Bad, b.ok ∧ BadAt c b cls dx H' ∧ ∀ p, H' p = none → Q (.ref p) (upd H' p (.tup [.str "bad", .str (badW b)])), fun cls dx σ' H' z => ?_, rfl, hc, h⟩
  obtain ⟨b, hok, hb, hQ⟩ := z
  cases b with
  | task z =>
    obtain ⟨rfl, d, rfl, hx⟩ := hb
    refine ⟨true, C.mTT, fun _ a na hl => ?_, nofun⟩
    have hσ : (σ'.set 1 (some (V.ref a)))[1]? = some (some (.ref a)) := by rw [List.getElem?_set_self (by have hl' : σ'.length = 2 := hl; omega)]
    intro oe pn hz hf
    exact ws_of (pss_one (ps_ret (pe_tup (pa_cons pe_str (pa_cons (pe_xf (C := c.task) C.xT C.nT hz hf (pe_var (i := 1) rfl (Or.inl rfl))) pa_nil))))) ⟨.ref a, hσ, rfl, rfl, d, [("word", .str z)], .str z, rfl, hx, rfl, by rw [sizeLine_eq]; exact (by decide : 2 ≤ 16777216), hQ⟩
  | deed i =>
    obtain ⟨rfl, d, rfl, hx⟩ := hb
    refine ⟨false, C.mDT, nofun, fun _ => ⟨true, C.mDD, fun _ a na hl => ?_, nofun⟩⟩
    have hσ : (σ'.set 1 (some (V.ref a)))[1]? = some (some (.ref a)) := by rw [List.getElem?_set_self (by have hl' : σ'.length = 2 := hl; omega)]
    intro oe pn hz hf
    refine ws_of (pss_one (ps_ret (pe_tup (pa_cons pe_str (pa_cons (pe_op op_add_str pe_str (pe_lower (pe_callTy call_strNI rfl B.str (by decide +kernel) (pa_cons (pe_xf (C := c.deed) C.xD C.nD hz hf (pe_var (i := 1) rfl (Or.inl rfl))) pa_nil) (by decide) (by decide)))) pa_nil))))) ⟨.ref a, hσ, rfl, rfl, d, [("index", ixV i)], ixV i, rfl, hx, rfl, ?_⟩
    cases i with
    | none =>
      refine .inl ⟨rfl, ⟨_, rfl⟩, "None", rfl, rfl, by decide, ?_⟩
      rw [low_none]
      exact ⟨"deed", "none", rfl, rfl, by rw [sizeLine_eq]; decide, by rw [sizeLine_eq]; exact (by decide : 2 ≤ 16777216), hQ⟩
    | some i =>
      obtain ⟨e1, e2⟩ := low_num hok
      refine .inr ⟨(i : Int), rfl, ?_, ⟨_, rfl⟩, (toString (i : Int) : Str), rfl, rfl, by omega, ?_⟩
      · have h64 : ∀ i : Fin 64, ((i.val : Nat) : Int).natAbs.log2 < 1920 := by decide +kernel
        exact h64 ⟨i, hok⟩
      · rw [e1]
        refine ⟨"deed", _, rfl, rfl, ?_, by rw [sizeLine_eq]; exact (by decide : 2 ≤ 16777216), hQ⟩
        rw [sizeLine_eq]
        have h4 : (("deed" : Str)).length = 4 := by decide +kernel
        omega
  | state =>
    obtain ⟨rfl, rfl⟩ := hb
    refine ⟨false, C.mST, nofun, fun _ => ⟨false, C.mSD, nofun, fun _ => ⟨true, C.mSS, fun _ a na _ => ?_, nofun⟩⟩⟩
    intro oe pn hz hf
    exact ws_of (pss_one (ps_ret (pe_tup (pa_cons pe_str (pa_cons pe_str pa_nil))))) ⟨by rw [sizeLine_eq]; exact (by decide : 2 ≤ 16777216), hQ⟩
end WR
end
section
set_option Elab.async false
set_option linter.all false
set_option maxRecDepth 100000
set_option maxHeartbeats 1000000
namespace WR
open PySem PySem.Spec PyProof.Rows L2
/-! ### tables kept -/
structure XH (T : List (Addr × Str)) (H H' : Hp) : Prop where
  ext : LamX.ExtN H H'
  tabs : LamX.Tabs T H → LamX.Tabs T H'
theorem tabs_mut {T : List (Addr × Str)} {H : Hp} {p : Addr} {xs ys : List V} (t : LamX.Tabs T H) (h : H p = some (.lst xs)) : LamX.Tabs T (upd H p (.lst ys)) := fun z hz => by
  obtain ⟨ps, h1, h2, h3⟩ := t z hz
  refine ⟨ps, by rw [upd_ne (fun e => by rw [e, h] at h1; cases h1)]; exact h1, h2, fun pos cv hc => ?_⟩
  obtain ⟨c, e1, e2⟩ := h3 pos cv hc
  exact ⟨c, e1, by rw [upd_ne (fun e => by rw [e, h] at e2; unfold LamX.CodeO at e2; cases e2)]; exact e2⟩
instance {T : List (Addr × Str)} : RlOk (XH T) where
  refl := fun H => ⟨LamX.ExtN.refl H, id⟩
  trans := fun a b => ⟨a.ext.trans b.ext, fun t => b.tabs (a.tabs t)⟩
  ex := fun e => ⟨LamX.ExtN.of e, fun t => t.ext e⟩
  muL := fun {H H' p xs ys} r h h' => ⟨fun b o e n => by rw [upd_ne (ne_of_none e h)]; exact r.ext b o e n, fun t => tabs_mut (r.tabs t) h'⟩
  keep := fun r h n => r.ext _ _ h n
/-! ### readings at a heap -/
def Hd (T : List (Addr × Str)) (X : Cx) (σ : L2.St) (G H : Hp) (e : Expr) (d : PyData) : Prop := ∀ Q : VK, (∀ v G' H', Gr (XH T) G H G' H' → Rp G' v d → Q v H') → WE X e σ H Q
def Hb (T : List (Addr × Str)) (X : Cx) (σ : L2.St) (G H : Hp) (e : Expr) (b : Bool) : Prop := ∀ Q : Bool → Hp → Prop, (∀ G' H', Gr (XH T) G H G' H' → Q b H') → WT X e σ H Q
def outD : Out → PyData
  | .ok d => d
  | .error b => badD b
section
variable {T : List (Addr × Str)} {X : Cx} {σ : L2.St} {G H : Hp} {e a b : Expr} {d d1 d2 : PyData} {pos p p2 : Pos} {rest : List Stmt} {D : Ends}
theorem hd_gd (h : Gd (XH T) X σ G e d) (s : Sub G H) : Hd T X σ G H e d := fun Q q => h G (Evl.Ex.refl G) H s Q q
theorem hd_is {d' : PyData} (h : Hd T X σ G H e d) (q : d = d') : Hd T X σ G H e d' := q ▸ h
theorem hb_is {k k' : Bool} (h : Hb T X σ G H e k) (q : k = k') : Hb T X σ G H e k' := q ▸ h
theorem hb_not {k : Bool} (h : Hb T X σ G H e k) : Hb T X σ G H (.UnaryOp .Not e pos) (!k) := fun Q q pins s I => (pt_not pt_w (pos := pos)).run pins s σ H Q I (h _ q)
theorem hb_val {k : Bool} (h : Hd T X σ G H e (.bool k)) (he : ∀ whole, isTrue e X.env whole = (do let v ← whole; standAt e.pos; holding [v] (truthy v)) := by intro _; rfl) : Hb T X σ G H e k :=
  fun Q q pins s I => (pt_val pe_w he).run pins s σ H Q I (h _ fun v G' H' g r => by
    rw [r.blE]
    exact ⟨k, rfl, q G' H' g⟩)
/-- a and b, a read first -/
theorem hb_and {k k' : Bool} (ha : Gt (XH T) X σ G a k) (s : Sub G H) (hb : k = true → ∀ G1 H1, Gr (XH T) G H G1 H1 → Hb T X σ G1 H1 b k') : Hb T X σ G H (.BoolOp .And [a, b] pos) (k && k') :=
  fun Q q pins sh I => (pw_and (pos := pos) pt_w (pw_and1 (pos := pos) pt_w)).run _ pins sh σ H Q I (ha G (Evl.Ex.refl G) H s _ fun G1 H1 g => by
    cases k with
    | true => exact hb rfl G1 H1 g _ fun G2 H2 g2 => q G2 H2 (g.trans g2)
    | false => exact q G1 H1 g)
theorem hb_ne (hu : X.A.units + 64 < cLine) (h1 : SeqAt.shaped d1 = true) (h2 : SeqAt.shaped d2 = true) (ha : Hd T X σ G H a d1) (hb : Gd (XH T) X σ G b d2) (hm : behindInMarks .NotEq b = false := by rfl) : Hb T X σ G H (.Compare a [.NotEq] [b] pos) (!PyData.eqv d1 d2) :=
  fun Q q pins sh I => (pt_cmpR (pos := pos) (op_neD hu) pe_w pe_w hm).run pins sh σ H Q I (ha _ fun v G1 H1 g1 r1 => hb G1 g1.ex H1 g1.sub _ fun u G2 H2 g2 r2 => rd_ne (Rl := XH T) h1 h2 G2 H2 v u g2.sub (r1.mono g2.ex) r2 _ fun z G3 H3 g3 r3 => by
    rw [r3.blE]
    exact ⟨_, rfl, q G3 H3 ((g1.trans g2).trans g3)⟩)
theorem hd_eq (hu : X.A.units + 64 < cLine) (h1 : SeqAt.shaped d1 = true) (h2 : SeqAt.shaped d2 = true) (ha : Hd T X σ G H a d1) (hb : Gd (XH T) X σ G b d2) (hm : behindInMarks .Eq b = false := by rfl) : Hd T X σ G H (.Compare a [.Eq] [b] pos) (.bool (PyData.eqv d1 d2)) :=
  fun Q q pins sh I => (pe_cmpR (pos := pos) (op_eqD hu) pe_w pe_w hm).run pins sh σ H Q I (ha _ fun v G1 H1 g1 r1 => hb G1 g1.ex H1 g1.sub _ fun u G2 H2 g2 r2 => rd_eq (Rl := XH T) h1 h2 G2 H2 v u g2.sub (r1.mono g2.ex) r2 _ fun z G3 H3 g3 r3 => q z G3 H3 ((g1.trans g2).trans g3) r3)
/-- a call of a def that gives data, its first argument read at the heap -/
theorem hd_call {x : Str} {k n : Nat} {R : List PyData → PyData → Prop} {es : List Expr} {ds : List PyData} (pu : Pu X.prog X.w X.K X.mg X.base x k n R) (hr : Room k X.A) (ha : Hd T X σ G H a d1) (hes : Ga (XH T) X σ G es ds) (hn : ds.length + 1 = n) (hR : R (d1 :: ds) d) (hg : Gl X x := by rfl) (hdb : (x == ("__debug__" : Str)) = false := by decide)
    (he : starEach (a :: es) X.env = (false, eval a X.env) :: starEach es X.env := by rfl) (hpl : (backTo pos (starEach es X.env)).any (·.1) = false := by rfl) : Hd T X σ G H (.Call (.Name x p) (a :: es) [] pos) d := by
  obtain ⟨f, fd, ps, F, hm, hk, hb⟩ := pu.ex
  exact fun Q q pins sh I => (pe_call (p := p) (pos := pos) F hr hg hm hk hb .nil pass0 (pa_cons pe_w pa_w he) hdb he hpl).run pins sh σ H Q I (ha _ fun v G1 H1 g1 r1 => hes G1 g1.ex H1 g1.sub _ fun vs G2 H2 g2 rs =>
    ⟨by rw [List.append_nil, List.length_cons, rs.len]; exact hn, G2, d1 :: ds, d, g2.sub, by rw [List.append_nil]; exact .cons (r1.mono g2.ex) rs, hR, fun u G3 H3 g r => q u G3 H3 ((g1.trans g2).trans g.ofEx) r⟩)
theorem ws_ifH {k : Bool} {body : List Stmt} (hc : Hb T X σ G H e k) (h1 : k = true → ∀ G' H', Gr (XH T) G H G' H' → Ws X body { D with nx := fun σ' H' => Ws X rest D σ' H' } σ H') (h2 : k = false → ∀ G' H', Gr (XH T) G H G' H' → Ws X rest D σ H') : Ws X (.If e body [] pos :: rest) D σ H := by
  refine ws_cons (ps_if pt_w pss_w pss_w) (hc _ fun G' H' g => ?_)
  cases k with
  | true => exact h1 rfl G' H' g
  | false => exact ws_nil (h2 rfl G' H' g)
end
/-! ### told(lambda: ..) -/
/-- the lambda's body: what it gives, or what it raises -/
def LamO (c : Clss) (Y : Cx) (σ : L2.St) (G : Hp) (body : Expr) (E : XK) : Out → Prop
  | .ok d => Gd Ex Y σ G body d
  | .error b => b.ok ∧ Gf c E Y σ G body b
def tLb (X : Cx) (scope : Scope) (k : Nat) (body : Expr) (E : XK) : TE := fun σ H Q => ∀ (A : Around) (outer : List Env) (s : Shared) (H0 : Hp) (f c' : Addr), Room k (A.deeper (LamX.lamEnv X scope s.heap.objs.size f c')) → WE (LamX.lamCx X A outer s H0 E scope f c') body σ H Q
section
variable {T : List (Addr × Str)} {X : Cx} {σ : L2.St} {G H : Hp} {c : Clss} {g co P : Addr} {fd : FuncData} {k : Nat} {params : Arguments} {body : Expr} {scope : Scope} {o : Out} {p lpos pos : Pos}
theorem lam_takes {A : Around} {outer : List Env} {s : Shared} {H0 : Hp} {E : XK} {f c' : Addr} : Takes (LamX.lamCx X A outer s H0 E scope f c') (WE0 E) := takes_of rfl rfl rfl rfl
/-- what is known of told and of the lambda's maker -/
structure ToldK (X : Cx) (T : List (Addr × Str)) (c : Clss) : Prop where
  b : Bt X.mg
  cl : ClsOk X.prog X.w X.K X.mg X.base c
  fn : ∃ g fd, Fun X.K "_law_told" "_law_told" (topS 51) g fd ∧ X.mg "_law_told" = some (.ref g)
  tb : ∃ co P, LamX.TabB X.base X.mg co P ∧ X.env.code = .ref co ∧ (P, X.env.qual ++ "<lambda>") ∈ T ∧ ∀ p ∈ T, p.1 = P → p.2 = X.env.qual ++ "<lambda>"
theorem hd_told (K0 : ToldK X T c) (hr : Room (k + 2) X.A) (L : LamX.LamS X.env.scope scope) (hdef : defaultsOf params X.env = ([], []))
    (hbind : ∀ (q : Str) (cl : List (Str × Addr)) (pm cv ctv : Value), bindArgs (PySem.W.kla_fn "<lambda>" q params body scope cl pm cv ctv) ⟨[], []⟩ = pure []) (s : Sub G H) (t : LamX.Tabs T H)
    (hbody : ∀ (A : Around) (outer : List Env) (s : Shared) (H0 : Hp) (E : XK) (f c' : Addr), Room k (A.deeper (LamX.lamEnv X scope s.heap.objs.size f c')) → LamO c (LamX.lamCx X A outer s H0 E scope f c') σ G body E o) (hg : Gl X "_law_told" := by rfl) :
    Hd T X σ G H (.Call (.Name "_law_told" p) [.Lambda params body scope lpos] [] pos) (outD o) := by
  intro Q q pins sh I
  obtain ⟨g, fd, F, hm⟩ := K0.fn
  obtain ⟨co, P, TB, hcode, hmT, hu⟩ := K0.tb
  obtain ⟨oc, od, kV, doc, pm, an, cdv, ct, osl, rfl, lk, hcd⟩ := F.ex
  have hb : L2.Binds X.K (PySem.W.fnOf "_law_told" "_law_told" (defArgs (topS 51)) (defBody (topS 51)) (defScope (topS 51)) Value.none kV doc pm an cdv ct) ["_law_work"] [] := F.binds (ps := ["_law_work"]) fun _ _ _ _ _ _ us hl => match us, hl with | [_], _ => rfl
  refine (LamX.pe_lamcall (T := T) (TT := TTold3 c) (t := tLb X scope k body) (k := k) (Ng := n51) (p := p) (lpos := lpos) (pos := pos) hg hm F.kp lk hcd hb sc51 rfl (Or.inl rfl) (told3 K0.b K0.cl) TB hcode hmT hu hr L hdef hbind (fun A outer s1 H1 E f c' hr1 => ⟨fun pins sh σ H Q I h => h A outer s1 H1 f c' hr1 pins sh I⟩)).run pins sh σ H Q I ⟨t, fun H1 eN T1 => ?_⟩
  intro A outer s0 H0 f c' hr'
  have hbd := hbody A outer s0 H0 (fun cls dx H' => ∃ b : Bad, b.ok ∧ BadAt c b cls dx H' ∧ ∀ p, H' p = none → Q (.ref p) (upd H' p (.tup [.str "bad", .str (badW b)]))) f c' hr'
  have g1 : Gr (XH T) G H G H1 := Gr.of_rl s ⟨eN, fun _ => T1⟩
  cases o with
  | ok d => exact hbd G (Evl.Ex.refl G) H1 g1.sub Q fun v G' H' g r => q v G' H' (g1.trans g.ofEx) r
  | error b =>
    obtain ⟨hok, hf⟩ := hbd
    exact hf G H1 (Evl.Ex.refl G) g1.sub (fun cls dx G' H' g hb => ⟨b, hok, hb, fun p hp => q _ _ _ ((g1.trans g.ofEx).trans (.laid g.sub hp (fun _ z => by cases z))) (Rp.newT (g.sub.fr hp) (.cons (.str "bad") (.cons (.str _) .nil)))⟩) Q
end
end WR
end
section
set_option Elab.async false
set_option linter.all false
set_option maxRecDepth 100000
set_option maxHeartbeats 1000000
namespace WR
open PySem PySem.Spec PyProof.Rows L2
/-! ### t[::-1] -/
section
variable {prog : Program} {w : World} {A : Around} {E : Value → Shared → Prop} {s : Shared}
theorem sliceApplied_rev {sl : Addr} {u : Tok} {n : Nat} {Q : Int × Int × Nat → Shared → Prop} (hs : s.heap.IsSliceOf sl .none .none (.int (-1) u)) (h : Q ((n : Int) - 1, -1, n) s) : wpAny (model prog w) A (Builtin.Slice.sliceApplied (.ref sl) (pure (n : Int))) Q E s := by
  obtain ⟨os, hos, hcs, hds⟩ := id hs
  unfold Builtin.Slice.sliceApplied Builtin.Slice.sliceFields
  refine wpAny_bind (wpAny_bind (wpAny_field hos hds (x := .none) rfl (wpAny_bind (wpAny_field hos hds (x := .none) rfl (wpAny_bind (wpAny_field hos hds (x := .int (-1) u) rfl (wpAny_pure ?_)))))))
  refine wpAny_bind (slicePart_int ?_)
  show wpAny _ _ (if (((-1 : Int)) == 0) = true then _ else _) _ _ s
  rw [if_neg (by decide)]
  refine wpAny_bind (slicePart_none (wpAny_bind (slicePart_none (wpAny_bind (wpAny_pure ?_)))))
  have e1 : Builtin.Slice.sliceAdjust none none (-1) (n : Int) = ((n : Int) - 1, -1) := by
    unfold Builtin.Slice.sliceAdjust
    simp
  have e2 : Builtin.Slice.slicePlaces ((n : Int) - 1) (-1) (-1) = n := by
    unfold Builtin.Slice.slicePlaces
    simp
    split <;> omega
  show wpAny _ _ (match Builtin.Slice.sliceAdjust none none (-1) (n : Int) with | (lo, hi) => pure (lo, (-1 : Int), Builtin.Slice.slicePlaces lo hi (-1))) _ _ s
  rw [e1]
  show wpAny _ _ (pure ((n : Int) - 1, (-1 : Int), Builtin.Slice.slicePlaces ((n : Int) - 1) (-1) (-1))) _ _ s
  rw [e2]
  exact wpAny_pure h
theorem pick_rev (xs : Array Value) : ((List.range xs.size).filterMap fun (m : Nat) => xs[((xs.size : Int) - 1 + (m : Int) * (-1)).toNat]?) = xs.toList.reverse := by
  have e : ((List.range xs.size).filterMap fun (m : Nat) => xs[((xs.size : Int) - 1 + (m : Int) * (-1)).toNat]?) = ((List.range xs.size).map fun k => xs.size - 1 - k).filterMap (xs[·]?) := by
    rw [List.filterMap_map]
    congr 1
    funext m
    have : ((xs.size : Int) - 1 + (m : Int) * (-1)).toNat = xs.size - 1 - m := by omega
    show xs[((xs.size : Int) - 1 + (m : Int) * (-1)).toNat]? = xs[xs.size - 1 - m]?
    rw [this]
  rw [e, PySem.W.krv_range, List.filterMap_reverse, PySem.W.krv_all]
theorem getItem_tuple_rev {t sl : Addr} {items : Array Value} {u : Tok} {Q : Value → Shared → Prop} (ht : IsTup s.heap t items) (hs : s.heap.IsSliceOf sl .none .none (.int (-1) u))
    (h : Q (.ref s.heap.objs.size) { s with heap := s.heap.push { cls := .type "tuple", data := .seq items.toList.reverse.toArray } }) (hsz : items.size ≤ sizeLine) : wpAny (model prog w) A (getItem (.ref t) (.ref sl)) Q E s := by
  have htake : sizeOk (.seq items.toList.reverse.toArray) := by
    show items.toList.reverse.toArray.size ≤ sizeLine
    rw [List.size_toArray, List.length_reverse, Array.length_toList]
    exact hsz
  obtain ⟨os, hos, hcs, hds⟩ := id hs
  have hTs : s.TypeIs (.ref sl) "slice" := ⟨os, hos, hcs⟩
  unfold getItem
  try with_reducible refine wpAny_holding ?_
  first | refine wpAny_bind (wpAny_pure ?_) | skip
  refine wpAny_bind (wpAny_sequenceKey ht.typeIs (by decide) ?_)
  refine wpAny_bind (wpAny_callSpecial?_slot (name := Str.ofString "__getitem__") ht.typeIs PyProof.Rows.slot_tuple_getitem
    (wpAny_call_entry PyProof.Rows.slot_tuple_getitem ht.typeIs entry_tuple_getitem ?_ (args_tuple_getitem _ _)))
  show wpAny _ _ (Builtin.Tuple.tupleItemsOf (.ref t) >>= _) _ _ s
  refine wpAny_bind (tupleItemsOf_ ht ?_)
  refine wpAny_bind (wpAny_typeOf hTs ?_)
  rw [if_pos (by decide)]
  refine wpAny_bind (sliceApplied_rev hs ?_)
  have hno : ¬ ((((items.size : Int) - 1) == 0 && (-1 : Int) == 1 && items.size == items.size) = true) := by
    intro q
    rw [Bool.and_eq_true, Bool.and_eq_true] at q
    have q1 : (-1 : Int) = 1 := eq_of_beq q.1.2
    exact absurd q1 (by decide)
  show wpAny _ _ (if ((((items.size : Int) - 1) == 0 && (-1 : Int) == 1 && items.size == items.size) = true) then _ else _) _ _ s
  rw [if_neg hno, pick_rev]
  first
    | exact wpAny_bind (m := Builtin.Tuple.tupleExact _) (wpAny_newObj_type (wpAny_pure ⟨_, rfl, wpAny_pure h⟩) htake)
    | exact wpAny_bind (m := Builtin.Tuple.tupleExact _) (wpAny_newObj_type (wpAny_bind (wpAny_pure (wpAny_pure ⟨_, rfl, wpAny_pure h⟩))) htake)
    | exact wpAny_bind (wpAny_bind (m := Builtin.Tuple.tupleExact _) (wpAny_newObj_type (wpAny_pure (wpAny_pure ⟨_, rfl, wpAny_pure h⟩)) htake))
    | exact wpAny_bind (wpAny_bind (m := Builtin.Tuple.tupleExact _) (wpAny_newObj_type (wpAny_pure ⟨_, rfl, wpAny_pure h⟩) htake))
end
def tRevT (K : PySem.W.Frag) (te : TE) : TE := fun σ H Q => te σ H fun x H1 => ∃ a xs, x = .ref a ∧ SqT K H1 a xs ∧ ∀ p, H1 p = none → Q (.ref p) (upd H1 p (.tup xs.reverse))
section
variable {Rl : Hp → Hp → Prop} [RlOk Rl] {X : Cx} {σ : L2.St} {G H : Hp} {e a b : Expr} {te : TE} {ds : List PyData} {k : Nat} {p1 p2 p3 pos : Pos}
theorem pe_revT (he : PE X e te) : PE X (.Subscript e (.Slice none none (some (.UnaryOp .USub (.Constant (.int 1) k p1) p2)) p3) pos) (tRevT X.K te) := by
  refine ⟨fun pins s σ H Q I h => ?_⟩
  refine Subscript_ (thn (he.run pins s σ H _ I h) fun v s1 ⟨x, H1, I1, r1, q1⟩ => ?_)
  obtain ⟨a, xs, ex, hx, q⟩ := q1
  subst ex
  cases r1
  have hst : PO X (some (.UnaryOp .USub (.Constant (.int 1) k p1) p2)) (tPart (tUn (rU fun i => .int (-i)) (tC (.int 1)))) := po_some (pe_un un_neg pe_int)
  refine wpAny_Slice (thn (po_none.run pins s1 σ H1 (fun o H2 => o = none ∧ H2 = H1) I1 ⟨rfl, rfl⟩) fun vl s2 ⟨l, H2, I2, pl, el, e2⟩ => ?_)
  subst el e2
  refine thn (po_none.run pins s2 σ H2 (fun o H3 => o = none ∧ H3 = H2) I2 ⟨rfl, rfl⟩) fun vu s3 ⟨u, H3, I3, pu, eu, e3⟩ => ?_
  subst eu e3
  refine thn (hst.run pins s3 σ H3 (fun o H4 => o = some (-1) ∧ H4 = H3) I3 ⟨1, rfl, -1, rfl, rfl, rfl⟩) fun vs s4 ⟨o, H4, I4, ps, eo, e4⟩ => ?_
  subst eo e4
  cases pl
  cases pu
  cases ps with | int _ tk =>
  have I5 : Inv X pins σ H4 { s4 with heap := s4.heap.push { cls := .type "slice", data := .fields #[.none, .none, .int (-1) tk] } } := I4.kept (t' := s4.toks) fun b ob q => Heap.get?_push_of_some _ q
  obtain ⟨its, r, ht, hz⟩ := I5.tuple hx
  have hlen := r.length
  show wpAny (model X.prog X.w) X.A (subscriptTail e (.Slice none none (some (.UnaryOp .USub (.Constant (.int 1) k p1) p2)) p3) (.ref a) (.ref s4.heap.objs.size)) (EP X pins σ Q) X.xe { s4 with heap := s4.heap.push { cls := .type "slice", data := .fields #[.none, .none, .int (-1) tk] } }
  refine tail_any (ops := [.ref a, .ref s4.heap.objs.size]) ht.typeIs PyProof.Rows.slot_tuple_getitem.lookup ?_ (by with_unfolding_all rfl)
  refine getItem_tuple_rev ht (Heap.IsSliceOf.new _ .none .none (.int (-1) tk)) ?_ (by rw [List.size_toArray, ← hlen]; exact hz)
  refine ⟨.ref _, _, I5.laid (t' := s4.toks) (o := .tup xs.reverse) (fun b ob q => Heap.get?_push_of_some _ q) (Nat.le_refl _) ?_, rfl, q _ (I5.hok.fresh (Nat.le_refl _))⟩
  exact ⟨by rw [List.length_reverse]; exact hz, its.reverse, r.reverse, IsTup.new _ _⟩
theorem rp_rev {xs : List V} (r : RpAll G xs ds) : RpAll G xs.reverse ds.reverse := by
  induction xs generalizing ds with
  | nil =>
    cases r
    exact .nil
  | cons v r0 ih =>
    cases r with | cons a b =>
    rw [List.reverse_cons, List.reverse_cons]
    exact (ih b).app (.cons a .nil)
theorem g_revT (ha : Gd Rl X σ G e (.tuple ds)) : Gd Rl X σ G (.Subscript e (.Slice none none (some (.UnaryOp .USub (.Constant (.int 1) k p1) p2)) p3) pos) (.tuple ds.reverse) :=
  .of (pe_revT pe_w) fun G1 x H s Q q => ha G1 x H s _ fun v G2 H2 e2 r2 => by
    obtain ⟨a, xs, rfl, ha, rs⟩ := r2.tupE
    exact ⟨a, xs, rfl, SqT.of (e2.sub.1 _ _ ha), fun p hp => q _ _ _ (e2.trans (.laid e2.sub hp (fun _ z => by cases z))) (Rp.newT (e2.sub.fr hp) (rp_rev rs))⟩
/-- xs * k -/
theorem rd_rep {d : PyData} {n : Nat} (hn : n ≤ 100) (hz : ds.length ≤ 100) : RD Rl rRep (.list ds) (.int (n : Int)) (.list (List.replicate n ds).flatten) := fun G H x y s r1 r2 Q q => by
  obtain ⟨a, xs, rfl, ha, rs⟩ := r1.lstE
  obtain rfl := r2.intE
  refine ⟨a, (n : Int), xs, rfl, rfl, s.1 _ _ ha, by omega, by omega, ?_, fun p hp => ?_⟩
  · rw [Int.toNat_natCast, rs.len, sizeLine_eq]
    have : ds.length * n ≤ 100 * 100 := Nat.mul_le_mul hz hn
    omega
  · refine q _ _ _ (.laid s hp (fun _ z => by cases z)) (Rp.newL (s.fr hp) ?_)
    rw [Int.toNat_natCast]
    clear hn q r2
    induction n with
    | zero => exact .nil
    | succ n ih =>
      rw [List.replicate_succ, List.replicate_succ, List.flatten_cons, List.flatten_cons]
      exact rs.app ih
theorem g_rep {n : Nat} (hn : n ≤ 100) (hz : ds.length ≤ 100) (ha : Gd Rl X σ G a (.list ds)) (hb : Gd Rl X σ G b (.int (n : Int))) : Gd Rl X σ G (.BinOp a .Mult b pos) (.list (List.replicate n ds).flatten) := g_op op_rep (rd_rep (d := .none) hn hz) ha hb
end
/-! ### text * n -/
def repS (z : Str) (n : Nat) : Str := ⟨(List.replicate n z.cps).foldl (· ++ ·) #[]⟩
theorem op_mul41 {X : Cx} : OpR X (binaryOp .Mult) (fun x y H Q => x = .str "x" ∧ y = .int 41 ∧ Q (.str (repS "x" 41)) H) := by
  intro pins s σ H x y v u Q I rx ry h
  obtain ⟨rfl, rfl, q⟩ := h
  obtain ⟨t, rfl⟩ := rx
  obtain ⟨t', rfl⟩ := ry
  refine PySem.P.mul_str (by decide) (fun _ _ => by decide +kernel) (fun _ _ => by decide +kernel) ?_
  rw [if_neg (by decide), if_neg (by decide +kernel)]
  exact ⟨by decide +kernel, .str _, H, I.tok _, ⟨_, rfl⟩, q⟩
theorem g_mul41 {Rl : Hp → Hp → Prop} [RlOk Rl] {X : Cx} {σ : L2.St} {G : Hp} {j j2 : Nat} {p p2 pos : Pos} : Gd Rl X σ G (.BinOp (.Constant (.str "x") j p) .Mult (.Constant (.int 41) j2 p2) pos) (.str (repS "x" 41)) :=
  .of (pe_op op_mul41 pe_str pe_int) fun G1 x H s Q q => ⟨rfl, rfl, q _ G1 H (.refl s) (.str _)⟩
theorem x41_ok : SOk (repS "x" 41) := ⟨by decide +kernel, by decide +kernel⟩
/-! ### a, b, c = a tuple of three -/
section
variable {Rl : Hp → Hp → Prop} [RlOk Rl] {X : Cx} {σ : L2.St} {G H : Hp} {e : Expr} {d1 d2 d3 : PyData} {x1 x2 x3 : Str} {i1 i2 i3 k : Nat} {p1 p2 p3 p4 pos : Pos} {rest : List Stmt} {D : Ends}
theorem ws_unpack3 (hc : X.calm = true) (hg : PG X (.Tuple [.Name x1 p1, .Name x2 p2, .Name x3 p3] k p4) (gTup X.K 3 (gCons (gName i1) (gCons (gName i2) (gCons (gName i3) gNil))))) (sb : Sub G H) (he : Gd Rl X σ G e (.tuple [d1, d2, d3]))
    (kk : ∀ v1 v2 v3 G' H', Gr Rl G H G' H' → Rp G' v1 d1 → Rp G' v2 d2 → Rp G' v3 d3 → Ws X rest D (((σ.set i1 (some v1)).set i2 (some v2)).set i3 (some v3)) H')
    (hs : swapsWithSole [.Tuple [.Name x1 p1, .Name x2 p2, .Name x3 p3] k p4] e pos.line X.env = pure false := by rfl) (hw : swappedStores [.Tuple [.Name x1 p1, .Name x2 p2, .Name x3 p3] k p4] e X.env = pure none := by rfl)
    (h1 : (assignEach [.Tuple [.Name x1 p1, .Name x2 p2, .Name x3 p3] k p4] X.env).map (·.2) = [assign (.Tuple [.Name x1 p1, .Name x2 p2, .Name x3 p3] k p4) X.env] := by rfl) : Ws X (.Assign [.Tuple [.Name x1 p1, .Name x2 p2, .Name x3 p3] k p4] e pos :: rest) D σ H :=
  ws_cons (ps_asg pe_w hg hs hw h1) (he G (Evl.Ex.refl G) H sb _ fun v G' H' g r => by
    obtain ⟨a, xs, rfl, ha, rs⟩ := r.tupE
    obtain ⟨u1, _, rfl, r1, rs⟩ := rs.consE
    obtain ⟨u2, _, rfl, r2, rs⟩ := rs.consE
    obtain ⟨u3, _, rfl, r3, rs⟩ := rs.consE
    obtain rfl := rs.nilE
    exact ⟨a, [u1, u2, u3], rfl, SqT.of (g.sub.1 _ _ ha), rfl, u1, [u2, u3], rfl, u2, [u3], rfl, u3, [], rfl, rfl, kk u1 u2 u3 G' H' g r1 r2 r3⟩)
end
/-! ### a dict of texts and ints -/
def kvD (l : List (Str × Int)) : List (Key × V) := l.map fun p => (.inr p.1, .int p.2)
theorem merge_app : ∀ (l : List (Str × Int)) (acc : List (Key × V)), (∀ p ∈ l, ∀ q ∈ acc, q.1 ≠ .inr p.1) → (l.map (·.1)).Nodup → mergeK acc (kvD l) = acc ++ kvD l
  | [], acc, _, _ => by
    show acc = acc ++ []
    rw [List.append_nil]
  | p :: r, acc, h, hn => by
    rw [List.map_cons, List.nodup_cons] at hn
    have e : putK acc (.inr p.1) (.int p.2) = acc ++ [(.inr p.1, .int p.2)] := by
      unfold putK
      rw [if_neg]
      intro z
      obtain ⟨q, hq, e⟩ := List.any_eq_true.mp z
      exact h p List.mem_cons_self q hq (of_decide_eq_true e)
    show mergeK (putK acc (.inr p.1) (.int p.2)) (kvD r) = _
    rw [e, merge_app r _ (fun p' hp' q hq => ?_) hn.2, List.append_assoc]
    · rfl
    · rcases List.mem_append.mp hq with z | z
      · exact h p' (List.mem_cons_of_mem _ hp') q z
      · rw [List.mem_singleton.mp z]
        intro e2
        have e3 : p.1 = p'.1 := Sum.inr.inj e2
        exact hn.1 (List.mem_map.mpr ⟨p', hp', e3.symm⟩)
theorem valV_kv {l : List (Str × Int)} {k : Str} {n : Int} (h : (k, n) ∈ l) (hn : (l.map (·.1)).Nodup) : valV (kvD l) (.inr k) = some (.int n) := by
  induction l with
  | nil => cases h
  | cons p r ih =>
    rw [List.map_cons, List.nodup_cons] at hn
    rcases List.mem_cons.mp h with rfl | h
    · exact valV_pos rfl
    · refine (valV_neg ?_).trans (ih h hn.2)
      intro e
      have e2 : p.1 = k := Sum.inr.inj e
      exact hn.1 (List.mem_map.mpr ⟨(k, n), h, e2.symm⟩)
end WR
end
section
set_option Elab.async false
set_option linter.all false
set_option maxRecDepth 100000
set_option maxHeartbeats 1000000
namespace WR
open PySem PySem.Spec PyProof.Rows L2
section
variable {Rl : Hp → Hp → Prop} [RlOk Rl] {X : Cx} {σ : L2.St} {G H : Hp} {e b : Expr} {x : Str} {i : Nat} {p p2 pos pos' : Pos} {rest : List Stmt} {D : Ends} {l : List (Str × Int)}
theorem dict_pairs {G : Hp} : ∀ {l : List (Str × Int)} {xs : List V}, RpAll G xs (l.map fun p => .tuple [.str p.1, .int p.2]) → ∃ ps : List Addr, xs = ps.map V.ref ∧ Paired (fun p (kv : Key × V) => ∃ ys, G p = some (.tup ys) ∧ ys = [kV kv.1, kv.2]) ps (kvD l)
  | [], xs, r => by
    obtain rfl := r.nilE
    exact ⟨[], rfl, .nil⟩
  | q :: l, xs, r => by
    obtain ⟨v, ws, rfl, r1, r2⟩ := r.consE
    obtain ⟨a, ys, rfl, ha, rs⟩ := r1.tupE
    obtain ⟨u1, _, rfl, h1, rs⟩ := rs.consE
    obtain ⟨u2, _, rfl, h2, rs⟩ := rs.consE
    obtain rfl := rs.nilE
    obtain ⟨ps, e, hp⟩ := dict_pairs r2
    refine ⟨a :: ps, by rw [e]; rfl, .cons ⟨_, ha, ?_⟩ hp⟩
    rw [h1.strE, h2.intE]
    rfl
theorem paired_imp {α β : Type} {R S : α → β → Prop} : ∀ {as : List α} {bs : List β}, Paired R as bs → (∀ a b, R a b → S a b) → Paired S as bs
  | _, _, .nil, _ => .nil
  | _, _, .cons h t, k => .cons (k _ _ h) (paired_imp t k)
/-- x = dict(e), e a list of pairs of a text and an int -/
theorem ws_dict (hc : X.calm = true) (hm : X.mg "dict" = none) (hN : X.N.Nodup) (hi : X.N[i]? = some x) (hx : Loc X.env.scope x) (sb : Sub G H) (he : Gd Rl X σ G e (.list (l.map fun p => .tuple [.str p.1, .int p.2]))) (hn : (l.map (·.1)).Nodup)
    (k : ∀ a G' H', Gr Rl G H G' H' → G' a = some (.dK (kvD l)) → Ws X rest D (σ.set i (some (.ref a))) H') (hg : Gl X "dict" := by rfl) (hs : swapsWith (.Call (.Name "dict" p) [e] [] p2) (some (.Name x pos')) pos.line X.env = pure false := by rfl)
    (hf : X.fn x = true ∨ X.env.scope.names.lookup x = some .local := by first | exact .inl rfl | exact .inr rfl | assumption) (hst : starEach [e] X.env = (false, eval e X.env) :: starEach [] X.env := by rfl) : Ws X (.Assign [.Name x pos'] (.Call (.Name "dict" p) [e] [] p2) pos :: rest) D σ H := by
  refine ws_cons (ps_set hN hi hx (pe_callTy (call_dictP hc) hg hm (by decide +kernel) (pa_cons pe_w pa_nil hst) (by decide) (by decide) hst rfl) hs hf) (he G (Evl.Ex.refl G) H sb _ fun v G1 H1 g1 r1 => ?_)
  obtain ⟨a, xs, rfl, ha, rs⟩ := r1.lstE
  obtain ⟨ps, rfl, hp⟩ := dict_pairs rs
  refine ⟨a, ps, kvD l, rfl, SqL.of (g1.sub.1 _ _ ha), ?_, fun p hp2 => ?_⟩
  · exact paired_imp hp fun p kv ⟨ys, h1, e⟩ => by
      subst e
      exact SqT.of (g1.sub.1 _ _ h1)
  · have e : mergeK [] (kvD l) = kvD l := by rw [merge_app l [] (fun _ _ _ z => by cases z) hn]; rfl
    rw [e]
    exact k p _ _ (g1.trans (.laid g1.sub hp2 (fun _ z => by cases z))) upd_same
/-- d[e] -/
theorem g_dget {y : Str} {a : Addr} {z : Str} {n : Int} (i : Nat) (hu : X.A.units + 64 < cLine) (hs : σ[i]? = some (some (.ref a))) (ha : G a = some (.dK (kvD l))) (hb : Gd Rl X σ G b (.str z)) (hv : valV (kvD l) (.inr z) = some (.int n)) (hsl : NoSl b) (hN : X.N[i]? = some y := by rfl)
    (hvs : Vis X.env.scope y := by first | exact Or.inl rfl | exact Or.inr (Or.inl rfl) | exact Or.inr (Or.inr rfl)) (hd : (y == ("__debug__" : Str)) = false := by decide) (hcd : (y == ("__classdict__" : Str)) = false := by decide) : Gd Rl X σ G (.Subscript (.Name y p) b pos) (.int n) :=
  .of (pe_dget (by omega) (pe_var hN hvs hd hcd) pe_w hsl) fun G1 x1 H s Q q => ⟨_, hs, hb G1 x1 H s _ fun v G2 H2 e2 r2 => ⟨a, .int n, rfl, by
    rw [r2.strE]
    exact .inl ⟨kvD l, .inr z, .inl (e2.sub.1 _ _ (e2.ex _ _ (x1 _ _ ha))), rfl, hv.symm⟩, q _ G2 H2 e2 (.int n)⟩⟩
theorem g_catS {x y : Str} {a b : Expr} (hz : x.length + y.length ≤ 100000) (ha : Gd Rl X σ G a (.str x)) (hb : Gd Rl X σ G b (.str y)) : Gd Rl X σ G (.BinOp a .Add b pos) (.str (x ++ y)) := g_op op_add_str (rd_catS hz) ha hb
end
end WR
end
section
set_option Elab.async false
set_option linter.all false
set_option maxRecDepth 100000
set_option maxHeartbeats 2000000
namespace WR
open PySem PySem.Spec PyProof.Rows L2
/-! ### rows_right -/
def VOk (v : PyData) : Prop := sm v = true ∧ ∀ ns, v = .tuple ns → ns.length ≤ 30 ∧ ∀ n ∈ ns, nmOk n
def badsD (t : Task) : PyData → List Nat
  | .tuple ns => badsOf t ns
  | _ => []
def dueD (t : Task) (v : PyData) : PyData := outD (runT t v)
theorem due_bad (t : Task) (v : PyData) (h : (tTup v && (badsD t v).isEmpty) = false) : dueD t v = badD (.deed (badsD t v).head?) := by
  cases v with
  | tuple ns =>
    have h' : (badsOf t ns).isEmpty = false := h
    cases e : badsOf t ns with
    | nil => rw [e] at h'; cases h'
    | cons i r =>
      show outD (runT t (.tuple ns)) = badD (.deed (badsOf t ns).head?)
      have e2 : runT t (.tuple ns) = .error (.deed (some i)) := by
        have er : runD t (.tuple ns) = .error (.deed (some i)) := row_bad (i := i) (by rw [e]; rfl)
        unfold runT
        rw [er]
      rw [e2, e]
      rfl
  | _ => rfl
theorem due_good (t : Task) (ns : List PyData) (h : badsOf t ns = []) : dueD t (.tuple ns) = .tuple (statesD t ns (ns.length + 1)) := by
  have er : runD t (.tuple ns) = .ok (.list (statesD t ns (ns.length + 1))) := row_ok h
  unfold dueD runT
  rw [er]
  rfl
theorem bads_lt {t : Task} {ns : List PyData} {i : Nat} (h : i ∈ badsOf t ns) : i < ns.length := List.mem_range.mp (List.mem_filter.mp h).1
theorem str_lt {i : Nat} (h : i < 64) : ((i : Int)).natAbs.log2 < 1920 ∧ (toString (i : Int) : Str).length ≤ 1000 ∧ PyData.strOk (("deed" : Str) ++ (toString (i : Int) : Str)) = true := by
  have k : ∀ i : Fin 64, ((i.val : Nat) : Int).natAbs.log2 < 1920 ∧ (toString ((i.val : Nat) : Int) : Str).length ≤ 1000 ∧ PyData.strOk (("deed" : Str) ++ (toString ((i.val : Nat) : Int) : Str)) = true := by decide +kernel
  exact k ⟨i, h⟩
theorem badW_ok {b : Bad} (h : b.ok) (hz : ∀ z, b = .task z → PyData.strOk z = true) : PyData.strOk (badW b) = true := by
  cases b with
  | task z => exact hz z rfl
  | state => decide +kernel
  | deed i =>
    cases i with
    | none => decide +kernel
    | some i => exact (str_lt h).2.2
theorem states_al {t : Task} (g : t.Good) (hs : t.Sm) {ns : List PyData} (h : badsOf t ns = []) (hl : ns.length ≤ 30) : al 2 (.tuple (statesD t ns (ns.length + 1))) = true := by
  refine al_tup (by unfold statesD; rw [List.length_map, List.length_range]; omega) fun d hd => ?_
  unfold statesD at hd
  obtain ⟨j, hj, rfl⟩ := List.mem_map.mp hd
  obtain ⟨st, hst⟩ := good_walk h (j := j) (by have := List.mem_range.mp hj; omega)
  rw [stateAt_of hst]
  have hin := walkTo_in g hst
  exact al_strsD (Nat.le_trans (hin.few g) (by decide)) fun z hz => (hin.ok hs z hz).2
theorem due_al {t : Task} (g : t.Good) (hs : t.Sm) {v : PyData} (hv : VOk v) : al 2 (dueD t v) = true := by
  have hbad : ∀ i : Option Nat, (∀ k, i = some k → k < 64) → al 2 (badD (.deed i)) = true := fun i hi => by
    refine al_tup (by simp) fun d hd => ?_
    simp only [List.mem_cons, List.not_mem_nil, or_false] at hd
    rcases hd with rfl | rfl
    · exact al_str (by decide +kernel)
    · refine al_str (badW_ok ?_ fun z e => nomatch e)
      cases i with
      | none => exact True.intro
      | some k => exact hi k rfl
  cases e : (tTup v && (badsD t v).isEmpty) with
  | false =>
    rw [due_bad t v e]
    refine hbad _ fun k hk => ?_
    cases v with
    | tuple ns =>
      have := bads_lt (List.mem_of_mem_head? hk)
      have := (hv.2 ns rfl).1
      omega
    | _ => cases hk
  | true =>
    cases v with
    | tuple ns =>
      have hb : badsOf t ns = [] := List.isEmpty_iff.mp e
      rw [due_good t ns hb]
      exact states_al g hs hb (hv.2 ns rfl).1
    | _ => cases e
theorem plan_eq {t : Task} {ns : List PyData} (h : badsOf t ns = []) : planB t (.tuple ns) = subB t.wish (stateAt t ns ns.length) := by
  show ((badsOf t ns).isEmpty && _) = _
  rw [h]; rfl
section
variable {P : Program} {w : World} {K : PySem.W.Frag} {mg : Str → Option Value} {base : Heap} {f : Addr} {fd : FuncData} {c : Clss} {T : List (Addr × Str)}
def RowsSp (K : PySem.W.Frag) (T : List (Addr × Str)) : Sp := fun vs H Q _ => ∃ r x1 x2 G t zs, vs = [.ref r, x1, x2] ∧ RowAt K G r ∧ Sub G H ∧ Rp G x1 (Task.toD t) ∧ Rp G x2 (strsD zs) ∧ Drawn t ∧ badsOf t (zs.map .str) = [] ∧ zs.length ≤ 6 ∧ (∀ z ∈ zs, SOk z) ∧ LamX.Tabs T H ∧ ∀ H', XH T H H' → Q (.bl true) H'
abbrev n52 : List Str := ["_law_row", "_law_task_here", "_law_names", "_law_deeds", "_law_begin", "_law_wish", "_law_costs", "_law_states", "_law_j", "_law_more", "_law_value", "_law_good", "_law_bad", "_law_due", "_law_deed", "_law_at", "_law_name"]
theorem sc52 : FnScope n52 ["_law_row", "_law_task_here", "_law_names"] (defScope (topS 52)) := ⟨rfl, rfl, rfl, by decide +kernel, rfl, by decide +kernel, by decide +kernel⟩
/-- the defs that the law calls -/
structure LawFns (P : Program) (w : World) (K : PySem.W.Frag) (mg : Str → Option Value) (base : Heap) (c : Clss) : Prop where
  taken : Dr P w K mg base "_law_taken" 1 1 RTak
  pick : Dr P w K mg base "_law_pick" 2 1 RPick
  task : Dr P w K mg base "_law_task" 4 0 RTaskD
  alike : Pu P w K mg base "_law_alike" 3 2 (RAl 2)
  facts : Pu P w K mg base "_law_facts" 1 1 RLFacts
  holds : Pu P w K mg base "_law_holds" 1 2 RHas
  go : Pu P w K mg base "_law_go" 2 2 RGo
  walk : Pu P w K mg base "_law_walk" 3 3 RWalk
  wrong : Pu P w K mg base "_law_wrong" 3 1 RWrongL
  pTask : Pu P w K mg base "is_task" 5 1 RIsTask
  pFacts : Ra P w K mg base c "facts" 6 1 RFactsT
  pOpen : Ra P w K mg base c "open_deeds" 6 2 ROpen
  pDone : Ra P w K mg base c "done" 6 3 RDone
  pRun : Ra P w K mg base c "run" 6 2 RRun
  pPrice : Ra P w K mg base c "price" 6 2 RPrice
  pPlan : Ra P w K mg base c "is_plan" 6 2 RPlan
theorem price_names {t : Task} (g : t.Good) : (t.deeds.map fun q => (q.name, q.price)).map (·.1) = t.deeds.map (·.name) := by
  rw [List.map_map]; rfl
theorem deedOf_name {t : Task} {z : Str} {q : Deed} (h : deedOf t (.str z) = some q) : q.name = z := by
  have := List.find?_some h
  exact of_decide_eq_true this
abbrev rX (P : Program) (w : World) (K : PySem.W.Frag) (mg : Str → Option Value) (base : Heap) (f : Addr) (cdv : Value) (A : Around) (outer : List Env) (s : Shared) (H : Hp) (E : XK) : Cx := bX P w K mg base n52 "_law_rows_right" (defScope (topS 52)) f cdv A outer s H E
theorem runT_err {t : Task} {v : PyData} {b : Bad} (hv : VOk v) (h : runT t v = .error b) : b.ok := by
  cases v with
  | tuple ns =>
    cases e : (badsOf t ns).head? with
    | none =>
      have er : runD t (.tuple ns) = .ok (.list (statesD t ns (ns.length + 1))) := by
        show rowD t ns = _
        unfold rowD
        rw [e]
      unfold runT at h
      rw [er] at h
      cases h
    | some i =>
      have er : runD t (.tuple ns) = .error (.deed (some i)) := row_bad e
      unfold runT at h
      rw [er] at h
      cases h
      have := bads_lt (List.mem_of_mem_head? e)
      have := (hv.2 ns rfl).1
      show i < 64
      omega
  | _ => cases h; exact True.intro
end
end WR
end
section
set_option Elab.async false
set_option linter.all false
set_option maxRecDepth 100000
set_option maxHeartbeats 2000000
namespace WR
open PySem PySem.Spec PyProof.Rows L2
def forBody (st : Stmt) (i : Nat) : List Stmt := match (defBody st)[i]? with
  | some (.For _ _ b _ _) => b
  | _ => []
theorem cut_takeD (ds : List PyData) (m : Nat) : cutD ds none (some (m : Int)) = ds.take m := by
  unfold cutD HT.sIx
  simp
  rw [if_neg (by omega)]
  omega
theorem cut_dropD (ds : List PyData) (m : Nat) : cutD ds (some (m : Int)) none = ds.drop m := by
  unfold cutD HT.sIx
  simp
  rw [if_neg (by omega)]
  by_cases h : m ≤ ds.length
  · rw [Nat.min_eq_left h]
    rw [List.take_of_length_le (by rw [List.length_drop]; exact Nat.le_refl _)]
  · rw [Nat.min_eq_right (by omega)]
    rw [List.drop_eq_nil_of_le (by omega), List.drop_eq_nil_of_le (by omega)]
    simp
theorem gt_eqNilD {Rl : Hp → Hp → Prop} [RlOk Rl] {X : Cx} {σ : L2.St} {G : Hp} {a : Expr} {pos p : Pos} {l : List PyData} {n : Nat} (hu : X.A.units + 64 < cLine) (h : Sh n (.list l)) (hn : n ≤ 64) (ha : Gd Rl X σ G a (.list l)) : Gt Rl X σ G (.Compare a [.Eq] [.List [] p] pos) l.isEmpty :=
  gt_is (gt_eq hu (h.shaped hn) shaped_nil ha (g_lst ga_nil (by simp))) (by rw [eqv_nil])
section
variable {P : Program} {w : World} {K : PySem.W.Frag} {mg : Str → Option Value} {base : Heap} {f : Addr} {fd : FuncData} {c : Clss} {T : List (Addr × Str)}
theorem rows_turn (B : Bt mg) (L : LawFns P w K mg base c) {cdv : Value} {A : Around} {outer : List Env} {s : Shared} {H0 : Hp} {E : XK} (TK : ToldK (rX P w K mg base f cdv A outer s H0 E) T c) (hr : Room 8 (rX P w K mg base f cdv A outer s H0 E).A)
    {t : Task} (D : Drawn t) {r : Addr} {x1 x2 x3 x4 x5 x6 x7 x8 x9 v : V} {a b c0 d0 e0 f0 : Option V} {d : PyData} {G H : Hp} {En : Ends} (sb : Sub G H) (tb : LamX.Tabs T H) (r1 : Rp G x1 t.toD) (r4 : Rp G x4 (strsD t.bg)) (r5 : Rp G x5 (strsD t.wish)) (rv : Rp G v d) (hv : VOk d)
    (nx : ∀ G' H' a b c0 d0 e0 f0, Ex G G' → Sub G' H' → XH T H H' → En.nx [some (.ref r), some x1, some x2, some x3, some x4, some x5, some x6, some x7, some x8, some x9, some v, a, b, c0, d0, e0, f0] H') :
    Ws (rX P w K mg base f cdv A outer s H0 E) (forBody (topS 52) 6) En [some (.ref r), some x1, some x2, some x3, some x4, some x5, some x6, some x7, some x8, some x9, some v, a, b, c0, d0, e0, f0] H := by
  have hu := Room.units hr
  have g := D.good
  have ht := D.sm
  refine ws_set (Rl := Ex) (i := 11) (d := .bool (tTup d)) sc52.nd rfl (Or.inl rfl) sb (g_isTup B (g_var 10 rfl rv)) fun v1 G1 H1 g1 q1 => ?_
  have walk : ∀ {σ : L2.St} {X : Cx} {G2 : Hp} {ns : List PyData} {e1 e2 e3 : Expr} {p pos : Pos}, X.prog = P → True := fun _ => trivial
  -- the places at which it goes wrong
  refine ws_set (Rl := Ex) (i := 12) (d := .list ((badsD t d).map fun i : Nat => PyData.int (i : Int))) sc52.nd rfl (Or.inl rfl) g1.sub (g_if (k := tTup d) (gt_val (g_var 11 rfl q1)) (fun k => ?_) fun k => ?_) fun v2 G2 H2 g2 q2 => ?_
  · obtain ⟨ns, rfl⟩ := tTup_e k
    obtain ⟨hl, hns⟩ := hv.2 ns rfl
    refine gd_is (g_lcR (z := (ns.length : Int)) (fun i => (walkTo t (ns.take (i + 1))).isNone) (fun i => .int (i : Int)) rfl sc52.nd (blkOk_by (own := [("_law_at", 15)]) (N := n52) (sc := defScope (topS 52)) (by decide +kernel)) (fun _ _ _ _ _ => pg_name (i := 15) sc52.nd rfl (Or.inl rfl)) B.range
      (g_lenT B.len (g_var 10 rfl (rv.mono g1.ex))) ⟨by omega, by omega⟩ fun i G3 hi e3 => ⟨fun _ _ _ _ _ => gi_one (gt_is (gt_cmp op_isN rd_isN (g_call L.walk (hr.mono (by decide)) (ga_cons (g_var 1 rfl (r1.mono (g1.ex.trans e3))) (ga_cons (g_var 4 rfl (r4.mono (g1.ex.trans e3))) (ga_cons (gd_is (g_slT (l := none) (h := some ((i : Int) + 1)) (g_var 10 rfl (rv.mono (g1.ex.trans e3))) trivial (g_op op_add rd_int (g_var 15 rfl (.int _)) g_int)) (d := .tuple (ns.take (i + 1))) ?_) ga_nil))) rfl ⟨t, t.bg, ns.take (i + 1), rfl, g, ht, stIn_bg g, by rw [List.length_take]; omega, fun n hn => hns n (List.mem_of_mem_take hn), rfl⟩) g_non (nomark _)) ?_), fun _ _ _ _ _ _ => g_var 15 rfl (.int _)⟩) ?_
    · congr 1
      exact cut_takeD ns (i + 1)
    · rw [optD_isN]; rfl
    · rw [Int.toNat_natCast]; rfl
  · refine gd_is (g_lst ga_nil (by simp)) ?_
    cases d with
    | tuple ns => cases k
    | _ => rfl
  have g02 := g1.trans g2
  have hbl : ∀ i ∈ badsD t d, i < 64 := fun i hi => by
    cases d with
    | tuple ns =>
      have := bads_lt hi
      have := (hv.2 ns rfl).1
      omega
    | _ => cases hi
  have shI : Sh 1 (.list ((badsD t d).map fun i : Nat => PyData.int (i : Int))) := sh_lst fun x hx => by
    obtain ⟨i, _, rfl⟩ := List.mem_map.mp hx
    exact sh_int
  refine ws_set (Rl := Ex) (i := 13) (d := badD (.deed (badsD t d).head?)) sc52.nd rfl (Or.inl rfl) g2.sub (g_if (k := !((badsD t d).map fun i : Nat => PyData.int (i : Int)).isEmpty) (gt_neNilD hu shI (by decide) (g_var 12 rfl q2)) (fun k => ?_) fun k => ?_) fun v3 G3 H3 g3 q3 => ?_
  · cases eb : badsD t d with
    | nil => rw [eb] at k; cases k
    | cons i rr =>
      rw [eb] at q2
      obtain ⟨h1, h2, _⟩ := str_lt (hbl i (by rw [eb]; exact List.mem_cons_self))
      have h4 : (("deed" : Str)).length = 4 := by decide +kernel
      exact g_tup (ga_cons g_str (ga_cons (g_catS (by omega) g_str (g_strI B.str h1 (g_ixL (g_var 12 rfl q2) g_int (atI_nat (j := 0) rfl)))) ga_nil)) (by simp)
  · cases eb : badsD t d with
    | nil => exact g_tup (ga_cons g_str (ga_cons g_str ga_nil)) (by simp)
    | cons i rr => rw [eb] at k; cases k
  have g03 := g02.trans g3
  -- the rest, once due is set
  have tail : ∀ (G4 H4 : Hp) (v4 : V) (a4 b4 c4 d4 e4 f4 : Option V) (st : List Stmt), Gr Ex G H G4 H4 → Rp G4 v1 (.bool (tTup d)) → Rp G4 v2 (.list ((badsD t d).map fun i : Nat => PyData.int (i : Int))) → Rp G4 v4 (dueD t d) →
      Ws (rX P w K mg base f cdv A outer s H0 E) ((forBody (topS 52) 6).drop 4) En [some (.ref r), some x1, some x2, some x3, some x4, some x5, some x6, some x7, some x8, some x9, some v, some v1, some v2, some v4, d4, e4, f4] H4 := by
    intro G4 H4 v4 a4 b4 c4 d4 e4 f4 st g4 q1 q2 q4
    have r14 := r1.mono g4.ex
    have rv4 := rv.mono g4.ex
    refine ws_ifH (T := T) (k := !true) (hb_not (hb_val (hd_call (d1 := dueD t d) L.alike (hr.mono (by decide)) (hd_told (k := 6) (o := runT t d) TK hr (LamX.lamS_by (sc := defScope (topS 52)) (by decide +kernel)) rfl (fun _ _ _ _ _ => rfl) g4.sub (tb.ext g4.rl) fun A1 outer1 s1 H01 E1 f1 c1 hr1 => ?_) (ga_cons (g_var 13 rfl q4) ga_nil) rfl ⟨_, rfl, due_al g ht hv, rfl⟩))) nofun fun _ G5 H5 g5 => ?_
    · cases eo : runT t d with
      | ok d' => exact g_callX L.pRun hr1 (ga_cons (g_var 1 rfl r14) (ga_cons (g_var 10 rfl rv4) ga_nil)) rfl ⟨t.toD, d, rfl, sm_task.2 ht, hv.1, .inr ⟨t, rfl, g, eo.symm⟩⟩
      | error b' => exact ⟨runT_err hv eo, gf_call L.pRun hr1 (passE lam_takes) (ga_cons (g_var 1 rfl r14) (ga_cons (g_var 10 rfl rv4) ga_nil)) rfl ⟨t.toD, d, rfl, sm_task.2 ht, hv.1, .inr ⟨t, rfl, g, eo.symm⟩⟩⟩
    have q15 := q1.mono g5.ex
    have q25 := q2.mono g5.ex
    have ex5 := g4.ex.trans g5.ex
    refine ws_if (Rl := Ex) (b := false) g5.sub (gt_is (gt_not (gt_val (g_call (d := .bool true) L.alike (hr.mono (by decide)) (ga_cons (g_callX (d := .bool (planB t d)) L.pPlan (hr.mono (by decide)) (ga_cons (g_var 1 rfl (r1.mono ex5)) (ga_cons (g_var 10 rfl (rv.mono ex5)) ga_nil)) rfl ⟨t.toD, d, rfl, sm_task.2 ht, hv.1, .inr ⟨t, rfl, g, rfl⟩⟩) (ga_cons (gd_is (d1 := .bool (tTup d && ((badsD t d).isEmpty && planB t d))) (g_and (g_var 11 rfl q15) fun k1 => g_and (gd_is (g_eqNilD hu shI (by decide) (g_var 12 rfl q25)) (by cases badsD t d <;> rfl)) fun k2 => g_one ?_) ?_) ga_nil)) rfl ⟨_, rfl, al_bool, rfl⟩))) rfl) nofun fun _ G6 H6 g6 => ?_
    · obtain ⟨ns, rfl⟩ := tTup_e k1
      have hb : badsOf t ns = [] := List.isEmpty_iff.mp k2
      obtain ⟨hl, hns⟩ := hv.2 ns rfl
      obtain ⟨st, hst⟩ := good_walk hb (Nat.le_refl _)
      rw [List.take_length] at hst
      have hin := walkTo_in g hst
      rw [plan_eq hb, stateAt_of (i := ns.length) (by rw [List.take_length]; exact hst)]
      exact g_call L.holds (hr.mono (by decide)) (ga_cons (gd_is (d := strsD st) (g_call L.walk (hr.mono (by decide)) (ga_cons (g_var 1 rfl (r1.mono ex5)) (ga_cons (g_var 4 rfl (r4.mono ex5)) (ga_cons (g_var 10 rfl (rv.mono ex5)) ga_nil))) rfl ⟨t, t.bg, ns, rfl, g, ht, stIn_bg g, by omega, hns, rfl⟩) (by show optD (walkTo t ns) = _; rw [hst]; rfl)) (ga_cons (g_var 5 rfl (r5.mono ex5)) ga_nil)) rfl ⟨st, t.wish, rfl, ht.w, rfl⟩
    · cases d with
      | tuple ns =>
        show PyData.bool (true && ((badsOf t ns).isEmpty && planB t (.tuple ns))) = _
        cases eb : badsOf t ns with
        | nil => rfl
        | cons i rr =>
          have : planB t (.tuple ns) = false := by
            show ((badsOf t ns).isEmpty && _) = false
            rw [eb]; rfl
          rw [this]; rfl
      | _ => rfl
    exact ws_nil (nx _ _ _ _ _ _ _ _ (ex5.trans g6.ex) g6.sub (RlOk.trans (RlOk.ex g4.rl) (RlOk.trans g5.rl (RlOk.ex g6.rl))))
  refine ws_if (Rl := Ex) (b := tTup d && (badsD t d).isEmpty) g3.sub (Gw.pt (gw_and (gt_val (g_var 11 rfl (q1.mono (g2.ex.trans g3.ex)))) fun _ => gw_and1 (gt_is (gt_eqNilD hu shI (by decide) (g_var 12 rfl (q2.mono g3.ex))) (by cases badsD t d <;> rfl)))) (fun k G4 H4 g4 => ?_) fun k G4 H4 g4 => ?_
  · obtain ⟨k1, k2⟩ := Bool.and_eq_true_iff.mp k
    obtain ⟨ns, rfl⟩ := tTup_e k1
    have hb : badsOf t ns = [] := List.isEmpty_iff.mp k2
    obtain ⟨hl, hns⟩ := hv.2 ns rfl
    have ex4 := g03.ex.trans g4.ex
    refine ws_set (Rl := Ex) (i := 13) (d := dueD t (.tuple ns)) sc52.nd rfl (Or.inl rfl) g4.sub (gd_is (g_tuple B.tuple (g_lcR (z := (ns.length : Int) + 1) (fun _ => true) (fun i => strsD (stateAt t ns i)) rfl sc52.nd (blkOk_by (own := [("_law_at", 15)]) (N := n52) (sc := defScope (topS 52)) (by decide +kernel)) (fun _ _ _ _ _ => pg_name (i := 15) sc52.nd rfl (Or.inl rfl)) B.range
      (g_op op_add rd_int (g_lenT B.len (g_var 10 rfl (rv.mono ex4))) g_int) ⟨by omega, by omega⟩ fun i G5 hi e5 => ⟨fun _ _ _ _ _ => gi_nil, fun _ _ _ _ _ _ => ?_⟩)) ?_) fun v5 G5 H5 g5 q5 => ws_nil (tail G5 H5 v5 none none none _ _ _ [] ((g03.trans g4).trans g5) (q1.mono ((g2.ex.trans g3.ex).trans (g4.ex.trans g5.ex))) (q2.mono (g3.ex.trans (g4.ex.trans g5.ex))) q5)
    · obtain ⟨st, hst⟩ := good_walk hb (j := i) (by omega)
      rw [stateAt_of hst]
      exact gd_is (g_call L.walk (hr.mono (by decide)) (ga_cons (g_var 1 rfl (r1.mono (ex4.trans e5))) (ga_cons (g_var 4 rfl (r4.mono (ex4.trans e5))) (ga_cons (gd_is (g_slT (l := none) (h := some (i : Int)) (g_var 10 rfl (rv.mono (ex4.trans e5))) trivial (g_var 15 rfl (.int _))) (d := .tuple (ns.take i)) (by congr 1; exact cut_takeD ns i)) ga_nil))) rfl ⟨t, t.bg, ns.take i, rfl, g, ht, stIn_bg g, by rw [List.length_take]; omega, fun n hn => hns n (List.mem_of_mem_take hn), rfl⟩) (by show optD (walkTo t (ns.take i)) = _; rw [hst]; rfl)
    · rw [due_good t ns hb, filter_true]
      rfl
  · have q34 := q3.mono g4.ex
    rw [← due_bad t d k] at q34
    exact tail G4 H4 v3 none none none _ _ _ [] (g03.trans g4) (q1.mono ((g2.ex.trans g3.ex).trans g4.ex)) (q2.mono (g3.ex.trans g4.ex)) q34
end
end WR
end
section
set_option Elab.async false
set_option linter.all false
set_option maxRecDepth 100000
set_option maxHeartbeats 2000000
namespace WR
open PySem PySem.Spec PyProof.Rows L2
section
variable {P : Program} {w : World} {K : PySem.W.Frag} {mg : Str → Option Value} {base : Heap} {f : Addr} {fd : FuncData} {c : Clss} {T : List (Addr × Str)}
theorem nm_str {z : Str} (h : SOk z) : nmOk (.str z) := ⟨sm_str.2 h, al_str h.2⟩
theorem zz_ok : SOk "zz" := ⟨by decide +kernel, by decide +kernel⟩
theorem nm_none : nmOk .none := ⟨by decide, al_none⟩
theorem nm_int (i : Int) : nmOk (.int i) := ⟨by unfold sm; rfl, al_int⟩
theorem vok_tup {ns : List PyData} (hl : ns.length ≤ 30) (h : ∀ n ∈ ns, nmOk n) : VOk (.tuple ns) := ⟨sm_tuple.2 ⟨by omega, fun d hd => (h d hd).1⟩, fun ms e => by cases e; exact ⟨hl, h⟩⟩
theorem g_strs1 {Rl : Hp → Hp → Prop} [RlOk Rl] {X : Cx} {σ : L2.St} {G : Hp} {p : Pos} {j : Nat} {z : Str} : Gd Rl X σ G (.Constant (.str z) j p) (.str z) := g_str
theorem ok_rows (B : Bt mg) (L : LawFns P w K mg base c) (F : Fun K "_law_rows_right" "_law_rows_right" (topS 52) f fd)
    (TK : ∀ (cdv : Value) (A : Around) (outer : List Env) (s : Shared) (H0 : Hp) (E : XK), cdv = fd.code → ToldK (rX P w K mg base f cdv A outer s H0 E) T c) : FnOk P w K mg base CX0 9 f fd ["_law_row", "_law_task_here", "_law_names"] (RowsSp K T) := by
  obtain ⟨oc, od, kV, doc, pm, an, cdv0, ct, osl, efd, lk, hcd⟩ := F.ex
  have hcode : fd.code = cdv0 := by rw [efd]
  subst efd
  refine fn_of lk hcd sc52 (fun vs H Q E h => by obtain ⟨r, x1, x2, G, t, zs, rfl, _⟩ := h; rfl) fun A outer s H vs Q E hr h => ⟨_, PSs.nox pss_w, ?_⟩
  obtain ⟨r, x1, x2, G, t, zs, rfl, hrow, sb, r1, r2, D, hb, hz6, hzs, tb, q⟩ := h
  have g := D.good
  have ht := D.sm
  have TK0 := TK cdv0 A outer s H E rfl
  have hr : Room 8 (rX P w K mg base f cdv0 A outer s H E).A := hr
  show Ws (rX P w K mg base f cdv0 A outer s H E) (defBody (topS 52)) _ _ _
  have hu := Room.units hr
  have few := g.few
  have hne : t.deeds.length ≠ 0 := fun e => D.ne (List.length_eq_zero_iff.mp e)
  refine ws_unpack3 (Rl := Ex) (i1 := 3) (i2 := 4) (i3 := 5) rfl (pg_tup rfl (pgs_cons (pg_name (i := 3) sc52.nd rfl (Or.inl rfl)) (pgs_cons (pg_name (i := 4) sc52.nd rfl (Or.inr rfl)) (pgs_cons (pg_name (i := 5) sc52.nd rfl (Or.inl rfl)) pgs_nil)))) sb (g_var 1 rfl r1) fun x3 x4 x5 G1 H1 g1 r3 r4 r5 => ?_
  refine ws_dict (Rl := Ex) (i := 6) (l := t.deeds.map fun q => (q.name, q.price)) rfl B.dict sc52.nd rfl (Or.inr rfl) g1.sub (gd_is (g_lcTm t.deeds Deed.toD (fun _ => true) (fun q => .tuple [.str q.name, .int q.price]) rfl sc52.nd (blkOk_by (own := [("_law_deed", 14)]) (N := n52) (sc := defScope (topS 52)) (by decide +kernel)) (fun _ _ _ _ _ => pg_name (i := 14) sc52.nd rfl (Or.inl rfl)) (g_var 3 rfl r3) (by omega)
    fun q v G2 hq e2 rq => ⟨fun _ _ _ _ _ => gi_nil, fun _ _ _ _ _ _ => g_tup (ga_cons (g_ixT (ds := [.str q.name, strsD q.needs, strsD q.bars, strsD q.adds, strsD q.strikes, .int q.price]) (g_var 14 rfl rq) g_int (atI_nat (j := 0) rfl)) (ga_cons (g_ixT (ds := [.str q.name, strsD q.needs, strsD q.bars, strsD q.adds, strsD q.strikes, .int q.price]) (g_var 14 rfl rq) g_int (atI_nat (j := 5) rfl)) ga_nil)) (by simp)⟩) (by rw [filter_true, List.map_map]; rfl)) (by rw [price_names g]; exact incr_nodup g.nm) fun dd G2 H2 g2 hdd => ?_
  have hl : (zs.map PyData.str).length = zs.length := List.length_map ..
  have hns : ∀ n ∈ zs.map PyData.str, nmOk n := fun n hn => by
    obtain ⟨z, hz, rfl⟩ := List.mem_map.mp hn
    exact nm_str (hzs z hz)
  have g02 := g1.trans g2
  refine ws_set (Rl := Ex) (i := 7) (d := .tuple (statesD t (zs.map .str) (zs.length + 1))) sc52.nd rfl (Or.inl rfl) g2.sub (gd_is (g_tuple B.tuple (g_lcR (z := (zs.length : Int) + 1) (fun _ => true) (fun i => strsD (stateAt t (zs.map .str) i)) rfl sc52.nd (blkOk_by (own := [("_law_at", 15)]) (N := n52) (sc := defScope (topS 52)) (by decide +kernel)) (fun _ _ _ _ _ => pg_name (i := 15) sc52.nd rfl (Or.inl rfl)) B.range
      (g_op op_add rd_int (gd_is (g_lenT B.len (g_var 2 rfl (r2.mono g02.ex))) (by rw [hl])) g_int) ⟨by omega, by omega⟩ fun i G5 hi e5 => ⟨fun _ _ _ _ _ => gi_nil, fun _ _ _ _ _ _ => ?_⟩)) ?_) fun x7 G3 H3 g3 r7 => ?_
  · obtain ⟨st, hst⟩ := good_walk hb (j := i) (by omega)
    rw [stateAt_of hst]
    exact gd_is (g_call L.walk (hr.mono (by decide)) (ga_cons (g_var 1 rfl (r1.mono (g02.ex.trans e5))) (ga_cons (g_var 4 rfl (r4.mono (g2.ex.trans e5))) (ga_cons (gd_is (g_slT (l := none) (h := some (i : Int)) (g_var 2 rfl (r2.mono (g02.ex.trans e5))) trivial (g_var 15 rfl (.int _))) (d := .tuple ((zs.map PyData.str).take i)) (by congr 1; exact cut_takeD _ i)) ga_nil))) rfl ⟨t, t.bg, (zs.map PyData.str).take i, rfl, g, ht, stIn_bg g, by rw [List.length_take]; omega, fun n hn => hns n (List.mem_of_mem_take hn), rfl⟩) (by show optD (walkTo t ((zs.map PyData.str).take i)) = _; rw [hst]; rfl)
  · rw [filter_true]; rfl
  have g03 := g02.trans g3
  have r13 := r1.mono g03.ex
  have r23 := r2.mono g03.ex
  have hnD : sm (strsD zs) = true := sm_strsD.2 ⟨by omega, hzs⟩
  have hdd3 : G3 dd = some (.dK (kvD (t.deeds.map fun q => (q.name, q.price)))) := g3.ex _ _ hdd
  refine ws_if (Rl := Ex) (b := false) g3.sub (Gw.pt (gw_or (k := false) (gt_is (gt_not (gt_val (g_call (d := .bool true) L.alike (hr.mono (by decide)) (ga_cons (g_callX (d := .tuple (statesD t (zs.map .str) (zs.length + 1))) L.pRun (hr.mono (by decide)) (ga_cons (g_var 1 rfl r13) (ga_cons (g_var 2 rfl r23) ga_nil)) rfl ⟨t.toD, strsD zs, rfl, sm_task.2 ht, hnD, .inr ⟨t, rfl, g, ?_⟩⟩) (ga_cons (g_var 7 rfl r7) ga_nil)) rfl ⟨_, rfl, ?_, rfl⟩))) rfl) fun _ => gw_or1 (gt_is (gt_not (gt_val (g_call (d := .bool true) L.alike (hr.mono (by decide)) (ga_cons (g_callX (d := .int (priceOf t zs)) L.pPrice (hr.mono (by decide)) (ga_cons (g_var 1 rfl r13) (ga_cons (g_var 2 rfl r23) ga_nil)) rfl ⟨t.toD, strsD zs, rfl, sm_task.2 ht, hnD, .inr ⟨t, rfl, g, zs, rfl, hb, rfl⟩⟩)
      (ga_cons (gd_is (g_sum rfl B.sum (ns := zs.map fun z => match deedOf t (.str z) with | some q => q.price | none => 0) (gd_is (g_lcTm zs PyData.str (fun _ => true) (fun z => .int (match deedOf t (.str z) with | some q => q.price | none => 0)) rfl sc52.nd (blkOk_by (own := [("_law_name", 16)]) (N := n52) (sc := defScope (topS 52)) (by decide +kernel)) (fun _ _ _ _ _ => pg_name (i := 16) sc52.nd rfl (Or.inl rfl)) (g_var 2 rfl r23) (by omega) fun z v G4 hz e4 rz => ⟨fun _ _ _ _ _ => gi_nil, fun _ _ _ _ _ _ => ?_⟩) (by rw [filter_true, List.map_map]; rfl))) rfl) ga_nil)) rfl ⟨_, rfl, al_int, rfl⟩))) rfl))) nofun fun _ G4 H4 g4 => ?_
  · have er : runD t (strsD zs) = .ok (.list (statesD t (zs.map .str) ((zs.map PyData.str).length + 1))) := row_ok hb
    show Except.ok (PyData.tuple (statesD t (zs.map .str) (zs.length + 1))) = runT t (strsD zs)
    unfold runT
    rw [er, hl]
  · have := states_al g ht hb (by omega)
    rw [hl] at this
    exact this
  · have hs := good_names hb z hz
    cases e : deedOf t (.str z) with
    | none => rw [e] at hs; cases hs
    | some q =>
      have hq := deedOf_mem e
      have hn := deedOf_name e
      exact g_dget 6 hu rfl (e4 _ _ hdd3) (g_var 16 rfl rz) (valV_kv (List.mem_map.mpr ⟨q, hq, by rw [hn]⟩) (by rw [price_names g]; exact incr_nodup g.nm)) (fun _ _ => rfl)
  have g04 := g03.trans g4
  have row4 := hrow.ex' g04.ex
  refine ws_setN (Rl := Ex) (i := 8) (S := fun d => ∃ j : Nat, d = .int (j : Int) ∧ j ≤ zs.length) sc52.nd rfl (Or.inl rfl) g4.sub (gn_draw 0 L.taken (hr.mono (by decide)) row4 rfl (gna_ga (ga_cons (g_op op_add rd_int (gd_is (g_lenT B.len (g_var 2 rfl (r2.mono g04.ex))) (by rw [hl])) g_int) ga_nil)) fun ds e => by
    subst e
    exact ⟨rfl, _, ⟨_, rfl, by omega, by omega, rfl⟩, fun d ⟨k, e, k0, k1⟩ => ⟨k.toNat, by rw [e]; congr 1; omega, by omega⟩⟩) fun dj x8 G5 H5 zj g5 r8 => ?_
  obtain ⟨j, rfl, hj⟩ := zj
  have g05 := g04.trans g5
  have r2_5 := r2.mono g05.ex
  have r3_5 := r3.mono (g2.ex.trans (g3.ex.trans (g4.ex.trans g5.ex)))
  refine ws_setN (Rl := Ex) (i := 9) (S := fun d => ∃ ns, d = .tuple ns ∧ ns.length ≤ 30 ∧ ∀ n ∈ ns, nmOk n) sc52.nd rfl (Or.inl rfl) g5.sub
    (gn_op (S1 := fun d => ∃ ns, d = .tuple ns ∧ ns.length ≤ 10 ∧ ∀ n ∈ ns, nmOk n) (S2 := fun d => ∃ ns, d = .tuple ns ∧ ns.length ≤ 10 ∧ ∀ n ∈ ns, nmOk n) op_catA
      (gn_op (S1 := (· = .tuple ((zs.map PyData.str).take j))) (S2 := fun d => ∃ n, d = .tuple [n] ∧ nmOk n) op_catA (gn_gd (gd_is (g_slT (l := none) (h := some (j : Int)) (g_var 2 rfl r2_5) trivial (g_var 8 rfl r8)) (by congr 1; exact cut_takeD _ j)))
        (gn_tup (T := fun ds => ∃ n, ds = [n] ∧ nmOk n) (gna_mono (gna_cons (S := nmOk) (gn_draw 0 L.pick (hr.mono (by decide)) (hrow.ex' g05.ex) rfl (gna_ga (ga_cons (g_catL (ds := t.deeds.map fun q => .str q.name) (es := [.str "zz", .none, .int 2]) (by simp; omega) (gd_is (g_lcTm t.deeds Deed.toD (fun _ => true) (fun q => .str q.name) rfl sc52.nd (blkOk_by (own := [("_law_deed", 14)]) (N := n52) (sc := defScope (topS 52)) (by decide +kernel)) (fun _ _ _ _ _ => pg_name (i := 14) sc52.nd rfl (Or.inl rfl)) (g_var 3 rfl r3_5) (by omega)
            fun q v G2 hq e2 rq => ⟨fun _ _ _ _ _ => gi_nil, fun _ _ _ _ _ _ => g_ixT (ds := [.str q.name, strsD q.needs, strsD q.bars, strsD q.adds, strsD q.strikes, .int q.price]) (g_var 14 rfl rq) g_int (atI_nat (j := 0) rfl)⟩) (by rw [filter_true])) (g_lst (ga_cons g_str (ga_cons g_non (ga_cons g_int ga_nil))) (by simp))) ga_nil)) fun ds e => by
            subst e
            refine ⟨rfl, _, ⟨_, rfl, by simp, by simp; omega, rfl⟩, fun d hd => ?_⟩
            rcases List.mem_append.mp hd with h | h
            · obtain ⟨q, hq, rfl⟩ := List.mem_map.mp h
              exact nm_str (ht.gd q hq).n
            · simp only [List.mem_cons, List.not_mem_nil, or_false] at h
              rcases h with rfl | rfl | rfl
              · exact nm_str zz_ok
              · exact nm_none
              · exact nm_int 2) gna_nil) fun ds h => by
            obtain ⟨d, _, rfl, hd, rfl⟩ := h
            exact ⟨d, rfl, hd⟩) fun ds ⟨n, e, hn⟩ => ⟨by rw [e]; simp, n, by rw [e], hn⟩) fun d1 d2 e1 ⟨n, e2, hn⟩ => by
          subst e1 e2
          refine ⟨_, ⟨(zs.map PyData.str).take j ++ [n], rfl, by simp; omega, fun m hm => ?_⟩, rd_catT (by simp; omega)⟩
          rcases List.mem_append.mp hm with h | h
          · exact hns m (List.mem_of_mem_take h)
          · rw [List.mem_singleton.mp h]; exact hn)
      (gn_mono (gn_gd (gd_is (g_slT (l := some (j : Int)) (h := none) (g_var 2 rfl r2_5) (g_var 8 rfl r8) trivial) (d := .tuple ((zs.map PyData.str).drop j)) (by congr 1; exact cut_dropD _ j))) fun d e => ⟨_, e, by rw [List.length_drop]; omega, fun n hn => hns n (List.mem_of_mem_drop hn)⟩) fun d1 d2 ⟨n1, e1, h1, h2⟩ ⟨n2, e2, h3, h4⟩ => by
        subst e1 e2
        refine ⟨_, ⟨n1 ++ n2, rfl, by rw [List.length_append]; omega, fun m hm => ?_⟩, rd_catT (by omega)⟩
        rcases List.mem_append.mp hm with h | h
        · exact h2 m h
        · exact h4 m h) fun dm x9 G6 H6 zm g6 r9 => ?_
  obtain ⟨nm, rfl, hnm1, hnm2⟩ := zm
  have g06 := g05.trans g6
  have r2_6 := r2.mono g06.ex
  refine ws_forL (Rl := Ex) (ds := [strsD zs, .tuple nm, .list (zs.map .str), .none, .tuple (zs.map PyData.str).reverse, .tuple ((zs.map PyData.str).take j)]) .never rfl (pg_name (i := 10) sc52.nd rfl (Or.inr rfl)) g6.sub
    (g_lst (ga_cons (g_var 2 rfl r2_6) (ga_cons (g_var 9 rfl r9) (ga_cons (g_list B.list (g_var 2 rfl r2_6)) (ga_cons g_non (ga_cons (g_revT (g_var 2 rfl r2_6)) (ga_cons (gd_is (g_slT (l := none) (h := some (j : Int)) (g_var 2 rfl r2_6) trivial (g_var 8 rfl (r8.mono g6.ex))) (by congr 1; exact cut_takeD _ j)) ga_nil)))))) (by simp)) fun G7 H7 g7 => ⟨fun i G' σ' H' => Ex G7 G' ∧ Sub G' H' ∧ XH T H7 H' ∧ ∃ v a b c d e f, σ' = [some (.ref r), some x1, some x2, some x3, some x4, some x5, some (.ref dd), some x7, some x8, some x9, v, a, b, c, d, e, f], ?_, ?_, ?_, ?_⟩
  · exact ⟨Evl.Ex.refl _, g7.sub, RlOk.refl _, _, _, _, _, _, _, _, rfl⟩
  · rintro i G' σ' H' ⟨e, s, _⟩
    exact ⟨e, s⟩
  · rintro i d v G8 σ8 H8 hd ⟨e8, s8, xh8, v0, a, b, c0, d0, e0, f0, rfl⟩ rd
    have hv : VOk d := by
      have := List.mem_of_getElem? hd
      simp only [List.mem_cons, List.not_mem_nil, or_false] at this
      rcases this with rfl | rfl | rfl | rfl | rfl | rfl
      · exact vok_tup (by rw [hl]; omega) hns
      · exact vok_tup hnm1 hnm2
      · exact ⟨sm_list.2 ⟨by rw [hl]; omega, fun d hd => (hns d hd).1⟩, fun ns e => by cases e⟩
      · exact ⟨by decide, fun ns e => by cases e⟩
      · exact vok_tup (by rw [List.length_reverse, hl]; omega) fun n hn => hns n (List.mem_reverse.mp hn)
      · exact vok_tup (by rw [List.length_take]; omega) fun n hn => hns n (List.mem_of_mem_take hn)
    have ex8 := g06.ex.trans (g7.ex.trans e8)
    have ex18 := (g2.trans (g3.trans (g4.trans (g5.trans (g6.trans g7))))).ex.trans e8
    have tb8 : LamX.Tabs T H8 := xh8.tabs (tb.ext (g06.trans g7).rl)
    exact rows_turn B L TK0 hr D s8 tb8 (r1.mono ex8) (r4.mono ex18) (r5.mono ex18) rd hv fun G' H' a b c0 d0 e0 f0 ex sub xh => ⟨G', e8.trans ex, sub, RlOk.trans xh8 xh, _, _, _, _, _, _, _, rfl⟩
  · rintro G8 σ8 H8 ⟨e8, s8, xh8, v0, a, b, c0, d0, e0, f0, rfl⟩
    refine ws_ret (Rl := Ex) s8 g_bl fun v' G9 H9 g9 r9' => ?_
    rw [r9'.blE]
    exact q H9 (RlOk.trans (RlOk.ex (g06.trans g7).rl) (RlOk.trans xh8 (RlOk.ex g9.rl)))
end
end WR
end
section
set_option Elab.async false
set_option linter.all false
set_option maxRecDepth 100000
set_option maxHeartbeats 1000000
namespace WR
open PySem PySem.Spec PyProof.Rows L2
section
variable {T : List (Addr × Str)} {X : Cx} {σ : L2.St} {G H : Hp} {e cond elt iter : Expr} {scope : Scope} {x : Str} {j : Nat} {tpos pos : Pos} {ds : List PyData} {d0 : PyData} {xs : List V}
/-- [elt for x in a list if cond], cond never so, told at a heap with tables -/
theorem hd_lcF (hc : X.calm = true) (hN : X.N.Nodup) (ok : BlkOk X.N X.env.scope scope [(x, j)]) (hg : InB X scope fun Y => PG Y (.Name x tpos) (gName j)) (hi : Gd (XH T) X σ G iter (.list ds)) (sb : Sub G H) (tb : LamX.Tabs T H)
    (hb : ∀ d v G1 H1, d ∈ ds → Ex G G1 → Sub G1 H1 → LamX.Tabs T H1 → Rp G1 v d → InB X scope fun Y => Hb T Y ((wipe σ [j]).set j (some v)) G1 H1 cond false)
    (hs : ∀ x, foldedSetIterable iter X.env x = pure x := by intro _; rfl) : Hd T X σ G H (.ListComp elt [⟨.Name x tpos, iter, [cond], 0⟩] scope pos) (.list []) := by
  refine fun Q q pins sh I => (pe_lc (own := [(x, j)]) (pos := pos) hc hN (pi_list pe_w) ok hg (pi_wb (ifs := [cond])) (pe_wb (e := elt)) hs).run pins sh σ H Q I (hi G (Evl.Ex.refl G) H sb _ fun v G1 H1 e1 r1 => ?_)
  obtain ⟨a, xs, rfl, ha, rs⟩ := r1.lstE
  refine ⟨a, rfl, ⟨xs, SqL.of (e1.sub.1 _ _ ha)⟩, fun D hD => ?_⟩
  refine lc_list (xs := xs) (Cv (XH T) G1 H1 D fun _ => []) (cv_start e1.sub hD rfl) (fun i H' _ c => ?_) (fun i u H' hu c => ?_) fun H' c => ?_
  · obtain ⟨G', g, _⟩ := c
    exact SqL.of (g.sub.1 _ _ (g.ex _ _ ha))
  · obtain ⟨d, hd, rd⟩ := rs.get hu
    obtain ⟨G', g, gD, acc, hacc, ra⟩ := c
    have nl : ∀ ps, HO.lst acc ≠ .tbl ps := fun _ z => by cases z
    refine ⟨wipe1 σ j _, fun s0 H0 C cl fp pins sh J => ?_⟩
    refine (pts_one pt_w).run pins sh _ H' _ J (hb d u G' H' (List.mem_of_getElem? hd) (e1.ex.trans g.ex) g.sub ((e1.trans g).rl.tabs tb) (rd.mono g.ex) s0 H0 C cl fp _ fun G2 H3 e3 => ?_)
    rw [if_neg Bool.false_ne_true]
    exact ⟨G2, g.trans e3, e3.out gD hacc nl, acc, RlOk.keep e3.rl hacc nl, ra.mono e3.ex⟩
  · obtain ⟨G', g, r⟩ := cv_end hD c
    exact q _ G' H' (e1.trans g) r
/-- [elt for x in [a, b, ..]], the items told of, elt always the same -/
theorem hd_lcS (hc : X.calm = true) (hN : X.N.Nodup) (ok : BlkOk X.N X.env.scope scope [(x, j)]) (hg : InB X scope fun Y => PG Y (.Name x tpos) (gName j)) (hi : ∀ Q : VK, (∀ p, H p = none → Q (.ref p) (upd H p (.lst xs))) → WE X iter σ H Q) (sb : Sub G H) (tb : LamX.Tabs T H) (hz : xs.length ≤ 100)
    (hb : ∀ v G1 H1, v ∈ xs → Ex G G1 → Sub G1 H1 → LamX.Tabs T H1 → InB X scope fun Y => Hd T Y ((wipe σ [j]).set j (some v)) G1 H1 elt d0)
    (hs : ∀ x, foldedSetIterable iter X.env x = pure x := by intro _; rfl) : Hd T X σ G H (.ListComp elt [⟨.Name x tpos, iter, [], 0⟩] scope pos) (.list (List.replicate xs.length d0)) := by
  refine fun Q q pins sh I => (pe_lc (own := [(x, j)]) (pos := pos) hc hN (pi_list pe_w) ok hg (pi_wb (ifs := [])) (pe_wb (e := elt)) hs).run pins sh σ H Q I (hi _ fun a ha => ?_)
  have nlx : ∀ ps, HO.lst xs ≠ .tbl ps := fun _ z => by cases z
  have g0 : Gr (XH T) G H G (upd H a (.lst xs)) := .of_rl sb (RlOk.ex (Evl.Ex.new ha))
  have gA : G a = none := sb.fr ha
  refine ⟨a, rfl, ⟨xs, SqL.of upd_same⟩, fun D hD => ?_⟩
  refine lc_list (xs := xs) (fun i H' => H' a = some (.lst xs) ∧ i ≤ xs.length ∧ Cv (XH T) G (upd H a (.lst xs)) D (fun _ => List.replicate i d0) i H') ⟨?_, Nat.zero_le _, cv_start g0.sub hD rfl⟩ (fun i H' _ c => SqL.of c.1) (fun i u H' hu c => ?_) fun H' c => ?_
  · have : a ≠ D := fun z => by rw [← z, upd_same] at hD; cases hD
    rw [upd_ne this, upd_same]
  · obtain ⟨h1, hi2, G', g, gD, acc, hacc, ra⟩ := c
    have nl : ∀ ps, HO.lst acc ≠ .tbl ps := fun _ z => by cases z
    have hlt : i < xs.length := (List.getElem?_eq_some_iff.mp hu).1
    have hal : acc.length = i := by rw [ra.len, List.length_replicate]
    refine ⟨wipe1 σ j _, fun s0 H0 C cl fp => ?_⟩
    refine gi_nil (Rl := XH T) G' (Evl.Ex.refl G') H' g.sub _ fun G2 H3 e3 => ?_
    rw [if_pos rfl]
    have a3 : H3 D = some (.lst acc) := RlOk.keep e3.rl hacc nl
    have n3 : G2 D = none := e3.out gD hacc nl
    have l3 : H3 a = some (.lst xs) := RlOk.keep e3.rl h1 nlx
    intro s1 H1b C1 cl1 fp1
    refine hb u G2 H3 (List.mem_of_getElem? hu) (g.ex.trans e3.ex) e3.sub (((g0.trans g).trans e3).rl.tabs tb) s1 H1b C1 cl1 fp1 _ fun y G3 H4 e4 ry => ?_
    have a4 : H4 D = some (.lst acc) := RlOk.keep e4.rl a3 nl
    have n4 : G3 D = none := e4.out n3 a3 nl
    have haD : a ≠ D := fun z => by rw [← z, upd_same] at hD; cases hD
    refine ⟨acc, a4, Nat.lt_of_lt_of_le (by omega : acc.length < 100000) (by decide), by rw [upd_ne haD]; exact RlOk.keep e4.rl l3 nlx, hlt, G3, ⟨(g.ex.trans e3.ex).trans e4.ex, ⟨fun b o h => ?_, e4.sub.2⟩, RlOk.muL ((g.trans e3).trans e4).rl hD a4, ((g.trans e3).trans e4).new⟩, n4, acc ++ [y], upd_same, ?_⟩
    · rw [upd_ne (ne_of_none h n4)]
      exact e4.sub.1 b o h
    · show RpAll G3 (acc ++ [y]) (List.replicate (i + 1) d0)
      rw [List.replicate_succ']
      exact ((ra.mono e3.ex).mono e4.ex).app (.cons ry .nil)
  · obtain ⟨_, _, c⟩ := c
    obtain ⟨G', g, r⟩ := cv_end hD c
    exact q _ G' H' (g0.trans g) r
/-- a call of what a slot holds, told to raise -/
theorem gf_callL {c : Clss} {E : XK} {b : Bad} {k n : Nat} {R : List PyData → Out → Prop} {f : Addr} {fd : FuncData} {ps : List Str} {y : Str} {es : List Expr} {p : Pos} (i : Nat) (F : FnOk X.prog X.w X.K X.mg X.base (L2.CX X.prog X.w) k f fd ps (RaSp c n R)) (hk : PySem.W.keepIn X.K (.ref f) = true) (hb : Binds X.K fd ps []) (hr : Room k X.A) (tk : Passes (L2.CX X.prog X.w) X E)
    (hs : σ[i]? = some (some (.ref f))) (ha : Ga Ex X σ G (e :: es) ds) (hn : ds.length = n) (hR : R ds (.error b)) (hN : X.N[i]? = some y := by rfl) (hv : Vis X.env.scope y := by first | exact Or.inl rfl | exact Or.inr (Or.inl rfl) | exact Or.inr (Or.inr rfl))
    (hdb : (y == ("__debug__" : Str)) = false := by decide) (hcd : (y == ("__classdict__" : Str)) = false := by decide)
    (he : starEach (e :: es) X.env = (false, eval e X.env) :: starEach es X.env := by rfl) (hpl : (backTo pos (starEach es X.env)).any (·.1) = false := by rfl) : Gf c E X σ G (.Call (.Name y p) (e :: es) [] pos) b := by
  refine fun G1 H x1 s hE Q pins sh I => (pe_callL (p := p) (pos := pos) (i := i) F hr hN hv hk hb .nil tk pa_w hdb hcd he hpl).run pins sh σ H Q I ⟨hs, ha G1 x1 H s _ fun vs G2 H2 e2 rs => ?_⟩
  exact ⟨by rw [List.append_nil, rs.len]; exact hn, G2, ds, .error b, e2.sub, by rw [List.append_nil]; exact rs, hR, fun cls dx G' H' g z => hE cls dx G' H' (e2.trans g) z⟩
end
end WR
end
section
set_option Elab.async false
set_option linter.all false
set_option maxRecDepth 100000
set_option maxHeartbeats 2000000
namespace WR
open PySem PySem.Spec PyProof.Rows L2
theorem wrong_ok {v : PyData} {z : Str} (h : wrongD v = some z) : PyData.strOk z = true := by
  unfold wrongD at h
  split at h
  · split at h
    · split at h
      · cases h; decide +kernel
      · split at h
        · cases h; decide +kernel
        · split at h
          · split at h
            · cases h; decide +kernel
            · split at h
              · cases h; decide +kernel
              · split at h
                · cases h; decide +kernel
                · cases h
          · cases h; decide +kernel
    · cases h; decide +kernel
  · cases h; decide +kernel
theorem badT_al {z : Str} (h : PyData.strOk z = true) : al 1 (badD (.task z)) = true := by
  refine al_tup (by simp) fun d hd => ?_
  simp only [List.mem_cons, List.not_mem_nil, or_false] at hd
  rcases hd with rfl | rfl
  · exact al_str (by decide +kernel)
  · exact al_str h
abbrev n53 : List Str := ["_law_script", "_law_row", "_law_task_here", "_law_deeds", "_law_begin", "_law_wish", "_law_k", "_law_one", "_law_some_here", "_law_other", "_law_bent", "_law_many", "_law_value", "_law_word", "_law_state", "_law_names", "_law_turn", "_law_can", "_law_due", "_law_step", "_law_j", "_law_ask", "_law_deed"]
theorem sc53 : FnScope n53 ["_law_script"] (defScope (topS 53)) := ⟨rfl, rfl, rfl, by decide +kernel, rfl, by decide +kernel, by decide +kernel⟩
section
variable {P : Program} {w : World} {K : PySem.W.Frag} {mg : Str → Option Value} {base : Heap} {f : Addr} {c : Clss} {T : List (Addr × Str)}
abbrev lX (P : Program) (w : World) (K : PySem.W.Frag) (mg : Str → Option Value) (base : Heap) (f : Addr) (cdv : Value) (A : Around) (outer : List Env) (s : Shared) (H : Hp) (E : XK) : Cx := bX P w K mg base n53 "law" (defScope (topS 53)) f cdv A outer s H E
theorem ToldK.blk {X : Cx} (k : ToldK X T c) (s : Shared) (H : Hp) (scope : Scope) (cl : List (Str × Addr)) (C : Addr) (fp : List Addr) : ToldK (X.blk s H scope (compEnvC scope cl C X.env) fp) T c := ⟨k.b, k.cl, k.fn, k.tb⟩
theorem list4 {X : Cx} {σ : L2.St} {H : Hp} {y1 y2 y3 y4 : Str} {p1 p2 p3 p4 pos : Pos} {f1 f2 f3 f4 : Addr} (m1 : X.mg y1 = some (.ref f1)) (m2 : X.mg y2 = some (.ref f2)) (m3 : X.mg y3 = some (.ref f3)) (m4 : X.mg y4 = some (.ref f4)) (g1 : Gl X y1 := by rfl) (g2 : Gl X y2 := by rfl) (g3 : Gl X y3 := by rfl) (g4 : Gl X y4 := by rfl)
    (d1 : (y1 == ("__debug__" : Str)) = false := by decide) (d2 : (y2 == ("__debug__" : Str)) = false := by decide) (d3 : (y3 == ("__debug__" : Str)) = false := by decide) (d4 : (y4 == ("__debug__" : Str)) = false := by decide) :
    ∀ Q : VK, (∀ p, H p = none → Q (.ref p) (upd H p (.lst [.ref f1, .ref f2, .ref f3, .ref f4]))) → WE X (.List [.Name y1 p1, .Name y2 p2, .Name y3 p3, .Name y4 p4] pos) σ H Q := fun Q q pins sh I =>
  (pe_lst (pos := pos) (pa_cons (pe_glob (X := X) (pos := p1) (v := .ref f1) g1 m1 rfl d1) (pa_cons (pe_glob (X := X) (pos := p2) (v := .ref f2) g2 m2 rfl d2) (pa_cons (pe_glob (X := X) (pos := p3) (v := .ref f3) g3 m3 rfl d3) (pa_cons (pe_glob (X := X) (pos := p4) (v := .ref f4) g4 m4 rfl d4) pa_nil))))).run pins sh σ H Q I ⟨by rw [sizeLine_eq]; exact (by decide : 4 ≤ 16777216), q⟩
theorem bent_turn (B : Bt mg) (L : LawFns P w K mg base c) {cdv : Value} {A : Around} {outer : List Env} {s : Shared} {H0 : Hp} {E : XK} (TK : ToldK (lX P w K mg base f cdv A outer s H0 E) T c) (hr : Room 9 (lX P w K mg base f cdv A outer s H0 E).A)
    {σ : L2.St} {v : V} {d : PyData} {G H : Hp} {En : Ends} (sb : Sub G H) (tb : LamX.Tabs T H) (hσ : σ[12]? = some (some v)) (hl : σ.length = 23) (rv : Rp G v d) (hs : sm d = true) (hsh : Sh 20 d)
    (nx : ∀ G' H' u, Ex G G' → Sub G' H' → XH T H H' → En.nx (σ.set 13 u) H') :
    Ws (lX P w K mg base f cdv A outer s H0 E) (forBody (topS 53) 11) En σ H := by
  have hu := Room.units hr
  refine ws_set (Rl := Ex) (i := 13) (d := wordD (wrongD d)) sc53.nd rfl (Or.inl rfl) sb (g_call L.wrong (hr.mono (by decide)) (ga_cons (g_var 12 hσ rv) ga_nil) rfl ⟨d, rfl, hs, hsh, rfl⟩) fun vw G1 H1 g1 rw1 => ?_
  have h13 : (σ.set 13 (some vw))[13]? = some (some vw) := by rw [List.getElem?_set_self (by omega)]
  have h12 : (σ.set 13 (some vw))[12]? = some (some v) := by rw [List.getElem?_set_ne (by decide)]; exact hσ
  have isW : isNn (wordD (wrongD d)) = (wrongD d).isNone := by cases wrongD d <;> rfl
  refine ws_if (Rl := Ex) (b := false) g1.sub (gt_is (gt_not (gt_val (g_call (d := .bool true) L.alike (hr.mono (by decide)) (ga_cons (g_call (d := .bool (wrongD d).isNone) L.pTask (hr.mono (by decide)) (ga_cons (g_var 12 h12 (rv.mono g1.ex)) ga_nil) rfl ⟨d, rfl, hs, rfl⟩) (ga_cons (gd_is (g_cmp op_isN rd_isN (g_var 13 h13 rw1) g_non (nomark _)) (by rw [isW])) ga_nil)) rfl ⟨_, rfl, al_bool, rfl⟩))) rfl) nofun fun _ G2 H2 g2 => ?_
  have g02 := g1.trans g2
  have rw2 := rw1.mono g2.ex
  have rv2 := rv.mono g02.ex
  refine ws_ifH (T := T) (k := (wrongD d).isSome && false) (hb_and (gt_is (gt_cmp op_notN rd_notN (g_var 13 h13 rw2) g_non (nomark _)) (by rw [isW]; cases wrongD d <;> rfl)) g2.sub fun k G3 H3 g3 => ?_) (fun k => by simp at k) fun _ G4 H4 g4 => ?_
  · obtain ⟨z, hz⟩ := Option.isSome_iff_exists.mp k
    rw [hz] at rw2
    have hal := badT_al (wrong_ok hz)
    refine hb_is (hb_ne hu ((al_sh _ 1 hal).shaped (by decide)) ((al_sh _ 1 hal).shaped (by decide)) (hd_told (k := 6) (o := .error (.task z)) TK (hr.mono (by decide)) (LamX.lamS_by (sc := defScope (topS 53)) (by decide +kernel)) rfl (fun _ _ _ _ _ => rfl) g3.sub (g3.rl.tabs (tb.ext g02.rl)) fun A1 outer1 s1 H01 E1 f1 c1 hr1 => ?_) (g_tup (ga_cons g_str (ga_cons (g_var 13 h13 (rw2.mono g3.ex)) ga_nil)) (by simp))) (by rw [eqv_refl _ 1 hal]; rfl)
    exact ⟨wrong_len hz, gf_call L.pFacts hr1 (passE lam_takes) (ga_cons (g_var 12 h12 (rv2.mono g3.ex)) ga_nil) rfl ⟨d, rfl, hs, .inl ⟨z, hz, rfl⟩⟩⟩
  have rw4 := rw2.mono g4.ex
  have rv4 := rv2.mono g4.ex
  have tb4 : LamX.Tabs T H4 := g4.rl.tabs (tb.ext g02.rl)
  obtain ⟨f1, fd1, ps1, F1, m1, k1, b1⟩ := L.pOpen.ex
  obtain ⟨f2, fd2, ps2, F2, m2, k2, b2⟩ := L.pRun.ex
  obtain ⟨f3, fd3, ps3, F3, m3, k3, b3⟩ := L.pPrice.ex
  obtain ⟨f4, fd4, ps4, F4, m4, k4, b4⟩ := L.pPlan.ex
  refine ws_ifH (T := T) (k := (wrongD d).isSome && false) (hb_and (gt_is (gt_cmp op_notN rd_notN (g_var 13 h13 rw4) g_non (nomark _)) (by rw [isW]; cases wrongD d <;> rfl)) g4.sub fun k G5 H5 g5 => ?_) (fun k => by simp at k) fun _ G6 H6 g6 => ?_
  · obtain ⟨z, hz⟩ := Option.isSome_iff_exists.mp k
    rw [hz] at rw4
    have hal := badT_al (wrong_ok hz)
    have hal4 : al 2 (.list (List.replicate 4 (badD (.task z)))) = true := al_lst (by simp) fun d hd => by
      rw [List.eq_of_mem_replicate hd]
      exact al_tup (by simp) fun d hd => by
        simp only [List.mem_cons, List.not_mem_nil, or_false] at hd
        rcases hd with rfl | rfl
        · exact al_str (by decide +kernel)
        · exact al_str (wrong_ok hz)
    refine hb_is (hb_ne hu (d1 := .list (List.replicate 4 (badD (.task z)))) (d2 := .list (List.replicate 4 (badD (.task z)))) ((al_sh _ 2 hal4).shaped (by decide)) ((al_sh _ 2 hal4).shaped (by decide))
      (hd_lcS (xs := [.ref f1, .ref f2, .ref f3, .ref f4]) (d0 := badD (.task z)) rfl sc53.nd (blkOk_by (own := [("_law_ask", 21)]) (N := n53) (sc := defScope (topS 53)) (by decide +kernel)) (fun _ _ _ _ _ => pg_name (i := 21) sc53.nd rfl (Or.inr rfl)) (list4 m1 m2 m3 m4) g5.sub (g5.rl.tabs tb4) (by simp)
        fun u G7 H7 hu7 e7 s7 t7 s8 H8 C8 cl8 fp8 => ?_)
      (gd_is (g_rep (n := 4) (ds := [badD (.task z)]) (by decide) (by simp) (g_lst (ga_cons (g_tup (ga_cons g_str (ga_cons (g_var 13 h13 (rw4.mono g5.ex)) ga_nil)) (by simp)) ga_nil) (by simp)) g_int) rfl)) (by rw [eqv_refl _ 2 hal4]; rfl)
    have hw : ((wipe (σ.set 13 (some vw)) [21]).set 21 (some u))[21]? = some (some u) := by
      rw [List.getElem?_set_self]
      show 21 < ((σ.set 13 (some vw)).set 21 none).length
      rw [List.length_set, List.length_set]
      omega
    have hv12 : ((wipe (σ.set 13 (some vw)) [21]).set 21 (some u))[12]? = some (some v) := by
      rw [List.getElem?_set_ne (by decide)]
      show ((σ.set 13 (some vw)).set 21 none)[12]? = _
      rw [List.getElem?_set_ne (by decide)]
      exact h12
    refine hd_told (k := 6) (o := .error (.task z)) (TK.blk _ _ _ _ _ _) (hr.mono (by decide)) (LamX.lamS_by (sc := relS _ (defScope (topS 53))) (by decide +kernel)) rfl (fun _ _ _ _ _ => rfl) s7 t7 fun A1 outer1 s1 H01 E1 g9 c9 hr1 => ⟨wrong_len hz, ?_⟩
    have args : ∀ {Y : Cx} {p1 p2 p3 : Pos}, Y.N = n53 → True := fun _ => trivial
    simp only [List.mem_cons, List.not_mem_nil, or_false] at hu7
    rcases hu7 with rfl | rfl | rfl | rfl
    · exact gf_callL 21 F1 k1 b1 hr1 (passE lam_takes) hw (ga_cons (g_var 12 hv12 (rv4.mono (g5.ex.trans e7))) (ga_cons g_non ga_nil)) rfl ⟨d, .none, rfl, hs, by decide, .inl ⟨z, hz, rfl⟩⟩
    · exact gf_callL 21 F2 k2 b2 hr1 (passE lam_takes) hw (ga_cons (g_var 12 hv12 (rv4.mono (g5.ex.trans e7))) (ga_cons g_non ga_nil)) rfl ⟨d, .none, rfl, hs, by decide, .inl ⟨z, hz, rfl⟩⟩
    · exact gf_callL 21 F3 k3 b3 hr1 (passE lam_takes) hw (ga_cons (g_var 12 hv12 (rv4.mono (g5.ex.trans e7))) (ga_cons g_non ga_nil)) rfl ⟨d, .none, rfl, hs, by decide, .inl ⟨z, hz, rfl⟩⟩
    · exact gf_callL 21 F4 k4 b4 hr1 (passE lam_takes) hw (ga_cons (g_var 12 hv12 (rv4.mono (g5.ex.trans e7))) (ga_cons g_non ga_nil)) rfl ⟨d, .none, rfl, hs, by decide, .inl ⟨z, hz, rfl⟩⟩
  exact ws_nil (nx G6 H6 _ (g02.ex.trans (g4.ex.trans g6.ex)) g6.sub (RlOk.trans (RlOk.ex g02.rl) (RlOk.trans g4.rl g6.rl)))
end
end WR
end
section
set_option Elab.async false
set_option linter.all false
set_option maxRecDepth 100000
set_option maxHeartbeats 2000000
namespace WR
open PySem PySem.Spec PyProof.Rows L2
/-! ### one turn of the walk through states -/
def forB (sts : List Stmt) (i : Nat) : List Stmt := match sts[i]? with
  | some (.For _ _ b _ _) => b
  | _ => []
theorem filter_name : ∀ {l : List Deed} {n : PyData}, (l.map (·.name)).Nodup → l.filter (nameIs n) = (l.find? (nameIs n)).toList
  | [], _, _ => rfl
  | q :: l, n, h => by
    rw [List.map_cons, List.nodup_cons] at h
    rw [List.filter_cons, List.find?_cons]
    cases e : nameIs n q with
    | false => exact filter_name h.2
    | true =>
      show q :: l.filter (nameIs n) = [q]
      congr 1
      rw [List.filter_eq_nil_iff]
      intro p hp z
      cases n with
      | str s =>
        have e1 : q.name = s := of_decide_eq_true e
        have e2 : p.name = s := of_decide_eq_true z
        exact h.1 (List.mem_map.mpr ⟨p, hp, e2.trans e1.symm⟩)
      | _ => cases e
def canL (t : Task) (st : List Str) : List Deed := t.deeds.filter (canDo st)
theorem can_name {t : Task} (g : t.Good) (st : List Str) (n : PyData) : (canL t st).filter (nameIs n) = (match deedOf t n with
    | none => []
    | some q => if canDo st q = true then [q] else []) := by
  unfold canL
  rw [List.filter_filter]
  have e : (t.deeds.filter fun q => nameIs n q && canDo st q) = (t.deeds.filter (nameIs n)).filter (canDo st) := by
    rw [List.filter_filter]
    congr 1
    funext q
    exact Bool.and_comm _ _
  rw [e, filter_name (incr_nodup g.nm)]
  unfold deedOf
  cases t.deeds.find? (nameIs n) with
  | none => rfl
  | some q =>
    show [q].filter (canDo st) = if canDo st q = true then [q] else []
    rw [List.filter_cons]
    cases canDo st q <;> rfl
theorem facts_names {t : Task} (g : t.Good) : ∀ z ∈ t.facts, nameOk z = true := fun z hz => by
  rcases facts_mem.mp hz with h | h | ⟨q, hq, h⟩
  · exact List.all_eq_true.mp g.b1 z h
  · exact List.all_eq_true.mp g.w1 z h
  · have gq := g.gd q hq
    rcases h with h | h | h | h
    · exact List.all_eq_true.mp gq.n1 z h
    · exact List.all_eq_true.mp gq.n2 z h
    · exact List.all_eq_true.mp gq.n3 z h
    · exact List.all_eq_true.mp gq.n4 z h
theorem stateOk_of {t : Task} {st : List Str} (g : t.Good) (h : StIn t st) : stateOk t (strsD st) = some st := by
  unfold stateOk
  rw [show asFacts (strsD st) = some st from asFacts_some.mpr ⟨rfl, List.all_eq_true.mpr fun z hz => facts_names g z (h.sub z hz), h.inc⟩]
  show (if subB st t.facts = true then some st else none) = some st
  have e : subB st t.facts = true := List.all_eq_true.mpr fun z hz => decide_eq_true (h.sub z hz)
  rw [if_pos e]
mutual
theorem al_up : ∀ {m : Nat} {d : PyData}, al m d = true → al (m + 1) d = true
  | _, .none, _ => al_none
  | _, .bool _, _ => al_bool
  | _, .int _, _ => al_int
  | m, .str z, h => by unfold al at h; exact al_str h
  | 0, .list xs, h => by unfold al at h; cases h
  | m + 1, .list xs, h => by
    unfold al at h
    obtain ⟨h1, h2⟩ := Bool.and_eq_true_iff.mp h
    exact al_lst (of_decide_eq_true h1) (al_ups h2)
  | 0, .tuple xs, h => by unfold al at h; cases h
  | m + 1, .tuple xs, h => by
    unfold al at h
    obtain ⟨h1, h2⟩ := Bool.and_eq_true_iff.mp h
    exact al_tup (of_decide_eq_true h1) (al_ups h2)
  | m, .dict _, h => by cases m <;> (unfold al at h; cases h)
theorem al_ups : ∀ {m : Nat} {l : List PyData}, alAll m l = true → ∀ d ∈ l, al (m + 1) d = true
  | _, [], _, _, hd => by cases hd
  | m, x :: r, h, d, hd => by
    unfold alAll at h
    obtain ⟨h1, h2⟩ := Bool.and_eq_true_iff.mp h
    rcases List.mem_cons.mp hd with e | hd
    · rw [e]
      exact al_up h1
    · exact al_ups h2 d hd
end
def doneD (t : Task) (st : List Str) (n : PyData) : PyData := outD (stepD (stepOf t st n))
theorem done_al {t : Task} (g : t.Good) (hs : t.Sm) {st : List Str} (h : StIn t st) (n : PyData) : al 1 (doneD t st n) = true := by
  unfold doneD
  cases e : stepOf t st n with
  | none =>
    refine al_tup (by simp) fun d hd => ?_
    simp only [List.mem_cons, List.not_mem_nil, or_false] at hd
    rcases hd with rfl | rfl
    · exact al_str (by decide +kernel)
    · exact al_str (by decide +kernel)
  | some s =>
    have hin := stepOf_in g h e
    exact al_strsD (Nat.le_trans (hin.few g) (by decide)) fun z hz => (hin.ok hs z hz).2
section
variable {P : Program} {w : World} {K : PySem.W.Frag} {mg : Str → Option Value} {base : Heap} {f : Addr} {c : Clss} {T : List (Addr × Str)}
theorem name_turn (B : Bt mg) (L : LawFns P w K mg base c) {cdv : Value} {A : Around} {outer : List Env} {s : Shared} {H0 : Hp} {E : XK} (TK : ToldK (lX P w K mg base f cdv A outer s H0 E) T c) (hr : Room 9 (lX P w K mg base f cdv A outer s H0 E).A)
    {t : Task} (D : Drawn t) {st : List Str} (hst : StIn t st) {σ : L2.St} {x2 xs xc v : V} {n : PyData} {G H : Hp} {En : Ends} (sb : Sub G H) (tb : LamX.Tabs T H) (hl : σ.length = 23) (h2 : σ[2]? = some (some x2)) (h14 : σ[14]? = some (some xs)) (h17 : σ[17]? = some (some xc)) (h12 : σ[12]? = some (some v))
    (r2 : Rp G x2 t.toD) (rs : Rp G xs (strsD st)) (rc : Rp G xc (.list ((canL t st).map Deed.toD))) (rv : Rp G v n) (hn : nmOk n)
    (nx : ∀ G' H' u1 u2, Ex G G' → Sub G' H' → XH T H H' → En.nx ((σ.set 8 u1).set 18 u2) H') :
    Ws (lX P w K mg base f cdv A outer s H0 E) (forB (forBody (topS 53) 14) 2) En σ H := by
  have hu := Room.units hr
  have g := D.good
  have ht := D.sm
  have few := g.few
  have hshn := (al_sh n 2 hn.2).shaped (by decide)
  have hcan : (canL t st).length ≤ 14 := Nat.le_trans (List.length_filter_le _ _) few
  have hsm : ∀ q ∈ canL t st, q.Sm := fun q hq => ht.gd q (List.mem_filter.mp hq).1
  refine ws_setLcLm (Rl := Ex) (i := 8) (canL t st) Deed.toD (nameIs n) Deed.toD rfl sc53.nd rfl rfl (sw_true rfl rfl rfl (by decide +kernel)) (blkOk_by (own := [("_law_deed", 22)]) (N := n53) (sc := defScope (topS 53)) (by decide +kernel)) (fun _ _ _ _ _ => pg_name (i := 22) sc53.nd rfl (Or.inl rfl)) sb
      (g_var 17 h17 rc) (by omega) (fun q vq G3 hq e3 rq => ?_) fun v3 G3 H3 g3 r3 => ?_
  · have hq22 : ((wipe σ [22]).set 22 (some vq))[22]? = some (some vq) := by
      rw [List.getElem?_set_self]
      show 22 < (σ.set 22 none).length
      rw [List.length_set]
      omega
    have hv12 : ((wipe σ [22]).set 22 (some vq))[12]? = some (some v) := by
      rw [List.getElem?_set_ne (by decide)]
      show (σ.set 22 none)[12]? = _
      rw [List.getElem?_set_ne (by decide)]
      exact h12
    exact ⟨fun _ _ _ _ _ => gi_one (gt_is (gt_eq hu (shaped_str (hsm q hq).n.2) hshn (g_ixT (ds := [.str q.name, strsD q.needs, strsD q.bars, strsD q.adds, strsD q.strikes, .int q.price]) (g_var 22 hq22 rq) g_int (atI_nat (j := 0) rfl)) (g_var 12 hv12 (rv.mono e3))) (eqv_name _ _ q rfl)), fun _ _ _ _ _ _ => g_var 22 hq22 rq⟩
  have k8 : (σ.set 8 (some v3))[8]? = some (some v3) := by rw [List.getElem?_set_self (by omega)]
  have k14 : (σ.set 8 (some v3))[14]? = some (some xs) := by rw [List.getElem?_set_ne (by decide)]; exact h14
  have k2 : (σ.set 8 (some v3))[2]? = some (some x2) := by rw [List.getElem?_set_ne (by decide)]; exact h2
  have k12 : (σ.set 8 (some v3))[12]? = some (some v) := by rw [List.getElem?_set_ne (by decide)]; exact h12
  have hs3 : Sh 3 (.list (((canL t st).filter (nameIs n)).map Deed.toD)) := sh_deedsL fun q hq => hsm q (List.mem_filter.mp hq).1
  refine ws_set (Rl := Ex) (i := 18) (d := doneD t st n) sc53.nd rfl (Or.inl rfl) g3.sub (g_if (k := !((((canL t st).filter (nameIs n)).map Deed.toD)).isEmpty) (gt_neNilD hu hs3 (by decide) (g_var 8 k8 r3)) (fun k => ?_) fun k => ?_) fun v4 G4 H4 g4 r4 => ?_
  · rw [can_name g] at r3 k
    cases e : deedOf t n with
    | none => simp only [e] at k; cases k
    | some q =>
      simp only [e] at r3 k
      cases ec : canDo st q with
      | false => simp only [ec] at k; cases k
      | true =>
        simp only [ec, if_true] at r3
        have e2 : doneD t st n = optD (goD st q) := by
          unfold doneD stepOf goD
          simp only [e, ec, if_true]
          rfl
        rw [e2]
        exact g_call L.go (hr.mono (by decide)) (ga_cons (g_var 14 k14 (rs.mono g3.ex)) (ga_cons (g_ixL (g_var 8 k8 r3) g_int (atI_nat (j := 0) rfl)) ga_nil)) rfl ⟨st, q, rfl, Nat.le_trans (hst.few g) (by decide), ht.gd q (deedOf_mem e), rfl⟩
  · have e2 : doneD t st n = badD (.deed none) := by
      rw [can_name g] at k
      unfold doneD stepOf
      cases e : deedOf t n with
      | none => rfl
      | some q =>
        simp only [e] at k ⊢
        cases ec : canDo st q with
        | true => simp only [ec, if_true] at k; cases k
        | false => rfl
    rw [e2]
    exact g_tup (ga_cons g_str (ga_cons g_str ga_nil)) (by simp)
  have l8 : (σ.set 8 (some v3)).length = 23 := by rw [List.length_set]; exact hl
  have m18 : ((σ.set 8 (some v3)).set 18 (some v4))[18]? = some (some v4) := by rw [List.getElem?_set_self (by omega)]
  have m14 : ((σ.set 8 (some v3)).set 18 (some v4))[14]? = some (some xs) := by rw [List.getElem?_set_ne (by decide)]; exact k14
  have m2 : ((σ.set 8 (some v3)).set 18 (some v4))[2]? = some (some x2) := by rw [List.getElem?_set_ne (by decide)]; exact k2
  have m12 : ((σ.set 8 (some v3)).set 18 (some v4))[12]? = some (some v) := by rw [List.getElem?_set_ne (by decide)]; exact k12
  have ex4 := g3.ex.trans g4.ex
  refine ws_ifH (T := T) (k := !true) (hb_not (hb_val (hd_call (d1 := doneD t st n) L.alike (hr.mono (by decide)) (hd_told (k := 6) (o := stepD (stepOf t st n)) TK (hr.mono (by decide)) (LamX.lamS_by (sc := defScope (topS 53)) (by decide +kernel)) rfl (fun _ _ _ _ _ => rfl) g4.sub (tb.ext (g3.trans g4).rl) fun A1 outer1 s1 H01 E1 f1 c1 hr1 => ?_) (ga_cons (g_var 18 m18 r4) ga_nil) rfl ⟨_, rfl, ?_, rfl⟩))) nofun fun _ G5 H5 g5 => ?_
  · have hR : ∀ o, o = stepD (stepOf t st n) → RDone [t.toD, strsD st, n] o := fun o e => ⟨t, st, n, rfl, g, ht, hst.lok g ht, stateOk_of g hst, hn.1, e⟩
    cases eo : stepD (stepOf t st n) with
    | ok d' => exact g_callX L.pDone hr1 (ga_cons (g_var 2 m2 (r2.mono ex4)) (ga_cons (g_var 14 m14 (rs.mono ex4)) (ga_cons (g_var 12 m12 (rv.mono ex4)) ga_nil))) rfl (hR _ eo.symm)
    | error b' =>
      refine ⟨?_, gf_call L.pDone hr1 (passE lam_takes) (ga_cons (g_var 2 m2 (r2.mono ex4)) (ga_cons (g_var 14 m14 (rs.mono ex4)) (ga_cons (g_var 12 m12 (rv.mono ex4)) ga_nil))) rfl (hR _ eo.symm)⟩
      cases es : stepOf t st n with
      | none => rw [es] at eo; cases eo; exact True.intro
      | some s => rw [es] at eo; cases eo
  · have := done_al g ht hst n
    have h12' := al_sh _ 1 this
    exact al_up this
  exact ws_nil (nx G5 H5 _ _ (ex4.trans g5.ex) g5.sub (RlOk.trans (RlOk.ex (g3.trans g4).rl) g5.rl))
end
end WR
end
section
set_option Elab.async false
set_option linter.all false
set_option maxRecDepth 100000
set_option maxHeartbeats 2000000
namespace WR
open PySem PySem.Spec PyProof.Rows L2
section
variable {Rl : Hp → Hp → Prop} [RlOk Rl] {X : Cx} {σ : L2.St} {G H : Hp} {e : Expr} {d1 d2 : PyData} {x1 x2 : Str} {i1 i2 k : Nat} {p1 p2 p4 pos : Pos} {rest : List Stmt} {D : Ends}
theorem ws_unpack2 (hc : X.calm = true) (hg : PG X (.Tuple [.Name x1 p1, .Name x2 p2] k p4) (gTup X.K 2 (gCons (gName i1) (gCons (gName i2) gNil)))) (sb : Sub G H) (he : Gd Rl X σ G e (.tuple [d1, d2]))
    (kk : ∀ v1 v2 G' H', Gr Rl G H G' H' → Rp G' v1 d1 → Rp G' v2 d2 → Ws X rest D ((σ.set i1 (some v1)).set i2 (some v2)) H')
    (hs : swapsWithSole [.Tuple [.Name x1 p1, .Name x2 p2] k p4] e pos.line X.env = pure false := by rfl) (hw : swappedStores [.Tuple [.Name x1 p1, .Name x2 p2] k p4] e X.env = pure none := by rfl)
    (h1 : (assignEach [.Tuple [.Name x1 p1, .Name x2 p2] k p4] X.env).map (·.2) = [assign (.Tuple [.Name x1 p1, .Name x2 p2] k p4) X.env] := by rfl) : Ws X (.Assign [.Tuple [.Name x1 p1, .Name x2 p2] k p4] e pos :: rest) D σ H :=
  ws_cons (ps_asg pe_w hg hs hw h1) (he G (Evl.Ex.refl G) H sb _ fun v G' H' g r => by
    obtain ⟨a, xs, rfl, ha, rs⟩ := r.tupE
    obtain ⟨u1, _, rfl, r1, rs⟩ := rs.consE
    obtain ⟨u2, _, rfl, r2, rs⟩ := rs.consE
    obtain rfl := rs.nilE
    exact ⟨a, [u1, u2], rfl, SqT.of (g.sub.1 _ _ ha), rfl, u1, [u2], rfl, u2, [], rfl, rfl, kk u1 u2 G' H' g r1 r2⟩)
end
/-- the law's slots that stay -/
structure LS (σ : L2.St) (r : Addr) (x2 x3 x4 : V) : Prop where
  len : σ.length = 23
  h1 : σ[1]? = some (some (.ref r))
  h2 : σ[2]? = some (some x2)
  h3 : σ[3]? = some (some x3)
  h4 : σ[4]? = some (some x4)
theorem LS.set {σ : L2.St} {r : Addr} {x2 x3 x4 : V} (h : LS σ r x2 x3 x4) (i : Nat) (u : Option V) (hi : 4 < i := by decide) : LS (σ.set i u) r x2 x3 x4 :=
  ⟨by rw [List.length_set]; exact h.len, by rw [List.getElem?_set_ne (by omega)]; exact h.h1, by rw [List.getElem?_set_ne (by omega)]; exact h.h2, by rw [List.getElem?_set_ne (by omega)]; exact h.h3, by rw [List.getElem?_set_ne (by omega)]; exact h.h4⟩
theorem at_set {σ : L2.St} {r : Addr} {x2 x3 x4 : V} (h : LS σ r x2 x3 x4) (i : Nat) (v : V) (hi : i < 23 := by decide) : (σ.set i (some v))[i]? = some (some v) := by rw [List.getElem?_set_self (by have := h.len; omega)]
theorem at_ne {σ : L2.St} {i j : Nat} {u : Option V} {v : V} (h : σ[j]? = some (some v)) (hij : i ≠ j := by decide) : (σ.set i u)[j]? = some (some v) := by rw [List.getElem?_set_ne hij]; exact h
theorem goD_isN (st : List Str) (q : Deed) : (goD st q).isNone = !canDo st q := by unfold goD; cases canDo st q <;> rfl
section
variable {P : Program} {w : World} {K : PySem.W.Frag} {mg : Str → Option Value} {base : Heap} {f : Addr} {c : Clss} {T : List (Addr × Str)}
/-- a row of names that leads to a state -/
structure Path (t : Task) (zs : List Str) (st : List Str) : Prop where
  walk : walkTo t (zs.map .str) = some st
  bads : badsOf t (zs.map .str) = []
  ok : ∀ z ∈ zs, SOk z
theorem Path.nil (t : Task) : Path t [] t.bg := ⟨rfl, rfl, by simp⟩
theorem Path.snoc {t : Task} {zs st : List Str} {q : Deed} (g : t.Good) (hs : t.Sm) (h : Path t zs st) (hq : q ∈ t.deeds) (hc : canDo st q = true) : Path t (zs ++ [q.name]) (behindS st q) := by
  have hd : deedOf t (.str q.name) = some q := by
    have e := filter_name (n := .str q.name) (incr_nodup g.nm)
    have hm : q ∈ t.deeds.filter (nameIs (.str q.name)) := List.mem_filter.mpr ⟨hq, decide_eq_true rfl⟩
    rw [e] at hm
    exact Option.mem_toList.mp hm
  have hstep : stepOf t st (.str q.name) = some (behindS st q) := by
    unfold stepOf
    rw [hd]
    simp only [hc, if_true]
  have hw : walkTo t ((zs ++ [q.name]).map .str) = some (behindS st q) := by
    have h1 := h.walk
    unfold walkTo at h1 ⊢
    rw [List.map_append, List.map_cons, List.map_nil, goFrom_snoc, h1]
    exact hstep
  refine ⟨hw, bads_nil fun j hj => ?_, fun z hz => ?_⟩
  · rw [List.length_map, List.length_append] at hj
    have hj : j < zs.length + 1 := hj
    rcases Nat.lt_or_ge j zs.length with hlt | hge
    · obtain ⟨s, hs2⟩ := good_walk h.bads (j := j + 1) (by rw [List.length_map]; omega)
      rw [List.map_append, List.take_append_of_le_length (by rw [List.length_map]; omega), hs2]
      rfl
    · rw [List.take_of_length_le (by rw [List.length_map, List.length_append]; show zs.length + 1 ≤ j + 1; omega), hw]
      rfl
  · rcases List.mem_append.mp hz with h1 | h1
    · exact h.ok z h1
    · rw [List.mem_singleton.mp h1]
      exact (hs.gd q hq).n
theorem Path.inn {t : Task} {zs st : List Str} (g : t.Good) (h : Path t zs st) : StIn t st := walkTo_in g h.walk
theorem state_turn (B : Bt mg) (L : LawFns P w K mg base c) {cdv : Value} {A : Around} {outer : List Env} {s : Shared} {H0 : Hp} {E : XK} (TK : ToldK (lX P w K mg base f cdv A outer s H0 E) T c) (hr : Room 9 (lX P w K mg base f cdv A outer s H0 E).A) (po : PassesOwn (model P w) (lX P w K mg base f cdv A outer s H0 E).A (lX P w K mg base f cdv A outer s H0 E).env (lX P w K mg base f cdv A outer s H0 E).xe)
    {t : Task} (D : Drawn t) {zs st : List Str} (hp : Path t zs st) {σ : L2.St} {r : Addr} {x2 x3 x4 xs xn : V} {G H : Hp} {En : Ends} (sb : Sub G H) (tb : LamX.Tabs T H) (ls : LS σ r x2 x3 x4) (h14 : σ[14]? = some (some xs)) (h15 : σ[15]? = some (some xn)) (hz : zs.length ≤ 6) (row : RowAt K G r)
    (r2 : Rp G x2 t.toD) (r3 : Rp G x3 (.tuple (t.deeds.map Deed.toD))) (rs : Rp G xs (strsD st)) (rn : Rp G xn (strsD zs))
    (nx : ∀ G' H' σ' zs' st' xs' xn', Ex G G' → Sub G' H' → XH T H H' → LS σ' r x2 x3 x4 → Path t zs' st' → zs'.length ≤ zs.length + 1 → σ'[14]? = some (some xs') → σ'[15]? = some (some xn') → Rp G' xs' (strsD st') → Rp G' xn' (strsD zs') → En.nx σ' H') :
    Ws (lX P w K mg base f cdv A outer s H0 E) (forBody (topS 53) 14) En σ H := by
  have hu := Room.units hr
  have g := D.good
  have ht := D.sm
  have few := g.few
  have hst := hp.inn g
  refine ws_setLcTm (Rl := Ex) (i := 17) t.deeds Deed.toD (canDo st) Deed.toD rfl sc53.nd rfl rfl (sw_true rfl rfl rfl (by decide +kernel)) (blkOk_by (own := [("_law_deed", 22)]) (N := n53) (sc := defScope (topS 53)) (by decide +kernel)) (fun _ _ _ _ _ => pg_name (i := 22) sc53.nd rfl (Or.inl rfl)) sb
      (g_var 3 ls.h3 r3) (by omega) (fun q vq G3 hq e3 rq => ?_) fun xc G1 H1 g1 rc => ?_
  · have hq22 : ((wipe σ [22]).set 22 (some vq))[22]? = some (some vq) := at_set (ls.set 22 none) 22 vq
    have hs14 : ((wipe σ [22]).set 22 (some vq))[14]? = some (some xs) := at_ne (at_ne (i := 22) (u := none) h14)
    exact ⟨fun _ _ _ _ _ => gi_one (gt_is (gt_cmp op_notN rd_notN (g_call L.go (hr.mono (by decide)) (ga_cons (g_var 14 hs14 (rs.mono e3)) (ga_cons (g_var 22 hq22 rq) ga_nil)) rfl ⟨st, q, rfl, Nat.le_trans (hst.few g) (by decide), ht.gd q hq, rfl⟩) g_non (nomark _)) (by rw [optD_isN, goD_isN]; cases canDo st q <;> rfl)), fun _ _ _ _ _ _ => g_var 22 hq22 rq⟩
  have rc1 : Rp G1 xc (.list ((canL t st).map Deed.toD)) := rc
  have ls1 := ls.set 17 (some xc)
  have k17 := at_set ls 17 xc
  have k14 : (σ.set 17 (some xc))[14]? = some (some xs) := at_ne h14
  have k15 : (σ.set 17 (some xc))[15]? = some (some xn) := at_ne h15
  have hcl : (canL t st).length ≤ 14 := Nat.le_trans (List.length_filter_le _ _) few
  refine ws_if (Rl := Ex) (b := false) g1.sub (gt_is (gt_not (gt_val (g_call (d := .bool true) L.alike (hr.mono (by decide)) (ga_cons (g_callX (d := strsD ((waysOf t st).map (·.name))) L.pOpen (hr.mono (by decide)) (ga_cons (g_var 2 ls1.h2 (r2.mono g1.ex)) (ga_cons (g_var 14 k14 (rs.mono g1.ex)) ga_nil)) rfl ⟨t.toD, strsD st, rfl, sm_task.2 ht, sm_strsD.2 (hst.lok g ht), .inr ⟨t, rfl, g, .inr ⟨st, rfl, stateOk_of g hst, rfl⟩⟩⟩)
      (ga_cons (gd_is (g_tuple B.tuple (g_lcLm (canL t st) Deed.toD (fun _ => true) (fun q => .str q.name) rfl sc53.nd (blkOk_by (own := [("_law_deed", 22)]) (N := n53) (sc := defScope (topS 53)) (by decide +kernel)) (fun _ _ _ _ _ => pg_name (i := 22) sc53.nd rfl (Or.inl rfl)) (g_var 17 k17 rc1) (by omega) fun q vq G3 hq e3 rq => ⟨fun _ _ _ _ _ => gi_nil, fun _ _ _ _ _ _ => g_ixT (ds := [.str q.name, strsD q.needs, strsD q.bars, strsD q.adds, strsD q.strikes, .int q.price]) (g_var 22 (at_set (ls1.set 22 none) 22 vq) rq) g_int (atI_nat (j := 0) rfl)⟩)) (by rw [filter_true]; show PyData.tuple _ = .tuple (((waysOf t st).map (·.name)).map .str); rw [List.map_map]; rfl)) ga_nil)) rfl ⟨_, rfl, ?_, rfl⟩))) rfl) nofun fun _ G2 H2 g2 => ?_
  · refine al_strsD (by rw [List.length_map]; show (canL t st).length ≤ 100; omega) fun z hz => ?_
    obtain ⟨q, hq, rfl⟩ := List.mem_map.mp hz
    exact (ht.gd q (List.mem_filter.mp hq).1).n.2
  have g02 := g1.trans g2
  have hnp : SOk "p" := ⟨by decide +kernel, by decide +kernel⟩
  refine ws_forL (Rl := Ex) (ds := (t.deeds.map fun q => .str q.name) ++ [.str "zz", .none, .int 1, .tuple [.str "p"]]) po rfl (pg_name (i := 12) sc53.nd rfl (Or.inr rfl)) g2.sub (g_catL (by simp; omega) (gd_is (g_lcTm t.deeds Deed.toD (fun _ => true) (fun q => .str q.name) rfl sc53.nd (blkOk_by (own := [("_law_deed", 22)]) (N := n53) (sc := defScope (topS 53)) (by decide +kernel)) (fun _ _ _ _ _ => pg_name (i := 22) sc53.nd rfl (Or.inl rfl)) (g_var 3 ls1.h3 (r3.mono g02.ex)) (by omega)
      fun q vq G3 hq e3 rq => ⟨fun _ _ _ _ _ => gi_nil, fun _ _ _ _ _ _ => g_ixT (ds := [.str q.name, strsD q.needs, strsD q.bars, strsD q.adds, strsD q.strikes, .int q.price]) (g_var 22 (at_set (ls1.set 22 none) 22 vq) rq) g_int (atI_nat (j := 0) rfl)⟩) (by rw [filter_true])) (g_lst (ga_cons g_str (ga_cons g_non (ga_cons g_int (ga_cons (g_tup (ga_cons g_str ga_nil) (by simp)) ga_nil)))) (by simp))) fun G3 H3 g3 => ⟨fun i G' σ' H' => Ex G3 G' ∧ Sub G' H' ∧ XH T H3 H' ∧ LS σ' r x2 x3 x4 ∧ σ'[17]? = some (some xc) ∧ σ'[14]? = some (some xs) ∧ σ'[15]? = some (some xn), ?_, ?_, ?_, ?_⟩
  · exact ⟨Evl.Ex.refl _, g3.sub, RlOk.refl _, ls1, k17, k14, k15⟩
  · rintro i G' σ' H' ⟨e, s, _⟩
    exact ⟨e, s⟩
  · rintro i n v G4 σ4 H4 hd ⟨e4, s4, xh4, ls4, m17, m14, m15⟩ rd
    have hn : nmOk n := by
      rcases List.mem_append.mp (List.mem_of_getElem? hd) with h | h
      · obtain ⟨q, hq, rfl⟩ := List.mem_map.mp h
        exact nm_str (ht.gd q hq).n
      · simp only [List.mem_cons, List.not_mem_nil, or_false] at h
        rcases h with rfl | rfl | rfl | rfl
        · exact nm_str zz_ok
        · exact nm_none
        · exact nm_int 1
        · refine ⟨sm_tuple.2 ⟨by simp, fun d hd => ?_⟩, al_tup (by simp) fun d hd => ?_⟩
          · rw [List.mem_singleton.mp hd]; exact sm_str.2 hnp
          · rw [List.mem_singleton.mp hd]; exact al_str hnp.2
    have ex4 := g3.ex.trans e4
    exact name_turn B L TK hr D hst s4 (xh4.tabs (tb.ext (g02.trans g3).rl)) (ls4.set 12 (some v)).len (ls4.set 12 (some v)).h2 (at_ne m14) (at_ne m17) (at_set ls4 12 v) (r2.mono (g02.ex.trans ex4)) (rs.mono (g02.ex.trans ex4)) (rc1.mono (g2.ex.trans ex4)) rd hn fun G' H' u1 u2 ex sub xh =>
      ⟨G', e4.trans ex, sub, RlOk.trans xh4 xh, ((ls4.set 12 (some v)).set 8 u1).set 18 u2, at_ne (at_ne (at_ne m17)), at_ne (at_ne (at_ne m14)), at_ne (at_ne (at_ne m15))⟩
  · rintro G4 σ4 H4 ⟨e4, s4, xh4, ls4, m17, m14, m15⟩
    have ex4 := g02.ex.trans (g3.ex.trans e4)
    have rc4 := rc1.mono (g2.ex.trans (g3.ex.trans e4))
    have hs3 : Sh 3 (.list ((canL t st).map Deed.toD)) := sh_deedsL fun q hq => ht.gd q (List.mem_filter.mp hq).1
    have xh04 : XH T H H4 := RlOk.trans (RlOk.ex (g02.trans g3).rl) xh4
    refine ws_if (Rl := Ex) (b := !((canL t st).map Deed.toD).isEmpty) s4 (gt_neNilD hu hs3 (by decide) (g_var 17 m17 rc4)) (fun k G5 H5 g5 => ?_) fun k G5 H5 g5 => ?_
    · have row5 : RowAt K G5 r := row.ex' (ex4.trans g5.ex)
      refine ws_setN (Rl := Ex) (i := 19) (S := (· ∈ (canL t st).map Deed.toD)) sc53.nd rfl (Or.inl rfl) g5.sub (gn_draw 1 L.pick (hr.mono (by decide)) row5 ls4.h1 (gna_ga (ga_cons (g_var 17 m17 (rc4.mono g5.ex)) ga_nil)) fun ds e => by
        subst e
        exact ⟨rfl, _, ⟨_, rfl, by cases h : (canL t st).map Deed.toD with | nil => rw [h] at k; cases k | cons _ _ => simp, by rw [List.length_map]; omega, rfl⟩, fun d h => h⟩) fun dq xq G6 H6 zq g6 rq => ?_
      obtain ⟨q, hq, rfl⟩ := List.mem_map.mp zq
      obtain ⟨hq1, hq2⟩ := List.mem_filter.mp hq
      have ls6 := ls4.set 19 (some xq)
      have e2 : optD (goD st q) = strsD (behindS st q) := by unfold goD; rw [if_pos hq2]; rfl
      have ex6 := (ex4.trans g5.ex).trans g6.ex
      have hstep := at_set ls4 19 xq
      refine ws_unpack2 (Rl := Ex) (i1 := 14) (i2 := 15) (d1 := strsD (behindS st q)) (d2 := strsD (zs ++ [q.name])) rfl (pg_tup rfl (pgs_cons (pg_name (i := 14) sc53.nd rfl (Or.inr rfl)) (pgs_cons (pg_name (i := 15) sc53.nd rfl (Or.inl rfl)) pgs_nil))) g6.sub (g_tup (ga_cons (gd_is (g_call L.go (hr.mono (by decide)) (ga_cons (g_var 14 (at_ne m14) (rs.mono ex6)) (ga_cons (g_var 19 hstep rq) ga_nil)) rfl ⟨st, q, rfl, Nat.le_trans (hst.few g) (by decide), ht.gd q hq1, rfl⟩) e2)
        (ga_cons (g_catT (l := zs) (m := [q.name]) (by simp; omega) (g_var 15 (at_ne m15) (rn.mono ex6)) (g_tup (ga_cons (g_ixT (ds := [.str q.name, strsD q.needs, strsD q.bars, strsD q.adds, strsD q.strikes, .int q.price]) (g_var 19 hstep rq) g_int (atI_nat (j := 0) rfl)) ga_nil) (by simp))) ga_nil)) (by simp)) fun v1 v2 G7 H7 g7 q1 q2 => ws_nil (ws_nil ?_)
      have ls7 := ls6.set 14 (some v1)
      exact nx G7 H7 _ _ _ v1 v2 (ex6.trans g7.ex) g7.sub (RlOk.trans xh04 (RlOk.ex ((g5.trans g6).trans g7).rl)) (ls7.set 15 (some v2)) (hp.snoc g ht hq1 hq2) (by rw [List.length_append]; exact Nat.le_refl _) (at_ne (at_set ls6 14 v1)) (at_set ls7 15 v2) q1 q2
    · exact ws_nil (nx G5 H5 _ _ _ xs xn (ex4.trans g5.ex) g5.sub (RlOk.trans xh04 (RlOk.ex g5.rl)) ls4 hp (by omega) m14 m15 (rs.mono (ex4.trans g5.ex)) (rn.mono (ex4.trans g5.ex)))
end
end WR
end
section
set_option Elab.async false
set_option linter.all false
set_option maxRecDepth 100000
set_option maxHeartbeats 1000000
namespace WR
open PySem PySem.Spec PyProof.Rows L2
/-! ### data of some size and depth, not told -/
def Vn (n : Nat) (d : PyData) : Prop := sm d = true ∧ Sh n d
def TV (n m : Nat) (d : PyData) : Prop := ∃ l, d = .tuple l ∧ l.length ≤ m ∧ ∀ x ∈ l, Vn n x
def LV (n m : Nat) (d : PyData) : Prop := ∃ l, d = .list l ∧ l.length ≤ m ∧ ∀ x ∈ l, Vn n x
theorem Vn.mono {n k : Nat} {d : PyData} (h : Vn n d) (hk : n ≤ k) : Vn k d := ⟨h.1, h.2.mono hk⟩
theorem TV.vn {n m : Nat} {d : PyData} (h : TV n m d) (hm : m ≤ 50) : Vn (n + 1) d := by
  obtain ⟨l, rfl, h1, h2⟩ := h
  exact ⟨sm_tuple.2 ⟨by omega, fun x hx => (h2 x hx).1⟩, sh_tup fun x hx => (h2 x hx).2⟩
theorem LV.vn {n m : Nat} {d : PyData} (h : LV n m d) (hm : m ≤ 50) : Vn (n + 1) d := by
  obtain ⟨l, rfl, h1, h2⟩ := h
  exact ⟨sm_list.2 ⟨by omega, fun x hx => (h2 x hx).1⟩, sh_lst fun x hx => (h2 x hx).2⟩
theorem TV.up {n m n' m' : Nat} {d : PyData} (h : TV n m d) (hn : n ≤ n') (hm : m ≤ m') : TV n' m' d := by
  obtain ⟨l, rfl, h1, h2⟩ := h
  exact ⟨l, rfl, by omega, fun x hx => (h2 x hx).mono hn⟩
theorem vn_str {n : Nat} {z : Str} (h : SOk z) : Vn n (.str z) := ⟨sm_str.2 h, sh_str h.2⟩
theorem vn_int {n : Nat} (i : Int) : Vn n (.int i) := ⟨by unfold sm; rfl, sh_int⟩
theorem vn_bl {n : Nat} (b : Bool) : Vn n (.bool b) := ⟨by unfold sm; rfl, sh_bl⟩
theorem vn_none {n : Nat} : Vn n .none := ⟨by unfold sm; rfl, sh_non⟩
theorem tv_strsD {n : Nat} {l : List Str} (h : LOk l) : TV n 50 (strsD l) := ⟨_, rfl, by rw [List.length_map]; exact h.1, fun x hx => by
  obtain ⟨z, hz, rfl⟩ := List.mem_map.mp hx
  exact vn_str (h.2 z hz)⟩
theorem tv_deed {q : Deed} (h : q.Sm) : TV 2 6 q.toD := ⟨_, rfl, by simp, fun x hx => by
  simp only [List.mem_cons, List.not_mem_nil, or_false] at hx
  rcases hx with rfl | rfl | rfl | rfl | rfl | rfl
  · exact vn_str h.n
  · exact (tv_strsD (n := 1) h.n1).vn (by decide)
  · exact (tv_strsD (n := 1) h.n2).vn (by decide)
  · exact (tv_strsD (n := 1) h.n3).vn (by decide)
  · exact (tv_strsD (n := 1) h.n4).vn (by decide)
  · exact vn_int _⟩
section
variable {X : Cx} {σ : L2.St} {G : Hp} {e a b : Expr} {n m m1 m2 : Nat} {p p2 p3 pos : Pos} {es : List Expr}
abbrev Gv (X : Cx) (σ : L2.St) (G : Hp) (e : Expr) (S : PyData → Prop) : Prop := Gn Ex X σ G e S
/-- arguments, each some data -/
def AV (n m : Nat) (ds : List PyData) : Prop := ds.length ≤ m ∧ ∀ x ∈ ds, Vn n x
theorem av_nil : Gna Ex X σ G [] (AV n 0) := gna_mono gna_nil fun ds e => by
  subst e
  exact ⟨Nat.le_refl _, by simp⟩
theorem av_cons (h : Gv X σ G e (Vn n)) (t : Gna Ex X σ G es (AV n m)) (hs : starEach (e :: es) X.env = (false, eval e X.env) :: starEach es X.env := by rfl) : Gna Ex X σ G (e :: es) (AV n (m + 1)) :=
  gna_mono (gna_cons h t hs) fun ds ⟨d, r, e, hd, hr⟩ => by
    subst e
    exact ⟨by rw [List.length_cons]; have := hr.1; omega, fun x hx => (List.mem_cons.mp hx).elim (fun z => z ▸ hd) (hr.2 x)⟩
theorem gv_tup {k : Nat} (h : Gna Ex X σ G es (AV n m)) (hm : m ≤ 1000 := by decide) : Gv X σ G (.Tuple es k pos) (TV n m) := gn_tup h fun ds hd => ⟨by have := hd.1; omega, ds, rfl, hd.1, hd.2⟩
theorem gv_lst (h : Gna Ex X σ G es (AV n m)) (hm : m ≤ 1000 := by decide) : Gv X σ G (.List es pos) (LV n m) := gn_lst h fun ds hd => ⟨by have := hd.1; omega, ds, rfl, hd.1, hd.2⟩
theorem gv_catT (ha : Gv X σ G a (TV n m1)) (hb : Gv X σ G b (TV n m2)) (hm : m1 + m2 ≤ 1000 := by decide) : Gv X σ G (.BinOp a .Add b pos) (TV n (m1 + m2)) :=
  gn_op op_catA ha hb fun d1 d2 ⟨l1, e1, h1, k1⟩ ⟨l2, e2, h2, k2⟩ => by
    subst e1 e2
    exact ⟨_, ⟨l1 ++ l2, rfl, by rw [List.length_append]; omega, fun x hx => (List.mem_append.mp hx).elim (k1 x) (k2 x)⟩, rd_catT (by omega)⟩
theorem gv_catL (ha : Gv X σ G a (LV n m1)) (hb : Gv X σ G b (LV n m2)) (hm : m1 + m2 ≤ 1000 := by decide) : Gv X σ G (.BinOp a .Add b pos) (LV n (m1 + m2)) :=
  gn_op op_cat ha hb fun d1 d2 ⟨l1, e1, h1, k1⟩ ⟨l2, e2, h2, k2⟩ => by
    subst e1 e2
    exact ⟨_, ⟨l1 ++ l2, rfl, by rw [List.length_append]; omega, fun x hx => (List.mem_append.mp hx).elim (k1 x) (k2 x)⟩, rd_catL (by omega)⟩
/-- a slice of a tuple told -/
theorem gv_cut {ds : List PyData} {lo hi : Option Expr} {l h : Option Int} (hd : TV n m (.tuple ds)) (ha : Gd Ex X σ G a (.tuple ds)) (hl : Go Ex X σ G lo l) (hh : Go Ex X σ G hi h) : Gv X σ G (.Subscript a (.Slice lo hi none p2) pos) (TV n m) :=
  gn_mono (gn_gd (g_slT ha hl hh)) fun d e => by
    subst e
    obtain ⟨l', e', h1, h2⟩ := hd
    cases e'
    refine ⟨_, rfl, ?_, fun x hx => h2 x (List.mem_of_mem_drop (List.mem_of_mem_take hx))⟩
    unfold cutD
    rw [List.length_take, List.length_drop]
    omega
theorem gv_gd {d : PyData} {S : PyData → Prop} (h : Gd Ex X σ G e d) (hS : S d) : Gv X σ G e S := gn_mono (gn_gd h) fun d' e => e ▸ hS
theorem gv_up {S S' : PyData → Prop} (h : Gv X σ G e S) (k : ∀ d, S d → S' d) : Gv X σ G e S' := gn_mono h k
theorem gv_vn (h : Gv X σ G e (TV n m)) (hm : m ≤ 50 := by decide) : Gv X σ G e (Vn (n + 1)) := gn_mono h fun d hd => hd.vn hm
theorem gv_vl (h : Gv X σ G e (LV n m)) (hm : m ≤ 50 := by decide) : Gv X σ G e (Vn (n + 1)) := gn_mono h fun d hd => hd.vn hm
theorem gv_to {k : Nat} (h : Gv X σ G e (Vn n)) (hk : n ≤ k := by decide) : Gv X σ G e (Vn k) := gn_mono h fun d hd => hd.mono hk
theorem gv_str {z : Str} {j : Nat} (h : SOk z) : Gv X σ G (.Constant (.str z) j pos) (Vn n) := gv_gd g_str (vn_str h)
theorem gv_int {i : Int} {j : Nat} : Gv X σ G (.Constant (.int i) j pos) (Vn n) := gv_gd g_int (vn_int i)
theorem gv_bl {b : Bool} {j : Nat} : Gv X σ G (.Constant (.bool b) j pos) (Vn n) := gv_gd g_bl (vn_bl b)
theorem gv_non {j : Nat} : Gv X σ G (.Constant .none j pos) (Vn n) := gv_gd g_non vn_none
end
theorem a_ok : SOk "a" := ⟨by decide +kernel, by decide +kernel⟩
theorem b_ok : SOk "b" := ⟨by decide +kernel, by decide +kernel⟩
theorem e_ok : SOk "" := ⟨by decide +kernel, by decide +kernel⟩
theorem n_ok (i : Nat) (h : i < 15) : SOk (("n" : Str) ++ (toString (10 + (i : Int)) : Str)) ∧ (10 + (i : Int)).natAbs.log2 < 1920 ∧ (toString (10 + (i : Int)) : Str).length ≤ 1000 := by
  have k : ∀ i : Fin 15, ((("n" : Str) ++ (toString (10 + ((i.val : Nat) : Int)) : Str)).length ≤ 1000 ∧ PyData.strOk (("n" : Str) ++ (toString (10 + ((i.val : Nat) : Int)) : Str)) = true) ∧ (10 + ((i.val : Nat) : Int)).natAbs.log2 < 1920 ∧ (toString (10 + ((i.val : Nat) : Int)) : Str).length ≤ 1000 := by decide +kernel
  exact k ⟨i, h⟩
end WR
end
section
set_option Elab.async false
set_option linter.all false
set_option maxRecDepth 100000
set_option maxHeartbeats 2000000
namespace WR
open PySem PySem.Spec PyProof.Rows L2
theorem strs_inj : ∀ {a b : List Str}, a.map PyData.str = b.map PyData.str → a = b
  | [], [], _ => rfl
  | [], _ :: _, h => by cases h
  | _ :: _, [], h => by cases h
  | x :: a, y :: b, h => by
    rw [List.map_cons, List.map_cons] at h
    injection h with h1 h2
    injection h1 with h1
    rw [h1, strs_inj h2]
theorem odd_state {t : Task} (D : Drawn t) : ∀ d ∈ ([.none, .list (t.bg.map .str), .tuple [.str "zz"], .tuple [.str "b", .str "a"], .str "a"] : List PyData), sm d = true ∧ stateOk t d = none := by
  have ht := D.sm
  intro d hd
  simp only [List.mem_cons, List.not_mem_nil, or_false] at hd
  have tx : ∀ z : Str, z = "zz" ∨ z = "b" ∨ z = "a" → sm (.str z) = true := fun z h => by
    rcases h with rfl | rfl | rfl
    · exact sm_str.2 zz_ok
    · exact sm_str.2 b_ok
    · exact sm_str.2 a_ok
  rcases hd with rfl | rfl | rfl | rfl | rfl
  · exact ⟨(vn_none (n := 0)).1, rfl⟩
  · exact ⟨sm_list.2 ⟨by have := ht.b.1; rw [List.length_map]; omega, fun x hx => by
      obtain ⟨z, hz, rfl⟩ := List.mem_map.mp hx
      exact sm_str.2 (ht.b.2 z hz)⟩, rfl⟩
  · refine ⟨sm_tuple.2 ⟨by simp, fun x hx => by
      rw [List.mem_singleton.mp hx]; exact tx _ (.inl rfl)⟩, ?_⟩
    cases e : stateOk t (.tuple [.str "zz"]) with
    | none => rfl
    | some l =>
      obtain ⟨h1, h2⟩ := stateOk_some e
      unfold strsD at h1
      injection h1 with h1
      have : l = [("zz" : Str)] := (strs_inj (a := ([("zz" : Str)])) h1).symm
      subst this
      have := D.abc "zz" (h2.sub "zz" (by simp))
      exact absurd this (by decide +kernel)
  · refine ⟨sm_tuple.2 ⟨by simp, fun x hx => by
      simp only [List.mem_cons, List.not_mem_nil, or_false] at hx
      rcases hx with rfl | rfl
      · exact tx _ (.inr (.inl rfl))
      · exact tx _ (.inr (.inr rfl))⟩, ?_⟩
    cases e : stateOk t (.tuple [.str "b", .str "a"]) with
    | none => rfl
    | some l =>
      obtain ⟨h1, h2⟩ := stateOk_some e
      unfold strsD at h1
      injection h1 with h1
      have : l = [("b" : Str), ("a" : Str)] := (strs_inj (a := ([("b" : Str), ("a" : Str)])) h1).symm
      subst this
      have := h2.inc
      exact absurd this (by decide +kernel)
  · exact ⟨tx _ (.inr (.inr rfl)), rfl⟩
theorem badS_al : al 1 (badD .state) = true := badT_al (z := "state") (by decide +kernel)
theorem ws_retH {T : List (Addr × Str)} {X : Cx} {σ : L2.St} {G H : Hp} {e : Expr} {d : PyData} {pos : Pos} {rest : List Stmt} {D : Ends} (h : Hd T X σ G H e d) (k : ∀ v G' H', Gr (XH T) G H G' H' → Rp G' v d → D.rt v H') : Ws X (.Return (some e) pos :: rest) D σ H :=
  ws_cons (ps_ret pe_w) (h _ k)
section
variable {P : Program} {w : World} {K : PySem.W.Frag} {mg : Str → Option Value} {base : Heap} {f : Addr} {c : Clss} {T : List (Addr × Str)}
/-- the law's last row -/
theorem law_last (B : Bt mg) (L : LawFns P w K mg base c) {cdv : Value} {A : Around} {outer : List Env} {s : Shared} {H0 : Hp} {E : XK} (TK : ToldK (lX P w K mg base f cdv A outer s H0 E) T c) (hr : Room 9 (lX P w K mg base f cdv A outer s H0 E).A)
    {t : Task} (D : Drawn t) {σ : L2.St} {r : Addr} {x2 x3 x4 : V} {G H : Hp} {En : Ends} (sb : Sub G H) (tb : LamX.Tabs T H) (ls : LS σ r x2 x3 x4)
    (r2 : Rp G x2 t.toD) (r4 : Rp G x4 (strsD t.bg)) (q : ∀ H', XH T H H' → En.rt (.bl true) H') :
    Ws (lX P w K mg base f cdv A outer s H0 E) ((defBody (topS 53)).drop 16) En σ H := by
  have hu := Room.units hr
  have ht := D.sm
  have g := D.good
  refine ws_retH (T := T) (hd_eq hu (d1 := .list []) (d2 := .list []) rfl rfl (hd_lcF (T := T) (G := G) (ds := [.none, .list (t.bg.map .str), .tuple [.str "zz"], .tuple [.str "b", .str "a"], .str "a"]) rfl sc53.nd (blkOk_by (own := [("_law_value", 12)]) (N := n53) (sc := defScope (topS 53)) (by decide +kernel)) (fun _ _ _ _ _ => pg_name (i := 12) sc53.nd rfl (Or.inr rfl))
    (g_lst (ga_cons g_non (ga_cons (g_list B.list (g_var 4 ls.h4 r4)) (ga_cons (g_tup (ga_cons g_str ga_nil) (by simp)) (ga_cons (g_tup (ga_cons g_str (ga_cons g_str ga_nil)) (by simp)) (ga_cons g_str ga_nil))))) (by simp)) sb tb fun d v G1 H1 hd e1 s1 t1 rv s8 H8 C8 cl8 fp8 => ?_) (g_lst ga_nil (by simp))) fun v G' H' g' r' => ?_
  · obtain ⟨hs, ho⟩ := odd_state D d hd
    have k12 : ((wipe σ [12]).set 12 (some v))[12]? = some (some v) := at_set (ls.set 12 none) 12 v
    have k2 : ((wipe σ [12]).set 12 (some v))[2]? = some (some x2) := at_ne (at_ne (i := 12) (u := none) ls.h2)
    refine hb_is (hb_ne hu (d1 := badD .state) (d2 := badD .state) ((al_sh _ 1 badS_al).shaped (by decide)) ((al_sh _ 1 badS_al).shaped (by decide)) (hd_told (k := 6) (o := .error .state) (TK.blk _ _ _ _ _ _) (hr.mono (by decide)) (LamX.lamS_by (sc := relS _ (defScope (topS 53))) (by decide +kernel)) rfl (fun _ _ _ _ _ => rfl) s1 t1 fun A1 outer1 s1 H01 E1 f1 c1 hr1 => ?_)
      (g_tup (ga_cons g_str (ga_cons g_str ga_nil)) (by simp))) (by rw [eqv_refl _ 1 badS_al]; rfl)
    exact ⟨trivial, gf_call L.pOpen hr1 (passE lam_takes) (ga_cons (g_var 2 k2 (r2.mono e1)) (ga_cons (g_var 12 k12 rv) ga_nil)) rfl ⟨t.toD, d, rfl, sm_task.2 ht, hs, .inr ⟨t, rfl, g, .inl ⟨ho, rfl⟩⟩⟩⟩
  · have hv := r'.blE
    rw [hv]
    exact q H' g'.rl
end
end WR
end
section
set_option Elab.async false
set_option linter.all false
set_option maxRecDepth 100000
set_option maxHeartbeats 2000000
namespace WR
open PySem PySem.Spec PyProof.Rows L2
section
variable {P : Program} {w : World} {K : PySem.W.Frag} {mg : Str → Option Value} {base : Heap} {f : Addr} {c : Clss} {T : List (Addr × Str)}
/-- the def that looks at a row of names -/
structure RowsFn (P : Program) (w : World) (K : PySem.W.Frag) (mg : Str → Option Value) (base : Heap) (T : List (Addr × Str)) : Prop where
  ex : ∃ f fd ps, FnOk P w K mg base CX0 9 f fd ps (RowsSp K T) ∧ mg "_law_rows_right" = some (.ref f) ∧ PySem.W.keepIn K (.ref f) = true ∧ Binds K fd ps []
theorem hd_rows {X : Cx} (R : RowsFn X.prog X.w X.K X.mg X.base T) (hr : Room 9 X.A) {σ : L2.St} {r : Addr} {x2 xn : V} {G H : Hp} {y1 y2 y3 : Str} {p p1 p2 p3 pos : Pos} (i1 i2 i3 : Nat) {t : Task} {zs : List Str} (sb : Sub G H) (tb : LamX.Tabs T H)
    (h1 : σ[i1]? = some (some (.ref r))) (h2 : σ[i2]? = some (some x2)) (h3 : σ[i3]? = some (some xn)) (row : RowAt X.K G r) (r2 : Rp G x2 t.toD) (rn : Rp G xn (strsD zs)) (D : Drawn t) (hb : badsOf t (zs.map .str) = []) (hz : zs.length ≤ 6) (hs : ∀ z ∈ zs, SOk z)
    (n1 : X.N[i1]? = some y1 := by rfl) (n2 : X.N[i2]? = some y2 := by rfl) (n3 : X.N[i3]? = some y3 := by rfl)
    (v1 : Vis X.env.scope y1 := by first | exact Or.inl rfl | exact Or.inr (Or.inl rfl) | exact Or.inr (Or.inr rfl)) (v2 : Vis X.env.scope y2 := by first | exact Or.inl rfl | exact Or.inr (Or.inl rfl) | exact Or.inr (Or.inr rfl)) (v3 : Vis X.env.scope y3 := by first | exact Or.inl rfl | exact Or.inr (Or.inl rfl) | exact Or.inr (Or.inr rfl))
    (d1 : (y1 == ("__debug__" : Str)) = false := by decide) (d2 : (y2 == ("__debug__" : Str)) = false := by decide) (d3 : (y3 == ("__debug__" : Str)) = false := by decide)
    (c1 : (y1 == ("__classdict__" : Str)) = false := by decide) (c2 : (y2 == ("__classdict__" : Str)) = false := by decide) (c3 : (y3 == ("__classdict__" : Str)) = false := by decide) (hg : Gl X "_law_rows_right" := by rfl) :
    Hd T X σ G H (.Call (.Name "_law_rows_right" p) [.Name y1 p1, .Name y2 p2, .Name y3 p3] [] pos) (.bool true) := by
  obtain ⟨f, fd, ps, F, hm, hk, hbn⟩ := R.ex
  intro Q q pins sh I
  refine (pe_call (p := p) (pos := pos) F hr hg hm hk hbn .nil pass0 (pa_cons (pe_var (pos := p1) n1 v1 d1 c1) (pa_cons (pe_var (pos := p2) n2 v2 d2 c2) (pa_cons (pe_var (pos := p3) n3 v3 d3 c3) pa_nil rfl) rfl) rfl) (by decide) rfl rfl).run pins sh σ H Q I ⟨_, h1, _, h2, _, h3, ?_⟩
  exact ⟨r, x2, xn, G, t, zs, rfl, row, sb, r2, rn, D, hb, hz, hs, tb, fun H' xh => q _ G H' (.of_rl sb xh) (.bl true)⟩
theorem al_facts {t : Task} (g : t.Good) (hs : t.Sm) : al 2 (strsD t.facts) = true := by
  have h := stIn_bg g
  refine al_strsD (by have := g.ff; omega) fun z hz => ?_
  exact ((facts_ok hs) z hz).2
/-- the law's rows from the facts on -/
theorem law_tail (B : Bt mg) (L : LawFns P w K mg base c) (R : RowsFn P w K mg base T) {cdv : Value} {A : Around} {outer : List Env} {s : Shared} {H0 : Hp} {E : XK} (TK : ToldK (lX P w K mg base f cdv A outer s H0 E) T c) (hr : Room 9 (lX P w K mg base f cdv A outer s H0 E).A) (po : PassesOwn (model P w) (lX P w K mg base f cdv A outer s H0 E).A (lX P w K mg base f cdv A outer s H0 E).env (lX P w K mg base f cdv A outer s H0 E).xe)
    {t : Task} (D : Drawn t) {σ : L2.St} {r : Addr} {x2 x3 x4 : V} {G H : Hp} {En : Ends} (sb : Sub G H) (tb : LamX.Tabs T H) (ls : LS σ r x2 x3 x4) (row : RowAt K G r)
    (r2 : Rp G x2 t.toD) (r3 : Rp G x3 (.tuple (t.deeds.map Deed.toD))) (r4 : Rp G x4 (strsD t.bg)) (q : ∀ H', XH T H H' → En.rt (.bl true) H') :
    Ws (lX P w K mg base f cdv A outer s H0 E) ((defBody (topS 53)).drop 12) En σ H := by
  have hu := Room.units hr
  have ht := D.sm
  have g := D.good
  have few := g.few
  refine ws_if (Rl := Ex) (b := false) sb (gt_is (gt_not (gt_val (g_call (d := .bool true) L.alike (hr.mono (by decide)) (ga_cons (g_callX (d := strsD t.facts) L.pFacts (hr.mono (by decide)) (ga_cons (g_var 2 ls.h2 r2) ga_nil) rfl ⟨t.toD, rfl, sm_task.2 ht, .inr ⟨t, rfl, g, rfl⟩⟩)
      (ga_cons (gd_is (g_tuple B.tuple (g_call (d := .list (t.facts.map .str)) L.facts (hr.mono (by decide)) (ga_cons (g_var 2 ls.h2 r2) ga_nil) rfl ⟨t, rfl, ht, by omega, rfl⟩)) rfl) ga_nil)) rfl ⟨strsD t.facts, rfl, al_facts g ht, rfl⟩))) rfl) nofun fun _ G1 H1 g1 => ?_
  refine ws_unpack2 (Rl := Ex) (i1 := 14) (i2 := 15) (d1 := strsD t.bg) (d2 := strsD []) rfl (pg_tup rfl (pgs_cons (pg_name (i := 14) sc53.nd rfl (Or.inr rfl)) (pgs_cons (pg_name (i := 15) sc53.nd rfl (Or.inl rfl)) pgs_nil))) g1.sub (g_tup (ga_cons (g_var 4 ls.h4 (r4.mono g1.ex)) (ga_cons (g_tup ga_nil (by simp)) ga_nil)) (by simp)) fun v1 v2 G2 H2 g2 q1 q2 => ?_
  have g02 := g1.trans g2
  have ls2 := (ls.set 14 (some v1)).set 15 (some v2)
  refine ws_forR (Rl := Ex) (n := 6) po rfl (pg_name (i := 16) sc53.nd rfl (Or.inl rfl)) B.range g2.sub g_int (by decide) fun G3 H3 g3 => ⟨fun i G' σ' H' => Ex G3 G' ∧ Sub G' H' ∧ XH T H3 H' ∧ LS σ' r x2 x3 x4 ∧ ∃ zs st xs xn, Path t zs st ∧ zs.length ≤ i ∧ σ'[14]? = some (some xs) ∧ σ'[15]? = some (some xn) ∧ Rp G' xs (strsD st) ∧ Rp G' xn (strsD zs), ?_, ?_, ?_, ?_⟩
  · exact ⟨Evl.Ex.refl _, g3.sub, RlOk.refl _, ls2, [], t.bg, v1, v2, Path.nil t, Nat.le_refl _, at_ne (at_set ls 14 v1), at_set (ls.set 14 (some v1)) 15 v2, q1.mono g3.ex, q2.mono g3.ex⟩
  · rintro i G' σ' H' ⟨e, s, _⟩
    exact ⟨e, s⟩
  · rintro i d v G4 σ4 H4 hd ⟨e4, s4, xh4, ls4, zs, st, xs, xn, hp, hl, m14, m15, rs, rn⟩ rd
    have hi : i < 6 := by
      have := (List.getElem?_eq_some_iff.mp hd).1
      rw [List.length_map, List.length_range] at this
      exact this
    have ex4 := g02.ex.trans (g3.ex.trans e4)
    exact state_turn B L TK hr po D hp s4 (xh4.tabs (tb.ext (g02.trans g3).rl)) (ls4.set 16 (some v)) (at_ne m14) (at_ne m15) (by omega) (row.ex' ex4) (r2.mono ex4) (r3.mono ex4) rs rn fun G' H' σ' zs' st' xs' xn' ex sub xh ls' hp' hl' k14 k15 rs' rn' =>
      ⟨G', e4.trans ex, sub, RlOk.trans xh4 xh, ls', zs', st', xs', xn', hp', by omega, k14, k15, rs', rn'⟩
  · rintro G4 σ4 H4 ⟨e4, s4, xh4, ls4, zs, st, xs, xn, hp, hl, m14, m15, rs, rn⟩
    have hl : zs.length ≤ 6 := hl
    have ex4 := g02.ex.trans (g3.ex.trans e4)
    have tb4 : LamX.Tabs T H4 := xh4.tabs (tb.ext (g02.trans g3).rl)
    refine ws_ifH (T := T) (k := false) (hb_is (hb_not (hb_val (hd_rows R hr 1 2 15 s4 tb4 ls4.h1 ls4.h2 m15 (row.ex' ex4) (r2.mono ex4) rn D hp.bads hl hp.ok))) rfl) nofun fun _ G5 H5 g5 => ?_
    exact law_last B L TK hr D g5.sub (g5.rl.tabs tb4) ls4 (r2.mono (ex4.trans g5.ex)) (r4.mono (ex4.trans g5.ex)) fun H' xh => q H' (RlOk.trans (RlOk.ex (g02.trans g3).rl) (RlOk.trans xh4 (RlOk.trans g5.rl xh)))
end
end WR
end
section
set_option Elab.async false
set_option linter.all false
set_option maxRecDepth 100000
set_option maxHeartbeats 4000000
namespace WR
open PySem PySem.Spec PyProof.Rows L2
section
variable {Rl : Hp → Hp → Prop} [RlOk Rl] {X : Cx} {σ : L2.St} {G H : Hp} {e a b : Expr} {n m m1 m2 : Nat} {p p2 pos : Pos} {es : List Expr} {rest : List Stmt} {D : Ends} {T : List (Addr × Str)}
theorem ws_close {r a : Addr} {i x y : Int} (e : H r = some (.lst [.ref a, .int i, .int x, .int y])) (hb : 0 ≤ i ∧ 0 ≤ x ∧ x < 2147483647) (h : Ws X rest D σ (upd H r (RowO r a))) : Ws X rest D σ H := fun pins s I => h pins s (row_close I e hb)
/-- x = [script, 0, 20000, 0]: a row -/
theorem ws_mkrow {i0 i1 : Nat} {y x : Str} {a : Addr} {p1 p2 p3 p4 p5 : Pos} {k2 k3 k4 : Nat} (hN : X.N.Nodup) (h0 : σ[i0]? = some (some (.ref a))) (n0 : X.N[i0]? = some y) (v0 : Vis X.env.scope y) (hi : X.N[i1]? = some x) (hx : Loc X.env.scope x)
    (k : ∀ r, H r = none → Ws X rest D (σ.set i1 (some (.ref r))) (upd H r (RowO r a))) (d0 : (y == ("__debug__" : Str)) = false := by decide) (c0 : (y == ("__classdict__" : Str)) = false := by decide)
    (hs : swapsWith (.List [.Name y p1, .Constant (.int 0) k2 p2, .Constant (.int 20000) k3 p3, .Constant (.int 0) k4 p4] pos) (some (.Name x p5)) p.line X.env = pure false := by rfl)
    (hf : X.fn x = true ∨ X.env.scope.names.lookup x = some .local := by first | exact .inl rfl | exact .inr rfl | assumption) :
    Ws X (.Assign [.Name x p5] (.List [.Name y p1, .Constant (.int 0) k2 p2, .Constant (.int 20000) k3 p3, .Constant (.int 0) k4 p4] pos) p :: rest) D σ H :=
  ws_cons (ps_set hN hi hx (pe_lst (pos := pos) (pa_cons (pe_var (pos := p1) n0 v0 d0 c0) (pa_cons (pe_int (pos := p2)) (pa_cons (pe_int (pos := p3)) (pa_cons (pe_int (pos := p4)) pa_nil rfl) rfl) rfl) rfl)) hs hf) ⟨_, h0, by rw [sizeLine_eq]; exact (by decide : 4 ≤ 16777216), fun r hr => ws_close (a := a) (i := 0) (x := 20000) (y := 0) upd_same (by decide) (by rw [upd_upd]; exact k r hr)⟩
/-- a list with something in it -/
def LVn (n m : Nat) (d : PyData) : Prop := ∃ l, d = .list l ∧ l ≠ [] ∧ l.length ≤ m ∧ ∀ x ∈ l, Vn n x
theorem gv_lstn (h : Gv X σ G e (Vn n)) (t : Gna Ex X σ G es (AV n m)) (hm : m + 1 ≤ 1000 := by decide) (hs : starEach (e :: es) X.env = (false, eval e X.env) :: starEach es X.env := by rfl) : Gv X σ G (.List (e :: es) pos) (LVn n (m + 1)) :=
  gn_lst (gna_cons h t hs) fun ds ⟨d, r, e, hd, hr⟩ => by
    subst e
    refine ⟨by rw [List.length_cons]; have := hr.1; omega, _, rfl, by simp, by rw [List.length_cons]; have := hr.1; omega, fun x hx => (List.mem_cons.mp hx).elim (fun z => z ▸ hd) (hr.2 x)⟩
theorem gv_catLn (ha : Gv X σ G a (LV n m1)) (hb : Gv X σ G b (LVn n m2)) (hm : m1 + m2 ≤ 1000 := by decide) : Gv X σ G (.BinOp a .Add b pos) (LVn n (m1 + m2)) :=
  gn_op op_cat ha hb fun d1 d2 ⟨l1, e1, h1, k1⟩ ⟨l2, e2, h0, h2, k2⟩ => by
    subst e1 e2
    exact ⟨_, ⟨l1 ++ l2, rfl, by simp [h0], by rw [List.length_append]; omega, fun x hx => (List.mem_append.mp hx).elim (k1 x) (k2 x)⟩, rd_catL (by omega)⟩
theorem lv_of {l : List PyData} (h : TV n m (.tuple l)) : LV n m (.list l) := by
  obtain ⟨l', e, h1, h2⟩ := h
  cases e
  exact ⟨l, rfl, h1, h2⟩
end
theorem tv_deeds {l : List Deed} (h : ∀ q ∈ l, q.Sm) {m : Nat} (hm : l.length ≤ m) : TV 3 m (.tuple (l.map Deed.toD)) := ⟨_, rfl, by rw [List.length_map]; exact hm, fun x hx => by
  obtain ⟨q, hq, rfl⟩ := List.mem_map.mp hx
  exact (tv_deed (h q hq)).vn (by decide)⟩
theorem vn_list {n : Nat} {l : List Str} (h : LOk l) : Vn (n + 1) (.list (l.map .str)) := LV.vn (m := 50) (lv_of (tv_strsD h)) (by decide)
theorem vn_strsD {n : Nat} {l : List Str} (h : LOk l) : Vn (n + 1) (strsD l) := (tv_strsD h).vn (by decide)
theorem drawn_tv {t : Task} (D : Drawn t) : TV 4 3 t.toD := ⟨_, rfl, by simp, fun x hx => by
  simp only [List.mem_cons, List.not_mem_nil, or_false] at hx
  rcases hx with rfl | rfl | rfl
  · exact (tv_deeds D.sm.gd (m := 7) D.few).vn (by decide)
  · exact (vn_strsD (n := 0) D.sm.b).mono (by decide)
  · exact (vn_strsD (n := 0) D.sm.w).mono (by decide)⟩
section
variable {P : Program} {w : World} {K : PySem.W.Frag} {mg : Str → Option Value} {base : Heap} {f : Addr} {c : Clss} {T : List (Addr × Str)}
/-- the law's rows from the bent tasks on -/
theorem law_mid (B : Bt mg) (L : LawFns P w K mg base c) (R : RowsFn P w K mg base T) {cdv : Value} {A : Around} {outer : List Env} {s : Shared} {H0 : Hp} {E : XK} (TK : ToldK (lX P w K mg base f cdv A outer s H0 E) T c) (hr : Room 9 (lX P w K mg base f cdv A outer s H0 E).A)
    {t : Task} (D : Drawn t) {σ : L2.St} {r : Addr} {x2 x3 x4 x5 x6 x7 x9 : V} {k : Nat} {q1 : Deed} {oth : PyData} {G H : Hp} {En : Ends} (sb : Sub G H) (tb : LamX.Tabs T H) (ls : LS σ r x2 x3 x4) (row : RowAt K G r)
    (h5 : σ[5]? = some (some x5)) (h6 : σ[6]? = some (some x6)) (h7 : σ[7]? = some (some x7)) (h9 : σ[9]? = some (some x9))
    (r2 : Rp G x2 t.toD) (r3 : Rp G x3 (.tuple (t.deeds.map Deed.toD))) (r4 : Rp G x4 (strsD t.bg)) (r5 : Rp G x5 (strsD t.wish)) (r6 : Rp G x6 (.int (k : Int))) (r7 : Rp G x7 q1.toD) (r9 : Rp G x9 oth) (hq : q1 ∈ t.deeds) (ho : Vn 3 oth) (q : ∀ H', XH T H H' → En.rt (.bl true) H') :
    Ws (lX P w K mg base f cdv A outer s H0 E) ((defBody (topS 53)).drop 7) En σ H := by
  have hu := Room.units hr
  have ht := D.sm
  have g := D.good
  have few := D.few
  have hd3 : TV 3 7 (.tuple (t.deeds.map Deed.toD)) := tv_deeds ht.gd few
  have vB : Vn 4 (strsD t.bg) := (vn_strsD (n := 0) ht.b).mono (by decide)
  have vW : Vn 4 (strsD t.wish) := (vn_strsD (n := 0) ht.w).mono (by decide)
  have vq : Vn 3 q1.toD := (tv_deed (ht.gd q1 hq)).vn (by decide)
  refine ws_setN (Rl := Ex) (i := 10) (S := LV 5 5) sc53.nd rfl (Or.inl rfl) sb (gv_lst (av_cons (gv_gd (g_var 2 ls.h2 r2) ((drawn_tv D).vn (by decide))) (av_cons (gv_gd (g_list B.list (g_var 2 ls.h2 r2)) (LV.vn (m := 3) (lv_of (drawn_tv D)) (by decide))) (av_cons (gv_vn (gv_cut (l := none) (h := some 2) (drawn_tv D) (g_var 2 ls.h2 r2) trivial g_int))
      (av_cons (gv_vn (gv_tup (av_cons (gv_gd (g_list B.list (g_var 3 ls.h3 r3)) (LV.vn (m := 7) (lv_of hd3) (by decide))) (av_cons (gv_gd (g_var 4 ls.h4 r4) vB) (av_cons (gv_gd (g_var 5 h5 r5) vW) av_nil)))))
      (av_cons (gv_vn (gv_tup (av_cons (gv_vn (gv_catT (gv_catT (gv_cut (l := none) (h := some (k : Int)) hd3 (g_var 3 ls.h3 r3) trivial (g_var 6 h6 r6)) (gv_tup (av_cons (gv_gd (g_var 9 h9 r9) ho) av_nil))) (gv_cut (l := some ((k : Int) + 1)) (h := none) hd3 (g_var 3 ls.h3 r3) (g_op op_add rd_int (g_var 6 h6 r6) g_int) trivial))) (av_cons (gv_gd (g_var 4 ls.h4 r4) vB) (av_cons (gv_gd (g_var 5 h5 r5) vW) av_nil))))) av_nil)))))) fun d10 x10 G1 H1 z10 g1 r10 => ?_
  have ls1 := ls.set 10 (some x10)
  have k10 := at_set ls 10 x10
  have r31 := r3.mono g1.ex
  have r41 := r4.mono g1.ex
  have r51 := r5.mono g1.ex
  have r71 := r7.mono g1.ex
  have j5 : (σ.set 10 (some x10))[5]? = some (some x5) := at_ne h5
  have j7 : (σ.set 10 (some x10))[7]? = some (some x7) := at_ne h7
  refine ws_setN (Rl := Ex) (i := 10) (S := LV 5 11) sc53.nd rfl (Or.inl rfl) g1.sub (gv_catL (m1 := 5) (m2 := 6) (gv_gd (g_var 10 k10 r10) z10) (gv_lst
      (av_cons (gv_vn (gv_tup (av_cons (gv_vn (gv_catT (gv_gd (g_var 3 ls1.h3 r31) hd3) (gv_tup (av_cons (gv_gd (g_var 7 j7 r71) vq) av_nil)))) (av_cons (gv_gd (g_var 4 ls1.h4 r41) vB) (av_cons (gv_gd (g_var 5 j5 r51) vW) av_nil)))))
      (av_cons (gv_vn (gv_tup (av_cons (gv_gd (g_revT (g_var 3 ls1.h3 r31)) (TV.vn (m := 7) ⟨_, rfl, by rw [List.length_reverse, List.length_map]; exact few, fun x hx => by
          obtain ⟨l', e, _, h2⟩ := hd3
          cases e
          exact h2 x (List.mem_reverse.mp hx)⟩ (by decide))) (av_cons (gv_gd (g_var 4 ls1.h4 r41) vB) (av_cons (gv_gd (g_var 5 j5 r51) vW) av_nil)))))
      (av_cons gv_non (av_cons gv_int
      (av_cons (gv_vn (gv_tup (av_cons (gv_gd (g_var 3 ls1.h3 r31) (hd3.vn (by decide))) (av_cons (gv_gd (g_list B.list (g_var 4 ls1.h4 r41)) ((vn_list (n := 0) ht.b).mono (by decide))) (av_cons (gv_gd (g_var 5 j5 r51) vW) av_nil)))))
      (av_cons (gv_vn (gv_tup (av_cons (gv_gd (g_var 3 ls1.h3 r31) (hd3.vn (by decide))) (av_cons (gv_to (gv_vn (gv_tup (n := 1) (av_cons (gv_str b_ok) (av_cons (gv_str a_ok) av_nil))))) (av_cons (gv_gd (g_var 5 j5 r51) vW) av_nil))))) av_nil)))))))) fun d11 x11 G2 H2 z11 g2 r11 => ?_
  have g02 := g1.trans g2
  have ls2 := ls1.set 10 (some x11)
  have k10 := at_set ls1 10 x11
  have r32 := r3.mono g02.ex
  have r42 := r4.mono g02.ex
  have r52 := r5.mono g02.ex
  have l5 : ((σ.set 10 (some x10)).set 10 (some x11))[5]? = some (some x5) := at_ne j5
  have hal0 : ∀ z ∈ chars "abcdefghijk", z.length ≤ 1000 ∧ PyData.strOk z = true := by decide +kernel
  have hal : ∀ z ∈ chars "abcdefghijk", SOk z := fun z hz => ⟨(hal0 z hz).1, (hal0 z hz).2⟩
  have hab : (chars "abcdefghijk").length ≤ 11 := by decide +kernel
  refine ws_setN (Rl := Ex) (i := 10) (S := LV 5 16) sc53.nd rfl (Or.inl rfl) g2.sub (gv_catL (m1 := 14) (m2 := 2) (gv_catL (m1 := 11) (m2 := 3) (gv_gd (g_var 10 k10 r11) z11)
      (gv_gd (g_lcLm [.tuple [.str "a", .str "a"], .none, .tuple [.int 1]] id (fun _ => true) (fun x => .tuple [.tuple (t.deeds.map Deed.toD), strsD t.bg, x]) rfl sc53.nd (blkOk_by (own := [("_law_value", 12)]) (N := n53) (sc := defScope (topS 53)) (by decide +kernel)) (fun _ _ _ _ _ => pg_name (i := 12) sc53.nd rfl (Or.inl rfl)) (g_lst (ga_cons (g_tup (ga_cons g_str (ga_cons g_str ga_nil)) (by simp)) (ga_cons g_non (ga_cons (g_tup (ga_cons g_int ga_nil) (by simp)) ga_nil))) (by simp)) (by decide)
        fun x vx G3 hx e3 rx => ⟨fun _ _ _ _ _ => gi_nil, fun _ _ _ _ _ _ => g_tup (ga_cons (g_var 3 (at_ne (at_ne (i := 12) (u := none) ls2.h3)) (r32.mono e3)) (ga_cons (g_var 4 (at_ne (at_ne (i := 12) (u := none) ls2.h4)) (r42.mono e3)) (ga_cons (g_var 12 (at_set (ls2.set 12 none) 12 vx) rx) ga_nil))) (by simp)⟩) ⟨_, rfl, by rw [List.length_map]; exact List.length_filter_le _ _, fun x hx => by
          obtain ⟨y, hy, rfl⟩ := List.mem_map.mp hx
          have hy := (List.mem_filter.mp hy).1
          refine TV.vn (m := 3) ⟨_, rfl, by simp, fun z hz => ?_⟩ (by decide)
          simp only [List.mem_cons, List.not_mem_nil, or_false] at hz
          rcases hz with rfl | rfl | rfl
          · exact hd3.vn (by decide)
          · exact vB
          · simp only [List.mem_cons, List.not_mem_nil, or_false] at hy
            rcases hy with rfl | rfl | rfl
            · exact TV.vn (n := 3) (m := 2) ⟨_, rfl, by simp, fun x hx => by
                simp only [List.mem_cons, List.not_mem_nil, or_false] at hx
                rcases hx with rfl | rfl <;> exact vn_str a_ok⟩ (by decide)
            · exact vn_none
            · exact TV.vn (n := 3) (m := 1) ⟨_, rfl, by simp, fun x hx => by
                rw [List.mem_singleton.mp hx]; exact vn_int _⟩ (by decide)⟩))
      (gv_lst (av_cons (gv_vn (gv_tup (av_cons (gv_gd (g_var 3 ls2.h3 r32) (hd3.vn (by decide))) (av_cons (gv_gd (g_tuple B.tuple (g_listS rfl B.list (by decide +kernel) g_str)) (TV.vn (n := 3) (m := 11) ⟨_, rfl, by rw [List.length_map]; exact hab, fun x hx => by
          obtain ⟨z, hz, rfl⟩ := List.mem_map.mp hx
          exact vn_str (hal z hz)⟩ (by decide))) (av_cons (gv_gd (g_var 5 l5 r52) vW) av_nil)))))
      (av_cons (gv_vn (gv_tup (av_cons (gv_gd (g_var 3 ls2.h3 r32) (hd3.vn (by decide))) (av_cons (gv_to (gv_vn (gv_tup (n := 1) (av_cons (gv_str e_ok) (av_cons (gv_str a_ok) av_nil))))) (av_cons (gv_gd (g_var 5 l5 r52) vW) av_nil))))) av_nil)))) fun d12 x12 G3 H3 z12 g3 r12 => ?_
  have g03 := g02.trans g3
  have ls3 := ls2.set 10 (some x12)
  have k10 := at_set ls2 10 x12
  have l5 : (((σ.set 10 (some x10)).set 10 (some x11)).set 10 (some x12))[5]? = some (some x5) := at_ne l5
  refine ws_set (Rl := Ex) (i := 11) (d := .tuple ((List.range 15).map fun i : Nat => .tuple [.str (("n" : Str) ++ (toString (10 + (i : Int)) : Str)), .tuple [], .tuple [], .tuple [], .tuple [], .int 1])) sc53.nd rfl (Or.inl rfl) g3.sub (gd_is (g_tuple B.tuple (g_lcR (z := 15) (fun _ => true) (fun i : Nat => .tuple [.str (("n" : Str) ++ (toString (10 + (i : Int)) : Str)), .tuple [], .tuple [], .tuple [], .tuple [], .int 1]) rfl sc53.nd (blkOk_by (own := [("_law_j", 20)]) (N := n53) (sc := defScope (topS 53)) (by decide +kernel)) (fun _ _ _ _ _ => pg_name (i := 20) sc53.nd rfl (Or.inl rfl)) B.range
      g_int (by decide) fun i G5 hi e5 => ⟨fun _ _ _ _ _ => gi_nil, fun _ _ _ _ _ _ => by
        have hn := n_ok i hi
        exact g_tup (ga_cons (g_catS (by have := hn.2.2; have h1 : ("n" : Str).length = 1 := by decide +kernel
                                         omega) g_str (g_strI B.str hn.2.1 (g_op op_add rd_int g_int (g_var 20 (at_set (ls3.set 20 none) 20 _) (.int _))))) (ga_cons (g_tup ga_nil (by simp)) (ga_cons (g_tup ga_nil (by simp)) (ga_cons (g_tup ga_nil (by simp)) (ga_cons (g_tup ga_nil (by simp)) (ga_cons g_int ga_nil)))))) (by simp)⟩)) (by rw [filter_true]; rfl)) fun x13 G4 H4 g4 r13 => ?_
  have g04 := g03.trans g4
  have ls4 := ls3.set 11 (some x13)
  have k11 := at_set ls3 11 x13
  have k10 : ((((σ.set 10 (some x10)).set 10 (some x11)).set 10 (some x12)).set 11 (some x13))[10]? = some (some x12) := at_ne k10
  have l5 : ((((σ.set 10 (some x10)).set 10 (some x11)).set 10 (some x12)).set 11 (some x13))[5]? = some (some x5) := at_ne l5
  have vE : Vn 3 (.tuple []) := TV.vn (n := 2) (m := 0) ⟨_, rfl, by simp, by simp⟩ (by decide)
  have hm : TV 4 15 (.tuple ((List.range 15).map fun i : Nat => .tuple [.str (("n" : Str) ++ (toString (10 + (i : Int)) : Str)), .tuple [], .tuple [], .tuple [], .tuple [], .int 1])) := ⟨_, rfl, by simp, fun x hx => by
    obtain ⟨i, hi, rfl⟩ := List.mem_map.mp hx
    refine TV.vn (m := 6) ⟨_, rfl, by simp, fun z hz => ?_⟩ (by decide)
    simp only [List.mem_cons, List.not_mem_nil, or_false] at hz
    rcases hz with rfl | rfl | rfl | rfl | rfl | rfl
    · exact vn_str (n_ok i (List.mem_range.mp hi)).1
    · exact vE
    · exact vE
    · exact vE
    · exact vE
    · exact vn_int _⟩
  have vW5 : Vn 5 (strsD t.wish) := vW.mono (by decide)
  have vB5 : Vn 5 (strsD t.bg) := vB.mono (by decide)
  refine ws_forLN (S := LV 6 19) .never rfl (pg_name (i := 12) sc53.nd rfl (Or.inr rfl)) g4.sub (gv_catL (m1 := 16) (m2 := 3) (gv_gd (g_var 10 k10 (r12.mono g4.ex)) (by
        obtain ⟨l, e, h1, h2⟩ := z12
        exact ⟨l, e, h1, fun x hx => (h2 x hx).mono (by decide)⟩)) (gv_lst (av_cons (gv_vn (gv_tup (av_cons (gv_gd (g_var 11 k11 r13) (hm.vn (by decide))) (av_cons (gv_gd (g_var 4 ls4.h4 (r4.mono g04.ex)) vB5) (av_cons (gv_gd (g_var 5 l5 (r5.mono g04.ex)) vW5) av_nil)))))
      (av_cons (gv_vn (gv_tup (av_cons (gv_vn (gv_cut (l := none) (h := some 14) hm (g_var 11 k11 r13) trivial g_int)) (av_cons (gv_gd (g_var 4 ls4.h4 (r4.mono g04.ex)) vB5) (av_cons (gv_gd (g_var 5 l5 (r5.mono g04.ex)) vW5) av_nil)))))
      (av_cons (gv_to (gv_vn (gv_tup (n := 4) (av_cons (gv_vn (gv_tup (n := 3) av_nil)) (av_cons (gv_vn (gv_tup (n := 3) av_nil)) (av_cons (gv_vn (gv_tup (n := 3) av_nil)) av_nil)))))) av_nil))))) (fun d ⟨l, e, _⟩ => ⟨l, e⟩) fun ds G5 H5 z5 g5 => ⟨fun i G' σ' H' => Ex G5 G' ∧ Sub G' H' ∧ XH T H5 H' ∧ LS σ' r x2 x3 x4, ?_, ?_, ?_, ?_⟩
  · exact ⟨Evl.Ex.refl _, g5.sub, RlOk.refl _, ls4⟩
  · rintro i G' σ' H' ⟨e, s, _⟩
    exact ⟨e, s⟩
  · rintro i d v G6 σ6 H6 hd ⟨e6, s6, xh6, ls6⟩ rd
    obtain ⟨l, e, hl, hv⟩ := z5
    cases e
    have vd := hv d (List.mem_of_getElem? hd)
    exact bent_turn B L TK hr s6 (xh6.tabs (tb.ext (g04.trans g5).rl)) (at_set ls6 12 v) (ls6.set 12 (some v)).len rd vd.1 (vd.2.mono (by decide)) fun G' H' u ex sub xh => ⟨G', e6.trans ex, sub, RlOk.trans xh6 xh, (ls6.set 12 (some v)).set 13 u⟩
  · rintro G6 σ6 H6 ⟨e6, s6, xh6, ls6⟩
    have ex6 := g04.ex.trans (g5.ex.trans e6)
    exact law_tail B L R TK hr .never D s6 (xh6.tabs (tb.ext (g04.trans g5).rl)) ls6 (row.ex' ex6) (r2.mono ex6) (r3.mono ex6) (r4.mono ex6) fun H' xh => q H' (RlOk.trans (RlOk.ex (g04.trans g5).rl) (RlOk.trans xh6 xh))
end
end WR
end
section
set_option Elab.async false
set_option linter.all false
set_option maxRecDepth 100000
set_option maxHeartbeats 4000000
namespace WR
open PySem PySem.Spec PyProof.Rows L2
/-- H without its tables -/
noncomputable def noTbl (H : Hp) : Hp := fun b => match H b with
  | some (.tbl _) => none
  | o => o
theorem noTbl_some {H : Hp} {b : Addr} {o : HO} (h : noTbl H b = some o) : H b = some o ∧ ∀ ps, o ≠ .tbl ps := by
  unfold noTbl at h
  split at h
  · cases h
  · rename_i z
    exact ⟨h, fun ps e => z ps (by rw [h, e])⟩
theorem noTbl_of {H : Hp} {b : Addr} {o : HO} (h : H b = some o) (n : ∀ ps, o ≠ .tbl ps) : noTbl H b = some o := by
  unfold noTbl
  split
  · rename_i z
    rw [h] at z
    exact absurd (Option.some.inj z) (n _)
  · exact h
theorem noTbl_sub (H : Hp) : Sub (noTbl H) H := ⟨fun b o e => (noTbl_some e).1, fun b ps e => (noTbl_some e).2 ps rfl⟩
theorem row_start {K : PySem.W.Frag} {H : Hp} {a r : Addr} {ns : List Int} (hS : SqL K H a (ns.map V.int)) (hl : ns.length ≤ 63) (hr : H r = none) : RowAt K (upd (noTbl H) r (RowO r a)) r := by
  refine ⟨a, ns, upd_same, ?_, hl⟩
  have ne : ∀ {b : Addr} {o : HO}, H b = some o → b ≠ r := fun e z => by rw [z, hr] at e; cases e
  rcases hS with (h | ⟨o, h⟩) | h
  · exact .inl (.inl (by rw [upd_ne (ne h)]; exact noTbl_of h fun ps z => by cases z))
  · exact .inl (.inr ⟨o, by rw [upd_ne (ne h)]; exact noTbl_of h fun ps z => by cases z⟩)
  · exact .inr h
section
variable {P : Program} {w : World} {K : PySem.W.Frag} {mg : Str → Option Value} {base : Heap} {f : Addr} {fd : FuncData} {c : Clss} {T : List (Addr × Str)}
def LawSp (K : PySem.W.Frag) (T : List (Addr × Str)) : Sp := fun vs H Q _ => ∃ (a : Addr) (ns : List Int), vs = [.ref a] ∧ ns.length ≤ 63 ∧ SqL K H a (ns.map V.int) ∧ LamX.Tabs T H ∧ ∀ H', Q (.bl true) H'
theorem ok_law (B : Bt mg) (L : LawFns P w K mg base c) (R : RowsFn P w K mg base T) (F : Fun K "law" "law" (topS 53) f fd)
    (TK : ∀ (cdv : Value) (A : Around) (outer : List Env) (s : Shared) (H0 : Hp) (E : XK), cdv = fd.code → ToldK (lX P w K mg base f cdv A outer s H0 E) T c) : FnOk P w K mg base CX0 10 f fd ["_law_script"] (LawSp K T) := by
  obtain ⟨oc, od, kV, doc, pm, an, cdv0, ct, osl, efd, lk, hcd⟩ := F.ex
  have hcode : fd.code = cdv0 := by rw [efd]
  subst efd
  refine fn_of lk hcd sc53 (fun vs H Q E h => by obtain ⟨a, ns, rfl, _⟩ := h; rfl) fun A outer s H vs Q E hr h => ⟨_, PSs.nox pss_w, ?_⟩
  obtain ⟨a, ns, rfl, hl, hS, tb, q⟩ := h
  have TK0 := TK cdv0 A outer s H E rfl
  have hr : Room 9 (lX P w K mg base f cdv0 A outer s H E).A := hr
  show Ws (lX P w K mg base f cdv0 A outer s H E) (defBody (topS 53)) _ _ _
  have hu := Room.units hr
  refine ws_mkrow (i0 := 0) (i1 := 1) (a := a) sc53.nd rfl rfl (Or.inl rfl) rfl (Or.inl rfl) fun r hr0 => ?_
  have g0 : Gr Ex (noTbl H) H (upd (noTbl H) r (RowO r a)) (upd H r (RowO r a)) := .laid (noTbl_sub H) hr0 rowO_tbl
  have row := row_start hS hl hr0
  have tb0 : LamX.Tabs T (upd H r (RowO r a)) := tb.ext g0.rl
  generalize upd (noTbl H) r (RowO r a) = G0 at g0 row
  generalize upd H r (RowO r a) = H1 at g0 tb0
  have sb0 := g0.sub
  clear g0 hS
  refine ws_setN (Rl := Ex) (i := 2) (S := fun d => ∃ t : Task, d = t.toD ∧ Drawn t) sc53.nd rfl (Or.inr rfl) sb0 (gn_draw 1 L.task (hr.mono (by decide)) row rfl gna_nil fun ds e => by
    subst e
    exact ⟨rfl, _, ⟨rfl, rfl⟩, fun d h => h⟩) fun d x2 G1 H2 z2 g1 r2 => ?_
  obtain ⟨t, rfl, D⟩ := z2
  have ht := D.sm
  have g := D.good
  have few := D.few
  have hne : t.deeds.length ≠ 0 := fun e => D.ne (List.length_eq_zero_iff.mp e)
  refine ws_unpack3 (Rl := Ex) (i1 := 3) (i2 := 4) (i3 := 5) rfl (pg_tup rfl (pgs_cons (pg_name (i := 3) sc53.nd rfl (Or.inr rfl)) (pgs_cons (pg_name (i := 4) sc53.nd rfl (Or.inr rfl)) (pgs_cons (pg_name (i := 5) sc53.nd rfl (Or.inl rfl)) pgs_nil)))) g1.sub (g_var 2 rfl r2) fun x3 x4 x5 G2 H3 g2 r3 r4 r5 => ?_
  have row2 := row.ex' (g1.ex.trans g2.ex)
  refine ws_setN (Rl := Ex) (i := 6) (S := fun d => ∃ k : Nat, d = .int (k : Int) ∧ k < t.deeds.length) sc53.nd rfl (Or.inl rfl) g2.sub (gn_draw 1 L.taken (hr.mono (by decide)) row2 rfl (gna_ga (ga_cons (g_lenT B.len (g_var 3 rfl r3)) ga_nil)) fun ds e => by
    subst e
    exact ⟨rfl, _, ⟨_, rfl, by rw [List.length_map]; omega, by rw [List.length_map]; omega, rfl⟩, fun d ⟨k, e, k0, k1⟩ => ⟨k.toNat, by rw [e]; congr 1; omega, by rw [List.length_map] at k1; omega⟩⟩) fun d x6 G3 H4 z6 g3 r6 => ?_
  obtain ⟨k, rfl, hk⟩ := z6
  have hq1 : t.deeds[k] ∈ t.deeds := List.getElem_mem hk
  have hat : atI (t.deeds.map Deed.toD) (k : Int) = some (t.deeds[k]).toD := atI_nat (by rw [List.getElem?_map, List.getElem?_eq_getElem hk]; rfl)
  generalize t.deeds[k] = q1 at hq1 hat
  refine ws_set (Rl := Ex) (i := 7) (d := q1.toD) sc53.nd rfl (Or.inl rfl) g3.sub (g_ixT (g_var 3 rfl (r3.mono g3.ex)) (g_var 6 rfl r6) hat (hs := fun _ _ => rfl)) fun x7 G4 H5 g4 r7 => ?_
  have vq : TV 2 6 q1.toD := tv_deed (ht.gd q1 hq1)
  refine ws_setN (Rl := Ex) (i := 8) (S := LV 3 5) sc53.nd rfl (Or.inl rfl) g4.sub (gv_lst (av_cons (gv_vn (gv_catT (gv_cut (l := none) (h := some 5) vq (g_var 7 rfl r7) trivial g_int) (gv_tup (av_cons gv_int av_nil))))
      (av_cons (gv_vn (gv_catT (gv_cut (l := none) (h := some 5) vq (g_var 7 rfl r7) trivial g_int) (gv_tup (av_cons gv_int av_nil))))
      (av_cons (gv_vn (gv_catT (gv_cut (l := none) (h := some 5) vq (g_var 7 rfl r7) trivial g_int) (gv_tup (av_cons gv_bl av_nil))))
      (av_cons (gv_vn (gv_catT (gv_catT (gv_cut (l := none) (h := some 1) vq (g_var 7 rfl r7) trivial g_int) (gv_tup (av_cons (gv_vn (gv_tup (n := 1) (av_cons (gv_str b_ok) (av_cons (gv_str a_ok) av_nil)))) av_nil))) (gv_cut (l := some 2) (h := none) vq (g_var 7 rfl r7) g_int trivial)))
      (av_cons (gv_vn (gv_catT (gv_catT (gv_cut (l := none) (h := some 1) vq (g_var 7 rfl r7) trivial g_int) (gv_tup (av_cons (gv_vn (gv_tup (n := 1) (av_cons (gv_str a_ok) av_nil))) (av_cons (gv_vn (gv_tup (n := 1) (av_cons (gv_str a_ok) av_nil))) av_nil)))) (gv_cut (l := some 3) (h := none) vq (g_var 7 rfl r7) g_int trivial))) av_nil)))))) fun d8 x8 G5 H6 z8 g5 r8 => ?_
  have g25 := (g3.trans g4).trans g5
  have r75 := r7.mono g5.ex
  refine ws_setN (Rl := Ex) (i := 9) (S := Vn 3) sc53.nd rfl (Or.inl rfl) g5.sub (gn_draw (S := Vn 3) 1 L.pick (hr.mono (by decide)) (row2.ex' g25.ex) rfl (gna_cons (gv_catLn (m1 := 5) (m2 := 6) (gv_gd (g_var 8 rfl r8) z8) (gv_lstn
      (gv_vn (gv_catT (gv_cut (l := none) (h := some 3) vq (g_var 7 rfl r75) trivial g_int) (gv_tup (av_cons (gv_vn (gv_tup (n := 1) (av_cons (gv_str a_ok) av_nil))) (av_cons (gv_vn (gv_tup (n := 1) (av_cons (gv_str a_ok) av_nil))) (av_cons gv_int av_nil))))))
      (av_cons (gv_vn (gv_catT (gv_tup (av_cons (gv_str e_ok) av_nil)) (gv_cut (l := some 1) (h := none) vq (g_var 7 rfl r75) g_int trivial)))
      (av_cons (gv_vn (gv_catT (gv_tup (av_cons (gv_gd g_mul41 (vn_str x41_ok)) av_nil)) (gv_cut (l := some 1) (h := none) vq (g_var 7 rfl r75) g_int trivial)))
      (av_cons (gv_vn (gv_cut (l := none) (h := some 5) vq (g_var 7 rfl r75) trivial g_int))
      (av_cons (gv_gd (g_list B.list (g_var 7 rfl r75)) (LV.vn (m := 6) (lv_of vq) (by decide))) (av_cons gv_non av_nil))))))) gna_nil) fun ds ⟨d, rr, e, hd, hrr⟩ => by
        subst hrr
        subst e
        obtain ⟨l, rfl, h0, h1, h2⟩ := hd
        exact ⟨rfl, _, ⟨l, rfl, h0, by omega, rfl⟩, fun d h => h2 d h⟩) fun oth x9 G6 H7 ho g6 r9 => ?_
  have e16 := ((g2.trans g25).trans g6).ex
  have e26 := (g25.trans g6).ex
  refine law_mid B L R TK0 hr D (r := r) (k := k) (q1 := q1) g6.sub (tb0.ext (((g1.trans g2).trans g25).trans g6).rl) ⟨rfl, rfl, rfl, rfl, rfl⟩ (row2.ex' e26) rfl rfl rfl rfl (r2.mono e16) (r3.mono e26) (r4.mono e26) (r5.mono e26) (r6.mono ((g4.trans g5).trans g6).ex) (r7.mono (g5.trans g6).ex) r9 hq1 ho fun H' _ => q H'
end
end WR
end
section
set_option Elab.async false
set_option linter.all false
set_option maxRecDepth 100000
set_option maxHeartbeats 4000000
namespace WR
open PySem PySem.Spec PyProof.Rows L2
section
variable {P : Program} {w : World} {K : PySem.W.Frag} {mg : Str → Option Value} {base : Heap} {c : Clss} {x : Str} {i k n : Nat} {ps : List Str}
/-- a def of the top, by its name -/
def Df (K : PySem.W.Frag) (mg : Str → Option Value) (x : Str) (i : Nat) : Prop := ∃ f fd, Fun K x x (topS i) f fd ∧ mg x = some (.ref f)
abbrev Bnd (x : Str) (i : Nat) (ps : List Str) : Prop := ∀ (kV doc pm : Value) (an : Option Addr) (cdv ct : Value) (us : List Value), us.length = ps.length → bindArgs (PySem.W.fnOf x x (defArgs (topS i)) (defBody (topS i)) (defScope (topS i)) .none kV doc pm an cdv ct) ⟨us, []⟩ = pure (ps.zip us)
theorem pu_mk {R : List PyData → PyData → Prop} (d : Df K mg x i) (ps : List Str) (hb : Bnd x i ps) (h : ∀ f fd, Fun K x x (topS i) f fd → FnOk P w K mg base CX0 k f fd ps (PuSp n R)) : Pu P w K mg base x k n R := by
  obtain ⟨f, fd, F, m⟩ := d
  exact ⟨f, fd, ps, h f fd F, m, F.kp, F.binds hb⟩
theorem ra_mk {R : List PyData → Out → Prop} (d : Df K mg x i) (ps : List Str) (hb : Bnd x i ps) (h : ∀ f fd, Fun K x x (topS i) f fd → FnOk P w K mg base (L2.CX P w) k f fd ps (RaSp c n R)) : Ra P w K mg base c x k n R := by
  obtain ⟨f, fd, F, m⟩ := d
  exact ⟨f, fd, ps, h f fd F, m, F.kp, F.binds hb⟩
theorem dr_mk {R : List PyData → (PyData → Prop) → Prop} (d : Df K mg x i) (ps : List Str) (hb : Bnd x i ps) (h : ∀ f fd, Fun K x x (topS i) f fd → FnOk P w K mg base CX0 k f fd ps (DrSp K n R)) : Dr P w K mg base x k n R := by
  obtain ⟨f, fd, F, m⟩ := d
  exact ⟨f, fd, ps, h f fd F, m, F.kp, F.binds hb⟩
theorem al_mk (B : Bt mg) (d : Df K mg "_law_alike" 35) (hb : Bnd "_law_alike" 35 ["_law_found", "_law_due"]) : Pu P w K mg base "_law_alike" 3 2 (RAl 2) := by
  obtain ⟨f, fd, F, m⟩ := d
  exact ⟨f, fd, _, ok_alike (m1 := m) (m2 := F.kp) (m3 := F.binds hb) B F 2, m, F.kp, F.binds hb⟩
theorem b_pnum : Bnd "is_number" 9 ["value", "low", "high"] := fun _ _ _ _ _ _ us hl => match us, hl with | [_, _, _], _ => rfl
theorem b_pname : Bnd "is_name" 10 ["value"] := fun _ _ _ _ _ _ us hl => match us, hl with | [_], _ => rfl
theorem b_paf : Bnd "are_facts" 11 ["value"] := fun _ _ _ _ _ _ us hl => match us, hl with | [_], _ => rfl
theorem b_pdeed : Bnd "is_deed" 12 ["value"] := fun _ _ _ _ _ _ us hl => match us, hl with | [_], _ => rfl
theorem b_pfin : Bnd "facts_in" 13 ["task"] := fun _ _ _ _ _ _ us hl => match us, hl with | [_], _ => rfl
theorem b_pww : Bnd "wrong_word" 14 ["value"] := fun _ _ _ _ _ _ us hl => match us, hl with | [_], _ => rfl
theorem b_pit : Bnd "is_task" 15 ["value"] := fun _ _ _ _ _ _ us hl => match us, hl with | [_], _ => rfl
theorem b_phas : Bnd "has" 19 ["state", "some"] := fun _ _ _ _ _ _ us hl => match us, hl with | [_, _], _ => rfl
theorem b_pcan : Bnd "can_do" 20 ["state", "deed"] := fun _ _ _ _ _ _ us hl => match us, hl with | [_, _], _ => rfl
theorem b_pbeh : Bnd "behind" 21 ["state", "deed"] := fun _ _ _ _ _ _ us hl => match us, hl with | [_, _], _ => rfl
theorem b_pways : Bnd "ways" 22 ["task", "state"] := fun _ _ _ _ _ _ us hl => match us, hl with | [_, _], _ => rfl
theorem b_pdof : Bnd "deed_of" 24 ["task", "name"] := fun _ _ _ _ _ _ us hl => match us, hl with | [_, _], _ => rfl
theorem b_ppof : Bnd "price_of" 28 ["task", "names"] := fun _ _ _ _ _ _ us hl => match us, hl with | [_, _], _ => rfl
theorem b_rneed : Bnd "need_task" 16 ["value"] := fun _ _ _ _ _ _ us hl => match us, hl with | [_], _ => rfl
theorem b_rfacts : Bnd "facts" 17 ["task"] := fun _ _ _ _ _ _ us hl => match us, hl with | [_], _ => rfl
theorem b_rns : Bnd "need_state" 18 ["task", "state"] := fun _ _ _ _ _ _ us hl => match us, hl with | [_, _], _ => rfl
theorem b_ropen : Bnd "open_deeds" 23 ["task", "state"] := fun _ _ _ _ _ _ us hl => match us, hl with | [_, _], _ => rfl
theorem b_rdone : Bnd "done" 25 ["task", "state", "name"] := fun _ _ _ _ _ _ us hl => match us, hl with | [_, _, _], _ => rfl
theorem b_rrunof : Bnd "run_of" 26 ["task", "names"] := fun _ _ _ _ _ _ us hl => match us, hl with | [_, _], _ => rfl
theorem b_rrun : Bnd "run" 27 ["task", "names"] := fun _ _ _ _ _ _ us hl => match us, hl with | [_, _], _ => rfl
theorem b_rprice : Bnd "price" 29 ["task", "names"] := fun _ _ _ _ _ _ us hl => match us, hl with | [_, _], _ => rfl
theorem b_ppo : Bnd "is_plan_of" 30 ["task", "value"] := fun _ _ _ _ _ _ us hl => match us, hl with | [_, _], _ => rfl
theorem b_rplan : Bnd "is_plan" 31 ["task", "value"] := fun _ _ _ _ _ _ us hl => match us, hl with | [_, _], _ => rfl
theorem b_dtaken : Bnd "_law_taken" 33 ["_law_row", "_law_many"] := fun _ _ _ _ _ _ us hl => match us, hl with | [_, _], _ => rfl
theorem b_dpick : Bnd "_law_pick" 34 ["_law_row", "_law_things"] := fun _ _ _ _ _ _ us hl => match us, hl with | [_, _], _ => rfl
theorem b_dsome : Bnd "_law_some" 36 ["_law_row", "_law_every", "_law_most"] := fun _ _ _ _ _ _ us hl => match us, hl with | [_, _, _], _ => rfl
theorem b_dtask : Bnd "_law_task" 37 ["_law_row"] := fun _ _ _ _ _ _ us hl => match us, hl with | [_], _ => rfl
theorem b_plf : Bnd "_law_facts" 38 ["_law_task_here"] := fun _ _ _ _ _ _ us hl => match us, hl with | [_], _ => rfl
theorem b_plh : Bnd "_law_holds" 39 ["_law_state", "_law_some_here"] := fun _ _ _ _ _ _ us hl => match us, hl with | [_, _], _ => rfl
theorem b_plg : Bnd "_law_go" 40 ["_law_state", "_law_deed"] := fun _ _ _ _ _ _ us hl => match us, hl with | [_, _], _ => rfl
theorem b_plw : Bnd "_law_walk" 46 ["_law_task_here", "_law_state", "_law_names"] := fun _ _ _ _ _ _ us hl => match us, hl with | [_, _, _], _ => rfl
theorem b_plp : Bnd "_law_is_part" 48 ["_law_value"] := fun _ _ _ _ _ _ us hl => match us, hl with | [_], _ => rfl
theorem b_pld : Bnd "_law_is_deed" 49 ["_law_value"] := fun _ _ _ _ _ _ us hl => match us, hl with | [_], _ => rfl
theorem b_plx : Bnd "_law_wrong" 50 ["_law_value"] := fun _ _ _ _ _ _ us hl => match us, hl with | [_], _ => rfl
theorem b_alike : Bnd "_law_alike" 35 ["_law_found", "_law_due"] := fun _ _ _ _ _ _ us hl => match us, hl with | [_, _], _ => rfl
/-- all defs of the top that the law calls -/
structure Dfs (K : PySem.W.Frag) (mg : Str → Option Value) : Prop where
  pnum : Df K mg "is_number" 9
  pname : Df K mg "is_name" 10
  paf : Df K mg "are_facts" 11
  pdeed : Df K mg "is_deed" 12
  pfin : Df K mg "facts_in" 13
  pww : Df K mg "wrong_word" 14
  pit : Df K mg "is_task" 15
  phas : Df K mg "has" 19
  pcan : Df K mg "can_do" 20
  pbeh : Df K mg "behind" 21
  pways : Df K mg "ways" 22
  pdof : Df K mg "deed_of" 24
  ppof : Df K mg "price_of" 28
  rneed : Df K mg "need_task" 16
  rfacts : Df K mg "facts" 17
  rns : Df K mg "need_state" 18
  ropen : Df K mg "open_deeds" 23
  rdone : Df K mg "done" 25
  rrunof : Df K mg "run_of" 26
  rrun : Df K mg "run" 27
  rprice : Df K mg "price" 29
  ppo : Df K mg "is_plan_of" 30
  rplan : Df K mg "is_plan" 31
  dtaken : Df K mg "_law_taken" 33
  dpick : Df K mg "_law_pick" 34
  dsome : Df K mg "_law_some" 36
  dtask : Df K mg "_law_task" 37
  plf : Df K mg "_law_facts" 38
  plh : Df K mg "_law_holds" 39
  plg : Df K mg "_law_go" 40
  plw : Df K mg "_law_walk" 46
  plp : Df K mg "_law_is_part" 48
  pld : Df K mg "_law_is_deed" 49
  plx : Df K mg "_law_wrong" 50
  alike : Df K mg "_law_alike" 35
  m9 : ∃ t, mg "MOST_PRICE" = some (.int 9 t)
  m10 : ∃ t, mg "MOST_FACTS" = some (.int 10 t)
  m14 : ∃ t, mg "MOST_DEEDS" = some (.int 14 t)
theorem law_fns (B : Bt mg) (C : ClsOk P w K mg base c) (S : Dfs K mg) : LawFns P w K mg base c := by
  have m9 := S.m9
  have m10 := S.m10
  have m14 := S.m14
  have pnum : Pu P w K mg base "is_number" 1 3 RNum := pu_mk S.pnum _ b_pnum fun f fd F => ok_is_number B F
  have pname : Pu P w K mg base "is_name" 1 1 RName := pu_mk S.pname _ b_pname fun f fd F => ok_is_name B F
  have paf : Pu P w K mg base "are_facts" 2 1 RFacts := pu_mk S.paf _ b_paf fun f fd F => ok_are_facts B pname F
  have pdeed : Pu P w K mg base "is_deed" 3 1 RDeed := pu_mk S.pdeed _ b_pdeed fun f fd F => ok_is_deed B m9 pname paf pnum F
  have pfin : Pu P w K mg base "facts_in" 1 1 RFin := pu_mk S.pfin _ b_pfin fun f fd F => ok_facts_in B F
  have pww : Pu P w K mg base "wrong_word" 4 1 RWrong := pu_mk S.pww _ b_pww fun f fd F => ok_wrong_word B m10 m14 paf pdeed pfin F
  have pit : Pu P w K mg base "is_task" 5 1 RIsTask := pu_mk S.pit _ b_pit fun f fd F => ok_is_task pww F
  have phas : Pu P w K mg base "has" 1 2 RHas := pu_mk S.phas _ b_phas fun f fd F => ok_has  F
  have pcan : Pu P w K mg base "can_do" 2 2 RCan := pu_mk S.pcan _ b_pcan fun f fd F => ok_can_do phas F
  have pbeh : Pu P w K mg base "behind" 1 2 RBeh := pu_mk S.pbeh _ b_pbeh fun f fd F => ok_behind B F
  have pways : Pu P w K mg base "ways" 3 2 RWays := pu_mk S.pways _ b_pways fun f fd F => ok_ways pcan pbeh F
  have pdof : Pu P w K mg base "deed_of" 1 2 RDeedOf := pu_mk S.pdof _ b_pdof fun f fd F => ok_deed_of B F
  have ppof : Pu P w K mg base "price_of" 2 2 RPriceOf := pu_mk S.ppof _ b_ppof fun f fd F => ok_price_of B pdof F
  have rneed : Ra P w K mg base c "need_task" 5 1 RNeed := ra_mk S.rneed _ b_rneed fun f fd F => ok_need_task C pww F
  have rfacts : Ra P w K mg base c "facts" 6 1 RFactsT := ra_mk S.rfacts _ b_rfacts fun f fd F => ok_facts B rneed pfin F
  have rns : Ra P w K mg base c "need_state" 3 2 RNeedS := ra_mk S.rns _ b_rns fun f fd F => ok_need_state B C pfin paf F
  have ropen : Ra P w K mg base c "open_deeds" 6 2 ROpen := ra_mk S.ropen _ b_ropen fun f fd F => ok_open B rneed rns pways F
  have rdone : Ra P w K mg base c "done" 6 3 RDone := ra_mk S.rdone _ b_rdone fun f fd F => ok_done C rneed rns pdof pcan pbeh F
  have rrunof : Ra P w K mg base c "run_of" 3 2 RRunOf := ra_mk S.rrunof _ b_rrunof fun f fd F => ok_run_of B C pdof pcan pbeh F
  have rrun : Ra P w K mg base c "run" 6 2 RRun := ra_mk S.rrun _ b_rrun fun f fd F => ok_run B rneed rrunof F
  have rprice : Ra P w K mg base c "price" 6 2 RPrice := ra_mk S.rprice _ b_rprice fun f fd F => ok_price B rneed rrunof ppof F
  have ppo : Pu P w K mg base "is_plan_of" 4 2 RPlanOf := pu_mk S.ppo _ b_ppo fun f fd F => ok_is_plan_of C rrunof phas F
  have rplan : Ra P w K mg base c "is_plan" 6 2 RPlan := ra_mk S.rplan _ b_rplan fun f fd F => ok_is_plan rneed ppo F
  have dtaken : Dr P w K mg base "_law_taken" 1 1 RTak := dr_mk S.dtaken _ b_dtaken fun f fd F => dr_taken (ok_taken B F)
  have dpick : Dr P w K mg base "_law_pick" 2 1 RPick := dr_mk S.dpick _ b_dpick fun f fd F => ok_pick B dtaken F
  have dsome : Dr P w K mg base "_law_some" 3 2 RSome := dr_mk S.dsome _ b_dsome fun f fd F => ok_some B dtaken dpick F
  have dtask : Dr P w K mg base "_law_task" 4 0 RTaskD := dr_mk S.dtask _ b_dtask fun f fd F => ok_task B dtaken dpick dsome F
  have plf : Pu P w K mg base "_law_facts" 1 1 RLFacts := pu_mk S.plf _ b_plf fun f fd F => ok_lfacts B F
  have plh : Pu P w K mg base "_law_holds" 1 2 RHas := pu_mk S.plh _ b_plh fun f fd F => ok_holds  F
  have plg : Pu P w K mg base "_law_go" 2 2 RGo := pu_mk S.plg _ b_plg fun f fd F => ok_go B plh F
  have plw : Pu P w K mg base "_law_walk" 3 3 RWalk := pu_mk S.plw _ b_plw fun f fd F => ok_walk plg F
  have plp : Pu P w K mg base "_law_is_part" 1 1 RPart := pu_mk S.plp _ b_plp fun f fd F => ok_is_part B F
  have pld : Pu P w K mg base "_law_is_deed" 2 1 RDeedL := pu_mk S.pld _ b_pld fun f fd F => ok_lis_deed B plp F
  have plx : Pu P w K mg base "_law_wrong" 3 1 RWrongL := pu_mk S.plx _ b_plx fun f fd F => ok_lwrong B plp pld plf F
  exact ⟨dtaken, dpick, dtask, al_mk B S.alike b_alike, plf, plh, plg, plw, plx, pit, rfacts, ropen, rdone, rrun, rprice, rplan⟩
end
end WR
end
section
set_option Elab.async false
set_option linter.all false
set_option maxRecDepth 100000
set_option maxHeartbeats 0
/-! the head: what is read of the heap behind the top -/
namespace WR
open PySem PySem.Spec PyProof.Rows L2
def dOf (x : Str) (i : Nat) : He.DefD := ⟨(x, none), x, x, defArgs (topS i), defBody (topS i), defScope (topS i), [], []⟩
def fnL : List (Str × Nat) := [(("is_number" : Str), 9), (("is_name" : Str), 10), (("are_facts" : Str), 11), (("is_deed" : Str), 12), (("facts_in" : Str), 13), (("wrong_word" : Str), 14), (("is_task" : Str), 15), (("need_task" : Str), 16), (("facts" : Str), 17), (("need_state" : Str), 18), (("has" : Str), 19), (("can_do" : Str), 20), (("behind" : Str), 21), (("ways" : Str), 22), (("open_deeds" : Str), 23), (("deed_of" : Str), 24), (("done" : Str), 25), (("run_of" : Str), 26), (("run" : Str), 27), (("price_of" : Str), 28), (("price" : Str), 29), (("is_plan_of" : Str), 30), (("is_plan" : Str), 31), (("_law_taken" : Str), 33), (("_law_pick" : Str), 34), (("_law_alike" : Str), 35), (("_law_some" : Str), 36), (("_law_task" : Str), 37), (("_law_facts" : Str), 38), (("_law_holds" : Str), 39), (("_law_go" : Str), 40), (("_law_walk" : Str), 46), (("_law_is_part" : Str), 48), (("_law_is_deed" : Str), 49), (("_law_wrong" : Str), 50), (("_law_told" : Str), 51), (("_law_rows_right" : Str), 52), (("law" : Str), 53)]
def fnR : List He.DefD := fnL.map fun p => dOf p.1 p.2
def faR : List He.Fa := [.glo "is_number", .glo "is_name", .glo "are_facts", .glo "is_deed", .glo "facts_in", .glo "wrong_word", .glo "is_task", .glo "need_task", .glo "facts", .glo "need_state", .glo "has", .glo "can_do", .glo "behind", .glo "ways", .glo "open_deeds", .glo "deed_of", .glo "done", .glo "run_of", .glo "run", .glo "price_of", .glo "price", .glo "is_plan_of", .glo "is_plan", .glo "_law_taken", .glo "_law_pick", .glo "_law_alike", .glo "_law_some", .glo "_law_task", .glo "_law_facts", .glo "_law_holds", .glo "_law_go", .glo "_law_walk", .glo "_law_is_part", .glo "_law_is_deed", .glo "_law_wrong", .glo "_law_told", .glo "_law_rows_right", .glo "law"] ++ [.free "len", .free "isinstance", .free "int", .free "str", .free "bool", .free "tuple", .free "list", .free "all", .free "range", .free "sorted", .free "set", .free "sum", .free "dict", .free "super"] ++ [.int "MOST_FACTS" 10, .int "MOST_DEEDS" 14, .int "MOST_PRICE" 9, .glo "BadTask", .glo "BadDeed", .glo "BadState", .exc "BadState", .exm "BadTask" "BadTask" true, .exm "BadDeed" "BadTask" false, .exm "BadDeed" "BadDeed" true, .exm "BadState" "BadTask" false, .exm "BadState" "BadDeed" false, .exm "BadState" "BadState" true, .noat "BadTask" "word", .noat "BadDeed" "index"]
def tfR : List He.Defn := [("law", none), ("_law_rows_right", none)]
def loose1 : List Str := ["PlanError", "BadTask", "BadState", "BadDeed", "MOST_FACTS", "MOST_DEEDS", "MOST_PRICE", "is_number", "is_name", "are_facts", "is_deed", "facts_in", "wrong_word", "is_task", "need_task", "facts", "need_state", "has", "can_do", "behind", "ways", "open_deeds", "deed_of", "done", "run_of", "run", "price_of", "price", "is_plan_of", "is_plan"]
def loose2 : List Str := ["_law_taken", "_law_pick", "_law_alike", "_law_some", "_law_task", "_law_facts", "_law_holds", "_law_go", "_law_met", "_law_left", "_law_table", "_law_best", "_law_without", "_law_walk", "_law_are_facts", "_law_is_part", "_law_is_deed", "_law_wrong", "_law_told", "_law_rows_right"]
/-! ### own exception classes with an __init__ that calls super -/
abbrev IniV : Type := Option (Str × Str × Arguments × FuncBody × Scope × Addr × List Str × Value × Addr)
def iniObs (K : PySem.W.Frag) (x : Str) : IniV := match K.lookup (He.fAd K (x, some "__init__")) with
  | some ⟨_, _, .func fd, _⟩ => some (fd.name, fd.qualname, fd.params, fd.body, fd.scope, fd.globals, fd.closure.map (·.1), fd.defaults, fd.builtins)
  | _ => none
def iniSt (i : Nat) : Stmt := match topS i with
  | .ClassDef _ _ _ (b :: _) _ _ _ _ _ _ _ => b
  | s => s
def iniVal (i : Nat) (q : Str) : IniV := some ("__init__", q, defArgs (iniSt i), .stmts (defBody (iniSt i)), defScope (iniSt i), mainGlobals, ["__class__"], .none, builtinsNs)
def excClsB (K : PySem.W.Frag) (C : Addr) : Bool := match K.lookup C with
  | some ⟨.type "type", _, .cls cd, sl⟩ => (match cd.mro, sl.toList with
    | .ref C' :: bm, [_, _, _, _, some (.builtin n), _] => C' == C && n == "ValueError.__new__" && !cd.hasDel && cd.hasDict && PySem.HandSPX.refsVE bm
    | _, _ => false)
  | _ => false
/-- the class x with its __init__ -/
def supB (P : Program) (K : PySem.W.Frag) (x : Str) (q : Str) : Bool :=
  excClsB K (He.ga K x) && He.eqO (PySem.W.findIn K (.ref (He.ga K x)) "__setattr__") (some (some (.builtin "object.__setattr__"))) && decide (PySem.W.subIn K (.ref (He.ga K x)) (.type "BaseException") = some true) && decide (PySem.W.typeIn K (.ref (He.ga K x)) = some (.type "type")) && PySem.W.keepIn K (.ref (He.ga K x)) &&
  He.eqO (PySem.W.findIn K (.ref (He.ga K x)) "__init__") (some (some (.ref (He.ma K (He.ga K x) "__init__")))) && decide (PySem.W.typeIn K (.ref (He.ma K (He.ga K x) "__init__")) = some (.type "function")) &&
  decide (PySem.W.mroIn K (He.ga K x) (.ref (He.ga K x)) = some true) && decide (PySem.W.nsIn K cStatics "thirdparty.any" = some none) && decide (PySem.W.ks_superIn K (He.ga K x) (He.ga K x) "__init__" = some (some (.builtin "ValueError.__init__"))) &&
  decide (PySem.W.subIn K (.ref (He.ga K x)) (.type "ValueError") = some true) && !(P.main.scope.names.lookup ("super" : Str)).isSome && xfB K (He.ga K x) &&
  (match K.lookup (He.ma K (He.ga K x) "__init__") with
    | some ⟨_, _, .func fd, _⟩ => (match fd.code with
      | .ref cda => PySem.W.codeIn K (.ref cda) q && (match K.lookup cda with
        | some ⟨_, _, .fields vs, _⟩ => (match (vs : Array Value)[2]? with
          | some (Value.str file _) => (P.main.file : Str) == file
          | _ => false)
        | _ => false)
      | _ => false) && (match fd.closure with
        | [(_, cc)] => (match K.lookup cc with
          | some ⟨_, _, .cell (some (.ref D)), _⟩ => D == He.ga K x
          | _ => false)
        | _ => false)
    | _ => false)
def PR : Program := PySem.Challenge.pw_wishroads_k00_whole_tasks
def exR (K : PySem.W.Frag) : Bool := supB PR K "BadTask" "BadTask.__init__" && supB PR K "BadDeed" "BadDeed.__init__" && !((He.cT K ("law", none)).2 == (He.cT K ("_law_rows_right", none)).2)
/-! ### the Hook -/
def asR (g : Addr → Option Obj) (n : Nat) : List Addr := He.asD g n ++ [cStatics]
abbrev AlR : Type := He.AlX × IniV × IniV
section
variable (n : Nat) (fa : List He.Fa) (fn : List He.DefD) (tf : List He.Defn) (ex : PySem.W.Frag → Bool) (v1 v2 : IniV)
def obsK (g : Addr → Option Obj) (K : PySem.W.Frag) : AlR := ((He.obsT fa fn [] K, ex K && He.tabsB g tf K), iniObs K "BadTask", iniObs K "BadDeed")
def obsG (g : Addr → Option Obj) : AlR := obsK fa fn tf ex g (He.frT g (asR g n))
def valG (w : World) : AlR := (He.valX fn [] w, v1, v2)
structure SaysG (w : World) (h : Heap) (K : PySem.W.Frag) : Prop where
  x : He.SaysX fa fn [] tf ex w h K
  t : iniObs K "BadTask" = v1
  d : iniObs K "BadDeed" = v2
theorem says_of {w : World} {h : Heap} (e : obsG n fa fn tf ex h.get? = valG fn v1 v2 w) : SaysG fa fn tf ex v1 v2 w h (He.frT h.get? (asR h.get? n)) := by
  unfold obsG at e
  generalize hK : He.frT h.get? (asR h.get? n) = K at e ⊢
  have e1 : He.obsT fa fn [] K = He.valT fn [] w := congrArg (fun z : AlR => z.1.1) e
  have e2 : (ex K && He.tabsB h.get? tf K) = true := congrArg (fun z : AlR => z.1.2) e
  obtain ⟨h1, h2⟩ := He.ba e2
  have key : ∀ p ∈ tf, PySem.W.codeHdIn K (He.cT K p).1 (He.cT K p).2 = true ∧ ∃ o, h.get? (He.cT K p).2 = some o ∧ He.emptyTab o = true := fun p hp => by
    obtain ⟨h3, h4⟩ := He.ba (List.all_eq_true.mp h2 p hp)
    refine ⟨h3, ?_⟩
    cases q : h.get? (He.cT K p).2 with
    | none => rw [q] at h4; cases h4
    | some o => rw [q] at h4; exact ⟨o, rfl, h4⟩
  exact ⟨⟨e1, h1, fun p hp => (key p hp).1, fun p hp => by
    obtain ⟨_, o, q, z⟩ := key p hp
    rw [← hK]
    rw [← hK] at q
    exact He.frT_none q z, fun p hp => by
    obtain ⟨_, o, q, z⟩ := key p hp
    rw [q, He.emptyTab_eq z]⟩, congrArg (fun z : AlR => z.2.1) e, congrArg (fun z : AlR => z.2.2) e⟩
def hookG : PySem.W.Hook where
  α := AlR
  obs := fun s => obsG n fa fn tf ex s.heap.get?
  val := fun w => valG fn v1 v2 w
  says := fun w h => ∃ K : PySem.W.Frag, K.In h ∧ SaysG fa fn tf ex v1 v2 w h K
  of := fun _ _ e => ⟨_, He.frT_in, says_of n fa fn tf ex v1 v2 e⟩
  keeps := fun _ _ _ ⟨K, hK, c⟩ k => ⟨K, PySem.W.Frag.In.keeps hK k, ⟨c.x.t, c.x.more, c.x.hd, c.x.out, fun p hp => k _ _ (c.x.empty p hp)⟩, c.t, c.d⟩
theorem obsG_eq {g : Addr → Option Obj} {s : Shared} (h : ∀ a, g a = s.heap.get? a) : obsG n fa fn tf ex g = (hookG n fa fn tf ex v1 v2).obs s := by
  have e : g = s.heap.get? := funext h
  rw [e] <;> rfl
end
abbrev hookR : PySem.W.Hook := hookG 6 faR fnR tfR exR (iniVal 2 "BadTask.__init__") (iniVal 4 "BadDeed.__init__")
abbrev rowR : PySem.W.OpenRow := PySem.W.OpenLaw.row PySem.Challenge.rw_wishroads_k00_whole_tasks
def obR (s : PySem.W.SharedT) : AlR := obsG 6 faR fnR tfR exR (HandSHeadRun.getT s)
theorem obR_eq (s : PySem.W.SharedT) : obR s = hookR.obs s.abs := obsG_eq 6 faR fnR tfR exR _ _ (HandSHeadRun.getT_eq s)
end WR
end
section
set_option Elab.async false
set_option linter.all false
set_option maxRecDepth 100000
set_option maxHeartbeats 0
namespace WR
open PySem PySem.Spec PyProof.Rows L2
theorem runR (w : World) : HandSHeadRun.RunEq rowR (PySem.W.view rowR.prog [53]) hookR obR 4000 (loose1 ++ loose2) w := by
  intro os
  kernel_rfl
end WR
end
section
set_option Elab.async false
set_option linter.all false
set_option maxRecDepth 100000
set_option maxHeartbeats 4000000
namespace WR
open PySem PySem.Spec PySem.Calls PyProof.Rows L2
theorem oex_of {K : PySem.W.Frag} {C : Addr} (h : excClsB K C = true) (sa : PySem.W.findIn K (.ref C) "__setattr__" = some (some (.builtin "object.__setattr__"))) (ex : PySem.W.subIn K (.ref C) (.type "BaseException") = some true) (ty : PySem.W.typeIn K (.ref C) = some (.type "type")) (kp : PySem.W.keepIn K (.ref C) = true) : OexC K C := by
  refine ⟨?_, sa, ex, ty, kp⟩
  unfold excClsB at h
  split at h
  · rename_i dd cd sl ho
    split at h
    · rename_i C' bm k0 k1 k2 k3 n k5 hm hs
      simp only [Bool.and_eq_true, beq_iff_eq, Bool.not_eq_true'] at h
      obtain ⟨⟨⟨⟨rfl, rfl⟩, hdel⟩, hdct⟩, hbm⟩ := h
      have e : sl = #[k0, k1, k2, k3, some (.builtin "ValueError.__new__"), k5] := Array.ext' hs
      obtain ⟨nm, bs, mro, ns, qn, hd, sn, sub, ab, col, del⟩ := cd
      dsimp only at hm hdel hdct
      subst hm hdel hdct e
      exact ⟨nm, qn, ns, bs, bm, sn, sub, ab, col, dd, k0, k1, k2, k3, k5, ho, hbm⟩
    · cases h
  · cases h
theorem sup_of {K : PySem.W.Frag} {x q : Str} {i : Nat} (hs : supB PR K x q = true) (hi : iniObs K x = iniVal i q) :
    ∃ (cda cc : Addr) (oc : Value) (od an : Option Addr) (osl : Array (Option Value)) (kV doc pm ct : Value), SupK K PR (He.ga K x) (He.ma K (He.ga K x) "__init__") cda cc ∧ PySem.W.findIn K (.ref (He.ga K x)) "__init__" = some (some (.ref (He.ma K (He.ga K x) "__init__"))) ∧ PySem.W.typeIn K (.ref (He.ma K (He.ga K x) "__init__")) = some (.type "function") ∧
      K.lookup (He.ma K (He.ga K x) "__init__") = some ⟨oc, od, .func (PySem.W.ksFn "__init__" q (defArgs (iniSt i)) (defBody (iniSt i)) (defScope (iniSt i)) .none kV doc pm an (.ref cda) ct cc), osl⟩ ∧ PySem.W.codeIn K (.ref cda) q = true ∧ XfC K (He.ga K x) := by
  unfold supB at hs
  have hf : He.fAd K (x, some "__init__") = He.ma K (He.ga K x) "__init__" := rfl
  unfold iniObs at hi
  rw [hf] at hi
  generalize He.ma K (He.ga K x) "__init__" = F at hs hi ⊢
  generalize He.ga K x = C at hs ⊢
  obtain ⟨hs, h14⟩ := He.ba hs
  obtain ⟨hs, h13⟩ := He.ba hs
  obtain ⟨hs, h12⟩ := He.ba hs
  obtain ⟨hs, h11⟩ := He.ba hs
  obtain ⟨hs, h10⟩ := He.ba hs
  obtain ⟨hs, h9⟩ := He.ba hs
  obtain ⟨hs, h8⟩ := He.ba hs
  obtain ⟨hs, h7⟩ := He.ba hs
  obtain ⟨hs, h6⟩ := He.ba hs
  obtain ⟨hs, h5⟩ := He.ba hs
  obtain ⟨hs, h4⟩ := He.ba hs
  obtain ⟨hs, h3⟩ := He.ba hs
  obtain ⟨h1, h2⟩ := He.ba hs
  have oex := oex_of h1 (He.eqO_ok h2) (of_decide_eq_true h3) (of_decide_eq_true h4) h5
  split at h14
  · rename_i oc od fd osl ho
    rw [ho] at hi
    have hi : some (fd.name, fd.qualname, fd.params, fd.body, fd.scope, fd.globals, fd.closure.map (·.1), fd.defaults, fd.builtins) = iniVal i q := hi
    unfold iniVal at hi
    obtain ⟨ha, hb⟩ := He.ba h14
    obtain ⟨nm, qn, pr, bd, sc, gl, cl, df, kd, dc, pm, an, cdv, ct, bi⟩ := fd
    dsimp only at hi ha hb
    have hi := Option.some.inj hi
    simp only [Prod.mk.injEq] at hi
    obtain ⟨rfl, rfl, rfl, rfl, rfl, rfl, hcl, rfl, rfl⟩ := hi
    split at ha
    · rename_i cda
      obtain ⟨hcd, ha⟩ := He.ba ha
      split at ha
      · rename_i cl2 d2 vs sl2 hl2
        split at ha
        · rename_i file tf hv
          split at hb
          · rename_i nm2 cc hq
            have hnm : nm2 = ("__class__" : Str) := by
              have := hcl
              simp only [List.map_cons, List.map_nil, List.cons.injEq, and_true] at this
              exact this
            subst hnm
            split at hb
            · rename_i cl3 d3 D sl3 hl3
              have hD : D = C := beq_iff_eq.mp hb
              subst hD
              have h12 : (PR.main.scope.names.lookup ("super" : Str)).isSome = false := by
                cases e : (PR.main.scope.names.lookup ("super" : Str)).isSome with
                | false => rfl
                | true => rw [e] at h12; cases h12
              exact ⟨cda, cc, oc, od, an, osl, kd, dc, pm, ct, ⟨oex, ⟨_, _, vs, _, file, tf, hl2, hv, ha⟩, ⟨_, _, _, hl3⟩, of_decide_eq_true h8, of_decide_eq_true h9, of_decide_eq_true h10, of_decide_eq_true h11, h12⟩, He.eqO_ok h6, of_decide_eq_true h7, ho, hcd, xfB_ok h13⟩
            · cases hb
          · cases hb
        · cases ha
      · cases ha
    · cases ha
  · cases h14
end WR
end
section
set_option Elab.async false
set_option linter.all false
set_option maxRecDepth 100000
set_option maxHeartbeats 4000000
namespace WR
open PySem PySem.Spec PyProof.Rows L2
abbrev SG (w : World) (h : Heap) (K : PySem.W.Frag) : Prop := SaysG faR fnR tfR exR (iniVal 2 "BadTask.__init__") (iniVal 4 "BadDeed.__init__") w h K
abbrev clR (K : PySem.W.Frag) : Clss := ⟨He.ga K "BadTask", He.ga K "BadDeed", He.ga K "BadState"⟩
theorem lookup_mem {α : Type} : ∀ {l : List (Str × α)} {y : Str} {k : α}, l.lookup y = some k → (y, k) ∈ l
  | [], _, _, h => by cases h
  | (a, b) :: r, y, k, h => by
    rw [List.lookup_cons] at h
    split at h
    · rename_i e
      have e := eq_of_beq e
      cases h
      rw [e]
      exact List.mem_cons_self ..
    · exact List.mem_cons_of_mem _ (lookup_mem h)
theorem free_only {sc : Scope} (h : ∀ e ∈ sc.names, (e.2 = .cell ∨ e.2 = .free) → e.1 = ("__class__" : Str)) : ∀ y, (sc.names.lookup y = some .cell ∨ sc.names.lookup y = some .free) → y = ("__class__" : Str) := fun y z => by
  rcases z with z | z
  · exact h _ (lookup_mem z) (.inl rfl)
  · exact h _ (lookup_mem z) (.inr rfl)
section
variable {w : World} {K : PySem.W.Frag} {h : Heap} {mg : Str → Option Value} {base : Heap}
theorem cls_ok (X : K.In h) (G : h.Ns mainGlobals mg) (c : SG w h K) (hm : mg "super" = none) : ClsOk PR w K mg base (clR K) := by
  have d : He.SaysD faR fnR K := c.x.t.d
  have hex : exR K = true := c.x.more
  unfold exR at hex
  obtain ⟨hex, _⟩ := He.ba hex
  obtain ⟨s1, s2⟩ := He.ba hex
  have e1 := He.exc_ok (d.fact 58 (f := .exc "BadState") rfl)
  have n1 : PySem.W.findIn K (.ref (He.ga K "BadTask")) "word" = some none := He.noat_ok (d.fact 65 (f := .noat "BadTask" "word") rfl)
  have n2 : PySem.W.findIn K (.ref (He.ga K "BadDeed")) "index" = some none := He.noat_ok (d.fact 66 (f := .noat "BadDeed" "index") rfl)
  obtain ⟨cda, cc, oc, od, an, osl, kV, doc, pm, ct, T, iC, tI, lk, hcd, xf⟩ := sup_of s1 c.t
  obtain ⟨cda2, cc2, oc2, od2, an2, osl2, kV2, doc2, pm2, ct2, T2, iC2, tI2, lk2, hcd2, xf2⟩ := sup_of s2 c.d
  refine ⟨He.glo_ok X G (d.fact 55 (f := .glo "BadTask") rfl), He.glo_ok X G (d.fact 56 (f := .glo "BadDeed") rfl), He.glo_ok X G (d.fact 57 (f := .glo "BadState") rfl), ?_, ?_, e1.1, e1.2.1, e1.2.2.1, e1.2.2.2,
    He.exm_ok (d.fact 59 (f := .exm "BadTask" "BadTask" true) rfl), He.exm_ok (d.fact 60 (f := .exm "BadDeed" "BadTask" false) rfl), He.exm_ok (d.fact 61 (f := .exm "BadDeed" "BadDeed" true) rfl), He.exm_ok (d.fact 62 (f := .exm "BadState" "BadTask" false) rfl), He.exm_ok (d.fact 63 (f := .exm "BadState" "BadDeed" false) rfl), He.exm_ok (d.fact 64 (f := .exm "BadState" "BadState" true) rfl), xf, xf2, n1, n2⟩
  · refine ⟨_, cda, cc, _, ["self", "word"], T, iC, tI, ok_sup (x0 := "self") (x1 := "word") T hm lk hcd rfl rfl (by decide) rfl rfl rfl rfl rfl rfl rfl (by decide +kernel) (free_only (by decide +kernel)) n1 (by decide) (by decide) (by decide) (by decide) (fun Y σ H y hsc hN hy ok => ?_) (fun env => rfl) (fun env => rfl) (fun env => ⟨_, rfl⟩), .all fun us hl => match us, hl with | [_, _], _ => rfl⟩
    obtain ⟨z, rfl, hz⟩ := ok
    exact ⟨_, g_catS (by have : ("no task: " : Str).length = 9 := by decide +kernel
                         omega) g_str (g_var 1 hy (.str z) (by rw [hN]; rfl) (Or.inl (by rw [hsc]; rfl)))⟩
  · exact ⟨_, cda2, cc2, _, ["self", "index"], T2, iC2, tI2, ok_sup (x0 := "self") (x1 := "index") T2 hm lk2 hcd2 rfl rfl (by decide) rfl rfl rfl rfl rfl rfl rfl (by decide +kernel) (free_only (by decide +kernel)) n2 (by decide) (by decide) (by decide) (by decide) (fun Y σ H y hsc hN hy ok => ⟨_, g_str⟩) (fun env => rfl) (fun env => rfl) (fun env => ⟨_, rfl⟩), .all fun us hl => match us, hl with | [_, _], _ => rfl⟩
end
end WR
end
section
set_option Elab.async false
set_option linter.all false
set_option maxRecDepth 100000
set_option maxHeartbeats 4000000
namespace WR
open PySem PySem.Spec PyProof.Rows L2
section
variable {w : World} {K : PySem.W.Frag} {h : Heap} {mg : Str → Option Value} {base : Heap}
theorem df_mk (X : K.In h) (G : h.Ns mainGlobals mg) (c : SG w h K) (j : Nat) {x : Str} {i : Nat} (h1 : fnR[j]? = some (dOf x i)) (h2 : faR[j]? = some (.glo x)) : ∃ fd, Fun K x x (topS i) (He.ga K x) fd ∧ mg x = some (.ref (He.ga K x)) := by
  have d : He.SaysD faR fnR K := c.x.t.d
  obtain ⟨fd, F⟩ := d.def_ j h1
  exact ⟨fd, He5.fun_of F, He.glo_ok X G (d.fact j h2)⟩
theorem df_of {x : Str} {i : Nat} (h : ∃ fd, Fun K x x (topS i) (He.ga K x) fd ∧ mg x = some (.ref (He.ga K x))) : Df K mg x i := by
  obtain ⟨fd, F, m⟩ := h
  exact ⟨_, fd, F, m⟩
theorem bt_of (X : K.In h) (G : h.Ns mainGlobals mg) (c : SG w h K) : Bt mg := by
  have d : He.SaysD faR fnR K := c.x.t.d
  exact ⟨He.free_ok X G (d.fact 38 (f := .free "len") rfl), He.free_ok X G (d.fact 39 (f := .free "isinstance") rfl), He.free_ok X G (d.fact 40 (f := .free "int") rfl), He.free_ok X G (d.fact 41 (f := .free "str") rfl), He.free_ok X G (d.fact 42 (f := .free "bool") rfl), He.free_ok X G (d.fact 43 (f := .free "tuple") rfl), He.free_ok X G (d.fact 44 (f := .free "list") rfl),
    He.free_ok X G (d.fact 45 (f := .free "all") rfl), He.free_ok X G (d.fact 46 (f := .free "range") rfl), He.free_ok X G (d.fact 47 (f := .free "sorted") rfl), He.free_ok X G (d.fact 48 (f := .free "set") rfl), He.free_ok X G (d.fact 49 (f := .free "sum") rfl), He.free_ok X G (d.fact 50 (f := .free "dict") rfl), He.free_ok X G (d.fact 51 (f := .free "super") rfl)⟩
theorem dfs_of (X : K.In h) (G : h.Ns mainGlobals mg) (c : SG w h K) : Dfs K mg := by
  have d : He.SaysD faR fnR K := c.x.t.d
  have m : ∀ (j : Nat) {x : Str} {i : Nat}, fnR[j]? = some (dOf x i) → faR[j]? = some (.glo x) → Df K mg x i := fun j _ _ h1 h2 => df_of (df_mk X G c j h1 h2)
  exact ⟨m 0 rfl rfl, m 1 rfl rfl, m 2 rfl rfl, m 3 rfl rfl, m 4 rfl rfl, m 5 rfl rfl, m 6 rfl rfl, m 10 rfl rfl, m 11 rfl rfl, m 12 rfl rfl, m 13 rfl rfl, m 15 rfl rfl, m 19 rfl rfl, m 7 rfl rfl, m 8 rfl rfl, m 9 rfl rfl, m 14 rfl rfl, m 16 rfl rfl, m 17 rfl rfl, m 18 rfl rfl, m 20 rfl rfl, m 21 rfl rfl, m 22 rfl rfl, m 23 rfl rfl, m 24 rfl rfl, m 26 rfl rfl, m 27 rfl rfl, m 28 rfl rfl, m 29 rfl rfl, m 30 rfl rfl, m 31 rfl rfl, m 32 rfl rfl, m 33 rfl rfl, m 34 rfl rfl,
    m 25 rfl rfl, He.int_ok X G (d.fact 54 (f := .int "MOST_PRICE" 9) rfl), He.int_ok X G (d.fact 52 (f := .int "MOST_FACTS" 10) rfl), He.int_ok X G (d.fact 53 (f := .int "MOST_DEEDS" 14) rfl)⟩
/-- the two tables -/
abbrev TR (K : PySem.W.Frag) : List (Addr × Str) := [((He.cT K ("law", none)).2, ("law" : Str) ++ (".<locals>." : Str) ++ ("<lambda>" : Str)), ((He.cT K ("_law_rows_right", none)).2, ("_law_rows_right" : Str) ++ (".<locals>." : Str) ++ ("<lambda>" : Str))]
theorem tabs_ne (c : SG w h K) : (He.cT K ("law", none)).2 ≠ (He.cT K ("_law_rows_right", none)).2 := fun e => by
  have hex : exR K = true := c.x.more
  unfold exR at hex
  obtain ⟨_, k⟩ := He.ba hex
  rw [e] at k
  simp at k
theorem code_of {x : Str} {st : Stmt} {fd : FuncData} (F : Fun K x x st (He.ga K x) fd) : fd.code = .ref (He.cT K (x, none)).1 := by
  obtain ⟨oc, od, kV, doc, pm, an, cdv, ct, osl, rfl, lk, hcd⟩ := F.ex
  obtain ⟨cd, rfl⟩ := He.codeIn_ref hcd
  have e : He.codeOf K (x, none) = cd := He.codeOf_eq (p := (x, none)) lk rfl
  show Value.ref cd = .ref (He.codeOf K (x, none))
  rw [e]
end
end WR
end
section
set_option Elab.async false
set_option linter.all false
set_option maxRecDepth 100000
set_option maxHeartbeats 4000000
namespace WR
open PySem PySem.Spec PyProof.Rows L2
section
variable {w : World} {K : PySem.W.Frag} {h : Heap} {mg : Str → Option Value} {fa : Addr}
theorem law_at (X : K.In h) (G : h.Ns mainGlobals mg) (c : SG w h K) (hfa : mg ("law" : Str) = some (.ref fa)) : LamX.LawAtS PySem.Challenge.rw_wishroads_k00_whole_tasks w K CX0 10 63 "_law_script" mg fa h := by
  have B := bt_of X G c
  have S := dfs_of X G c
  obtain ⟨fdL, FL, mL⟩ := df_mk X G c 37 (x := "law") (i := 53) rfl rfl
  obtain ⟨fdR, FR, mR⟩ := df_mk X G c 36 (x := "_law_rows_right") (i := 52) rfl rfl
  obtain ⟨fdT, FT, mT⟩ := df_mk X G c 35 (x := "_law_told") (i := 51) rfl rfl
  have e := hfa.symm.trans mL
  cases e
  have hT1 : He.cT K (("law" : Str), none) ∈ tfR.map (He.cT K) := List.mem_cons_self ..
  have hT2 : He.cT K (("_law_rows_right" : Str), none) ∈ tfR.map (He.cT K) := List.mem_cons_of_mem _ (List.mem_cons_self ..)
  refine ⟨fdL, tfR.map (He.cT K), LawSp K (TR K), fun p hp => ?_, fun p hp => ?_, fun p hp => ?_, ?_, fun H a ns hl hb ht hS => ?_, fun base KB GB TB => ?_⟩
  · obtain ⟨q, hq, rfl⟩ := List.mem_map.mp hp
    exact c.x.empty q hq
  · obtain ⟨q, hq, rfl⟩ := List.mem_map.mp hp
    exact c.x.out q hq
  · obtain ⟨q, hq, rfl⟩ := List.mem_map.mp hp
    exact PySem.W.codeHd_of_K X (c.x.hd q hq)
  · intro s u
    obtain ⟨oc, od, kV, doc, pm, an, cdv, ct, osl, ef, lk, hcd⟩ := FL.ex
    rw [ef]
    exact .of_eq rfl
  · refine ⟨a, ns, rfl, hl, hS, fun p hp => ?_, fun _ => rfl⟩
    simp only [List.mem_cons, List.not_mem_nil, or_false] at hp
    rcases hp with rfl | rfl
    · exact .nil (ht _ hT1)
    · exact .nil (ht _ hT2)
  · have C : ClsOk PR w K mg base (clR K) := cls_ok X G c B.super
    have L := law_fns B C S
    have T1 := TB _ hT1
    have T2 := TB _ hT2
    have ne := tabs_ne c
    have R : RowsFn PR w K mg base (TR K) := ⟨_, fdR, _, ok_rows B L FR fun cdv A outer s H0 E ec => ⟨B, C, ⟨_, fdT, FT, mT⟩, _, _, T2, ec.trans (code_of FR), List.mem_cons_of_mem _ (List.mem_cons_self ..), fun p hp hpe => ?_⟩, mR, FR.kp, FR.binds fun _ _ _ _ _ _ us hl => match us, hl with | [_, _, _], _ => rfl⟩
    · refine ok_law B L R FL fun cdv A outer s H0 E ec => ⟨B, C, ⟨_, fdT, FT, mT⟩, _, _, T1, ec.trans (code_of FL), List.mem_cons_self .., fun p hp hpe => ?_⟩
      simp only [List.mem_cons, List.not_mem_nil, or_false] at hp
      rcases hp with rfl | rfl
      · rfl
      · exact absurd hpe.symm ne
    · simp only [List.mem_cons, List.not_mem_nil, or_false] at hp
      rcases hp with rfl | rfl
      · exact absurd hpe ne
      · rfl
end
end WR
end
section
set_option Elab.async false
set_option linter.all false
set_option maxRecDepth 100000
set_option maxHeartbeats 0
open PySem PySem.W PySem.Calls PyProof.Rows
theorem PySem.Challenge.cw_wishroads_k00_whole_tasks_holds : PySem.Challenge.rw_wishroads_k00_whole_tasks.Holds := by
  w_on; o_law
  refine HandSHeadRun.head_any (r := WR.rowR) (q := view WR.rowR.prog [53]) (H := WR.hookR) (ob := WR.obR) (M := 4000) (loose := WR.loose1 ++ WR.loose2) (d := HandSHeadRun.topDef WR.rowR.prog 53) (kwd := []) WR.obR_eq
    (by kernel_rfl) (fun s => by kernel_rfl) WR.runR (by kernel_rfl) (by kernel_rfl) (by kernel_rfl) (by rfl) (by first | assumption | decide +kernel) (by decide +kernel) ⟨rfl, rfl, rfl, rfl, rfl, by decide +kernel⟩ ?hw ?hc
  case hw => w_witness2
  case hc =>
    refine LamX.walk_ofTsE (l := PySem.Challenge.rw_wishroads_k00_whole_tasks) (n := 63) (k := 10) (x := "_law_script") (CX := fun _ => L2.CX0) rfl (by decide) (by kernel_rfl) ⟨rfl, by decide, by decide⟩ ?F (fun _ _ _ _ _ z => z)
    intro w mg fa h Y G hmg0
    obtain ⟨K, KX, c⟩ := Y
    have hmg : mg ("law" : PySem.Str) = some (.ref fa) := by
      have e : (HandSHeadRun.topDef WR.rowR.prog 53).name = ("law" : PySem.Str) := by kernel_rfl
      rw [← e]
      exact hmg0
    exact ⟨K, KX, WR.law_at KX G c hmg⟩
end
